import PyProof.Rows.All
import Wide.All
import OpenK.AllK
import Wide.FinOn
import HandS.ForMost
import HandS.IsInst
import HandS.Defaults
import HandS.More
import KE.DataFind
import PySem.Challenge.RW_fairbourse_k24_book_whole_model
/-! The book of Fairbourse against the law's own list of orders: first the mathematics of both (plain Lean), then each def of the program and of the law by a promise over the abstract heap, last all of them together. -/
set_option Elab.async false
set_option linter.all false
set_option maxRecDepth 100000
set_option maxHeartbeats 4000000
/-! The mathematics of the book and of the law's own list of orders, in plain Lean. -/
namespace Fb
open PySem

structure Ord where
  num : Int
  house : Str
  buy : Bool
  price : Int
  left : Int
  vis : Int
  shown : Int

structure Fill where
  num : Int
  house : Str
  price : Int
  qty : Int

def better (b : Bool) (p q : Int) : Bool := if b then decide (q < p) else decide (p < q)
def acc (b : Bool) (lim : Option Int) (p : Int) : Bool := match lim with
  | none => true
  | some l => if b then decide (p ≤ l) else decide (l ≤ p)
def nextVis (left shown : Int) : Int := if 0 < shown then (if left < shown then left else shown) else left
/-- min(i, j) as Python reckons it -/
def mn (i j : Int) : Int := if j < i then j else i

def ins (o : Ord) : List Ord → List Ord
  | [] => [o]
  | q :: l => if better o.buy o.price q.price then o :: q :: l else q :: ins o l
/-- the place of ins -/
def place (b : Bool) (p : Int) : List Ord → Nat
  | [] => 0
  | q :: l => if better b p q.price then 0 else place b p l + 1

def Ord.take (q : Ord) (t : Int) : Ord := { q with left := q.left - t, vis := q.vis - t }
def refill (q : Ord) : Ord := { q with vis := nextVis q.left q.shown }
def settle (q : Ord) (rest : List Ord) : List Ord :=
  if q.left = 0 then rest else if q.vis = 0 then ins (refill q) rest else q :: rest

structure MS where
  left : Int
  rs : List Ord
  fills : List Fill
  rem : List Int

def mfill (s : MS) (q : Ord) : Fill := ⟨q.num, q.house, q.price, mn s.left q.vis⟩
def mstep (h : Str) (b : Bool) (lim : Option Int) (s : MS) : Option MS :=
  if s.left ≤ 0 then none else match s.rs with
  | [] => none
  | q :: rest => if acc b lim q.price = true then
      (if q.house = h then some ⟨s.left, rest, s.fills, s.rem ++ [q.num]⟩
       else some ⟨s.left - mn s.left q.vis, settle (q.take (mn s.left q.vis)) rest, s.fills ++ [mfill s q], s.rem⟩)
    else none
def mloop (h : Str) (b : Bool) (lim : Option Int) : Nat → MS → MS
  | 0, s => s
  | n + 1, s => match mstep h b lim s with
    | none => s
    | some s' => mloop h b lim n s'

def delO (n : Int) (os : List Ord) : List Ord := os.filter fun o => decide (o.num ≠ n)
def upO (n l v : Int) (o : Ord) : Ord := if o.num = n then { o with left := l, vis := v } else o
def setO (n l v : Int) (os : List Ord) : List Ord := os.map (upO n l v)

def firstStep (side : Bool) (lim : Option Int) (best : Option Ord) (o : Ord) : Option Ord :=
  if o.buy = side ∧ acc (!side) lim o.price = true then
    match best with
    | none => some o
    | some q => if better side o.price q.price then some o else some q
  else best
def firstL (os : List Ord) (side : Bool) (lim : Option Int) : Option Ord := os.foldl (firstStep side lim) none

def tsettle (q : Ord) (os : List Ord) : List Ord :=
  if q.vis = 0 then (if 0 < q.left then delO q.num os ++ [refill q] else delO q.num os) else setO q.num q.left q.vis os
def tstep (h : Str) (b : Bool) (lim : Option Int) (s : MS) : Option MS :=
  if s.left = 0 then none else match firstL s.rs (!b) lim with
  | none => none
  | some q => if q.house = h then some ⟨s.left, delO q.num s.rs, s.fills, s.rem ++ [q.num]⟩
      else some ⟨s.left - mn s.left q.vis, tsettle (q.take (mn s.left q.vis)) s.rs, s.fills ++ [mfill s q], s.rem⟩
def tloop (h : Str) (b : Bool) (lim : Option Int) : Nat → MS → MS
  | 0, s => s
  | n + 1, s => match tstep h b lim s with
    | none => s
    | some s' => tloop h b lim n s'

/-- what may be traded with -/
def weigh (h : Str) (b : Bool) (lim : Option Int) (o : Ord) : Int := if o.house ≠ h ∧ acc b lim o.price = true then o.left else 0
def availB (h : Str) (b : Bool) (lim : Option Int) (rs : List Ord) : Int := (rs.map (weigh h b lim)).sum
def availL (h : Str) (b : Bool) (lim : Option Int) (os : List Ord) : Int := (os.map fun o => if o.buy = !b then weigh h b lim o else 0).sum

/-- the resting orders of a side: the law's orders, laid one by one at their places -/
def sortB (side : Bool) (os : List Ord) : List Ord := os.foldl (fun l o => if o.buy = side then ins o l else l) []

structure WF (o : Ord) : Prop where
  v1 : 1 ≤ o.vis
  vl : o.vis ≤ o.left
  sh : 0 ≤ o.shown

/-! ### better, acc -/
theorem better_trans {b : Bool} {p q r : Int} (h : better b p q = true) (h2 : better b r q = false) : better b p r = true := by
  unfold better at *
  cases b <;> simp at * <;> omega
theorem better_false_trans {b : Bool} {p q r : Int} (h : better b q p = false) (h2 : better b r q = false) : better b r p = false := by
  unfold better at *
  cases b <;> simp at * <;> omega
theorem better_irrefl (b : Bool) (p : Int) : better b p p = false := by
  unfold better
  cases b <;> simp
theorem better_asymm {b : Bool} {p q : Int} (h : better b p q = true) : better b q p = false := by
  unfold better at *
  cases b <;> simp at * <;> omega
/-- acceptance goes with the better price -/
theorem acc_better {b : Bool} {lim : Option Int} {p q : Int} (h : better b p q = true) (ha : acc (!b) lim q = true) : acc (!b) lim p = true := by
  unfold better acc at *
  cases lim with
  | none => rfl
  | some l => cases b <;> simp at * <;> omega
theorem better_of_acc {b : Bool} {lim : Option Int} {p q : Int} (hp : acc (!b) lim p = true) (hq : acc (!b) lim q = false) : better b p q = true := by
  unfold better acc at *
  cases lim with
  | none => simp at hq
  | some l => cases b <;> simp at * <;> omega

/-! ### ins -/
theorem mem_ins {o x : Ord} : ∀ {l : List Ord}, x ∈ ins o l ↔ x = o ∨ x ∈ l
  | [] => by simp [ins]
  | q :: l => by
    unfold ins
    split
    · simp
    · simp only [List.mem_cons, mem_ins (l := l)]
      constructor
      · rintro (h | h | h)
        · exact .inr (.inl h)
        · exact .inl h
        · exact .inr (.inr h)
      · rintro (h | h | h)
        · exact .inr (.inl h)
        · exact .inl h
        · exact .inr (.inr h)
theorem length_ins (o : Ord) : ∀ l : List Ord, (ins o l).length = l.length + 1
  | [] => rfl
  | q :: l => by
    unfold ins
    split
    · rfl
    · simp [length_ins o l]
theorem ins_place (o : Ord) : ∀ l : List Ord, ins o l = l.take (place o.buy o.price l) ++ [o] ++ l.drop (place o.buy o.price l)
  | [] => rfl
  | q :: l => by
    unfold ins place
    split
    · rfl
    · simp [ins_place o l]
theorem place_le (b : Bool) (p : Int) : ∀ l : List Ord, place b p l ≤ l.length
  | [] => Nat.le_refl _
  | q :: l => by
    unfold place
    split
    · exact Nat.zero_le _
    · simp [place_le b p l]
/-- ahead of the place nothing is worse -/
theorem place_lt {b : Bool} {p : Int} : ∀ {l : List Ord} {i : Nat} {q : Ord}, i < place b p l → l[i]? = some q → better b p q.price = false
  | [], i, q, h, e => by simp [place] at h
  | x :: l, i, q, h, e => by
    unfold place at h
    split at h
    · omega
    · rename_i hb
      cases i with
      | zero =>
        simp at e
        subst e
        simpa using hb
      | succ i => exact place_lt (l := l) (i := i) (by omega) (by simpa using e)
theorem place_at {b : Bool} {p : Int} : ∀ {l : List Ord} {q : Ord}, l[place b p l]? = some q → better b p q.price = true
  | [], q, e => by simp [place] at e
  | x :: l, q, e => by
    unfold place at e
    split at e
    · rename_i hb
      simp at e
      subst e
      exact hb
    · exact place_at (l := l) (by simpa using e)

/-- in priority: nobody behind is better; all of one side -/
def Sorted (b : Bool) (l : List Ord) : Prop := (∀ o ∈ l, o.buy = b) ∧ l.Pairwise fun x y => better b y.price x.price = false
theorem sorted_nil (b : Bool) : Sorted b [] := ⟨fun _ h => by simp at h, .nil⟩
theorem Sorted.tail {b : Bool} {q : Ord} {l : List Ord} (h : Sorted b (q :: l)) : Sorted b l := ⟨fun o ho => h.1 o (List.mem_cons_of_mem _ ho), (List.pairwise_cons.mp h.2).2⟩
theorem Sorted.head {b : Bool} {q : Ord} {l : List Ord} (h : Sorted b (q :: l)) : ∀ x ∈ l, better b x.price q.price = false := (List.pairwise_cons.mp h.2).1
theorem sorted_ins {b : Bool} {o : Ord} (ho : o.buy = b) : ∀ {l : List Ord}, Sorted b l → Sorted b (ins o l)
  | [], _ => ⟨fun x hx => by simp [ins] at hx; subst hx; exact ho, by simp [ins]⟩
  | q :: l, h => by
    refine ⟨fun x hx => ?_, ?_⟩
    · rcases mem_ins.mp hx with e | hx
      · rw [e]; exact ho
      · exact h.1 x hx
    · unfold ins
      rw [ho]
      split
      · rename_i hb
        refine List.pairwise_cons.mpr ⟨fun x hx => ?_, h.2⟩
        rcases List.mem_cons.mp hx with e | hx
        · rw [e]; exact better_asymm hb
        · exact better_asymm (better_trans hb (h.head x hx))
      · rename_i hb
        have hb' : better b o.price q.price = false := by simpa using hb
        refine List.pairwise_cons.mpr ⟨fun x hx => ?_, (sorted_ins ho h.tail).2⟩
        rcases mem_ins.mp hx with e | hx
        · rw [e]; exact hb'
        · exact h.head x hx
theorem Sorted.filter {b : Bool} {l : List Ord} (h : Sorted b l) (f : Ord → Bool) : Sorted b (l.filter f) :=
  ⟨fun o ho => h.1 o (List.mem_filter.mp ho).1, h.2.filter f⟩
theorem ins_front {b : Bool} {o : Ord} (ho : o.buy = b) : ∀ {l : List Ord}, (∀ x ∈ l, better b o.price x.price = true) → ins o l = o :: l
  | [], _ => rfl
  | q :: l, h => by
    unfold ins
    rw [ho, if_pos (h q (List.mem_cons_self))]
theorem filter_ins {b : Bool} {o : Ord} (ho : o.buy = b) (f : Ord → Bool) : ∀ {l : List Ord}, Sorted b l → (ins o l).filter f = if f o then ins o (l.filter f) else l.filter f
  | [], _ => by
    by_cases hf : f o = true
    · simp [ins, hf]
    · simp [ins, hf]
  | q :: l, h => by
    by_cases hb : better b o.price q.price = true
    · have e : ins o (q :: l) = o :: q :: l := by unfold ins; rw [ho, if_pos hb]
      rw [e]
      by_cases hf : f o = true
      · rw [List.filter_cons_of_pos hf, if_pos hf, ins_front ho]
        intro x hx
        rcases List.mem_cons.mp (List.mem_filter.mp hx).1 with e | hx
        · rw [e]; exact hb
        · exact better_trans hb (h.head x hx)
      · rw [List.filter_cons_of_neg hf, if_neg hf]
    · have e : ins o (q :: l) = q :: ins o l := by
        show (if better o.buy o.price q.price = true then _ else _) = _
        rw [ho, if_neg hb]
      rw [e]
      have ih := filter_ins ho f h.tail
      by_cases hq : f q = true
      · rw [List.filter_cons_of_pos hq, List.filter_cons_of_pos hq, ih]
        split
        · show _ = (if better o.buy o.price q.price = true then _ else _)
          rw [ho, if_neg hb]
        · rfl
      · rw [List.filter_cons_of_neg hq, List.filter_cons_of_neg hq, ih]
theorem map_ins {o : Ord} {g : Ord → Ord} (hb : ∀ x, (g x).buy = x.buy) (hp : ∀ x, (g x).price = x.price) : ∀ l : List Ord, (ins o l).map g = ins (g o) (l.map g)
  | [] => rfl
  | q :: l => by
    rw [List.map_cons]
    unfold ins
    rw [hb, hp, hp]
    split
    · rfl
    · rw [List.map_cons, map_ins hb hp l]
theorem sum_ins {f : Ord → Int} (o : Ord) : ∀ l : List Ord, ((ins o l).map f).sum = f o + (l.map f).sum
  | [] => by simp [ins]
  | q :: l => by
    unfold ins
    split
    · simp
    · simp [sum_ins o l]; omega

/-! ### sortB -/
theorem sortB_append (side : Bool) (os : List Ord) (o : Ord) : sortB side (os ++ [o]) = if o.buy = side then ins o (sortB side os) else sortB side os := by
  unfold sortB
  rw [List.foldl_append]
  rfl
/-- induction from the end -/
theorem rev_ind {P : List Ord → Prop} (h0 : P []) (h1 : ∀ l o, P l → P (l ++ [o])) (l : List Ord) : P l := by
  have : ∀ r : List Ord, P r.reverse := by
    intro r
    induction r with
    | nil => exact h0
    | cons a r ih => rw [List.reverse_cons]; exact h1 _ _ ih
  have := this l.reverse
  rwa [List.reverse_reverse] at this
theorem sorted_sortB (side : Bool) (os : List Ord) : Sorted side (sortB side os) := by
  refine rev_ind (P := fun os => Sorted side (sortB side os)) (sorted_nil side) (fun l o ih => ?_) os
  rw [sortB_append]
  split
  · rename_i h
    exact sorted_ins h ih
  · exact ih
theorem mem_sortB {side : Bool} {x : Ord} (os : List Ord) : x ∈ sortB side os ↔ x ∈ os ∧ x.buy = side := by
  refine rev_ind (P := fun os => x ∈ sortB side os ↔ x ∈ os ∧ x.buy = side) (by simp [sortB]) (fun l o ih => ?_) os
  rw [sortB_append]
  by_cases h : o.buy = side
  · rw [if_pos h, mem_ins, ih, List.mem_append]
    constructor
    · rintro (e | ⟨a, b⟩)
      · rw [e]; exact ⟨.inr (by simp), h⟩
      · exact ⟨.inl a, b⟩
    · rintro ⟨a | a, b⟩
      · exact .inr ⟨a, b⟩
      · exact .inl (by simpa using a)
  · rw [if_neg h, ih, List.mem_append]
    constructor
    · rintro ⟨a, b⟩; exact ⟨.inl a, b⟩
    · rintro ⟨a | a, b⟩
      · exact ⟨a, b⟩
      · have e : x = o := by simpa using a
        rw [e] at b; exact absurd b h
theorem sortB_filter (side : Bool) (f : Ord → Bool) (os : List Ord) : sortB side (os.filter f) = (sortB side os).filter f := by
  refine rev_ind (P := fun os => sortB side (os.filter f) = (sortB side os).filter f) rfl (fun l o ih => ?_) os
  rw [List.filter_append, sortB_append]
  by_cases h : o.buy = side
  · rw [if_pos h, filter_ins h f (sorted_sortB side l), ← ih]
    by_cases hf : f o = true
    · rw [if_pos hf, List.filter_cons_of_pos hf, List.filter_nil, sortB_append, if_pos h]
    · rw [if_neg hf, List.filter_cons_of_neg hf, List.filter_nil, List.append_nil]
  · rw [if_neg h, ← ih]
    by_cases hf : f o = true
    · rw [List.filter_cons_of_pos hf, List.filter_nil, sortB_append, if_neg h]
    · rw [List.filter_cons_of_neg hf, List.filter_nil, List.append_nil]
theorem sortB_map (side : Bool) {g : Ord → Ord} (hb : ∀ x, (g x).buy = x.buy) (hp : ∀ x, (g x).price = x.price) (os : List Ord) : sortB side (os.map g) = (sortB side os).map g := by
  refine rev_ind (P := fun os => sortB side (os.map g) = (sortB side os).map g) rfl (fun l o ih => ?_) os
  rw [List.map_append, List.map_cons, List.map_nil, sortB_append, sortB_append, hb, ih]
  split
  · rw [map_ins hb hp]
  · rfl
theorem sum_sortB (side : Bool) (f : Ord → Int) (os : List Ord) : ((sortB side os).map f).sum = (os.map fun o => if o.buy = side then f o else 0).sum := by
  refine rev_ind (P := fun os => ((sortB side os).map f).sum = (os.map fun o => if o.buy = side then f o else 0).sum) rfl (fun l o ih => ?_) os
  rw [sortB_append, List.map_append, List.sum_append, ← ih]
  split
  · rename_i h
    rw [sum_ins]
    simp [h]
    omega
  · rename_i h
    simp [h]
theorem avail_eq (h : Str) (b : Bool) (lim : Option Int) (os : List Ord) : availB h b lim (sortB (!b) os) = availL h b lim os := sum_sortB (!b) (weigh h b lim) os
theorem length_sortB (side : Bool) (os : List Ord) : (sortB side os).length = (os.filter fun o => decide (o.buy = side)).length := by
  refine rev_ind (P := fun os => (sortB side os).length = (os.filter fun o => decide (o.buy = side)).length) rfl (fun l o ih => ?_) os
  rw [sortB_append, List.filter_append, List.length_append, ← ih]
  by_cases h : o.buy = side
  · rw [if_pos h, length_ins, List.filter_cons_of_pos (by simpa using h)]
    rfl
  · rw [if_neg h, List.filter_cons_of_neg (by simpa using h)]
    rfl
theorem sortB_side (side : Bool) (os : List Ord) : sortB side (os.filter fun o => decide (o.buy = side)) = sortB side os := by
  rw [sortB_filter]
  refine List.filter_eq_self.mpr fun x hx => ?_
  exact decide_eq_true ((mem_sortB os).mp hx).2
/-! numbers: no two alike -/
def Nums (os : List Ord) : Prop := (os.map (·.num)).Nodup
theorem Nums.inj {os : List Ord} (h : Nums os) {x y : Ord} (hx : x ∈ os) (hy : y ∈ os) (e : x.num = y.num) : x = y := by
  unfold Nums at h
  rw [List.Nodup, List.pairwise_map] at h
  by_cases q : x = y
  · exact q
  · have key : ∀ {l : List Ord}, l.Pairwise (fun a b => a.num ≠ b.num) → x ∈ l → y ∈ l → x = y := by
      intro l
      induction l with
      | nil => intro _ hx; simp at hx
      | cons a l ih =>
        intro hp hx hy
        obtain ⟨h1, h2⟩ := List.pairwise_cons.mp hp
        rcases List.mem_cons.mp hx with e1 | hx
        · rcases List.mem_cons.mp hy with e2 | hy
          · rw [e1, e2]
          · exact absurd (by rw [← e1]; exact e) (h1 y hy)
        · rcases List.mem_cons.mp hy with e2 | hy
          · exact absurd (by rw [← e2]; exact e.symm) (h1 x hx)
          · exact ih h2 hx hy
    exact key h hx hy
theorem perm_ins (o : Ord) : ∀ l : List Ord, (ins o l).Perm (o :: l)
  | [] => .refl _
  | q :: l => by
    unfold ins
    split
    · exact .refl _
    · exact ((perm_ins o l).cons q).trans (List.Perm.swap o q l)
theorem perm_sortB (side : Bool) (os : List Ord) : (sortB side os).Perm (os.filter fun o => decide (o.buy = side)) := by
  refine rev_ind (P := fun os => (sortB side os).Perm (os.filter fun o => decide (o.buy = side))) (.refl _) (fun l o ih => ?_) os
  rw [sortB_append, List.filter_append]
  by_cases h : o.buy = side
  · rw [if_pos h, List.filter_cons_of_pos (by simpa using h), List.filter_nil]
    exact (perm_ins o _).trans ((ih.cons o).trans (List.perm_append_singleton o _).symm)
  · rw [if_neg h, List.filter_cons_of_neg (by simpa using h), List.filter_nil, List.append_nil]
    exact ih
theorem Nums.filter {os : List Ord} (h : Nums os) (f : Ord → Bool) : Nums (os.filter f) := by
  unfold Nums at *
  rw [List.Nodup, List.pairwise_map] at *
  exact h.filter f
theorem Nums.sortB {os : List Ord} (h : Nums os) (side : Bool) : Nums (sortB side os) := by
  have p := (perm_sortB side os).map (·.num)
  exact p.nodup_iff.mpr (h.filter _)
/-! ### the first one -/
theorem firstL_append (os : List Ord) (o : Ord) (side : Bool) (lim : Option Int) : firstL (os ++ [o]) side lim = firstStep side lim (firstL os side lim) o := by
  unfold firstL
  rw [List.foldl_append]
  rfl
def headFit (side : Bool) (lim : Option Int) : List Ord → Option Ord
  | [] => none
  | q :: _ => if acc (!side) lim q.price = true then some q else none
theorem firstL_eq (os : List Ord) (side : Bool) (lim : Option Int) : firstL os side lim = headFit side lim (sortB side os) := by
  refine rev_ind (P := fun os => firstL os side lim = headFit side lim (sortB side os)) rfl (fun l o ih => ?_) os
  rw [firstL_append, sortB_append, ih]
  unfold firstStep
  by_cases hs : o.buy = side
  · rw [if_pos hs]
    cases hq : sortB side l with
    | nil =>
      by_cases ha : acc (!side) lim o.price = true
      · rw [if_pos ⟨hs, ha⟩]
        simp [headFit, ins, ha]
      · rw [if_neg (fun z => ha z.2)]
        simp [headFit, ins, ha]
    | cons q r =>
      by_cases hb : better side o.price q.price = true
      · have e : ins o (q :: r) = o :: q :: r := by unfold ins; rw [hs, if_pos hb]
        rw [e]
        by_cases ha : acc (!side) lim o.price = true
        · rw [if_pos ⟨hs, ha⟩]
          by_cases hqa : acc (!side) lim q.price = true
          · simp [headFit, hqa, ha, hb]
          · simp [headFit, hqa, ha]
        · rw [if_neg (fun z => ha z.2)]
          have hqa : ¬ acc (!side) lim q.price = true := fun z => ha (acc_better hb z)
          simp [headFit, hqa, ha]
      · have e : ins o (q :: r) = q :: ins o r := by
          show (if better o.buy o.price q.price = true then _ else _) = _
          rw [hs, if_neg hb]
        rw [e]
        by_cases hqa : acc (!side) lim q.price = true
        · by_cases ha : acc (!side) lim o.price = true
          · rw [if_pos ⟨hs, ha⟩]
            simp [headFit, hqa, hb]
          · rw [if_neg (fun z => ha z.2)]
            simp [headFit, hqa]
        · have ha : ¬ acc (!side) lim o.price = true := fun z => hb (better_of_acc z (by simpa using hqa))
          rw [if_neg (fun z => ha z.2)]
          simp [headFit, hqa]
  · rw [if_neg hs, if_neg (fun z => hs z.1)]
end Fb

namespace Fb
open PySem
/-! ### one out, one changed -/
theorem upO_buy (n l v : Int) (x : Ord) : (upO n l v x).buy = x.buy := by unfold upO; split <;> rfl
theorem upO_price (n l v : Int) (x : Ord) : (upO n l v x).price = x.price := by unfold upO; split <;> rfl
theorem upO_num (n l v : Int) (x : Ord) : (upO n l v x).num = x.num := by unfold upO; split <;> rfl
theorem upO_ne {n l v : Int} {x : Ord} (h : x.num ≠ n) : upO n l v x = x := if_neg h
theorem upO_eq {l v : Int} {x : Ord} : upO x.num l v x = { x with left := l, vis := v } := if_pos rfl
theorem sortB_set (side : Bool) (n l v : Int) (os : List Ord) : sortB side (setO n l v os) = setO n l v (sortB side os) := sortB_map side (upO_buy n l v) (upO_price n l v) os
theorem sortB_del (side : Bool) (n : Int) (os : List Ord) : sortB side (delO n os) = delO n (sortB side os) := sortB_filter side _ os
theorem mem_del {n : Int} {os : List Ord} {x : Ord} : x ∈ delO n os ↔ x ∈ os ∧ x.num ≠ n := by
  unfold delO
  rw [List.mem_filter]
  simp
theorem del_none {n : Int} {os : List Ord} (h : ∀ x ∈ os, x.num ≠ n) : delO n os = os := List.filter_eq_self.mpr fun x hx => decide_eq_true (h x hx)
theorem set_none {n l v : Int} {os : List Ord} (h : ∀ x ∈ os, x.num ≠ n) : setO n l v os = os := by
  unfold setO
  have : os.map (upO n l v) = os.map id := List.map_congr_left fun x hx => upO_ne (h x hx)
  rw [this, List.map_id]
theorem Nums.tail {q : Ord} {r : List Ord} (h : Nums (q :: r)) : Nums r := (List.nodup_cons.mp h).2
theorem Nums.head {q : Ord} {r : List Ord} (h : Nums (q :: r)) : ∀ x ∈ r, x.num ≠ q.num := fun x hx e => (List.nodup_cons.mp h).1 (List.mem_map.mpr ⟨x, hx, e⟩)
theorem del_head {q : Ord} {r : List Ord} (h : Nums (q :: r)) : delO q.num (q :: r) = r := by
  have e : delO q.num (q :: r) = delO q.num r := List.filter_cons_of_neg (by simp)
  rw [e, del_none h.head]
theorem set_head {q : Ord} {r : List Ord} (h : Nums (q :: r)) (l v : Int) : setO q.num l v (q :: r) = { q with left := l, vis := v } :: r := by
  show upO q.num l v q :: setO q.num l v r = _
  rw [upO_eq, set_none h.head]
theorem nums_set {n l v : Int} {os : List Ord} (h : Nums os) : Nums (setO n l v os) := by
  unfold Nums setO at *
  rw [List.map_map]
  have e : ((fun x : Ord => x.num) ∘ upO n l v) = fun x : Ord => x.num := by funext x; exact upO_num n l v x
  rw [e]
  exact h
theorem nums_del {n : Int} {os : List Ord} (h : Nums os) : Nums (delO n os) := h.filter _
theorem nums_app {os : List Ord} {o : Ord} (h : Nums os) (hn : ∀ x ∈ os, x.num ≠ o.num) : Nums (os ++ [o]) := by
  unfold Nums at *
  rw [List.map_append, List.nodup_append]
  refine ⟨h, by simp, fun a ha b hb => ?_⟩
  obtain ⟨x, hx, e⟩ := List.mem_map.mp ha
  have e2 : b = o.num := by simpa using hb
  rw [← e, e2]
  exact hn x hx
structure Good (os : List Ord) : Prop where
  nums : Nums os
  wf : ∀ o ∈ os, WF o
theorem mn_le_left (i j : Int) : mn i j ≤ i := by unfold mn; split <;> omega
theorem mn_le_right (i j : Int) : mn i j ≤ j := by unfold mn; split <;> omega
theorem mn_pos {i j : Int} (hi : 0 < i) (hj : 0 < j) : 0 < mn i j := by unfold mn; split <;> omega
theorem nextVis_ok {l s : Int} (hl : 0 < l) (hs : 0 ≤ s) : 1 ≤ nextVis l s ∧ nextVis l s ≤ l := by unfold nextVis; split <;> (try split) <;> omega
theorem wf_refill {q : Ord} (hl : 0 < q.left) (hs : 0 ≤ q.shown) : WF (refill q) := ⟨(nextVis_ok hl hs).1, (nextVis_ok hl hs).2, hs⟩

structure Fits (os os' : List Ord) : Prop where
  good : Good os'
  len : os'.length ≤ os.length
  sub : ∀ x ∈ os', ∃ y ∈ os, y.num = x.num
  pr : ∀ x ∈ os', ∃ y ∈ os, y.price = x.price
theorem Fits.refl {os : List Ord} (h : Good os) : Fits os os := ⟨h, Nat.le_refl _, fun x hx => ⟨x, hx, rfl⟩, fun x hx => ⟨x, hx, rfl⟩⟩
theorem Fits.trans {a b c : List Ord} (h : Fits a b) (k : Fits b c) : Fits a c := ⟨k.good, Nat.le_trans k.len h.len, fun x hx => by
  obtain ⟨y, hy, e⟩ := k.sub x hx
  obtain ⟨z, hz, e2⟩ := h.sub y hy
  exact ⟨z, hz, e2.trans e⟩, fun x hx => by
  obtain ⟨y, hy, e⟩ := k.pr x hx
  obtain ⟨z, hz, e2⟩ := h.pr y hy
  exact ⟨z, hz, e2.trans e⟩⟩
theorem fits_del {os : List Ord} (h : Good os) (n : Int) : Fits os (delO n os) := ⟨⟨nums_del h.nums, fun o ho => h.wf o (mem_del.mp ho).1⟩, List.length_filter_le _ _, fun x hx => ⟨x, (mem_del.mp hx).1, rfl⟩, fun x hx => ⟨x, (mem_del.mp hx).1, rfl⟩⟩
theorem length_del {os : List Ord} {q : Ord} (hq : q ∈ os) : (delO q.num os).length < os.length := by
  unfold delO
  rw [List.length_filter_lt_length_iff_exists]
  exact ⟨q, hq, by simp⟩
theorem fits_set {os : List Ord} (h : Good os) {n l v : Int} (hv : ∀ o ∈ os, o.num = n → 1 ≤ v ∧ v ≤ l) : Fits os (setO n l v os) := by
  refine ⟨⟨nums_set h.nums, fun o ho => ?_⟩, by unfold setO; rw [List.length_map]; exact Nat.le_refl _, fun x hx => ?_, fun x hx => ?_⟩
  · obtain ⟨y, hy, e⟩ := List.mem_map.mp ho
    subst e
    by_cases q : y.num = n
    · obtain ⟨h1, h2⟩ := hv y hy q
      subst q
      rw [upO_eq]
      exact ⟨h1, h2, (h.wf y hy).sh⟩
    · rw [upO_ne q]
      exact h.wf y hy
  · obtain ⟨y, hy, e⟩ := List.mem_map.mp hx
    exact ⟨y, hy, by rw [← e, upO_num]⟩
  · obtain ⟨y, hy, e⟩ := List.mem_map.mp hx
    exact ⟨y, hy, by rw [← e, upO_price]⟩

/-! ### one step of both -/
def MS.book (b : Bool) (s : MS) : MS := { s with rs := sortB (!b) s.rs }
structure Next (b : Bool) (s s' : MS) : Prop where
  fits : Fits s.rs s'.rs
  nn : 0 ≤ s'.left
  le : s'.left ≤ s.left
  other : sortB b s'.rs = sortB b s.rs
theorem Next.refl {b : Bool} {s : MS} (h : Good s.rs) (n : 0 ≤ s.left) : Next b s s := ⟨.refl h, n, Int.le_refl _, rfl⟩
theorem Next.trans {b : Bool} {s t u : MS} (h : Next b s t) (k : Next b t u) : Next b s u := ⟨h.fits.trans k.fits, k.nn, Int.le_trans k.le h.le, k.other.trans h.other⟩
theorem not_ne (b : Bool) : ¬ (!b) = b := by cases b <;> simp
theorem other_ne {b : Bool} {os : List Ord} (hn : Nums os) {q : Ord} (hq : q ∈ os) (hb : q.buy = !b) : ∀ x ∈ sortB b os, x.num ≠ q.num := fun x hx e => by
  obtain ⟨h1, h2⟩ := (mem_sortB os).mp hx
  have := hn.inj h1 hq e
  subst this
  rw [h2] at hb
  exact not_ne b hb.symm
theorem step_sim (h : Str) (b : Bool) (lim : Option Int) (s : MS) (g : Good s.rs) (hl : 0 ≤ s.left) :
    (tstep h b lim s = none ∧ mstep h b lim (s.book b) = none) ∨ ∃ s', tstep h b lim s = some s' ∧ mstep h b lim (s.book b) = some (s'.book b) ∧ Next b s s' := by
  obtain ⟨left, os, fills, rem⟩ := s
  simp only at g hl
  unfold tstep mstep MS.book
  simp only
  by_cases h0 : left = 0
  · left
    rw [if_pos h0, if_pos (by omega)]
    exact ⟨rfl, rfl⟩
  rw [if_neg h0, if_neg (show ¬ left ≤ 0 by omega), firstL_eq]
  cases hs : sortB (!b) os with
  | nil =>
    left
    exact ⟨rfl, rfl⟩
  | cons q rest =>
    unfold headFit
    rw [Bool.not_not]
    dsimp only
    by_cases ha : acc b lim q.price = true
    · right
      rw [if_pos ha, if_pos ha]
      have hqm : q ∈ sortB (!b) os := by rw [hs]; exact List.mem_cons_self
      obtain ⟨hq, hqb⟩ := (mem_sortB os).mp hqm
      have hN : Nums (q :: rest) := by rw [← hs]; exact g.nums.sortB _
      have hW := g.wf q hq
      have oth := other_ne g.nums hq hqb
      have edel : sortB (!b) (delO q.num os) = rest := by rw [sortB_del, hs, del_head hN]
      have odel : sortB b (delO q.num os) = sortB b os := by rw [sortB_del, del_none oth]
      by_cases hh : q.house = h
      · simp only [if_pos hh]
        exact ⟨_, rfl, by rw [edel], ⟨fits_del g _, hl, Int.le_refl _, odel⟩⟩
      · simp only [if_neg hh]
        refine ⟨_, rfl, ?_, ?_⟩
        · have key : settle (q.take (mn left q.vis)) rest = sortB (!b) (tsettle (q.take (mn left q.vis)) os) := by
            have h1 := mn_le_right left q.vis
            have h2 := hW.vl
            unfold settle tsettle Ord.take
            simp only
            by_cases hv : q.vis - mn left q.vis = 0
            · by_cases hz : q.left - mn left q.vis = 0
              · rw [if_pos hz, if_pos hv, if_neg (by omega), edel]
              · rw [if_neg hz, if_pos hv, if_pos hv, if_pos (by omega), sortB_append, edel]
                rw [if_pos (show (refill { q with left := q.left - mn left q.vis, vis := q.vis - mn left q.vis }).buy = !b from hqb)]
            · rw [if_neg (by omega), if_neg hv, if_neg hv, sortB_set, hs, set_head hN]
          rw [key]
          rfl
        · have h1 := mn_le_right left q.vis
          have h2 := hW.vl
          have h3 := mn_le_left left q.vis
          have h4 := mn_pos (i := left) (j := q.vis) (by omega) (by have := hW.v1; omega)
          refine ⟨?_, by show 0 ≤ left - _; omega, by show left - _ ≤ left; omega, ?_⟩
          · show Fits os (tsettle (q.take (mn left q.vis)) os)
            unfold tsettle Ord.take
            simp only
            by_cases hv : q.vis - mn left q.vis = 0
            · rw [if_pos hv]
              by_cases hz : 0 < q.left - mn left q.vis
              · rw [if_pos hz]
                refine ⟨⟨nums_app (nums_del g.nums) fun x hx => (mem_del.mp hx).2, fun o ho => ?_⟩, ?_, fun x hx => ?_, fun x hx => ?_⟩
                · rcases List.mem_append.mp ho with ho | ho
                  · exact g.wf o (mem_del.mp ho).1
                  · have e : o = refill { q with left := q.left - mn left q.vis, vis := q.vis - mn left q.vis } := by simpa using ho
                    rw [e]
                    exact wf_refill hz hW.sh
                · rw [List.length_append]
                  have := length_del hq
                  show _ + 1 ≤ _
                  omega
                · rcases List.mem_append.mp hx with hx | hx
                  · exact ⟨x, (mem_del.mp hx).1, rfl⟩
                  · have e : x = refill { q with left := q.left - mn left q.vis, vis := q.vis - mn left q.vis } := by simpa using hx
                    rw [e]
                    exact ⟨q, hq, rfl⟩
                · rcases List.mem_append.mp hx with hx | hx
                  · exact ⟨x, (mem_del.mp hx).1, rfl⟩
                  · have e : x = refill { q with left := q.left - mn left q.vis, vis := q.vis - mn left q.vis } := by simpa using hx
                    rw [e]
                    exact ⟨q, hq, rfl⟩
              · rw [if_neg hz]
                exact fits_del g _
            · rw [if_neg hv]
              exact fits_set g fun o ho e => by omega
          · show sortB b (tsettle (q.take (mn left q.vis)) os) = sortB b os
            unfold tsettle Ord.take
            simp only
            by_cases hv : q.vis - mn left q.vis = 0
            · rw [if_pos hv]
              by_cases hz : 0 < q.left - mn left q.vis
              · rw [if_pos hz, sortB_append, if_neg, odel]
                show ¬ q.buy = b
                rw [hqb]
                exact not_ne b
              · rw [if_neg hz]
                exact odel
            · rw [if_neg hv, sortB_set, set_none oth]
    · left
      rw [if_neg ha, if_neg ha]
      exact ⟨rfl, rfl⟩
theorem loop_sim (h : Str) (b : Bool) (lim : Option Int) : ∀ (n : Nat) (s : MS), Good s.rs → 0 ≤ s.left →
    mloop h b lim n (s.book b) = (tloop h b lim n s).book b ∧ Next b s (tloop h b lim n s)
  | 0, s, g, hl => ⟨rfl, .refl g hl⟩
  | n + 1, s, g, hl => by
    rcases step_sim h b lim s g hl with ⟨h1, h2⟩ | ⟨s', h1, h2, N⟩
    · unfold mloop tloop
      rw [h1, h2]
      exact ⟨rfl, .refl g hl⟩
    · obtain ⟨e, N'⟩ := loop_sim h b lim n s' N.fits.good N.nn
      unfold mloop tloop
      rw [h1, h2]
      exact ⟨e, N.trans N'⟩
end Fb

namespace Fb
open PySem
/-! ### the book's loop ends -/
def meas (s : MS) : Nat := s.left.toNat + s.rs.length
/-- a side of the book -/
structure SideOk (b : Bool) (rs : List Ord) : Prop where
  good : Good rs
  buy : ∀ o ∈ rs, o.buy = b
theorem Good.tail {q : Ord} {r : List Ord} (h : Good (q :: r)) : Good r := ⟨h.nums.tail, fun o ho => h.wf o (List.mem_cons_of_mem _ ho)⟩
theorem SideOk.tail {b : Bool} {q : Ord} {r : List Ord} (h : SideOk b (q :: r)) : SideOk b r := ⟨h.good.tail, fun o ho => h.buy o (List.mem_cons_of_mem _ ho)⟩
theorem nums_cons {q : Ord} {r : List Ord} (h : Nums r) (hn : ∀ x ∈ r, x.num ≠ q.num) : Nums (q :: r) :=
  List.nodup_cons.mpr ⟨fun hm => by obtain ⟨x, hx, e⟩ := List.mem_map.mp hm; exact hn x hx e, h⟩
theorem nums_ins {q : Ord} {r : List Ord} (h : Nums r) (hn : ∀ x ∈ r, x.num ≠ q.num) : Nums (ins q r) :=
  ((perm_ins q r).map (fun o : Ord => o.num)).nodup_iff.mpr (nums_cons h hn)
theorem good_ins {q : Ord} {r : List Ord} (h : Good r) (hn : ∀ x ∈ r, x.num ≠ q.num) (w : WF q) : Good (ins q r) :=
  ⟨nums_ins h.nums hn, fun o ho => (mem_ins.mp ho).elim (fun e => by rw [e]; exact w) (h.wf o)⟩
theorem side_ins {b : Bool} {q : Ord} {r : List Ord} (h : SideOk b r) (hn : ∀ x ∈ r, x.num ≠ q.num) (w : WF q) (hb : q.buy = b) : SideOk b (ins q r) :=
  ⟨good_ins h.good hn w, fun o ho => (mem_ins.mp ho).elim (fun e => by rw [e]; exact hb) (h.buy o)⟩
theorem side_settle {b : Bool} {q : Ord} {rest : List Ord} {t : Int} (h : SideOk b (q :: rest)) (h1 : t ≤ q.vis) : SideOk b (settle (q.take t) rest) ∧ (settle (q.take t) rest).length ≤ rest.length + 1 ∧ ∀ x ∈ settle (q.take t) rest, x.num = q.num ∨ x ∈ rest := by
  have hW := h.good.wf q List.mem_cons_self
  have h2 := hW.vl
  have hn := h.good.nums.head
  have hb := h.buy q List.mem_cons_self
  unfold settle
  by_cases hz : (q.take t).left = 0
  · rw [if_pos hz]
    exact ⟨h.tail, Nat.le_succ _, fun x hx => .inr hx⟩
  · rw [if_neg hz]
    have hz' : ¬ q.left - t = 0 := hz
    by_cases hv : (q.take t).vis = 0
    · rw [if_pos hv]
      have hv' : q.vis - t = 0 := hv
      refine ⟨side_ins h.tail hn (wf_refill (q := q.take t) (show 0 < q.left - t by omega) hW.sh) hb, by rw [length_ins]; exact Nat.le_refl _, fun x hx => ?_⟩
      rcases mem_ins.mp hx with e | hx
      · rw [e]; exact .inl rfl
      · exact .inr hx
    · rw [if_neg hv]
      have hv' : ¬ q.vis - t = 0 := hv
      refine ⟨⟨⟨nums_cons h.tail.good.nums hn, fun o ho => ?_⟩, fun o ho => ?_⟩, Nat.le_refl _, fun x hx => ?_⟩
      · rcases List.mem_cons.mp ho with e | ho
        · rw [e]; exact ⟨show 1 ≤ q.vis - t by omega, show q.vis - t ≤ q.left - t by omega, hW.sh⟩
        · exact h.tail.good.wf o ho
      · rcases List.mem_cons.mp ho with e | ho
        · rw [e]; exact hb
        · exact h.tail.buy o ho
      · rcases List.mem_cons.mp hx with e | hx
        · rw [e]; exact .inl rfl
        · exact .inr hx
theorem mloop_none {h : Str} {b : Bool} {lim : Option Int} {s : MS} (e : mstep h b lim s = none) : ∀ n, mloop h b lim n s = s
  | 0 => rfl
  | n + 1 => by unfold mloop; rw [e]
theorem mloop_some {h : Str} {b : Bool} {lim : Option Int} {s s' : MS} (e : mstep h b lim s = some s') (n : Nat) : mloop h b lim (n + 1) s = mloop h b lim n s' := by
  show (match mstep h b lim s with | none => s | some s' => mloop h b lim n s') = _
  rw [e]
theorem mstep_left {h : Str} {b : Bool} {lim : Option Int} {s : MS} (e : s.left ≤ 0) : mstep h b lim s = none := if_pos e
theorem mstep_nil {h : Str} {b : Bool} {lim : Option Int} {l : Int} {f : List Fill} {r : List Int} : mstep h b lim ⟨l, [], f, r⟩ = none := by
  unfold mstep
  split <;> rfl
theorem mstep_far {h : Str} {b : Bool} {lim : Option Int} {l : Int} {q : Ord} {rs : List Ord} {f : List Fill} {r : List Int} (e : ¬ acc b lim q.price = true) : mstep h b lim ⟨l, q :: rs, f, r⟩ = none := by
  unfold mstep
  split
  · rfl
  · exact if_neg e
theorem mstep_own {h : Str} {b : Bool} {lim : Option Int} {l : Int} {q : Ord} {rs : List Ord} {f : List Fill} {r : List Int} (e : 0 < l) (e1 : acc b lim q.price = true) (e2 : q.house = h) : mstep h b lim ⟨l, q :: rs, f, r⟩ = some ⟨l, rs, f, r ++ [q.num]⟩ := by
  unfold mstep
  rw [if_neg (show ¬ l ≤ 0 by omega)]
  dsimp only
  rw [if_pos e1, if_pos e2]
theorem mstep_trade {h : Str} {b : Bool} {lim : Option Int} {l : Int} {q : Ord} {rs : List Ord} {f : List Fill} {r : List Int} (e : 0 < l) (e1 : acc b lim q.price = true) (e2 : ¬ q.house = h) :
    mstep h b lim ⟨l, q :: rs, f, r⟩ = some ⟨l - mn l q.vis, settle (q.take (mn l q.vis)) rs, f ++ [⟨q.num, q.house, q.price, mn l q.vis⟩], r⟩ := by
  unfold mstep
  rw [if_neg (show ¬ l ≤ 0 by omega)]
  dsimp only
  rw [if_pos e1, if_neg e2]
  rfl

/-! ### entering an order -/
inductive Kd | rest | now | all
  deriving DecidableEq
structure Rep where
  fills : List Fill
  rem : List Int
  resting : Int
def inOrd (num : Int) (h : Str) (b : Bool) (lim : Option Int) (left shown : Int) : Ord := ⟨num, h, b, lim.getD 0, left, nextVis left shown, shown⟩
def runB (h : Str) (b : Bool) (lim : Option Int) (qty : Int) (rs : List Ord) : MS := mloop h b lim 2000 ⟨qty, rs, [], []⟩
def runL (h : Str) (b : Bool) (lim : Option Int) (qty : Int) (os : List Ord) : MS := tloop h b lim 2000 ⟨qty, os, [], []⟩
def enterB (num : Int) (h : Str) (b : Bool) (lim : Option Int) (qty : Int) (k : Kd) (shown : Int) (B : Bool → List Ord) : (Bool → List Ord) × Rep :=
  if k = .all ∧ availB h b lim (B !b) < qty then (B, ⟨[], [], 0⟩)
  else if k = .rest ∧ 0 < (runB h b lim qty (B !b)).left then
    (fun x => if x = b then ins (inOrd num h b lim (runB h b lim qty (B !b)).left shown) (B b) else (runB h b lim qty (B !b)).rs, ⟨(runB h b lim qty (B !b)).fills, (runB h b lim qty (B !b)).rem, (runB h b lim qty (B !b)).left⟩)
  else (fun x => if x = b then B b else (runB h b lim qty (B !b)).rs, ⟨(runB h b lim qty (B !b)).fills, (runB h b lim qty (B !b)).rem, 0⟩)
def enterL (num : Int) (h : Str) (b : Bool) (lim : Option Int) (qty : Int) (k : Kd) (shown : Int) (os : List Ord) : List Ord × Rep :=
  if k = .all ∧ availL h b lim os < qty then (os, ⟨[], [], 0⟩)
  else if k = .rest ∧ 0 < (runL h b lim qty os).left then
    ((runL h b lim qty os).rs ++ [inOrd num h b lim (runL h b lim qty os).left shown], ⟨(runL h b lim qty os).fills, (runL h b lim qty os).rem, (runL h b lim qty os).left⟩)
  else ((runL h b lim qty os).rs, ⟨(runL h b lim qty os).fills, (runL h b lim qty os).rem, 0⟩)
def sorts (os : List Ord) : Bool → List Ord := fun s => sortB s os

/-- what stands behind entering an order -/
structure Ent (num : Int) (lim : Option Int) (k : Kd) (os os' : List Ord) : Prop where
  good : Good os'
  len : os'.length ≤ os.length + 1
  sub : ∀ x ∈ os', x.num = num ∨ ∃ y ∈ os, y.num = x.num
  pr : ∀ x ∈ os', (k = .rest ∧ x.price = lim.getD 0) ∨ ∃ y ∈ os, y.price = x.price
theorem runL_ok (h : Str) (b : Bool) (lim : Option Int) (qty : Int) {os : List Ord} (g : Good os) (hq : 1 ≤ qty) : runB h b lim qty (sorts os (!b)) = (runL h b lim qty os).book b ∧ Next b ⟨qty, os, [], []⟩ (runL h b lim qty os) :=
  loop_sim h b lim 2000 ⟨qty, os, [], []⟩ g (show 0 ≤ qty by omega)
theorem enter_sim {num : Int} {h : Str} {b : Bool} {lim : Option Int} {qty : Int} {k : Kd} {shown : Int} {os : List Ord} (g : Good os) (hq : 1 ≤ qty) (hs : 0 ≤ shown) (hn : ∀ x ∈ os, x.num ≠ num) :
    enterB num h b lim qty k shown (sorts os) = (sorts (enterL num h b lim qty k shown os).1, (enterL num h b lim qty k shown os).2) ∧ Ent num lim k os (enterL num h b lim qty k shown os).1 := by
  obtain ⟨e, N⟩ := runL_ok h b lim qty g hq
  unfold enterB enterL
  rw [show availB h b lim (sorts os (!b)) = availL h b lim os from avail_eq h b lim os, e]
  have el : ((runL h b lim qty os).book b).left = (runL h b lim qty os).left := rfl
  have ef : ((runL h b lim qty os).book b).fills = (runL h b lim qty os).fills := rfl
  have er : ((runL h b lim qty os).book b).rem = (runL h b lim qty os).rem := rfl
  have es : ((runL h b lim qty os).book b).rs = sortB (!b) (runL h b lim qty os).rs := rfl
  rw [el, ef, er, es]
  have eo : sorts os b = sortB b (runL h b lim qty os).rs := N.other.symm
  have nb : ∀ x, ¬ x = b → x = !b := fun x hx => by cases x <;> cases b <;> simp_all
  by_cases h1 : k = .all ∧ availL h b lim os < qty
  · rw [if_pos h1, if_pos h1]
    exact ⟨rfl, g, Nat.le_succ _, fun x hx => .inr ⟨x, hx, rfl⟩, fun x hx => .inr ⟨x, hx, rfl⟩⟩
  · rw [if_neg h1, if_neg h1]
    have fresh : ∀ x ∈ (runL h b lim qty os).rs, x.num ≠ num := fun x hx q => by
      obtain ⟨y, hy, e2⟩ := N.fits.sub x hx
      exact hn y hy (e2.trans q)
    by_cases h2 : k = .rest ∧ 0 < (runL h b lim qty os).left
    · rw [if_pos h2, if_pos h2]
      refine ⟨?_, ⟨nums_app N.fits.good.nums fresh, fun o ho => ?_⟩, ?_, fun x hx => ?_, fun x hx => ?_⟩
      · refine Prod.ext (funext fun x => ?_) rfl
        show (if x = b then ins (inOrd num h b lim (runL h b lim qty os).left shown) (sorts os b) else sortB (!b) (runL h b lim qty os).rs) = sortB x _
        rw [sortB_append]
        by_cases hx : x = b
        · subst hx
          rw [if_pos rfl, eo]
          exact (if_pos rfl).symm
        · rw [if_neg hx, ← nb x hx]
          exact (if_neg (fun z => hx z.symm)).symm
      · rcases List.mem_append.mp ho with ho | ho
        · exact N.fits.good.wf o ho
        · have e2 : o = inOrd num h b lim (runL h b lim qty os).left shown := by simpa using ho
          rw [e2]
          exact ⟨(nextVis_ok h2.2 hs).1, (nextVis_ok h2.2 hs).2, hs⟩
      · rw [List.length_append]
        exact Nat.succ_le_succ N.fits.len
      · rcases List.mem_append.mp hx with hx | hx
        · exact .inr (N.fits.sub x hx)
        · have e2 : x = inOrd num h b lim (runL h b lim qty os).left shown := by simpa using hx
          rw [e2]
          exact .inl rfl
      · rcases List.mem_append.mp hx with hx | hx
        · exact .inr (N.fits.pr x hx)
        · have e2 : x = inOrd num h b lim (runL h b lim qty os).left shown := by simpa using hx
          rw [e2]
          exact .inl ⟨h2.1, rfl⟩
    · rw [if_neg h2, if_neg h2]
      refine ⟨?_, N.fits.good, Nat.le_succ_of_le N.fits.len, fun x hx => .inr (N.fits.sub x hx), fun x hx => .inr (N.fits.pr x hx)⟩
      refine Prod.ext (funext fun x => ?_) rfl
      by_cases hx : x = b
      · subst hx
        show (if x = x then _ else _) = _
        rw [if_pos rfl, eo]
        rfl
      · show (if x = b then _ else _) = sortB x _
        rw [if_neg hx, ← nb x hx]
/-! ### what is listed -/
theorem list_step {side : Bool} {k : List Ord} {q : Ord} {r : List Ord} (h : sortB side k = q :: r) (hn : Nums k) : firstL k side none = some q ∧ sortB side (delO q.num k) = r := by
  refine ⟨?_, ?_⟩
  · rw [firstL_eq, h]
    unfold headFit acc
    exact if_pos rfl
  · rw [sortB_del, h, del_head]
    rw [← h]
    exact hn.sortB side
theorem sorts_del (n : Int) (os : List Ord) : sorts (delO n os) = fun x => delO n (sorts os x) := funext fun x => sortB_del x n os
theorem sorts_set (n l v : Int) (os : List Ord) : sorts (setO n l v os) = fun x => setO n l v (sorts os x) := funext fun x => sortB_set x n l v os
theorem side_sorts {os : List Ord} (g : Good os) (x : Bool) : SideOk x (sorts os x) := ⟨⟨g.nums.sortB x, fun o ho => g.wf o ((mem_sortB os).mp ho).1⟩, fun o ho => ((mem_sortB os).mp ho).2⟩
theorem mem_sorts {os : List Ord} {x : Bool} {o : Ord} : o ∈ sorts os x ↔ o ∈ os ∧ o.buy = x := mem_sortB os
theorem len_sorts (os : List Ord) (x : Bool) : (sorts os x).length ≤ os.length := by
  show (sortB x os).length ≤ _
  rw [length_sortB]
  exact List.length_filter_le _ _
end Fb

namespace Fb
open PySem PySem.Spec PyProof.Rows L2
/-! ### rules of one's own: a method called with keywords; list.remove of data -/
def tMethN (C : Addr) (n m : Nat) (mt : Str) (sp : Sp) (gV : List V → List V → List V) (E : XK) (ta : TE) (t tk : TA) : TE := fun σ H Q => ta σ H fun x H1 => ∃ a dx fs, x = .ref a ∧ H1 a = some (.ins C dx fs) ∧ fs.lookup mt = none ∧
  t σ H1 fun vs H2 => tk σ H2 fun zs H3 => vs.length + 1 = n ∧ zs.length = m ∧ sp (gV (x :: vs) zs) H3 Q E
theorem pe_methN {X : Cx} {CX : CXT} {k n : Nat} {f C : Addr} {fd : FuncData} {ps ks : List Str} {sp : Sp} {E : XK} {m : Str} {pos apos : Pos} {e o : Expr} {es : List Expr} {kws : List Keyword} {ta : TE} {t tk : TA} {g : List Value → List Value → List Value} {gV : List V → List V → List V}
    {pl : Sem Bool} (he : PE X o ta) (c : Cls X.K C) (hm : Meth X.K C m f) (F : FnOk X.prog X.w X.K X.mg X.base CX k f fd ps sp) (hr : Room k X.A) (hb : KBn X.K fd ps n ks g gV) (hx : Passes CX X E)
    (ha : PA X (e :: es) t) (hkw : PK X kws tk) (hall : (backToKw pos (keywordEach kws X.env)).all (·.1.isSome) = true := by rfl) (hks : (backToKw pos (keywordEach kws X.env)).filterMap (·.1) = ks := by rfl)
    (hst : starEach (e :: es) X.env = (false, eval e X.env) :: starEach es X.env := by rfl)
    (hpl : ((backTo pos (starEach (e :: es) X.env)).any (·.1) || (backToKw pos (keywordEach kws X.env)).any (·.1.isNone)) = false := by rfl)
    (ht : eval (.Call (.Attribute o m apos) (e :: es) kws pos) X.env = (do
      let ov ← eval o X.env
      standAt apos.atName
      let (f, first) ← holding [ov] (getMethod ov m pl)
      callWith pos f first (backTo pos (starEach (e :: es) X.env)) (backToKw pos (keywordEach kws X.env))) := by rfl) :
    PE X (.Call (.Attribute o m apos) (e :: es) kws pos) (tMethN C n ks.length m sp gV E ta t tk) := by
  refine ⟨fun pins s σ H Q I h => ?_⟩
  refine PySem.W.methodCall_KW (pl := pl) (thn (he.run pins s σ H _ I h) fun u s1 ⟨x, H1, I1, rx, a, dx, fs, ex, ea, l, q⟩ => ?_) ht
  subst ex
  obtain rfl : u = Value.ref a := rx
  refine getmeth_ok I1 ea c hm l ?_
  refine PySem.W.callWith_KW (first := [.ref a]) (h₀ := X.base) I.ok.mod.kin hm.kp hall (thn (ha.run pos pins s1 σ H1 _ I1 q) fun us s2 ⟨vs, H2, I2, r, q2⟩ => ?_) hpl hst
  refine thn (hkw.run pos pins s2 σ H2 _ I2 q2) fun ws s3 ⟨zs, H3, I3, rz, l1, l2, q3⟩ => ⟨I3.kIn, ?_⟩
  rw [hks]
  exact run_fnN (us := .ref a :: us) (vs := .ref a :: vs) F hr hb hx I3 (.cons rfl r) rz l1 l2 q3
/-- l.remove(x): x is among the items, the first equal one stands at j -/
def rRemD (K : PySem.W.Frag) : V → List V → Hp → VK → Prop := fun x xs H Q => ∃ (l : Addr) (y : V) (d : PyData) (vs : List V) (ds : List PyData) (j : Nat), x = .ref l ∧ xs = [y] ∧ H l = some (.lst vs) ∧ DpAll K H vs ds ∧ Dp K H y d ∧
  PyData.plainAll ds = true ∧ d.plain = true ∧ PyData.depthAll ds ≤ 60 ∧ SeqAt.dataPlace ds d = some j ∧ Q .non (upd H l (.lst (vs.eraseIdx j)))
theorem mt_remD {X : Cx} (hu : X.A.units + 64 < cLine) : MtR X "list.remove" (rRemD X.K) := by
  intro pins s σ H x xs v us Q I rx rxs h
  obtain ⟨l, y, d, vs, ds, j, rfl, rfl, hH, ha, hy, pa, pd, hdep, hp, q⟩ := h
  cases rx
  obtain ⟨u, rfl, ru⟩ := rxs.one
  obtain ⟨z, its, n, r, hl, e⟩ := I.lstM hH
  obtain ⟨as, r1⟩ := Dp.readsAll I ds _ its ha r
  obtain ⟨bs, r2⟩ := Dp.reads I d y u hy ru
  have hm : min (PyData.depthAll ds) d.depth ≤ 60 := Nat.le_trans (Nat.min_le_left _ _) hdep
  refine SeqAt.remove_list_data (vs := its.toArray) ⟨_, e, rfl, n, rfl⟩ r1 r2 pa pd (by omega) hp (by rw [List.size_toArray]; omega) ?_
  refine ⟨.non, _, I.lset (t' := s.toks) hH e (fun_eraseIdx its j) (r.eraseIdx j) ?_, rfl, q⟩
  have := len_erase vs j
  omega
where
  fun_eraseIdx (its : List Value) (j : Nat) : its.toArray.eraseIdxIfInBounds j = (its.eraseIdx j).toArray := by simp
/-- == and != of data without dicts (texts of any signs) -/
def rEqP (K : PySem.W.Frag) : R2 := fun x y H Q => ∃ d e, Dp K H x d ∧ Dp K H y e ∧ d.plain = true ∧ e.plain = true ∧ d.depth ≤ 60 ∧ Q (.bl (PyData.eqv d e)) H
def rNeP (K : PySem.W.Frag) : R2 := fun x y H Q => ∃ d e, Dp K H x d ∧ Dp K H y e ∧ d.plain = true ∧ e.plain = true ∧ d.depth ≤ 60 ∧ Q (.bl (!PyData.eqv d e)) H
theorem op_eqP {X : Cx} (hu : X.A.units + 64 < cLine) : OpR X (compareOp .Eq) (rEqP X.K) := by
  intro pins s σ H x y v u Q I rx ry h
  obtain ⟨d, e, hd, he, sd, se, hdep, q⟩ := h
  obtain ⟨as, r1⟩ := Dp.reads I d x v hd rx
  obtain ⟨bs, r2⟩ := Dp.reads I e y u he ry
  have hm : min d.depth e.depth ≤ 60 := Nat.le_trans (Nat.min_le_left _ _) hdep
  exact SeqAt.eq_plain r1 r2 sd se (by omega) ⟨.bl _, H, I, rfl, q⟩
theorem op_neP {X : Cx} (hu : X.A.units + 64 < cLine) : OpR X (compareOp .NotEq) (rNeP X.K) := by
  intro pins s σ H x y v u Q I rx ry h
  obtain ⟨d, e, hd, he, sd, se, hdep, q⟩ := h
  obtain ⟨as, r1⟩ := Dp.reads I d x v hd rx
  obtain ⟨bs, r2⟩ := Dp.reads I e y u he ry
  have hm : min d.depth e.depth ≤ 60 := Nat.le_trans (Nat.min_le_left _ _) hdep
  exact SeqAt.ne_plain r1 r2 sd se (by omega) ⟨.bl _, H, I, rfl, q⟩
end Fb

namespace Fb
open PySem PySem.Spec PyProof.Rows L2
/-! ### attributes by their names -/
theorem lk : ∀ {ks : List Str} {vs : List V} {k : Str} {i : Nat}, ks.findIdx? (fun x => decide (k = x)) = some i → ks.length = vs.length → (ks.zip vs).lookup k = vs[i]?
  | [], vs, k, i, h, _ => by simp at h
  | x :: ks, [], k, i, h, hl => by simp at hl
  | x :: ks, v :: vs, k, i, h, hl => by
    rw [List.findIdx?_cons] at h
    show List.lookup k ((x, v) :: ks.zip vs) = _
    by_cases e : k = x
    · rw [if_pos (decide_eq_true e)] at h
      have hi : 0 = i := Option.some.inj h
      subst hi
      have hb : (k == x) = true := beq_iff_eq.mpr e
      simp only [List.lookup, hb, List.getElem?_cons_zero]
    · rw [if_neg (by simpa using e)] at h
      have hb : (k == x) = false := beq_eq_false_iff_ne.mpr e
      simp only [List.lookup, hb]
      cases hj : ks.findIdx? (fun x => decide (k = x)) with
      | none => rw [hj] at h; simp at h
      | some j =>
        rw [hj] at h
        have hi : j + 1 = i := by simpa using h
        subst hi
        rw [List.getElem?_cons_succ]
        exact lk hj (by simpa using hl)
theorem lkn : ∀ {ks : List Str} {vs : List V} {k : Str}, ks.all (fun x => decide (¬ k = x)) = true → (ks.zip vs).lookup k = none
  | [], vs, k, h => by simp
  | x :: ks, [], k, h => by simp
  | x :: ks, v :: vs, k, h => by
    rw [List.all_cons, Bool.and_eq_true] at h
    have e : ¬ k = x := of_decide_eq_true h.1
    have hb : (k == x) = false := beq_eq_false_iff_ne.mpr e
    show List.lookup k ((x, v) :: ks.zip vs) = _
    simp only [List.lookup, hb]
    exact lkn h.2
theorem pf : ∀ {ks : List Str} {vs : List V} {k : Str} {i : Nat} (v : V), ks.findIdx? (fun x => decide (k = x)) = some i → ks.length = vs.length → putF k v (ks.zip vs) = ks.zip (vs.set i v)
  | [], vs, k, i, v, h, _ => by simp at h
  | x :: ks, [], k, i, v, h, hl => by simp at hl
  | x :: ks, u :: vs, k, i, v, h, hl => by
    rw [List.findIdx?_cons] at h
    show (if x = k then _ else _) = _
    by_cases e : k = x
    · rw [if_pos (decide_eq_true e)] at h
      have hi : 0 = i := Option.some.inj h
      subst hi
      rw [if_pos e.symm]
      rfl
    · rw [if_neg (by simpa using e)] at h
      rw [if_neg (fun z => e z.symm)]
      cases hj : ks.findIdx? (fun x => decide (k = x)) with
      | none => rw [hj] at h; simp at h
      | some j =>
        rw [hj] at h
        have hi : j + 1 = i := by simpa using h
        subst hi
        show (x, u) :: putF k v (ks.zip vs) = (x, u) :: ks.zip (vs.set j v)
        rw [pf v hj (by simpa using hl)]
theorem pfn : ∀ {ks : List Str} {vs : List V} {k : Str} (v : V), ks.all (fun x => decide (¬ k = x)) = true → ks.length = vs.length → putF k v (ks.zip vs) = (ks ++ [k]).zip (vs ++ [v])
  | [], [], k, v, h, _ => rfl
  | [], u :: vs, k, v, h, hl => by simp at hl
  | x :: ks, [], k, v, h, hl => by simp at hl
  | x :: ks, u :: vs, k, v, h, hl => by
    rw [List.all_cons, Bool.and_eq_true] at h
    have e : ¬ k = x := of_decide_eq_true h.1
    show (if x = k then _ else _) = _
    rw [if_neg (fun z => e z.symm)]
    show (x, u) :: putF k v (ks.zip vs) = (x, u) :: ((ks ++ [k]).zip (vs ++ [v]))
    rw [pfn v h.2 (by simpa using hl)]

def sd (b : Bool) : Str := if b then "buy" else "sell"
theorem sd_ne : ¬ (("sell" : Str) = "buy") := by decide +kernel
theorem sd_buy (b : Bool) : decide (V.str (sd b) = V.str "buy") = b := by
  cases b with
  | true => exact decide_eq_true rfl
  | false => exact decide_eq_false fun e => sd_ne (by injection e)
theorem sd_sell (b : Bool) : decide (V.str (sd b) = V.str "sell") = !b := by
  cases b with
  | false => exact decide_eq_true rfl
  | true => exact decide_eq_false fun e => sd_ne (by injection e with e; exact e.symm)
theorem sd_sd (b c : Bool) : decide (V.str (sd b) = V.str (sd c)) = decide (b = c) := by
  cases c with
  | true => rw [show sd true = ("buy" : Str) from rfl, sd_buy]; cases b <;> rfl
  | false => rw [show sd false = ("sell" : Str) from rfl, sd_sell]; cases b <;> rfl
def limV : Option Int → V
  | none => .non
  | some i => .int i
def kS : Kd → Str
  | .rest => "rest"
  | .now => "now"
  | .all => "all"
theorem k_ne : ¬ (("now" : Str) = "rest") ∧ ¬ (("all" : Str) = "rest") ∧ ¬ (("rest" : Str) = "all") ∧ ¬ (("now" : Str) = "all") := by decide +kernel
theorem kS_rest (k : Kd) : decide (V.str (kS k) = V.str "rest") = decide (k = .rest) := by
  cases k with
  | rest => exact (decide_eq_true rfl).trans (decide_eq_true rfl).symm
  | now => exact (decide_eq_false fun e => k_ne.1 (by injection e)).trans (decide_eq_false (by intro z; cases z)).symm
  | all => exact (decide_eq_false fun e => k_ne.2.1 (by injection e)).trans (decide_eq_false (by intro z; cases z)).symm
theorem kS_all (k : Kd) : decide (V.str (kS k) = V.str "all") = decide (k = .all) := by
  cases k with
  | rest => exact (decide_eq_false fun e => k_ne.2.2.1 (by injection e)).trans (decide_eq_false (by intro z; cases z)).symm
  | now => exact (decide_eq_false fun e => k_ne.2.2.2 (by injection e)).trans (decide_eq_false (by intro z; cases z)).symm
  | all => exact (decide_eq_true rfl).trans (decide_eq_true rfl).symm

def oK : List Str := ["number", "house", "side", "price", "left", "shown", "visible"]
def oF (n : Int) (h : Str) (b : Bool) (pr : V) (l v s : Int) : List (Str × V) := oK.zip [.int n, .str h, .str (sd b), pr, .int l, .int s, .int v]
def rK : List Str := ["number", "house", "side", "fills", "removed", "resting"]
def rF (n : Int) (h : Str) (b : Bool) (f m : Addr) (z : Int) : List (Str × V) := rK.zip [.int n, .str h, .str (sd b), .ref f, .ref m, .int z]
def bK : List Str := ["_resting", "_stops", "_next_number", "last"]
def bF (d st : Addr) (n : Int) (lv : V) : List (Str × V) := bK.zip [.ref d, .ref st, .int n, lv]

section
variable {n : Int} {h : Str} {b : Bool} {pr : V} {l v s : Int} {f m : Addr} {z : Int} {d st : Addr} {lv : V}
theorem o_number : (oF n h b pr l v s).lookup ("number" : Str) = some (.int n) := lk (i := 0) (by decide +kernel) rfl
theorem o_house : (oF n h b pr l v s).lookup ("house" : Str) = some (.str h) := lk (i := 1) (by decide +kernel) rfl
theorem o_side : (oF n h b pr l v s).lookup ("side" : Str) = some (.str (sd b)) := lk (i := 2) (by decide +kernel) rfl
theorem o_price : (oF n h b pr l v s).lookup ("price" : Str) = some pr := lk (i := 3) (by decide +kernel) rfl
theorem o_left : (oF n h b pr l v s).lookup ("left" : Str) = some (.int l) := lk (i := 4) (by decide +kernel) rfl
theorem o_shown : (oF n h b pr l v s).lookup ("shown" : Str) = some (.int s) := lk (i := 5) (by decide +kernel) rfl
theorem o_visible : (oF n h b pr l v s).lookup ("visible" : Str) = some (.int v) := lk (i := 6) (by decide +kernel) rfl
theorem o_no {k : Str} (e : oK.all (fun x => decide (¬ k = x)) = true) : (oF n h b pr l v s).lookup k = none := lkn e
theorem o_put_left (y : Int) : putF "left" (.int y) (oF n h b pr l v s) = oF n h b pr y v s := pf (i := 4) _ (by decide +kernel) rfl
theorem o_put_visible (y : Int) : putF "visible" (.int y) (oF n h b pr l v s) = oF n h b pr l y s := pf (i := 6) _ (by decide +kernel) rfl
theorem r_number : (rF n h b f m z).lookup ("number" : Str) = some (.int n) := lk (i := 0) (by decide +kernel) rfl
theorem r_fills : (rF n h b f m z).lookup ("fills" : Str) = some (.ref f) := lk (i := 3) (by decide +kernel) rfl
theorem r_removed : (rF n h b f m z).lookup ("removed" : Str) = some (.ref m) := lk (i := 4) (by decide +kernel) rfl
theorem r_resting : (rF n h b f m z).lookup ("resting" : Str) = some (.int z) := lk (i := 5) (by decide +kernel) rfl
theorem b_resting : (bF d st n lv).lookup ("_resting" : Str) = some (.ref d) := lk (i := 0) (by decide +kernel) rfl
theorem b_stops : (bF d st n lv).lookup ("_stops" : Str) = some (.ref st) := lk (i := 1) (by decide +kernel) rfl
theorem b_next : (bF d st n lv).lookup ("_next_number" : Str) = some (.int n) := lk (i := 2) (by decide +kernel) rfl
theorem b_last : (bF d st n lv).lookup ("last" : Str) = some lv := lk (i := 3) (by decide +kernel) rfl
theorem b_no {k : Str} (e : bK.all (fun x => decide (¬ k = x)) = true) : (bF d st n lv).lookup k = none := lkn e
theorem b_put_next (y : Int) : putF "_next_number" (.int y) (bF d st n lv) = bF d st y lv := pf (i := 2) _ (by decide +kernel) rfl
theorem b_put_last (y : V) : putF "last" y (bF d st n lv) = bF d st n y := pf (i := 3) _ (by decide +kernel) rfl
end

/-! ### what stands in the heap -/
section
variable (CO CR CB : Addr)
def InAt (H : Hp) (a : Addr) (n : Int) (h : Str) (b : Bool) (lim : Option Int) (l v s : Int) : Prop := ∃ dx, H a = some (.ins CO dx (oF n h b (limV lim) l v s))
def OrdAt (H : Hp) (a : Addr) (o : Ord) : Prop := InAt CO H a o.num o.house o.buy (some o.price) o.left o.vis o.shown
/-- where the book's parts stand -/
structure Geo where
  d : Addr
  st : Addr
  l : Bool → Addr
def dictK (g : Geo) : HO := .dK [(Sum.inr ("buy" : Str), .ref (g.l true)), (Sum.inr ("sell" : Str), .ref (g.l false))]
def refs (α : Int → Addr) (os : List Ord) : List V := os.map fun o => V.ref (α o.num)
structure BookAt (H : Hp) (b : Addr) (g : Geo) (α : Int → Addr) (B : Bool → List Ord) (next : Int) : Prop where
  ob : ∃ dx lv, H b = some (.ins CB dx (bF g.d g.st next lv))
  dict : H g.d = some (dictK g)
  st : H g.st = some (.lst [])
  lst : ∀ x, H (g.l x) = some (.lst (refs α (B x)))
  ord : ∀ x, ∀ o ∈ B x, OrdAt CO H (α o.num) o
  ne : g.l true ≠ g.l false
  ns : ∀ x, g.l x ≠ g.st
def rowV (o : Ord) : List V := [.int o.num, .str o.house, .str (sd o.buy), .int o.price, .int o.left, .int o.vis, .int o.shown]
structure LawAt (H : Hp) (L : Addr) (β : Int → Addr) (os : List Ord) : Prop where
  lst : H L = some (.lst (refs β os))
  row : ∀ o ∈ os, H (β o.num) = some (.lst (rowV o))
  out : ∀ o ∈ os, β o.num ≠ L
/-- a list of values that are new tuples of those rows -/
inductive Tups (H : Hp) : List V → List (List V) → Prop
  | nil : Tups H [] []
  | cons {t : Addr} {vs : List V} {r : List V} {rs : List (List V)} : H t = some (.tup r) → Tups H vs rs → Tups H (.ref t :: vs) (r :: rs)
def TupsAt (H : Hp) (p : Addr) (rs : List (List V)) : Prop := ∃ vs, H p = some (.lst vs) ∧ Tups H vs rs
def fillV (f : Fill) : List V := [.int f.num, .str f.house, .int f.price, .int f.qty]
def entV (o : Ord) : List V := [.int o.num, .str o.house, .int o.price, .int o.left, .int o.vis]
def FillsAt (H : Hp) (p : Addr) (fs : List Fill) : Prop := TupsAt H p (fs.map fillV)
def EntsAt (H : Hp) (p : Addr) (os : List Ord) : Prop := TupsAt H p (os.map entV)
def RemAt (H : Hp) (p : Addr) (ns : List Int) : Prop := H p = some (.lst (ns.map V.int))
/-- a report at r, made since H₀ -/
def RepAt (H₀ H : Hp) (r : Addr) (n : Int) (rep : Rep) : Prop := ∃ dx h b f m, H r = some (.ins CR dx (rF n h b f m rep.resting)) ∧ FillsAt H f rep.fills ∧ RemAt H m rep.rem ∧ H₀ f = none ∧ H₀ m = none
end
/-- what may be written of the book -/
def Kp (g : Geo) (H H' : Hp) : Prop := ∀ x o, H x = some o → x ≠ g.l true → x ≠ g.l false → x ≠ g.d → (∀ C dx fs, o ≠ .ins C dx fs) → H' x = some o
/-- what may be written of the law's list -/
def KpL (L : Addr) (β : Int → Addr) (os : List Ord) (H H' : Hp) : Prop := ∀ x o, H x = some o → x ≠ L → (∀ q ∈ os, x ≠ β q.num) → H' x = some o
/-- all tuples stand -/
def TupKeep (H H' : Hp) : Prop := ∀ x xs, H x = some (.tup xs) → H' x = some (.tup xs)

theorem Tups.keep {H H' : Hp} (k : TupKeep H H') : ∀ {vs : List V} {rs : List (List V)}, Tups H vs rs → Tups H' vs rs
  | _, _, .nil => .nil
  | _, _, .cons h t => .cons (k _ _ h) (t.keep k)
theorem Tups.snoc {H : Hp} {t : Addr} {r : List V} (h : H t = some (.tup r)) : ∀ {vs : List V} {rs : List (List V)}, Tups H vs rs → Tups H (vs ++ [.ref t]) (rs ++ [r])
  | _, _, .nil => .cons h .nil
  | _, _, .cons h1 k => .cons h1 (k.snoc h)
theorem Tups.length {H : Hp} : ∀ {vs : List V} {rs : List (List V)}, Tups H vs rs → vs.length = rs.length
  | _, _, .nil => rfl
  | _, _, .cons _ k => congrArg Nat.succ k.length
theorem Kp.tups {g : Geo} {H H' : Hp} (k : Kp g H H') (h : ∀ x, ∃ vs, H (g.l x) = some (.lst vs)) (hd : H g.d = some (dictK g)) : TupKeep H H' := fun x xs e => by
  obtain ⟨v1, e1⟩ := h true
  obtain ⟨v2, e2⟩ := h false
  exact k x _ e (ne_of e e1 (by intro z; cases z)) (ne_of e e2 (by intro z; cases z)) (ne_of e hd (by intro z; cases z)) (by intro _ _ _ z; cases z)
theorem Same.tups {H H' : Hp} (s : Same H H') : TupKeep H H' := fun x xs e => s x _ e
theorem TupKeep.trans {H H1 H2 : Hp} (a : TupKeep H H1) (b : TupKeep H1 H2) : TupKeep H H2 := fun x xs e => b x xs (a x xs e)
theorem OrdAt.inj {CO : Addr} {H : Hp} {a : Addr} {o q : Ord} (h1 : OrdAt CO H a o) (h2 : OrdAt CO H a q) : o.num = q.num ∧ o.buy = q.buy := by
  obtain ⟨d1, e1⟩ := h1
  obtain ⟨d2, e2⟩ := h2
  have e := e1.symm.trans e2
  injection e with e
  injection e with _ _ e
  have en : some (V.int o.num) = some (V.int q.num) := by rw [← o_number (n := o.num), ← o_number (n := q.num), e]
  have es : some (V.str (sd o.buy)) = some (V.str (sd q.buy)) := by rw [← o_side (b := o.buy), ← o_side (b := q.buy), e]
  refine ⟨by injection en with en; injection en, ?_⟩
  have es : V.str (sd o.buy) = V.str (sd q.buy) := Option.some.inj es
  have := sd_sd o.buy q.buy
  rw [decide_eq_true es] at this
  exact of_decide_eq_true this.symm
end Fb

namespace Fb
open PySem PySem.Spec PyProof.Rows L2
/-! ### defs, methods and classes that keep a promise -/
structure CallF (P : Program) (w : World) (K : PySem.W.Frag) (mg : Str → Option Value) (base : Heap) (k : Nat) (x : Str) (ps : List Str) (sp : Sp) : Prop where
  ex : ∃ f fd, FnOk P w K mg base CX0 k f fd ps sp ∧ mg x = some (.ref f) ∧ PySem.W.keepIn K (.ref f) = true ∧ Binds K fd ps []
structure CallM (P : Program) (w : World) (K : PySem.W.Frag) (mg : Str → Option Value) (base : Heap) (k : Nat) (C : Addr) (m : Str) (ps : List Str) (sp : Sp) : Prop where
  ex : ∃ f fd, FnOk P w K mg base CX0 k f fd ps sp ∧ Meth K C m f ∧ Binds K fd ps []
structure CallC (P : Program) (w : World) (K : PySem.W.Frag) (mg : Str → Option Value) (base : Heap) (k : Nat) (C : Addr) (x : Str) (ps : List Str) (dvs : List V) (sp : Sp) : Prop where
  ex : ∃ f fd ds, FnOk P w K mg base CX0 k f fd ps sp ∧ Mk K C f ∧ mg x = some (.ref C) ∧ Binds K fd ps ds ∧ Vals dvs ds
section
variable {X : Cx} {k : Nat} {C : Addr} {ps : List Str} {sp : Sp} {x m : Str} {p pos apos : Pos} {e o : Expr} {es : List Expr} {ta : TE} {t : TA} {dvs : List V}
theorem pe_f (c : CallF X.prog X.w X.K X.mg X.base k x ps sp) (hr : Room k X.A) (hg : Gl X x) (ha : PA X (e :: es) t) (hdb : (x == ("__debug__" : Str)) = false := by decide)
    (he : starEach (e :: es) X.env = (false, eval e X.env) :: starEach es X.env := by rfl) (hpl : (backTo pos (starEach es X.env)).any (·.1) = false := by rfl) : PE X (.Call (.Name x p) (e :: es) [] pos) (tCall sp [] E0 t) := by
  obtain ⟨f, fd, F, hm, hk, hb⟩ := c.ex
  exact pe_call F hr hg hm hk hb .nil pass0 ha hdb he hpl
theorem pe_m {pl : Sem Bool} (c : CallM X.prog X.w X.K X.mg X.base k C m ps sp) (hr : Room k X.A) (cl : Cls X.K C) (he : PE X o ta) (ha : PA X (e :: es) t)
    (hst : starEach (e :: es) X.env = (false, eval e X.env) :: starEach es X.env := by rfl) (hpl : (backTo pos (starEach es X.env)).any (·.1) = false := by rfl)
    (ht : eval (.Call (.Attribute o m apos) (e :: es) [] pos) X.env = (do
      let ov ← eval o X.env
      standAt apos.atName
      let (f, first) ← holding [ov] (getMethod ov m pl)
      callWith pos f first (backTo pos (starEach (e :: es) X.env)) (backToKw pos (keywordEach [] X.env))) := by rfl) : PE X (.Call (.Attribute o m apos) (e :: es) [] pos) (tMeth C m sp [] E0 ta t) := by
  obtain ⟨f, fd, F, hm, hb⟩ := c.ex
  exact pe_meth he cl hm F hr hb .nil pass0 ha hst hpl ht
theorem pe_m0 {pl : Sem Bool} (c : CallM X.prog X.w X.K X.mg X.base k C m ps sp) (hr : Room k X.A) (cl : Cls X.K C) (he : PE X o ta)
    (ht : eval (.Call (.Attribute o m apos) [] [] pos) X.env = (do
      let ov ← eval o X.env
      standAt apos.atName
      let (f, first) ← holding [ov] (getMethod ov m pl)
      callWith pos f first (backTo pos (starEach [] X.env)) (backToKw pos (keywordEach [] X.env))) := by rfl) : PE X (.Call (.Attribute o m apos) [] [] pos) (tMeth C m sp [] E0 ta tNil) := by
  obtain ⟨f, fd, F, hm, hb⟩ := c.ex
  exact pe_meth0 he cl hm F hr hb .nil pass0 ht
theorem pe_c (c : CallC X.prog X.w X.K X.mg X.base k C x ps dvs sp) (hr : Room (k + 1) X.A) (hg : Gl X x) (ha : PA X (e :: es) t) (hdb : (x == ("__debug__" : Str)) = false := by decide)
    (he : starEach (e :: es) X.env = (false, eval e X.env) :: starEach es X.env := by rfl) (hpl : (backTo pos (starEach es X.env)).any (·.1) = false := by rfl) : PE X (.Call (.Name x p) (e :: es) [] pos) (tMake C sp dvs E0 t) := by
  obtain ⟨f, fd, ds, F, M, hm, hb, hd⟩ := c.ex
  exact pe_make M F hr hg hm hb hd pass0 ha hdb he hpl
end
structure CallN (P : Program) (w : World) (K : PySem.W.Frag) (mg : Str → Option Value) (base : Heap) (k : Nat) (C : Addr) (m : Str) (ps : List Str) (n : Nat) (ks : List Str) (sp : Sp) : Prop where
  ex : ∃ f fd g, FnOk P w K mg base CX0 k f fd ps sp ∧ Meth K C m f ∧ KBn K fd ps n ks g (fun vs zs => vs ++ zs)
section
variable {X : Cx} {k n : Nat} {C : Addr} {ps ks : List Str} {sp : Sp} {x m : Str} {p pos apos : Pos} {e o : Expr} {es : List Expr} {kws : List Keyword} {ta : TE} {t tk : TA} {dvs : List V}
theorem pe_mN {pl : Sem Bool} (c : CallN X.prog X.w X.K X.mg X.base k C m ps n ks sp) (hr : Room k X.A) (cl : Cls X.K C) (he : PE X o ta) (ha : PA X (e :: es) t) (hkw : PK X kws tk)
    (hall : (backToKw pos (keywordEach kws X.env)).all (·.1.isSome) = true := by rfl) (hks : (backToKw pos (keywordEach kws X.env)).filterMap (·.1) = ks := by rfl)
    (hst : starEach (e :: es) X.env = (false, eval e X.env) :: starEach es X.env := by rfl)
    (hpl : ((backTo pos (starEach (e :: es) X.env)).any (·.1) || (backToKw pos (keywordEach kws X.env)).any (·.1.isNone)) = false := by rfl)
    (ht : eval (.Call (.Attribute o m apos) (e :: es) kws pos) X.env = (do
      let ov ← eval o X.env
      standAt apos.atName
      let (f, first) ← holding [ov] (getMethod ov m pl)
      callWith pos f first (backTo pos (starEach (e :: es) X.env)) (backToKw pos (keywordEach kws X.env))) := by rfl) :
    PE X (.Call (.Attribute o m apos) (e :: es) kws pos) (tMethN C n ks.length m sp (fun vs zs => vs ++ zs) E0 ta t tk) := by
  obtain ⟨f, fd, g, F, hm, hb⟩ := c.ex
  exact pe_methN he cl hm F hr hb pass0 ha hkw hall hks hst hpl ht
theorem pe_c0 (c : CallC X.prog X.w X.K X.mg X.base k C x ps dvs sp) (hr : Room (k + 1) X.A) (hg : Gl X x) (hdb : (x == ("__debug__" : Str)) = false := by decide) : PE X (.Call (.Name x p) [] [] pos) (tMake C sp dvs E0 tNil) := by
  obtain ⟨f, fd, ds, F, M, hm, hb, hd⟩ := c.ex
  exact pe_make0 M F hr hg hm hb hd pass0 hdb
end
end Fb

namespace Fb
open PySem PySem.Spec PyProof.Rows L2
/-! ### the text by places -/
def top (i : Nat) : Stmt := PySem.Challenge.pw_fairbourse_k24_book_whole_model.main.body.getD i (.Pass ⟨0, 0, 0, 0⟩)
abbrev s_is_integer : Stmt := top 10
abbrev n_is_integer : List Str := ["value"]
theorem sc_is_integer : FnScope n_is_integer ["value"] (defScope s_is_integer) := ⟨rfl, rfl, rfl, by decide +kernel, rfl, by decide +kernel, by decide +kernel⟩
abbrev s_in_range : Stmt := top 11
abbrev n_in_range : List Str := ["value"]
theorem sc_in_range : FnScope n_in_range ["value"] (defScope s_in_range) := ⟨rfl, rfl, rfl, by decide +kernel, rfl, by decide +kernel, by decide +kernel⟩
abbrev s_Order__init : Stmt := inClass (top 12) 0
abbrev n_Order__init : List Str := ["self", "number", "house", "side", "price", "quantity", "shown"]
theorem sc_Order__init : FnScope n_Order__init ["self", "number", "house", "side", "price", "quantity", "shown"] (defScope s_Order__init) := ⟨rfl, rfl, rfl, by decide +kernel, rfl, by decide +kernel, by decide +kernel⟩
abbrev s_Order_show_next_part : Stmt := inClass (top 12) 1
abbrev n_Order_show_next_part : List Str := ["self"]
theorem sc_Order_show_next_part : FnScope n_Order_show_next_part ["self"] (defScope s_Order_show_next_part) := ⟨rfl, rfl, rfl, by decide +kernel, rfl, by decide +kernel, by decide +kernel⟩
abbrev s_Order_take : Stmt := inClass (top 12) 2
abbrev n_Order_take : List Str := ["self", "quantity"]
theorem sc_Order_take : FnScope n_Order_take ["self", "quantity"] (defScope s_Order_take) := ⟨rfl, rfl, rfl, by decide +kernel, rfl, by decide +kernel, by decide +kernel⟩
abbrev s_Order_reduce : Stmt := inClass (top 12) 3
abbrev n_Order_reduce : List Str := ["self", "quantity"]
theorem sc_Order_reduce : FnScope n_Order_reduce ["self", "quantity"] (defScope s_Order_reduce) := ⟨rfl, rfl, rfl, by decide +kernel, rfl, by decide +kernel, by decide +kernel⟩
abbrev s_Order_entry : Stmt := inClass (top 12) 4
abbrev n_Order_entry : List Str := ["self"]
theorem sc_Order_entry : FnScope n_Order_entry ["self"] (defScope s_Order_entry) := ⟨rfl, rfl, rfl, by decide +kernel, rfl, by decide +kernel, by decide +kernel⟩
abbrev s_other_side : Stmt := top 13
abbrev n_other_side : List Str := ["side"]
theorem sc_other_side : FnScope n_other_side ["side"] (defScope s_other_side) := ⟨rfl, rfl, rfl, by decide +kernel, rfl, by decide +kernel, by decide +kernel⟩
abbrev s_is_better : Stmt := top 14
abbrev n_is_better : List Str := ["side", "price", "other"]
theorem sc_is_better : FnScope n_is_better ["side", "price", "other"] (defScope s_is_better) := ⟨rfl, rfl, rfl, by decide +kernel, rfl, by decide +kernel, by decide +kernel⟩
abbrev s_accepts : Stmt := top 15
abbrev n_accepts : List Str := ["side", "limit", "price"]
theorem sc_accepts : FnScope n_accepts ["side", "limit", "price"] (defScope s_accepts) := ⟨rfl, rfl, rfl, by decide +kernel, rfl, by decide +kernel, by decide +kernel⟩
abbrev s_check_order : Stmt := top 16
abbrev n_check_order : List Str := ["side", "price", "quantity", "kind", "shown"]
theorem sc_check_order : FnScope n_check_order ["side", "price", "quantity", "kind", "shown"] (defScope s_check_order) := ⟨rfl, rfl, rfl, by decide +kernel, rfl, by decide +kernel, by decide +kernel⟩
abbrev s_Report__init : Stmt := inClass (top 18) 0
abbrev n_Report__init : List Str := ["self", "order", "fills", "removed", "resting"]
theorem sc_Report__init : FnScope n_Report__init ["self", "order", "fills", "removed", "resting"] (defScope s_Report__init) := ⟨rfl, rfl, rfl, by decide +kernel, rfl, by decide +kernel, by decide +kernel⟩
abbrev s_Book__init : Stmt := inClass (top 19) 0
abbrev n_Book__init : List Str := ["self", "first_number"]
theorem sc_Book__init : FnScope n_Book__init ["self", "first_number"] (defScope s_Book__init) := ⟨rfl, rfl, rfl, by decide +kernel, rfl, by decide +kernel, by decide +kernel⟩
abbrev s_Book_orders : Stmt := inClass (top 19) 1
abbrev n_Book_orders : List Str := ["self", "side", "order"]
theorem sc_Book_orders : FnScope n_Book_orders ["self", "side"] (defScope s_Book_orders) := ⟨rfl, rfl, rfl, by decide +kernel, rfl, by decide +kernel, by decide +kernel⟩
abbrev s_Book_submit : Stmt := inClass (top 19) 5
abbrev n_Book_submit : List Str := ["self", "house", "side", "price", "quantity", "kind", "shown", "order", "report"]
theorem sc_Book_submit : FnScope n_Book_submit ["self", "house", "side", "price", "quantity", "kind", "shown"] (defScope s_Book_submit) := ⟨rfl, rfl, rfl, by decide +kernel, rfl, by decide +kernel, by decide +kernel⟩
abbrev s_Book_cancel : Stmt := inClass (top 19) 8
abbrev n_Book_cancel : List Str := ["self", "number", "house", "stop", "order"]
theorem sc_Book_cancel : FnScope n_Book_cancel ["self", "number", "house"] (defScope s_Book_cancel) := ⟨rfl, rfl, rfl, by decide +kernel, rfl, by decide +kernel, by decide +kernel⟩
abbrev s_Book_amend : Stmt := inClass (top 19) 9
abbrev n_Book_amend : List Str := ["self", "number", "house", "price", "quantity", "order", "changed", "report"]
theorem sc_Book_amend : FnScope n_Book_amend ["self", "number", "house", "price", "quantity"] (defScope s_Book_amend) := ⟨rfl, rfl, rfl, by decide +kernel, rfl, by decide +kernel, by decide +kernel⟩
abbrev s_Book_new_number : Stmt := inClass (top 19) 10
abbrev n_Book_new_number : List Str := ["self", "number"]
theorem sc_Book_new_number : FnScope n_Book_new_number ["self"] (defScope s_Book_new_number) := ⟨rfl, rfl, rfl, by decide +kernel, rfl, by decide +kernel, by decide +kernel⟩
abbrev s_Book_owned : Stmt := inClass (top 19) 11
abbrev n_Book_owned : List Str := ["self", "number", "house", "side", "order"]
theorem sc_Book_owned : FnScope n_Book_owned ["self", "number", "house"] (defScope s_Book_owned) := ⟨rfl, rfl, rfl, by decide +kernel, rfl, by decide +kernel, by decide +kernel⟩
abbrev s_Book_remove : Stmt := inClass (top 19) 12
abbrev n_Book_remove : List Str := ["self", "order", "kept", "other"]
theorem sc_Book_remove : FnScope n_Book_remove ["self", "order"] (defScope s_Book_remove) := ⟨rfl, rfl, rfl, by decide +kernel, rfl, by decide +kernel, by decide +kernel⟩
abbrev s_Book_insert : Stmt := inClass (top 19) 13
abbrev n_Book_insert : List Str := ["self", "order", "resting", "place"]
theorem sc_Book_insert : FnScope n_Book_insert ["self", "order"] (defScope s_Book_insert) := ⟨rfl, rfl, rfl, by decide +kernel, rfl, by decide +kernel, by decide +kernel⟩
abbrev s_Book_available : Stmt := inClass (top 19) 14
abbrev n_Book_available : List Str := ["self", "order", "total", "other"]
theorem sc_Book_available : FnScope n_Book_available ["self", "order"] (defScope s_Book_available) := ⟨rfl, rfl, rfl, by decide +kernel, rfl, by decide +kernel, by decide +kernel⟩
abbrev s_Book_enter : Stmt := inClass (top 19) 15
abbrev n_Book_enter : List Str := ["self", "order", "kind", "fills", "removed", "resting"]
theorem sc_Book_enter : FnScope n_Book_enter ["self", "order", "kind"] (defScope s_Book_enter) := ⟨rfl, rfl, rfl, by decide +kernel, rfl, by decide +kernel, by decide +kernel⟩
abbrev s_Book_match : Stmt := inClass (top 19) 16
abbrev n_Book_match : List Str := ["self", "order", "fills", "removed", "resting", "first", "quantity"]
theorem sc_Book_match : FnScope n_Book_match ["self", "order", "fills", "removed"] (defScope s_Book_match) := ⟨rfl, rfl, rfl, by decide +kernel, rfl, by decide +kernel, by decide +kernel⟩
abbrev s_Book_settle_first : Stmt := inClass (top 19) 17
abbrev n_Book_settle_first : List Str := ["self", "resting", "first"]
theorem sc_Book_settle_first : FnScope n_Book_settle_first ["self", "resting", "first"] (defScope s_Book_settle_first) := ⟨rfl, rfl, rfl, by decide +kernel, rfl, by decide +kernel, by decide +kernel⟩
abbrev s_Book_trigger : Stmt := inClass (top 19) 18
abbrev n_Book_trigger : List Str := ["self", "reports", "reached", "order", "kind"]
theorem sc_Book_trigger : FnScope n_Book_trigger ["self"] (defScope s_Book_trigger) := ⟨rfl, rfl, rfl, by decide +kernel, rfl, by decide +kernel, by decide +kernel⟩
abbrev s_Book_first_reached : Stmt := inClass (top 19) 19
abbrev n_Book_first_reached : List Str := ["self", "stop"]
theorem sc_Book_first_reached : FnScope n_Book_first_reached ["self"] (defScope s_Book_first_reached) := ⟨rfl, rfl, rfl, by decide +kernel, rfl, by decide +kernel, by decide +kernel⟩
abbrev s_law_house : Stmt := top 21
abbrev n_law_house : List Str := ["_law_cell"]
theorem sc_law_house : FnScope n_law_house ["_law_cell"] (defScope s_law_house) := ⟨rfl, rfl, rfl, by decide +kernel, rfl, by decide +kernel, by decide +kernel⟩
abbrev s_law_resting_side : Stmt := top 22
abbrev n_law_resting_side : List Str := ["_law_side"]
theorem sc_law_resting_side : FnScope n_law_resting_side ["_law_side"] (defScope s_law_resting_side) := ⟨rfl, rfl, rfl, by decide +kernel, rfl, by decide +kernel, by decide +kernel⟩
abbrev s_law_fits : Stmt := top 23
abbrev n_law_fits : List Str := ["_law_side", "_law_limit", "_law_price"]
theorem sc_law_fits : FnScope n_law_fits ["_law_side", "_law_limit", "_law_price"] (defScope s_law_fits) := ⟨rfl, rfl, rfl, by decide +kernel, rfl, by decide +kernel, by decide +kernel⟩
abbrev s_law_first : Stmt := top 24
abbrev n_law_first : List Str := ["_law_orders", "_law_side", "_law_limit", "_law_best", "_law_order"]
theorem sc_law_first : FnScope n_law_first ["_law_orders", "_law_side", "_law_limit"] (defScope s_law_first) := ⟨rfl, rfl, rfl, by decide +kernel, rfl, by decide +kernel, by decide +kernel⟩
abbrev s_law_visible : Stmt := top 25
abbrev n_law_visible : List Str := ["_law_left", "_law_shown"]
theorem sc_law_visible : FnScope n_law_visible ["_law_left", "_law_shown"] (defScope s_law_visible) := ⟨rfl, rfl, rfl, by decide +kernel, rfl, by decide +kernel, by decide +kernel⟩
abbrev s_law_trade : Stmt := top 26
abbrev n_law_trade : List Str := ["_law_orders", "_law_house_here", "_law_side", "_law_limit", "_law_quantity", "_law_fills", "_law_removed", "_law_left", "_law_step", "_law_first_here", "_law_traded"]
theorem sc_law_trade : FnScope n_law_trade ["_law_orders", "_law_house_here", "_law_side", "_law_limit", "_law_quantity"] (defScope s_law_trade) := ⟨rfl, rfl, rfl, by decide +kernel, rfl, by decide +kernel, by decide +kernel⟩
abbrev s_law_available : Stmt := top 27
abbrev n_law_available : List Str := ["_law_orders", "_law_house_here", "_law_side", "_law_limit", "_law_total", "_law_order"]
theorem sc_law_available : FnScope n_law_available ["_law_orders", "_law_house_here", "_law_side", "_law_limit"] (defScope s_law_available) := ⟨rfl, rfl, rfl, by decide +kernel, rfl, by decide +kernel, by decide +kernel⟩
abbrev s_law_enter : Stmt := top 28
abbrev n_law_enter : List Str := ["_law_orders", "_law_number", "_law_house_here", "_law_side", "_law_limit", "_law_quantity", "_law_kind", "_law_shown", "_law_fills", "_law_removed", "_law_left"]
theorem sc_law_enter : FnScope n_law_enter ["_law_orders", "_law_number", "_law_house_here", "_law_side", "_law_limit", "_law_quantity", "_law_kind", "_law_shown"] (defScope s_law_enter) := ⟨rfl, rfl, rfl, by decide +kernel, rfl, by decide +kernel, by decide +kernel⟩
abbrev s_law_listed : Stmt := top 29
abbrev n_law_listed : List Str := ["_law_orders", "_law_side", "_law_kept", "_law_rows", "_law_step", "_law_first_here", "_law_order"]
theorem sc_law_listed : FnScope n_law_listed ["_law_orders", "_law_side"] (defScope s_law_listed) := ⟨rfl, rfl, rfl, by decide +kernel, rfl, by decide +kernel, by decide +kernel⟩
abbrev s_law_same : Stmt := top 30
abbrev n_law_same : List Str := ["_law_book", "_law_orders", "_law_reports", "_law_due", "_law_number", "_law_report"]
theorem sc_law_same : FnScope n_law_same ["_law_book", "_law_orders", "_law_reports", "_law_due", "_law_number"] (defScope s_law_same) := ⟨rfl, rfl, rfl, by decide +kernel, rfl, by decide +kernel, by decide +kernel⟩
abbrev s_law_submit : Stmt := top 31
abbrev n_law_submit : List Str := ["_law_book", "_law_orders", "_law_cell", "_law_number", "_law_house_here", "_law_side", "_law_limit", "_law_quantity", "_law_kind", "_law_shown", "_law_reports", "_law_due"]
theorem sc_law_submit : FnScope n_law_submit ["_law_book", "_law_orders", "_law_cell", "_law_number"] (defScope s_law_submit) := ⟨rfl, rfl, rfl, by decide +kernel, rfl, by decide +kernel, by decide +kernel⟩
abbrev s_law_cancel : Stmt := top 32
abbrev n_law_cancel : List Str := ["_law_book", "_law_orders", "_law_cell", "_law_order", "_law_quantity"]
theorem sc_law_cancel : FnScope n_law_cancel ["_law_book", "_law_orders", "_law_cell"] (defScope s_law_cancel) := ⟨rfl, rfl, rfl, by decide +kernel, rfl, by decide +kernel, by decide +kernel⟩
abbrev s_law_amend : Stmt := top 33
abbrev n_law_amend : List Str := ["_law_book", "_law_orders", "_law_cell", "_law_order", "_law_price", "_law_quantity", "_law_reports", "_law_due"]
theorem sc_law_amend : FnScope n_law_amend ["_law_book", "_law_orders", "_law_cell"] (defScope s_law_amend) := ⟨rfl, rfl, rfl, by decide +kernel, rfl, by decide +kernel, by decide +kernel⟩
abbrev s_law : Stmt := top 34
abbrev n_law : List Str := ["_law_script", "_law_book", "_law_orders", "_law_number", "_law_cell", "_law_step", "_law_right"]
theorem sc_law : FnScope n_law ["_law_script"] (defScope s_law) := ⟨rfl, rfl, rfl, by decide +kernel, rfl, by decide +kernel, by decide +kernel⟩
/-- what the walk asks of the classes and names as the top has made them -/
structure Txt (K : PySem.W.Frag) (mg : Str → Option Value) (CO CR CB : Addr) : Prop where
  clO : Cls K CO
  nO_number : NoAttr K CO "number"
  nO_house : NoAttr K CO "house"
  nO_side : NoAttr K CO "side"
  nO_price : NoAttr K CO "price"
  nO_left : NoAttr K CO "left"
  nO_shown : NoAttr K CO "shown"
  nO_visible : NoAttr K CO "visible"
  clR : Cls K CR
  nR_number : NoAttr K CR "number"
  nR_house : NoAttr K CR "house"
  nR_side : NoAttr K CR "side"
  nR_fills : NoAttr K CR "fills"
  nR_removed : NoAttr K CR "removed"
  nR_resting : NoAttr K CR "resting"
  clB : Cls K CB
  nB_resting : NoAttr K CB "_resting"
  nB_stops : NoAttr K CB "_stops"
  nB_next_number : NoAttr K CB "_next_number"
  nB_last : NoAttr K CB "last"
  zIsi : mg "isinstance" = none
  zInt : mg "int" = none
  zBool : mg "bool" = none
  zMin : mg "min" = none
  zLen : mg "len" = none
  zRange : mg "range" = none
  greatest : ∃ t, mg "GREATEST" = some (.int 1000000 t)
  sides : ∃ S, mg "SIDES" = some (.ref S) ∧ ∀ H, SqT K H S [.str "buy", .str "sell"]
  kinds : ∃ S, mg "KINDS" = some (.ref S) ∧ ∀ H, SqT K H S [.str "rest", .str "now", .str "all"]
end Fb

namespace Fb
open PySem PySem.Spec PyProof.Rows L2
/-! ### what is asked of the top -/
structure FunF (K : PySem.W.Frag) (mg : Str → Option Value) (x qual : Str) (st : Stmt) : Prop where
  ex : ∃ f fd, mg x = some (.ref f) ∧ Fun K x qual st f fd
structure FunM (K : PySem.W.Frag) (C : Addr) (m qual : Str) (st : Stmt) : Prop where
  ex : ∃ f fd, Meth K C m f ∧ Fun K m qual st f fd
section
variable {K : PySem.W.Frag} {mg : Str → Option Value} {h : Heap} {x qual : Str} {st : Stmt} {f : Addr} {oc : Value} {od an : Option Addr} {osl : Array (Option Value)} {kV doc pm cdv ct : Value}
theorem FunF.of (X : K.In h) (G : h.Ns mainGlobals mg) (a : PySem.W.nsIn K mainGlobals x = some (some (.ref f))) (l : K.lookup f = some ⟨oc, od, .func (PySem.W.fnOf x qual (defArgs st) (defBody st) (defScope st) .none kV doc pm an cdv ct), osl⟩)
    (c : PySem.W.codeIn K cdv qual = true) (k : PySem.W.keepIn K (.ref f) = true) : FunF K mg x qual st := ⟨f, _, PySem.W.mg_of X G a, fun_mk l c k⟩
theorem FunM.of {C : Addr} (a : PySem.W.findIn K (.ref C) x = some (some (.ref f))) (i : PySem.W.isFn K (.ref f) = true) (l : K.lookup f = some ⟨oc, od, .func (PySem.W.fnOf x qual (defArgs st) (defBody st) (defScope st) .none kV doc pm an cdv ct), osl⟩)
    (c : PySem.W.codeIn K cdv qual = true) (k : PySem.W.keepIn K (.ref f) = true) : FunM K C x qual st := ⟨f, _, ⟨a, i, k⟩, fun_mk l c k⟩
/-- Book.__init__, with its default -/
structure FunI (K : PySem.W.Frag) (C : Addr) : Prop where
  ex : ∃ f fd, Mk K C f ∧ FunD K "__init__" "Book.__init__" (defArgs s_Book__init) (defBody s_Book__init) (defScope s_Book__init) [.int 1] [] f fd
theorem FunI.of {C T : Addr} {ocT : Value} {odT : Option Addr} {its : Array Value} {n : Nat} {slT : Array (Option Value)} (m : PySem.W.makesIn K C = true) (kc : PySem.W.keepIn K (.ref C) = true) (a : PySem.W.findIn K (.ref C) "__init__" = some (some (.ref f))) (i : PySem.W.isFn K (.ref f) = true)
    (l : K.lookup f = some ⟨oc, od, .func (PySem.W.fnOf "__init__" "Book.__init__" (defArgs s_Book__init) (defBody s_Book__init) (defScope s_Book__init) (.ref T) kV doc pm an cdv ct), osl⟩)
    (c : PySem.W.codeIn K cdv "Book.__init__" = true) (k : PySem.W.keepIn K (.ref f) = true) (lT : K.lookup T = some ⟨ocT, odT, .seq its n, slT⟩) (v : Vals [.int 1] its.toList) : FunI K C :=
  ⟨f, _, ⟨m, a, i, kc⟩, ⟨⟨oc, od, .ref T, kV, doc, pm, an, cdv, ct, osl, rfl, l, c, .inr ⟨by simp, T, _, its.toList, n, rfl, lT, rfl, v⟩, .inl rfl⟩, k⟩⟩
end

structure Facts (K : PySem.W.Frag) (mg : Str → Option Value) (CO CR CB : Addr) : Prop where
  T : Txt K mg CO CR CB
  mO : mg "Order" = some (.ref CO)
  mkO : PySem.W.makesIn K CO = true
  kcO : PySem.W.keepIn K (.ref CO) = true
  mR : mg "Report" = some (.ref CR)
  mkR : PySem.W.makesIn K CR = true
  kcR : PySem.W.keepIn K (.ref CR) = true
  mB : mg "Book" = some (.ref CB)
  mkB : PySem.W.makesIn K CB = true
  kcB : PySem.W.keepIn K (.ref CB) = true
  bookInit : FunI K CB
  f_is_integer : FunF K mg "is_integer" "is_integer" s_is_integer
  f_in_range : FunF K mg "in_range" "in_range" s_in_range
  f_Order__init : FunM K CO "__init__" "Order.__init__" s_Order__init
  f_Order_show_next_part : FunM K CO "show_next_part" "Order.show_next_part" s_Order_show_next_part
  f_Order_take : FunM K CO "take" "Order.take" s_Order_take
  f_Order_reduce : FunM K CO "reduce" "Order.reduce" s_Order_reduce
  f_Order_entry : FunM K CO "entry" "Order.entry" s_Order_entry
  f_other_side : FunF K mg "other_side" "other_side" s_other_side
  f_is_better : FunF K mg "is_better" "is_better" s_is_better
  f_accepts : FunF K mg "accepts" "accepts" s_accepts
  f_check_order : FunF K mg "check_order" "check_order" s_check_order
  f_Report__init : FunM K CR "__init__" "Report.__init__" s_Report__init
  f_Book_orders : FunM K CB "orders" "Book.orders" s_Book_orders
  f_Book_submit : FunM K CB "submit" "Book.submit" s_Book_submit
  f_Book_cancel : FunM K CB "cancel" "Book.cancel" s_Book_cancel
  f_Book_amend : FunM K CB "amend" "Book.amend" s_Book_amend
  f_Book_new_number : FunM K CB "_new_number" "Book._new_number" s_Book_new_number
  f_Book_owned : FunM K CB "_owned" "Book._owned" s_Book_owned
  f_Book_remove : FunM K CB "_remove" "Book._remove" s_Book_remove
  f_Book_insert : FunM K CB "_insert" "Book._insert" s_Book_insert
  f_Book_available : FunM K CB "_available" "Book._available" s_Book_available
  f_Book_enter : FunM K CB "_enter" "Book._enter" s_Book_enter
  f_Book_match : FunM K CB "_match" "Book._match" s_Book_match
  f_Book_settle_first : FunM K CB "_settle_first" "Book._settle_first" s_Book_settle_first
  f_Book_trigger : FunM K CB "_trigger" "Book._trigger" s_Book_trigger
  f_Book_first_reached : FunM K CB "_first_reached" "Book._first_reached" s_Book_first_reached
  f_law_house : FunF K mg "_law_house" "_law_house" s_law_house
  f_law_resting_side : FunF K mg "_law_resting_side" "_law_resting_side" s_law_resting_side
  f_law_fits : FunF K mg "_law_fits" "_law_fits" s_law_fits
  f_law_first : FunF K mg "_law_first" "_law_first" s_law_first
  f_law_visible : FunF K mg "_law_visible" "_law_visible" s_law_visible
  f_law_trade : FunF K mg "_law_trade" "_law_trade" s_law_trade
  f_law_available : FunF K mg "_law_available" "_law_available" s_law_available
  f_law_enter : FunF K mg "_law_enter" "_law_enter" s_law_enter
  f_law_listed : FunF K mg "_law_listed" "_law_listed" s_law_listed
  f_law_same : FunF K mg "_law_same" "_law_same" s_law_same
  f_law_submit : FunF K mg "_law_submit" "_law_submit" s_law_submit
  f_law_cancel : FunF K mg "_law_cancel" "_law_cancel" s_law_cancel
  f_law_amend : FunF K mg "_law_amend" "_law_amend" s_law_amend
  f_law : FunF K mg "law" "law" s_law
theorem Facts.of {K : PySem.W.Frag} {mg : Str → Option Value} {h : Heap} {CO CR CB AS AK : Addr} {tG : Tok} {ocS ocK : Value} {odS odK : Option Addr} {itsS itsK : Array Value} {nS nK : Nat} {slS slK : Array (Option Value)} (X : K.In h) (G : h.Ns mainGlobals mg)
    (aO : PySem.W.nsIn K mainGlobals "Order" = some (some (.ref CO)))
    (aR : PySem.W.nsIn K mainGlobals "Report" = some (some (.ref CR)))
    (aB : PySem.W.nsIn K mainGlobals "Book" = some (some (.ref CB)))
    (pgO : PySem.W.plainGet K CO Str.empty = true)
    (hdO : PySem.W.hasDictIn K CO = true)
    (poO : PySem.W.plainOver K CO = true)
    (saO : PySem.W.findIn K (.ref CO) "__setattr__" = some (some (.builtin "object.__setattr__")))
    (mkO : PySem.W.makesIn K CO = true)
    (kcO : PySem.W.keepIn K (.ref CO) = true)
    (nO_number : PySem.W.findIn K (.ref CO) "number" = some none)
    (nO_house : PySem.W.findIn K (.ref CO) "house" = some none)
    (nO_side : PySem.W.findIn K (.ref CO) "side" = some none)
    (nO_price : PySem.W.findIn K (.ref CO) "price" = some none)
    (nO_left : PySem.W.findIn K (.ref CO) "left" = some none)
    (nO_shown : PySem.W.findIn K (.ref CO) "shown" = some none)
    (nO_visible : PySem.W.findIn K (.ref CO) "visible" = some none)
    (pgR : PySem.W.plainGet K CR Str.empty = true)
    (hdR : PySem.W.hasDictIn K CR = true)
    (poR : PySem.W.plainOver K CR = true)
    (saR : PySem.W.findIn K (.ref CR) "__setattr__" = some (some (.builtin "object.__setattr__")))
    (mkR : PySem.W.makesIn K CR = true)
    (kcR : PySem.W.keepIn K (.ref CR) = true)
    (nR_number : PySem.W.findIn K (.ref CR) "number" = some none)
    (nR_house : PySem.W.findIn K (.ref CR) "house" = some none)
    (nR_side : PySem.W.findIn K (.ref CR) "side" = some none)
    (nR_fills : PySem.W.findIn K (.ref CR) "fills" = some none)
    (nR_removed : PySem.W.findIn K (.ref CR) "removed" = some none)
    (nR_resting : PySem.W.findIn K (.ref CR) "resting" = some none)
    (pgB : PySem.W.plainGet K CB Str.empty = true)
    (hdB : PySem.W.hasDictIn K CB = true)
    (poB : PySem.W.plainOver K CB = true)
    (saB : PySem.W.findIn K (.ref CB) "__setattr__" = some (some (.builtin "object.__setattr__")))
    (mkB : PySem.W.makesIn K CB = true)
    (kcB : PySem.W.keepIn K (.ref CB) = true)
    (nB_resting : PySem.W.findIn K (.ref CB) "_resting" = some none)
    (nB_stops : PySem.W.findIn K (.ref CB) "_stops" = some none)
    (nB_next_number : PySem.W.findIn K (.ref CB) "_next_number" = some none)
    (nB_last : PySem.W.findIn K (.ref CB) "last" = some none)
    (zIsi : PySem.W.nsIn K mainGlobals "isinstance" = some none)
    (zInt : PySem.W.nsIn K mainGlobals "int" = some none)
    (zBool : PySem.W.nsIn K mainGlobals "bool" = some none)
    (zMin : PySem.W.nsIn K mainGlobals "min" = some none)
    (zLen : PySem.W.nsIn K mainGlobals "len" = some none)
    (zRange : PySem.W.nsIn K mainGlobals "range" = some none)
    (gG : PySem.W.nsIn K mainGlobals "GREATEST" = some (some (.int 1000000 tG)))
    (gS : PySem.W.nsIn K mainGlobals "SIDES" = some (some (.ref AS)))
    (lS : K.lookup AS = some ⟨ocS, odS, .seq itsS nS, slS⟩)
    (cS : ocS = .type "tuple")
    (gK : PySem.W.nsIn K mainGlobals "KINDS" = some (some (.ref AK)))
    (lK : K.lookup AK = some ⟨ocK, odK, .seq itsK nK, slK⟩)
    (cK : ocK = .type "tuple")
    (iS : Vals [.str "buy", .str "sell"] itsS.toList)
    (iK : Vals [.str "rest", .str "now", .str "all"] itsK.toList)
    (bookInit : FunI K CB)
    (f_is_integer : FunF K mg "is_integer" "is_integer" s_is_integer)
    (f_in_range : FunF K mg "in_range" "in_range" s_in_range)
    (f_Order__init : FunM K CO "__init__" "Order.__init__" s_Order__init)
    (f_Order_show_next_part : FunM K CO "show_next_part" "Order.show_next_part" s_Order_show_next_part)
    (f_Order_take : FunM K CO "take" "Order.take" s_Order_take)
    (f_Order_reduce : FunM K CO "reduce" "Order.reduce" s_Order_reduce)
    (f_Order_entry : FunM K CO "entry" "Order.entry" s_Order_entry)
    (f_other_side : FunF K mg "other_side" "other_side" s_other_side)
    (f_is_better : FunF K mg "is_better" "is_better" s_is_better)
    (f_accepts : FunF K mg "accepts" "accepts" s_accepts)
    (f_check_order : FunF K mg "check_order" "check_order" s_check_order)
    (f_Report__init : FunM K CR "__init__" "Report.__init__" s_Report__init)
    (f_Book_orders : FunM K CB "orders" "Book.orders" s_Book_orders)
    (f_Book_submit : FunM K CB "submit" "Book.submit" s_Book_submit)
    (f_Book_cancel : FunM K CB "cancel" "Book.cancel" s_Book_cancel)
    (f_Book_amend : FunM K CB "amend" "Book.amend" s_Book_amend)
    (f_Book_new_number : FunM K CB "_new_number" "Book._new_number" s_Book_new_number)
    (f_Book_owned : FunM K CB "_owned" "Book._owned" s_Book_owned)
    (f_Book_remove : FunM K CB "_remove" "Book._remove" s_Book_remove)
    (f_Book_insert : FunM K CB "_insert" "Book._insert" s_Book_insert)
    (f_Book_available : FunM K CB "_available" "Book._available" s_Book_available)
    (f_Book_enter : FunM K CB "_enter" "Book._enter" s_Book_enter)
    (f_Book_match : FunM K CB "_match" "Book._match" s_Book_match)
    (f_Book_settle_first : FunM K CB "_settle_first" "Book._settle_first" s_Book_settle_first)
    (f_Book_trigger : FunM K CB "_trigger" "Book._trigger" s_Book_trigger)
    (f_Book_first_reached : FunM K CB "_first_reached" "Book._first_reached" s_Book_first_reached)
    (f_law_house : FunF K mg "_law_house" "_law_house" s_law_house)
    (f_law_resting_side : FunF K mg "_law_resting_side" "_law_resting_side" s_law_resting_side)
    (f_law_fits : FunF K mg "_law_fits" "_law_fits" s_law_fits)
    (f_law_first : FunF K mg "_law_first" "_law_first" s_law_first)
    (f_law_visible : FunF K mg "_law_visible" "_law_visible" s_law_visible)
    (f_law_trade : FunF K mg "_law_trade" "_law_trade" s_law_trade)
    (f_law_available : FunF K mg "_law_available" "_law_available" s_law_available)
    (f_law_enter : FunF K mg "_law_enter" "_law_enter" s_law_enter)
    (f_law_listed : FunF K mg "_law_listed" "_law_listed" s_law_listed)
    (f_law_same : FunF K mg "_law_same" "_law_same" s_law_same)
    (f_law_submit : FunF K mg "_law_submit" "_law_submit" s_law_submit)
    (f_law_cancel : FunF K mg "_law_cancel" "_law_cancel" s_law_cancel)
    (f_law_amend : FunF K mg "_law_amend" "_law_amend" s_law_amend)
    (f_law : FunF K mg "law" "law" s_law)
    : Facts K mg CO CR CB where
  T := { clO := ⟨pgO, hdO, poO, saO⟩, nO_number := nO_number, nO_house := nO_house, nO_side := nO_side, nO_price := nO_price, nO_left := nO_left, nO_shown := nO_shown, nO_visible := nO_visible, clR := ⟨pgR, hdR, poR, saR⟩, nR_number := nR_number, nR_house := nR_house, nR_side := nR_side, nR_fills := nR_fills, nR_removed := nR_removed, nR_resting := nR_resting, clB := ⟨pgB, hdB, poB, saB⟩, nB_resting := nB_resting, nB_stops := nB_stops, nB_next_number := nB_next_number, nB_last := nB_last, zIsi := PySem.W.mg_none_of X G zIsi, zInt := PySem.W.mg_none_of X G zInt, zBool := PySem.W.mg_none_of X G zBool, zMin := PySem.W.mg_none_of X G zMin, zLen := PySem.W.mg_none_of X G zLen, zRange := PySem.W.mg_none_of X G zRange, greatest := ⟨tG, PySem.W.mg_of X G gG⟩, sides := ⟨AS, PySem.W.mg_of X G gS, fun H => .inr ⟨_, itsS, nS, lS, cS, rfl, by have e := iS.length; simp at e; have z := sizeLine_eq; omega, iS⟩⟩, kinds := ⟨AK, PySem.W.mg_of X G gK, fun H => .inr ⟨_, itsK, nK, lK, cK, rfl, by have e := iK.length; simp at e; have z := sizeLine_eq; omega, iK⟩⟩ }
  mO := PySem.W.mg_of X G aO
  mkO := mkO
  kcO := kcO
  mR := PySem.W.mg_of X G aR
  mkR := mkR
  kcR := kcR
  mB := PySem.W.mg_of X G aB
  mkB := mkB
  kcB := kcB
  bookInit := bookInit
  f_is_integer := f_is_integer
  f_in_range := f_in_range
  f_Order__init := f_Order__init
  f_Order_show_next_part := f_Order_show_next_part
  f_Order_take := f_Order_take
  f_Order_reduce := f_Order_reduce
  f_Order_entry := f_Order_entry
  f_other_side := f_other_side
  f_is_better := f_is_better
  f_accepts := f_accepts
  f_check_order := f_check_order
  f_Report__init := f_Report__init
  f_Book_orders := f_Book_orders
  f_Book_submit := f_Book_submit
  f_Book_cancel := f_Book_cancel
  f_Book_amend := f_Book_amend
  f_Book_new_number := f_Book_new_number
  f_Book_owned := f_Book_owned
  f_Book_remove := f_Book_remove
  f_Book_insert := f_Book_insert
  f_Book_available := f_Book_available
  f_Book_enter := f_Book_enter
  f_Book_match := f_Book_match
  f_Book_settle_first := f_Book_settle_first
  f_Book_trigger := f_Book_trigger
  f_Book_first_reached := f_Book_first_reached
  f_law_house := f_law_house
  f_law_resting_side := f_law_resting_side
  f_law_fits := f_law_fits
  f_law_first := f_law_first
  f_law_visible := f_law_visible
  f_law_trade := f_law_trade
  f_law_available := f_law_available
  f_law_enter := f_law_enter
  f_law_listed := f_law_listed
  f_law_same := f_law_same
  f_law_submit := f_law_submit
  f_law_cancel := f_law_cancel
  f_law_amend := f_law_amend
  f_law := f_law
end Fb

namespace Fb
open PySem PySem.Spec PyProof.Rows L2
section
variable {P : Program} {w : World} {K : PySem.W.Frag} {mg : Str → Option Value} {base : Heap} {CO CR CB : Addr}
/-! ### reading a field -/
theorem gfld {K : PySem.W.Frag} {a C dx : Addr} {fs : List (Str × V)} {H : Hp} {f : Str} {v : V} {Q : V → Prop} (hp : H a = some (.ins C dx fs)) (c : Cls K C) (n : NoAttr K C f) (l : fs.lookup f = some v) (q : Q v) :
    ∃ (a' : Addr) (C dx : Addr) (fs : List (Str × V)) (v' : V), V.ref a = .ref a' ∧ H a' = some (.ins C dx fs) ∧ Cls K C ∧ NoAttr K C f ∧ fs.lookup f = some v' ∧ Q v' := ⟨a, C, dx, fs, v, rfl, hp, c, n, l, q⟩
theorem o_len {n : Int} {h : Str} {b : Bool} {pr : V} {l v s : Int} : (oF n h b pr l v s).length < 1000 := by show 7 < 1000; decide
theorem b_len {d st : Addr} {n : Int} {lv : V} : (bF d st n lv).length < 1000 := by show 4 < 1000; decide
theorem zl {ks : List Str} {vs : List V} (h : ks.length < 1000) : (ks.zip vs).length < 1000 := by
  rw [List.length_zip]
  omega
theorem iteD {p : Prop} [Decidable p] {A B : Prop} (h1 : p → A) (h2 : ¬ p → B) : if decide p = true then A else B := by
  by_cases h : p
  · rw [if_pos (decide_eq_true h)]; exact h1 h
  · rw [if_neg (by simpa using h)]; exact h2 h
theorem iteB {c : Bool} {A B : Prop} (h1 : c = true → A) (h2 : c = false → B) : if c = true then A else B := by
  cases c with
  | true => exact iteT (h1 rfl)
  | false => exact iteF (h2 rfl)
theorem iteDT {p : Prop} [Decidable p] {A B : Prop} (hp : p) (h : A) : if decide p = true then A else B := iteD (fun _ => h) fun n => absurd hp n
theorem iteDF {p : Prop} [Decidable p] {A B : Prop} (hp : ¬ p) (h : B) : if decide p = true then A else B := iteD (fun n => absurd n hp) fun _ => h
theorem bl_eq {Q : V → Hp → Prop} {H : Hp} {a b : Bool} (e : a = b) (k : Q (.bl b) H) : Q (.bl a) H := by rw [e]; exact k
theorem int_eq {Q : V → Hp → Prop} {H : Hp} {a b : Int} (e : a = b) (k : Q (.int b) H) : Q (.int a) H := by rw [e]; exact k

/-! ### the promises -/
def spIsInt : Sp := fun vs H Q _ => ∃ i : Int, vs = [.int i] ∧ Q (.bl true) H
def spInRange : Sp := fun vs H Q _ => ∃ i : Int, vs = [.int i] ∧ 1 ≤ i ∧ i ≤ 1000000 ∧ Q (.bl true) H
def spShow (CO : Addr) : Sp := fun vs H Q _ => ∃ (a dx : Addr) (n : Int) (h : Str) (b : Bool) (pr : V) (l v s : Int), vs = [.ref a] ∧ H a = some (.ins CO dx (oF n h b pr l v s)) ∧ Q .non (upd H a (.ins CO dx (oF n h b pr l (nextVis l s) s)))
def spOInit (CO : Addr) : Sp := fun vs H Q _ => ∃ (a dx : Addr) (n : Int) (h : Str) (b : Bool) (pr : V) (l s : Int), vs = [.ref a, .int n, .str h, .str (sd b), pr, .int l, .int s] ∧ H a = some (.ins CO dx []) ∧ Q .non (upd H a (.ins CO dx (oF n h b pr l (nextVis l s) s)))
def spTake (CO : Addr) : Sp := fun vs H Q _ => ∃ (a dx : Addr) (n : Int) (h : Str) (b : Bool) (pr : V) (l v s t : Int), vs = [.ref a, .int t] ∧ H a = some (.ins CO dx (oF n h b pr l v s)) ∧ Q .non (upd H a (.ins CO dx (oF n h b pr (l - t) (v - t) s)))
def spReduce (CO : Addr) : Sp := fun vs H Q _ => ∃ (a dx : Addr) (n : Int) (h : Str) (b : Bool) (pr : V) (l v s t : Int), vs = [.ref a, .int t] ∧ H a = some (.ins CO dx (oF n h b pr l v s)) ∧ Q .non (upd H a (.ins CO dx (oF n h b pr t (mn v t) s)))
def spEntry (CO : Addr) : Sp := fun vs H Q _ => ∃ (a dx : Addr) (n : Int) (h : Str) (b : Bool) (pr : V) (l v s : Int), vs = [.ref a] ∧ H a = some (.ins CO dx (oF n h b pr l v s)) ∧ ∀ p, H p = none → Q (.ref p) (upd H p (.tup [.int n, .str h, pr, .int l, .int v]))
def spOther : Sp := fun vs H Q _ => ∃ b : Bool, vs = [.str (sd b)] ∧ Q (.str (sd !b)) H
def spBetter : Sp := fun vs H Q _ => ∃ (b : Bool) (p q : Int), vs = [.str (sd b), .int p, .int q] ∧ Q (.bl (better b p q)) H
def spAccepts : Sp := fun vs H Q _ => ∃ (b : Bool) (lim : Option Int) (p : Int), vs = [.str (sd b), limV lim, .int p] ∧ Q (.bl (acc b lim p)) H
/-- what check_order lets through -/
structure Valid (lim : Option Int) (q : Int) (k : Kd) (s : Int) : Prop where
  lk : lim = none → k ≠ .rest
  lr : ∀ i, lim = some i → 1 ≤ i ∧ i ≤ 1000000
  qr : 1 ≤ q ∧ q ≤ 1000000
  sr : 0 ≤ s ∧ s ≤ q
  sk : 0 < s → k = .rest
def spCheck : Sp := fun vs H Q _ => ∃ (b : Bool) (lim : Option Int) (q : Int) (k : Kd) (s : Int), vs = [.str (sd b), limV lim, .int q, .str (kS k), .int s] ∧ Valid lim q k s ∧ Q .non H

theorem ok_is_integer {f : Addr} {fd : FuncData} (F : Fun K "is_integer" "is_integer" s_is_integer f fd) (T : Txt K mg CO CR CB) : FnOk P w K mg base CX0 1 f fd ["value"] spIsInt := by
  refine F.ok sc_is_integer (fun vs H Q E h => ?_) (fun cdv A outer s H vs Q E hr h => ?_)
  · obtain ⟨i, rfl, _⟩ := h
    rfl
  · obtain ⟨i, rfl, k⟩ := h
    refine ⟨_, (pss_one (ps_ret (pe_and (pe_callB call_isi (by rfl) T.zIsi boot_isinstance (pa_cons (pv 0) (pa_cons (pe_bltn (v := .ty "int") (by rfl) T.zInt boot_int rfl) pa_nil))) (pe_one (pe_not (pe_callB call_isi (by rfl) T.zIsi boot_isinstance (pa_cons (pv 0) (pa_cons (pe_bltn (v := .ty "bool") (by rfl) T.zBool boot_bool rfl) pa_nil)))))))), ?_⟩
    refine ⟨_, rfl, .int i, .ty "int", .type "int", .type "int", true, rfl, .ty "int", .base (.int i), kit_ty (by decide +kernel), true, rfl, iteT ?_⟩
    exact ⟨_, rfl, .int i, .ty "bool", .type "int", .type "bool", false, rfl, .ty "bool", .base (.int i), kit_ty (by decide +kernel), false, rfl, k⟩
theorem ok_in_range {f : Addr} {fd : FuncData} (F : Fun K "in_range" "in_range" s_in_range f fd) (T : Txt K mg CO CR CB) (c_is_integer : CallF P w K mg base 1 "is_integer" ["value"] spIsInt) : FnOk P w K mg base CX0 2 f fd ["value"] spInRange := by
  refine F.ok sc_in_range (fun vs H Q E h => ?_) (fun cdv A outer s H vs Q E hr h => ?_)
  · obtain ⟨i, rfl, _⟩ := h
    rfl
  · obtain ⟨i, rfl, h1, h2, k⟩ := h
    obtain ⟨tG, hG⟩ := T.greatest
    refine ⟨_, (pss_one (ps_ret (pe_and (pe_f c_is_integer (hr.mono (by decide)) (by rfl) (pa_cons (pv 0) pa_nil)) (pe_one (pe_chain op_le op_le pe_int (pv 0) (pe_glob (v := .int 1000000) (by rfl) hG ⟨_, rfl⟩)))))), ?_⟩
    refine ⟨_, rfl, i, rfl, true, rfl, iteT ?_⟩
    refine ⟨_, rfl, _, _, rfl, rfl, _, rfl, ?_⟩
    exact iteDT h1 ⟨_, _, rfl, rfl, bl_eq (decide_eq_true h2) k⟩
theorem ok_show {f : Addr} {fd : FuncData} (F : Fun K "show_next_part" "Order.show_next_part" s_Order_show_next_part f fd) (T : Txt K mg CO CR CB) : FnOk P w K mg base CX0 1 f fd ["self"] (spShow CO) := by
  refine F.ok sc_Order_show_next_part (fun vs H Q E h => ?_) (fun cdv A outer s H vs Q E hr h => ?_)
  · obtain ⟨a, dx, n, h, b, pr, l, v, s, rfl, _⟩ := h
    rfl
  · obtain ⟨a, dx, n, h, b, pr, l, v, s, rfl, hp, k⟩ := h
    refine ⟨_, (pss_cons (ps_fld (pv 0) (pe_fld (pv 0) rfl) rfl)
    (pss_one (ps_if (pt_cmpR op_gt (pe_fld (pv 0) rfl) pe_int (nomark _))
    (pss_one (ps_fld (pv 0) (pe_callB (call_min2 rfl) (by rfl) T.zMin boot_min (pa_cons (pe_fld (pv 0) rfl) (pa_cons (pe_fld (pv 0) rfl) pa_nil))) rfl))
    pss_nil))), ?_⟩
    refine ⟨_, rfl, gfld hp T.clO T.nO_left o_left ⟨_, rfl, a, CO, dx, _, rfl, hp, T.clO, T.nO_visible, o_len, ?_⟩⟩
    rw [o_put_visible]
    have hp' : upd H a (.ins CO dx (oF n h b pr l l s)) a = some (.ins CO dx (oF n h b pr l l s)) := upd_same
    refine ⟨_, rfl, gfld hp' T.clO T.nO_shown o_shown ⟨_, _, rfl, rfl, _, rfl, ?_⟩⟩
    refine iteD (fun hs => ?_) fun hs => ?_
    · refine ⟨_, rfl, gfld hp' T.clO T.nO_shown o_shown ⟨_, rfl, gfld hp' T.clO T.nO_left o_left ⟨_, _, rfl, _, rfl, a, CO, dx, _, rfl, hp', T.clO, T.nO_visible, o_len, ?_⟩⟩⟩
      rw [o_put_visible, upd_upd]
      unfold nextVis at k
      rw [if_pos hs] at k
      exact k
    · unfold nextVis at k
      rw [if_neg hs] at k
      exact k
theorem ok_oinit {f : Addr} {fd : FuncData} (F : Fun K "__init__" "Order.__init__" s_Order__init f fd) (T : Txt K mg CO CR CB) (c_show_next_part : CallM P w K mg base 1 CO "show_next_part" ["self"] (spShow CO)) :
    FnOk P w K mg base CX0 2 f fd ["self", "number", "house", "side", "price", "quantity", "shown"] (spOInit CO) := by
  refine F.ok sc_Order__init (fun vs H Q E h => ?_) (fun cdv A outer s H vs Q E hr h => ?_)
  · obtain ⟨a, dx, n, h, b, pr, l, s, rfl, _⟩ := h
    rfl
  · obtain ⟨a, dx, n, h, b, pr, l, s, rfl, hp, k⟩ := h
    refine ⟨_, (pss_cons (ps_fld (pv 0) (pv 1) rfl)
    (pss_cons (ps_fld (pv 0) (pv 2) rfl)
    (pss_cons (ps_fld (pv 0) (pv 3) rfl)
    (pss_cons (ps_fld (pv 0) (pv 4) rfl)
    (pss_cons (ps_fld (pv 0) (pv 5) rfl)
    (pss_cons (ps_fld (pv 0) (pv 6) rfl)
    (pss_cons (ps_fld (pv 0) (pv 5) rfl)
    (pss_one (ps_expr (pe_m0 c_show_next_part (hr.mono (by decide)) T.clO (pv 0))))))))))), ?_⟩
    refine ⟨_, rfl, _, rfl, a, CO, dx, _, rfl, hp, T.clO, T.nO_number, (by decide), ?_⟩
    rw [show ([] : List (Str × V)) = ([] : List Str).zip [] from rfl, pfn _ (by decide +kernel) rfl]
    refine ⟨_, rfl, _, rfl, a, CO, dx, _, rfl, upd_same, T.clO, T.nO_house, zl (by decide), ?_⟩
    rw [pfn _ (by decide +kernel) rfl, upd_upd]
    refine ⟨_, rfl, _, rfl, a, CO, dx, _, rfl, upd_same, T.clO, T.nO_side, zl (by decide), ?_⟩
    rw [pfn _ (by decide +kernel) rfl, upd_upd]
    refine ⟨_, rfl, _, rfl, a, CO, dx, _, rfl, upd_same, T.clO, T.nO_price, zl (by decide), ?_⟩
    rw [pfn _ (by decide +kernel) rfl, upd_upd]
    refine ⟨_, rfl, _, rfl, a, CO, dx, _, rfl, upd_same, T.clO, T.nO_left, zl (by decide), ?_⟩
    rw [pfn _ (by decide +kernel) rfl, upd_upd]
    refine ⟨_, rfl, _, rfl, a, CO, dx, _, rfl, upd_same, T.clO, T.nO_shown, zl (by decide), ?_⟩
    rw [pfn _ (by decide +kernel) rfl, upd_upd]
    refine ⟨_, rfl, _, rfl, a, CO, dx, _, rfl, upd_same, T.clO, T.nO_visible, zl (by decide), ?_⟩
    rw [pfn _ (by decide +kernel) rfl, upd_upd]
    refine ⟨_, rfl, a, dx, _, rfl, upd_same, ?_, a, dx, n, h, b, pr, l, l, s, rfl, upd_same, ?_⟩
    · exact lkn (by decide +kernel)
    · rw [upd_upd]
      exact k
theorem ok_take {f : Addr} {fd : FuncData} (F : Fun K "take" "Order.take" s_Order_take f fd) (T : Txt K mg CO CR CB) : FnOk P w K mg base CX0 1 f fd ["self", "quantity"] (spTake CO) := by
  refine F.ok sc_Order_take (fun vs H Q E h => ?_) (fun cdv A outer s H vs Q E hr h => ?_)
  · obtain ⟨a, dx, n, h, b, pr, l, v, s, t, rfl, _⟩ := h
    rfl
  · obtain ⟨a, dx, n, h, b, pr, l, v, s, t, rfl, hp, k⟩ := h
    refine ⟨_, (pss_cons (ps_fld (pv 0) (pe_op op_sub (pe_fld (pv 0) rfl) (pv 1)) rfl)
    (pss_one (ps_fld (pv 0) (pe_op op_sub (pe_fld (pv 0) rfl) (pv 1)) rfl))), ?_⟩
    refine ⟨_, rfl, gfld hp T.clO T.nO_left o_left ⟨_, rfl, _, _, rfl, rfl, _, rfl, a, CO, dx, _, rfl, hp, T.clO, T.nO_left, o_len, ?_⟩⟩
    rw [o_put_left]
    refine ⟨_, rfl, gfld upd_same T.clO T.nO_visible o_visible ⟨_, rfl, _, _, rfl, rfl, _, rfl, a, CO, dx, _, rfl, upd_same, T.clO, T.nO_visible, o_len, ?_⟩⟩
    rw [o_put_visible, upd_upd]
    exact k
theorem ok_reduce {f : Addr} {fd : FuncData} (F : Fun K "reduce" "Order.reduce" s_Order_reduce f fd) (T : Txt K mg CO CR CB) : FnOk P w K mg base CX0 1 f fd ["self", "quantity"] (spReduce CO) := by
  refine F.ok sc_Order_reduce (fun vs H Q E h => ?_) (fun cdv A outer s H vs Q E hr h => ?_)
  · obtain ⟨a, dx, n, h, b, pr, l, v, s, t, rfl, _⟩ := h
    rfl
  · obtain ⟨a, dx, n, h, b, pr, l, v, s, t, rfl, hp, k⟩ := h
    refine ⟨_, (pss_cons (ps_fld (pv 0) (pv 1) rfl)
    (pss_one (ps_fld (pv 0) (pe_callB (call_min2 rfl) (by rfl) T.zMin boot_min (pa_cons (pe_fld (pv 0) rfl) (pa_cons (pv 1) pa_nil))) rfl))), ?_⟩
    refine ⟨_, rfl, _, rfl, a, CO, dx, _, rfl, hp, T.clO, T.nO_left, o_len, ?_⟩
    rw [o_put_left]
    refine ⟨_, rfl, gfld upd_same T.clO T.nO_visible o_visible ⟨_, rfl, _, _, rfl, _, rfl, a, CO, dx, _, rfl, upd_same, T.clO, T.nO_visible, o_len, ?_⟩⟩
    rw [o_put_visible, upd_upd]
    exact k
theorem ok_entry {f : Addr} {fd : FuncData} (F : Fun K "entry" "Order.entry" s_Order_entry f fd) (T : Txt K mg CO CR CB) : FnOk P w K mg base CX0 1 f fd ["self"] (spEntry CO) := by
  refine F.ok sc_Order_entry (fun vs H Q E h => ?_) (fun cdv A outer s H vs Q E hr h => ?_)
  · obtain ⟨a, dx, n, h, b, pr, l, v, s, rfl, _⟩ := h
    rfl
  · obtain ⟨a, dx, n, h, b, pr, l, v, s, rfl, hp, k⟩ := h
    refine ⟨_, (pss_one (ps_ret (pe_tup (pa_cons (pe_fld (pv 0) rfl) (pa_cons (pe_fld (pv 0) rfl) (pa_cons (pe_fld (pv 0) rfl) (pa_cons (pe_fld (pv 0) rfl) (pa_cons (pe_fld (pv 0) rfl) pa_nil)))))))), ?_⟩
    refine ⟨_, rfl, gfld hp T.clO T.nO_number o_number ⟨_, rfl, gfld hp T.clO T.nO_house o_house ⟨_, rfl, gfld hp T.clO T.nO_price o_price ⟨_, rfl, gfld hp T.clO T.nO_left o_left ⟨_, rfl, gfld hp T.clO T.nO_visible o_visible ?_⟩⟩⟩⟩⟩
    exact ⟨by show 5 ≤ sizeLine; decide, k⟩
theorem ok_other {f : Addr} {fd : FuncData} (F : Fun K "other_side" "other_side" s_other_side f fd) (T : Txt K mg CO CR CB) : FnOk P w K mg base CX0 1 f fd ["side"] spOther := by
  refine F.ok sc_other_side (fun vs H Q E h => ?_) (fun cdv A outer s H vs Q E hr h => ?_)
  · obtain ⟨b, rfl, _⟩ := h
    rfl
  · obtain ⟨b, rfl, k⟩ := h
    refine ⟨_, (pss_cons (ps_if (pt_cmpR op_eq (pv 0) pe_str (nomark _))
    (pss_one (ps_ret pe_str))
    pss_nil)
    (pss_one (ps_ret pe_str))), ?_⟩
    refine ⟨_, rfl, rfl, _, rfl, ?_⟩
    rw [sd_buy]
    cases b with
    | true => exact iteT k
    | false => exact iteF k
theorem ok_better {f : Addr} {fd : FuncData} (F : Fun K "is_better" "is_better" s_is_better f fd) (T : Txt K mg CO CR CB) : FnOk P w K mg base CX0 1 f fd ["side", "price", "other"] spBetter := by
  refine F.ok sc_is_better (fun vs H Q E h => ?_) (fun cdv A outer s H vs Q E hr h => ?_)
  · obtain ⟨b, p, q, rfl, _⟩ := h
    rfl
  · obtain ⟨b, p, q, rfl, k⟩ := h
    refine ⟨_, (pss_cons (ps_if (pt_cmpR op_eq (pv 0) pe_str (nomark _))
    (pss_one (ps_ret (pe_cmpR op_gt (pv 1) (pv 2) (nomark _))))
    pss_nil)
    (pss_one (ps_ret (pe_cmpR op_lt (pv 1) (pv 2) (nomark _))))), ?_⟩
    refine ⟨_, rfl, rfl, _, rfl, ?_⟩
    rw [sd_buy]
    cases b with
    | true => exact iteT ⟨_, rfl, _, rfl, _, _, rfl, rfl, k⟩
    | false => exact iteF ⟨_, rfl, _, rfl, _, _, rfl, rfl, k⟩
theorem limV_none {lim : Option Int} : decide (limV lim = V.non) = lim.isNone := by
  cases lim with
  | none => exact decide_eq_true rfl
  | some i => exact decide_eq_false fun e => by cases e
theorem ok_accepts {f : Addr} {fd : FuncData} (F : Fun K "accepts" "accepts" s_accepts f fd) (T : Txt K mg CO CR CB) : FnOk P w K mg base CX0 1 f fd ["side", "limit", "price"] spAccepts := by
  refine F.ok sc_accepts (fun vs H Q E h => ?_) (fun cdv A outer s H vs Q E hr h => ?_)
  · obtain ⟨b, lim, p, rfl, _⟩ := h
    rfl
  · obtain ⟨b, lim, p, rfl, k⟩ := h
    refine ⟨_, (pss_cons (ps_if (pt_cmpR op_isN (pv 1) pe_non (nomark _))
    (pss_one (ps_ret pe_bl))
    pss_nil)
    (pss_cons (ps_if (pt_cmpR op_eq (pv 0) pe_str (nomark _))
    (pss_one (ps_ret (pe_cmpR op_le (pv 2) (pv 1) (nomark _))))
    pss_nil)
    (pss_one (ps_ret (pe_cmpR op_ge (pv 2) (pv 1) (nomark _)))))), ?_⟩
    refine ⟨_, rfl, rfl, _, rfl, ?_⟩
    rw [limV_none]
    cases lim with
    | none => exact iteT k
    | some i =>
      refine iteF ?_
      refine ⟨_, rfl, rfl, _, rfl, ?_⟩
      rw [sd_buy]
      cases b with
      | true => exact iteT ⟨_, rfl, _, rfl, _, _, rfl, rfl, k⟩
      | false => exact iteF ⟨_, rfl, _, rfl, _, _, rfl, rfl, k⟩
end
end Fb

namespace Fb
open PySem PySem.Spec PyProof.Rows L2
section
variable {P : Program} {w : World} {K : PySem.W.Frag} {mg : Str → Option Value} {base : Heap} {CO CR CB : Addr}
theorem in_sides (b : Bool) : (!inV (.str (sd b)) [.str "buy", .str "sell"]) = false := by cases b <;> decide +kernel
theorem in_kinds (k : Kd) : (!inV (.str (kS k)) [.str "rest", .str "now", .str "all"]) = false := by cases k <;> decide +kernel
theorem ok_check {f : Addr} {fd : FuncData} (F : Fun K "check_order" "check_order" s_check_order f fd) (T : Txt K mg CO CR CB) (c_is_integer : CallF P w K mg base 1 "is_integer" ["value"] spIsInt) (c_in_range : CallF P w K mg base 2 "in_range" ["value"] spInRange) :
    FnOk P w K mg base CX0 3 f fd ["side", "price", "quantity", "kind", "shown"] spCheck := by
  refine F.ok sc_check_order (fun vs H Q E h => ?_) (fun cdv A outer s H vs Q E hr h => ?_)
  · obtain ⟨b, lim, q, k, z, rfl, _⟩ := h
    rfl
  · obtain ⟨b, lim, q, k, z, rfl, V, go⟩ := h
    obtain ⟨S, hS, qS⟩ := T.sides
    obtain ⟨S2, hS2, qS2⟩ := T.kinds
    refine ⟨_, (pss_cons (ps_if (pt_cmpR op_notIn_seq (pv 0) (pe_glob (v := .ref S) (by rfl) hS rfl) (by rfl))
    pss_never
    pss_nil)
    (pss_cons (ps_if (pt_cmpR op_notIn_seq (pv 3) (pe_glob (v := .ref S2) (by rfl) hS2 rfl) (by rfl))
    pss_never
    pss_nil)
    (pss_cons (ps_if (pt_cmpR op_isN (pv 1) pe_non (nomark _))
    (pss_one (ps_if (pt_cmpR op_eq (pv 3) pe_str (nomark _))
    pss_never
    pss_nil))
    (pss_one (ps_if (pt_not (pt_val (pe_f c_in_range (hr.mono (by decide)) (by rfl) (pa_cons (pv 1) pa_nil))))
    pss_never
    pss_nil)))
    (pss_cons (ps_if (pt_not (pt_val (pe_f c_in_range (hr.mono (by decide)) (by rfl) (pa_cons (pv 2) pa_nil))))
    pss_never
    pss_nil)
    (pss_cons (ps_if (pw_or (pt_not (pt_val (pe_f c_is_integer (hr.mono (by decide)) (by rfl) (pa_cons (pv 4) pa_nil)))) (pw_or (pt_cmpR op_lt (pv 4) pe_int (nomark _)) (pw_or1 (pt_cmpR op_gt (pv 4) (pv 2) (nomark _))))).pt
    pss_never
    pss_nil)
    (pss_one (ps_if (pw_and (pt_cmpR op_gt (pv 4) pe_int (nomark _)) (pw_and1 (pt_cmpR op_ne (pv 3) pe_str (nomark _)))).pt
    pss_never
    pss_nil))))))), ?_⟩
    refine ⟨_, rfl, _, _, rfl, .inr (qS H), rfl, rfl, _, rfl, ?_⟩
    refine iteB (fun e => absurd (e.symm.trans (in_sides b)) (by simp)) fun _ => ?_
    refine ⟨_, rfl, _, _, rfl, .inr (qS2 H), rfl, rfl, _, rfl, ?_⟩
    refine iteB (fun e => absurd (e.symm.trans (in_kinds k)) (by simp)) fun _ => ?_
    have key : tSeq (tIfS (tNot (tB (tCall spInRange [] E0 (tCons (tVar 2) tNil)))) tNever tNext)
        (tSeq (tIfS (tOr (tNot (tB (tCall spIsInt [] E0 (tCons (tVar 4) tNil)))) (tOr (tTest (tOp (rI0 fun i j => .bl (decide (i < j))) (tVar 4) (tC (.int 0)))) (tTest (tOp (rI0 fun i j => .bl (decide (j < i))) (tVar 4) (tVar 2))))) tNever tNext)
          (tIfS (tAnd (tTest (tOp (rI0 fun i j => .bl (decide (j < i))) (tVar 4) (tC (.int 0)))) (tTest (tOp rNe (tVar 3) (tC (.str "rest"))))) tNever tNext)) { nx := fun _ H' => Q .non H', rt := Q } (start n_check_order [.str (sd b), limV lim, .int q, .str (kS k), .int z]) H := by
      refine ⟨_, rfl, q, rfl, V.qr.1, V.qr.2, true, rfl, iteF ?_⟩
      refine ⟨_, rfl, z, rfl, true, rfl, iteF ?_⟩
      refine ⟨_, rfl, _, _, rfl, rfl, _, rfl, iteDF (Int.not_lt.mpr V.sr.1) ?_⟩
      refine ⟨_, rfl, _, rfl, _, _, rfl, rfl, _, rfl, iteDF (Int.not_lt.mpr V.sr.2) ?_⟩
      refine ⟨_, rfl, _, _, rfl, rfl, _, rfl, ?_⟩
      refine iteD (fun h0 => ?_) fun _ => iteF go
      refine ⟨_, rfl, rfl, _, rfl, ?_⟩
      rw [kS_rest, decide_eq_true (V.sk h0)]
      exact iteF go
    refine ⟨_, rfl, rfl, _, rfl, ?_⟩
    rw [limV_none]
    cases lim with
    | none =>
      refine iteT ?_
      refine ⟨_, rfl, rfl, _, rfl, ?_⟩
      rw [kS_rest, decide_eq_false (V.lk rfl)]
      exact iteF key
    | some i =>
      refine iteF ?_
      exact ⟨_, rfl, i, rfl, (V.lr i rfl).1, (V.lr i rfl).2, true, rfl, iteF key⟩
end
end Fb

namespace Fb
open PySem PySem.Spec PyProof.Rows L2
section
variable {P : Program} {w : World} {K : PySem.W.Frag} {mg : Str → Option Value} {base : Heap} {CO CR CB : Addr}
/-! ### the book's parts -/
def setL {γ : Type} (f : Bool → γ) (x : Bool) (v : γ) : Bool → γ := fun y => if y = x then v else f y
theorem setL_same {γ : Type} {f : Bool → γ} {x : Bool} {v : γ} : setL f x v x = v := if_pos rfl
theorem setL_ne {γ : Type} {f : Bool → γ} {x y : Bool} {v : γ} (h : y ≠ x) : setL f x v y = f y := if_neg h
theorem bs_ne : ¬ (("buy" : Str) = "sell") := fun e => sd_ne e.symm
abbrev kBuy : Key := Sum.inr ("buy" : Str)
abbrev kSell : Key := Sum.inr ("sell" : Str)
theorem key_ne : ¬ (kBuy = kSell) := fun e => sd_ne (by injection e with e; exact e.symm)
theorem book_get {H : Hp} {g : Geo} (hd : H g.d = some (dictK g)) (x : Bool) : DGet H g.d (.str (sd x)) (some (.ref (g.l x))) := by
  refine .inl ⟨_, Sum.inr (sd x), .inl hd, rfl, ?_⟩
  cases x with
  | true => exact (valV_pos (κ := Key) (p := (kBuy, V.ref (g.l true))) (k := kBuy) rfl).symm
  | false => exact ((valV_neg (κ := Key) (p := (kBuy, V.ref (g.l true))) (k := kSell) key_ne).trans (valV_pos (κ := Key) (p := (kSell, V.ref (g.l false))) rfl)).symm
theorem book_put {H : Hp} {g : Geo} (hd : H g.d = some (dictK g)) (x : Bool) (D : Addr) : DPut H g.d (.str (sd x)) (.ref D) (upd H g.d (dictK { g with l := setL g.l x D })) := by
  have e : putK (κ := Key) [(kBuy, V.ref (g.l true)), (kSell, V.ref (g.l false))] (Sum.inr (sd x)) (.ref D) = [(kBuy, V.ref (setL g.l x D true)), (kSell, V.ref (setL g.l x D false))] := by
    have h2 : ¬ (kSell = kBuy) := fun e => key_ne e.symm
    cases x with
    | true =>
      have e1 : setL g.l true D true = D := rfl
      have e2 : setL g.l true D false = g.l false := rfl
      rw [e1, e2]
      show putK (κ := Key) [(kBuy, V.ref (g.l true)), (kSell, V.ref (g.l false))] kBuy (.ref D) = _
      unfold putK
      simp [bs_ne, sd_ne]
    | false =>
      have e1 : setL g.l false D true = g.l true := rfl
      have e2 : setL g.l false D false = D := rfl
      rw [e1, e2]
      show putK (κ := Key) [(kBuy, V.ref (g.l true)), (kSell, V.ref (g.l false))] kSell (.ref D) = _
      unfold putK
      simp [bs_ne, sd_ne]
  refine .inl ⟨_, Sum.inr (sd x), hd, rfl, (by show 2 < sizeLine; decide), ?_⟩
  unfold dictK
  rw [e]
theorem BookAt.keep {H H' : Hp} {b : Addr} {g : Geo} {α : Int → Addr} {B : Bool → List Ord} {next : Int} (X : BookAt CO CB H b g α B next)
    (hb : ∀ C dx fs, H b = some (.ins C dx fs) → H' b = some (.ins C dx fs)) (hd : H' g.d = H g.d) (hs : H' g.st = H g.st) (hl : ∀ x, H' (g.l x) = H (g.l x)) (ho : ∀ x, ∀ o ∈ B x, H' (α o.num) = H (α o.num)) : BookAt CO CB H' b g α B next where
  ob := by obtain ⟨dx, lv, e⟩ := X.ob; exact ⟨dx, lv, hb _ _ _ e⟩
  dict := hd.trans X.dict
  st := hs.trans X.st
  lst := fun x => (hl x).trans (X.lst x)
  ord := fun x o hm => by obtain ⟨dx, e⟩ := X.ord x o hm; exact ⟨dx, (ho x o hm).trans e⟩
  ne := X.ne
  ns := X.ns
theorem BookAt.same {H H' : Hp} {b : Addr} {g : Geo} {α : Int → Addr} {B : Bool → List Ord} {next : Int} (X : BookAt CO CB H b g α B next) (s : Same H H') : BookAt CO CB H' b g α B next :=
  X.keep (fun _ _ _ e => s _ _ e) ((s _ _ X.dict).trans X.dict.symm) ((s _ _ X.st).trans X.st.symm) (fun x => (s _ _ (X.lst x)).trans (X.lst x).symm) fun x o hm => by
    obtain ⟨dx, e⟩ := X.ord x o hm
    exact (s _ _ e).trans e.symm
theorem Same.upd {H : Hp} {p : Addr} {o : HO} (h : H p = Option.none) : Same H (upd H p o) := fun b u e => by rw [upd_ne (ne_of_none e h)]; exact e

/-! ### the promises -/
def spRInit (CO CR : Addr) : Sp := fun vs H Q _ => ∃ (p dx a da f m : Addr) (n : Int) (h : Str) (b : Bool) (pr : V) (l v s z : Int), vs = [.ref p, .ref a, .ref f, .ref m, .int z] ∧ H p = some (.ins CR dx []) ∧ H a = some (.ins CO da (oF n h b pr l v s)) ∧
  Q .non (upd H p (.ins CR dx (rF n h b f m z)))
def spBInit (CO CB : Addr) : Sp := fun vs H Q _ => ∃ (p dx : Addr), vs = [.ref p, .int 1] ∧ H p = some (.ins CB dx []) ∧ ∀ (H' : Hp) (g : Geo), (∀ α, BookAt CO CB H' p g α (fun _ => []) 1) → (∀ y o, H y = some o → y ≠ p → H' y = some o) →
  (∀ x, H (g.l x) = none) → H g.st = none → Q .non H'
def spNew (CB : Addr) : Sp := fun vs H Q _ => ∃ (b dx d st : Addr) (n : Int) (lv : V), vs = [.ref b] ∧ H b = some (.ins CB dx (bF d st n lv)) ∧ Q (.int n) (upd H b (.ins CB dx (bF d st (n + 1) lv)))
def spFirst (CB : Addr) : Sp := fun vs H Q _ => ∃ (b dx d st : Addr) (n : Int) (lv : V), vs = [.ref b] ∧ H b = some (.ins CB dx (bF d st n lv)) ∧ H st = some (.lst []) ∧ Q .non H
def spTrig (CB : Addr) : Sp := fun vs H Q _ => ∃ (b dx d st : Addr) (n : Int) (lv : V), vs = [.ref b] ∧ H b = some (.ins CB dx (bF d st n lv)) ∧ H st = some (.lst []) ∧ ∀ p, H p = none → Q (.ref p) (upd H p (.lst []))
def spOrders (CO CB : Addr) : Sp := fun vs H Q _ => ∃ (b : Addr) (g : Geo) (α : Int → Addr) (B : Bool → List Ord) (next : Int) (x : Bool), vs = [.ref b, .str (sd x)] ∧ BookAt CO CB H b g α B next ∧ (B x).length ≤ 1000 ∧
  ∀ (H' : Hp) (p : Addr), Same H H' → H p = none → EntsAt H' p (B x) → Q (.ref p) H'
def spOwned (CO CB : Addr) : Sp := fun vs H Q _ => ∃ (b : Addr) (g : Geo) (α : Int → Addr) (B : Bool → List Ord) (next : Int) (o : Ord), vs = [.ref b, .int o.num, .str o.house] ∧ BookAt CO CB H b g α B next ∧ o ∈ B o.buy ∧
  (∀ x, ∀ q ∈ B x, q.num = o.num → q = o) ∧ ∀ H' : Hp, Same H H' → Q (.ref (α o.num)) H'
def spRemove (CO CB : Addr) : Sp := fun vs H Q _ => ∃ (b : Addr) (g : Geo) (α : Int → Addr) (B : Bool → List Ord) (next : Int) (o : Ord), vs = [.ref b, .ref (α o.num)] ∧ BookAt CO CB H b g α B next ∧ o ∈ B o.buy ∧ (B o.buy).length ≤ 1000 ∧
  ∀ (H' : Hp) (D : Addr), H D = none → BookAt CO CB H' b { g with l := setL g.l o.buy D } α (setL B o.buy (delO o.num (B o.buy))) next → (∀ y u, H y = some u → y ≠ g.d → H' y = some u) → Q .non H'

theorem ok_rinit {f : Addr} {fd : FuncData} (F : Fun K "__init__" "Report.__init__" s_Report__init f fd) (T : Txt K mg CO CR CB) : FnOk P w K mg base CX0 1 f fd ["self", "order", "fills", "removed", "resting"] (spRInit CO CR) := by
  refine F.ok sc_Report__init (fun vs H Q E h => ?_) (fun cdv A outer s H vs Q E hr h => ?_)
  · obtain ⟨p, dx, a, da, f, m, n, h, b, pr, l, v, s, z, rfl, _⟩ := h
    rfl
  · obtain ⟨p, dx, a, da, f, m, n, h, b, pr, l, v, s, z, rfl, hp, ha, k⟩ := h
    have npa : a ≠ p := ne_of ha hp (by intro e; injection e with _ _ e; exact absurd (congrArg List.length e) (by show ¬ 7 = 0; decide))
    have ha' : ∀ u, upd H p u a = some (.ins CO da (oF n h b pr l v s)) := fun u => (upd_ne npa).trans ha
    refine ⟨_, (pss_cons (ps_fld (pv 0) (pe_fld (pv 1) rfl) rfl)
    (pss_cons (ps_fld (pv 0) (pe_fld (pv 1) rfl) rfl)
    (pss_cons (ps_fld (pv 0) (pe_fld (pv 1) rfl) rfl)
    (pss_cons (ps_fld (pv 0) (pv 2) rfl)
    (pss_cons (ps_fld (pv 0) (pv 3) rfl)
    (pss_one (ps_fld (pv 0) (pv 4) rfl))))))), ?_⟩
    refine ⟨_, rfl, gfld ha T.clO T.nO_number o_number ⟨_, rfl, p, CR, dx, _, rfl, hp, T.clR, T.nR_number, (by decide), ?_⟩⟩
    rw [show ([] : List (Str × V)) = ([] : List Str).zip [] from rfl, pfn _ (by decide +kernel) rfl]
    refine ⟨_, rfl, gfld (ha' _) T.clO T.nO_house o_house ⟨_, rfl, p, CR, dx, _, rfl, upd_same, T.clR, T.nR_house, zl (by decide), ?_⟩⟩
    rw [pfn _ (by decide +kernel) rfl, upd_upd]
    refine ⟨_, rfl, gfld (ha' _) T.clO T.nO_side o_side ⟨_, rfl, p, CR, dx, _, rfl, upd_same, T.clR, T.nR_side, zl (by decide), ?_⟩⟩
    rw [pfn _ (by decide +kernel) rfl, upd_upd]
    refine ⟨_, rfl, _, rfl, p, CR, dx, _, rfl, upd_same, T.clR, T.nR_fills, zl (by decide), ?_⟩
    rw [pfn _ (by decide +kernel) rfl, upd_upd]
    refine ⟨_, rfl, _, rfl, p, CR, dx, _, rfl, upd_same, T.clR, T.nR_removed, zl (by decide), ?_⟩
    rw [pfn _ (by decide +kernel) rfl, upd_upd]
    refine ⟨_, rfl, _, rfl, p, CR, dx, _, rfl, upd_same, T.clR, T.nR_resting, zl (by decide), ?_⟩
    rw [pfn _ (by decide +kernel) rfl, upd_upd]
    exact k
theorem ok_binit {f : Addr} {fd : FuncData} (F : FunD K "__init__" "Book.__init__" (defArgs s_Book__init) (defBody s_Book__init) (defScope s_Book__init) [.int 1] [] f fd) (T : Txt K mg CO CR CB) : FnOk P w K mg base CX0 1 f fd ["self", "first_number"] (spBInit CO CB) := by
  refine F.ok sc_Book__init (fun vs H Q E h => ?_) (fun cdv A outer s H vs Q E hr h => ?_)
  · obtain ⟨p, dx, rfl, _⟩ := h
    rfl
  · obtain ⟨p, dx, rfl, hp, k⟩ := h
    refine ⟨_, (pss_cons (ps_fld (pv 0) (pe_disp (pps_cons pe_str (pe_lst pa_nil) (pps_cons pe_str (pe_lst pa_nil) pps_nil)) (by rfl) (by rfl) (fun z => by cases z) (by decide)) rfl)
    (pss_cons (ps_fld (pv 0) (pe_lst pa_nil) rfl)
    (pss_cons (ps_fld (pv 0) (pv 1) rfl)
    (pss_one (ps_fld (pv 0) pe_non rfl))))), ?_⟩
    intro d hd
    have pd : p ≠ d := ne_of_none hp hd
    refine ⟨Nat.zero_le _, fun l1 h1 => ⟨Nat.zero_le _, fun l2 h2 => ?_⟩⟩
    have d1 : d ≠ l1 := ne_of_none upd_same h1
    have s1 : Same H (upd H d (.dK [])) := Same.upd hd
    have s2 : Same (upd H d (.dK [])) (upd (upd H d (.dK [])) l1 (.lst [])) := Same.upd h1
    have p1 : p ≠ l1 := ne_of_none (s1 _ _ hp) h1
    have p2 : p ≠ l2 := ne_of_none (s2 _ _ (s1 _ _ hp)) h2
    have d2 : d ≠ l2 := ne_of_none (s2 _ _ upd_same) h2
    have l12 : l1 ≠ l2 := ne_of_none upd_same h2
    have hd3 : upd (upd (upd H d (.dK [])) l1 (.lst [])) l2 (.lst []) d = some (.dK []) := by rw [upd_ne d2, upd_ne d1, upd_same]
    refine ⟨hd3, [(kBuy, .ref l1), (kSell, .ref l2)], rfl, (by show 2 ≤ 15; decide), ?_⟩
    have em : mergeK [] [(kBuy, V.ref l1), (kSell, V.ref l2)] = [(kBuy, V.ref l1), (kSell, V.ref l2)] := by
      show putK (putK ([] : List (Key × V)) kBuy (V.ref l1)) kSell (V.ref l2) = _
      have e1 : putK ([] : List (Key × V)) kBuy (V.ref l1) = [(kBuy, V.ref l1)] := rfl
      rw [e1]
      unfold putK
      simp [bs_ne, sd_ne]
    rw [em]
    generalize hH4 : upd (upd (upd (upd H d (.dK [])) l1 (.lst [])) l2 (.lst [])) d (.dK [(kBuy, V.ref l1), (kSell, V.ref l2)]) = H4
    have g1 : H4 p = some (.ins CB dx []) := by rw [← hH4, upd_ne pd, upd_ne p2, upd_ne p1, upd_ne pd]; exact hp
    have g2 : H4 d = some (.dK [(kBuy, V.ref l1), (kSell, V.ref l2)]) := by rw [← hH4, upd_same]
    have g3 : H4 l1 = some (.lst []) := by rw [← hH4, upd_ne d1.symm, upd_ne l12, upd_same]
    have g4 : H4 l2 = some (.lst []) := by rw [← hH4, upd_ne d2.symm, upd_same]
    have n1 : H l1 = Option.none := s1.free h1
    have n2 : H l2 = Option.none := (s1.trans s2).free h2
    have g5 : Same H H4 := fun y o e => by rw [← hH4, upd_ne (ne_of_none e hd), upd_ne (ne_of_none e n2), upd_ne (ne_of_none e n1), upd_ne (ne_of_none e hd)]; exact e
    refine ⟨_, rfl, p, CB, dx, _, rfl, g1, T.clB, T.nB_resting, (by decide), ?_⟩
    rw [show ([] : List (Str × V)) = ([] : List Str).zip [] from rfl, pfn _ (by decide +kernel) rfl]
    refine ⟨Nat.zero_le _, fun st h5 => ?_⟩
    have pst : p ≠ st := ne_of_none upd_same h5
    have h5' : H4 st = Option.none := by rw [upd_ne pst.symm] at h5; exact h5
    refine ⟨_, rfl, p, CB, dx, _, rfl, (upd_ne pst).trans upd_same, T.clB, T.nB_stops, zl (by decide), ?_⟩
    rw [pfn _ (by decide +kernel) rfl]
    refine ⟨_, rfl, _, rfl, p, CB, dx, _, rfl, upd_same, T.clB, T.nB_next_number, zl (by decide), ?_⟩
    rw [pfn _ (by decide +kernel) rfl, upd_upd]
    refine ⟨_, rfl, p, CB, dx, _, rfl, upd_same, T.clB, T.nB_last, zl (by decide), ?_⟩
    rw [pfn _ (by decide +kernel) rfl, upd_upd]
    have dst : d ≠ st := ne_of_none g2 h5'
    have l1st : l1 ≠ st := ne_of_none g3 h5'
    have l2st : l2 ≠ st := ne_of_none g4 h5'
    refine k _ ⟨d, st, fun x => if x then l1 else l2⟩ (fun α => ⟨⟨dx, .non, upd_same⟩, ?_, ?_, fun x => ?_, fun x o hm => (by simp at hm), l12, fun x => ?_⟩) (fun y o e hy => ?_) (fun x => ?_) (g5.free h5')
    · rw [upd_ne pd.symm, upd_ne dst, upd_ne pd.symm]
      exact g2
    · rw [upd_ne pst.symm, upd_same]
    · cases x with
      | true => exact (upd_ne p1.symm).trans ((upd_ne l1st).trans ((upd_ne p1.symm).trans g3))
      | false => exact (upd_ne p2.symm).trans ((upd_ne l2st).trans ((upd_ne p2.symm).trans g4))
    · cases x with
      | true => exact l1st
      | false => exact l2st
    · rw [upd_ne hy, upd_ne (ne_of_none (g5 _ _ e) h5'), upd_ne hy]
      exact g5 _ _ e
    · cases x with
      | true => exact n1
      | false => exact n2
theorem ok_new {f : Addr} {fd : FuncData} (F : Fun K "_new_number" "Book._new_number" s_Book_new_number f fd) (T : Txt K mg CO CR CB) : FnOk P w K mg base CX0 1 f fd ["self"] (spNew CB) := by
  refine F.ok sc_Book_new_number (fun vs H Q E h => ?_) (fun cdv A outer s H vs Q E hr h => ?_)
  · obtain ⟨b, dx, d, st, n, lv, rfl, _⟩ := h
    rfl
  · obtain ⟨b, dx, d, st, n, lv, rfl, hb, k⟩ := h
    refine ⟨_, (pss_cons (ps_set (i := 1) sc_Book_new_number.nd rfl (Or.inl rfl) (pe_fld (pv 0) rfl))
    (pss_cons (ps_fld (pv 0) (pe_op op_add (pv 1) pe_int) rfl)
    (pss_one (ps_ret (pv 1))))), ?_⟩
    refine ⟨_, rfl, gfld hb T.clB T.nB_next_number b_next ?_⟩
    refine ⟨_, rfl, _, _, rfl, rfl, _, rfl, b, CB, dx, _, rfl, hb, T.clB, T.nB_next_number, b_len, ?_⟩
    rw [b_put_next]
    exact ⟨_, rfl, k⟩
theorem ok_first {f : Addr} {fd : FuncData} (F : Fun K "_first_reached" "Book._first_reached" s_Book_first_reached f fd) (T : Txt K mg CO CR CB) : FnOk P w K mg base CX0 1 f fd ["self"] (spFirst CB) := by
  refine F.ok sc_Book_first_reached (fun vs H Q E h => ?_) (fun cdv A outer s H vs Q E hr h => ?_)
  · obtain ⟨b, dx, d, st, n, lv, rfl, _⟩ := h
    rfl
  · obtain ⟨b, dx, d, st, n, lv, rfl, hb, hs, k⟩ := h
    refine ⟨_, (pss_cons (ps_for PassesOwn.never rfl (pi_list (pe_fld (pv 0) rfl)) (pg_name (i := 1) sc_Book_first_reached.nd rfl (Or.inl rfl)) pss_never)
    (pss_one (ps_ret pe_non))), ?_⟩
    refine ⟨_, rfl, gfld hb T.clB T.nB_stops b_stops ⟨st, rfl, ⟨_, SqL.of hs⟩, for_list (K := K) (a := st) (xs := []) (fun i σ' H' => H' = H) rfl (fun i σ' H' _ e => by subst e; exact SqL.of hs) (fun i x σ' H' e _ => by simp at e) (fun σ' H' e => ?_)⟩⟩
    subst e
    exact k
theorem ok_trig {f : Addr} {fd : FuncData} (F : Fun K "_trigger" "Book._trigger" s_Book_trigger f fd) (T : Txt K mg CO CR CB) (c_first_reached : CallM P w K mg base 1 CB "_first_reached" ["self"] (spFirst CB)) : FnOk P w K mg base CX0 2 f fd ["self"] (spTrig CB) := by
  refine F.ok sc_Book_trigger (fun vs H Q E h => ?_) (fun cdv A outer s H vs Q E hr h => ?_)
  · obtain ⟨b, dx, d, st, n, lv, rfl, _⟩ := h
    rfl
  · obtain ⟨b, dx, d, st, n, lv, rfl, hb, hs, k⟩ := h
    refine ⟨_, (pss_cons (ps_set (i := 1) sc_Book_trigger.nd rfl (Or.inl rfl) (pe_lst pa_nil))
    (pss_cons (ps_set (i := 2) sc_Book_trigger.nd rfl (Or.inr rfl) (pe_m0 c_first_reached (hr.mono (by decide)) T.clB (pv 0)))
    (pss_cons (ps_while PassesOwn.never (pt_cmpR op_notN (pv 2) pe_non (nomark _)) pss_never)
    (pss_one (ps_ret (pv 1)))))), ?_⟩
    refine ⟨Nat.zero_le _, fun p hp => ?_⟩
    have hb' : upd H p (.lst []) b = some (.ins CB dx (bF d st n lv)) := (upd_ne (ne_of_none hb hp)).trans hb
    have hs' : upd H p (.lst []) st = some (.lst []) := (upd_ne (ne_of_none hs hp)).trans hs
    refine ⟨_, rfl, b, dx, _, rfl, hb', b_no (by decide +kernel), b, dx, d, st, n, lv, rfl, hb', hs', ?_⟩
    refine ⟨fun m σ' H' => σ' = [some (.ref b), some (.ref p), some .non, none, none] ∧ H' = upd H p (.lst []), ⟨0, rfl, rfl⟩, ?_⟩
    rintro m σ' H' ⟨rfl, rfl⟩
    exact ⟨_, rfl, rfl, _, rfl, _, rfl, k p hp⟩
end
end Fb

namespace Fb
open PySem PySem.Spec PyProof.Rows L2
section
variable {P : Program} {w : World} {K : PySem.W.Frag} {mg : Str → Option Value} {base : Heap} {CO CR CB : Addr}
theorem refs_get {α : Int → Addr} {os : List Ord} {i : Nat} {y : V} (h : (refs α os)[i]? = some y) : ∃ q, os[i]? = some q ∧ q ∈ os ∧ y = .ref (α q.num) := by
  unfold refs at h
  rw [List.getElem?_map] at h
  cases e : os[i]? with
  | none => rw [e] at h; cases h
  | some q =>
    rw [e] at h
    exact ⟨q, rfl, List.mem_of_getElem? e, (Option.some.inj h).symm⟩
theorem refs_at {α : Int → Addr} {os : List Ord} {i : Nat} {q : Ord} (h : os[i]? = some q) : (refs α os)[i]? = some (.ref (α q.num)) := by
  unfold refs
  rw [List.getElem?_map, h]
  rfl
theorem refs_len {α : Int → Addr} {os : List Ord} : (refs α os).length = os.length := List.length_map _
theorem take_snoc {γ : Type} {l : List γ} {i : Nat} {q : γ} (h : l[i]? = some q) : l.take (i + 1) = l.take i ++ [q] := by
  rw [List.take_succ, h]
  rfl
theorem line1000 : 1000 < sizeLine := by decide
theorem TupKeep.new {H : Hp} {p : Addr} {o : HO} (h : H p = Option.none) : TupKeep H (upd H p o) := fun x xs e => by rw [upd_ne (ne_of_none e h)]; exact e
theorem TupKeep.lst {H : Hp} {p : Addr} {o : HO} {xs : List V} (h : H p = some (.lst xs)) : TupKeep H (upd H p o) := fun x xs e => by rw [upd_ne (ne_of e h (by intro z; cases z))]; exact e
theorem TupKeep.ins {H : Hp} {p : Addr} {o : HO} {C dx : Addr} {fs : List (Str × V)} (h : H p = some (.ins C dx fs)) : TupKeep H (upd H p o) := fun x xs e => by rw [upd_ne (ne_of e h (by intro z; cases z))]; exact e
theorem ok_orders {f : Addr} {fd : FuncData} (F : Fun K "orders" "Book.orders" s_Book_orders f fd) (T : Txt K mg CO CR CB) (c_entry : CallM P w K mg base 1 CO "entry" ["self"] (spEntry CO)) : FnOk P w K mg base CX0 2 f fd ["self", "side"] (spOrders CO CB) := by
  refine F.ok sc_Book_orders (fun vs H Q E h => ?_) (fun cdv A outer s H vs Q E hr h => ?_)
  · obtain ⟨b, g, α, B, next, x, rfl, _⟩ := h
    rfl
  · obtain ⟨b, g, α, B, next, x, rfl, X, hlen, k⟩ := h
    have hu := hu_of hr
    obtain ⟨dx, lv, hb⟩ := X.ob
    refine ⟨_, (pss_one (ps_ret (pe_lc (own := [("order", 2)]) (g := gName 2) (tt := tYes) (by rfl) sc_Book_orders.nd (pi_list (pe_dget hu (pe_fld (pv 0) rfl) (pv 1) (fun _ _ => rfl))) (blkOk_by (own := [("order", 2)]) (N := n_Book_orders) (sc := defScope s_Book_orders) (by decide +kernel)) (fun _ _ _ _ _ => pg_name (i := 2) sc_Book_orders.nd rfl (Or.inl rfl)) (fun _ _ _ _ _ => pts_nil) (fun _ _ _ _ _ => (pe_m0 c_entry (hr.mono (by decide)) T.clO (pv 2)))))), ?_⟩
    refine ⟨_, rfl, gfld hb T.clB T.nB_resting b_resting ⟨_, rfl, g.d, _, rfl, book_get X.dict x, ?_⟩⟩
    refine ⟨_, rfl, ⟨_, SqL.of (X.lst x)⟩, fun D hD => lc_list (K := K) (a := g.l x) (xs := refs α (B x)) (fun i H' => Same H H' ∧ ∃ acc, H' D = some (.lst acc) ∧ Tups H' acc (((B x).take i).map entV)) ⟨Same.upd hD, [], upd_same, .nil⟩
      (fun i H' _ p => SqL.of (p.1 _ _ (X.lst x))) ?_ ?_⟩
    · rintro i y H' hi ⟨s1, acc, hacc, tu⟩
      obtain ⟨q, hq, hm, rfl⟩ := refs_get hi
      obtain ⟨dq, ho⟩ := X.ord x q hm
      have ho' := s1 _ _ ho
      refine ⟨rfl, ?_⟩
      refine ⟨_, rfl, α q.num, dq, _, rfl, ho', o_no (by decide +kernel), α q.num, dq, _, _, _, _, _, _, _, rfl, ho', fun p hp => ?_⟩
      have dp : D ≠ p := ne_of_none hacc hp
      have hal : acc.length ≤ 1000 := by
        rw [tu.length, List.length_map, List.length_take]
        omega
      refine ⟨acc, (upd_ne dp).trans hacc, Nat.lt_of_le_of_lt hal line1000, fun y o e => ?_, _, upd_same, ?_⟩
      · have e1 := s1 _ _ e
        rw [upd_ne (ne_of_none e hD), upd_ne (ne_of_none e1 hp)]
        exact e1
      · rw [take_snoc hq, List.map_append]
        exact Tups.snoc ((upd_ne dp.symm).trans upd_same) (tu.keep ((TupKeep.new hp).trans (TupKeep.lst ((upd_ne dp).trans hacc))))
    · rintro H' ⟨s1, acc, hacc, tu⟩
      rw [refs_len, List.take_length] at tu
      exact k H' D s1 hD ⟨acc, hacc, tu⟩
theorem ok_owned {f : Addr} {fd : FuncData} (F : Fun K "_owned" "Book._owned" s_Book_owned f fd) (T : Txt K mg CO CR CB) : FnOk P w K mg base CX0 1 f fd ["self", "number", "house"] (spOwned CO CB) := by
  refine F.ok sc_Book_owned (fun vs H Q E h => ?_) (fun cdv A outer s H vs Q E hr h => ?_)
  · obtain ⟨b, g, α, B, next, o, rfl, _⟩ := h
    rfl
  · obtain ⟨b, g, α, B, next, o, rfl, X, ho, hone, k⟩ := h
    have hu := hu_of hr
    obtain ⟨dx, lv, hb⟩ := X.ob
    refine ⟨_, (pss_cons (ps_for PassesOwn.never rfl (pi_tup (pe_tup (pa_cons pe_str (pa_cons pe_str pa_nil)))) (pg_name (i := 3) sc_Book_owned.nd rfl (Or.inl rfl))
    (pss_one (ps_for PassesOwn.never rfl (pi_list (pe_dget hu (pe_fld (pv 0) rfl) (pv 3) (fun _ _ => rfl))) (pg_name (i := 4) sc_Book_owned.nd rfl (Or.inl rfl))
    (pss_one (ps_if (pt_cmpR op_eq (pe_fld (pv 4) rfl) (pv 1) (nomark _))
    (pss_cons (ps_if (pt_cmpR op_ne (pe_fld (pv 4) rfl) (pv 2) (nomark _))
    pss_never
    pss_nil)
    (pss_one (ps_ret (pv 4))))
    pss_nil)))))
    (pss_one ps_never)), ?_⟩
    refine ⟨(by show 2 ≤ sizeLine; decide), fun p hp => ?_⟩
    have s1 : Same H (upd H p (.tup [.str "buy", .str "sell"])) := Same.upd hp
    have X1 := X.same s1
    refine ⟨p, rfl, ⟨_, SqT.of upd_same⟩, for_tup (K := K) (a := p) (xs := [.str "buy", .str "sell"]) (fun i σ' H' => H' = upd H p (.tup [.str "buy", .str "sell"]) ∧ (∃ v3 v4, σ' = [some (.ref b), some (.int o.num), some (.str o.house), v3, v4]) ∧ (i = 0 ∨ (i = 1 ∧ o.buy = false)))
      ⟨rfl, ⟨none, none, rfl⟩, .inl rfl⟩ (fun i σ' H' _ z => by rw [z.1]; exact SqT.of upd_same) ?_ ?_⟩
    · rintro i y σ' H' hi ⟨rfl, ⟨v3, v4, rfl⟩, hw⟩
      obtain ⟨x, rfl, hx⟩ : ∃ x, y = V.str (sd x) ∧ i = (if x then 0 else 1) := by
        match i, hi with
        | 0, hi => exact ⟨true, (Option.some.inj hi).symm, rfl⟩
        | 1, hi => exact ⟨false, (Option.some.inj hi).symm, rfl⟩
        | i + 2, hi => simp at hi
      refine ⟨_, rfl, gfld (s1 _ _ hb) T.clB T.nB_resting b_resting ⟨_, rfl, g.d, _, rfl, book_get X1.dict x, ?_⟩⟩
      refine ⟨_, rfl, ⟨_, SqL.of (X1.lst x)⟩, for_list (K := K) (a := g.l x) (xs := refs α (B x)) (fun j σ' H' => H' = upd H p (.tup [.str "buy", .str "sell"]) ∧ (∃ v4, σ' = [some (.ref b), some (.int o.num), some (.str o.house), some (.str (sd x)), v4]) ∧ ∀ q ∈ (B x).take j, q ≠ o)
        ⟨rfl, ⟨_, rfl⟩, fun q hq => by simp at hq⟩ (fun j σ' H' _ z => by rw [z.1]; exact SqL.of (X1.lst x)) ?_ ?_⟩
      · rintro j y σ' H' hj ⟨rfl, ⟨v4', rfl⟩, hno⟩
        obtain ⟨q, hq, hm, rfl⟩ := refs_get hj
        obtain ⟨dq, hoq⟩ := X1.ord x q hm
        refine ⟨_, rfl, gfld hoq T.clO T.nO_number o_number ⟨_, rfl, rfl, _, rfl, ?_⟩⟩
        refine iteD (fun e => ?_) fun e => ?_
        · have eq : q = o := hone x q hm (by injection e)
          subst eq
          refine ⟨_, rfl, gfld hoq T.clO T.nO_house o_house ⟨_, rfl, rfl, _, rfl, iteNS rfl ?_⟩⟩
          exact ⟨_, rfl, k _ s1⟩
        · refine ⟨rfl, ⟨_, rfl⟩, fun r hr => ?_⟩
          rw [take_snoc hq] at hr
          rcases List.mem_append.mp hr with hr | hr
          · exact hno r hr
          · have er : r = q := by simpa using hr
            rw [er]
            rintro rfl
            exact e rfl
      · rintro σ' H' ⟨rfl, ⟨v4', rfl⟩, hno⟩
        rw [refs_len, List.take_length] at hno
        have hbx : o.buy ≠ x := fun e => by
          rw [e] at ho
          exact hno o ho rfl
        refine ⟨rfl, ⟨_, _, rfl⟩, ?_⟩
        cases x with
        | true =>
          have hi0 : i = 0 := hx
          exact .inr ⟨by omega, by cases hob : o.buy <;> simp_all⟩
        | false =>
          have hi1 : i = 1 := hx
          rcases hw with h0 | ⟨_, h0⟩
          · omega
          · exact absurd h0 hbx
    · rintro σ' H' ⟨_, _, hw⟩
      rcases hw with h0 | ⟨h0, _⟩
      · exact absurd h0 (by show ¬ 2 = 0; decide)
      · exact absurd h0 (by show ¬ 2 = 1; decide)
theorem refs_del {α : Int → Addr} (n : Int) (os : List Ord) (i : Nat) {q : Ord} (h : os[i]? = some q) : refs α (delO n (os.take (i + 1))) = if q.num = n then refs α (delO n (os.take i)) else refs α (delO n (os.take i)) ++ [.ref (α q.num)] := by
  rw [take_snoc h]
  unfold delO refs
  rw [List.filter_append, List.map_append]
  by_cases e : q.num = n
  · rw [if_pos e, List.filter_cons_of_neg (by simpa using e)]
    simp
  · rw [if_neg e, List.filter_cons_of_pos (by simpa using e)]
    simp
theorem ok_remove {f : Addr} {fd : FuncData} (F : Fun K "_remove" "Book._remove" s_Book_remove f fd) (T : Txt K mg CO CR CB) : FnOk P w K mg base CX0 1 f fd ["self", "order"] (spRemove CO CB) := by
  refine F.ok sc_Book_remove (fun vs H Q E h => ?_) (fun cdv A outer s H vs Q E hr h => ?_)
  · obtain ⟨b, g, α, B, next, o, rfl, _⟩ := h
    rfl
  · obtain ⟨b, g, α, B, next, o, rfl, X, ho, hlen, k⟩ := h
    have hu := hu_of hr
    obtain ⟨dx, lv, hb⟩ := X.ob
    obtain ⟨da, ha⟩ := X.ord o.buy o ho
    refine ⟨_, (pss_cons (ps_setLc (i := 2) (own := [("other", 3)]) (g := gName 3) (tt := tTest (tOp rNe (tFld K (tVar 3) "number") (tFld K (tVar 1) "number"))) (by rfl) sc_Book_remove.nd rfl rfl (sw_true rfl rfl rfl (by decide +kernel)) (pi_list (pe_dget hu (pe_fld (pv 0) rfl) (pe_fld (pv 1) rfl) (fun _ _ => rfl))) (blkOk_by (own := [("other", 3)]) (N := n_Book_remove) (sc := defScope s_Book_remove) (by decide +kernel)) (fun _ _ _ _ _ => pg_name (i := 3) sc_Book_remove.nd rfl (Or.inl rfl)) (fun _ _ _ _ _ => (pts_one (pt_cmpR op_ne (pe_fld (pv 3) rfl) (pe_fld (pv 1) rfl) (nomark _)))) (fun _ _ _ _ _ => (pv 3)))
    (pss_one (ps_dput hu (pe_fld (pv 0) rfl) (pe_fld (pv 1) rfl) (pv 2) rfl))), ?_⟩
    refine ⟨_, rfl, gfld hb T.clB T.nB_resting b_resting ⟨_, rfl, gfld ha T.clO T.nO_side o_side ⟨g.d, _, rfl, book_get X.dict o.buy, ?_⟩⟩⟩
    refine ⟨_, rfl, ⟨_, SqL.of (X.lst o.buy)⟩, fun D hD => lc_list (K := K) (a := g.l o.buy) (xs := refs α (B o.buy)) (fun i H' => Same H H' ∧ H' D = some (.lst (refs α (delO o.num ((B o.buy).take i))))) ⟨Same.upd hD, upd_same⟩
      (fun i H' _ p => SqL.of (p.1 _ _ (X.lst o.buy))) ?_ ?_⟩
    · rintro i y H' hi ⟨s1, hacc⟩
      obtain ⟨q, hq, hm, rfl⟩ := refs_get hi
      obtain ⟨dq, hoq⟩ := X.ord o.buy q hm
      refine ⟨rfl, ?_⟩
      refine ⟨_, rfl, gfld (s1 _ _ hoq) T.clO T.nO_number o_number ⟨_, rfl, gfld (s1 _ _ ha) T.clO T.nO_number o_number ⟨rfl, _, rfl, ?_⟩⟩⟩
      refine iteB (fun e => ?_) fun e => ?_
      · have hne : ¬ q.num = o.num := fun z => by rw [z] at e; simp at e
        refine ⟨_, rfl, _, hacc, ?_, fun y u e => ?_, ?_⟩
        · rw [refs_len]
          refine Nat.lt_of_le_of_lt (Nat.le_trans (List.length_filter_le _ _) ?_) line1000
          rw [List.length_take]
          omega
        · rw [upd_ne (ne_of_none e hD)]
          exact s1 _ _ e
        · rw [upd_same, refs_del o.num _ i hq, if_neg hne]
      · have heq : q.num = o.num := by
          by_cases z : q.num = o.num
          · exact z
          · have : decide (V.int q.num = V.int o.num) = false := decide_eq_false fun z' => z (by injection z')
            rw [this] at e
            cases e
        refine ⟨s1, ?_⟩
        rw [hacc, refs_del o.num _ i hq, if_pos heq]
    · rintro H' ⟨s1, hacc⟩
      rw [refs_len, List.take_length] at hacc
      have X1 := X.same s1
      refine ⟨_, rfl, _, rfl, gfld (s1 _ _ hb) T.clB T.nB_resting b_resting ⟨_, rfl, gfld (s1 _ _ ha) T.clO T.nO_side o_side ⟨g.d, _, rfl, book_put X1.dict o.buy D, ?_⟩⟩⟩
      have dD : D ≠ g.d := (ne_of_none X.dict hD).symm
      have nld : ∀ x, g.l x ≠ g.d := fun x => ne_of (X.lst x) X.dict (by intro z; cases z)
      have nlD : ∀ x, g.l x ≠ D := fun x => ne_of_none (X.lst x) hD
      refine k _ D hD ⟨⟨dx, lv, ?_⟩, upd_same, ?_, fun x => ?_, fun x q hq => ?_, ?_, fun x => ?_⟩ fun y u e hy => ?_
      · rw [upd_ne (ne_of hb X.dict (by intro z; cases z))]
        exact s1 _ _ hb
      · exact (upd_ne (ne_of X.st X.dict (by intro z; cases z))).trans X1.st
      · by_cases hx : x = o.buy
        · subst hx
          show upd H' g.d _ (setL g.l o.buy D o.buy) = some (.lst (refs α (setL B o.buy _ o.buy)))
          rw [setL_same, setL_same, upd_ne dD]
          exact hacc
        · show upd H' g.d _ (setL g.l o.buy D x) = some (.lst (refs α (setL B o.buy _ x)))
          rw [setL_ne hx, setL_ne hx, upd_ne (nld x)]
          exact X1.lst x
      · have hq' : q ∈ B x := by
          by_cases hx : x = o.buy
          · subst hx
            rw [setL_same] at hq
            exact (mem_del.mp hq).1
          · rw [setL_ne hx] at hq
            exact hq
        obtain ⟨dq, e⟩ := X1.ord x q hq'
        exact ⟨dq, (upd_ne (ne_of e X1.dict (by intro z; cases z))).trans e⟩
      · show setL g.l o.buy D true ≠ setL g.l o.buy D false
        cases o.buy with
        | true => exact (nlD false).symm
        | false => exact nlD true
      · show setL g.l o.buy D x ≠ g.st
        by_cases hx : x = o.buy
        · subst hx
          rw [setL_same]
          exact (ne_of_none X.st hD).symm
        · rw [setL_ne hx]
          exact X.ns x
      · rw [upd_ne hy]
        exact s1 _ _ e
end
end Fb

namespace Fb
open PySem PySem.Spec PyProof.Rows L2
section
variable {P : Program} {w : World} {K : PySem.W.Frag} {mg : Str → Option Value} {base : Heap} {CO CR CB : Addr}
def spInsert (CO CB : Addr) : Sp := fun vs H Q _ => ∃ (b dx : Addr) (g : Geo) (α : Int → Addr) (n : Int) (lv : V) (o : Ord) (rs : List Ord), vs = [.ref b, .ref (α o.num)] ∧ H b = some (.ins CB dx (bF g.d g.st n lv)) ∧ H g.d = some (dictK g) ∧
  H (g.l o.buy) = some (.lst (refs α rs)) ∧ (∀ q ∈ rs, OrdAt CO H (α q.num) q) ∧ OrdAt CO H (α o.num) o ∧ rs.length ≤ 1000 ∧ Q .non (upd H (g.l o.buy) (.lst (refs α (ins o rs))))
def spAvail (CO CB : Addr) : Sp := fun vs H Q _ => ∃ (b a : Addr) (g : Geo) (α : Int → Addr) (B : Bool → List Ord) (next n : Int) (h : Str) (c : Bool) (lim : Option Int) (l v s : Int), vs = [.ref b, .ref a] ∧ BookAt CO CB H b g α B next ∧
  InAt CO H a n h c lim l v s ∧ Q (.int (availB h c lim (B !c))) H
theorem ok_insert {f : Addr} {fd : FuncData} (F : Fun K "_insert" "Book._insert" s_Book_insert f fd) (T : Txt K mg CO CR CB) (c_is_better : CallF P w K mg base 1 "is_better" ["side", "price", "other"] spBetter) : FnOk P w K mg base CX0 2 f fd ["self", "order"] (spInsert CO CB) := by
  refine F.ok sc_Book_insert (fun vs H Q E h => ?_) (fun cdv A outer s H vs Q E hr h => ?_)
  · obtain ⟨b, dx, g, α, n, lv, o, rs, rfl, _⟩ := h
    rfl
  · obtain ⟨b, dx, g, α, n, lv, o, rs, rfl, hb, hd, hl, hrs, ⟨da, ha⟩, hlen, k⟩ := h
    have hu := hu_of hr
    refine ⟨_, (pss_cons (ps_set (i := 2) sc_Book_insert.nd rfl (Or.inl rfl) (pe_dget hu (pe_fld (pv 0) rfl) (pe_fld (pv 1) rfl) (fun _ _ => rfl)))
    (pss_cons (ps_set (i := 3) sc_Book_insert.nd rfl (Or.inl rfl) pe_int)
    (pss_cons (ps_while PassesOwn.never (pw_and (pt_cmpR op_lt (pv 3) (pe_callB call_len_seq (by rfl) T.zLen boot_len (pa_cons (pv 2) pa_nil)) (nomark _)) (pw_and1 (pt_not (pt_val (pe_f c_is_better (hr.mono (by decide)) (by rfl) (pa_cons (pe_fld (pv 1) rfl) (pa_cons (pe_fld (pv 1) rfl) (pa_cons (pe_fld (pe_ix ix_list (pv 2) (pv 3) (fun _ _ => rfl)) rfl) pa_nil)))))))).pt
    (pss_one (ps_set (i := 3) sc_Book_insert.nd rfl (Or.inl rfl) (pe_op op_add (pv 3) pe_int))))
    (pss_one (ps_expr (pe_bm PySem.F.plainAttrs_list PySem.F.slot_list_insert PySem.F.type_list_insert mt_insert (pv 2) (pa_cons (pv 3) (pa_cons (pv 1) pa_nil)))))))), ?_⟩
    refine ⟨_, rfl, gfld hb T.clB T.nB_resting b_resting ⟨_, rfl, gfld ha T.clO T.nO_side o_side ⟨g.d, _, rfl, book_get hd o.buy, ?_⟩⟩⟩
    have hpl := place_le o.buy o.price rs
    refine ⟨fun m σ' H' => H' = H ∧ ∃ i : Nat, σ' = [some (.ref b), some (.ref (α o.num)), some (.ref (g.l o.buy)), some (.int (i : Nat))] ∧ i ≤ place o.buy o.price rs ∧ m = rs.length - i, ⟨rs.length, rfl, 0, rfl, Nat.zero_le _, rfl⟩, ?_⟩
    rintro m σ' H' ⟨rfl, i, rfl, hi, rfl⟩
    have fin : i = place o.buy o.price rs → tDrop (tBM K "list" (fun x vs H Q => ∃ (l : Addr) (xs : List V) (i : Int) (y : V), x = .ref l ∧ vs = [.int i, y] ∧ H l = some (.lst xs) ∧ xs.length < sizeLine ∧ 0 ≤ i ∧ i < 2 ^ 63 ∧
        Q .non (upd H l (.lst (xs.take i.toNat ++ [y] ++ xs.drop i.toNat)))) (tVar 2) (tCons (tVar 3) (tCons (tVar 1) tNil))) { nx := fun _ H' => Q .non H', rt := Q } [some (.ref b), some (.ref (α o.num)), some (.ref (g.l o.buy)), some (.int (i : Nat))] H' := fun e => by
      refine ⟨_, rfl, .inl ⟨rfl, _, SqL.of hl⟩, _, rfl, _, rfl, g.l o.buy, _, _, _, rfl, rfl, hl, ?_, Int.natCast_nonneg i, ?_, ?_⟩
      · rw [refs_len]
        exact Nat.lt_of_le_of_lt hlen line1000
      · have : (2 : Int) ^ 63 = 9223372036854775808 := by decide
        omega
      · have e2 : refs α (ins o rs) = (refs α rs).take (Int.toNat (i : Nat)) ++ [V.ref (α o.num)] ++ (refs α rs).drop (Int.toNat (i : Nat)) := by
          rw [ins_place, ← e, Int.toNat_natCast]
          unfold refs
          rw [List.map_append, List.map_append, List.map_take, List.map_drop]
          rfl
        rw [← e2]
        exact k
    refine ⟨_, rfl, _, rfl, g.l o.buy, _, rfl, .inl (SqL.of hl), _, _, rfl, rfl, _, rfl, ?_⟩
    rw [refs_len]
    refine iteD (fun hlt => ?_) fun hge => ?_
    · have hil : i < rs.length := by omega
      have hget : rs[i]? = some rs[i] := List.getElem?_eq_getElem hil
      generalize rs[i] = q at hget
      obtain ⟨dq, hq⟩ := hrs q (List.mem_of_getElem? hget)
      refine ⟨_, rfl, gfld ha T.clO T.nO_side o_side ⟨_, rfl, gfld ha T.clO T.nO_price o_price ⟨_, rfl, _, rfl, g.l o.buy, _, _, _, rfl, rfl, SqL.of hl, atI_nat (refs_at hget), gfld hq T.clO T.nO_price o_price ⟨o.buy, o.price, q.price, rfl, _, rfl, ?_⟩⟩⟩⟩
      cases hbt : better o.buy o.price q.price with
      | true =>
        refine iteF ?_
        refine fin ?_
        rcases Nat.lt_or_ge i (place o.buy o.price rs) with h1 | h1
        · exact absurd (place_lt h1 hget) (by rw [hbt]; simp)
        · omega
      | false =>
        refine iteT ?_
        refine ⟨_, fun _ _ z => z, ?_⟩
        refine ⟨_, rfl, _, _, rfl, rfl, rs.length - (i + 1), by omega, rfl, i + 1, rfl, ?_, rfl⟩
        rcases Nat.lt_or_ge i (place o.buy o.price rs) with h1 | h1
        · omega
        · have e : i = place o.buy o.price rs := by omega
          rw [e] at hget
          have := place_at hget
          rw [hbt] at this
          cases this
    · refine fin ?_
      omega
theorem availB_snoc (h : Str) (b : Bool) (lim : Option Int) {rs : List Ord} {i : Nat} {q : Ord} (e : rs[i]? = some q) : availB h b lim (rs.take (i + 1)) = availB h b lim (rs.take i) + weigh h b lim q := by
  unfold availB
  rw [take_snoc e, List.map_append, List.sum_append]
  simp
theorem ok_avail {f : Addr} {fd : FuncData} (F : Fun K "_available" "Book._available" s_Book_available f fd) (T : Txt K mg CO CR CB) (c_other_side : CallF P w K mg base 1 "other_side" ["side"] spOther) (c_accepts : CallF P w K mg base 1 "accepts" ["side", "limit", "price"] spAccepts) :
    FnOk P w K mg base CX0 2 f fd ["self", "order"] (spAvail CO CB) := by
  refine F.ok sc_Book_available (fun vs H Q E h => ?_) (fun cdv A outer s H vs Q E hr h => ?_)
  · obtain ⟨b, a, g, α, B, next, n, h, c, lim, l, v, s, rfl, _⟩ := h
    rfl
  · obtain ⟨b, a, g, α, B, next, n, h, c, lim, l, v, s, rfl, X, ⟨da, ha⟩, k⟩ := h
    have hu := hu_of hr
    obtain ⟨dx, lv, hb⟩ := X.ob
    refine ⟨_, (pss_cons (ps_set (i := 2) sc_Book_available.nd rfl (Or.inl rfl) pe_int)
    (pss_cons (ps_for PassesOwn.never rfl (pi_list (pe_dget hu (pe_fld (pv 0) rfl) (pe_f c_other_side (hr.mono (by decide)) (by rfl) (pa_cons (pe_fld (pv 1) rfl) pa_nil)) (fun _ _ => rfl))) (pg_name (i := 3) sc_Book_available.nd rfl (Or.inl rfl))
    (pss_one (ps_if (pw_and (pt_cmpR op_ne (pe_fld (pv 3) rfl) (pe_fld (pv 1) rfl) (nomark _)) (pw_and1 (pt_val (pe_f c_accepts (hr.mono (by decide)) (by rfl) (pa_cons (pe_fld (pv 1) rfl) (pa_cons (pe_fld (pv 1) rfl) (pa_cons (pe_fld (pv 3) rfl) pa_nil))))))).pt
    (pss_one (ps_set (i := 2) sc_Book_available.nd rfl (Or.inl rfl) (pe_op op_add (pv 2) (pe_fld (pv 3) rfl))))
    pss_nil)))
    (pss_one (ps_ret (pv 2))))), ?_⟩
    refine ⟨_, rfl, gfld hb T.clB T.nB_resting b_resting ⟨_, rfl, gfld ha T.clO T.nO_side o_side ⟨c, rfl, g.d, _, rfl, book_get X.dict (!c), ?_⟩⟩⟩
    refine ⟨_, rfl, ⟨_, SqL.of (X.lst (!c))⟩, for_list (K := K) (a := g.l !c) (xs := refs α (B !c)) (fun i σ' H' => H' = H ∧ ∃ v3, σ' = [some (.ref b), some (.ref a), some (.int (availB h c lim ((B !c).take i))), v3]) ⟨rfl, _, rfl⟩
      (fun i σ' H' _ z => by rw [z.1]; exact SqL.of (X.lst (!c))) ?_ ?_⟩
    · rintro i y σ' H' hi ⟨rfl, v3, rfl⟩
      obtain ⟨q, hq, hm, rfl⟩ := refs_get hi
      obtain ⟨dq, hoq⟩ := X.ord (!c) q hm
      refine ⟨_, rfl, gfld hoq T.clO T.nO_house o_house ⟨_, rfl, gfld ha T.clO T.nO_house o_house ⟨rfl, _, rfl, ?_⟩⟩⟩
      refine iteB (fun e => ?_) fun e => ?_
      · have hne : q.house ≠ h := fun z => by rw [z] at e; simp at e
        refine ⟨_, rfl, gfld ha T.clO T.nO_side o_side ⟨_, rfl, gfld ha T.clO T.nO_price o_price ⟨_, rfl, gfld hoq T.clO T.nO_price o_price ⟨c, lim, q.price, rfl, _, rfl, ?_⟩⟩⟩⟩
        refine iteB (fun e2 => ?_) fun e2 => ?_
        · refine ⟨_, rfl, _, rfl, gfld hoq T.clO T.nO_left o_left ⟨_, _, rfl, rfl, rfl, some (.ref (α q.num)), ?_⟩⟩
          rw [availB_snoc h c lim hq]
          unfold weigh
          rw [if_pos ⟨hne, e2⟩]
          rfl
        · refine ⟨rfl, some (.ref (α q.num)), ?_⟩
          rw [availB_snoc h c lim hq]
          unfold weigh
          rw [if_neg (fun z => by rw [z.2] at e2; cases e2), Int.add_zero]
          rfl
      · have heq : q.house = h := by
          by_cases z : q.house = h
          · exact z
          · have : decide (V.str q.house = V.str h) = false := decide_eq_false fun z' => z (by injection z')
            rw [this] at e
            cases e
        refine ⟨rfl, some (.ref (α q.num)), ?_⟩
        rw [availB_snoc h c lim hq]
        unfold weigh
        rw [if_neg (fun z => z.1 heq), Int.add_zero]
        rfl
    · rintro σ' H' ⟨rfl, v3, rfl⟩
      rw [refs_len, List.take_length]
      exact ⟨_, rfl, k⟩
end
end Fb

namespace Fb
open PySem PySem.Spec PyProof.Rows L2
section
variable {P : Program} {w : World} {K : PySem.W.Frag} {mg : Str → Option Value} {base : Heap} {CO CR CB : Addr}
theorem seq0 (n : Nat) : seqIndex? 0 (n + 1) = some 0 := (ixN_seq (n := n + 1) (i := 0) (j := 0) (by
  unfold ixN
  rw [if_pos (Int.le_refl 0), if_pos (by omega)]
  rfl)).1
theorem p63 : (0 : Int) < 2 ^ 63 ∧ -(2 ^ 63) ≤ (0 : Int) := by decide
theorem ins_inj {CO : Addr} {H : Hp} {a : Addr} {n n' : Int} {h h' : Str} {b b' : Bool} {lim lim' : Option Int} {l l' v v' s s' : Int} (h1 : InAt CO H a n h b lim l v s) (h2 : InAt CO H a n' h' b' lim' l' v' s') : n = n' ∧ b = b' := by
  obtain ⟨d1, e1⟩ := h1
  obtain ⟨d2, e2⟩ := h2
  have e := e1.symm.trans e2
  injection e with e
  injection e with _ _ e
  have en : some (V.int n) = some (V.int n') := by rw [← o_number (n := n), ← o_number (n := n'), e]
  have es : some (V.str (sd b)) = some (V.str (sd b')) := by rw [← o_side (b := b), ← o_side (b := b'), e]
  refine ⟨by injection en with en; injection en, ?_⟩
  have es : V.str (sd b) = V.str (sd b') := Option.some.inj es
  have := sd_sd b b'
  rw [decide_eq_true es] at this
  exact of_decide_eq_true this.symm
theorem book_ord {C C' d d' d1 st : Addr} {n n' : Int} {lv pr : V} {h : Str} {b : Bool} {l v s : Int} : HO.ins C d (bF d1 st n lv) ≠ HO.ins C' d' (oF n' h b pr l v s) := fun e => by
  injection e with _ _ e
  exact absurd (congrArg List.length e) (by show ¬ 4 = 7; decide)
theorem Bool.ne_not {x c : Bool} (h : x ≠ !c) : x = c := by cases x <;> cases c <;> simp_all
theorem not_self {c : Bool} : c ≠ !c := by cases c <;> simp
theorem setL_setL {γ : Type} {f : Bool → γ} {x : Bool} {u v : γ} : setL (setL f x u) x v = setL f x v := funext fun y => by
  unfold setL
  split <;> rfl
theorem BookAt.side {H H' : Hp} {b : Addr} {g : Geo} {α : Int → Addr} {B : Bool → List Ord} {next : Int} (X : BookAt CO CB H b g α B next) (x : Bool) (rs : List Ord)
    (hb : ∀ u, H b = some u → H' b = some u) (hd : H' g.d = H g.d) (hs : H' g.st = H g.st) (hl : ∀ y, y ≠ x → H' (g.l y) = H (g.l y)) (hx : H' (g.l x) = some (.lst (refs α rs)))
    (ho : ∀ y, y ≠ x → ∀ o ∈ B y, OrdAt CO H' (α o.num) o) (hr : ∀ o ∈ rs, OrdAt CO H' (α o.num) o) : BookAt CO CB H' b g α (setL B x rs) next where
  ob := by obtain ⟨dx, lv, e⟩ := X.ob; exact ⟨dx, lv, hb _ e⟩
  dict := hd.trans X.dict
  st := hs.trans X.st
  lst := fun y => by
    by_cases e : y = x
    · subst e
      rw [setL_same]
      exact hx
    · rw [setL_ne e]
      exact (hl y e).trans (X.lst y)
  ord := fun y o hm => by
    by_cases e : y = x
    · subst e
      rw [setL_same] at hm
      exact hr o hm
    · rw [setL_ne e] at hm
      exact ho y e o hm
  ne := X.ne
  ns := X.ns
def spSettle (CO CB : Addr) : Sp := fun vs H Q _ => ∃ (b dx : Addr) (g : Geo) (α : Int → Addr) (n : Int) (lv : V) (q : Ord) (rest : List Ord), vs = [.ref b, .ref (g.l q.buy), .ref (α q.num)] ∧ H b = some (.ins CB dx (bF g.d g.st n lv)) ∧ H g.d = some (dictK g) ∧
  H (g.l q.buy) = some (.lst (refs α (q :: rest))) ∧ OrdAt CO H (α q.num) q ∧ (∀ r ∈ rest, OrdAt CO H (α r.num) r ∧ r.num ≠ q.num) ∧ rest.length ≤ 999 ∧
  ∀ H' : Hp, H' (g.l q.buy) = some (.lst (refs α (settle q rest))) → (∀ r ∈ settle q rest, OrdAt CO H' (α r.num) r) → (∀ y u, H y = some u → y ≠ g.l q.buy → y ≠ α q.num → H' y = some u) → Q .non H'
theorem ok_settle {f : Addr} {fd : FuncData} (F : Fun K "_settle_first" "Book._settle_first" s_Book_settle_first f fd) (T : Txt K mg CO CR CB) (c_show_next_part : CallM P w K mg base 1 CO "show_next_part" ["self"] (spShow CO)) (c_insert : CallM P w K mg base 2 CB "_insert" ["self", "order"] (spInsert CO CB)) :
    FnOk P w K mg base CX0 3 f fd ["self", "resting", "first"] (spSettle CO CB) := by
  refine F.ok sc_Book_settle_first (fun vs H Q E h => ?_) (fun cdv A outer s H vs Q E hr h => ?_)
  · obtain ⟨b, dx, g, α, n, lv, q, rest, rfl, _⟩ := h
    rfl
  · obtain ⟨b, dx, g, α, n, lv, q, rest, rfl, hb, hd, hl, ⟨dq, hq⟩, hrest, hlen, k⟩ := h
    have nlq : α q.num ≠ g.l q.buy := ne_of hq hl (by intro z; cases z)
    have nlr : ∀ r ∈ rest, α r.num ≠ g.l q.buy := fun r hr => by
      obtain ⟨dr, e⟩ := (hrest r hr).1
      exact ne_of e hl (by intro z; cases z)
    have nqr : ∀ r ∈ rest, α r.num ≠ α q.num := fun r hr e => by
      have h1 := (hrest r hr).1
      rw [e] at h1
      exact (hrest r hr).2 (h1.inj ⟨dq, hq⟩).1
    refine ⟨_, (pss_one (ps_if (pt_cmpR op_eq (pe_fld (pv 2) rfl) pe_int (nomark _))
    (pss_one (ps_expr (pe_bm PySem.F.plainAttrs_list PySem.F.slot_list_pop PySem.F.type_list_pop mt_popAt (pv 1) (pa_cons pe_int pa_nil))))
    (pss_one (ps_if (pt_cmpR op_eq (pe_fld (pv 2) rfl) pe_int (nomark _))
    (pss_cons (ps_expr (pe_bm PySem.F.plainAttrs_list PySem.F.slot_list_pop PySem.F.type_list_pop mt_popAt (pv 1) (pa_cons pe_int pa_nil)))
    (pss_cons (ps_expr (pe_m0 c_show_next_part (hr.mono (by decide)) T.clO (pv 2)))
    (pss_one (ps_expr (pe_m c_insert (hr.mono (by decide)) T.clB (pv 0) (pa_cons (pv 2) pa_nil))))))
    pss_nil)))), ?_⟩
    refine ⟨_, rfl, gfld hq T.clO T.nO_left o_left ⟨rfl, _, rfl, ?_⟩⟩
    refine iteD (fun e => ?_) fun e => ?_
    · have hz : q.left = 0 := by injection e
      refine ⟨_, rfl, .inl ⟨rfl, _, SqL.of hl⟩, g.l q.buy, _, 0, 0, _, rfl, rfl, hl, p63.2, p63.1, seq0 _, rfl, ?_⟩
      have es : settle q rest = rest := if_pos hz
      rw [es] at k
      refine k _ upd_same (fun r hr => ?_) fun y u e h1 _ => by rw [upd_ne h1]; exact e
      obtain ⟨dr, e⟩ := (hrest r hr).1
      exact ⟨dr, (upd_ne (nlr r hr)).trans e⟩
    · have hz : ¬ q.left = 0 := fun z => e (by rw [z])
      refine ⟨_, rfl, gfld hq T.clO T.nO_visible o_visible ⟨rfl, _, rfl, ?_⟩⟩
      refine iteD (fun e => ?_) fun e => ?_
      · have hv : q.vis = 0 := by injection e
        have es : settle q rest = ins (refill q) rest := (if_neg hz).trans (if_pos hv)
        rw [es] at k
        refine ⟨_, rfl, .inl ⟨rfl, _, SqL.of hl⟩, g.l q.buy, _, 0, 0, _, rfl, rfl, hl, p63.2, p63.1, seq0 _, rfl, ?_⟩
        have hq1 : upd H (g.l q.buy) (.lst (refs α rest)) (α q.num) = some (.ins CO dq (oF q.num q.house q.buy (limV (some q.price)) q.left q.vis q.shown)) := (upd_ne nlq).trans hq
        refine ⟨_, rfl, α q.num, dq, _, rfl, hq1, o_no (by decide +kernel), α q.num, dq, _, _, _, _, _, _, _, rfl, hq1, ?_⟩
        have hb1 : upd (upd H (g.l q.buy) (.lst (refs α rest))) (α q.num) (.ins CO dq (oF q.num q.house q.buy (limV (some q.price)) q.left (nextVis q.left q.shown) q.shown)) b = some (.ins CB dx (bF g.d g.st n lv)) := by
          rw [upd_ne (ne_of hb hq book_ord), upd_ne (ne_of hb hl (by intro z; cases z))]
          exact hb
        refine ⟨_, rfl, b, dx, _, rfl, hb1, b_no (by decide +kernel), _, rfl, b, dx, g, α, n, lv, refill q, rest, rfl, hb1, ?_, ?_, ?_, ⟨dq, upd_same⟩, by omega, ?_⟩
        · rw [upd_ne (ne_of hd hq (by intro z; cases z)), upd_ne (ne_of hd hl (by intro z; cases z))]
          exact hd
        · show upd _ _ _ (g.l q.buy) = _
          rw [upd_ne nlq.symm, upd_same]
          all_goals rfl
        · intro r hr
          obtain ⟨dr, e⟩ := (hrest r hr).1
          exact ⟨dr, (upd_ne (nqr r hr)).trans ((upd_ne (nlr r hr)).trans e)⟩
        · refine k _ upd_same (fun r hr => ?_) fun y u e h1 h2 => ?_
          · rcases mem_ins.mp hr with e | hr
            · subst e
              exact ⟨dq, (upd_ne nlq).trans upd_same⟩
            · obtain ⟨dr, e⟩ := (hrest r hr).1
              exact ⟨dr, (upd_ne (nlr r hr)).trans ((upd_ne (nqr r hr)).trans ((upd_ne (nlr r hr)).trans e))⟩
          · show upd _ (g.l q.buy) _ y = _
            rw [upd_ne h1, upd_ne h2, upd_ne h1]
            exact e
      · have hv : ¬ q.vis = 0 := fun z => e (by rw [z])
        have es : settle q rest = q :: rest := (if_neg hz).trans (if_neg hv)
        rw [es] at k
        refine k _ hl (fun r hr => ?_) fun y u e _ _ => e
        rcases List.mem_cons.mp hr with e | hr
        · subst e
          exact ⟨dq, hq⟩
        · exact (hrest r hr).1
end
end Fb

namespace Fb
open PySem PySem.Spec PyProof.Rows L2
section
variable {P : Program} {w : World} {K : PySem.W.Frag} {mg : Str → Option Value} {base : Heap} {CO CR CB : Addr}
def spMatch (CO CB : Addr) : Sp := fun vs H Q _ => ∃ (b a f m : Addr) (g : Geo) (α : Int → Addr) (B : Bool → List Ord) (next n : Int) (h : Str) (c : Bool) (lim : Option Int) (l v s : Int), vs = [.ref b, .ref a, .ref f, .ref m] ∧ BookAt CO CB H b g α B next ∧
  InAt CO H a n h c lim l v s ∧ H f = some (.lst []) ∧ H m = some (.lst []) ∧ f ≠ m ∧ (∀ x, g.l x ≠ f) ∧ (∀ x, g.l x ≠ m) ∧ g.st ≠ f ∧ g.st ≠ m ∧ SideOk (!c) (B !c) ∧ (∀ o ∈ B c, o.buy = c) ∧ (∀ x, ∀ o ∈ B x, o.num ≠ n) ∧ 0 ≤ l ∧ l.toNat + (B !c).length ≤ 1000 ∧
  ∀ H' : Hp, BookAt CO CB H' b g α (setL B (!c) (runB h c lim l (B !c)).rs) next → InAt CO H' a n h c lim (runB h c lim l (B !c)).left v s → FillsAt H' f (runB h c lim l (B !c)).fills → RemAt H' m (runB h c lim l (B !c)).rem → (∀ o ∈ (runB h c lim l (B !c)).rs, o.num ≠ n) →
    (∀ y u, H y = some u → y ≠ g.l (!c) → y ≠ f → y ≠ m → (∀ C dx fs, u ≠ .ins C dx fs) → H' y = some u) → Q .non H'
/-- the state of the matching loop -/
structure MSt (CO CB : Addr) (H H' : Hp) (b a f m : Addr) (g : Geo) (α : Int → Addr) (B : Bool → List Ord) (next n : Int) (h : Str) (c : Bool) (lim : Option Int) (v s : Int) (t : MS) : Prop where
  book : BookAt CO CB H' b g α (setL B (!c) t.rs) next
  inn : InAt CO H' a n h c lim t.left v s
  fills : FillsAt H' f t.fills
  rem : RemAt H' m t.rem
  side : SideOk (!c) t.rs
  nums : ∀ o ∈ t.rs, o.num ≠ n
  nn : 0 ≤ t.left
  fr : ∀ y u, H y = some u → y ≠ g.l (!c) → y ≠ f → y ≠ m → (∀ C dx fs, u ≠ .ins C dx fs) → H' y = some u
theorem runB_le {h : Str} {c : Bool} {lim : Option Int} {t : MS} {k : Nat} : mloop h c lim k t = mloop h c lim k t := rfl
theorem ok_match {fn : Addr} {fd : FuncData} (F : Fun K "_match" "Book._match" s_Book_match fn fd) (T : Txt K mg CO CR CB) (c_other_side : CallF P w K mg base 1 "other_side" ["side"] spOther) (c_accepts : CallF P w K mg base 1 "accepts" ["side", "limit", "price"] spAccepts)
    (c_take : CallM P w K mg base 1 CO "take" ["self", "quantity"] (spTake CO)) (c_settle_first : CallM P w K mg base 3 CB "_settle_first" ["self", "resting", "first"] (spSettle CO CB)) : FnOk P w K mg base CX0 4 fn fd ["self", "order", "fills", "removed"] (spMatch CO CB) := by
  refine F.ok sc_Book_match (fun vs H Q E h => ?_) (fun cdv A outer s H vs Q E hr h => ?_)
  · obtain ⟨b, a, f, m, g, α, B, next, n, h, c, lim, l, v, s, rfl, _⟩ := h
    rfl
  · obtain ⟨b, a, f, m, g, α, B, next, n, h, c, lim, l, v, s, rfl, X, ha, hf, hm, fm, lf, lm, sf, sm, side, own, nums, hl0, hsz, k⟩ := h
    have hu := hu_of hr
    obtain ⟨dx, lv, hb⟩ := X.ob
    obtain ⟨da, ha0⟩ := id ha
    refine ⟨_, (pss_cons (ps_set (i := 4) sc_Book_match.nd rfl (Or.inl rfl) (pe_dget hu (pe_fld (pv 0) rfl) (pe_f c_other_side (hr.mono (by decide)) (by rfl) (pa_cons (pe_fld (pv 1) rfl) pa_nil)) (fun _ _ => rfl)))
    (pss_one (ps_while PassesOwn.never (pw_and (pt_cmpR op_gt (pe_fld (pv 1) rfl) pe_int (nomark _)) (pw_and1 (pt_truth (pv 4) (by intro _; rfl)))).pt
    (pss_cons (ps_set (i := 5) sc_Book_match.nd rfl (Or.inl rfl) (pe_ix ix_list (pv 4) pe_int (fun _ _ => rfl)))
    (pss_cons (ps_if (pt_not (pt_val (pe_f c_accepts (hr.mono (by decide)) (by rfl) (pa_cons (pe_fld (pv 1) rfl) (pa_cons (pe_fld (pv 1) rfl) (pa_cons (pe_fld (pv 5) rfl) pa_nil))))))
    (pss_one ps_retN)
    pss_nil)
    (pss_one (ps_if (pt_cmpR op_eq (pe_fld (pv 5) rfl) (pe_fld (pv 1) rfl) (nomark _))
    (pss_cons (ps_expr (pe_bm PySem.F.plainAttrs_list PySem.F.slot_list_append PySem.F.type_list_append mt_append (pv 3) (pa_cons (pe_fld (pv 5) rfl) pa_nil)))
    (pss_one (ps_expr (pe_bm PySem.F.plainAttrs_list PySem.F.slot_list_pop PySem.F.type_list_pop mt_popAt (pv 4) (pa_cons pe_int pa_nil)))))
    (pss_cons (ps_set (i := 6) sc_Book_match.nd rfl (Or.inl rfl) (pe_callB (call_min2 rfl) (by rfl) T.zMin boot_min (pa_cons (pe_fld (pv 1) rfl) (pa_cons (pe_fld (pv 5) rfl) pa_nil))))
    (pss_cons (ps_expr (pe_bm PySem.F.plainAttrs_list PySem.F.slot_list_append PySem.F.type_list_append mt_append (pv 2) (pa_cons (pe_tup (pa_cons (pe_fld (pv 5) rfl) (pa_cons (pe_fld (pv 5) rfl) (pa_cons (pe_fld (pv 5) rfl) (pa_cons (pv 6) pa_nil))))) pa_nil)))
    (pss_cons (ps_fld (pv 1) (pe_op op_sub (pe_fld (pv 1) rfl) (pv 6)) rfl)
    (pss_cons (ps_expr (pe_m c_take (hr.mono (by decide)) T.clO (pv 5) (pa_cons (pv 6) pa_nil)))
    (pss_one (ps_expr (pe_m c_settle_first (hr.mono (by decide)) T.clB (pv 0) (pa_cons (pv 4) (pa_cons (pv 5) pa_nil)))))))))))))))), ?_⟩
    refine ⟨_, rfl, gfld hb T.clB T.nB_resting b_resting ⟨_, rfl, gfld ha0 T.clO T.nO_side o_side ⟨c, rfl, g.d, _, rfl, book_get X.dict (!c), ?_⟩⟩⟩
    have eB : setL B (!c) (B !c) = B := funext fun y => by
      by_cases e : y = !c
      · rw [e, setL_same]
      · rw [setL_ne e]
    refine ⟨fun mm σ' H' => ∃ (t : MS) (k : Nat) (v5 v6 : Option V), σ' = [some (.ref b), some (.ref a), some (.ref f), some (.ref m), some (.ref (g.l !c)), v5, v6] ∧ MSt CO CB H H' b a f m g α B next n h c lim v s t ∧
        mloop h c lim k t = runB h c lim l (B !c) ∧ meas t ≤ k ∧ t.fills.length + t.rem.length + meas t ≤ 1000 ∧ mm = meas t,
      ⟨_, ⟨l, B !c, [], []⟩, 2000, none, none, rfl, ⟨by rw [eB]; exact X, ha, ⟨[], hf, .nil⟩, hm, side, fun o ho => nums _ o ho, hl0, fun y u e _ _ _ _ => e⟩, rfl, by unfold meas; simp only; omega, by unfold meas; simp only [List.length_nil]; omega, rfl⟩, ?_⟩
    rintro mm σ' H' ⟨t, kk, v5, v6, rfl, M, hrun, hmk, hfk, rfl⟩
    obtain ⟨left, rs, fills, rem⟩ := t
    dsimp only at hmk hfk
    obtain ⟨da, ha'⟩ : InAt CO H' a n h c lim left v s := M.inn
    obtain ⟨ac, hacc, tu⟩ : FillsAt H' f fills := M.fills
    have hrem : H' m = some (.lst (rem.map V.int)) := M.rem
    have hl' : H' (g.l !c) = some (.lst (refs α rs)) := by
      have := M.book.lst (!c)
      rw [setL_same] at this
      exact this
    have fin : mstep h c lim ⟨left, rs, fills, rem⟩ = none → Q .non H' := fun e => by
      rw [mloop_none e] at hrun
      refine k H' ?_ ?_ ?_ ?_ ?_ M.fr
      · rw [← hrun]; exact M.book
      · rw [← hrun]; exact M.inn
      · rw [← hrun]; exact M.fills
      · rw [← hrun]; exact M.rem
      · rw [← hrun]; exact M.nums
    have run : ∀ {t' : MS}, mstep h c lim ⟨left, rs, fills, rem⟩ = some t' → meas t' < meas ⟨left, rs, fills, rem⟩ → ∃ k', mloop h c lim k' t' = runB h c lim l (B !c) ∧ meas t' ≤ k' := fun {t'} e hlt => by
      obtain ⟨k', rfl⟩ : ∃ k', kk = k' + 1 := ⟨kk - 1, by omega⟩
      rw [mloop_some e] at hrun
      exact ⟨k', hrun, by omega⟩
    refine ⟨_, rfl, gfld ha' T.clO T.nO_left o_left ⟨_, _, rfl, rfl, _, rfl, ?_⟩⟩
    refine iteD (fun hpos => ?_) fun hneg => iteF (fin (mstep_left (Int.not_lt.mp hneg)))
    refine ⟨_, rfl, _, .inl ⟨_, SqL.of hl', rfl⟩, ?_⟩
    cases rs with
    | nil => exact iteF (fin mstep_nil)
    | cons q rest =>
      refine iteT ⟨_, fun _ _ z => z, ?_⟩
      have hord : ∀ r ∈ q :: rest, OrdAt CO H' (α r.num) r := fun r hr => M.book.ord (!c) r (by rw [setL_same]; exact hr)
      obtain ⟨dq, hq⟩ := hord q List.mem_cons_self
      have hqb : q.buy = !c := M.side.buy q List.mem_cons_self
      refine ⟨_, rfl, g.l !c, _, _, _, rfl, rfl, SqL.of hl', at_of (j := 0) rfl rfl, ?_⟩
      refine ⟨_, rfl, gfld ha' T.clO T.nO_side o_side ⟨_, rfl, gfld ha' T.clO T.nO_price o_price ⟨_, rfl, gfld hq T.clO T.nO_price o_price ⟨c, lim, q.price, rfl, _, rfl, ?_⟩⟩⟩⟩
      cases hacp : acc c lim q.price with
      | false => exact iteT (fin (mstep_far (by rw [hacp]; simp)))
      | true =>
        refine iteF ?_
        -- what is where
        obtain ⟨dx', lv', hb'⟩ := M.book.ob
        have hd' := M.book.dict
        have hs' := M.book.st
        have hlc' : H' (g.l c) = some (.lst (refs α (B c))) := by
          have := M.book.lst c
          rw [setL_ne not_self] at this
          exact this
        have hoc' : ∀ o ∈ B c, OrdAt CO H' (α o.num) o := fun o ho => M.book.ord c o (by rw [setL_ne not_self]; exact ho)
        have lcl : g.l c ≠ g.l !c := by
          cases c with
          | true => exact X.ne
          | false => exact X.ne.symm
        have naq : a ≠ α q.num := fun e => by
          have := ins_inj (CO := CO) (H := H') (a := a) ⟨da, ha'⟩ (by rw [e]; exact ⟨dq, hq⟩)
          exact M.nums q List.mem_cons_self this.1.symm
        have nao : ∀ o ∈ B c, α o.num ≠ a := fun o ho e => by
          have h1 := hoc' o ho
          rw [e] at h1
          exact nums c o ho (ins_inj (CO := CO) (H := H') (a := a) h1 ⟨da, ha'⟩).1
        have noq : ∀ o ∈ B c, α o.num ≠ α q.num := fun o ho e => by
          have h1 := hoc' o ho
          rw [e] at h1
          have h2 := (ins_inj (CO := CO) (H := H') h1 ⟨dq, hq⟩).2
          rw [own o ho, hqb] at h2
          exact not_self h2
        refine ⟨_, rfl, gfld hq T.clO T.nO_house o_house ⟨_, rfl, gfld ha' T.clO T.nO_house o_house ⟨rfl, _, rfl, ?_⟩⟩⟩
        refine iteD (fun e => ?_) fun e => ?_
        · have hh : q.house = h := by injection e
          have hst := mstep_own (f := fills) (r := rem) (rs := rest) hpos hacp hh
          have hml : meas ⟨left, rest, fills, rem ++ [q.num]⟩ < meas ⟨left, q :: rest, fills, rem⟩ := by unfold meas; simp
          obtain ⟨k', hk1, hk2⟩ := run hst hml
          have hrl : rem.length ≤ 2000 := by omega
          refine ⟨_, rfl, .inl ⟨rfl, _, SqL.of hrem⟩, _, rfl, gfld hq T.clO T.nO_number o_number ⟨m, _, _, rfl, rfl, hrem, ?_, ?_⟩⟩
          · rw [List.length_map]
            exact Nat.lt_of_le_of_lt hrl (by decide)
          have hl1 : upd H' m (.lst (rem.map V.int ++ [V.int q.num])) (g.l !c) = some (.lst (refs α (q :: rest))) := (upd_ne (lm _)).trans hl'
          refine ⟨_, rfl, .inl ⟨rfl, _, SqL.of hl1⟩, g.l !c, _, 0, 0, _, rfl, rfl, hl1, p63.2, p63.1, seq0 _, rfl, ?_⟩
          refine ⟨meas ⟨left, rest, fills, rem ++ [q.num]⟩, hml, ⟨left, rest, fills, rem ++ [q.num]⟩, k', _, _, rfl, ?_, hk1, hk2, ?_, rfl⟩
          · have kp : ∀ y u, H' y = some u → y ≠ g.l (!c) → y ≠ m → upd (upd H' m (.lst (rem.map V.int ++ [V.int q.num]))) (g.l !c) (.lst ((refs α (q :: rest)).eraseIdx 0)) y = some u := fun y u e h1 h2 => by
              rw [upd_ne h1, upd_ne h2]
              exact e
            refine ⟨?_, ⟨da, kp a _ ha' (ne_of ha' hl' (by intro z; cases z)) (ne_of ha' hrem (by intro z; cases z))⟩, ?_, ?_, M.side.tail, fun o ho => M.nums o (List.mem_cons_of_mem _ ho), M.nn, ?_⟩
            · have := M.book.side (!c) rest (H' := upd (upd H' m (.lst (rem.map V.int ++ [V.int q.num]))) (g.l !c) (.lst ((refs α (q :: rest)).eraseIdx 0)))
                (fun u e => kp b u e (ne_of hb' hl' (by intro z; cases z)) (ne_of hb' hrem (by intro z; cases z)))
                ((kp _ _ hd' (ne_of hd' hl' (by intro z; cases z)) (ne_of hd' hrem (by intro z; cases z))).trans hd'.symm)
                ((kp _ _ hs' (X.ns _).symm sm).trans hs'.symm)
                (fun y hy => by
                  obtain rfl := Bool.ne_not hy
                  exact (kp _ _ hlc' lcl (lm _)).trans hlc'.symm)
                upd_same
                (fun y hy o ho => by
                  obtain rfl := Bool.ne_not hy
                  rw [setL_ne not_self] at ho
                  obtain ⟨d, e⟩ := hoc' o ho
                  exact ⟨d, kp _ _ e (ne_of e hl' (by intro z; cases z)) (ne_of e hrem (by intro z; cases z))⟩)
                (fun o ho => by
                  obtain ⟨d, e⟩ := hord o (List.mem_cons_of_mem _ ho)
                  exact ⟨d, kp _ _ e (ne_of e hl' (by intro z; cases z)) (ne_of e hrem (by intro z; cases z))⟩)
              rw [setL_setL] at this
              exact this
            · exact ⟨ac, kp f _ hacc (lf _).symm fm, tu.keep fun y xs e => kp y _ e (ne_of e hl' (by intro z; cases z)) (ne_of e hrem (by intro z; cases z))⟩
            · show upd _ _ _ m = _
              rw [upd_ne (lm _).symm, upd_same, List.map_append]
              rfl
            · intro y u e h1 h2 h3 h4
              exact kp y u (M.fr y u e h1 h2 h3 h4) h1 h3
          · rw [List.length_append]
            simp only [List.length_singleton]
            omega
        · have hh : ¬ q.house = h := fun z => e (by rw [z])
          have hst := mstep_trade (f := fills) (r := rem) (rs := rest) hpos hacp hh
          have hW := M.side.good.wf q List.mem_cons_self
          have t1 := mn_le_left left q.vis
          have t2 := mn_le_right left q.vis
          have t3 := mn_pos (i := left) (j := q.vis) hpos (by have := hW.v1; omega)
          obtain ⟨ss1, ss2, ss3⟩ := side_settle (t := mn left q.vis) M.side t2
          have hml : meas ⟨left - mn left q.vis, settle (q.take (mn left q.vis)) rest, fills ++ [⟨q.num, q.house, q.price, mn left q.vis⟩], rem⟩ < meas ⟨left, q :: rest, fills, rem⟩ := by
            unfold meas
            simp only [List.length_cons]
            omega
          obtain ⟨k', hk1, hk2⟩ := run hst hml
          have hal : ac.length ≤ 2000 := by
            rw [tu.length, List.length_map]
            omega
          refine ⟨_, rfl, gfld ha' T.clO T.nO_left o_left ⟨_, rfl, gfld hq T.clO T.nO_visible o_visible ⟨_, _, rfl, ?_⟩⟩⟩
          rw [show (if q.vis < left then q.vis else left) = mn left q.vis from rfl]
          refine ⟨_, rfl, .inl ⟨rfl, _, SqL.of hacc⟩, _, rfl, gfld hq T.clO T.nO_number o_number ⟨_, rfl, gfld hq T.clO T.nO_house o_house ⟨_, rfl, gfld hq T.clO T.nO_price o_price ⟨_, rfl, ?_⟩⟩⟩⟩
          refine ⟨(by show 4 ≤ sizeLine; decide), fun p hp => ?_⟩
          have np : ∀ y u, H' y = some u → y ≠ p := fun y u e => ne_of_none e hp
          have hacc1 : upd H' p (.tup [.int q.num, .str q.house, .int q.price, .int (mn left q.vis)]) f = some (.lst ac) := (upd_ne (np _ _ hacc)).trans hacc
          refine ⟨f, _, _, rfl, rfl, hacc1, Nat.lt_of_le_of_lt hal (by decide), ?_⟩
          generalize hH2 : upd (upd H' p (.tup [.int q.num, .str q.house, limV (some q.price), .int (mn left q.vis)])) f (.lst (ac ++ [.ref p])) = H2
          have kp2 : ∀ y u, H' y = some u → y ≠ f → H2 y = some u := fun y u e h1 => by
            rw [← hH2, upd_ne h1, upd_ne (np _ _ e)]
            exact e
          have e2f : H2 f = some (.lst (ac ++ [.ref p])) := by rw [← hH2, upd_same]
          have e2p : H2 p = some (.tup [.int q.num, .str q.house, .int q.price, .int (mn left q.vis)]) := by
            rw [← hH2, upd_ne (np _ _ hacc).symm, upd_same]
            all_goals rfl
          have ha2 := kp2 a _ ha' (ne_of ha' hacc (by intro z; cases z))
          have hq2 := kp2 _ _ hq (ne_of hq hacc (by intro z; cases z))
          refine ⟨_, rfl, gfld ha2 T.clO T.nO_left o_left ⟨_, rfl, _, _, rfl, rfl, _, rfl, a, CO, da, _, rfl, ha2, T.clO, T.nO_left, o_len, ?_⟩⟩
          rw [o_put_left]
          have hq3 : ∀ u, upd H2 a u (α q.num) = some (.ins CO dq (oF q.num q.house q.buy (limV (some q.price)) q.left q.vis q.shown)) := fun u => (upd_ne naq.symm).trans hq2
          refine ⟨_, rfl, α q.num, dq, _, rfl, hq3 _, o_no (by decide +kernel), _, rfl, α q.num, dq, _, _, _, _, _, _, _, _, rfl, hq3 _, ?_⟩
          generalize hH4 : upd (upd H2 a (.ins CO da (oF n h c (limV lim) (left - mn left q.vis) v s))) (α q.num) (.ins CO dq (oF q.num q.house q.buy (limV (some q.price)) (q.left - mn left q.vis) (q.vis - mn left q.vis) q.shown)) = H4
          have kp4 : ∀ y u, H' y = some u → y ≠ f → y ≠ a → y ≠ α q.num → H4 y = some u := fun y u e h1 h2 h3 => by
            rw [← hH4, upd_ne h3, upd_ne h2]
            exact kp2 y u e h1
          have e4a : H4 a = some (.ins CO da (oF n h c (limV lim) (left - mn left q.vis) v s)) := by rw [← hH4, upd_ne naq, upd_same]
          have e4q : H4 (α q.num) = some (.ins CO dq (oF q.num q.house q.buy (limV (some q.price)) (q.left - mn left q.vis) (q.vis - mn left q.vis) q.shown)) := by rw [← hH4, upd_same]
          have fa : f ≠ a := ne_of hacc ha' (by intro z; cases z)
          have fq : f ≠ α q.num := ne_of hacc hq (by intro z; cases z)
          have e4f : H4 f = some (.lst (ac ++ [.ref p])) := by rw [← hH4, upd_ne fq, upd_ne fa]; exact e2f
          have e4p : H4 p = some (.tup [.int q.num, .str q.house, .int q.price, .int (mn left q.vis)]) := by
            rw [← hH4, upd_ne (np _ _ hq).symm, upd_ne (np _ _ ha').symm]
            exact e2p
          have hb4 := kp4 b _ hb' (ne_of hb' hacc (by intro z; cases z)) (ne_of hb' ha' book_ord) (ne_of hb' hq book_ord)
          have hd4 := kp4 _ _ hd' (ne_of hd' hacc (by intro z; cases z)) (ne_of hd' ha' (by intro z; cases z)) (ne_of hd' hq (by intro z; cases z))
          have hl4 := kp4 _ _ hl' (lf _) (ne_of hl' ha' (by intro z; cases z)) (ne_of hl' hq (by intro z; cases z))
          have rq : ∀ r ∈ rest, α r.num ≠ α q.num := fun r hr e => by
            have h1 := hord r (List.mem_cons_of_mem _ hr)
            rw [e] at h1
            exact M.side.good.nums.head r hr (h1.inj ⟨dq, hq⟩).1
          have ra : ∀ r ∈ rest, α r.num ≠ a := fun r hr e => by
            have h1 := hord r (List.mem_cons_of_mem _ hr)
            rw [e] at h1
            exact M.nums r (List.mem_cons_of_mem _ hr) (ins_inj (CO := CO) (H := H') (a := a) h1 ⟨da, ha'⟩).1
          have hrest4 : ∀ r ∈ rest, OrdAt CO H4 (α r.num) r := fun r hr => by
            obtain ⟨d, e⟩ := hord r (List.mem_cons_of_mem _ hr)
            exact ⟨d, kp4 _ _ e (ne_of e hacc (by intro z; cases z)) (ra r hr) (rq r hr)⟩
          have hlen : rest.length ≤ 999 := by
            have hm1 : meas ⟨left, q :: rest, fills, rem⟩ ≤ 1000 := by omega
            unfold meas at hm1
            simp only [List.length_cons] at hm1
            omega
          have eqb : (q.take (mn left q.vis)).buy = !c := hqb
          refine ⟨_, rfl, b, dx', _, rfl, hb4, b_no (by decide +kernel), _, rfl, _, rfl, b, dx', g, α, next, lv', q.take (mn left q.vis), rest, by rw [eqb]; rfl, hb4, hd4, by rw [eqb]; exact hl4, ⟨dq, e4q⟩, fun r hr => ⟨hrest4 r hr, M.side.good.nums.head r hr⟩, hlen, fun H5 e5l e5o kp5 => ?_⟩
          rw [eqb] at e5l kp5
          have kq : ∀ y u, H4 y = some u → y ≠ g.l (!c) → y ≠ α q.num → H5 y = some u := kp5
          have kp : ∀ y u, H' y = some u → y ≠ f → y ≠ a → y ≠ α q.num → y ≠ g.l (!c) → H5 y = some u := fun y u e h1 h2 h3 h4 => kq y u (kp4 y u e h1 h2 h3) h4 h3
          have lal : a ≠ g.l (!c) := ne_of ha' hl' (by intro z; cases z)
          refine ⟨meas ⟨left - mn left q.vis, settle (q.take (mn left q.vis)) rest, fills ++ [⟨q.num, q.house, q.price, mn left q.vis⟩], rem⟩, hml, ⟨left - mn left q.vis, settle (q.take (mn left q.vis)) rest, fills ++ [⟨q.num, q.house, q.price, mn left q.vis⟩], rem⟩, k', _, _, rfl, ?_, hk1, hk2, ?_, rfl⟩
          · refine ⟨?_, ⟨da, kq a _ e4a lal naq⟩, ?_, ?_, ss1, fun o ho => ?_, by show 0 ≤ left - _; omega, ?_⟩
            · have := M.book.side (!c) (settle (q.take (mn left q.vis)) rest) (H' := H5)
                (fun u e => by
                  have e' := hb'.symm.trans e
                  injection e' with e'
                  subst e'
                  exact kp b _ hb' (ne_of hb' hacc (by intro z; cases z)) (ne_of hb' ha' book_ord) (ne_of hb' hq book_ord) (ne_of hb' hl' (by intro z; cases z)))
                ((kp _ _ hd' (ne_of hd' hacc (by intro z; cases z)) (ne_of hd' ha' (by intro z; cases z)) (ne_of hd' hq (by intro z; cases z)) (ne_of hd' hl' (by intro z; cases z))).trans hd'.symm)
                ((kp _ _ hs' sf (ne_of hs' ha' (by intro z; cases z)) (ne_of hs' hq (by intro z; cases z)) (X.ns _).symm).trans hs'.symm)
                (fun y hy => by
                  obtain rfl := Bool.ne_not hy
                  exact (kp _ _ hlc' (lf _) (ne_of hlc' ha' (by intro z; cases z)) (ne_of hlc' hq (by intro z; cases z)) lcl).trans hlc'.symm)
                e5l
                (fun y hy o ho => by
                  obtain rfl := Bool.ne_not hy
                  rw [setL_ne not_self] at ho
                  obtain ⟨d, e⟩ := hoc' o ho
                  exact ⟨d, kp _ _ e (ne_of e hacc (by intro z; cases z)) (nao o ho) (noq o ho) (ne_of e hl' (by intro z; cases z))⟩)
                e5o
              rw [setL_setL] at this
              exact this
            · refine ⟨_, kq f _ e4f (lf _).symm fq, ?_⟩
              rw [List.map_append]
              refine Tups.snoc (kq p _ e4p (np _ _ hl').symm (np _ _ hq).symm) (tu.keep fun y xs e => ?_)
              exact kp y _ e (ne_of e hacc (by intro z; cases z)) (ne_of e ha' (by intro z; cases z)) (ne_of e hq (by intro z; cases z)) (ne_of e hl' (by intro z; cases z))
            · exact kp m _ hrem fm.symm (ne_of hrem ha' (by intro z; cases z)) (ne_of hrem hq (by intro z; cases z)) (lm _).symm
            · rcases ss3 o ho with e | ho
              · rw [e]
                exact M.nums q List.mem_cons_self
              · exact M.nums o (List.mem_cons_of_mem _ ho)
            · intro y u e h1 h2 h3 h4
              have e' := M.fr y u e h1 h2 h3 h4
              exact kp y u e' h2 (ne_of e' ha' (h4 _ _ _)) (ne_of e' hq (h4 _ _ _)) h1
          · rw [List.length_append]
            simp only [List.length_singleton]
            omega
end
end Fb

namespace Fb
open PySem PySem.Spec PyProof.Rows L2
section
variable {P : Program} {w : World} {K : PySem.W.Frag} {mg : Str → Option Value} {base : Heap} {CO CR CB : Addr}
theorem and_pure {t u : TT} {σ : L2.St} {H : Hp} {Q : Bool → Hp → Prop} {b1 b2 : Bool} (h1 : ∀ Q : Bool → Hp → Prop, Q b1 H → t σ H Q) (h2 : ∀ Q : Bool → Hp → Prop, Q b2 H → u σ H Q) (q : Q (b1 && b2) H) : tAnd t u σ H Q := by
  refine h1 _ ?_
  cases b1 with
  | true => exact iteT (h2 _ (by simpa using q))
  | false => exact iteF (by simpa using q)
theorem made_same {H : Hp} {x dx C : Addr} {fs : List (Str × V)} (nx : H x = Option.none) (nd : H dx = Option.none) : Same H (upd (upd (upd H dx (.own x)) x (.ins C dx [])) x (.ins C dx fs)) := fun b o e => by
  rw [upd_ne (ne_of_none e nx), upd_ne (ne_of_none e nx), upd_ne (ne_of_none e nd)]
  exact e
theorem Tups.last {H : Hp} : ∀ {vs : List V} {rs : List (List V)}, Tups H vs rs → vs ≠ [] → ∃ vs' t r, vs = vs' ++ [.ref t] ∧ H t = some (.tup r) ∧ r ∈ rs
  | _, _, .nil, h => absurd rfl h
  | _, _, .cons (t := t) (vs := []) e k, _ => by
    cases k
    exact ⟨[], t, _, rfl, e, List.mem_cons_self⟩
  | _, _, .cons (t := t) (vs := v :: vs) (rs := rs) e k, _ => by
    obtain ⟨vs', t', r, e1, e2, e3⟩ := k.last (by simp)
    exact ⟨.ref t :: vs', t', r, by rw [e1]; rfl, e2, List.mem_cons_of_mem _ e3⟩
theorem InAt.same {H H' : Hp} {a : Addr} {n : Int} {h : Str} {b : Bool} {lim : Option Int} {l v s : Int} (x : InAt CO H a n h b lim l v s) (e : Same H H') : InAt CO H' a n h b lim l v s := by
  obtain ⟨d, e1⟩ := x
  exact ⟨d, e _ _ e1⟩
theorem TupsAt.same {H H' : Hp} {p : Addr} {rs : List (List V)} (x : TupsAt H p rs) (e : Same H H') : TupsAt H' p rs := by
  obtain ⟨vs, e1, t⟩ := x
  exact ⟨vs, e _ _ e1, t.keep (Same.tups e)⟩
theorem refs_congr {α α' : Int → Addr} {os : List Ord} (h : ∀ o ∈ os, α' o.num = α o.num) : refs α' os = refs α os := List.map_congr_left fun o ho => by rw [h o ho]
def spEnter (CO CR CB : Addr) : Sp := fun vs H Q _ => ∃ (b a : Addr) (g : Geo) (α : Int → Addr) (B : Bool → List Ord) (next n : Int) (h : Str) (c : Bool) (lim : Option Int) (q v s : Int) (kd : Kd), vs = [.ref b, .ref a, .str (kS kd)] ∧ BookAt CO CB H b g α B next ∧
  InAt CO H a n h c lim q v s ∧ (∀ x, SideOk x (B x)) ∧ (∀ x, ∀ o ∈ B x, o.num ≠ n) ∧ 1 ≤ q ∧ (∀ x, q.toNat + (B x).length ≤ 1000) ∧ (kd = .rest → ∃ p, lim = some p) ∧
  ∀ (H' : Hp) (α' : Int → Addr) (r : Addr), BookAt CO CB H' b g α' (enterB n h c lim q kd s B).1 next → Kp g H H' → RepAt CR H H' r n (enterB n h c lim q kd s B).2 → Q (.ref r) H'
theorem ok_enter {fn : Addr} {fd : FuncData} (F : Fun K "_enter" "Book._enter" s_Book_enter fn fd) (T : Txt K mg CO CR CB) (c_available : CallM P w K mg base 2 CB "_available" ["self", "order"] (spAvail CO CB)) (c_match : CallM P w K mg base 4 CB "_match" ["self", "order", "fills", "removed"] (spMatch CO CB))
    (c_show_next_part : CallM P w K mg base 1 CO "show_next_part" ["self"] (spShow CO)) (c_insert : CallM P w K mg base 2 CB "_insert" ["self", "order"] (spInsert CO CB)) (c_Report : CallC P w K mg base 1 CR "Report" ["self", "order", "fills", "removed", "resting"] [] (spRInit CO CR)) :
    FnOk P w K mg base CX0 5 fn fd ["self", "order", "kind"] (spEnter CO CR CB) := by
  refine F.ok sc_Book_enter (fun vs H Q E h => ?_) (fun cdv A outer s H vs Q E hr h => ?_)
  · obtain ⟨b, a, g, α, B, next, n, h, c, lim, q, v, s, kd, rfl, _⟩ := h
    rfl
  · obtain ⟨b, a, g, α, B, next, n, h, c, lim, q, v, s, kd, rfl, X, ha, side, nums, hq1, hlen, hkd, k⟩ := h
    have hu := hu_of hr
    have hr1 : Room (1 + 1) _ := hr.mono (by decide)
    obtain ⟨dx, lv, hb⟩ := X.ob
    obtain ⟨da, ha0⟩ := id ha
    refine ⟨_, (pss_cons (ps_if (pw_and (pt_cmpR op_eq (pv 2) pe_str (nomark _)) (pw_and1 (pt_cmpR op_lt (pe_m c_available (hr.mono (by decide)) T.clB (pv 0) (pa_cons (pv 1) pa_nil)) (pe_fld (pv 1) rfl) (nomark _)))).pt
    (pss_one (ps_ret (pe_c c_Report (hr.mono (by decide)) (by rfl) (pa_cons (pv 1) (pa_cons (pe_lst pa_nil) (pa_cons (pe_lst pa_nil) (pa_cons pe_int pa_nil)))))))
    pss_nil)
    (pss_cons (ps_set (i := 3) sc_Book_enter.nd rfl (Or.inl rfl) (pe_lst pa_nil))
    (pss_cons (ps_set (i := 4) sc_Book_enter.nd rfl (Or.inl rfl) (pe_lst pa_nil))
    (pss_cons (ps_expr (pe_m c_match (hr.mono (by decide)) T.clB (pv 0) (pa_cons (pv 1) (pa_cons (pv 3) (pa_cons (pv 4) pa_nil)))))
    (pss_cons (ps_set (i := 5) sc_Book_enter.nd rfl (Or.inl rfl) pe_int)
    (pss_cons (ps_if (pw_and (pt_cmpR op_eq (pv 2) pe_str (nomark _)) (pw_and1 (pt_cmpR op_gt (pe_fld (pv 1) rfl) pe_int (nomark _)))).pt
    (pss_cons (ps_set (i := 5) sc_Book_enter.nd rfl (Or.inl rfl) (pe_fld (pv 1) rfl))
    (pss_cons (ps_expr (pe_m0 c_show_next_part (hr.mono (by decide)) T.clO (pv 1)))
    (pss_one (ps_expr (pe_m c_insert (hr.mono (by decide)) T.clB (pv 0) (pa_cons (pv 1) pa_nil))))))
    pss_nil)
    (pss_cons (ps_if (pt_truth (pv 3) (by intro _; rfl))
    (pss_one (ps_fld (pv 0) (pe_ix ix_tup (pe_ix ix_list (pv 3) (pe_un un_neg pe_int) (fun _ _ => rfl)) pe_int (fun _ _ => rfl)) rfl))
    pss_nil)
    (pss_one (ps_ret (pe_c c_Report (hr.mono (by decide)) (by rfl) (pa_cons (pv 1) (pa_cons (pv 3) (pa_cons (pv 4) (pa_cons (pv 5) pa_nil)))))))))))))), ?_⟩
    refine and_pure (b1 := decide (kd = .all)) (b2 := decide (availB h c lim (B !c) < q)) (fun Q' k' => ⟨_, rfl, rfl, _, rfl, by rw [kS_all]; exact k'⟩)
      (fun Q' k' => ⟨_, rfl, b, dx, _, rfl, hb, b_no (by decide +kernel), _, rfl, b, a, g, α, B, next, n, h, c, lim, q, v, s, rfl, X, ha, _, rfl, gfld ha0 T.clO T.nO_left o_left ⟨_, _, rfl, rfl, _, rfl, k'⟩⟩) ?_
    refine iteB (fun e => ?_) fun e => ?_
    · rw [Bool.and_eq_true] at e
      have hc : kd = .all ∧ availB h c lim (B !c) < q := ⟨of_decide_eq_true e.1, of_decide_eq_true e.2⟩
      have he : enterB n h c lim q kd s B = (B, ⟨[], [], 0⟩) := if_pos hc
      rw [he] at k
      refine ⟨_, rfl, Nat.zero_le _, fun f hf => ⟨Nat.zero_le _, fun m hm r dr nr nd ndr => ?_⟩⟩
      have s1 : Same H (upd H f (.lst [])) := Same.upd hf
      have s2 : Same H (upd (upd H f (.lst [])) m (.lst [])) := s1.trans (Same.upd hm)
      have s3 : ∀ fs, Same (upd (upd H f (.lst [])) m (.lst [])) (upd (upd (upd (upd (upd H f (.lst [])) m (.lst [])) dr (.own r)) r (.ins CR dr [])) r (.ins CR dr fs)) := fun fs => made_same nr nd
      have ha2 := s2 _ _ ha0
      refine ⟨r, dr, a, da, f, m, n, h, c, limV lim, q, v, s, 0, rfl, upd_same, ?_, rfl, ?_⟩
      · rw [upd_ne (ne_of_none ha2 nr), upd_ne (ne_of_none ha2 nd)]
        exact ha2
      · have s4 := s2.trans (s3 (rF n h c f m 0))
        refine k _ α r (X.same s4) (fun y u e _ _ _ _ => s4 _ _ e) ⟨dr, h, c, f, m, upd_same, ⟨[], s3 _ _ _ ((upd_ne (ne_of_none upd_same hm)).trans upd_same), .nil⟩, s3 _ _ _ upd_same, hf, s1.free hm⟩
    · have hc : ¬ (kd = .all ∧ availB h c lim (B !c) < q) := fun z => by
        rw [decide_eq_true z.1, decide_eq_true z.2] at e
        cases e
      refine ⟨Nat.zero_le _, fun f hf => ⟨Nat.zero_le _, fun m hm => ?_⟩⟩
      have s1 : Same H (upd H f (.lst [])) := Same.upd hf
      have s2 : Same H (upd (upd H f (.lst [])) m (.lst [])) := s1.trans (Same.upd hm)
      have hm0 : H m = Option.none := s1.free hm
      -- the report
      have fin2 : ∀ (z : Int) (H6 : Hp) (α' : Int → Addr) (B' : Bool → List Ord) (rep : Rep) (l6 v6 : Int), BookAt CO CB H6 b g α' B' next → InAt CO H6 a n h c lim l6 v6 s → FillsAt H6 f rep.fills → RemAt H6 m rep.rem → Kp g H H6 → rep.resting = z →
          enterB n h c lim q kd s B = (B', rep) → tRet (tMake CR (spRInit CO CR) [] E0 (tCons (tVar 1) (tCons (tVar 3) (tCons (tVar 4) (tCons (tVar 5) tNil))))) { nx := fun _ H' => Q .non H', rt := Q } [some (.ref b), some (.ref a), some (.str (kS kd)), some (.ref f), some (.ref m), some (.int z)] H6 := by
        intro z H6 α' B' rep l6 v6 X6 ha6 hf6 hm6 kp6 hz he
        rw [he] at k
        obtain ⟨d6, e6⟩ := id ha6
        refine ⟨_, rfl, _, rfl, _, rfl, _, rfl, fun r dr nr nd ndr => ?_⟩
        have s3 : ∀ fs, Same H6 (upd (upd (upd H6 dr (.own r)) r (.ins CR dr [])) r (.ins CR dr fs)) := fun fs => made_same nr nd
        refine ⟨r, dr, a, d6, f, m, n, h, c, limV lim, l6, v6, s, z, rfl, upd_same, ?_, rfl, ?_⟩
        · rw [upd_ne (ne_of_none e6 nr), upd_ne (ne_of_none e6 nd)]
          exact e6
        · refine k _ α' r (X6.same (s3 _)) (fun y u e h1 h2 h3 h4 => s3 _ _ _ (kp6 y u e h1 h2 h3 h4)) ⟨dr, h, c, f, m, ?_, TupsAt.same hf6 (s3 _), s3 _ _ _ hm6, hf, hm0⟩
          rw [hz]
          exact upd_same
      have fin : ∀ (z : Int) (H5 : Hp) (α' : Int → Addr) (B' : Bool → List Ord) (rep : Rep) (l6 v6 : Int), BookAt CO CB H5 b g α' B' next → InAt CO H5 a n h c lim l6 v6 s → FillsAt H5 f rep.fills → RemAt H5 m rep.rem → Kp g H H5 → rep.resting = z →
          enterB n h c lim q kd s B = (B', rep) →
          tSeq (tIfS (fun σ H Q => tVar 3 σ H fun x H' => ∃ k, TruV K x H' k ∧ Q k H') (sFld K (tVar 0) (tOp (rIxT K) (tOp (rIxL K) (tVar 3) (tUn (rU fun i => .int (-i)) (tC (.int 1)))) (tC (.int 2))) "last") tNext)
            (tRet (tMake CR (spRInit CO CR) [] E0 (tCons (tVar 1) (tCons (tVar 3) (tCons (tVar 4) (tCons (tVar 5) tNil)))))) { nx := fun _ H' => Q .non H', rt := Q } [some (.ref b), some (.ref a), some (.str (kS kd)), some (.ref f), some (.ref m), some (.int z)] H5 := by
        intro z H5 α' B' rep l6 v6 X5 ha5 hf5 hm5 kp5 hz he
        obtain ⟨dx5, lv5, hb5⟩ := X5.ob
        obtain ⟨ac, hacc, tu⟩ := id hf5
        refine ⟨_, rfl, _, .inl ⟨_, SqL.of hacc, rfl⟩, ?_⟩
        refine iteB (fun e => ?_) fun e => ?_
        · have hne : ac ≠ [] := fun z => by rw [z] at e; cases e
          obtain ⟨ac', t, r, rfl, ht, hrm⟩ := tu.last hne
          obtain ⟨fl, _, rfl⟩ := List.mem_map.mp hrm
          refine ⟨_, rfl, 1, rfl, f, _, _, _, rfl, rfl, SqL.of hacc, atI_last _ _, t, fillV fl, 2, .int fl.price, rfl, rfl, SqT.of ht, at_of (j := 2) rfl rfl, ?_⟩
          refine ⟨_, rfl, b, CB, dx5, _, rfl, hb5, T.clB, T.nB_last, b_len, ?_⟩
          rw [b_put_last]
          have kb : ∀ y u, H5 y = some u → (∀ C dx fs, u ≠ .ins C dx fs) → upd H5 b (.ins CB dx5 (bF g.d g.st next (.int fl.price))) y = some u := fun y u e h1 => by
            rw [upd_ne (ne_of e hb5 (h1 _ _ _))]
            exact e
          have ko : ∀ y n h b' lim l v s, InAt CO H5 y n h b' lim l v s → InAt CO (upd H5 b (.ins CB dx5 (bF g.d g.st next (.int fl.price)))) y n h b' lim l v s := fun y n h b' lim l v s ⟨d, e⟩ => ⟨d, (upd_ne (ne_of hb5 e book_ord).symm).trans e⟩
          refine fin2 z _ α' B' rep l6 v6 ⟨⟨dx5, _, upd_same⟩, kb _ _ X5.dict (by intro _ _ _ z; cases z), kb _ _ X5.st (by intro _ _ _ z; cases z), fun x => kb _ _ (X5.lst x) (by intro _ _ _ z; cases z), fun x o ho => ko _ _ _ _ _ _ _ _ (X5.ord x o ho), X5.ne, X5.ns⟩
            (ko _ _ _ _ _ _ _ _ ha5) ⟨_, kb _ _ hacc (by intro _ _ _ z; cases z), tu.keep (TupKeep.ins hb5)⟩ (kb _ _ hm5 (by intro _ _ _ z; cases z)) (fun y u e h1 h2 h3 h4 => kb _ _ (kp5 y u e h1 h2 h3 h4) h4) hz he
        · exact fin2 z H5 α' B' rep l6 v6 X5 ha5 hf5 hm5 kp5 hz he
      -- the matching
      have X2 := X.same s2
      have nlf : ∀ x, g.l x ≠ f := fun x => ne_of_none (X.lst x) hf
      have nlm : ∀ x, g.l x ≠ m := fun x => ne_of_none (X.lst x) hm0
      have nsf : g.st ≠ f := ne_of_none X.st hf
      have nsm : g.st ≠ m := ne_of_none X.st hm0
      have nfm : f ≠ m := ne_of_none upd_same hm
      refine ⟨_, rfl, b, dx, _, rfl, s2 _ _ hb, b_no (by decide +kernel), _, rfl, _, rfl, _, rfl, b, a, f, m, g, α, B, next, n, h, c, lim, q, v, s, rfl, X2, ha.same s2, (upd_ne nfm).trans upd_same, upd_same, nfm, nlf, nlm, nsf, nsm,
        side (!c), (side c).buy, nums, by omega, hlen _, fun H3 X3 ha3 hf3 hm3 ns3 fr3 => ?_⟩
      have kp3 : Kp g H H3 := fun y u e h1 h2 h3 h4 => fr3 y u (s2 _ _ e) (by cases c <;> assumption) (ne_of_none e hf) (ne_of_none e hm0) h4
      obtain ⟨d3, e3⟩ := id ha3
      dsimp only [tSeq, tAsg, tC, gName, tIfS]
      refine and_pure (b1 := decide (kd = .rest)) (b2 := decide (0 < (runB h c lim q (B !c)).left)) (fun Q' k' => ⟨_, rfl, rfl, _, rfl, by rw [kS_rest]; exact k'⟩)
        (fun Q' k' => ⟨_, rfl, gfld e3 T.clO T.nO_left o_left ⟨_, _, rfl, rfl, _, rfl, k'⟩⟩) ?_
      refine iteB (fun e => ?_) fun e => ?_
      · rw [Bool.and_eq_true] at e
        have h1 : kd = .rest := of_decide_eq_true e.1
        have h2 : 0 < (runB h c lim q (B !c)).left := of_decide_eq_true e.2
        obtain ⟨p, rfl⟩ := hkd h1
        have he : enterB n h c (some p) q kd s B = _ := (if_neg hc).trans (if_pos ⟨h1, h2⟩)
        obtain ⟨dx3, lv3, hb3⟩ := X3.ob
        refine ⟨_, rfl, gfld e3 T.clO T.nO_left o_left ?_⟩
        refine ⟨_, rfl, a, d3, _, rfl, e3, o_no (by decide +kernel), a, d3, _, _, _, _, _, _, _, rfl, e3, ?_⟩
        have kb : ∀ y u, H3 y = some u → (∀ C dx fs, u ≠ .ins C dx fs) → upd H3 a (.ins CO d3 (oF n h c (limV (some p)) (runB h c (some p) q (B !c)).left (nextVis (runB h c (some p) q (B !c)).left s) s)) y = some u := fun y u e h1 => by
          rw [upd_ne (ne_of e e3 (h1 _ _ _))]
          exact e
        have hb4 : upd H3 a (.ins CO d3 (oF n h c (limV (some p)) (runB h c (some p) q (B !c)).left (nextVis (runB h c (some p) q (B !c)).left s) s)) b = some (.ins CB dx3 (bF g.d g.st next lv3)) := (upd_ne (ne_of hb3 e3 book_ord)).trans hb3
        have nums3 : ∀ x, ∀ o ∈ setL B (!c) (runB h c (some p) q (B !c)).rs x, o.num ≠ n := fun x o ho => by
          by_cases hx : x = !c
          · rw [hx, setL_same] at ho
            exact ns3 o ho
          · rw [setL_ne hx] at ho
            exact nums x o ho
        have ko : ∀ x, ∀ o ∈ setL B (!c) (runB h c (some p) q (B !c)).rs x, OrdAt CO (upd H3 a (.ins CO d3 (oF n h c (limV (some p)) (runB h c (some p) q (B !c)).left (nextVis (runB h c (some p) q (B !c)).left s) s))) (α o.num) o := fun x o ho => by
          obtain ⟨d, e⟩ := X3.ord x o ho
          refine ⟨d, (upd_ne fun z => ?_).trans e⟩
          rw [z] at e
          exact nums3 x o ho (ins_inj (CO := CO) (H := H3) (a := a) ⟨d, e⟩ ⟨d3, e3⟩).1
        generalize hα : (fun i => if i = n then a else α i) = α'
        have a1 : α' n = a := by rw [← hα]; exact if_pos rfl
        have a2 : ∀ x, ∀ o ∈ setL B (!c) (runB h c (some p) q (B !c)).rs x, α' o.num = α o.num := fun x o ho => by rw [← hα]; exact if_neg (nums3 x o ho)
        have X4 : BookAt CO CB (upd H3 a (.ins CO d3 (oF n h c (limV (some p)) (runB h c (some p) q (B !c)).left (nextVis (runB h c (some p) q (B !c)).left s) s))) b g α' (setL B (!c) (runB h c (some p) q (B !c)).rs) next :=
          ⟨⟨dx3, lv3, hb4⟩, kb _ _ X3.dict (by intro _ _ _ z; cases z), kb _ _ X3.st (by intro _ _ _ z; cases z), fun x => by rw [refs_congr (a2 x)]; exact kb _ _ (X3.lst x) (by intro _ _ _ z; cases z),
            fun x o ho => by rw [a2 x o ho]; exact ko x o ho, X3.ne, X3.ns⟩
        have hBc : setL B (!c) (runB h c (some p) q (B !c)).rs c = B c := setL_ne not_self
        have ho4 : OrdAt CO (upd H3 a (.ins CO d3 (oF n h c (limV (some p)) (runB h c (some p) q (B !c)).left (nextVis (runB h c (some p) q (B !c)).left s) s))) (α' (inOrd n h c (some p) (runB h c (some p) q (B !c)).left s).num) (inOrd n h c (some p) (runB h c (some p) q (B !c)).left s) := by
          show OrdAt CO _ (α' n) _
          rw [a1]
          exact ⟨d3, upd_same⟩
        have hl4 := X4.lst c
        rw [hBc] at hl4
        have hr4 : ∀ o ∈ B c, OrdAt CO (upd H3 a (.ins CO d3 (oF n h c (limV (some p)) (runB h c (some p) q (B !c)).left (nextVis (runB h c (some p) q (B !c)).left s) s))) (α' o.num) o := fun o ho => X4.ord c o (by rw [hBc]; exact ho)
        refine ⟨_, rfl, b, dx3, _, rfl, hb4, b_no (by decide +kernel), _, rfl, b, dx3, g, α', next, lv3, inOrd n h c (some p) (runB h c (some p) q (B !c)).left s, B c, by show _ = [V.ref b, V.ref (α' n)]; rw [a1]; rfl, hb4, X4.dict, hl4, hr4, ho4, by have := hlen c; omega, ?_⟩
        generalize hH4 : upd H3 a (.ins CO d3 (oF n h c (limV (some p)) (runB h c (some p) q (B !c)).left (nextVis (runB h c (some p) q (B !c)).left s) s)) = H4 at *
        have k5 : ∀ y u, H4 y = some u → y ≠ g.l c → upd H4 (g.l c) (.lst (refs α' (ins (inOrd n h c (some p) (runB h c (some p) q (B !c)).left s) (B c)))) y = some u := fun y u e h1 => by
          rw [upd_ne h1]
          exact e
        have hlc := X4.lst c
        have ncl : ∀ y u, H4 y = some u → (∀ xs, u ≠ .lst xs) → y ≠ g.l c := fun y u e h1 => ne_of e hlc (h1 _)
        have e4a : H4 a = some (.ins CO d3 (oF n h c (limV (some p)) (runB h c (some p) q (B !c)).left (nextVis (runB h c (some p) q (B !c)).left s) s)) := by rw [← hH4, upd_same]
        have X5 := X4.side c (ins (inOrd n h c (some p) (runB h c (some p) q (B !c)).left s) (B c)) (H' := upd H4 (g.l c) (.lst (refs α' (ins (inOrd n h c (some p) (runB h c (some p) q (B !c)).left s) (B c)))))
          (fun u e => by
            have e' := hb4.symm.trans e
            injection e' with e'
            subst e'
            exact k5 _ _ hb4 (ncl _ _ hb4 (by intro _ z; cases z)))
          (upd_ne (ncl _ _ X4.dict (by intro _ z; cases z))) (upd_ne (X.ns c).symm)
          (fun y hy => upd_ne (by
            cases c <;> cases y <;> first | exact absurd rfl hy | exact X.ne | exact X.ne.symm))
          upd_same
          (fun y hy o ho => by
            obtain ⟨d, e⟩ := X4.ord y o ho
            exact ⟨d, k5 _ _ e (ncl _ _ e (by intro _ z; cases z))⟩)
          (fun o ho => by
            rcases mem_ins.mp ho with e | ho
            · subst e
              obtain ⟨d, e⟩ := ho4
              exact ⟨d, k5 _ _ e (ncl _ _ e (by intro _ z; cases z))⟩
            · obtain ⟨d, e⟩ := hr4 o ho
              exact ⟨d, k5 _ _ e (ncl _ _ e (by intro _ z; cases z))⟩)
        obtain ⟨ac, hacc, tu⟩ := hf3
        have tk : TupKeep H3 (upd H4 (g.l c) (.lst (refs α' (ins (inOrd n h c (some p) (runB h c (some p) q (B !c)).left s) (B c))))) := fun y xs e => k5 _ _ (kb _ _ e (by intro _ _ _ z; cases z)) (ncl _ _ (kb _ _ e (by intro _ _ _ z; cases z)) (by intro _ z; cases z))
        refine fin _ _ α' _ ⟨(runB h c (some p) q (B !c)).fills, (runB h c (some p) q (B !c)).rem, (runB h c (some p) q (B !c)).left⟩ _ _ X5 ⟨d3, k5 _ _ e4a (ncl _ _ e4a (by intro _ z; cases z))⟩ ⟨ac, k5 _ _ (kb _ _ hacc (by intro _ _ _ z; cases z)) (nlf c).symm, tu.keep tk⟩
          (k5 _ _ (kb _ _ hm3 (by intro _ _ _ z; cases z)) (nlm c).symm) (fun y u e h1 h2 h3 h4 => k5 _ _ (kb _ _ (kp3 y u e h1 h2 h3 h4) h4) (by cases c <;> assumption)) rfl ?_
        rw [he]
        refine Prod.ext (funext fun x => ?_) rfl
        show (if x = c then _ else _) = setL (setL B (!c) _) c _ x
        by_cases hx : x = c
        · subst hx
          rw [if_pos rfl, setL_same]
        · rw [if_neg hx, setL_ne hx]
          have : x = !c := by cases x <;> cases c <;> simp_all
          rw [this, setL_same]
      · have h12 : ¬ (kd = .rest ∧ 0 < (runB h c lim q (B !c)).left) := fun z => by
          rw [decide_eq_true z.1, decide_eq_true z.2] at e
          cases e
        have he : enterB n h c lim q kd s B = _ := (if_neg hc).trans (if_neg h12)
        refine fin 0 H3 α _ ⟨(runB h c lim q (B !c)).fills, (runB h c lim q (B !c)).rem, 0⟩ _ _ X3 ha3 hf3 hm3 kp3 rfl ?_
        rw [he]
        refine Prod.ext (funext fun x => ?_) rfl
        show (if x = c then _ else _) = setL B (!c) _ x
        by_cases hx : x = c
        · subst hx
          rw [if_pos rfl, setL_ne not_self]
        · rw [if_neg hx]
          have : x = !c := by cases x <;> cases c <;> simp_all
          rw [this, setL_same]
end
end Fb

namespace Fb
open PySem PySem.Spec PyProof.Rows L2
section
variable {P : Program} {w : World} {K : PySem.W.Frag} {mg : Str → Option Value} {base : Heap} {CO CR CB : Addr}
def Apart (g : Geo) (H : Hp) (p : Addr) : Prop := ∀ y u, H y = some u → y ≠ g.l true → y ≠ g.l false → y ≠ g.d → (∀ C dx fs, u ≠ .ins C dx fs) → y ≠ p
def Live (H H' : Hp) : Prop := ∀ y, H' y = none → H y = none
theorem Live.upd {H : Hp} {b : Addr} {o : HO} : Live H (upd H b o) := fun y hy => by
  by_cases e : y = b
  · rw [e, upd_same] at hy
    cases hy
  · rwa [upd_ne e] at hy
theorem Live.same {H H' : Hp} (s : Same H H') : Live H H' := fun y hy => s.free hy
theorem Live.trans {H H1 H2 : Hp} (a : Live H H1) (b : Live H1 H2) : Live H H2 := fun y hy => a y (b y hy)
theorem RepAt.same {H0 H H' : Hp} {r : Addr} {n : Int} {rep : Rep} (x : RepAt CR H0 H r n rep) (e : Same H H') : RepAt CR H0 H' r n rep := by
  obtain ⟨dx, h, b, f, m, e1, e2, e3, e4, e5⟩ := x
  exact ⟨dx, h, b, f, m, e _ _ e1, TupsAt.same e2 e, e _ _ e3, e4, e5⟩
theorem RepAt.live {H0 H1 H : Hp} {r : Addr} {n : Int} {rep : Rep} (x : RepAt CR H1 H r n rep) (e : Live H0 H1) : RepAt CR H0 H r n rep := by
  obtain ⟨dx, h, b, f, m, e1, e2, e3, e4, e5⟩ := x
  exact ⟨dx, h, b, f, m, e1, e2, e3, e _ e4, e _ e5⟩
/-- [report] + self._trigger(), as it is read -/
theorem tail_ok {b : Addr} {g : Geo} {α : Int → Addr} {B : Bool → List Ord} {next : Int} {r : Addr} {H : Hp} {σ : L2.St} {i : Nat} {Q : VK} (X : BookAt CO CB H b g α B next) (h0 : σ[0]? = some (some (.ref b))) (hi : σ[i]? = some (some (.ref r)))
    (k : ∀ (H' : Hp) (rl : Addr), Same H H' → H rl = Option.none → H' rl = some (.lst [.ref r]) → Q (.ref rl) H') :
    tOp rCat (tLst (tCons (tVar i) tNil)) (tMeth CB "_trigger" (spTrig CB) [] E0 (tVar 0) tNil) σ H Q := by
  refine ⟨_, hi, (by show 1 ≤ sizeLine; decide), fun p hp => ?_⟩
  have s1 : Same H (upd H p (.lst [.ref r])) := Same.upd hp
  obtain ⟨dx, lv, hb⟩ := X.ob
  refine ⟨_, h0, b, dx, _, rfl, s1 _ _ hb, b_no (by decide +kernel), b, dx, g.d, g.st, next, lv, rfl, s1 _ _ hb, s1 _ _ X.st, fun t ht => ?_⟩
  have s2 : Same (upd H p (.lst [.ref r])) (upd (upd H p (.lst [.ref r])) t (.lst [])) := Same.upd ht
  refine ⟨p, t, _, _, rfl, rfl, s2 _ _ upd_same, upd_same, (by show 1 ≤ sizeLine; decide), fun rl hrl => ?_⟩
  have s3 := (s1.trans s2).trans (Same.upd (o := .lst ([.ref r] ++ [])) hrl)
  exact k _ rl s3 ((s1.trans s2).free hrl) upd_same
def spSubmit (CO CR CB : Addr) : Sp := fun vs H Q _ => ∃ (b : Addr) (g : Geo) (α : Int → Addr) (B : Bool → List Ord) (next : Int) (h : Str) (c : Bool) (lim : Option Int) (q s : Int) (kd : Kd), vs = [.ref b, .str h, .str (sd c), limV lim, .int q, .str (kS kd), .int s] ∧
  BookAt CO CB H b g α B next ∧ (∀ x, SideOk x (B x)) ∧ (∀ x, ∀ o ∈ B x, o.num ≠ next) ∧ Valid lim q kd s ∧ (∀ x, q.toNat + (B x).length ≤ 1000) ∧
  ∀ (H' : Hp) (α' : Int → Addr) (rl r : Addr), BookAt CO CB H' b g α' (enterB next h c lim q kd s B).1 (next + 1) → Kp g H H' → Apart g H rl → H' rl = some (.lst [.ref r]) → RepAt CR H H' r next (enterB next h c lim q kd s B).2 → Q (.ref rl) H'
theorem ok_submit {fn : Addr} {fd : FuncData} (F : Fun K "submit" "Book.submit" s_Book_submit fn fd) (T : Txt K mg CO CR CB) (c_check_order : CallF P w K mg base 3 "check_order" ["side", "price", "quantity", "kind", "shown"] spCheck) (c_new_number : CallM P w K mg base 1 CB "_new_number" ["self"] (spNew CB))
    (c_Order : CallC P w K mg base 2 CO "Order" ["self", "number", "house", "side", "price", "quantity", "shown"] [] (spOInit CO)) (c_enter : CallM P w K mg base 5 CB "_enter" ["self", "order", "kind"] (spEnter CO CR CB)) (c_trigger : CallM P w K mg base 2 CB "_trigger" ["self"] (spTrig CB)) :
    FnOk P w K mg base CX0 6 fn fd ["self", "house", "side", "price", "quantity", "kind", "shown"] (spSubmit CO CR CB) := by
  refine F.ok sc_Book_submit (fun vs H Q E h => ?_) (fun cdv A outer s H vs Q E hr h => ?_)
  · obtain ⟨b, g, α, B, next, h, c, lim, q, s, kd, rfl, _⟩ := h
    rfl
  · obtain ⟨b, g, α, B, next, h, c, lim, q, s, kd, rfl, X, side, nums, V, hlen, k⟩ := h
    have hr1 : Room (2 + 1) _ := hr.mono (by decide)
    obtain ⟨dx, lv, hb⟩ := X.ob
    refine ⟨_, (pss_cons (ps_expr (pe_f c_check_order (hr.mono (by decide)) (by rfl) (pa_cons (pv 2) (pa_cons (pv 3) (pa_cons (pv 4) (pa_cons (pv 5) (pa_cons (pv 6) pa_nil)))))))
    (pss_cons (ps_set (i := 7) sc_Book_submit.nd rfl (Or.inl rfl) (pe_c c_Order (hr.mono (by decide)) (by rfl) (pa_cons (pe_m0 c_new_number (hr.mono (by decide)) T.clB (pv 0)) (pa_cons (pv 1) (pa_cons (pv 2) (pa_cons (pv 3) (pa_cons (pv 4) (pa_cons (pv 6) pa_nil))))))))
    (pss_cons (ps_set (i := 8) sc_Book_submit.nd rfl (Or.inl rfl) (pe_m c_enter (hr.mono (by decide)) T.clB (pv 0) (pa_cons (pv 7) (pa_cons (pv 5) pa_nil))))
    (pss_one (ps_ret (pe_op op_cat (pe_lst (pa_cons (pv 8) pa_nil)) (pe_m0 c_trigger (hr.mono (by decide)) T.clB (pv 0)))))))), ?_⟩
    refine ⟨_, rfl, _, rfl, _, rfl, _, rfl, _, rfl, c, lim, q, kd, s, rfl, V, ?_⟩
    refine ⟨_, rfl, b, dx, _, rfl, hb, b_no (by decide +kernel), b, dx, g.d, g.st, next, lv, rfl, hb, ?_⟩
    generalize hH1 : upd H b (.ins CB dx (bF g.d g.st (next + 1) lv)) = H1
    have kb : ∀ y u, H y = some u → (∀ C dx fs, u ≠ .ins C dx fs) → H1 y = some u := fun y u e h1 => by
      rw [← hH1, upd_ne (ne_of e hb (h1 _ _ _))]
      exact e
    have X1 : BookAt CO CB H1 b g α B (next + 1) := ⟨⟨dx, lv, by rw [← hH1, upd_same]⟩, kb _ _ X.dict (by intro _ _ _ z; cases z), kb _ _ X.st (by intro _ _ _ z; cases z), fun x => kb _ _ (X.lst x) (by intro _ _ _ z; cases z), fun x o ho => by
      obtain ⟨d, e⟩ := X.ord x o ho
      exact ⟨d, by rw [← hH1, upd_ne (ne_of hb e book_ord).symm]; exact e⟩, X.ne, X.ns⟩
    have l1 : Live H H1 := by rw [← hH1]; exact Live.upd
    refine ⟨_, rfl, _, rfl, _, rfl, _, rfl, _, rfl, fun a da na nda nn => ?_⟩
    refine ⟨a, da, next, h, c, limV lim, q, s, rfl, upd_same, rfl, ?_⟩
    have s2 : Same H1 (upd (upd (upd H1 da (.own a)) a (.ins CO da [])) a (.ins CO da (oF next h c (limV lim) q (nextVis q s) s))) := made_same na nda
    have X2 := X1.same s2
    obtain ⟨dx2, lv2, hb2⟩ := X2.ob
    refine ⟨_, rfl, b, dx2, _, rfl, hb2, b_no (by decide +kernel), _, rfl, _, rfl, b, a, g, α, B, next + 1, next, h, c, lim, q, nextVis q s, s, kd, rfl, X2, ⟨da, upd_same⟩, side, nums, V.qr.1, hlen, fun e => ?_, fun H3 α' r X3 kp3 rep3 => ?_⟩
    · cases lim with
      | none => exact absurd e (V.lk rfl)
      | some p => exact ⟨p, rfl⟩
    refine tail_ok X3 rfl rfl fun H4 rl s4 hrl h4 => ?_
    have kp : Kp g H H3 := fun y u e h1 h2 h3 h4 => kp3 y u (s2 _ _ (kb y u e h4)) h1 h2 h3 h4
    exact k H4 α' rl r (X3.same s4) (fun y u e h1 h2 h3 h4 => s4 _ _ (kp y u e h1 h2 h3 h4)) (fun y u e h1 h2 h3 h4 => ne_of_none (kp y u e h1 h2 h3 h4) hrl) h4 ((rep3.same s4).live (l1.trans (Live.same s2)))
def spCancel (CO CB : Addr) : Sp := fun vs H Q _ => ∃ (b : Addr) (g : Geo) (α : Int → Addr) (B : Bool → List Ord) (next : Int) (o : Ord), vs = [.ref b, .int o.num, .str o.house] ∧ BookAt CO CB H b g α B next ∧ o ∈ B o.buy ∧ (∀ x, ∀ q ∈ B x, q.num = o.num → q = o) ∧ (B o.buy).length ≤ 1000 ∧
  ∀ (H' : Hp) (D : Addr), H D = none → BookAt CO CB H' b { g with l := setL g.l o.buy D } α (setL B o.buy (delO o.num (B o.buy))) next → (∀ y u, H y = some u → y ≠ g.d → H' y = some u) → Q (.int o.left) H'
theorem ok_cancel {fn : Addr} {fd : FuncData} (F : Fun K "cancel" "Book.cancel" s_Book_cancel fn fd) (T : Txt K mg CO CR CB) (c_owned : CallM P w K mg base 1 CB "_owned" ["self", "number", "house"] (spOwned CO CB)) (c_remove : CallM P w K mg base 1 CB "_remove" ["self", "order"] (spRemove CO CB)) :
    FnOk P w K mg base CX0 2 fn fd ["self", "number", "house"] (spCancel CO CB) := by
  refine F.ok sc_Book_cancel (fun vs H Q E h => ?_) (fun cdv A outer s H vs Q E hr h => ?_)
  · obtain ⟨b, g, α, B, next, o, rfl, _⟩ := h
    rfl
  · obtain ⟨b, g, α, B, next, o, rfl, X, ho, uni, hlen, k⟩ := h
    obtain ⟨dx, lv, hb⟩ := X.ob
    refine ⟨_, (pss_cons (ps_for PassesOwn.never rfl (pi_list (pe_fld (pv 0) rfl)) (pg_name (i := 3) sc_Book_cancel.nd rfl (Or.inl rfl)) pss_never)
    (pss_cons (ps_set (i := 4) sc_Book_cancel.nd rfl (Or.inl rfl) (pe_m c_owned (hr.mono (by decide)) T.clB (pv 0) (pa_cons (pv 1) (pa_cons (pv 2) pa_nil))))
    (pss_cons (ps_expr (pe_m c_remove (hr.mono (by decide)) T.clB (pv 0) (pa_cons (pv 4) pa_nil)))
    (pss_one (ps_ret (pe_fld (pv 4) rfl)))))), ?_⟩
    refine ⟨_, rfl, gfld hb T.clB T.nB_stops b_stops ⟨g.st, rfl, ⟨_, SqL.of X.st⟩, for_list (K := K) (a := g.st) (xs := []) (fun i σ' H' => H' = H ∧ σ' = [some (.ref b), some (.int o.num), some (.str o.house), none, none]) ⟨rfl, rfl⟩ (fun i σ' H' _ e => by rw [e.1]; exact SqL.of X.st) (fun i x σ' H' e _ => by simp at e) ?_⟩⟩
    rintro σ' H' ⟨rfl, rfl⟩
    refine ⟨_, rfl, b, dx, _, rfl, hb, b_no (by decide +kernel), _, rfl, _, rfl, b, g, α, B, next, o, rfl, X, ho, uni, fun H1 s1 => ?_⟩
    have X1 := X.same s1
    obtain ⟨d1, h1⟩ := X1.ord o.buy o ho
    refine ⟨_, rfl, b, dx, _, rfl, s1 _ _ hb, b_no (by decide +kernel), _, rfl, b, g, α, B, next, o, rfl, X1, ho, hlen, fun H2 D hD X2 kp2 => ?_⟩
    have h2 := kp2 _ _ h1 (ne_of h1 X1.dict (by intro z; cases z))
    exact ⟨_, rfl, gfld h2 T.clO T.nO_left o_left (k H2 D (s1.free hD) X2 fun y u e hy => kp2 y u (s1 _ _ e) hy)⟩
def amendB (o : Ord) (p q : Int) (B : Bool → List Ord) : (Bool → List Ord) × Rep :=
  if p = o.price ∧ q ≤ o.left then (fun x => setO o.num q (mn o.vis q) (B x), ⟨[], [], q⟩)
  else enterB o.num o.house o.buy (some p) q .rest (mn o.shown q) (setL B o.buy (delO o.num (B o.buy)))
def spAmend (CO CR CB : Addr) : Sp := fun vs H Q _ => ∃ (b : Addr) (g : Geo) (α : Int → Addr) (B : Bool → List Ord) (next : Int) (o : Ord) (p q : Int), vs = [.ref b, .int o.num, .str o.house, .int p, .int q] ∧ BookAt CO CB H b g α B next ∧ (∀ x, SideOk x (B x)) ∧ o ∈ B o.buy ∧
  (∀ x, ∀ r ∈ B x, r.num = o.num → r = o) ∧ (1 ≤ p ∧ p ≤ 1000000) ∧ (1 ≤ q ∧ q ≤ 1000000) ∧ (∀ x, q.toNat + (B x).length ≤ 1000) ∧
  ∀ (H' : Hp) (g' : Geo) (α' : Int → Addr) (rl r : Addr), g'.d = g.d → g'.st = g.st → (∀ x, g'.l x = g.l x ∨ H (g'.l x) = none) → BookAt CO CB H' b g' α' (amendB o p q B).1 next → Kp g H H' → Apart g H rl → H' rl = some (.lst [.ref r]) →
    RepAt CR H H' r o.num (amendB o p q B).2 → Q (.ref rl) H'
theorem ok_amend {fn : Addr} {fd : FuncData} (F : Fun K "amend" "Book.amend" s_Book_amend fn fd) (T : Txt K mg CO CR CB) (c_in_range : CallF P w K mg base 2 "in_range" ["value"] spInRange) (c_owned : CallM P w K mg base 1 CB "_owned" ["self", "number", "house"] (spOwned CO CB)) (c_remove : CallM P w K mg base 1 CB "_remove" ["self", "order"] (spRemove CO CB))
    (c_reduce : CallM P w K mg base 1 CO "reduce" ["self", "quantity"] (spReduce CO)) (c_Report : CallC P w K mg base 1 CR "Report" ["self", "order", "fills", "removed", "resting"] [] (spRInit CO CR))
    (c_Order : CallC P w K mg base 2 CO "Order" ["self", "number", "house", "side", "price", "quantity", "shown"] [] (spOInit CO)) (c_enter : CallM P w K mg base 5 CB "_enter" ["self", "order", "kind"] (spEnter CO CR CB)) (c_trigger : CallM P w K mg base 2 CB "_trigger" ["self"] (spTrig CB)) :
    FnOk P w K mg base CX0 6 fn fd ["self", "number", "house", "price", "quantity"] (spAmend CO CR CB) := by
  refine F.ok sc_Book_amend (fun vs H Q E h => ?_) (fun cdv A outer s H vs Q E hr h => ?_)
  · obtain ⟨b, g, α, B, next, o, p, q, rfl, _⟩ := h
    rfl
  · obtain ⟨b, g, α, B, next, o, p, q, rfl, X, side, ho, uni, hp, hq, hlen, k⟩ := h
    have hr1 : ∀ {j}, j ≤ 3 → Room j _ := fun hj => hr.mono (Nat.le_trans hj (by decide))
    have hr2 : Room (1 + 1) _ := hr.mono (by decide)
    have hr3 : Room (2 + 1) _ := hr.mono (by decide)
    obtain ⟨dx, lv, hb⟩ := X.ob
    refine ⟨_, (pss_cons (ps_if (pw_or (pt_not (pt_val (pe_f c_in_range (hr.mono (by decide)) (by rfl) (pa_cons (pv 3) pa_nil)))) (pw_or1 (pt_not (pt_val (pe_f c_in_range (hr.mono (by decide)) (by rfl) (pa_cons (pv 4) pa_nil)))))).pt
    pss_never
    pss_nil)
    (pss_cons (ps_set (i := 5) sc_Book_amend.nd rfl (Or.inl rfl) (pe_m c_owned (hr.mono (by decide)) T.clB (pv 0) (pa_cons (pv 1) (pa_cons (pv 2) pa_nil))))
    (pss_cons (ps_if (pw_and (pt_cmpR op_eq (pv 3) (pe_fld (pv 5) rfl) (nomark _)) (pw_and1 (pt_cmpR op_le (pv 4) (pe_fld (pv 5) rfl) (nomark _)))).pt
    (pss_cons (ps_expr (pe_m c_reduce (hr.mono (by decide)) T.clO (pv 5) (pa_cons (pv 4) pa_nil)))
    (pss_one (ps_ret (pe_lst (pa_cons (pe_c c_Report (hr.mono (by decide)) (by rfl) (pa_cons (pv 5) (pa_cons (pe_lst pa_nil) (pa_cons (pe_lst pa_nil) (pa_cons (pv 4) pa_nil))))) pa_nil)))))
    pss_nil)
    (pss_cons (ps_expr (pe_m c_remove (hr.mono (by decide)) T.clB (pv 0) (pa_cons (pv 5) pa_nil)))
    (pss_cons (ps_set (i := 6) sc_Book_amend.nd rfl (Or.inl rfl) (pe_c c_Order (hr.mono (by decide)) (by rfl) (pa_cons (pv 1) (pa_cons (pv 2) (pa_cons (pe_fld (pv 5) rfl) (pa_cons (pv 3) (pa_cons (pv 4) (pa_cons (pe_callB (call_min2 rfl) (by rfl) T.zMin boot_min (pa_cons (pe_fld (pv 5) rfl) (pa_cons (pv 4) pa_nil))) pa_nil))))))))
    (pss_cons (ps_set (i := 7) sc_Book_amend.nd rfl (Or.inl rfl) (pe_m c_enter (hr.mono (by decide)) T.clB (pv 0) (pa_cons (pv 6) (pa_cons pe_str pa_nil))))
    (pss_one (ps_ret (pe_op op_cat (pe_lst (pa_cons (pv 7) pa_nil)) (pe_m0 c_trigger (hr.mono (by decide)) T.clB (pv 0))))))))))), ?_⟩
    refine ⟨_, rfl, p, rfl, hp.1, hp.2, true, rfl, iteF ⟨_, rfl, q, rfl, hq.1, hq.2, true, rfl, iteF ?_⟩⟩
    refine ⟨_, rfl, b, dx, _, rfl, hb, b_no (by decide +kernel), _, rfl, _, rfl, b, g, α, B, next, o, rfl, X, ho, uni, fun H1 s1 => ?_⟩
    have X1 := X.same s1
    obtain ⟨d1, h1⟩ := id (X1.ord o.buy o ho)
    dsimp only [tSeq, tAsg, tC, gName, tIfS]
    refine and_pure (b1 := decide (p = o.price)) (b2 := decide (q ≤ o.left)) (fun Q' k' => ⟨_, rfl, _, rfl, gfld h1 T.clO T.nO_price o_price ⟨rfl, _, rfl, ?_⟩⟩)
      (fun Q' k' => ⟨_, rfl, _, rfl, gfld h1 T.clO T.nO_left o_left ⟨_, _, rfl, rfl, _, rfl, k'⟩⟩) ?_
    · have : decide (V.int p = limV (some o.price)) = decide (p = o.price) := dec_int.trans (by rw [Bool.beq_eq_decide_eq])
      rw [this]
      exact k'
    refine iteB (fun e => ?_) fun e => ?_
    · rw [Bool.and_eq_true] at e
      have hc : p = o.price ∧ q ≤ o.left := ⟨of_decide_eq_true e.1, of_decide_eq_true e.2⟩
      have he : amendB o p q B = _ := if_pos hc
      rw [he] at k
      refine ⟨_, rfl, α o.num, d1, _, rfl, h1, o_no (by decide +kernel), _, rfl, α o.num, d1, _, _, _, _, _, _, _, q, rfl, h1, ?_⟩
      generalize hH2 : upd H1 (α o.num) (.ins CO d1 (oF o.num o.house o.buy (limV (some o.price)) q (mn o.vis q) o.shown)) = H2
      have kb : ∀ y u, H1 y = some u → (∀ C dx fs, u ≠ .ins C dx fs) → H2 y = some u := fun y u e h2 => by
        rw [← hH2, upd_ne (ne_of e h1 (h2 _ _ _))]
        exact e
      have X2 : BookAt CO CB H2 b g α (fun x => setO o.num q (mn o.vis q) (B x)) next := by
        refine ⟨⟨dx, lv, ?_⟩, kb _ _ X1.dict (by intro _ _ _ z; cases z), kb _ _ X1.st (by intro _ _ _ z; cases z), fun x => ?_, fun x r hr => ?_, X.ne, X.ns⟩
        · rw [← hH2, upd_ne (ne_of (s1 _ _ hb) h1 book_ord)]
          exact s1 _ _ hb
        · have e : refs α (setO o.num q (mn o.vis q) (B x)) = refs α (B x) := by
            unfold refs setO
            rw [List.map_map]
            exact List.map_congr_left fun r _ => by
              show V.ref (α (upO _ _ _ r).num) = _
              rw [upO_num]
          rw [e]
          exact kb _ _ (X1.lst x) (by intro _ _ _ z; cases z)
        · obtain ⟨y, hy, e⟩ := List.mem_map.mp hr
          subst e
          by_cases hn : y.num = o.num
          · have ey := uni x y hy hn
            subst ey
            rw [upO_eq]
            exact ⟨d1, by rw [← hH2]; exact upd_same⟩
          · rw [upO_ne hn]
            obtain ⟨d, e⟩ := X1.ord x y hy
            refine ⟨d, ?_⟩
            rw [← hH2, upd_ne fun z => ?_]
            · exact e
            · rw [z] at e
              exact hn (ins_inj (CO := CO) (H := H1) ⟨d, e⟩ ⟨d1, h1⟩).1
      have l2 : Live H H2 := (Live.same s1).trans (by rw [← hH2]; exact Live.upd)
      have h2 : H2 (α o.num) = some (.ins CO d1 (oF o.num o.house o.buy (limV (some o.price)) q (mn o.vis q) o.shown)) := by rw [← hH2, upd_same]
      refine ⟨_, rfl, Nat.zero_le _, fun f hf => ⟨Nat.zero_le _, fun m hm => ⟨_, rfl, fun r dr nr nd ndr => ?_⟩⟩⟩
      have t1 : Same H2 (upd H2 f (.lst [])) := Same.upd hf
      have t2 : Same H2 (upd (upd H2 f (.lst [])) m (.lst [])) := t1.trans (Same.upd hm)
      have t3 : ∀ fs, Same (upd (upd H2 f (.lst [])) m (.lst [])) (upd (upd (upd (upd (upd H2 f (.lst [])) m (.lst [])) dr (.own r)) r (.ins CR dr [])) r (.ins CR dr fs)) := fun fs => made_same nr nd
      have ha2 := t2 _ _ h2
      refine ⟨r, dr, α o.num, d1, f, m, o.num, o.house, o.buy, limV (some o.price), q, mn o.vis q, o.shown, q, rfl, upd_same, ?_, rfl, ?_⟩
      · rw [upd_ne (ne_of_none ha2 nr), upd_ne (ne_of_none ha2 nd)]
        exact ha2
      refine ⟨(by show 1 ≤ sizeLine; decide), fun rl hrl => ?_⟩
      have t4 := (t2.trans (t3 (rF o.num o.house o.buy f m q)))
      have t5 := t4.trans (Same.upd (o := .lst [.ref r]) hrl)
      have kp : Kp g H H2 := fun y u e _ _ _ h4 => kb _ _ (s1 _ _ e) h4
      refine k _ g α rl r rfl rfl (fun x => .inl rfl) (X2.same t5) (fun y u e h1 h2 h3 h4 => t5 _ _ (kp y u e h1 h2 h3 h4)) (fun y u e h1 h2 h3 h4 => ne_of_none (t4 _ _ (kp y u e h1 h2 h3 h4)) hrl) upd_same ?_
      have hrep : RepAt CR H (upd (upd (upd (upd (upd H2 f (.lst [])) m (.lst [])) dr (.own r)) r (.ins CR dr [])) r (.ins CR dr (rF o.num o.house o.buy f m q))) r o.num ⟨[], [], q⟩ :=
        ⟨dr, o.house, o.buy, f, m, upd_same, ⟨[], t3 _ _ _ ((upd_ne (ne_of_none upd_same hm)).trans upd_same), .nil⟩, t3 _ _ _ upd_same, l2 _ hf, l2 _ (t1.free hm)⟩
      exact hrep.same (Same.upd hrl)
    · have hc : ¬ (p = o.price ∧ q ≤ o.left) := fun z => by
        rw [decide_eq_true z.1, decide_eq_true z.2] at e
        cases e
      have he : amendB o p q B = _ := if_neg hc
      rw [he] at k
      refine ⟨_, rfl, b, dx, _, rfl, s1 _ _ hb, b_no (by decide +kernel), _, rfl, b, g, α, B, next, o, rfl, X1, ho, by have := hlen o.buy; omega, fun H2 D hD X2 kp2 => ?_⟩
      have h2 := kp2 _ _ h1 (ne_of h1 X1.dict (by intro z; cases z))
      refine ⟨_, rfl, _, rfl, _, rfl, gfld h2 T.clO T.nO_side o_side ⟨_, rfl, _, rfl, _, rfl, gfld h2 T.clO T.nO_shown o_shown ⟨_, rfl, _, _, rfl, fun a da na nda nn => ?_⟩⟩⟩
      refine ⟨a, da, o.num, o.house, o.buy, .int p, q, mn o.shown q, rfl, upd_same, rfl, ?_⟩
      have s3 : Same H2 (upd (upd (upd H2 da (.own a)) a (.ins CO da [])) a (.ins CO da (oF o.num o.house o.buy (.int p) q (nextVis q (mn o.shown q)) (mn o.shown q)))) := made_same na nda
      have X3 := X2.same s3
      obtain ⟨dx3, lv3, hb3⟩ := X3.ob
      have nD : H D = Option.none := s1.free hD
      refine ⟨_, rfl, b, dx3, _, rfl, hb3, b_no (by decide +kernel), _, rfl, b, a, { g with l := setL g.l o.buy D }, α, setL B o.buy (delO o.num (B o.buy)), next, o.num, o.house, o.buy, some p, q, nextVis q (mn o.shown q), mn o.shown q, .rest, rfl, X3, ⟨da, upd_same⟩,
        fun x => ?_, fun x r hr => ?_, hq.1, fun x => ?_, fun _ => ⟨p, rfl⟩, fun H4 α' r X4 kp4 rep4 => ?_⟩
      · by_cases hx : x = o.buy
        · subst hx
          rw [setL_same]
          exact ⟨(fits_del (side _).good _).good, fun r hr => (side _).buy r (mem_del.mp hr).1⟩
        · rw [setL_ne hx]
          exact side x
      · by_cases hx : x = o.buy
        · subst hx
          rw [setL_same] at hr
          exact (mem_del.mp hr).2
        · rw [setL_ne hx] at hr
          intro e
          have := uni x r hr e
          subst this
          exact hx ((side x).buy r hr).symm
      · have := hlen x
        by_cases hx : x = o.buy
        · subst hx
          rw [setL_same]
          have := (fits_del (side o.buy).good o.num).len
          omega
        · rw [setL_ne hx]
          exact this
      refine tail_ok X4 rfl rfl fun H5 rl s5 hrl h5 => ?_
      have kp : Kp g H H4 := fun y u e h1 h2 h3 h4 => by
        refine kp4 y u (s3 _ _ (kp2 _ _ (s1 _ _ e) h3)) ?_ ?_ h3 h4
        · show y ≠ setL g.l o.buy D true
          cases o.buy with
          | true => exact ne_of_none e nD
          | false => exact h1
        · show y ≠ setL g.l o.buy D false
          cases o.buy with
          | true => exact h2
          | false => exact ne_of_none e nD
      refine k H5 { g with l := setL g.l o.buy D } α' rl r rfl rfl (fun x => ?_) (X4.same s5) (fun y u e h1 h2 h3 h4 => s5 _ _ (kp y u e h1 h2 h3 h4)) (fun y u e h1 h2 h3 h4 => ne_of_none (kp y u e h1 h2 h3 h4) hrl) h5 ((rep4.same s5).live ?_)
      · by_cases hx : x = o.buy
        · subst hx
          exact .inr (by show H (setL g.l o.buy D o.buy) = _; rw [setL_same]; exact nD)
        · exact .inl (setL_ne hx)
      · refine (Live.same s1).trans (Live.trans (fun y hy => ?_) (Live.same s3))
        cases e1 : H1 y with
        | none => rfl
        | some u =>
          by_cases hyd : y = g.d
          · rw [hyd] at hy
            rw [show H2 g.d = _ from X2.dict] at hy
            cases hy
          · rw [kp2 y u e1 hyd] at hy
            cases hy
end
end Fb

namespace Fb
open PySem PySem.Spec PyProof.Rows L2
section
variable {P : Program} {w : World} {K : PySem.W.Frag} {mg : Str → Option Value} {base : Heap} {CO CR CB : Addr}
def spHouse : Sp := fun vs H Q _ => ∃ c : Int, vs = [.int c] ∧ ∀ (h : Str) (H' : Hp), Same H H' → Q (.str h) H'
def spFits : Sp := fun vs H Q _ => ∃ (r : Bool) (lim : Option Int) (p : Int), vs = [.str (sd r), limV lim, .int p] ∧ Q (.bl (acc (!r) lim p)) H
def firstV (β : Int → Addr) : Option Ord → V
  | none => .non
  | some o => .ref (β o.num)
def spFirstL : Sp := fun vs H Q _ => ∃ (L : Addr) (β : Int → Addr) (os : List Ord) (r : Bool) (lim : Option Int), vs = [.ref L, .str (sd r), limV lim] ∧ LawAt H L β os ∧ Q (firstV β (firstL os r lim)) H
def spVisible : Sp := fun vs H Q _ => ∃ l s : Int, vs = [.int l, .int s] ∧ 0 ≤ s ∧ Q (.int (nextVis l s)) H
def spAvailL : Sp := fun vs H Q _ => ∃ (L : Addr) (β : Int → Addr) (os : List Ord) (h : Str) (c : Bool) (lim : Option Int), vs = [.ref L, .str h, .str (sd c), limV lim] ∧ LawAt H L β os ∧ Q (.int (availL h c lim os)) H
theorem ok_house {f : Addr} {fd : FuncData} (F : Fun K "_law_house" "_law_house" s_law_house f fd) (T : Txt K mg CO CR CB) : FnOk P w K mg base CX0 1 f fd ["_law_cell"] spHouse := by
  refine F.ok sc_law_house (fun vs H Q E h => ?_) (fun cdv A outer s H vs Q E hr h => ?_)
  · obtain ⟨c, rfl, _⟩ := h
    rfl
  · obtain ⟨c, rfl, k⟩ := h
    refine ⟨_, (pss_one (ps_ret (pe_ix ix_list (pe_lst (pa_cons pe_str (pa_cons pe_str (pa_cons pe_str (pa_cons pe_str pa_nil))))) (pe_op op_mod (pe_callTy call_int1 (by rfl) T.zInt boot_int (pa_cons (pv 0) pa_nil)) pe_int) (fun _ _ => rfl)))), ?_⟩
    refine ⟨(by show 4 ≤ sizeLine; decide), fun p hp => ?_⟩
    refine ⟨_, rfl, .inl ⟨c, rfl, ?_⟩⟩
    obtain ⟨j, hj⟩ : ∃ j : Nat, c % 4 = (j : Int) := ⟨(c % 4).toNat, by omega⟩
    have hj4 : j < 4 := by omega
    obtain ⟨x, hx⟩ : ∃ x : Str, ([V.str "ash", V.str "bay", V.str "elm", V.str "oak"] : List V)[j]? = some (.str x) := by
      match j, hj4 with
      | 0, _ => exact ⟨_, rfl⟩
      | 1, _ => exact ⟨_, rfl⟩
      | 2, _ => exact ⟨_, rfl⟩
      | 3, _ => exact ⟨_, rfl⟩
    exact ⟨_, _, rfl, rfl, (by show (0 : Int) < 4; decide), p, _, _, _, rfl, rfl, SqL.of upd_same, at_of hj hx, k x _ (Same.upd hp)⟩
theorem ok_resting {f : Addr} {fd : FuncData} (F : Fun K "_law_resting_side" "_law_resting_side" s_law_resting_side f fd) (T : Txt K mg CO CR CB) : FnOk P w K mg base CX0 1 f fd ["_law_side"] spOther := by
  refine F.ok sc_law_resting_side (fun vs H Q E h => ?_) (fun cdv A outer s H vs Q E hr h => ?_)
  · obtain ⟨b, rfl, _⟩ := h
    rfl
  · obtain ⟨b, rfl, k⟩ := h
    refine ⟨_, (pss_cons (ps_if (pt_cmpR op_eq (pv 0) pe_str (nomark _))
    (pss_one (ps_ret pe_str))
    pss_nil)
    (pss_one (ps_ret pe_str))), ?_⟩
    refine ⟨_, rfl, rfl, _, rfl, ?_⟩
    rw [sd_buy]
    cases b with
    | true => exact iteT k
    | false => exact iteF k
theorem ok_fits {f : Addr} {fd : FuncData} (F : Fun K "_law_fits" "_law_fits" s_law_fits f fd) (T : Txt K mg CO CR CB) : FnOk P w K mg base CX0 1 f fd ["_law_side", "_law_limit", "_law_price"] spFits := by
  refine F.ok sc_law_fits (fun vs H Q E h => ?_) (fun cdv A outer s H vs Q E hr h => ?_)
  · obtain ⟨r, lim, p, rfl, _⟩ := h
    rfl
  · obtain ⟨r, lim, p, rfl, k⟩ := h
    refine ⟨_, (pss_cons (ps_if (pt_cmpR op_isN (pv 1) pe_non (nomark _))
    (pss_one (ps_ret pe_bl))
    pss_nil)
    (pss_cons (ps_if (pt_cmpR op_eq (pv 0) pe_str (nomark _))
    (pss_one (ps_ret (pe_cmpR op_le (pv 2) (pv 1) (nomark _))))
    pss_nil)
    (pss_one (ps_ret (pe_cmpR op_ge (pv 2) (pv 1) (nomark _)))))), ?_⟩
    refine ⟨_, rfl, rfl, _, rfl, ?_⟩
    rw [limV_none]
    cases lim with
    | none => exact iteT k
    | some i =>
      refine iteF ?_
      refine ⟨_, rfl, rfl, _, rfl, ?_⟩
      rw [sd_sell]
      cases r with
      | true => exact iteF ⟨_, rfl, _, rfl, _, _, rfl, rfl, k⟩
      | false => exact iteT ⟨_, rfl, _, rfl, _, _, rfl, rfl, k⟩
theorem nextVis_min {l s : Int} (h : ¬ s = 0) (h0 : 0 ≤ s) : nextVis l s = if s < l then s else l := by
  unfold nextVis
  rw [if_pos (by omega)]
  split <;> split <;> omega
theorem ok_visible {f : Addr} {fd : FuncData} (F : Fun K "_law_visible" "_law_visible" s_law_visible f fd) (T : Txt K mg CO CR CB) : FnOk P w K mg base CX0 1 f fd ["_law_left", "_law_shown"] spVisible := by
  refine F.ok sc_law_visible (fun vs H Q E h => ?_) (fun cdv A outer s H vs Q E hr h => ?_)
  · obtain ⟨l, s, rfl, _⟩ := h
    rfl
  · obtain ⟨l, s, rfl, h0, k⟩ := h
    refine ⟨_, (pss_cons (ps_if (pt_cmpR op_eq (pv 1) pe_int (nomark _))
    (pss_one (ps_ret (pv 0)))
    pss_nil)
    (pss_one (ps_ret (pe_callB (call_min2 rfl) (by rfl) T.zMin boot_min (pa_cons (pv 0) (pa_cons (pv 1) pa_nil)))))), ?_⟩
    refine ⟨_, rfl, rfl, _, rfl, ?_⟩
    refine iteD (fun e => ?_) fun e => ?_
    · have hs : s = 0 := by injection e
      subst hs
      exact ⟨_, rfl, k⟩
    · have hs : ¬ s = 0 := fun z => e (by rw [z])
      rw [nextVis_min hs h0] at k
      exact ⟨_, rfl, _, rfl, _, _, rfl, k⟩
theorem firstL_snoc {os : List Ord} {i : Nat} {q : Ord} (r : Bool) (lim : Option Int) (e : os[i]? = some q) : firstL (os.take (i + 1)) r lim = firstStep r lim (firstL (os.take i) r lim) q := by rw [take_snoc e, firstL_append]
theorem firstL_mem {os : List Ord} {r : Bool} {lim : Option Int} {q : Ord} : firstL os r lim = some q → q ∈ os := by
  rw [firstL_eq]
  intro h
  have : ∃ l, sortB r os = q :: l := by
    cases e : sortB r os with
    | nil => rw [e] at h; cases h
    | cons a l =>
      rw [e] at h
      have h : (if acc (!r) lim a.price = true then some a else none) = some q := h
      by_cases ha : acc (!r) lim a.price = true
      · rw [if_pos ha] at h
        exact ⟨l, by rw [Option.some.inj h]⟩
      · rw [if_neg ha] at h
        cases h
  obtain ⟨l, e⟩ := this
  exact ((mem_sortB os).mp (by rw [e]; exact List.mem_cons_self)).1
theorem ok_firstL {f : Addr} {fd : FuncData} (F : Fun K "_law_first" "_law_first" s_law_first f fd) (T : Txt K mg CO CR CB) (c_law_fits : CallF P w K mg base 1 "_law_fits" ["_law_side", "_law_limit", "_law_price"] spFits) : FnOk P w K mg base CX0 2 f fd ["_law_orders", "_law_side", "_law_limit"] spFirstL := by
  refine F.ok sc_law_first (fun vs H Q E h => ?_) (fun cdv A outer s H vs Q E hr h => ?_)
  · obtain ⟨L, β, os, r, lim, rfl, _⟩ := h
    rfl
  · obtain ⟨L, β, os, r, lim, rfl, X, k⟩ := h
    refine ⟨_, (pss_cons (ps_set (i := 3) sc_law_first.nd rfl (Or.inl rfl) pe_non)
    (pss_cons (ps_for PassesOwn.never rfl (pi_list (pv 0)) (pg_name (i := 4) sc_law_first.nd rfl (Or.inl rfl))
    (pss_one (ps_if (pw_and (pt_cmpR op_eq (pe_ix ix_list (pv 4) pe_int (fun _ _ => rfl)) (pv 1) (nomark _)) (pw_and1 (pt_val (pe_f c_law_fits (hr.mono (by decide)) (by rfl) (pa_cons (pv 1) (pa_cons (pv 2) (pa_cons (pe_ix ix_list (pv 4) pe_int (fun _ _ => rfl)) pa_nil))))))).pt
    (pss_one (ps_if (pt_cmpR op_isN (pv 3) pe_non (nomark _))
    (pss_one (ps_set (i := 3) sc_law_first.nd rfl (Or.inl rfl) (pv 4)))
    (pss_one (ps_if (pw_and (pt_cmpR op_eq (pv 1) pe_str (nomark _)) (pw_and1 (pt_cmpR op_lt (pe_ix ix_list (pv 4) pe_int (fun _ _ => rfl)) (pe_ix ix_list (pv 3) pe_int (fun _ _ => rfl)) (nomark _)))).pt
    (pss_one (ps_set (i := 3) sc_law_first.nd rfl (Or.inl rfl) (pv 4)))
    (pss_one (ps_if (pw_and (pt_cmpR op_eq (pv 1) pe_str (nomark _)) (pw_and1 (pt_cmpR op_gt (pe_ix ix_list (pv 4) pe_int (fun _ _ => rfl)) (pe_ix ix_list (pv 3) pe_int (fun _ _ => rfl)) (nomark _)))).pt
    (pss_one (ps_set (i := 3) sc_law_first.nd rfl (Or.inl rfl) (pv 4)))
    pss_nil))))))
    pss_nil)))
    (pss_one (ps_ret (pv 3))))), ?_⟩
    refine ⟨_, rfl, L, rfl, ⟨_, SqL.of X.lst⟩, for_list (K := K) (a := L) (xs := refs β os) (fun i σ' H' => H' = H ∧ ∃ v4, σ' = [some (.ref L), some (.str (sd r)), some (limV lim), some (firstV β (firstL (os.take i) r lim)), v4]) ⟨rfl, none, rfl⟩
      (fun i σ' H' _ z => by rw [z.1]; exact SqL.of X.lst) ?_ ?_⟩
    · rintro i y σ' H' hi ⟨rfl, v4, rfl⟩
      obtain ⟨q, hq, hm, rfl⟩ := refs_get hi
      have hrow := X.row q hm
      refine and_pure (b1 := decide (q.buy = r)) (b2 := acc (!r) lim q.price) (fun Q' k' => ⟨_, rfl, β q.num, _, _, _, rfl, rfl, SqL.of hrow, at_of (j := 2) rfl rfl, _, rfl, rfl, _, rfl, by rw [sd_sd]; exact k'⟩)
        (fun Q' k' => ⟨_, rfl, _, rfl, _, rfl, β q.num, _, _, _, rfl, rfl, SqL.of hrow, at_of (j := 3) rfl rfl, r, lim, q.price, rfl, _, rfl, k'⟩) ?_
      refine iteB (fun e => ?_) fun e => ?_
      · rw [Bool.and_eq_true] at e
        have hc : q.buy = r ∧ acc (!r) lim q.price = true := ⟨of_decide_eq_true e.1, e.2⟩
        have done : ∀ o : Ord, firstL (os.take (i + 1)) r lim = some o → (∃ v4, [some (.ref L), some (.str (sd r)), some (limV lim), some (.ref (β o.num)), some (.ref (β q.num))] = [some (.ref L), some (.str (sd r)), some (limV lim), some (firstV β (firstL (os.take (i + 1)) r lim)), v4]) := fun o eo => ⟨_, by rw [eo]; rfl⟩
        have hst := firstL_snoc r lim hq
        unfold firstStep at hst
        rw [if_pos hc] at hst
        cases hb : firstL (os.take i) r lim with
        | none =>
          rw [hb] at hst
          dsimp only at hst
          refine ⟨_, rfl, rfl, _, rfl, iteDT rfl ?_⟩
          exact ⟨_, rfl, rfl, done q hst⟩
        | some qb =>
          rw [hb] at hst
          dsimp only at hst
          have hbm : qb ∈ os := List.mem_of_mem_take (firstL_mem hb)
          have hrb := X.row qb hbm
          refine ⟨_, rfl, rfl, _, rfl, iteDF (by intro z; cases z) ?_⟩
          refine and_pure (b1 := !r) (b2 := decide (q.price < qb.price)) (fun Q' k' => ⟨_, rfl, rfl, _, rfl, by rw [sd_sell]; exact k'⟩)
            (fun Q' k' => ⟨_, rfl, β q.num, _, _, _, rfl, rfl, SqL.of hrow, at_of (j := 3) rfl rfl, _, rfl, β qb.num, _, _, _, rfl, rfl, SqL.of hrb, at_of (j := 3) rfl rfl, _, _, rfl, rfl, _, rfl, k'⟩) ?_
          refine iteB (fun e1 => ?_) fun e1 => ?_
          · rw [Bool.and_eq_true] at e1
            have hr0 : r = false := by simpa using e1.1
            have hlt : better r q.price qb.price = true := by
              rw [hr0]
              exact e1.2
            rw [if_pos hlt] at hst
            exact ⟨_, rfl, rfl, done q hst⟩
          · refine and_pure (b1 := r) (b2 := decide (qb.price < q.price)) (fun Q' k' => ⟨_, rfl, rfl, _, rfl, by rw [sd_buy]; exact k'⟩)
              (fun Q' k' => ⟨_, rfl, β q.num, _, _, _, rfl, rfl, SqL.of hrow, at_of (j := 3) rfl rfl, _, rfl, β qb.num, _, _, _, rfl, rfl, SqL.of hrb, at_of (j := 3) rfl rfl, _, _, rfl, rfl, _, rfl, k'⟩) ?_
            refine iteB (fun e2 => ?_) fun e2 => ?_
            · rw [Bool.and_eq_true] at e2
              have hlt : better r q.price qb.price = true := by
                rw [e2.1]
                exact e2.2
              rw [if_pos hlt] at hst
              exact ⟨_, rfl, rfl, done q hst⟩
            · have hlt : ¬ better r q.price qb.price = true := by
                cases r with
                | true => simpa [better] using e2
                | false => simpa [better] using e1
              rw [if_neg hlt] at hst
              exact ⟨rfl, done qb hst⟩
      · have hc : ¬ (q.buy = r ∧ acc (!r) lim q.price = true) := fun z => by
          rw [decide_eq_true z.1, z.2] at e
          cases e
        have hst := firstL_snoc r lim hq
        unfold firstStep at hst
        rw [if_neg hc] at hst
        refine ⟨rfl, some (.ref (β q.num)), ?_⟩
        rw [hst]
        rfl
    · rintro σ' H' ⟨rfl, v4, rfl⟩
      rw [refs_len, List.take_length]
      exact ⟨_, rfl, k⟩
theorem availL_snoc (h : Str) (b : Bool) (lim : Option Int) {os : List Ord} {i : Nat} {q : Ord} (e : os[i]? = some q) : availL h b lim (os.take (i + 1)) = availL h b lim (os.take i) + (if q.buy = !b then weigh h b lim q else 0) := by
  unfold availL
  rw [take_snoc e, List.map_append, List.sum_append]
  simp
theorem ok_availL {f : Addr} {fd : FuncData} (F : Fun K "_law_available" "_law_available" s_law_available f fd) (T : Txt K mg CO CR CB) (c_law_fits : CallF P w K mg base 1 "_law_fits" ["_law_side", "_law_limit", "_law_price"] spFits) (c_law_resting_side : CallF P w K mg base 1 "_law_resting_side" ["_law_side"] spOther) :
    FnOk P w K mg base CX0 2 f fd ["_law_orders", "_law_house_here", "_law_side", "_law_limit"] spAvailL := by
  refine F.ok sc_law_available (fun vs H Q E h => ?_) (fun cdv A outer s H vs Q E hr h => ?_)
  · obtain ⟨L, β, os, h, c, lim, rfl, _⟩ := h
    rfl
  · obtain ⟨L, β, os, h, c, lim, rfl, X, k⟩ := h
    refine ⟨_, (pss_cons (ps_set (i := 4) sc_law_available.nd rfl (Or.inl rfl) pe_int)
    (pss_cons (ps_for PassesOwn.never rfl (pi_list (pv 0)) (pg_name (i := 5) sc_law_available.nd rfl (Or.inl rfl))
    (pss_one (ps_if (pw_and (pt_cmpR op_eq (pe_ix ix_list (pv 5) pe_int (fun _ _ => rfl)) (pe_f c_law_resting_side (hr.mono (by decide)) (by rfl) (pa_cons (pv 2) pa_nil)) (nomark _)) (pw_and (pt_cmpR op_ne (pe_ix ix_list (pv 5) pe_int (fun _ _ => rfl)) (pv 1) (nomark _)) (pw_and1 (pt_val (pe_f c_law_fits (hr.mono (by decide)) (by rfl) (pa_cons (pe_ix ix_list (pv 5) pe_int (fun _ _ => rfl)) (pa_cons (pv 3) (pa_cons (pe_ix ix_list (pv 5) pe_int (fun _ _ => rfl)) pa_nil)))))))).pt
    (pss_one (ps_set (i := 4) sc_law_available.nd rfl (Or.inl rfl) (pe_op op_add (pv 4) (pe_ix ix_list (pv 5) pe_int (fun _ _ => rfl)))))
    pss_nil)))
    (pss_one (ps_ret (pv 4))))), ?_⟩
    refine ⟨_, rfl, L, rfl, ⟨_, SqL.of X.lst⟩, for_list (K := K) (a := L) (xs := refs β os) (fun i σ' H' => H' = H ∧ ∃ v5, σ' = [some (.ref L), some (.str h), some (.str (sd c)), some (limV lim), some (.int (availL h c lim (os.take i))), v5]) ⟨rfl, none, rfl⟩
      (fun i σ' H' _ z => by rw [z.1]; exact SqL.of X.lst) ?_ ?_⟩
    · rintro i y σ' H' hi ⟨rfl, v5, rfl⟩
      obtain ⟨q, hq, hm, rfl⟩ := refs_get hi
      have hrow := X.row q hm
      refine and_pure (b1 := decide (q.buy = !c)) (b2 := !decide (q.house = h) && acc (!q.buy) lim q.price) (fun Q' k' => ⟨_, rfl, β q.num, _, _, _, rfl, rfl, SqL.of hrow, at_of (j := 2) rfl rfl, _, rfl, c, rfl, rfl, _, rfl, by rw [sd_sd]; exact k'⟩)
        (fun Q' k' => and_pure (b1 := !decide (q.house = h)) (b2 := acc (!q.buy) lim q.price) (fun Q2 k2 => ⟨_, rfl, β q.num, _, _, _, rfl, rfl, SqL.of hrow, at_of (j := 1) rfl rfl, _, rfl, rfl, _, rfl, by rw [dec_str, Bool.beq_eq_decide_eq]; exact k2⟩)
          (fun Q2 k2 => ⟨_, rfl, β q.num, _, _, _, rfl, rfl, SqL.of hrow, at_of (j := 2) rfl rfl, _, rfl, _, rfl, β q.num, _, _, _, rfl, rfl, SqL.of hrow, at_of (j := 3) rfl rfl, q.buy, lim, q.price, rfl, _, rfl, k2⟩) k') ?_
      refine iteB (fun e => ?_) fun e => ?_
      · rw [Bool.and_eq_true, Bool.and_eq_true] at e
        have h1 : q.buy = !c := of_decide_eq_true e.1
        have h2 : q.house ≠ h := by simpa using e.2.1
        have h3 : acc c lim q.price = true := by
          have := e.2.2
          rw [h1, Bool.not_not] at this
          exact this
        refine ⟨_, rfl, _, rfl, β q.num, _, _, _, rfl, rfl, SqL.of hrow, at_of (j := 4) rfl rfl, _, _, rfl, rfl, rfl, some (.ref (β q.num)), ?_⟩
        rw [availL_snoc h c lim hq, if_pos h1]
        unfold weigh
        rw [if_pos ⟨h2, h3⟩]
        rfl
      · refine ⟨rfl, some (.ref (β q.num)), ?_⟩
        have e0 : (if q.buy = !c then weigh h c lim q else 0) = 0 := by
          by_cases h1 : q.buy = !c
          · rw [if_pos h1]
            unfold weigh
            rw [if_neg]
            rintro ⟨h2, h3⟩
            rw [h1, Bool.not_not, h3] at e
            simp [h2] at e
          · exact if_neg h1
        rw [availL_snoc h c lim hq, e0, Int.add_zero]
        rfl
    · rintro σ' H' ⟨rfl, v5, rfl⟩
      rw [refs_len, List.take_length]
      exact ⟨_, rfl, k⟩
end
end Fb

namespace Fb
open PySem PySem.Spec PyProof.Rows L2
section
variable {P : Program} {w : World} {K : PySem.W.Frag} {mg : Str → Option Value} {base : Heap} {CO CR CB : Addr}
/-! ### rows as data -/
def rowD (o : Ord) : PyData := .list [.int o.num, .str o.house, .str (sd o.buy), .int o.price, .int o.left, .int o.vis, .int o.shown]
theorem rowD_plain (o : Ord) : (rowD o).plain = true := by simp [rowD, PyData.plain, PyData.plainAll]
theorem rowD_depth (o : Ord) : (rowD o).depth = 1 := by simp [rowD, PyData.depth, PyData.depthAll]
theorem rowsD_plain : ∀ os : List Ord, PyData.plainAll (os.map rowD) = true
  | [] => by simp [PyData.plainAll]
  | o :: os => by simp [PyData.plainAll, rowD_plain o, rowsD_plain os]
theorem rowsD_depth : ∀ os : List Ord, PyData.depthAll (os.map rowD) ≤ 1
  | [] => by simp [PyData.depthAll]
  | o :: os => by
    have h1 := rowsD_depth os
    have h2 := rowD_depth o
    simp only [List.map_cons, PyData.depthAll]
    omega
theorem rowD_self (o : Ord) : PyData.eqv (rowD o) (rowD o) = true := by simp [rowD, PyData.eqv, PyData.eqvAll]
theorem rowD_ne {o q : Ord} (h : o.num ≠ q.num) : PyData.eqv (rowD o) (rowD q) = false := by
  have : (o.num == q.num) = false := beq_eq_false_iff_ne.mpr h
  simp [rowD, PyData.eqv, PyData.eqvAll, this]
theorem place_row {β : Int → Addr} {q : Ord} : ∀ {os : List Ord}, Nums os → q ∈ os → ∃ j, SeqAt.dataPlace (os.map rowD) (rowD q) = some j ∧ (refs β os).eraseIdx j = refs β (delO q.num os)
  | [], _, h => by simp at h
  | o :: os, hn, hm => by
    unfold SeqAt.dataPlace
    by_cases e : o.num = q.num
    · have eo : o = q := hn.inj List.mem_cons_self hm e
      subst eo
      refine ⟨0, ?_, ?_⟩
      · rw [List.map_cons, List.findIdx?_cons, rowD_self]
        rfl
      · rw [del_head hn]
        rfl
    · have hm' : q ∈ os := by
        rcases List.mem_cons.mp hm with h | h
        · exact absurd (by rw [h]) e
        · exact h
      obtain ⟨j, h1, h2⟩ := place_row (β := β) hn.tail hm'
      unfold SeqAt.dataPlace at h1
      refine ⟨j + 1, ?_, ?_⟩
      · rw [List.map_cons, List.findIdx?_cons, rowD_ne e, h1]
        rfl
      · have e2 : delO q.num (o :: os) = o :: delO q.num os := List.filter_cons_of_pos (by simpa using e)
        rw [e2]
        show V.ref (β o.num) :: (refs β os).eraseIdx j = V.ref (β o.num) :: refs β (delO q.num os)
        rw [h2]
theorem rowD_at {H : Hp} {a : Addr} {o : Ord} (h : H a = some (.lst (rowV o))) : Dp K H (.ref a) (rowD o) :=
  .lst (SqL.of h) (.cons (.int _) (.cons (.str _) (.cons (.str _) (.cons (.int _) (.cons (.int _) (.cons (.int _) (.cons (.int _) .nil)))))))
theorem rowsD_at {H : Hp} {β : Int → Addr} : ∀ {os : List Ord}, (∀ o ∈ os, H (β o.num) = some (.lst (rowV o))) → DpAll K H (refs β os) (os.map rowD)
  | [], _ => .nil
  | o :: os, h => .cons (rowD_at (h o List.mem_cons_self)) (rowsD_at fun q hq => h q (List.mem_cons_of_mem _ hq))
/-- orders.remove(row) -/
theorem rem_row {H : Hp} {L : Addr} {β : Int → Addr} {os : List Ord} {q : Ord} {Q : VK} (X : LawAt H L β os) (hn : Nums os) (hq : q ∈ os) (k : Q .non (upd H L (.lst (refs β (delO q.num os))))) : rRemD K (.ref L) [.ref (β q.num)] H Q := by
  obtain ⟨j, h1, h2⟩ := place_row (β := β) hn hq
  refine ⟨L, _, rowD q, _, _, j, rfl, rfl, X.lst, rowsD_at X.row, rowD_at (X.row q hq), rowsD_plain os, rowD_plain q, Nat.le_trans (rowsD_depth os) (by decide), h1, ?_⟩
  rw [h2]
  exact k
theorem row_inj {o q : Ord} (h : (HO.lst (rowV o)) = .lst (rowV q)) : o.num = q.num := by
  injection h with h
  unfold rowV at h
  injection h with h _
  injection h
theorem LawAt.beta_ne {H : Hp} {L : Addr} {β : Int → Addr} {os : List Ord} (X : LawAt H L β os) {o q : Ord} (ho : o ∈ os) (hq : q ∈ os) (h : o.num ≠ q.num) : β o.num ≠ β q.num := fun e => by
  have h1 := X.row o ho
  rw [e, X.row q hq] at h1
  injection h1 with h1
  exact h (row_inj h1.symm)
theorem LawAt.del {H : Hp} {L : Addr} {β : Int → Addr} {os : List Ord} (X : LawAt H L β os) (n : Int) : LawAt (upd H L (.lst (refs β (delO n os)))) L β (delO n os) where
  lst := upd_same
  row := fun o ho => (upd_ne (X.out o (mem_del.mp ho).1)).trans (X.row o (mem_del.mp ho).1)
  out := fun o ho => X.out o (mem_del.mp ho).1
theorem refs_set {β : Int → Addr} {n l v : Int} {os : List Ord} : refs β (setO n l v os) = refs β os := by
  unfold refs setO
  rw [List.map_map]
  exact List.map_congr_left fun r _ => by
    show V.ref (β (upO _ _ _ r).num) = _
    rw [upO_num]
theorem LawAt.set {H : Hp} {L : Addr} {β : Int → Addr} {os : List Ord} (X : LawAt H L β os) (hn : Nums os) {q : Ord} (hq : q ∈ os) (l v : Int) : LawAt (upd H (β q.num) (.lst (rowV { q with left := l, vis := v }))) L β (setO q.num l v os) where
  lst := by rw [refs_set]; exact (upd_ne (X.out q hq).symm).trans X.lst
  row := fun o ho => by
    obtain ⟨y, hy, e⟩ := List.mem_map.mp ho
    subst e
    by_cases e : y.num = q.num
    · have := hn.inj hy hq e
      subst this
      rw [upO_eq]
      exact upd_same
    · rw [upO_ne e]
      exact (upd_ne (X.beta_ne hy hq e)).trans (X.row y hy)
  out := fun o ho => by
    obtain ⟨y, hy, e⟩ := List.mem_map.mp ho
    subst e
    rw [upO_num]
    exact X.out y hy
theorem LawAt.aside {H : Hp} {L : Addr} {β : Int → Addr} {os : List Ord} (X : LawAt H L β os) {a : Addr} {u : HO} (h1 : L ≠ a) (h2 : ∀ o ∈ os, β o.num ≠ a) : LawAt (upd H a u) L β os where
  lst := (upd_ne h1).trans X.lst
  row := fun o ho => (upd_ne (h2 o ho)).trans (X.row o ho)
  out := X.out
theorem LawAt.app {H : Hp} {L : Addr} {β : Int → Addr} {os : List Ord} (X : LawAt H L β os) {o : Ord} (h : H (β o.num) = some (.lst (rowV o))) (hl : β o.num ≠ L) : LawAt (upd H L (.lst (refs β os ++ [.ref (β o.num)]))) L β (os ++ [o]) where
  lst := by
    unfold refs
    rw [List.map_append]
    exact upd_same
  row := fun q hq => by
    rcases List.mem_append.mp hq with hq | hq
    · exact (upd_ne (X.out q hq)).trans (X.row q hq)
    · have e : q = o := by simpa using hq
      subst e
      exact (upd_ne hl).trans h
  out := fun q hq => by
    rcases List.mem_append.mp hq with hq | hq
    · exact X.out q hq
    · have e : q = o := by simpa using hq
      subst e
      exact hl
theorem LawAt.keep {H H' : Hp} {L : Addr} {β : Int → Addr} {os : List Ord} (X : LawAt H L β os) (k : ∀ y xs, H y = some (.lst xs) → (y = L ∨ ∃ o ∈ os, y = β o.num) → H' y = some (.lst xs)) : LawAt H' L β os where
  lst := k _ _ X.lst (.inl rfl)
  row := fun o ho => k _ _ (X.row o ho) (.inr ⟨o, ho, rfl⟩)
  out := X.out
theorem LawAt.same {H H' : Hp} {L : Addr} {β : Int → Addr} {os : List Ord} (X : LawAt H L β os) (s : Same H H') : LawAt H' L β os := X.keep fun y xs e _ => s _ _ e
theorem del_set {n l v : Int} : ∀ os : List Ord, delO n (setO n l v os) = delO n os
  | [] => rfl
  | o :: os => by
    have ih := del_set (n := n) (l := l) (v := v) os
    show delO n (upO n l v o :: setO n l v os) = _
    by_cases e : o.num = n
    · rw [show delO n (o :: os) = delO n os from List.filter_cons_of_neg (by simpa using e), ← ih]
      exact List.filter_cons_of_neg (by rw [upO_num]; simpa using e)
    · rw [upO_ne e, show delO n (o :: os) = o :: delO n os from List.filter_cons_of_pos (by simpa using e), ← ih]
      exact List.filter_cons_of_pos (by simpa using e)
theorem mem_set {n l v : Int} {os : List Ord} {q : Ord} (hq : q ∈ os) (hn : q.num = n) : { q with left := l, vis := v } ∈ setO n l v os := by
  subst hn
  exact List.mem_map.mpr ⟨q, hq, upO_eq⟩
theorem or_pure {t u : TT} {σ : L2.St} {H : Hp} {Q : Bool → Hp → Prop} {b1 b2 : Bool} (h1 : ∀ Q : Bool → Hp → Prop, Q b1 H → t σ H Q) (h2 : ∀ Q : Bool → Hp → Prop, Q b2 H → u σ H Q) (q : Q (b1 || b2) H) : tOr t u σ H Q := by
  refine h1 _ ?_
  cases b1 with
  | true => exact iteT (by simpa using q)
  | false => exact iteF (h2 _ (by simpa using q))
/-! ### trading -/
def spTrade : Sp := fun vs H Q _ => ∃ (L : Addr) (β : Int → Addr) (os : List Ord) (h : Str) (c : Bool) (lim : Option Int) (q : Int), vs = [.ref L, .str h, .str (sd c), limV lim, .int q] ∧ LawAt H L β os ∧ Good os ∧ 0 ≤ q ∧ os.length ≤ 900 ∧
  ∀ (H' : Hp) (t f m : Addr), H' t = some (.tup [.ref f, .ref m, .int (runL h c lim q os).left]) → FillsAt H' f (runL h c lim q os).fills → RemAt H' m (runL h c lim q os).rem → LawAt H' L β (runL h c lim q os).rs → KpL L β os H H' → H f = none → H m = none → Q (.ref t) H'
structure TSt (H H' : Hp) (L f m : Addr) (β : Int → Addr) (os : List Ord) (t : MS) : Prop where
  law : LawAt H' L β t.rs
  fills : FillsAt H' f t.fills
  rem : RemAt H' m t.rem
  fits : Fits os t.rs
  nn : 0 ≤ t.left
  fr : KpL L β os H H'
theorem tloop_none {h : Str} {b : Bool} {lim : Option Int} {s : MS} (e : tstep h b lim s = none) : ∀ n, tloop h b lim n s = s
  | 0 => rfl
  | n + 1 => by unfold tloop; rw [e]
theorem tloop_some {h : Str} {b : Bool} {lim : Option Int} {s s' : MS} (e : tstep h b lim s = some s') (n : Nat) : tloop h b lim (n + 1) s = tloop h b lim n s' := by
  show (match tstep h b lim s with | none => s | some s' => tloop h b lim n s') = _
  rw [e]
end
end Fb

namespace Fb
open PySem PySem.Spec PyProof.Rows L2
section
variable {P : Program} {w : World} {K : PySem.W.Frag} {mg : Str → Option Value} {base : Heap} {CO CR CB : Addr}
theorem firstV_none {β : Int → Addr} {o : Option Ord} : decide (firstV β o = V.non) = o.isNone := by
  cases o with
  | none => exact decide_eq_true rfl
  | some i => exact decide_eq_false fun e => by cases e
theorem ok_trade {fn : Addr} {fd : FuncData} (F : Fun K "_law_trade" "_law_trade" s_law_trade fn fd) (T : Txt K mg CO CR CB) (c_law_first : CallF P w K mg base 2 "_law_first" ["_law_orders", "_law_side", "_law_limit"] spFirstL)
    (c_law_resting_side : CallF P w K mg base 1 "_law_resting_side" ["_law_side"] spOther) (c_law_visible : CallF P w K mg base 1 "_law_visible" ["_law_left", "_law_shown"] spVisible) : FnOk P w K mg base CX0 3 fn fd ["_law_orders", "_law_house_here", "_law_side", "_law_limit", "_law_quantity"] spTrade := by
  refine F.ok sc_law_trade (fun vs H Q E h => ?_) (fun cdv A outer s H vs Q E hr h => ?_)
  · obtain ⟨L, β, os, h, c, lim, q, rfl, _⟩ := h
    rfl
  · obtain ⟨L, β, os, h, c, lim, q, rfl, X, G, hq0, hlen, k⟩ := h
    refine ⟨_, (pss_cons (ps_set (i := 5) sc_law_trade.nd rfl (Or.inl rfl) (pe_lst pa_nil))
    (pss_cons (ps_set (i := 6) sc_law_trade.nd rfl (Or.inl rfl) (pe_lst pa_nil))
    (pss_cons (ps_set (i := 7) sc_law_trade.nd rfl (Or.inl rfl) (pv 4))
    (pss_cons (ps_for PassesOwn.never rfl (pi_range1 (by rfl) T.zRange (pa_cons pe_int pa_nil)) (pg_name (i := 8) sc_law_trade.nd rfl (Or.inl rfl))
    (pss_cons (ps_set (i := 9) sc_law_trade.nd rfl (Or.inl rfl) (pe_f c_law_first (hr.mono (by decide)) (by rfl) (pa_cons (pv 0) (pa_cons (pe_f c_law_resting_side (hr.mono (by decide)) (by rfl) (pa_cons (pv 2) pa_nil)) (pa_cons (pv 3) pa_nil)))))
    (pss_cons (ps_if (pw_or (pt_cmpR op_eq (pv 7) pe_int (nomark _)) (pw_or1 (pt_cmpR op_isN (pv 9) pe_non (nomark _)))).pt
    (pss_one (ps_ret (pe_tup (pa_cons (pv 5) (pa_cons (pv 6) (pa_cons (pv 7) pa_nil))))))
    pss_nil)
    (pss_one (ps_if (pt_cmpR op_eq (pe_ix ix_list (pv 9) pe_int (fun _ _ => rfl)) (pv 1) (nomark _))
    (pss_cons (ps_expr (pe_bm PySem.F.plainAttrs_list PySem.F.slot_list_append PySem.F.type_list_append mt_append (pv 6) (pa_cons (pe_ix ix_list (pv 9) pe_int (fun _ _ => rfl)) pa_nil)))
    (pss_one (ps_expr (pe_bm PySem.F.plainAttrs_list PySem.F.slot_list_remove PySem.F.type_list_remove (mt_remD hr.units) (pv 0) (pa_cons (pv 9) pa_nil)))))
    (pss_cons (ps_set (i := 10) sc_law_trade.nd rfl (Or.inl rfl) (pe_callB (call_min2 rfl) (by rfl) T.zMin boot_min (pa_cons (pv 7) (pa_cons (pe_ix ix_list (pv 9) pe_int (fun _ _ => rfl)) pa_nil))))
    (pss_cons (ps_expr (pe_bm PySem.F.plainAttrs_list PySem.F.slot_list_append PySem.F.type_list_append mt_append (pv 5) (pa_cons (pe_tup (pa_cons (pe_ix ix_list (pv 9) pe_int (fun _ _ => rfl)) (pa_cons (pe_ix ix_list (pv 9) pe_int (fun _ _ => rfl)) (pa_cons (pe_ix ix_list (pv 9) pe_int (fun _ _ => rfl)) (pa_cons (pv 10) pa_nil))))) pa_nil)))
    (pss_cons (ps_set (i := 7) sc_law_trade.nd rfl (Or.inl rfl) (pe_op op_sub (pv 7) (pv 10)))
    (pss_cons (ps_asg (pe_op op_sub (pe_ix ix_list (pv 9) pe_int (fun _ _ => rfl)) (pv 10)) (pg_sub (pv 9) pe_int set_list))
    (pss_cons (ps_asg (pe_op op_sub (pe_ix ix_list (pv 9) pe_int (fun _ _ => rfl)) (pv 10)) (pg_sub (pv 9) pe_int set_list))
    (pss_one (ps_if (pt_cmpR op_eq (pe_ix ix_list (pv 9) pe_int (fun _ _ => rfl)) pe_int (nomark _))
    (pss_cons (ps_expr (pe_bm PySem.F.plainAttrs_list PySem.F.slot_list_remove PySem.F.type_list_remove (mt_remD hr.units) (pv 0) (pa_cons (pv 9) pa_nil)))
    (pss_one (ps_if (pt_cmpR op_gt (pe_ix ix_list (pv 9) pe_int (fun _ _ => rfl)) pe_int (nomark _))
    (pss_cons (ps_asg (pe_f c_law_visible (hr.mono (by decide)) (by rfl) (pa_cons (pe_ix ix_list (pv 9) pe_int (fun _ _ => rfl)) (pa_cons (pe_ix ix_list (pv 9) pe_int (fun _ _ => rfl)) pa_nil))) (pg_sub (pv 9) pe_int set_list))
    (pss_one (ps_expr (pe_bm PySem.F.plainAttrs_list PySem.F.slot_list_append PySem.F.type_list_append mt_append (pv 0) (pa_cons (pv 9) pa_nil)))))
    pss_nil)))
    pss_nil))))))))))))
    (pss_one (ps_ret (pe_tup (pa_cons (pv 5) (pa_cons (pv 6) (pa_cons (pv 7) pa_nil)))))))))), ?_⟩
    refine ⟨Nat.zero_le _, fun f hf => ⟨Nat.zero_le _, fun m hm => ⟨_, rfl, ?_⟩⟩⟩
    have s1 : Same H (upd H f (.lst [])) := Same.upd hf
    have s2 : Same H (upd (upd H f (.lst [])) m (.lst [])) := s1.trans (Same.upd hm)
    have hm0 : H m = Option.none := s1.free hm
    have nfm : f ≠ m := ne_of_none upd_same hm
    have nLf : L ≠ f := ne_of_none X.lst hf
    have nLm : L ≠ m := ne_of_none X.lst hm0
    have nbf : ∀ o ∈ os, β o.num ≠ f := fun o ho => ne_of_none (X.row o ho) hf
    have nbm : ∀ o ∈ os, β o.num ≠ m := fun o ho => ne_of_none (X.row o ho) hm0
    have fin : ∀ (t : MS) (H' : Hp) (σ : L2.St) (D : Ends), D.rt = Q → σ[5]? = some (some (.ref f)) → σ[6]? = some (some (.ref m)) → σ[7]? = some (some (.int t.left)) → TSt H H' L f m β os t → runL h c lim q os = t →
        tRet (tTup (tCons (tVar 5) (tCons (tVar 6) (tCons (tVar 7) tNil)))) D σ H' := by
      intro t H' σ D hD h5 h6 h7 M e
      refine ⟨_, h5, _, h6, _, h7, (by show 3 ≤ sizeLine; decide), fun p hp => ?_⟩
      have sp : Same H' (upd H' p (.tup [.ref f, .ref m, .int t.left])) := Same.upd hp
      rw [hD]
      subst e
      exact k _ p f m upd_same (TupsAt.same M.fills sp) (sp _ _ M.rem) (M.law.same sp) (fun y u e h1 h2 => sp _ _ (M.fr y u e h1 h2)) hf hm0
    refine ⟨2000, rfl, by decide, by decide, for_range (lo := 0) (n := 2000) (fun i σ' H' => ∃ (t : MS) (v8 v9 v10 : Option V), σ' = [some (.ref L), some (.str h), some (.str (sd c)), some (limV lim), some (.int q), some (.ref f), some (.ref m), some (.int t.left), v8, v9, v10] ∧
        TSt H H' L f m β os t ∧ tloop h c lim (2000 - i) t = runL h c lim q os ∧ t.fills.length ≤ i ∧ t.rem.length ≤ i)
      ⟨⟨q, os, [], []⟩, none, none, none, rfl, ⟨X.same s2, ⟨[], (upd_ne nfm).trans upd_same, .nil⟩, upd_same, Fits.refl G, hq0, fun y u e _ _ => s2 _ _ e⟩, rfl, Nat.zero_le _, Nat.zero_le _⟩ ?_ ?_⟩
    · rintro i σ' H' hi ⟨t, v8, v9, v10, rfl, M, hrun, hfl, hrl⟩
      obtain ⟨left, rs, fills, rem⟩ := t
      dsimp only at hfl hrl
      obtain ⟨ac, hacc, tu⟩ : FillsAt H' f fills := M.fills
      have hrem : H' m = some (.lst (rem.map V.int)) := M.rem
      have law : LawAt H' L β rs := M.law
      have good : Good rs := M.fits.good
      have hsub : ∀ o ∈ rs, ∃ y ∈ os, y.num = o.num := M.fits.sub
      have hnn : 0 ≤ left := M.nn
      have run : ∀ {t' : MS}, tstep h c lim ⟨left, rs, fills, rem⟩ = some t' → tloop h c lim (2000 - (i + 1)) t' = runL h c lim q os := fun {t'} e => by
        have e2 : 2000 - i = (2000 - (i + 1)) + 1 := by omega
        rw [e2, tloop_some e] at hrun
        exact hrun
      refine ⟨_, rfl, _, rfl, c, rfl, _, rfl, L, β, rs, !c, lim, rfl, law, ?_⟩
      dsimp only [tSeq, tAsg, gName, tIfS]
      refine or_pure (b1 := decide (left = 0)) (b2 := (firstL rs (!c) lim).isNone) (fun Q' k' => ⟨_, rfl, rfl, _, rfl, by rw [dec_int, Bool.beq_eq_decide_eq]; exact k'⟩) (fun Q' k' => ⟨_, rfl, rfl, _, rfl, by rw [firstV_none]; exact k'⟩) ?_
      refine iteB (fun e => ?_) fun e => ?_
      · have hst : tstep h c lim ⟨left, rs, fills, rem⟩ = none := by
          unfold tstep
          by_cases h0 : left = 0
          · exact if_pos h0
          · rw [if_neg h0]
            cases hq : firstL rs (!c) lim with
            | none => rfl
            | some qq =>
              rw [hq, decide_eq_false h0] at e
              cases e
        refine fin ⟨left, rs, fills, rem⟩ H' _ _ rfl rfl rfl rfl M ?_
        rw [← hrun, tloop_none hst]
      · have h0 : ¬ left = 0 := fun z => by rw [decide_eq_true z] at e; cases e
        obtain ⟨qo, hqo⟩ : ∃ qo, firstL rs (!c) lim = some qo := by
          cases hq : firstL rs (!c) lim with
          | none => rw [hq] at e; simp at e
          | some qq => exact ⟨qq, rfl⟩
        rw [hqo]
        have hqm : qo ∈ rs := firstL_mem hqo
        have hrow := law.row qo hqm
        obtain ⟨yo, hyo, eyo⟩ := hsub qo hqm
        have nqf : β qo.num ≠ f := by rw [← eyo]; exact nbf yo hyo
        have nqm : β qo.num ≠ m := by rw [← eyo]; exact nbm yo hyo
        have nrf : ∀ o ∈ rs, β o.num ≠ f := fun o ho => by obtain ⟨y, hy, e⟩ := hsub o ho; rw [← e]; exact nbf y hy
        have nrm : ∀ o ∈ rs, β o.num ≠ m := fun o ho => by obtain ⟨y, hy, e⟩ := hsub o ho; rw [← e]; exact nbm y hy
        have nqL : β qo.num ≠ L := law.out qo hqm
        have out : ∀ y, (∀ q ∈ os, y ≠ β q.num) → y ≠ β qo.num := fun y hy => by rw [← eyo]; exact hy yo hyo
        refine ⟨_, rfl, β qo.num, _, _, _, rfl, rfl, SqL.of hrow, at_of (j := 1) rfl rfl, _, rfl, rfl, _, rfl, ?_⟩
        refine iteD (fun e => ?_) fun e => ?_
        · have hh : qo.house = h := by injection e
          have hst : tstep h c lim ⟨left, rs, fills, rem⟩ = some ⟨left, delO qo.num rs, fills, rem ++ [qo.num]⟩ := by
            unfold tstep
            rw [if_neg h0]
            dsimp only
            rw [hqo]
            exact if_pos hh
          refine ⟨_, rfl, .inl ⟨rfl, _, SqL.of hrem⟩, _, rfl, β qo.num, _, _, _, rfl, rfl, SqL.of hrow, at_of (j := 0) rfl rfl, m, _, _, rfl, rfl, hrem, ?_, ?_⟩
          · rw [List.length_map]
            exact Nat.lt_of_le_of_lt (Nat.le_trans hrl (Nat.le_of_lt hi)) (by decide)
          have law1 : LawAt (upd H' m (.lst (rem.map V.int ++ [V.int qo.num]))) L β rs := law.aside nLm nrm
          obtain ⟨j, j1, j2⟩ := place_row (β := β) good.nums hqm
          refine ⟨_, rfl, .inl ⟨rfl, _, SqL.of law1.lst⟩, _, rfl, L, _, rowD qo, _, _, j, rfl, rfl, law1.lst, rowsD_at law1.row, rowD_at (law1.row qo hqm), rowsD_plain rs, rowD_plain qo, Nat.le_trans (rowsD_depth rs) (by decide), j1, ?_⟩
          rw [j2]
          refine ⟨⟨left, delO qo.num rs, fills, rem ++ [qo.num]⟩, _, _, _, rfl, ⟨law1.del qo.num, ⟨ac, ?_, ?_⟩, ?_, M.fits.trans (fits_del good _), hnn, fun y u e h1 h2 => ?_⟩, run hst, Nat.le_succ_of_le hfl, ?_⟩
          · rw [upd_ne nLf.symm, upd_ne nfm]
            exact hacc
          · exact tu.keep fun y xs e => by
              rw [upd_ne (ne_of e law.lst (by intro z; cases z)), upd_ne (ne_of e hrem (by intro z; cases z))]
              exact e
          · show upd _ _ _ m = _
            rw [upd_ne nLm.symm, upd_same, List.map_append]
            rfl
          · rw [upd_ne h1, upd_ne (ne_of_none e hm0)]
            exact M.fr y u e h1 h2
          · rw [List.length_append]
            simp only [List.length_singleton]
            omega
        · have hh : ¬ qo.house = h := fun z => e (by rw [z])
          have hst : tstep h c lim ⟨left, rs, fills, rem⟩ = some ⟨left - mn left qo.vis, tsettle (qo.take (mn left qo.vis)) rs, fills ++ [⟨qo.num, qo.house, qo.price, mn left qo.vis⟩], rem⟩ := by
            unfold tstep
            rw [if_neg h0]
            dsimp only
            rw [hqo]
            exact if_neg hh
          have hW := good.wf qo hqm
          have t1 := mn_le_left left qo.vis
          have t2 := mn_le_right left qo.vis
          have hN : Next c ⟨left, rs, fills, rem⟩ ⟨left - mn left qo.vis, tsettle (qo.take (mn left qo.vis)) rs, fills ++ [⟨qo.num, qo.house, qo.price, mn left qo.vis⟩], rem⟩ := by
            rcases step_sim h c lim ⟨left, rs, fills, rem⟩ good hnn with ⟨e1, _⟩ | ⟨s', e1, _, N⟩
            · rw [hst] at e1
              cases e1
            · rw [hst] at e1
              cases e1
              exact N
          refine ⟨_, rfl, _, rfl, β qo.num, _, _, _, rfl, rfl, SqL.of hrow, at_of (j := 5) rfl rfl, _, _, rfl, ?_⟩
          rw [show (if qo.vis < left then qo.vis else left) = mn left qo.vis from rfl]
          have hal : ac.length ≤ 2000 := by
            rw [tu.length, List.length_map]
            omega
          refine ⟨_, rfl, .inl ⟨rfl, _, SqL.of hacc⟩, _, rfl, β qo.num, _, _, _, rfl, rfl, SqL.of hrow, at_of (j := 0) rfl rfl, _, rfl, β qo.num, _, _, _, rfl, rfl, SqL.of hrow, at_of (j := 1) rfl rfl, _, rfl, β qo.num, _, _, _, rfl, rfl, SqL.of hrow, at_of (j := 3) rfl rfl, _, rfl, (by show 4 ≤ sizeLine; decide), fun p hp => ?_⟩
          have np : ∀ y u, H' y = some u → y ≠ p := fun y u e => ne_of_none e hp
          have hacc1 : upd H' p (.tup [.int qo.num, .str qo.house, .int qo.price, .int (mn left qo.vis)]) f = some (.lst ac) := (upd_ne (np _ _ hacc)).trans hacc
          refine ⟨f, _, _, rfl, rfl, hacc1, Nat.lt_of_le_of_lt hal (by decide), ?_⟩
          generalize hH2 : upd (upd H' p (.tup [.int qo.num, .str qo.house, .int qo.price, .int (mn left qo.vis)])) f (.lst (ac ++ [.ref p])) = H2
          have law2 : LawAt H2 L β rs := by
            rw [← hH2]
            exact (law.aside (np _ _ law.lst) fun o ho => np _ _ (law.row o ho)).aside nLf nrf
          have kp2 : ∀ y u, H' y = some u → y ≠ f → H2 y = some u := fun y u e h1 => by
            rw [← hH2, upd_ne h1, upd_ne (np _ _ e)]
            exact e
          have e2f : H2 f = some (.lst (ac ++ [.ref p])) := by rw [← hH2, upd_same]
          have e2p : H2 p = some (.tup [.int qo.num, .str qo.house, .int qo.price, .int (mn left qo.vis)]) := by
            rw [← hH2, upd_ne (np _ _ hacc).symm, upd_same]
          have hrow2 := law2.row qo hqm
          refine ⟨_, rfl, _, rfl, _, _, rfl, rfl, ?_⟩
          refine ⟨_, rfl, β qo.num, _, _, _, rfl, rfl, SqL.of hrow2, at_of (j := 4) rfl rfl, _, rfl, _, _, rfl, rfl, _, rfl, β qo.num, _, _, 4, rfl, rfl, hrow2, (by rfl), ?_⟩
          refine ⟨_, rfl, β qo.num, _, _, _, rfl, rfl, SqL.of upd_same, at_of (j := 5) rfl rfl, _, rfl, _, _, rfl, rfl, _, rfl, β qo.num, _, _, 5, rfl, rfl, upd_same, (by rfl), ?_⟩
          rw [upd_upd]
          have law4 : LawAt (upd H2 (β qo.num) (.lst (rowV (qo.take (mn left qo.vis))))) L β (setO qo.num (qo.left - mn left qo.vis) (qo.vis - mn left qo.vis) rs) := law2.set good.nums hqm _ _
          have hset : ((rowV qo).set 4 (.int (qo.left - mn left qo.vis))).set 5 (.int (qo.vis - mn left qo.vis)) = rowV (qo.take (mn left qo.vis)) := rfl
          rw [hset]
          generalize hH4 : upd H2 (β qo.num) (.lst (rowV (qo.take (mn left qo.vis)))) = H4 at law4 ⊢
          have kp4 : ∀ y u, H' y = some u → y ≠ f → y ≠ β qo.num → H4 y = some u := fun y u e h1 h2 => by
            rw [← hH4, upd_ne h2]
            exact kp2 y u e h1
          have e4f : H4 f = some (.lst (ac ++ [.ref p])) := by rw [← hH4, upd_ne nqf.symm]; exact e2f
          have e4p : H4 p = some (.tup [.int qo.num, .str qo.house, .int qo.price, .int (mn left qo.vis)]) := by rw [← hH4, upd_ne (np _ _ hrow).symm]; exact e2p
          have e4q : H4 (β qo.num) = some (.lst (rowV (qo.take (mn left qo.vis)))) := by rw [← hH4, upd_same]
          -- what the ends have in common
          have ende : ∀ H5 : Hp, LawAt H5 L β (tsettle (qo.take (mn left qo.vis)) rs) → (∀ y u, H4 y = some u → y ≠ L → y ≠ β qo.num → H5 y = some u) →
              ∃ (t : MS) (v8' v9' v10' : Option V), [some (.ref L), some (.str h), some (.str (sd c)), some (limV lim), some (.int q), some (.ref f), some (.ref m), some (.int (left - mn left qo.vis)), some (.int (0 + (i : Int))), some (.ref (β qo.num)), some (.int (mn left qo.vis))] =
                [some (.ref L), some (.str h), some (.str (sd c)), some (limV lim), some (.int q), some (.ref f), some (.ref m), some (.int t.left), v8', v9', v10'] ∧ TSt H H5 L f m β os t ∧ tloop h c lim (2000 - (i + 1)) t = runL h c lim q os ∧ t.fills.length ≤ i + 1 ∧ t.rem.length ≤ i + 1 := by
            intro H5 law5 k5
            have kp5 : ∀ y u, H' y = some u → y ≠ f → y ≠ β qo.num → y ≠ L → H5 y = some u := fun y u e h1 h2 h3 => k5 y u (kp4 y u e h1 h2) h3 h2
            refine ⟨⟨left - mn left qo.vis, tsettle (qo.take (mn left qo.vis)) rs, fills ++ [⟨qo.num, qo.house, qo.price, mn left qo.vis⟩], rem⟩, _, _, _, rfl, ⟨law5, ⟨ac ++ [.ref p], k5 _ _ e4f nLf.symm nqf.symm, ?_⟩, ?_, M.fits.trans hN.fits, by show 0 ≤ left - _; omega, fun y u e h1 h2 => ?_⟩, run hst, ?_, Nat.le_succ_of_le hrl⟩
            · rw [List.map_append]
              refine Tups.snoc (k5 _ _ e4p (np _ _ law.lst).symm (np _ _ hrow).symm) (tu.keep fun y xs e => ?_)
              exact kp5 y _ e (ne_of e hacc (by intro z; cases z)) (ne_of e hrow (by intro z; cases z)) (ne_of e law.lst (by intro z; cases z))
            · exact kp5 m _ hrem nfm.symm nqm.symm nLm.symm
            · exact kp5 y u (M.fr y u e h1 h2) (ne_of_none e hf) (out y h2) h1
            · rw [List.length_append]
              simp only [List.length_singleton]
              omega
          refine ⟨_, rfl, β qo.num, _, _, _, rfl, rfl, SqL.of e4q, at_of (j := 5) rfl rfl, rfl, _, rfl, ?_⟩
          refine iteD (fun e => ?_) fun e => ?_
          · have hv : qo.vis - mn left qo.vis = 0 := by injection e
            have hq4 : qo.take (mn left qo.vis) ∈ setO qo.num (qo.left - mn left qo.vis) (qo.vis - mn left qo.vis) rs := mem_set hqm rfl
            obtain ⟨j, j1, j2⟩ := place_row (β := β) (nums_set (n := qo.num) (l := qo.left - mn left qo.vis) (v := qo.vis - mn left qo.vis) good.nums) hq4
            refine ⟨_, rfl, .inl ⟨rfl, _, SqL.of law4.lst⟩, _, rfl, L, _, rowD (qo.take (mn left qo.vis)), _, _, j, rfl, rfl, law4.lst, rowsD_at law4.row, rowD_at e4q, rowsD_plain _, rowD_plain _, Nat.le_trans (rowsD_depth _) (by decide), j1, ?_⟩
            rw [j2]
            have law5 := law4.del qo.num
            have ed : delO (qo.take (mn left qo.vis)).num (setO qo.num (qo.left - mn left qo.vis) (qo.vis - mn left qo.vis) rs) = delO qo.num rs := del_set rs
            rw [del_set] at law5
            rw [ed]
            generalize hH5 : upd H4 L (.lst (refs β (delO qo.num rs))) = H5 at law5 ⊢
            have k5 : ∀ y u, H4 y = some u → y ≠ L → H5 y = some u := fun y u e h1 => by
              rw [← hH5, upd_ne h1]
              exact e
            have e5q := k5 _ _ e4q nqL
            refine ⟨_, rfl, β qo.num, _, _, _, rfl, rfl, SqL.of e5q, at_of (j := 4) rfl rfl, _, _, rfl, rfl, _, rfl, ?_⟩
            refine iteD (fun hz => ?_) fun hz => ?_
            · refine ⟨_, rfl, β qo.num, _, _, _, rfl, rfl, SqL.of e5q, at_of (j := 4) rfl rfl, _, rfl, β qo.num, _, _, _, rfl, rfl, SqL.of e5q, at_of (j := 6) rfl rfl, _, _, rfl, hW.sh, ?_⟩
              refine ⟨_, rfl, β qo.num, _, _, 5, rfl, rfl, e5q, (by rfl), ?_⟩
              have hset2 : (rowV (qo.take (mn left qo.vis))).set 5 (.int (nextVis (qo.take (mn left qo.vis)).left (qo.take (mn left qo.vis)).shown)) = rowV (refill (qo.take (mn left qo.vis))) := rfl
              rw [hset2]
              have law6 : LawAt (upd H5 (β qo.num) (.lst (rowV (refill (qo.take (mn left qo.vis)))))) L β (delO qo.num rs) := law5.aside nqL.symm fun o ho => law.beta_ne (mem_del.mp ho).1 hqm (mem_del.mp ho).2
              refine ⟨_, rfl, .inl ⟨rfl, _, SqL.of law6.lst⟩, _, rfl, L, _, _, rfl, rfl, law6.lst, ?_, ?_⟩
              · rw [refs_len]
                refine Nat.lt_of_le_of_lt (Nat.le_trans (List.length_filter_le _ _) ?_) line1000
                have := M.fits.len
                dsimp only at this
                omega
              · refine ende _ ?_ fun y u e h1 h2 => ?_
                · have hts : tsettle (qo.take (mn left qo.vis)) rs = delO qo.num rs ++ [refill (qo.take (mn left qo.vis))] := (if_pos hv).trans (if_pos hz)
                  rw [hts]
                  exact law6.app (o := refill (qo.take (mn left qo.vis))) upd_same nqL
                · show upd _ L _ y = _
                  rw [upd_ne h1, upd_ne h2]
                  exact k5 y u e h1
            · refine ende H5 ?_ fun y u e h1 _ => k5 y u e h1
              have hts : tsettle (qo.take (mn left qo.vis)) rs = delO qo.num rs := (if_pos hv).trans (if_neg hz)
              rw [hts]
              exact law5
          · have hv : ¬ qo.vis - mn left qo.vis = 0 := fun z => e (by show V.int (qo.vis - mn left qo.vis) = _; rw [z])
            refine ende H4 ?_ fun y u e _ _ => e
            have hts : tsettle (qo.take (mn left qo.vis)) rs = setO qo.num (qo.left - mn left qo.vis) (qo.vis - mn left qo.vis) rs := if_neg hv
            rw [hts]
            exact law4
    · rintro σ' H' ⟨t, v8, v9, v10, rfl, M, hrun, _, _⟩
      exact fin t H' _ _ rfl rfl rfl rfl M hrun.symm
end
end Fb

namespace Fb
open PySem PySem.Spec PyProof.Rows L2
section
variable {P : Program} {w : World} {K : PySem.W.Frag} {mg : Str → Option Value} {base : Heap} {CO CR CB : Addr}
def ApartL (L : Addr) (β : Int → Addr) (os : List Ord) (H : Hp) (a : Addr) : Prop := ∀ y u, H y = some u → y ≠ L → (∀ q ∈ os, y ≠ β q.num) → y ≠ a
def spEnterL : Sp := fun vs H Q _ => ∃ (L : Addr) (β : Int → Addr) (os : List Ord) (n : Int) (h : Str) (c : Bool) (lim : Option Int) (q s : Int) (kd : Kd), vs = [.ref L, .int n, .str h, .str (sd c), limV lim, .int q, .str (kS kd), .int s] ∧ LawAt H L β os ∧ Good os ∧ 1 ≤ q ∧ 0 ≤ s ∧
  (∀ o ∈ os, o.num ≠ n) ∧ os.length ≤ 900 ∧ (kd = .rest → ∃ p, lim = some p) ∧
  ∀ (H' : Hp) (β' : Int → Addr) (t f m : Addr), H' t = some (.tup [.ref f, .ref m, .int (enterL n h c lim q kd s os).2.resting]) → FillsAt H' f (enterL n h c lim q kd s os).2.fills → RemAt H' m (enterL n h c lim q kd s os).2.rem → LawAt H' L β' (enterL n h c lim q kd s os).1 →
    KpL L β os H H' → (∀ o ∈ (enterL n h c lim q kd s os).1, ApartL L β os H (β' o.num)) → Q (.ref t) H'
theorem ok_enterL {fn : Addr} {fd : FuncData} (F : Fun K "_law_enter" "_law_enter" s_law_enter fn fd) (T : Txt K mg CO CR CB) (c_law_available : CallF P w K mg base 2 "_law_available" ["_law_orders", "_law_house_here", "_law_side", "_law_limit"] spAvailL)
    (c_law_trade : CallF P w K mg base 3 "_law_trade" ["_law_orders", "_law_house_here", "_law_side", "_law_limit", "_law_quantity"] spTrade) (c_law_visible : CallF P w K mg base 1 "_law_visible" ["_law_left", "_law_shown"] spVisible) :
    FnOk P w K mg base CX0 4 fn fd ["_law_orders", "_law_number", "_law_house_here", "_law_side", "_law_limit", "_law_quantity", "_law_kind", "_law_shown"] spEnterL := by
  refine F.ok sc_law_enter (fun vs H Q E h => ?_) (fun cdv A outer s H vs Q E hr h => ?_)
  · obtain ⟨L, β, os, n, h, c, lim, q, s, kd, rfl, _⟩ := h
    rfl
  · obtain ⟨L, β, os, n, h, c, lim, q, s, kd, rfl, X, G, hq1, hs0, hn, hlen, hkd, k⟩ := h
    refine ⟨_, (pss_cons (ps_if (pw_and (pt_cmpR op_eq (pv 6) pe_str (nomark _)) (pw_and1 (pt_cmpR op_lt (pe_f c_law_available (hr.mono (by decide)) (by rfl) (pa_cons (pv 0) (pa_cons (pv 2) (pa_cons (pv 3) (pa_cons (pv 4) pa_nil))))) (pv 5) (nomark _)))).pt
    (pss_one (ps_ret (pe_tup (pa_cons (pe_lst pa_nil) (pa_cons (pe_lst pa_nil) (pa_cons pe_int pa_nil))))))
    pss_nil)
    (pss_cons (ps_asg (pe_f c_law_trade (hr.mono (by decide)) (by rfl) (pa_cons (pv 0) (pa_cons (pv 2) (pa_cons (pv 3) (pa_cons (pv 4) (pa_cons (pv 5) pa_nil)))))) (pg_tup rfl (pgs_cons (pg_name (i := 8) sc_law_enter.nd rfl (Or.inl rfl)) (pgs_cons (pg_name (i := 9) sc_law_enter.nd rfl (Or.inl rfl)) (pgs_cons (pg_name (i := 10) sc_law_enter.nd rfl (Or.inl rfl)) pgs_nil)))))
    (pss_cons (ps_if (pw_and (pt_cmpR op_eq (pv 6) pe_str (nomark _)) (pw_and1 (pt_cmpR op_gt (pv 10) pe_int (nomark _)))).pt
    (pss_cons (ps_expr (pe_bm PySem.F.plainAttrs_list PySem.F.slot_list_append PySem.F.type_list_append mt_append (pv 0) (pa_cons (pe_lst (pa_cons (pv 1) (pa_cons (pv 2) (pa_cons (pv 3) (pa_cons (pv 4) (pa_cons (pv 10) (pa_cons (pe_f c_law_visible (hr.mono (by decide)) (by rfl) (pa_cons (pv 10) (pa_cons (pv 7) pa_nil))) (pa_cons (pv 7) pa_nil)))))))) pa_nil)))
    (pss_one (ps_ret (pe_tup (pa_cons (pv 8) (pa_cons (pv 9) (pa_cons (pv 10) pa_nil)))))))
    pss_nil)
    (pss_one (ps_ret (pe_tup (pa_cons (pv 8) (pa_cons (pv 9) (pa_cons pe_int pa_nil))))))))), ?_⟩
    refine and_pure (b1 := decide (kd = .all)) (b2 := decide (availL h c lim os < q)) (fun Q' k' => ⟨_, rfl, rfl, _, rfl, by rw [kS_all]; exact k'⟩)
      (fun Q' k' => ⟨_, rfl, _, rfl, _, rfl, _, rfl, L, β, os, h, c, lim, rfl, X, _, rfl, _, _, rfl, rfl, _, rfl, k'⟩) ?_
    refine iteB (fun e => ?_) fun e => ?_
    · rw [Bool.and_eq_true] at e
      have hc : kd = .all ∧ availL h c lim os < q := ⟨of_decide_eq_true e.1, of_decide_eq_true e.2⟩
      have he : enterL n h c lim q kd s os = (os, ⟨[], [], 0⟩) := if_pos hc
      rw [he] at k
      refine ⟨Nat.zero_le _, fun f hf => ⟨Nat.zero_le _, fun m hm => ⟨(by show 3 ≤ sizeLine; decide), fun t ht => ?_⟩⟩⟩
      have s1 : Same H (upd H f (.lst [])) := Same.upd hf
      have s2 : Same (upd H f (.lst [])) (upd (upd H f (.lst [])) m (.lst [])) := Same.upd hm
      have s3 : Same (upd (upd H f (.lst [])) m (.lst [])) (upd (upd (upd H f (.lst [])) m (.lst [])) t (.tup [.ref f, .ref m, .int 0])) := Same.upd ht
      have s4 := (s1.trans s2).trans s3
      exact k _ β t f m upd_same ⟨[], s3 _ _ (s2 _ _ upd_same), .nil⟩ (s3 _ _ upd_same) (X.same s4) (fun y u e _ _ => s4 _ _ e) fun o ho y u e h1 h2 => h2 o ho
    · have hc : ¬ (kd = .all ∧ availL h c lim os < q) := fun z => by
        rw [decide_eq_true z.1, decide_eq_true z.2] at e
        cases e
      obtain ⟨_, N⟩ := runL_ok h c lim q G hq1
      have ns : ∀ o ∈ (runL h c lim q os).rs, o.num ≠ n := fun o ho e => by
        obtain ⟨y, hy, e2⟩ := N.fits.sub o ho
        exact hn y hy (e2.trans e)
      have ap : ∀ o ∈ (runL h c lim q os).rs, ApartL L β os H (β o.num) := fun o ho y u e h1 h2 => by
        obtain ⟨z, hz, e2⟩ := N.fits.sub o ho
        have := h2 z hz
        rw [e2] at this
        exact this
      refine ⟨_, rfl, _, rfl, _, rfl, _, rfl, _, rfl, L, β, os, h, c, lim, q, rfl, X, G, by omega, hlen, fun H1 t f m e1 e2 e3 law1 kp1 hf hm => ?_⟩
      refine ⟨t, _, rfl, SqT.of e1, rfl, _, _, rfl, _, _, rfl, _, _, rfl, rfl, ?_⟩
      dsimp only [tSeq, tAsg, gName, tIfS]
      refine and_pure (b1 := decide (kd = .rest)) (b2 := decide (0 < (runL h c lim q os).left)) (fun Q' k' => ⟨_, rfl, rfl, _, rfl, by rw [kS_rest]; exact k'⟩)
        (fun Q' k' => ⟨_, rfl, _, _, rfl, rfl, _, rfl, k'⟩) ?_
      refine iteB (fun e => ?_) fun e => ?_
      · rw [Bool.and_eq_true] at e
        have h1 : kd = .rest := of_decide_eq_true e.1
        have h2 : 0 < (runL h c lim q os).left := of_decide_eq_true e.2
        obtain ⟨p, rfl⟩ := hkd h1
        have he : enterL n h c (some p) q kd s os = _ := (if_neg hc).trans (if_pos ⟨h1, h2⟩)
        rw [he] at k
        refine ⟨_, rfl, .inl ⟨rfl, _, SqL.of law1.lst⟩, _, rfl, _, rfl, _, rfl, _, rfl, _, rfl, _, rfl, _, rfl, _, _, rfl, hs0, _, rfl, (by show 7 ≤ sizeLine; decide), fun a ha => ?_⟩
        have sa : Same H1 (upd H1 a (.lst (rowV (inOrd n h c (some p) (runL h c (some p) q os).left s)))) := Same.upd ha
        have hL2 := sa _ _ law1.lst
        refine ⟨L, _, _, rfl, rfl, hL2, ?_, ?_⟩
        · rw [refs_len]
          refine Nat.lt_of_le_of_lt (Nat.le_trans N.fits.len ?_) line1000
          dsimp only
          omega
        generalize hβ : (fun i => if i = n then a else β i) = β'
        have b1 : β' n = a := by rw [← hβ]; exact if_pos rfl
        have b2 : ∀ o ∈ (runL h c (some p) q os).rs, β' o.num = β o.num := fun o ho => by rw [← hβ]; exact if_neg (ns o ho)
        have law2 : LawAt (upd H1 a (.lst (rowV (inOrd n h c (some p) (runL h c (some p) q os).left s)))) L β' (runL h c (some p) q os).rs :=
          ⟨by rw [refs_congr b2]; exact hL2, fun o ho => by rw [b2 o ho]; exact sa _ _ (law1.row o ho), fun o ho => by rw [b2 o ho]; exact law1.out o ho⟩
        have naL : a ≠ L := (ne_of_none law1.lst ha).symm
        have law3 := law2.app (o := inOrd n h c (some p) (runL h c (some p) q os).left s) (by show upd H1 a _ (β' n) = _; rw [b1]; exact upd_same) (by show β' n ≠ L; rw [b1]; exact naL)
        have law3 : LawAt (upd (upd H1 a (.lst (rowV (inOrd n h c (some p) (runL h c (some p) q os).left s)))) L (.lst (refs β' (runL h c (some p) q os).rs ++ [V.ref (β' n)]))) L β' _ := law3
        rw [b1, refs_congr b2] at law3
        have k3 : ∀ y u, H1 y = some u → y ≠ L → upd (upd H1 a (.lst (rowV (inOrd n h c (some p) (runL h c (some p) q os).left s)))) L (.lst (refs β (runL h c (some p) q os).rs ++ [V.ref a])) y = some u := fun y u e h1 => by
          rw [upd_ne h1]
          exact sa _ _ e
        have nfL : f ≠ L := (ne_of_none X.lst hf).symm
        have nmL : m ≠ L := (ne_of_none X.lst hm).symm
        refine ⟨_, rfl, _, rfl, _, rfl, (by show 3 ≤ sizeLine; decide), fun t2 ht2 => ?_⟩
        obtain ⟨ac, hacc, tu⟩ := e2
        have s5 : ∀ o, Same (upd (upd H1 a (.lst (rowV (inOrd n h c (some p) (runL h c (some p) q os).left s)))) L (.lst (refs β (runL h c (some p) q os).rs ++ [V.ref a]))) (upd (upd (upd H1 a (.lst (rowV (inOrd n h c (some p) (runL h c (some p) q os).left s)))) L (.lst (refs β (runL h c (some p) q os).rs ++ [V.ref a]))) t2 o) := fun o => Same.upd ht2
        refine k _ β' t2 f m upd_same ⟨ac, s5 _ _ _ (k3 _ _ hacc nfL), tu.keep fun y xs e => s5 _ _ _ (k3 _ _ e (ne_of e law1.lst (by intro z; cases z)))⟩ (s5 _ _ _ (k3 _ _ e3 nmL)) (law3.same (s5 _)) (fun y u e h1 h2 => s5 _ _ _ (k3 _ _ (kp1 y u e h1 h2) h1)) fun o ho => ?_
        rcases List.mem_append.mp ho with ho | ho
        · rw [b2 o ho]
          exact ap o ho
        · have eo : o = inOrd n h c (some p) (runL h c (some p) q os).left s := by simpa using ho
          rw [eo]
          show ApartL L β os H (β' n)
          rw [b1]
          exact fun y u e h1 h2 => ne_of_none (kp1 y u e h1 h2) ha
      · have h12 : ¬ (kd = .rest ∧ 0 < (runL h c lim q os).left) := fun z => by
          rw [decide_eq_true z.1, decide_eq_true z.2] at e
          cases e
        have he : enterL n h c lim q kd s os = _ := (if_neg hc).trans (if_neg h12)
        rw [he] at k
        refine ⟨_, rfl, _, rfl, (by show 3 ≤ sizeLine; decide), fun t2 ht2 => ?_⟩
        have s5 : Same H1 (upd H1 t2 (.tup [.ref f, .ref m, .int 0])) := Same.upd ht2
        exact k _ β t2 f m upd_same (TupsAt.same e2 s5) (s5 _ _ e3) (law1.same s5) (fun y u e h1 h2 => s5 _ _ (kp1 y u e h1 h2)) ap
/-! ### listing -/
def spListed : Sp := fun vs H Q _ => ∃ (L : Addr) (β : Int → Addr) (os : List Ord) (x : Bool), vs = [.ref L, .str (sd x)] ∧ LawAt H L β os ∧ Nums os ∧ os.length ≤ 900 ∧ ∀ (H' : Hp) (p : Addr), Same H H' → H p = none → EntsAt H' p (sortB x os) → Q (.ref p) H'
theorem ok_listed {fn : Addr} {fd : FuncData} (F : Fun K "_law_listed" "_law_listed" s_law_listed fn fd) (T : Txt K mg CO CR CB) (c_law_first : CallF P w K mg base 2 "_law_first" ["_law_orders", "_law_side", "_law_limit"] spFirstL) : FnOk P w K mg base CX0 3 fn fd ["_law_orders", "_law_side"] spListed := by
  refine F.ok sc_law_listed (fun vs H Q E h => ?_) (fun cdv A outer s H vs Q E hr h => ?_)
  · obtain ⟨L, β, os, x, rfl, _⟩ := h
    rfl
  · obtain ⟨L, β, os, x, rfl, X, hnum, hlen, k⟩ := h
    refine ⟨_, (pss_cons (ps_setLc (i := 2) (own := [("_law_order", 6)]) (g := gName 6) (tt := tTest (tOp rEq (tOp (rIxL K) (tVar 6) (tC (.int 2))) (tVar 1))) (by rfl) sc_law_listed.nd rfl rfl (sw_true rfl rfl rfl (by decide +kernel)) (pi_list (pv 0)) (blkOk_by (own := [("_law_order", 6)]) (N := n_law_listed) (sc := defScope s_law_listed) (by decide +kernel)) (fun _ _ _ _ _ => pg_name (i := 6) sc_law_listed.nd rfl (Or.inl rfl)) (fun _ _ _ _ _ => (pts_one (pt_cmpR op_eq (pe_ix ix_list (pv 6) pe_int (fun _ _ => rfl)) (pv 1) (nomark _)))) (fun _ _ _ _ _ => (pv 6)))
    (pss_cons (ps_set (i := 3) sc_law_listed.nd rfl (Or.inl rfl) (pe_lst pa_nil))
    (pss_cons (ps_for PassesOwn.never rfl (pi_range1 (by rfl) T.zRange (pa_cons (pe_callB call_len_seq (by rfl) T.zLen boot_len (pa_cons (pv 2) pa_nil)) pa_nil)) (pg_name (i := 4) sc_law_listed.nd rfl (Or.inl rfl))
    (pss_cons (ps_set (i := 5) sc_law_listed.nd rfl (Or.inl rfl) (pe_f c_law_first (hr.mono (by decide)) (by rfl) (pa_cons (pv 2) (pa_cons (pv 1) (pa_cons pe_non pa_nil)))))
    (pss_cons (ps_expr (pe_bm PySem.F.plainAttrs_list PySem.F.slot_list_append PySem.F.type_list_append mt_append (pv 3) (pa_cons (pe_tup (pa_cons (pe_ix ix_list (pv 5) pe_int (fun _ _ => rfl)) (pa_cons (pe_ix ix_list (pv 5) pe_int (fun _ _ => rfl)) (pa_cons (pe_ix ix_list (pv 5) pe_int (fun _ _ => rfl)) (pa_cons (pe_ix ix_list (pv 5) pe_int (fun _ _ => rfl)) (pa_cons (pe_ix ix_list (pv 5) pe_int (fun _ _ => rfl)) pa_nil)))))) pa_nil)))
    (pss_one (ps_expr (pe_bm PySem.F.plainAttrs_list PySem.F.slot_list_remove PySem.F.type_list_remove (mt_remD hr.units) (pv 2) (pa_cons (pv 5) pa_nil)))))))
    (pss_one (ps_ret (pv 3)))))), ?_⟩
    refine ⟨_, rfl, L, rfl, ⟨_, SqL.of X.lst⟩, fun D hD => lc_list (K := K) (a := L) (xs := refs β os) (fun i H' => Same H H' ∧ H' D = some (.lst (refs β ((os.take i).filter fun o => decide (o.buy = x))))) ⟨Same.upd hD, upd_same⟩ (fun i H' _ p => SqL.of (p.1 _ _ X.lst)) ?_ ?_⟩
    · rintro i y H' hi ⟨s1, hacc⟩
      obtain ⟨q, hq, hm, rfl⟩ := refs_get hi
      have hrow := s1 _ _ (X.row q hm)
      refine ⟨rfl, ?_⟩
      refine ⟨_, rfl, β q.num, _, _, _, rfl, rfl, SqL.of hrow, at_of (j := 2) rfl rfl, _, rfl, rfl, _, rfl, ?_⟩
      rw [sd_sd]
      refine iteD (fun e => ?_) fun e => ?_
      · refine ⟨_, rfl, _, hacc, ?_, fun y u e => ?_, ?_⟩
        · rw [refs_len]
          refine Nat.lt_of_le_of_lt (Nat.le_trans (List.length_filter_le _ _) ?_) line1000
          rw [List.length_take]
          omega
        · rw [upd_ne (ne_of_none e hD)]
          exact s1 _ _ e
        · rw [upd_same, take_snoc hq, List.filter_append, List.filter_cons_of_pos (by simpa using e)]
          unfold refs
          rw [List.map_append]
          rfl
      · refine ⟨s1, ?_⟩
        rw [hacc, take_snoc hq, List.filter_append, List.filter_cons_of_neg (by simpa using e)]
        simp
    · rintro H1 ⟨s1, hD1⟩
      rw [refs_len, List.take_length] at hD1
      generalize hk0 : (os.filter fun o => decide (o.buy = x)) = k0 at hD1
      have k0m : ∀ o ∈ k0, o ∈ os := fun o ho => by rw [← hk0] at ho; exact (List.mem_filter.mp ho).1
      have k0n : Nums k0 := by rw [← hk0]; exact hnum.filter _
      have k0s : sortB x k0 = sortB x os := by rw [← hk0]; exact sortB_side x os
      have k0l : (sortB x os).length = k0.length := by rw [length_sortB, hk0]
      have law1 : LawAt H1 D β k0 := ⟨hD1, fun o ho => s1 _ _ (X.row o (k0m o ho)), fun o ho => ne_of_none (X.row o (k0m o ho)) hD⟩
      refine ⟨Nat.zero_le _, fun R hR => ?_⟩
      have s2 : Same H1 (upd H1 R (.lst [])) := Same.upd hR
      have R0 : H R = Option.none := s1.free hR
      have nRD : D ≠ R := ne_of_none hD1 hR
      have hnn : ((((refs β k0).length : Nat) : Int)).toNat = k0.length := by rw [refs_len, Int.toNat_natCast]
      refine ⟨_, rfl, D, _, rfl, .inl (SqL.of (s2 _ _ hD1)), _, rfl, ?_, ?_, for_range (lo := 0) (n := ((((refs β k0).length : Nat) : Int)).toNat) (fun i σ' H' => ∃ (kl : List Ord) (v4 v5 : Option V) (ac : List V), σ' = [some (.ref L), some (.str (sd x)), some (.ref D), some (.ref R), v4, v5, none] ∧
          Same H H' ∧ LawAt H' D β kl ∧ (∀ o ∈ kl, o ∈ os) ∧ Nums kl ∧ sortB x kl = (sortB x os).drop i ∧ H' R = some (.lst ac) ∧ Tups H' ac (((sortB x os).take i).map entV))
        ⟨k0, none, none, [], rfl, s1.trans s2, law1.same s2, k0m, k0n, k0s, upd_same, .nil⟩ ?_ ?_⟩
      · have : (0 : Int) ≤ 2 ^ 62 := by decide
        omega
      · have : (2 : Int) ^ 62 = 4611686018427387904 := by decide
        have h1 : (refs β k0).length ≤ 900 := by
          rw [refs_len, ← hk0]
          exact Nat.le_trans (List.length_filter_le _ _) hlen
        omega
      · rintro i σ' H' hi ⟨kl, v4, v5, ac, rfl, s3, law, klm, kln, kls, hR', tu⟩
        rw [hnn] at hi
        have his : i < (sortB x os).length := by omega
        have hget : (sortB x os)[i]? = some (sortB x os)[i] := List.getElem?_eq_getElem his
        have hdrop : (sortB x os).drop i = (sortB x os)[i] :: (sortB x os).drop (i + 1) := List.drop_eq_getElem_cons his
        generalize (sortB x os)[i] = qi at hget hdrop
        rw [hdrop] at kls
        obtain ⟨hf, hnext⟩ := list_step kls kln
        have hqm : qi ∈ kl := firstL_mem hf
        have hrow := law.row qi hqm
        refine ⟨_, rfl, _, rfl, D, β, kl, x, none, rfl, law, ?_⟩
        rw [hf]
        refine ⟨_, rfl, .inl ⟨rfl, _, SqL.of hR'⟩, _, rfl, β qi.num, _, _, _, rfl, rfl, SqL.of hrow, at_of (j := 0) rfl rfl, _, rfl, β qi.num, _, _, _, rfl, rfl, SqL.of hrow, at_of (j := 1) rfl rfl, _, rfl, β qi.num, _, _, _, rfl, rfl, SqL.of hrow, at_of (j := 3) rfl rfl,
          _, rfl, β qi.num, _, _, _, rfl, rfl, SqL.of hrow, at_of (j := 4) rfl rfl, _, rfl, β qi.num, _, _, _, rfl, rfl, SqL.of hrow, at_of (j := 5) rfl rfl, (by show 5 ≤ sizeLine; decide), fun p hp => ?_⟩
        have hR2 : upd H' p (.tup (entV qi)) R = some (.lst ac) := (upd_ne (ne_of_none hR' hp)).trans hR'
        have hal : ac.length ≤ 1000 := by
          rw [tu.length, List.length_map, List.length_take]
          have := len_sorts os x
          have : (sortB x os).length ≤ os.length := this
          omega
        refine ⟨R, _, _, rfl, rfl, hR2, Nat.lt_of_le_of_lt hal line1000, ?_⟩
        have nbR : ∀ o ∈ kl, β o.num ≠ R := fun o ho => ne_of_none (X.row o (klm o ho)) R0
        have law2 : LawAt (upd (upd H' p (.tup (entV qi))) R (.lst (ac ++ [.ref p]))) D β kl := (law.aside (ne_of_none law.lst hp) fun o ho => ne_of_none (law.row o ho) hp).aside nRD nbR
        obtain ⟨j, j1, j2⟩ := place_row (β := β) kln hqm
        refine ⟨_, rfl, .inl ⟨rfl, _, SqL.of law2.lst⟩, _, rfl, D, _, rowD qi, _, _, j, rfl, rfl, law2.lst, rowsD_at law2.row, rowD_at (law2.row qi hqm), rowsD_plain _, rowD_plain _, Nat.le_trans (rowsD_depth _) (by decide), j1, ?_⟩
        rw [j2]
        refine ⟨delO qi.num kl, _, _, _, rfl, fun y u e => ?_, law2.del qi.num, fun o ho => klm o (mem_del.mp ho).1, nums_del kln, hnext, (upd_ne nRD.symm).trans upd_same, ?_⟩
        · rw [upd_ne (ne_of_none e hD), upd_ne (ne_of_none e R0), upd_ne (ne_of_none (s3 _ _ e) hp)]
          exact s3 _ _ e
        · rw [take_snoc hget, List.map_append]
          have npR : p ≠ R := (ne_of_none hR' hp).symm
          have npD : p ≠ D := (ne_of_none law.lst hp).symm
          refine Tups.snoc ((upd_ne npD).trans ((upd_ne npR).trans upd_same)) (tu.keep fun y xs e => ?_)
          rw [upd_ne (ne_of e law.lst (by intro z; cases z)), upd_ne (ne_of e hR' (by intro z; cases z)), upd_ne (ne_of_none e hp)]
          exact e
      · rintro σ' H' ⟨kl, v4, v5, ac, rfl, s3, law, klm, kln, kls, hR', tu⟩
        rw [hnn, ← k0l, List.take_length] at tu
        exact ⟨_, rfl, k H' R s3 R0 ⟨ac, hR', tu⟩⟩
end
end Fb

namespace Fb
open PySem PySem.Spec PyProof.Rows L2
section
variable {P : Program} {w : World} {K : PySem.W.Frag} {mg : Str → Option Value} {base : Heap} {CO CR CB : Addr}
/-! ### fills, entries, numbers as data -/
theorem tups_dp {γ : Type} {H : Hp} {rv : γ → List V} {rd : γ → List PyData} (hf : ∀ g, DpAll K H (rv g) (rd g)) : ∀ {gs : List γ} {vs : List V}, Tups H vs (gs.map rv) → DpAll K H vs (gs.map fun g => PyData.tuple (rd g))
  | [], _, t => by cases t; exact .nil
  | g :: gs, _, t => by
    cases t with
    | cons h t => exact .cons (.tup (SqT.of h) (hf g)) (tups_dp hf t)
/-- data without dicts, at most 60 deep -/
structure Flat (d : PyData) : Prop where
  pl : d.plain = true
  dp : d.depth ≤ 60
theorem flat_map {γ : Type} (f : γ → PyData) (h1 : ∀ g, (f g).plain = true) (h2 : ∀ g, (f g).depth ≤ 1) (gs : List γ) : Flat (.list (gs.map f)) := by
  have e1 : ∀ gs : List γ, PyData.plainAll (gs.map f) = true := fun gs => by
    induction gs with
    | nil => simp [PyData.plainAll]
    | cons g gs ih => simp [PyData.plainAll, h1 g, ih]
  have e2 : ∀ gs : List γ, PyData.depthAll (gs.map f) ≤ 1 := fun gs => by
    induction gs with
    | nil => simp [PyData.depthAll]
    | cons g gs ih =>
      have := h2 g
      simp only [List.map_cons, PyData.depthAll]
      omega
  refine ⟨?_, ?_⟩
  · simp only [PyData.plain]
    exact e1 gs
  · have := e2 gs
    simp only [PyData.depth]
    omega
theorem Flat.eqv {d : PyData} (h : Flat d) : PyData.eqv d d = true := PySem.SeqAt.eqv_refl_plain d h.pl
def fillR (f : Fill) : List PyData := [.int f.num, .str f.house, .int f.price, .int f.qty]
def entR (o : Ord) : List PyData := [.int o.num, .str o.house, .int o.price, .int o.left, .int o.vis]
def fillsD (fs : List Fill) : PyData := .list (fs.map fun f => .tuple (fillR f))
def entsD (os : List Ord) : PyData := .list (os.map fun o => .tuple (entR o))
def numsD (ns : List Int) : PyData := .list (ns.map .int)
theorem fillsD_ok (fs : List Fill) : Flat (fillsD fs) := flat_map _ (fun f => by simp [fillR, PyData.plain, PyData.plainAll]) (fun f => by simp [fillR, PyData.depth, PyData.depthAll]) fs
theorem entsD_ok (os : List Ord) : Flat (entsD os) := flat_map _ (fun f => by simp [entR, PyData.plain, PyData.plainAll]) (fun f => by simp [entR, PyData.depth, PyData.depthAll]) os
theorem numsD_ok (ns : List Int) : Flat (numsD ns) := flat_map _ (fun f => by simp [PyData.plain]) (fun f => by simp [PyData.depth]) ns
theorem fills_dp {H : Hp} {f : Addr} {fs : List Fill} (h : FillsAt H f fs) : Dp K H (.ref f) (fillsD fs) := by
  obtain ⟨vs, e, t⟩ := h
  exact .lst (SqL.of e) (tups_dp (rd := fillR) (fun g => .cons (.int _) (.cons (.str _) (.cons (.int _) (.cons (.int _) .nil)))) t)
theorem ents_dp {H : Hp} {p : Addr} {os : List Ord} (h : EntsAt H p os) : Dp K H (.ref p) (entsD os) := by
  obtain ⟨vs, e, t⟩ := h
  exact .lst (SqL.of e) (tups_dp (rd := entR) (fun g => .cons (.int _) (.cons (.str _) (.cons (.int _) (.cons (.int _) (.cons (.int _) .nil))))) t)
theorem ints_dp {H : Hp} : ∀ ns : List Int, DpAll K H (ns.map V.int) (ns.map PyData.int)
  | [] => .nil
  | n :: ns => .cons (.int _) (ints_dp ns)
theorem rem_dp {H : Hp} {p : Addr} {ns : List Int} (h : RemAt H p ns) : Dp K H (.ref p) (numsD ns) := .lst (SqL.of h) (ints_dp ns)
def spSame (CO CR CB : Addr) : Sp := fun vs H Q _ => ∃ (b L rl r du f m f2 m2 : Addr) (g : Geo) (α β : Int → Addr) (os : List Ord) (next n : Int) (rep : Rep) (dx : Addr) (hh : Str) (bb : Bool), vs = [.ref b, .ref L, .ref rl, .ref du, .int n] ∧ BookAt CO CB H b g α (sorts os) next ∧ LawAt H L β os ∧ Good os ∧ os.length ≤ 900 ∧
  H rl = some (.lst [.ref r]) ∧ H r = some (.ins CR dx (rF n hh bb f m rep.resting)) ∧ FillsAt H f rep.fills ∧ RemAt H m rep.rem ∧ H du = some (.tup [.ref f2, .ref m2, .int rep.resting]) ∧ FillsAt H f2 rep.fills ∧ RemAt H m2 rep.rem ∧ ∀ H' : Hp, Same H H' → Q (.bl true) H'
theorem ok_same {fn : Addr} {fd : FuncData} (F : Fun K "_law_same" "_law_same" s_law_same fn fd) (T : Txt K mg CO CR CB) (c_orders : CallM P w K mg base 2 CB "orders" ["self", "side"] (spOrders CO CB)) (c_law_listed : CallF P w K mg base 3 "_law_listed" ["_law_orders", "_law_side"] spListed) :
    FnOk P w K mg base CX0 4 fn fd ["_law_book", "_law_orders", "_law_reports", "_law_due", "_law_number"] (spSame CO CR CB) := by
  refine F.ok sc_law_same (fun vs H Q E h => ?_) (fun cdv A outer s H vs Q E hr h => ?_)
  · obtain ⟨b, L, rl, r, du, f, m, f2, m2, g, α, β, os, next, n, rep, dx, hh, bb, rfl, _⟩ := h
    rfl
  · obtain ⟨b, L, rl, r, du, f, m, f2, m2, g, α, β, os, next, n, rep, dx, hh, bb, rfl, X, Y, G, hlen, hrl, hrr, hf, hm, hdu, hf2, hm2, k⟩ := h
    obtain ⟨bx, lv, hb⟩ := X.ob
    have nt : ∀ {v : V} , (!decide (v = v)) = false := fun {v} => by rw [decide_eq_true rfl]; rfl
    refine ⟨_, (pss_cons (ps_if (pw_or (pt_cmpR op_ne (pe_callB call_len_seq (by rfl) T.zLen boot_len (pa_cons (pv 2) pa_nil)) pe_int (nomark _)) (pw_or1 (pt_cmpR op_ne (pe_fld (pe_ix ix_list (pv 2) pe_int (fun _ _ => rfl)) rfl) (pv 4) (nomark _)))).pt
    (pss_one (ps_ret pe_bl))
    pss_nil)
    (pss_cons (ps_set (i := 5) sc_law_same.nd rfl (Or.inl rfl) (pe_ix ix_list (pv 2) pe_int (fun _ _ => rfl)))
    (pss_cons (ps_if (pw_or (pt_cmpR (op_neP hr.units) (pe_fld (pv 5) rfl) (pe_ix ix_tup (pv 3) pe_int (fun _ _ => rfl)) (nomark _)) (pw_or (pt_cmpR (op_neP hr.units) (pe_fld (pv 5) rfl) (pe_ix ix_tup (pv 3) pe_int (fun _ _ => rfl)) (nomark _)) (pw_or1 (pt_cmpR op_ne (pe_fld (pv 5) rfl) (pe_ix ix_tup (pv 3) pe_int (fun _ _ => rfl)) (nomark _))))).pt
    (pss_one (ps_ret pe_bl))
    pss_nil)
    (pss_one (ps_ret (pe_and (pe_cmpR (op_eqP hr.units) (pe_m c_orders (hr.mono (by decide)) T.clB (pv 0) (pa_cons pe_str pa_nil)) (pe_f c_law_listed (hr.mono (by decide)) (by rfl) (pa_cons (pv 1) (pa_cons pe_str pa_nil))) (nomark _)) (pe_one (pe_cmpR (op_eqP hr.units) (pe_m c_orders (hr.mono (by decide)) T.clB (pv 0) (pa_cons pe_str pa_nil)) (pe_f c_law_listed (hr.mono (by decide)) (by rfl) (pa_cons (pv 1) (pa_cons pe_str pa_nil))) (nomark _))))))))), ?_⟩
    refine or_pure (b1 := false) (b2 := false) (fun Q' k' => ⟨_, rfl, rl, _, rfl, .inl (SqL.of hrl), rfl, _, rfl, ?_⟩)
      (fun Q' k' => ⟨_, rfl, rl, _, _, _, rfl, rfl, SqL.of hrl, at_of (j := 0) rfl rfl, gfld hrr T.clR T.nR_number r_number ⟨_, rfl, rfl, _, rfl, by rw [nt]; exact k'⟩⟩) ?_
    · have e : (!decide (V.int (([V.ref r].length : Nat) : Int) = V.int 1)) = false := nt (v := V.int 1)
      rw [e]
      exact k'
    refine iteF ?_
    refine ⟨_, rfl, rl, _, _, _, rfl, rfl, SqL.of hrl, at_of (j := 0) rfl rfl, ?_⟩
    dsimp only [tSeq, gName, tIfS]
    refine or_pure (b1 := false) (b2 := false) (fun Q' k' => ⟨_, rfl, gfld hrr T.clR T.nR_fills r_fills ⟨_, rfl, du, _, _, _, rfl, rfl, SqT.of hdu, at_of (j := 0) rfl rfl, fillsD rep.fills, fillsD rep.fills, fills_dp hf, fills_dp hf2, (fillsD_ok _).pl, (fillsD_ok _).pl, (fillsD_ok _).dp, _, rfl, by rw [(fillsD_ok _).eqv]; exact k'⟩⟩)
      (fun Q1 k1 => or_pure (b1 := false) (b2 := false)
        (fun Q' k' => ⟨_, rfl, gfld hrr T.clR T.nR_removed r_removed ⟨_, rfl, du, _, _, _, rfl, rfl, SqT.of hdu, at_of (j := 1) rfl rfl, numsD rep.rem, numsD rep.rem, rem_dp hm, rem_dp hm2, (numsD_ok _).pl, (numsD_ok _).pl, (numsD_ok _).dp, _, rfl, by rw [(numsD_ok _).eqv]; exact k'⟩⟩)
        (fun Q' k' => ⟨_, rfl, gfld hrr T.clR T.nR_resting r_resting ⟨_, rfl, du, _, _, _, rfl, rfl, SqT.of hdu, at_of (j := 2) rfl rfl, rfl, _, rfl, by rw [nt]; exact k'⟩⟩) k1) ?_
    refine iteF ?_
    have hl : ∀ x, (sorts os x).length ≤ 1000 := fun x => by have := len_sorts os x; omega
    refine ⟨_, rfl, b, bx, _, rfl, hb, b_no (by decide +kernel), b, g, α, sorts os, next, true, rfl, X, hl true, fun H1 p1 s1 n1 en1 => ?_⟩
    have X1 := X.same s1
    refine ⟨_, rfl, L, β, os, true, rfl, Y.same s1, G.nums, hlen, fun H2 p2 s2 n2 en2 => ?_⟩
    have X2 := X1.same s2
    refine ⟨entsD (sortB true os), entsD (sortB true os), ents_dp (TupsAt.same en1 s2), ents_dp en2, (entsD_ok _).pl, (entsD_ok _).pl, (entsD_ok _).dp, _, rfl, ?_⟩
    rw [(entsD_ok _).eqv]
    refine iteT ?_
    refine ⟨_, rfl, b, bx, _, rfl, s2 _ _ (s1 _ _ hb), b_no (by decide +kernel), b, g, α, sorts os, next, false, rfl, X2, hl false, fun H3 p3 s3 n3 en3 => ?_⟩
    refine ⟨_, rfl, L, β, os, false, rfl, ((Y.same s1).same s2).same s3, G.nums, hlen, fun H4 p4 s4 n4 en4 => ?_⟩
    refine ⟨entsD (sortB false os), entsD (sortB false os), ents_dp (TupsAt.same en3 s4), ents_dp en4, (entsD_ok _).pl, (entsD_ok _).pl, (entsD_ok _).dp, ?_⟩
    rw [(entsD_ok _).eqv]
    exact k H4 (((s1.trans s2).trans s3).trans s4)
end
end Fb

namespace Fb
open PySem PySem.Spec PyProof.Rows L2
section
variable {P : Program} {w : World} {K : PySem.W.Frag} {mg : Str → Option Value} {base : Heap} {CO CR CB : Addr}
/-! ### the whole situation between two commands -/
structure Sit (CO CB : Addr) (H : Hp) (b L : Addr) (g : Geo) (α β : Int → Addr) (os : List Ord) (next : Int) (p0 : Addr) (xs0 : List V) : Prop where
  book : BookAt CO CB H b g α (sorts os) next
  law : LawAt H L β os
  good : Good os
  lt : ∀ o ∈ os, o.num < next
  pr : ∀ o ∈ os, 1 ≤ o.price ∧ o.price ≤ 1000000
  src : H p0 = some (.lst xs0)
  sepP : ∀ x, p0 ≠ g.l x
  sepL : ∀ x, g.l x ≠ L
  sepS : g.st ≠ L
  sep0 : p0 ≠ L
  rowP : ∀ o ∈ os, p0 ≠ β o.num
  rowL : ∀ o ∈ os, ∀ x, g.l x ≠ β o.num
  rowS : ∀ o ∈ os, g.st ≠ β o.num
theorem Sit.lists {H H' : Hp} {b L : Addr} {g : Geo} {α β : Int → Addr} {os : List Ord} {next : Int} {p0 : Addr} {xs0 : List V} (S : Sit CO CB H b L g α β os next p0 xs0) (k : Kp g H H') : LawAt H' L β os ∧ H' p0 = some (.lst xs0) := by
  have kl : ∀ y xs, H y = some (.lst xs) → (∀ x, g.l x ≠ y) → H' y = some (.lst xs) := fun y xs e h =>
    k y _ e (h true).symm (h false).symm (ne_of e S.book.dict (by intro z; cases z)) (by intro _ _ _ z; cases z)
  refine ⟨⟨kl _ _ S.law.lst S.sepL, fun o ho => kl _ _ (S.law.row o ho) (S.rowL o ho), S.law.out⟩, kl _ _ S.src fun x => (S.sepP x).symm⟩
theorem book_kpl {H H' : Hp} {b L : Addr} {g : Geo} {α β : Int → Addr} {B : Bool → List Ord} {os : List Ord} {next : Int} (X : BookAt CO CB H b g α B next) (Y : LawAt H L β os) (hl : ∀ x, g.l x ≠ L) (hs : g.st ≠ L) (rl : ∀ o ∈ os, ∀ x, g.l x ≠ β o.num) (rs : ∀ o ∈ os, g.st ≠ β o.num)
    (k : KpL L β os H H') : BookAt CO CB H' b g α B next := by
  have ki : ∀ y u, H y = some u → (∀ xs, u ≠ .lst xs) → H' y = some u := fun y u e h => k y u e (ne_of e Y.lst (h _)) fun q hq => ne_of e (Y.row q hq) (h _)
  refine X.keep (fun _ _ _ e => ki _ _ e (by intro _ z; cases z)) ((ki _ _ X.dict (by intro _ z; cases z)).trans X.dict.symm) ((k _ _ X.st hs rs).trans X.st.symm) (fun x => (k _ _ (X.lst x) (hl x) fun q hq => rl q hq x).trans (X.lst x).symm) fun x o ho => ?_
  obtain ⟨d, e⟩ := X.ord x o ho
  exact (ki _ _ e (by intro _ z; cases z)).trans e.symm
/-- what the law has when both sides of it are done -/
theorem Sit.close {H H1 H2 H3 : Hp} {b L : Addr} {g g' : Geo} {α α' β β' : Int → Addr} {os os0 os' : List Ord} {next next' : Int} {p0 : Addr} {xs0 : List V} (S : Sit CO CB H b L g α β os next p0 xs0)
    (gs : g'.st = g.st) (gl : ∀ x, g'.l x = g.l x ∨ H (g'.l x) = none) (sub0 : ∀ o ∈ os0, o ∈ os) (X1 : BookAt CO CB H1 b g' α' (sorts os') next') (Y1 : LawAt H1 L β os0) (e1 : H1 p0 = some (.lst xs0)) (kpl : KpL L β os0 H1 H2) (Y2 : LawAt H2 L β' os') (apl : ∀ o ∈ os', ApartL L β os0 H1 (β' o.num)) (s3 : Same H2 H3)
    (good : Good os') (lt : ∀ o ∈ os', o.num < next') (pr : ∀ o ∈ os', 1 ≤ o.price ∧ o.price ≤ 1000000) : Sit CO CB H3 b L g' α' β' os' next' p0 xs0 := by
  have hl : ∀ x, g'.l x ≠ L := fun x => by
    rcases gl x with e | e
    · rw [e]; exact S.sepL x
    · exact (ne_of_none S.law.lst e).symm
  have hp : ∀ x, p0 ≠ g'.l x := fun x => by
    rcases gl x with e | e
    · rw [e]; exact S.sepP x
    · exact ne_of_none S.src e
  have rl : ∀ o ∈ os0, ∀ x, g'.l x ≠ β o.num := fun o ho x => by
    rcases gl x with e | e
    · rw [e]; exact S.rowL o (sub0 o ho) x
    · exact (ne_of_none (S.law.row o (sub0 o ho)) e).symm
  have hs : g'.st ≠ L := by rw [gs]; exact S.sepS
  have rs : ∀ o ∈ os0, g'.st ≠ β o.num := fun o ho => by rw [gs]; exact S.rowS o (sub0 o ho)
  have rp : ∀ o ∈ os0, p0 ≠ β o.num := fun o ho => S.rowP o (sub0 o ho)
  have X2 := book_kpl X1 Y1 hl hs rl rs kpl
  exact ⟨X2.same s3, Y2.same s3, good, lt, pr, s3 _ _ (kpl _ _ e1 S.sep0 rp), hp, hl, hs, S.sep0, fun o ho => apl o ho _ _ e1 S.sep0 rp, fun o ho x => apl o ho _ _ (X1.lst x) (hl x) fun q hq => rl q hq x, fun o ho => apl o ho _ _ X1.st hs rs⟩
theorem RepAt.kpl {H0 H H' : Hp} {L r : Addr} {β : Int → Addr} {os : List Ord} {n : Int} {rep : Rep} (x : RepAt CR H0 H r n rep) (Y : LawAt H L β os) (hL : ∀ f, H0 f = none → f ≠ L ∧ ∀ o ∈ os, f ≠ β o.num) (k : KpL L β os H H') :
    ∃ dx h b f m, H' r = some (.ins CR dx (rF n h b f m rep.resting)) ∧ FillsAt H' f rep.fills ∧ RemAt H' m rep.rem := by
  obtain ⟨dx, h, b, f, m, e1, ⟨vs, e2, tu⟩, e3, e4, e5⟩ := x
  have ki : ∀ y u, H y = some u → (∀ xs, u ≠ .lst xs) → H' y = some u := fun y u e h => k y u e (ne_of e Y.lst (h _)) fun q hq => ne_of e (Y.row q hq) (h _)
  exact ⟨dx, h, b, f, m, ki _ _ e1 (by intro _ z; cases z), ⟨vs, k _ _ e2 (hL f e4).1 (hL f e4).2, tu.keep fun y xs e => ki _ _ e (by intro _ z; cases z)⟩, k _ _ e3 (hL m e5).1 (hL m e5).2⟩
def spLsub (CO CB : Addr) : Sp := fun vs H Q _ => ∃ (b L : Addr) (g : Geo) (α β : Int → Addr) (os : List Ord) (next : Int) (p0 : Addr) (xs0 : List V) (c : Int), vs = [.ref b, .ref L, .int c, .int next] ∧ Sit CO CB H b L g α β os next p0 xs0 ∧ os.length ≤ 100 ∧
  ∀ (H' : Hp) (g' : Geo) (α' β' : Int → Addr) (os' : List Ord), Sit CO CB H' b L g' α' β' os' (next + 1) p0 xs0 → os'.length ≤ os.length + 1 → Q (.bl true) H'
def spLcan (CO CB : Addr) : Sp := fun vs H Q _ => ∃ (b L : Addr) (g : Geo) (α β : Int → Addr) (os : List Ord) (next : Int) (p0 : Addr) (xs0 : List V) (c : Int), vs = [.ref b, .ref L, .int c] ∧ Sit CO CB H b L g α β os next p0 xs0 ∧ os ≠ [] ∧ os.length ≤ 100 ∧
  ∀ (H' : Hp) (g' : Geo) (α' β' : Int → Addr) (os' : List Ord), Sit CO CB H' b L g' α' β' os' next p0 xs0 → os'.length ≤ os.length + 1 → Q (.bl true) H'
theorem ok_lsub {fn : Addr} {fd : FuncData} (F : Fun K "_law_submit" "_law_submit" s_law_submit fn fd) (T : Txt K mg CO CR CB) (c_law_house : CallF P w K mg base 1 "_law_house" ["_law_cell"] spHouse)
    (c_submit : CallN P w K mg base 6 CB "submit" ["self", "house", "side", "price", "quantity", "kind", "shown"] 5 ["kind", "shown"] (spSubmit CO CR CB))
    (c_law_enter : CallF P w K mg base 4 "_law_enter" ["_law_orders", "_law_number", "_law_house_here", "_law_side", "_law_limit", "_law_quantity", "_law_kind", "_law_shown"] spEnterL)
    (c_law_same : CallF P w K mg base 4 "_law_same" ["_law_book", "_law_orders", "_law_reports", "_law_due", "_law_number"] (spSame CO CR CB)) :
    FnOk P w K mg base CX0 7 fn fd ["_law_book", "_law_orders", "_law_cell", "_law_number"] (spLsub CO CB) := by
  refine F.ok sc_law_submit (fun vs H Q E h => ?_) (fun cdv A outer s H vs Q E hr h => ?_)
  · obtain ⟨b, L, g, α, β, os, next, p0, xs0, c, rfl, _⟩ := h
    rfl
  · obtain ⟨b, L, g, α, β, os, next, p0, xs0, c, rfl, S, hlen, k⟩ := h
    refine ⟨_, (pss_cons (ps_set (i := 4) sc_law_submit.nd rfl (Or.inl rfl) (pe_f c_law_house (hr.mono (by decide)) (by rfl) (pa_cons (pv 2) pa_nil)))
    (pss_cons (ps_set (i := 5) sc_law_submit.nd rfl (Or.inl rfl) (pe_ix ix_list (pe_lst (pa_cons pe_str (pa_cons pe_str pa_nil))) (pe_op op_mod (pe_op op_fdiv (pe_callTy call_int1 (by rfl) T.zInt boot_int (pa_cons (pv 2) pa_nil)) pe_int) pe_int) (fun _ _ => rfl)))
    (pss_cons (ps_set (i := 6) sc_law_submit.nd rfl (Or.inl rfl) (pe_op op_add pe_int (pe_op op_mod (pe_op op_fdiv (pe_callTy call_int1 (by rfl) T.zInt boot_int (pa_cons (pv 2) pa_nil)) pe_int) pe_int)))
    (pss_cons (ps_set (i := 7) sc_law_submit.nd rfl (Or.inl rfl) (pe_op op_add pe_int (pe_op op_mod (pe_op op_fdiv (pe_callTy call_int1 (by rfl) T.zInt boot_int (pa_cons (pv 2) pa_nil)) pe_int) pe_int)))
    (pss_cons (ps_set (i := 8) sc_law_submit.nd rfl (Or.inl rfl) (pe_ix ix_list (pe_lst (pa_cons pe_str (pa_cons pe_str (pa_cons pe_str (pa_cons pe_str (pa_cons pe_str pa_nil)))))) (pe_op op_mod (pe_op op_fdiv (pe_callTy call_int1 (by rfl) T.zInt boot_int (pa_cons (pv 2) pa_nil)) pe_int) pe_int) (fun _ _ => rfl)))
    (pss_cons (ps_set (i := 9) sc_law_submit.nd rfl (Or.inl rfl) pe_int)
    (pss_cons (ps_if (pt_cmpR op_eq (pv 8) pe_str (nomark _))
    (pss_one (ps_set (i := 9) sc_law_submit.nd rfl (Or.inl rfl) (pe_op op_mod (pe_op op_fdiv (pe_callTy call_int1 (by rfl) T.zInt boot_int (pa_cons (pv 2) pa_nil)) pe_int) (pe_op op_add (pv 7) pe_int))))
    (pss_one (ps_if (pt_cmpR op_eq (pe_op op_mod (pe_op op_fdiv (pe_callTy call_int1 (by rfl) T.zInt boot_int (pa_cons (pv 2) pa_nil)) pe_int) pe_int) pe_int (nomark _))
    (pss_one (ps_set (i := 6) sc_law_submit.nd rfl (Or.inl rfl) pe_non))
    pss_nil)))
    (pss_cons (ps_set (i := 10) sc_law_submit.nd rfl (Or.inl rfl) (pe_mN c_submit (hr.mono (by decide)) T.clB (pv 0) (pa_cons (pv 4) (pa_cons (pv 5) (pa_cons (pv 6) (pa_cons (pv 7) pa_nil)))) (pk_cons (pv 8) (pk_cons (pv 9) pk_nil))))
    (pss_cons (ps_set (i := 11) sc_law_submit.nd rfl (Or.inl rfl) (pe_f c_law_enter (hr.mono (by decide)) (by rfl) (pa_cons (pv 1) (pa_cons (pv 3) (pa_cons (pv 4) (pa_cons (pv 5) (pa_cons (pv 6) (pa_cons (pv 7) (pa_cons (pv 8) (pa_cons (pv 9) pa_nil))))))))))
    (pss_one (ps_ret (pe_f c_law_same (hr.mono (by decide)) (by rfl) (pa_cons (pv 0) (pa_cons (pv 1) (pa_cons (pv 10) (pa_cons (pv 11) (pa_cons (pv 3) pa_nil))))))))))))))))), ?_⟩
    refine ⟨_, rfl, c, rfl, fun h H1 s1 => ?_⟩
    refine ⟨(by show 2 ≤ sizeLine; decide), fun p2 hp2 => ?_⟩
    have s2 : Same H1 (upd H1 p2 (.lst [.str "buy", .str "sell"])) := Same.upd hp2
    obtain ⟨sdb, j, hj, hx⟩ : ∃ (sdb : Bool) (j : Nat), c / 4 % 2 = (j : Int) ∧ ([V.str "buy", V.str "sell"] : List V)[j]? = some (.str (sd sdb)) := by
      obtain ⟨j, hj⟩ : ∃ j : Nat, c / 4 % 2 = (j : Int) := ⟨(c / 4 % 2).toNat, by omega⟩
      have : j < 2 := by omega
      match j, this with
      | 0, _ => exact ⟨true, 0, hj, rfl⟩
      | 1, _ => exact ⟨false, 1, hj, rfl⟩
    refine ⟨_, rfl, .inl ⟨c, rfl, _, _, rfl, rfl, ⟨by decide, by decide⟩, _, _, rfl, rfl, (by show (0 : Int) < 2; decide), p2, _, _, _, rfl, rfl, SqL.of upd_same, at_of hj hx, ?_⟩⟩
    refine ⟨_, rfl, .inl ⟨c, rfl, _, _, rfl, rfl, ⟨by decide, by decide⟩, _, _, rfl, rfl, (by show (0 : Int) < 7; decide), _, _, rfl, rfl, ?_⟩⟩
    refine ⟨_, rfl, .inl ⟨c, rfl, _, _, rfl, rfl, ⟨by decide, by decide⟩, _, _, rfl, rfl, (by show (0 : Int) < 12; decide), _, _, rfl, rfl, ?_⟩⟩
    refine ⟨(by show 5 ≤ sizeLine; decide), fun p3 hp3 => ?_⟩
    have s3 : Same (upd H1 p2 (.lst [.str "buy", .str "sell"])) (upd (upd H1 p2 (.lst [.str "buy", .str "sell"])) p3 (.lst [.str "rest", .str "rest", .str "rest", .str "now", .str "all"])) := Same.upd hp3
    obtain ⟨kd, j2, hj2, hx2⟩ : ∃ (kd : Kd) (j : Nat), c / 672 % 5 = (j : Int) ∧ ([V.str "rest", V.str "rest", V.str "rest", V.str "now", V.str "all"] : List V)[j]? = some (.str (kS kd)) := by
      obtain ⟨j, hj⟩ : ∃ j : Nat, c / 672 % 5 = (j : Int) := ⟨(c / 672 % 5).toNat, by omega⟩
      have : j < 5 := by omega
      match j, this with
      | 0, _ => exact ⟨.rest, 0, hj, rfl⟩
      | 1, _ => exact ⟨.rest, 1, hj, rfl⟩
      | 2, _ => exact ⟨.rest, 2, hj, rfl⟩
      | 3, _ => exact ⟨.now, 3, hj, rfl⟩
      | 4, _ => exact ⟨.all, 4, hj, rfl⟩
    refine ⟨_, rfl, .inl ⟨c, rfl, _, _, rfl, rfl, ⟨by decide, by decide⟩, _, _, rfl, rfl, (by show (0 : Int) < 5; decide), p3, _, _, _, rfl, rfl, SqL.of upd_same, at_of hj2 hx2, ?_⟩⟩
    have s13 := (s1.trans s2).trans s3
    generalize upd (upd H1 p2 (.lst [.str "buy", .str "sell"])) p3 (.lst [.str "rest", .str "rest", .str "rest", .str "now", .str "all"]) = H3 at s13 ⊢
    have hl1 : 1 ≤ 97 + c / 8 % 7 ∧ 97 + c / 8 % 7 ≤ 1000000 := by omega
    have hq1 : 1 ≤ 1 + c / 56 % 12 ∧ 1 + c / 56 % 12 ≤ 12 := by omega
    have S3 : Sit CO CB H3 b L g α β os next p0 xs0 := ⟨S.book.same s13, S.law.same s13, S.good, S.lt, S.pr, s13 _ _ S.src, S.sepP, S.sepL, S.sepS, S.sep0, S.rowP, S.rowL, S.rowS⟩
    have fin : ∀ (lim : Option Int) (z : Int), Valid lim (1 + c / 56 % 12) kd z →
        tSeq (tAsg (tMethN CB 5 2 "submit" (spSubmit CO CR CB) (fun vs zs => vs ++ zs) E0 (tVar 0) (tCons (tVar 4) (tCons (tVar 5) (tCons (tVar 6) (tCons (tVar 7) tNil)))) (tCons (tVar 8) (tCons (tVar 9) tNil))) (gName 10))
         (tSeq (tAsg (tCall spEnterL [] E0 (tCons (tVar 1) (tCons (tVar 3) (tCons (tVar 4) (tCons (tVar 5) (tCons (tVar 6) (tCons (tVar 7) (tCons (tVar 8) (tCons (tVar 9) tNil))))))))) (gName 11))
          (tRet (tCall (spSame CO CR CB) [] E0 (tCons (tVar 0) (tCons (tVar 1) (tCons (tVar 10) (tCons (tVar 11) (tCons (tVar 3) tNil)))))))) { nx := fun _ H' => Q .non H', rt := Q }
          [some (.ref b), some (.ref L), some (.int c), some (.int next), some (.str h), some (.str (sd sdb)), some (limV lim), some (.int (1 + c / 56 % 12)), some (.str (kS kd)), some (.int z), none, none] H3 := by
      intro lim z V
      obtain ⟨bx, lv, hb⟩ := S3.book.ob
      have hl : ∀ x, (sorts os x).length ≤ 100 := fun x => Nat.le_trans (len_sorts os x) hlen
      have hn : ∀ o ∈ os, o.num ≠ next := fun o ho e => by have := S.lt o ho; omega
      obtain ⟨es, En⟩ := enter_sim (num := next) (h := h) (b := sdb) (lim := lim) (k := kd) S.good V.qr.1 V.sr.1 hn
      refine ⟨_, rfl, b, bx, _, rfl, hb, b_no (by decide +kernel), _, rfl, _, rfl, _, rfl, _, rfl, _, rfl, _, rfl, rfl, rfl, b, g, α, sorts os, next, h, sdb, lim, (1 + c / 56 % 12), z, kd, rfl, S3.book, side_sorts S.good, fun x o ho => hn o (mem_sorts.mp ho).1, V, fun x => by have := hl x; omega, fun H4 α' rl r X4 kp ap hrl rep => ?_⟩
      rw [es] at X4 rep
      obtain ⟨Y4, e4⟩ := S3.lists kp
      refine ⟨_, rfl, _, rfl, _, rfl, _, rfl, _, rfl, _, rfl, _, rfl, _, rfl, L, β, os, next, h, sdb, lim, (1 + c / 56 % 12), z, kd, rfl, Y4, S.good, V.qr.1, V.sr.1, hn, by omega, fun e => ?_, fun H5 β' t f2 m2 ht hf2 hm2 Y5 kpl apl => ?_⟩
      · cases lim with
        | none => exact absurd e (V.lk rfl)
        | some p => exact ⟨p, rfl⟩
      have fresh : ∀ f, H3 f = none → f ≠ L ∧ ∀ o ∈ os, f ≠ β o.num := fun f hf => ⟨(ne_of_none S3.law.lst hf).symm, fun o ho => (ne_of_none (S3.law.row o ho) hf).symm⟩
      obtain ⟨dx, hh, bb, f, m, hr5, hf5, hm5⟩ := rep.kpl Y4 fresh kpl
      have nrl : rl ≠ L := (ap L _ S3.law.lst (S3.sepL true).symm (S3.sepL false).symm (ne_of S3.law.lst S3.book.dict (by intro z; cases z)) (by intro _ _ _ z; cases z)).symm
      have nrr : ∀ o ∈ os, rl ≠ β o.num := fun o ho => (ap _ _ (S3.law.row o ho) (S3.rowL o ho true).symm (S3.rowL o ho false).symm (ne_of (S3.law.row o ho) S3.book.dict (by intro z; cases z)) (by intro _ _ _ z; cases z)).symm
      have X5 := book_kpl X4 Y4 S3.sepL S3.sepS S3.rowL S3.rowS kpl
      refine ⟨_, rfl, _, rfl, _, rfl, _, rfl, _, rfl, b, L, rl, r, t, f, m, f2, m2, g, α', β', _, next + 1, next, _, dx, hh, bb, rfl, X5, Y5, En.good, by have := En.len; omega, kpl _ _ hrl nrl nrr, hr5, hf5, hm5, ht, hf2, hm2, fun H6 s6 => ?_⟩
      refine k H6 g α' β' _ (S3.close rfl (fun x => .inl rfl) (fun o ho => ho) X4 Y4 e4 kpl Y5 apl s6 En.good (fun o ho => ?_) fun o ho => ?_) En.len
      · rcases En.sub o ho with e | ⟨y, hy, e⟩
        · omega
        · have := S.lt y hy
          omega
      · rcases En.pr o ho with ⟨ek, e⟩ | ⟨y, hy, e⟩
        · cases lim with
          | none => exact absurd ek (V.lk rfl)
          | some p =>
            rw [e]
            exact V.lr p rfl
        · rw [← e]
          exact S.pr y hy
    refine ⟨_, rfl, rfl, _, rfl, ?_⟩
    rw [kS_rest]
    refine iteD (fun e => ?_) fun e => ?_
    · have h0 : 0 < (1 + c / 56 % 12) + 1 := by omega
      refine ⟨_, rfl, .inl ⟨c, rfl, _, _, rfl, rfl, ⟨by decide, by decide⟩, _, rfl, _, _, rfl, rfl, _, _, rfl, rfl, h0, ?_⟩⟩
      have hz1 := Int.emod_nonneg (c / 3360) (show (1 + c / 56 % 12) + 1 ≠ 0 by omega)
      have hz2 := Int.emod_lt_of_pos (c / 3360) h0
      exact fin (some (97 + c / 8 % 7)) (c / 3360 % ((1 + c / 56 % 12) + 1)) ⟨fun z => (by cases z), fun i hi => by injection hi with hi; rw [← hi]; exact hl1, ⟨hq1.1, by omega⟩, ⟨hz1, by omega⟩, fun _ => e⟩
    · refine ⟨_, rfl, .inl ⟨c, rfl, _, _, rfl, rfl, ⟨by decide, by decide⟩, _, _, rfl, rfl, (by show (0 : Int) < 3; decide), rfl, _, rfl, ?_⟩⟩
      refine iteD (fun _ => ?_) fun _ => ?_
      · exact fin none 0 ⟨fun _ => e, fun i hi => (by cases hi), ⟨hq1.1, by omega⟩, ⟨Int.le_refl _, by omega⟩, fun z => absurd z (Int.lt_irrefl _)⟩
      · exact fin (some (97 + c / 8 % 7)) 0 ⟨fun z => (by cases z), fun i hi => by injection hi with hi; rw [← hi]; exact hl1, ⟨hq1.1, by omega⟩, ⟨Int.le_refl _, by omega⟩, fun z => absurd z (Int.lt_irrefl _)⟩
end
end Fb

namespace Fb
open PySem PySem.Spec PyProof.Rows L2
section
variable {P : Program} {w : World} {K : PySem.W.Frag} {mg : Str → Option Value} {base : Heap} {CO CR CB : Addr}
theorem sorts_del_setL {os : List Ord} {o : Ord} (hn : Nums os) (ho : o ∈ os) : sorts (delO o.num os) = setL (sorts os) o.buy (delO o.num (sorts os o.buy)) := by
  rw [sorts_del]
  funext x
  by_cases hx : x = o.buy
  · subst hx
    rw [setL_same]
  · rw [setL_ne hx]
    refine del_none fun y hy e => ?_
    obtain ⟨h1, h2⟩ := mem_sorts.mp hy
    have := hn.inj h1 ho e
    subst this
    exact hx h2.symm
theorem KpL.upd {H : Hp} {L : Addr} {β : Int → Addr} {os : List Ord} {u : HO} : KpL L β os H (upd H L u) := fun y o e h1 _ => by rw [upd_ne h1]; exact e
theorem pick_row {H : Hp} {L : Addr} {β : Int → Addr} {os : List Ord} (Y : LawAt H L β os) (c : Int) (hne : os ≠ []) : 0 < (((refs β os).length : Nat) : Int) ∧ ∃ o ∈ os, atI (refs β os) (c % (((refs β os).length : Nat) : Int)) = some (.ref (β o.num)) := by
  have hpos : 0 < os.length := List.length_pos_iff.mpr hne
  have h1 : 0 < (((refs β os).length : Nat) : Int) := by rw [refs_len]; omega
  refine ⟨h1, ?_⟩
  have h2 := Int.emod_nonneg c (show (((refs β os).length : Nat) : Int) ≠ 0 by omega)
  have h3 := Int.emod_lt_of_pos c h1
  obtain ⟨j, hj⟩ : ∃ j : Nat, c % (((refs β os).length : Nat) : Int) = (j : Int) := ⟨(c % (((refs β os).length : Nat) : Int)).toNat, by omega⟩
  have hjl : j < os.length := by
    rw [hj, refs_len] at h3
    omega
  refine ⟨os[j], List.getElem_mem hjl, at_of hj (refs_at (List.getElem?_eq_getElem hjl))⟩
theorem ok_lcan {fn : Addr} {fd : FuncData} (F : Fun K "_law_cancel" "_law_cancel" s_law_cancel fn fd) (T : Txt K mg CO CR CB) (c_cancel : CallM P w K mg base 2 CB "cancel" ["self", "number", "house"] (spCancel CO CB))
    (c_orders : CallM P w K mg base 2 CB "orders" ["self", "side"] (spOrders CO CB)) (c_law_listed : CallF P w K mg base 3 "_law_listed" ["_law_orders", "_law_side"] spListed) :
    FnOk P w K mg base CX0 4 fn fd ["_law_book", "_law_orders", "_law_cell"] (spLcan CO CB) := by
  refine F.ok sc_law_cancel (fun vs H Q E h => ?_) (fun cdv A outer s H vs Q E hr h => ?_)
  · obtain ⟨b, L, g, α, β, os, next, p0, xs0, c, rfl, _⟩ := h
    rfl
  · obtain ⟨b, L, g, α, β, os, next, p0, xs0, c, rfl, S, hne, hlen, k⟩ := h
    obtain ⟨bx, lv, hb⟩ := S.book.ob
    obtain ⟨hpos, o, ho, hat⟩ := pick_row S.law c hne
    have hrow := S.law.row o ho
    have hls : ∀ x, (sorts os x).length ≤ 100 := fun x => Nat.le_trans (len_sorts os x) hlen
    refine ⟨_, (pss_cons (ps_set (i := 3) sc_law_cancel.nd rfl (Or.inl rfl) (pe_ix ix_list (pv 1) (pe_op op_mod (pe_callTy call_int1 (by rfl) T.zInt boot_int (pa_cons (pv 2) pa_nil)) (pe_callB call_len_seq (by rfl) T.zLen boot_len (pa_cons (pv 1) pa_nil))) (fun _ _ => rfl)))
    (pss_cons (ps_set (i := 4) sc_law_cancel.nd rfl (Or.inl rfl) (pe_m c_cancel (hr.mono (by decide)) T.clB (pv 0) (pa_cons (pe_ix ix_list (pv 3) pe_int (fun _ _ => rfl)) (pa_cons (pe_ix ix_list (pv 3) pe_int (fun _ _ => rfl)) pa_nil))))
    (pss_cons (ps_expr (pe_bm PySem.F.plainAttrs_list PySem.F.slot_list_remove PySem.F.type_list_remove (mt_remD hr.units) (pv 1) (pa_cons (pv 3) pa_nil)))
    (pss_one (ps_ret (pe_and (pe_cmpR op_eq (pv 4) (pe_ix ix_list (pv 3) pe_int (fun _ _ => rfl)) (nomark _)) (pe_one (pe_cmpR (op_eqP hr.units) (pe_m c_orders (hr.mono (by decide)) T.clB (pv 0) (pa_cons (pe_ix ix_list (pv 3) pe_int (fun _ _ => rfl)) pa_nil)) (pe_f c_law_listed (hr.mono (by decide)) (by rfl) (pa_cons (pv 1) (pa_cons (pe_ix ix_list (pv 3) pe_int (fun _ _ => rfl)) pa_nil))) (nomark _))))))))), ?_⟩
    refine ⟨_, rfl, _, rfl, .inl ⟨c, rfl, _, rfl, L, _, rfl, .inl (SqL.of S.law.lst), _, _, rfl, rfl, hpos, L, _, _, _, rfl, rfl, SqL.of S.law.lst, hat, ?_⟩⟩
    refine ⟨_, rfl, b, bx, _, rfl, hb, b_no (by decide +kernel), _, rfl, β o.num, _, _, _, rfl, rfl, SqL.of hrow, at_of (j := 0) rfl rfl, _, rfl, β o.num, _, _, _, rfl, rfl, SqL.of hrow, at_of (j := 1) rfl rfl, b, g, α, sorts os, next, o, rfl, S.book, mem_sorts.mpr ⟨ho, rfl⟩,
      fun x q hq e => S.good.nums.inj (mem_sorts.mp hq).1 ho e, by have := hls o.buy; omega, fun H1 D hD X1 k1 => ?_⟩
    rw [← sorts_del_setL S.good.nums ho] at X1
    have Y1 : LawAt H1 L β os := S.law.keep fun y xs e _ => k1 _ _ e (ne_of e S.book.dict (by intro z; cases z))
    have e1 : H1 p0 = some (.lst xs0) := k1 _ _ S.src (ne_of S.src S.book.dict (by intro z; cases z))
    have hrow1 := Y1.row o ho
    obtain ⟨j, j1, j2⟩ := place_row (β := β) S.good.nums ho
    refine ⟨_, rfl, .inl ⟨rfl, _, SqL.of Y1.lst⟩, _, rfl, L, _, rowD o, _, _, j, rfl, rfl, Y1.lst, rowsD_at Y1.row, rowD_at hrow1, rowsD_plain _, rowD_plain _, Nat.le_trans (rowsD_depth _) (by decide), j1, ?_⟩
    rw [j2]
    have Y2 := Y1.del o.num
    have kpl : KpL L β os H1 (upd H1 L (.lst (refs β (delO o.num os)))) := KpL.upd
    have hrow2 : upd H1 L (.lst (refs β (delO o.num os))) (β o.num) = some (.lst (rowV o)) := (upd_ne (Y1.out o ho)).trans hrow1
    generalize upd H1 L (.lst (refs β (delO o.num os))) = H2 at Y2 kpl hrow2 ⊢
    have gl : ∀ x, setL g.l o.buy D x = g.l x ∨ H (setL g.l o.buy D x) = none := fun x => by
      by_cases hx : x = o.buy
      · subst hx
        rw [setL_same]
        exact .inr hD
      · exact .inl (setL_ne hx)
    have fd := fits_del S.good o.num
    have close : ∀ H4, Same H2 H4 → Sit CO CB H4 b L { g with l := setL g.l o.buy D } α β (delO o.num os) next p0 xs0 := fun H4 s4 =>
      S.close rfl gl (fun o ho => ho) X1 Y1 e1 kpl Y2 (fun q hq y u _ _ h2 => h2 q (mem_del.mp hq).1) s4 fd.good (fun q hq => S.lt q (mem_del.mp hq).1) fun q hq => S.pr q (mem_del.mp hq).1
    have X2 := (close H2 (Same.refl _)).book
    obtain ⟨bx2, lv2, hb2⟩ := X2.ob
    have hl2 : (sorts (delO o.num os) o.buy).length ≤ 1000 := by
      have := len_sorts (delO o.num os) o.buy
      have := fd.len
      omega
    refine ⟨_, rfl, _, rfl, β o.num, _, _, _, rfl, rfl, SqL.of hrow2, at_of (j := 4) rfl rfl, rfl, _, rfl, iteDT rfl ?_⟩
    refine ⟨_, rfl, b, bx2, _, rfl, hb2, b_no (by decide +kernel), _, rfl, β o.num, _, _, _, rfl, rfl, SqL.of hrow2, at_of (j := 2) rfl rfl, b, _, α, sorts (delO o.num os), next, o.buy, rfl, X2, hl2, fun H3 p1 s3 n3 en3 => ?_⟩
    refine ⟨_, rfl, _, rfl, β o.num, _, _, _, rfl, rfl, SqL.of (s3 _ _ hrow2), at_of (j := 2) rfl rfl, L, β, delO o.num os, o.buy, rfl, Y2.same s3, fd.good.nums, by have := fd.len; omega, fun H4 p2 s4 n4 en4 => ?_⟩
    refine ⟨entsD (sortB o.buy (delO o.num os)), entsD (sortB o.buy (delO o.num os)), ents_dp (TupsAt.same en3 s4), ents_dp en4, (entsD_ok _).pl, (entsD_ok _).pl, (entsD_ok _).dp, ?_⟩
    rw [(entsD_ok _).eqv]
    exact k H4 _ α β _ (close H4 (s3.trans s4)) (Nat.le_succ_of_le fd.len)
theorem ok_lam {fn : Addr} {fd : FuncData} (F : Fun K "_law_amend" "_law_amend" s_law_amend fn fd) (T : Txt K mg CO CR CB) (c_amend : CallM P w K mg base 6 CB "amend" ["self", "number", "house", "price", "quantity"] (spAmend CO CR CB))
    (c_law_enter : CallF P w K mg base 4 "_law_enter" ["_law_orders", "_law_number", "_law_house_here", "_law_side", "_law_limit", "_law_quantity", "_law_kind", "_law_shown"] spEnterL)
    (c_law_same : CallF P w K mg base 4 "_law_same" ["_law_book", "_law_orders", "_law_reports", "_law_due", "_law_number"] (spSame CO CR CB)) :
    FnOk P w K mg base CX0 7 fn fd ["_law_book", "_law_orders", "_law_cell"] (spLcan CO CB) := by
  refine F.ok sc_law_amend (fun vs H Q E h => ?_) (fun cdv A outer s H vs Q E hr h => ?_)
  · obtain ⟨b, L, g, α, β, os, next, p0, xs0, c, rfl, _⟩ := h
    rfl
  · obtain ⟨b, L, g, α, β, os, next, p0, xs0, c, rfl, S, hne, hlen, k⟩ := h
    obtain ⟨bx, lv, hb⟩ := S.book.ob
    obtain ⟨hpos, o, ho, hat⟩ := pick_row S.law c hne
    have hrow := S.law.row o ho
    have hls : ∀ x, (sorts os x).length ≤ 100 := fun x => Nat.le_trans (len_sorts os x) hlen
    refine ⟨_, (pss_cons (ps_set (i := 3) sc_law_amend.nd rfl (Or.inl rfl) (pe_ix ix_list (pv 1) (pe_op op_mod (pe_callTy call_int1 (by rfl) T.zInt boot_int (pa_cons (pv 2) pa_nil)) (pe_callB call_len_seq (by rfl) T.zLen boot_len (pa_cons (pv 1) pa_nil))) (fun _ _ => rfl)))
    (pss_cons (ps_set (i := 4) sc_law_amend.nd rfl (Or.inl rfl) (pe_op op_add pe_int (pe_op op_mod (pe_op op_fdiv (pe_callTy call_int1 (by rfl) T.zInt boot_int (pa_cons (pv 2) pa_nil)) pe_int) pe_int)))
    (pss_cons (ps_if (pt_cmpR op_eq (pe_op op_mod (pe_op op_fdiv (pe_callTy call_int1 (by rfl) T.zInt boot_int (pa_cons (pv 2) pa_nil)) pe_int) pe_int) pe_int (nomark _))
    (pss_one (ps_set (i := 4) sc_law_amend.nd rfl (Or.inl rfl) (pe_ix ix_list (pv 3) pe_int (fun _ _ => rfl))))
    pss_nil)
    (pss_cons (ps_set (i := 5) sc_law_amend.nd rfl (Or.inl rfl) (pe_op op_add pe_int (pe_op op_mod (pe_op op_fdiv (pe_callTy call_int1 (by rfl) T.zInt boot_int (pa_cons (pv 2) pa_nil)) pe_int) pe_int)))
    (pss_cons (ps_set (i := 6) sc_law_amend.nd rfl (Or.inl rfl) (pe_m c_amend (hr.mono (by decide)) T.clB (pv 0) (pa_cons (pe_ix ix_list (pv 3) pe_int (fun _ _ => rfl)) (pa_cons (pe_ix ix_list (pv 3) pe_int (fun _ _ => rfl)) (pa_cons (pv 4) (pa_cons (pv 5) pa_nil))))))
    (pss_cons (ps_if (pw_and (pt_cmpR op_eq (pv 4) (pe_ix ix_list (pv 3) pe_int (fun _ _ => rfl)) (nomark _)) (pw_and1 (pt_cmpR op_le (pv 5) (pe_ix ix_list (pv 3) pe_int (fun _ _ => rfl)) (nomark _)))).pt
    (pss_cons (ps_asg (pv 5) (pg_sub (pv 3) pe_int set_list))
    (pss_cons (ps_asg (pe_callB (call_min2 rfl) (by rfl) T.zMin boot_min (pa_cons (pe_ix ix_list (pv 3) pe_int (fun _ _ => rfl)) (pa_cons (pv 5) pa_nil))) (pg_sub (pv 3) pe_int set_list))
    (pss_one (ps_ret (pe_f c_law_same (hr.mono (by decide)) (by rfl) (pa_cons (pv 0) (pa_cons (pv 1) (pa_cons (pv 6) (pa_cons (pe_tup (pa_cons (pe_lst pa_nil) (pa_cons (pe_lst pa_nil) (pa_cons (pv 5) pa_nil)))) (pa_cons (pe_ix ix_list (pv 3) pe_int (fun _ _ => rfl)) pa_nil))))))))))
    pss_nil)
    (pss_cons (ps_expr (pe_bm PySem.F.plainAttrs_list PySem.F.slot_list_remove PySem.F.type_list_remove (mt_remD hr.units) (pv 1) (pa_cons (pv 3) pa_nil)))
    (pss_cons (ps_set (i := 7) sc_law_amend.nd rfl (Or.inl rfl) (pe_f c_law_enter (hr.mono (by decide)) (by rfl) (pa_cons (pv 1) (pa_cons (pe_ix ix_list (pv 3) pe_int (fun _ _ => rfl)) (pa_cons (pe_ix ix_list (pv 3) pe_int (fun _ _ => rfl)) (pa_cons (pe_ix ix_list (pv 3) pe_int (fun _ _ => rfl)) (pa_cons (pv 4) (pa_cons (pv 5) (pa_cons pe_str (pa_cons (pe_callB (call_min2 rfl) (by rfl) T.zMin boot_min (pa_cons (pe_ix ix_list (pv 3) pe_int (fun _ _ => rfl)) (pa_cons (pv 5) pa_nil))) pa_nil))))))))))
    (pss_one (ps_ret (pe_f c_law_same (hr.mono (by decide)) (by rfl) (pa_cons (pv 0) (pa_cons (pv 1) (pa_cons (pv 6) (pa_cons (pv 7) (pa_cons (pe_ix ix_list (pv 3) pe_int (fun _ _ => rfl)) pa_nil)))))))))))))))), ?_⟩
    refine ⟨_, rfl, _, rfl, .inl ⟨c, rfl, _, rfl, L, _, rfl, .inl (SqL.of S.law.lst), _, _, rfl, rfl, hpos, L, _, _, _, rfl, rfl, SqL.of S.law.lst, hat, ?_⟩⟩
    refine ⟨_, rfl, .inl ⟨c, rfl, _, _, rfl, rfl, ⟨by decide, by decide⟩, _, _, rfl, rfl, (by show (0 : Int) < 7; decide), _, _, rfl, rfl, ?_⟩⟩
    have hl1 : 1 ≤ 97 + c / 24 % 7 ∧ 97 + c / 24 % 7 ≤ 1000000 := by omega
    have fin : ∀ p : Int, 1 ≤ p ∧ p ≤ 1000000 →
      tSeq (tAsg (tOp (rI0 fun i j => .int (i + j)) (tC (.int 1)) (tOp (rI (fun _ j => 0 < j) fun i j => .int (i % j)) (tOp (rI CDiv fun i j => .int (i / j)) (tCB (fun xs H Q => (∃ i, xs = [.int i] ∧ Q (.int i) H) ∨ ∃ k, xs = [.bl k] ∧ Q (.int (if k then 1 else 0)) H) (tCons (tVar 2) tNil)) (tC (.int 336))) (tC (.int 14)))) (gName 5))
       (tSeq (tAsg (tMeth CB "amend" (spAmend CO CR CB) [] E0 (tVar 0) (tCons (tOp (rIxL K) (tVar 3) (tC (.int 0))) (tCons (tOp (rIxL K) (tVar 3) (tC (.int 1))) (tCons (tVar 4) (tCons (tVar 5) tNil))))) (gName 6))
        (tSeq (tIfS (tAnd (tTest (tOp rEq (tVar 4) (tOp (rIxL K) (tVar 3) (tC (.int 3))))) (tTest (tOp (rI0 fun i j => .bl (decide (i ≤ j))) (tVar 5) (tOp (rIxL K) (tVar 3) (tC (.int 4))))))
          (tSeq (tAsg (tVar 5) (gSub (tVar 3) (tC (.int 4)) rSetL))
           (tSeq (tAsg (tCB (fun xs H Q => ∃ i j, xs = [.int i, .int j] ∧ Q (.int (if j < i then j else i)) H) (tCons (tOp (rIxL K) (tVar 3) (tC (.int 5))) (tCons (tVar 5) tNil))) (gSub (tVar 3) (tC (.int 5)) rSetL))
            (tRet (tCall (spSame CO CR CB) [] E0 (tCons (tVar 0) (tCons (tVar 1) (tCons (tVar 6) (tCons (tTup (tCons (tLst tNil) (tCons (tLst tNil) (tCons (tVar 5) tNil)))) (tCons (tOp (rIxL K) (tVar 3) (tC (.int 0))) tNil)))))))))
          tNext)
         (tSeq (tDrop (tBM K "list" (rRemD K) (tVar 1) (tCons (tVar 3) tNil)))
          (tSeq (tAsg (tCall spEnterL [] E0 (tCons (tVar 1) (tCons (tOp (rIxL K) (tVar 3) (tC (.int 0))) (tCons (tOp (rIxL K) (tVar 3) (tC (.int 1))) (tCons (tOp (rIxL K) (tVar 3) (tC (.int 2))) (tCons (tVar 4) (tCons (tVar 5) (tCons (tC (.str "rest"))
              (tCons (tCB (fun xs H Q => ∃ i j, xs = [.int i, .int j] ∧ Q (.int (if j < i then j else i)) H) (tCons (tOp (rIxL K) (tVar 3) (tC (.int 6))) (tCons (tVar 5) tNil))) tNil))))))))) (gName 7))
           (tRet (tCall (spSame CO CR CB) [] E0 (tCons (tVar 0) (tCons (tVar 1) (tCons (tVar 6) (tCons (tVar 7) (tCons (tOp (rIxL K) (tVar 3) (tC (.int 0))) tNil)))))))))))
        { nx := fun _ H' => Q .non H', rt := Q } [some (.ref b), some (.ref L), some (.int c), some (.ref (β o.num)), some (.int p), none, none, none] H := by
      intro p hp
      have hq1 : 1 ≤ 1 + c / 336 % 14 ∧ 1 + c / 336 % 14 ≤ 14 := by omega
      refine ⟨_, rfl, .inl ⟨c, rfl, _, _, rfl, rfl, ⟨by decide, by decide⟩, _, _, rfl, rfl, (by show (0 : Int) < 14; decide), _, _, rfl, rfl, ?_⟩⟩
      show tSeq _ _ _ [some (.ref b), some (.ref L), some (.int c), some (.ref (β o.num)), some (.int p), some (.int (1 + c / 336 % 14)), none, none] H
      generalize 1 + c / 336 % 14 = q at hq1 ⊢
      have hn0 : ∀ r ∈ delO o.num os, r.num ≠ o.num := fun r hr => (mem_del.mp hr).2
      have fdl := fits_del S.good o.num
      have hs0 : 0 ≤ mn o.shown q := by
        have := (S.good.wf o ho).sh
        unfold mn
        split <;> omega
      refine ⟨_, rfl, b, bx, _, rfl, hb, b_no (by decide +kernel), _, rfl, β o.num, _, _, _, rfl, rfl, SqL.of hrow, at_of (j := 0) rfl rfl, _, rfl, β o.num, _, _, _, rfl, rfl, SqL.of hrow, at_of (j := 1) rfl rfl, _, rfl, _, rfl, b, g, α, sorts os, next, o, p, q, rfl, S.book, side_sorts S.good, mem_sorts.mpr ⟨ho, rfl⟩,
        fun x q hq e => S.good.nums.inj (mem_sorts.mp hq).1 ho e, hp, ⟨hq1.1, by omega⟩, fun x => by have := hls x; omega, fun H1 g' α' rl r gd gs gl X1 kp ap hrl rep => ?_⟩
      obtain ⟨Y1, e1⟩ := S.lists kp
      have hrow1 := Y1.row o ho
      have fresh : ∀ f, H f = none → f ≠ L ∧ ∀ o ∈ os, f ≠ β o.num := fun f hf => ⟨(ne_of_none S.law.lst hf).symm, fun o ho => (ne_of_none (S.law.row o ho) hf).symm⟩
      have nrl : rl ≠ L := (ap L _ S.law.lst (S.sepL true).symm (S.sepL false).symm (ne_of S.law.lst S.book.dict (by intro z; cases z)) (by intro _ _ _ z; cases z)).symm
      have nrr : ∀ o ∈ os, rl ≠ β o.num := fun o ho => (ap _ _ (S.law.row o ho) (S.rowL o ho true).symm (S.rowL o ho false).symm (ne_of (S.law.row o ho) S.book.dict (by intro z; cases z)) (by intro _ _ _ z; cases z)).symm
      dsimp only [tSeq, tAsg, gName, tIfS]
      refine and_pure (b1 := decide (p = o.price)) (b2 := decide (q ≤ o.left)) (fun Q' k' => ⟨_, rfl, _, rfl, β o.num, _, _, _, rfl, rfl, SqL.of hrow1, at_of (j := 3) rfl rfl, rfl, _, rfl, ?_⟩)
        (fun Q' k' => ⟨_, rfl, _, rfl, β o.num, _, _, _, rfl, rfl, SqL.of hrow1, at_of (j := 4) rfl rfl, _, _, rfl, rfl, _, rfl, k'⟩) ?_
      · rw [dec_int, Bool.beq_eq_decide_eq]
        exact k'
      refine iteB (fun e => ?_) fun e => ?_
      · rw [Bool.and_eq_true] at e
        have hc : p = o.price ∧ q ≤ o.left := ⟨of_decide_eq_true e.1, of_decide_eq_true e.2⟩
        have ha : amendB o p q (sorts os) = (sorts (setO o.num q (mn o.vis q) os), ⟨[], [], q⟩) := (if_pos hc).trans (by rw [sorts_set])
        rw [ha] at X1 rep
        refine ⟨_, rfl, _, rfl, β o.num, _, _, 4, rfl, rfl, hrow1, (by rfl), ?_⟩
        refine ⟨_, rfl, β o.num, _, _, _, rfl, rfl, SqL.of upd_same, at_of (j := 5) rfl rfl, _, rfl, _, _, rfl, _, rfl, β o.num, _, _, 5, rfl, rfl, upd_same, (by rfl), ?_⟩
        rw [upd_upd]
        have hset : ((rowV o).set 4 (.int q)).set 5 (.int (if q < o.vis then q else o.vis)) = rowV { o with left := q, vis := mn o.vis q } := rfl
        rw [hset]
        have Y2 := Y1.set S.good.nums ho q (mn o.vis q)
        have kpl : KpL L β os H1 (upd H1 (β o.num) (.lst (rowV { o with left := q, vis := mn o.vis q }))) := fun y u e h1 h2 => by rw [upd_ne (h2 o ho)]; exact e
        have hrow2 : upd H1 (β o.num) (.lst (rowV { o with left := q, vis := mn o.vis q })) (β o.num) = some (.lst (rowV { o with left := q, vis := mn o.vis q })) := upd_same
        generalize upd H1 (β o.num) (.lst (rowV { o with left := q, vis := mn o.vis q })) = H2 at Y2 kpl hrow2 ⊢
        obtain ⟨dx, hh, bb, f, m, hr2, hf2, hm2⟩ := rep.kpl Y1 fresh kpl
        have fs : Fits os (setO o.num q (mn o.vis q) os) := fits_set S.good fun y hy e => by
          have := S.good.nums.inj hy ho e
          subst this
          have := (S.good.wf y hy).v1
          have h2 := mn_le_right y.vis q
          have h3 := mn_pos (i := y.vis) (j := q) (by omega) (by omega)
          omega
        have close : ∀ H4, Same H2 H4 → Sit CO CB H4 b L g' α' β (setO o.num q (mn o.vis q) os) next p0 xs0 := fun H4 s4 =>
          S.close gs gl (fun o ho => ho) X1 Y1 e1 kpl Y2 (fun y hy z u _ _ h2 => by
            obtain ⟨y0, hy0, ey⟩ := List.mem_map.mp hy
            subst ey
            rw [upO_num]
            exact h2 y0 hy0) s4 fs.good (fun y hy => by
            obtain ⟨y0, hy0, ey⟩ := fs.sub y hy
            rw [← ey]
            exact S.lt y0 hy0) fun y hy => by
            obtain ⟨y0, hy0, ey⟩ := fs.pr y hy
            rw [← ey]
            exact S.pr y0 hy0
        refine ⟨_, rfl, _, rfl, _, rfl, Nat.zero_le _, fun f2 hf2' => ⟨Nat.zero_le _, fun m2 hm2' => ⟨_, rfl, (by show 3 ≤ sizeLine; decide), fun du hdu => ?_⟩⟩⟩
        have t1 : Same H2 (upd H2 f2 (.lst [])) := Same.upd hf2'
        have t2 : Same (upd H2 f2 (.lst [])) (upd (upd H2 f2 (.lst [])) m2 (.lst [])) := Same.upd hm2'
        have t3 : Same (upd (upd H2 f2 (.lst [])) m2 (.lst [])) (upd (upd (upd H2 f2 (.lst [])) m2 (.lst [])) du (.tup [.ref f2, .ref m2, .int q])) := Same.upd hdu
        have t4 := (t1.trans t2).trans t3
        refine ⟨_, rfl, β o.num, _, _, _, rfl, rfl, SqL.of (t4 _ _ hrow2), at_of (j := 0) rfl rfl, ?_⟩
        have S4 := close _ t4
        refine ⟨b, L, rl, r, du, f, m, f2, m2, g', α', β, _, next, o.num, ⟨[], [], q⟩, dx, hh, bb, rfl, S4.book, S4.law, S4.good, by have := fs.len; omega, t4 _ _ (kpl _ _ hrl nrl nrr), t4 _ _ hr2, TupsAt.same hf2 t4, t4 _ _ hm2, upd_same, ⟨[], t3 _ _ (t2 _ _ upd_same), .nil⟩, t3 _ _ upd_same, fun H6 s6 => ?_⟩
        exact k H6 g' α' β _ (close H6 (t4.trans s6)) (Nat.le_succ_of_le fs.len)
      · have hc : ¬ (p = o.price ∧ q ≤ o.left) := fun z => by
          rw [decide_eq_true z.1, decide_eq_true z.2] at e
          cases e
        obtain ⟨es, En⟩ := enter_sim (num := o.num) (h := o.house) (b := o.buy) (lim := some p) (qty := q) (k := .rest) (shown := mn o.shown q) fdl.good hq1.1 hs0 hn0
        have ha : amendB o p q (sorts os) = (sorts (enterL o.num o.house o.buy (some p) q .rest (mn o.shown q) (delO o.num os)).1, (enterL o.num o.house o.buy (some p) q .rest (mn o.shown q) (delO o.num os)).2) := by
          rw [← es, sorts_del_setL S.good.nums ho]
          exact if_neg hc
        rw [ha] at X1 rep
        obtain ⟨j, j1, j2⟩ := place_row (β := β) S.good.nums ho
        refine ⟨_, rfl, .inl ⟨rfl, _, SqL.of Y1.lst⟩, _, rfl, L, _, rowD o, _, _, j, rfl, rfl, Y1.lst, rowsD_at Y1.row, rowD_at hrow1, rowsD_plain _, rowD_plain _, Nat.le_trans (rowsD_depth _) (by decide), j1, ?_⟩
        rw [j2]
        have Y2 := Y1.del o.num
        have kpl2 : KpL L β os H1 (upd H1 L (.lst (refs β (delO o.num os)))) := KpL.upd
        have hrow2 : upd H1 L (.lst (refs β (delO o.num os))) (β o.num) = some (.lst (rowV o)) := (upd_ne (Y1.out o ho)).trans hrow1
        generalize upd H1 L (.lst (refs β (delO o.num os))) = H2 at Y2 kpl2 hrow2 ⊢
        refine ⟨_, rfl, _, rfl, β o.num, _, _, _, rfl, rfl, SqL.of hrow2, at_of (j := 0) rfl rfl, _, rfl, β o.num, _, _, _, rfl, rfl, SqL.of hrow2, at_of (j := 1) rfl rfl, _, rfl, β o.num, _, _, _, rfl, rfl, SqL.of hrow2, at_of (j := 2) rfl rfl, _, rfl, _, rfl,
          _, rfl, β o.num, _, _, _, rfl, rfl, SqL.of hrow2, at_of (j := 6) rfl rfl, _, rfl, _, _, rfl, L, β, delO o.num os, o.num, o.house, o.buy, some p, q, mn o.shown q, .rest, rfl, Y2, fdl.good, hq1.1, hs0, hn0, by have := fdl.len; omega, fun _ => ⟨p, rfl⟩, fun H3 β' t f2 m2 ht hf2 hm2 Y3 kpl3 apl => ?_⟩
        have kpl : KpL L β os H1 H3 := fun y u e h1 h2 => kpl3 y u (kpl2 y u e h1 h2) h1 fun r hr => h2 r (mem_del.mp hr).1
        have apl1 : ∀ r ∈ (enterL o.num o.house o.buy (some p) q .rest (mn o.shown q) (delO o.num os)).1, ApartL L β os H1 (β' r.num) := fun r hr y u e h1 h2 => apl r hr y u (kpl2 y u e h1 h2) h1 fun r hr => h2 r (mem_del.mp hr).1
        obtain ⟨dx, hh, bb, f, m, hr3, hf3, hm3⟩ := rep.kpl Y1 fresh kpl
        have hlen' : (enterL o.num o.house o.buy (some p) q .rest (mn o.shown q) (delO o.num os)).1.length ≤ os.length + 1 := by
          have := En.len
          have := fdl.len
          omega
        have close : ∀ H4, Same H3 H4 → Sit CO CB H4 b L g' α' β' (enterL o.num o.house o.buy (some p) q .rest (mn o.shown q) (delO o.num os)).1 next p0 xs0 := fun H4 s4 =>
          S.close gs gl (fun o ho => ho) X1 Y1 e1 kpl Y3 apl1 s4 En.good (fun r hr => by
            rcases En.sub r hr with e | ⟨y, hy, e⟩
            · rw [e]
              exact S.lt o ho
            · rw [← e]
              exact S.lt y (mem_del.mp hy).1) fun r hr => by
            rcases En.pr r hr with ⟨_, e⟩ | ⟨y, hy, e⟩
            · rw [e]
              exact hp
            · rw [← e]
              exact S.pr y (mem_del.mp hy).1
        have S3 := close H3 (Same.refl _)
        have hrow3 : ∃ rv, H3 (β o.num) = some (.lst rv) ∧ rv[0]? = some (V.int o.num) :=
          ⟨rowV o, kpl3 _ _ hrow2 (Y1.out o ho) fun r hr => Y1.beta_ne ho (mem_del.mp hr).1 (mem_del.mp hr).2.symm, rfl⟩
        obtain ⟨rv, hrv, hrv0⟩ := hrow3
        refine ⟨_, rfl, _, rfl, _, rfl, _, rfl, _, rfl, β o.num, _, _, _, rfl, rfl, SqL.of hrv, at_of (j := 0) rfl hrv0, ?_⟩
        refine ⟨b, L, rl, r, t, f, m, f2, m2, g', α', β', _, next, o.num, _, dx, hh, bb, rfl, S3.book, S3.law, S3.good, by omega, kpl _ _ hrl nrl nrr, hr3, hf3, hm3, ht, hf2, hm2, fun H6 s6 => ?_⟩
        exact k H6 g' α' β' _ (close H6 s6) hlen'
    refine ⟨_, rfl, .inl ⟨c, rfl, _, _, rfl, rfl, ⟨by decide, by decide⟩, _, _, rfl, rfl, (by show (0 : Int) < 2; decide), rfl, _, rfl, ?_⟩⟩
    refine iteD (fun _ => ?_) fun _ => ?_
    · exact ⟨_, rfl, β o.num, _, _, _, rfl, rfl, SqL.of hrow, at_of (j := 3) rfl rfl, fin o.price (S.pr o ho)⟩
    · exact fin _ hl1
end
end Fb

namespace Fb
open PySem PySem.Spec PyProof.Rows L2
section
variable {P : Program} {w : World} {K : PySem.W.Frag} {mg : Str → Option Value} {base : Heap} {CO CR CB : Addr}
def spLaw (K : PySem.W.Frag) : Sp := fun vs H Q _ => ∃ (a : Addr) (ns : List Int), vs = [.ref a] ∧ SqL K H a (ns.map V.int) ∧ ns.length ≤ 63 ∧ ∀ H', Q (.bl true) H'
theorem cut_int {ns : List Int} {lo hi : Option Int} {i : Nat} {y : V} (h : (cutV (ns.map V.int) lo hi)[i]? = some y) : ∃ z, y = V.int z := by
  have hm := List.mem_of_getElem? h
  unfold cutV at hm
  obtain ⟨z, _, e⟩ := List.mem_map.mp (List.mem_of_mem_drop (List.mem_of_mem_take hm))
  exact ⟨z, e.symm⟩
theorem ok_law {fn : Addr} {fd : FuncData} (F : Fun K "law" "law" s_law fn fd) (T : Txt K mg CO CR CB) (c_Book : CallC P w K mg base 1 CB "Book" ["self", "first_number"] [.int 1] (spBInit CO CB))
    (c_law_cancel : CallF P w K mg base 4 "_law_cancel" ["_law_book", "_law_orders", "_law_cell"] (spLcan CO CB)) (c_law_amend : CallF P w K mg base 7 "_law_amend" ["_law_book", "_law_orders", "_law_cell"] (spLcan CO CB))
    (c_law_submit : CallF P w K mg base 7 "_law_submit" ["_law_book", "_law_orders", "_law_cell", "_law_number"] (spLsub CO CB)) : FnOk P w K mg base CX0 9 fn fd ["_law_script"] (spLaw K) := by
  refine F.ok sc_law (fun vs H Q E h => ?_) (fun cdv A outer s H vs Q E hr h => ?_)
  · obtain ⟨a, ns, rfl, _⟩ := h
    rfl
  · obtain ⟨a, ns, rfl, hS, hlen, k⟩ := h
    refine ⟨_, (pss_cons (ps_set (i := 1) sc_law.nd rfl (Or.inl rfl) (pe_c0 c_Book (hr.mono (by decide)) (by rfl)))
    (pss_cons (ps_set (i := 2) sc_law.nd rfl (Or.inl rfl) (pe_lst pa_nil))
    (pss_cons (ps_set (i := 3) sc_law.nd rfl (Or.inl rfl) pe_int)
    (pss_cons (ps_for PassesOwn.never rfl (pi_list (pe_slice sl_list (pv 0) po_none (po_some pe_int))) (pg_name (i := 4) sc_law.nd rfl (Or.inl rfl))
    (pss_cons (ps_set (i := 5) sc_law.nd rfl (Or.inl rfl) (pe_op op_mod (pe_callTy call_int1 (by rfl) T.zInt boot_int (pa_cons (pv 4) pa_nil)) pe_int))
    (pss_cons (ps_if (pw_and (pt_cmpR op_eq (pv 5) pe_int (nomark _)) (pw_and1 (pt_truth (pv 2) (by intro _; rfl)))).pt
    (pss_one (ps_set (i := 6) sc_law.nd rfl (Or.inl rfl) (pe_f c_law_cancel (hr.mono (by decide)) (by rfl) (pa_cons (pv 1) (pa_cons (pv 2) (pa_cons (pe_op op_fdiv (pv 4) pe_int) pa_nil))))))
    (pss_one (ps_if (pw_and (pt_cmpR op_eq (pv 5) pe_int (nomark _)) (pw_and1 (pt_truth (pv 2) (by intro _; rfl)))).pt
    (pss_one (ps_set (i := 6) sc_law.nd rfl (Or.inl rfl) (pe_f c_law_amend (hr.mono (by decide)) (by rfl) (pa_cons (pv 1) (pa_cons (pv 2) (pa_cons (pe_op op_fdiv (pv 4) pe_int) pa_nil))))))
    (pss_cons (ps_set (i := 3) sc_law.nd rfl (Or.inl rfl) (pe_op op_add (pv 3) pe_int))
    (pss_one (ps_set (i := 6) sc_law.nd rfl (Or.inl rfl) (pe_f c_law_submit (hr.mono (by decide)) (by rfl) (pa_cons (pv 1) (pa_cons (pv 2) (pa_cons (pe_op op_fdiv (pv 4) pe_int) (pa_cons (pv 3) pa_nil)))))))))))
    (pss_one (ps_if (pt_not (pt_truth (pv 6) (by intro _; rfl)))
    (pss_one (ps_ret pe_bl))
    pss_nil)))))
    (pss_one (ps_ret pe_bl)))))), ?_⟩
    intro bk db nb ndb nn
    refine ⟨bk, db, rfl, upd_same, fun H1 g X kp gl gst => ⟨rfl, ?_⟩⟩
    have s1 : Same H H1 := fun y u e => kp y u (by rw [upd_ne (ne_of_none e nb), upd_ne (ne_of_none e ndb)]; exact e) (ne_of_none e nb)
    refine ⟨Nat.zero_le _, fun L hL => ?_⟩
    have s2 : Same H1 (upd H1 L (.lst [])) := Same.upd hL
    refine ⟨_, rfl, 24, rfl, a, _, rfl, (s1.trans s2).seq hS, fun p0 hp0 => ?_⟩
    have hcut := cutV_length (ns.map V.int) none (some 24)
    rw [List.length_map] at hcut
    generalize hxs : cutV (ns.map V.int) none (some 24) = xs0 at hcut ⊢
    have s3 : Same (upd H1 L (.lst [])) (upd (upd H1 L (.lst [])) p0 (.lst xs0)) := Same.upd hp0
    have X1 := X fun _ => 0
    have S0 : Sit CO CB (upd (upd H1 L (.lst [])) p0 (.lst xs0)) bk L g (fun _ => 0) (fun _ => 0) [] 1 p0 xs0 :=
      ⟨X1.same (s2.trans s3), ⟨s3 _ _ upd_same, fun o ho => (by simp at ho), fun o ho => (by simp at ho)⟩, ⟨by unfold Nums; simp, fun o ho => (by simp at ho)⟩, fun o ho => (by simp at ho), fun o ho => (by simp at ho), upd_same,
        fun x => (ne_of_none (s2 _ _ (X1.lst x)) hp0).symm, fun x => ne_of_none (X1.lst x) hL, ne_of_none X1.st hL, (ne_of_none upd_same hp0).symm, fun o ho => (by simp at ho), fun o ho => (by simp at ho), fun o ho => (by simp at ho)⟩
    refine ⟨p0, rfl, ⟨_, SqL.of upd_same⟩, for_list (K := K) (a := p0) (xs := xs0) (fun i σ' H' => ∃ (g : Geo) (α β : Int → Addr) (os : List Ord) (num : Int) (v4 v5 v6 : Option V), σ' = [some (.ref a), some (.ref bk), some (.ref L), some (.int num), v4, v5, v6] ∧ Sit CO CB H' bk L g α β os (num + 1) p0 xs0 ∧ os.length ≤ i)
      ⟨g, _, _, [], 0, none, none, none, rfl, S0, Nat.le_refl _⟩ (fun i σ' H' _ ⟨_, _, _, _, _, _, _, _, _, S, _⟩ => SqL.of S.src) ?_ ?_⟩
    · rintro i y σ' H' hi ⟨g, α, β, os, num, v4, v5, v6, rfl, S, hl⟩
      obtain ⟨z, rfl⟩ := cut_int (ns := ns) (lo := none) (hi := some 24) (by rw [hxs]; exact hi)
      have hi63 : i < 63 := by
        have := (List.getElem?_eq_some_iff.mp hi).1
        omega
      have ne_of_nil : (!(refs β os).isEmpty) = true → os ≠ [] := fun e h => by
        rw [h] at e
        cases e
      refine ⟨_, rfl, .inl ⟨z, rfl, _, _, rfl, rfl, (by show (0 : Int) < 8; decide), ?_⟩⟩
      dsimp only [tSeq, tAsg, gName, tIfS]
      refine and_pure (b1 := decide (z % 8 = 6)) (b2 := !(refs β os).isEmpty) (fun Q' k' => ⟨_, rfl, rfl, _, rfl, by rw [dec_int, Bool.beq_eq_decide_eq]; exact k'⟩) (fun Q' k' => ⟨_, rfl, _, .inl ⟨_, SqL.of S.law.lst, rfl⟩, k'⟩) ?_
      refine iteB (fun e => ?_) fun e => ?_
      · rw [Bool.and_eq_true] at e
        refine ⟨_, rfl, _, rfl, _, rfl, _, _, rfl, rfl, ⟨by decide, by decide⟩, bk, L, g, α, β, os, num + 1, p0, xs0, z / 8, rfl, S, ne_of_nil e.2, by omega, fun H2 g' α' β' os' S' hl' => ?_⟩
        exact ⟨_, rfl, true, rfl, iteF ⟨g', α', β', os', num, _, _, _, rfl, S', by omega⟩⟩
      · refine and_pure (b1 := decide (z % 8 = 7)) (b2 := !(refs β os).isEmpty) (fun Q' k' => ⟨_, rfl, rfl, _, rfl, by rw [dec_int, Bool.beq_eq_decide_eq]; exact k'⟩) (fun Q' k' => ⟨_, rfl, _, .inl ⟨_, SqL.of S.law.lst, rfl⟩, k'⟩) ?_
        refine iteB (fun e => ?_) fun e => ?_
        · rw [Bool.and_eq_true] at e
          refine ⟨_, rfl, _, rfl, _, rfl, _, _, rfl, rfl, ⟨by decide, by decide⟩, bk, L, g, α, β, os, num + 1, p0, xs0, z / 8, rfl, S, ne_of_nil e.2, by omega, fun H2 g' α' β' os' S' hl' => ?_⟩
          exact ⟨_, rfl, true, rfl, iteF ⟨g', α', β', os', num, _, _, _, rfl, S', by omega⟩⟩
        · refine ⟨_, rfl, _, _, rfl, rfl, ?_⟩
          refine ⟨_, rfl, _, rfl, _, rfl, _, _, rfl, rfl, ⟨by decide, by decide⟩, _, rfl, bk, L, g, α, β, os, num + 1, p0, xs0, z / 8, rfl, S, by omega, fun H2 g' α' β' os' S' hl' => ?_⟩
          exact ⟨_, rfl, true, rfl, iteF ⟨g', α', β', os', num + 1, _, _, _, rfl, S', by omega⟩⟩
    · rintro σ' H' _
      exact k H'
end
end Fb

namespace Fb
open PySem PySem.Spec PyProof.Rows L2
/-! ### all defs together -/
section
variable {P : Program} {w : World} {K : PySem.W.Frag} {mg : Str → Option Value} {base : Heap} {CO CR CB C : Addr} {x qual : Str} {st : Stmt} {k : Nat} {ps : List Str} {sp : Sp}
theorem callF (f : FunF K mg x qual st) (ok : ∀ {f : Addr} {fd : FuncData}, Fun K x qual st f fd → FnOk P w K mg base CX0 k f fd ps sp)
    (hb : ∀ (kV doc pm : Value) (an : Option Addr) (cdv ct : Value) (us : List Value), us.length = ps.length → bindArgs (PySem.W.fnOf x qual (defArgs st) (defBody st) (defScope st) .none kV doc pm an cdv ct) ⟨us, []⟩ = pure (ps.zip us)) : CallF P w K mg base k x ps sp := by
  obtain ⟨f, fd, m, F⟩ := f.ex
  exact ⟨f, fd, ok F, m, F.kp, F.binds hb⟩
theorem callM (f : FunM K C x qual st) (ok : ∀ {f : Addr} {fd : FuncData}, Fun K x qual st f fd → FnOk P w K mg base CX0 k f fd ps sp)
    (hb : ∀ (kV doc pm : Value) (an : Option Addr) (cdv ct : Value) (us : List Value), us.length = ps.length → bindArgs (PySem.W.fnOf x qual (defArgs st) (defBody st) (defScope st) .none kV doc pm an cdv ct) ⟨us, []⟩ = pure (ps.zip us)) : CallM P w K mg base k C x ps sp := by
  obtain ⟨f, fd, m, F⟩ := f.ex
  exact ⟨f, fd, ok F, m, F.binds hb⟩
theorem callC {c : Str} (f : FunM K C "__init__" qual st) (mk : PySem.W.makesIn K C = true) (kc : PySem.W.keepIn K (.ref C) = true) (mc : mg c = some (.ref C)) (ok : ∀ {f : Addr} {fd : FuncData}, Fun K "__init__" qual st f fd → FnOk P w K mg base CX0 k f fd ps sp)
    (hb : ∀ (kV doc pm : Value) (an : Option Addr) (cdv ct : Value) (us : List Value), us.length = ps.length → bindArgs (PySem.W.fnOf "__init__" qual (defArgs st) (defBody st) (defScope st) .none kV doc pm an cdv ct) ⟨us, []⟩ = pure (ps.zip us)) : CallC P w K mg base k C c ps [] sp := by
  obtain ⟨f, fd, m, F⟩ := f.ex
  exact ⟨f, fd, [], ok F, ⟨mk, m.at_, m.fn, kc⟩, mc, F.binds hb, .nil⟩
theorem callN {n : Nat} {ks : List Str} (f : FunM K C x qual st) (ok : ∀ {f : Addr} {fd : FuncData}, Fun K x qual st f fd → FnOk P w K mg base CX0 k f fd ps sp)
    (hb : ∀ (kV doc pm : Value) (an : Option Addr) (cdv ct : Value) (us ws : List Value), us.length = n → ws.length = ks.length → bindArgs (PySem.W.fnOf x qual (defArgs st) (defBody st) (defScope st) .none kV doc pm an cdv ct) ⟨us, ks.zip ws⟩ = pure (ps.zip (us ++ ws))) : CallN P w K mg base k C x ps n ks sp := by
  obtain ⟨f, fd, m, F⟩ := f.ex
  refine ⟨f, fd, fun us ws => us ++ ws, ok F, m, ⟨fun s us ws _ l1 l2 => ?_, fun r1 r2 => r1.append r2⟩⟩
  obtain ⟨oc, od, kV, doc, pm, an, cdv, ct, osl, rfl, lk, hcd⟩ := F.ex
  exact .of_eq (hb kV doc pm an cdv ct us ws l1 l2)
theorem callB (f : FunI K CB) (mc : mg "Book" = some (.ref CB)) (T : Txt K mg CO CR CB) : CallC P w K mg base 1 CB "Book" ["self", "first_number"] [.int 1] (spBInit CO CB) := by
  obtain ⟨f, fd, M, F⟩ := f.ex
  obtain ⟨ds, hv, hb⟩ := F.binds1 (ps := ["self", "first_number"]) 1 0 (by simp) rfl fun T kV doc pm an cdv ct us its hu hi => match us, its, hu, hi with
    | [_], [_], _, _ => ⟨_, rfl, rfl⟩
  exact ⟨f, fd, ds, ok_binit F T, M, mc, hb, hv⟩
end
theorem law_of {l : PySem.W.OpenLaw} {w : World} {K : PySem.W.Frag} {mg : Str → Option Value} {fa CO CR CB : Addr} (hfa : mg "law" = some (.ref fa)) (F : Facts K mg CO CR CB) :
    ∃ fd : FuncData, (∀ (s : Shared) (v : Value), BindsTo s fd ⟨[v], []⟩ [("_law_script", v)]) ∧ ∀ base : Heap, K.In base → base.Ns mainGlobals mg → FnOk l.prog w K mg base CX0 9 fa fd ["_law_script"] (spLaw K) := by
  obtain ⟨f, fd, m, FL⟩ := F.f_law.ex
  have e := hfa.symm.trans m
  cases e
  refine ⟨fd, fun s v => ?_, fun base _ _ => ?_⟩
  · obtain ⟨oc, od, kV, doc, pm, an, cdv, ct, osl, rfl, lk, hcd⟩ := FL.ex
    exact .of_eq rfl
  have T := F.T
  have c_is_integer := callF (P := l.prog) (w := w) (base := base) F.f_is_integer (fun G => ok_is_integer G T) (fun _ _ _ _ _ _ us hl => match us, hl with | [_], _ => rfl)
  have c_in_range := callF (P := l.prog) (w := w) (base := base) F.f_in_range (fun G => ok_in_range G T c_is_integer) (fun _ _ _ _ _ _ us hl => match us, hl with | [_], _ => rfl)
  have c_show_next_part := callM (P := l.prog) (w := w) (mg := mg) (base := base) F.f_Order_show_next_part (fun G => ok_show G T) (fun _ _ _ _ _ _ us hl => match us, hl with | [_], _ => rfl)
  have c_Order := callC (P := l.prog) (w := w) (base := base) F.f_Order__init F.mkO F.kcO F.mO (fun G => ok_oinit G T c_show_next_part) (fun _ _ _ _ _ _ us hl => match us, hl with | [_, _, _, _, _, _, _], _ => rfl)
  have c_take := callM (P := l.prog) (w := w) (mg := mg) (base := base) F.f_Order_take (fun G => ok_take G T) (fun _ _ _ _ _ _ us hl => match us, hl with | [_, _], _ => rfl)
  have c_reduce := callM (P := l.prog) (w := w) (mg := mg) (base := base) F.f_Order_reduce (fun G => ok_reduce G T) (fun _ _ _ _ _ _ us hl => match us, hl with | [_, _], _ => rfl)
  have c_entry := callM (P := l.prog) (w := w) (mg := mg) (base := base) F.f_Order_entry (fun G => ok_entry G T) (fun _ _ _ _ _ _ us hl => match us, hl with | [_], _ => rfl)
  have c_other_side := callF (P := l.prog) (w := w) (base := base) F.f_other_side (fun G => ok_other G T) (fun _ _ _ _ _ _ us hl => match us, hl with | [_], _ => rfl)
  have c_is_better := callF (P := l.prog) (w := w) (base := base) F.f_is_better (fun G => ok_better G T) (fun _ _ _ _ _ _ us hl => match us, hl with | [_, _, _], _ => rfl)
  have c_accepts := callF (P := l.prog) (w := w) (base := base) F.f_accepts (fun G => ok_accepts G T) (fun _ _ _ _ _ _ us hl => match us, hl with | [_, _, _], _ => rfl)
  have c_check_order := callF (P := l.prog) (w := w) (base := base) F.f_check_order (fun G => ok_check G T c_is_integer c_in_range) (fun _ _ _ _ _ _ us hl => match us, hl with | [_, _, _, _, _], _ => rfl)
  have c_Report := callC (P := l.prog) (w := w) (base := base) F.f_Report__init F.mkR F.kcR F.mR (fun G => ok_rinit G T) (fun _ _ _ _ _ _ us hl => match us, hl with | [_, _, _, _, _], _ => rfl)
  have c_orders := callM (P := l.prog) (w := w) (mg := mg) (base := base) F.f_Book_orders (fun G => ok_orders G T c_entry) (fun _ _ _ _ _ _ us hl => match us, hl with | [_, _], _ => rfl)
  have c_new_number := callM (P := l.prog) (w := w) (mg := mg) (base := base) F.f_Book_new_number (fun G => ok_new G T) (fun _ _ _ _ _ _ us hl => match us, hl with | [_], _ => rfl)
  have c_first_reached := callM (P := l.prog) (w := w) (mg := mg) (base := base) F.f_Book_first_reached (fun G => ok_first G T) (fun _ _ _ _ _ _ us hl => match us, hl with | [_], _ => rfl)
  have c_trigger := callM (P := l.prog) (w := w) (mg := mg) (base := base) F.f_Book_trigger (fun G => ok_trig G T c_first_reached) (fun _ _ _ _ _ _ us hl => match us, hl with | [_], _ => rfl)
  have c_owned := callM (P := l.prog) (w := w) (mg := mg) (base := base) F.f_Book_owned (fun G => ok_owned G T) (fun _ _ _ _ _ _ us hl => match us, hl with | [_, _, _], _ => rfl)
  have c_remove := callM (P := l.prog) (w := w) (mg := mg) (base := base) F.f_Book_remove (fun G => ok_remove G T) (fun _ _ _ _ _ _ us hl => match us, hl with | [_, _], _ => rfl)
  have c_insert := callM (P := l.prog) (w := w) (mg := mg) (base := base) F.f_Book_insert (fun G => ok_insert G T c_is_better) (fun _ _ _ _ _ _ us hl => match us, hl with | [_, _], _ => rfl)
  have c_available := callM (P := l.prog) (w := w) (mg := mg) (base := base) F.f_Book_available (fun G => ok_avail G T c_other_side c_accepts) (fun _ _ _ _ _ _ us hl => match us, hl with | [_, _], _ => rfl)
  have c_settle_first := callM (P := l.prog) (w := w) (mg := mg) (base := base) F.f_Book_settle_first (fun G => ok_settle G T c_show_next_part c_insert) (fun _ _ _ _ _ _ us hl => match us, hl with | [_, _, _], _ => rfl)
  have c_match := callM (P := l.prog) (w := w) (mg := mg) (base := base) F.f_Book_match (fun G => ok_match G T c_other_side c_accepts c_take c_settle_first) (fun _ _ _ _ _ _ us hl => match us, hl with | [_, _, _, _], _ => rfl)
  have c_enter := callM (P := l.prog) (w := w) (mg := mg) (base := base) F.f_Book_enter (fun G => ok_enter G T c_available c_match c_show_next_part c_insert c_Report) (fun _ _ _ _ _ _ us hl => match us, hl with | [_, _, _], _ => rfl)
  have c_cancel := callM (P := l.prog) (w := w) (mg := mg) (base := base) F.f_Book_cancel (fun G => ok_cancel G T c_owned c_remove) (fun _ _ _ _ _ _ us hl => match us, hl with | [_, _, _], _ => rfl)
  have c_amend := callM (P := l.prog) (w := w) (mg := mg) (base := base) F.f_Book_amend (fun G => ok_amend G T c_in_range c_owned c_remove c_reduce c_Report c_Order c_enter c_trigger) (fun _ _ _ _ _ _ us hl => match us, hl with | [_, _, _, _, _], _ => rfl)
  have c_submit := callN (P := l.prog) (w := w) (mg := mg) (base := base) (n := 5) (ks := ["kind", "shown"]) F.f_Book_submit (fun G => ok_submit G T c_check_order c_new_number c_Order c_enter c_trigger) (fun _ _ _ _ _ _ us ws h1 h2 => match us, ws, h1, h2 with | [_, _, _, _, _], [_, _], _, _ => rfl)
  have c_law_house := callF (P := l.prog) (w := w) (base := base) F.f_law_house (fun G => ok_house G T) (fun _ _ _ _ _ _ us hl => match us, hl with | [_], _ => rfl)
  have c_law_resting_side := callF (P := l.prog) (w := w) (base := base) F.f_law_resting_side (fun G => ok_resting G T) (fun _ _ _ _ _ _ us hl => match us, hl with | [_], _ => rfl)
  have c_law_fits := callF (P := l.prog) (w := w) (base := base) F.f_law_fits (fun G => ok_fits G T) (fun _ _ _ _ _ _ us hl => match us, hl with | [_, _, _], _ => rfl)
  have c_law_first := callF (P := l.prog) (w := w) (base := base) F.f_law_first (fun G => ok_firstL G T c_law_fits) (fun _ _ _ _ _ _ us hl => match us, hl with | [_, _, _], _ => rfl)
  have c_law_visible := callF (P := l.prog) (w := w) (base := base) F.f_law_visible (fun G => ok_visible G T) (fun _ _ _ _ _ _ us hl => match us, hl with | [_, _], _ => rfl)
  have c_law_trade := callF (P := l.prog) (w := w) (base := base) F.f_law_trade (fun G => ok_trade G T c_law_first c_law_resting_side c_law_visible) (fun _ _ _ _ _ _ us hl => match us, hl with | [_, _, _, _, _], _ => rfl)
  have c_law_available := callF (P := l.prog) (w := w) (base := base) F.f_law_available (fun G => ok_availL G T c_law_fits c_law_resting_side) (fun _ _ _ _ _ _ us hl => match us, hl with | [_, _, _, _], _ => rfl)
  have c_law_enter := callF (P := l.prog) (w := w) (base := base) F.f_law_enter (fun G => ok_enterL G T c_law_available c_law_trade c_law_visible) (fun _ _ _ _ _ _ us hl => match us, hl with | [_, _, _, _, _, _, _, _], _ => rfl)
  have c_law_listed := callF (P := l.prog) (w := w) (base := base) F.f_law_listed (fun G => ok_listed G T c_law_first) (fun _ _ _ _ _ _ us hl => match us, hl with | [_, _], _ => rfl)
  have c_law_same := callF (P := l.prog) (w := w) (base := base) F.f_law_same (fun G => ok_same G T c_orders c_law_listed) (fun _ _ _ _ _ _ us hl => match us, hl with | [_, _, _, _, _], _ => rfl)
  have c_law_submit := callF (P := l.prog) (w := w) (base := base) F.f_law_submit (fun G => ok_lsub G T c_law_house c_submit c_law_enter c_law_same) (fun _ _ _ _ _ _ us hl => match us, hl with | [_, _, _, _], _ => rfl)
  have c_law_cancel := callF (P := l.prog) (w := w) (base := base) F.f_law_cancel (fun G => ok_lcan G T c_cancel c_orders c_law_listed) (fun _ _ _ _ _ _ us hl => match us, hl with | [_, _, _], _ => rfl)
  have c_law_amend := callF (P := l.prog) (w := w) (base := base) F.f_law_amend (fun G => ok_lam G T c_amend c_law_enter c_law_same) (fun _ _ _ _ _ _ us hl => match us, hl with | [_, _, _], _ => rfl)
  have c_Book := callB (P := l.prog) (w := w) (base := base) F.bookInit F.mB T
  exact ok_law FL T c_Book c_law_cancel c_law_amend c_law_submit
/-- texts of the written part, by their codes -/
theorem vals_strs : ∀ {xs : List V} {us : List Value}, (xs.length == us.length && (xs.zip us).all fun p => match p with | (.str x, .str y _) => decide (x = y) | _ => false) = true → Vals xs us
  | [], [], _ => .nil
  | [], _ :: _, h => by simp at h
  | _ :: _, [], h => by simp at h
  | x :: xs, u :: us, h => by
    rw [Bool.and_eq_true] at h
    obtain ⟨h1, h2⟩ := h
    rw [List.zip_cons_cons, List.all_cons, Bool.and_eq_true] at h2
    refine .cons ?_ (vals_strs (by rw [Bool.and_eq_true]; exact ⟨by simpa using h1, h2.2⟩))
    have h3 := h2.1
    split at h3
    · rename_i y z t e
      obtain ⟨e1, e2⟩ := Prod.mk.inj e
      subst e1 e2
      exact ⟨t, by rw [of_decide_eq_true h3]⟩
    · cases h3
theorem walk {l : PySem.W.OpenLaw} {q : Program} {loose : List Str} {XP : (Str → Option Value) → Heap → Prop} {YP : World → Heap → Prop} {d : DefRec} {K : Params → PySem.W.Frag} (hn : l.most = some 63) (hdf : d.params.defaults = [])
    (hY : ∀ (w : World) (h : Heap), YP w h → (K w.params).In h)
    (F : ∀ (w : World) (mg : Str → Option Value) (fa : Addr) (h : Heap), (K w.params).In h → h.Ns mainGlobals mg → mg d.name = some (.ref fa) →
      ∃ fd : FuncData, (∀ (s : Shared) (u : Value), BindsTo s fd ⟨[u], []⟩ [("_law_script", u)]) ∧ ∀ base : Heap, (K w.params).In base → base.Ns mainGlobals mg → FnOk l.prog w (K w.params) mg base CX0 9 fa fd ["_law_script"] (spLaw (K w.params))) :
    PySem.W.WalkO q loose XP YP l.row.toRowW d [] (fun f vs => PySem.call f vs) :=
  L2.walk_of (n := 63) (k := 9) (x := "_law_script") (CX := fun _ => CX0) (sp := fun w => spLaw (K w.params)) hn (by decide) hdf ⟨rfl, by decide, by decide⟩ hY F (fun _ _ a ns hl _ hS => ⟨a, ns, rfl, hS, hl, fun _ => rfl⟩) fun _ _ _ _ _ z => z
end Fb

open PySem PySem.W PyProof.Rows
set_option maxRecDepth 100000 in
set_option maxHeartbeats 0 in
theorem PySem.Challenge.cw_fairbourse_k24_book_whole_model_holds : PySem.Challenge.rw_fairbourse_k24_book_whole_model.Holds := by
  w_on; o_law; k_head; (case hw => w_witness2)
  k_fill
  refine Fb.walk (l := PySem.Challenge.rw_fairbourse_k24_book_whole_model) rfl rfl (fun w h Y => PySem.W.kIn_of Y) ?F
  case F =>
    intro w mg fa h KX G hmg
    refine' Fb.law_of hmg (Fb.Facts.of KX G ?aO ?aR ?aB ?pgO ?hdO ?poO ?saO ?mkO ?kcO ?nO_number ?nO_house ?nO_side ?nO_price ?nO_left ?nO_shown ?nO_visible ?pgR ?hdR ?poR ?saR ?mkR ?kcR ?nR_number ?nR_house ?nR_side ?nR_fills ?nR_removed ?nR_resting ?pgB ?hdB ?poB ?saB ?mkB ?kcB ?nB_resting ?nB_stops ?nB_next_number ?nB_last ?zIsi ?zInt ?zBool ?zMin ?zLen ?zRange ?gG ?gS ?lS ?cS ?gK ?lK ?cK ?iS ?iK ?bookInit ?f_is_integer ?f_in_range ?f_Order__init ?f_Order_show_next_part ?f_Order_take ?f_Order_reduce ?f_Order_entry ?f_other_side ?f_is_better ?f_accepts ?f_check_order ?f_Report__init ?f_Book_orders ?f_Book_submit ?f_Book_cancel ?f_Book_amend ?f_Book_new_number ?f_Book_owned ?f_Book_remove ?f_Book_insert ?f_Book_available ?f_Book_enter ?f_Book_match ?f_Book_settle_first ?f_Book_trigger ?f_Book_first_reached ?f_law_house ?f_law_resting_side ?f_law_fits ?f_law_first ?f_law_visible ?f_law_trade ?f_law_available ?f_law_enter ?f_law_listed ?f_law_same ?f_law_submit ?f_law_cancel ?f_law_amend ?f_law)
    (case aO => k_is)
    (case aR => k_is)
    (case aB => k_is)
    (case pgO => k_is)
    (case hdO => k_is)
    (case poO => k_is)
    (case saO => k_is)
    (case mkO => k_is)
    (case kcO => k_is)
    (case nO_number => k_is)
    (case nO_house => k_is)
    (case nO_side => k_is)
    (case nO_price => k_is)
    (case nO_left => k_is)
    (case nO_shown => k_is)
    (case nO_visible => k_is)
    (case pgR => k_is)
    (case hdR => k_is)
    (case poR => k_is)
    (case saR => k_is)
    (case mkR => k_is)
    (case kcR => k_is)
    (case nR_number => k_is)
    (case nR_house => k_is)
    (case nR_side => k_is)
    (case nR_fills => k_is)
    (case nR_removed => k_is)
    (case nR_resting => k_is)
    (case pgB => k_is)
    (case hdB => k_is)
    (case poB => k_is)
    (case saB => k_is)
    (case mkB => k_is)
    (case kcB => k_is)
    (case nB_resting => k_is)
    (case nB_stops => k_is)
    (case nB_next_number => k_is)
    (case nB_last => k_is)
    (case zIsi => k_is)
    (case zInt => k_is)
    (case zBool => k_is)
    (case zMin => k_is)
    (case zLen => k_is)
    (case zRange => k_is)
    (case gG => k_is)
    (case gS => k_is)
    (case lS => k_is)
    (case cS => exact rfl)
    (case gK => k_is)
    (case lK => k_is)
    (case cK => exact rfl)
    (case iS => exact Fb.vals_strs (by decide +kernel))
    (case iK => exact Fb.vals_strs (by decide +kernel))
    (case bookInit => (refine' Fb.FunI.of ?m ?kc ?a ?i ?l ?c ?k ?lT ?v; (case m => k_is); (case kc => k_is); (case a => k_is); (case i => k_is); (case l => k_is); (case c => k_is); (case k => k_is); (case lT => k_is); (case v => exact .cons ⟨_, rfl⟩ .nil)))
    (case f_is_integer => (refine' Fb.FunF.of KX G ?a ?l ?c ?k; (case a => k_is); (case l => k_is); (case c => k_is); (case k => k_is)))
    (case f_in_range => (refine' Fb.FunF.of KX G ?a ?l ?c ?k; (case a => k_is); (case l => k_is); (case c => k_is); (case k => k_is)))
    (case f_Order__init => (refine' Fb.FunM.of ?a ?i ?l ?c ?k; (case a => k_is); (case i => k_is); (case l => k_is); (case c => k_is); (case k => k_is)))
    (case f_Order_show_next_part => (refine' Fb.FunM.of ?a ?i ?l ?c ?k; (case a => k_is); (case i => k_is); (case l => k_is); (case c => k_is); (case k => k_is)))
    (case f_Order_take => (refine' Fb.FunM.of ?a ?i ?l ?c ?k; (case a => k_is); (case i => k_is); (case l => k_is); (case c => k_is); (case k => k_is)))
    (case f_Order_reduce => (refine' Fb.FunM.of ?a ?i ?l ?c ?k; (case a => k_is); (case i => k_is); (case l => k_is); (case c => k_is); (case k => k_is)))
    (case f_Order_entry => (refine' Fb.FunM.of ?a ?i ?l ?c ?k; (case a => k_is); (case i => k_is); (case l => k_is); (case c => k_is); (case k => k_is)))
    (case f_other_side => (refine' Fb.FunF.of KX G ?a ?l ?c ?k; (case a => k_is); (case l => k_is); (case c => k_is); (case k => k_is)))
    (case f_is_better => (refine' Fb.FunF.of KX G ?a ?l ?c ?k; (case a => k_is); (case l => k_is); (case c => k_is); (case k => k_is)))
    (case f_accepts => (refine' Fb.FunF.of KX G ?a ?l ?c ?k; (case a => k_is); (case l => k_is); (case c => k_is); (case k => k_is)))
    (case f_check_order => (refine' Fb.FunF.of KX G ?a ?l ?c ?k; (case a => k_is); (case l => k_is); (case c => k_is); (case k => k_is)))
    (case f_Report__init => (refine' Fb.FunM.of ?a ?i ?l ?c ?k; (case a => k_is); (case i => k_is); (case l => k_is); (case c => k_is); (case k => k_is)))
    (case f_Book_orders => (refine' Fb.FunM.of ?a ?i ?l ?c ?k; (case a => k_is); (case i => k_is); (case l => k_is); (case c => k_is); (case k => k_is)))
    (case f_Book_submit => (refine' Fb.FunM.of ?a ?i ?l ?c ?k; (case a => k_is); (case i => k_is); (case l => k_is); (case c => k_is); (case k => k_is)))
    (case f_Book_cancel => (refine' Fb.FunM.of ?a ?i ?l ?c ?k; (case a => k_is); (case i => k_is); (case l => k_is); (case c => k_is); (case k => k_is)))
    (case f_Book_amend => (refine' Fb.FunM.of ?a ?i ?l ?c ?k; (case a => k_is); (case i => k_is); (case l => k_is); (case c => k_is); (case k => k_is)))
    (case f_Book_new_number => (refine' Fb.FunM.of ?a ?i ?l ?c ?k; (case a => k_is); (case i => k_is); (case l => k_is); (case c => k_is); (case k => k_is)))
    (case f_Book_owned => (refine' Fb.FunM.of ?a ?i ?l ?c ?k; (case a => k_is); (case i => k_is); (case l => k_is); (case c => k_is); (case k => k_is)))
    (case f_Book_remove => (refine' Fb.FunM.of ?a ?i ?l ?c ?k; (case a => k_is); (case i => k_is); (case l => k_is); (case c => k_is); (case k => k_is)))
    (case f_Book_insert => (refine' Fb.FunM.of ?a ?i ?l ?c ?k; (case a => k_is); (case i => k_is); (case l => k_is); (case c => k_is); (case k => k_is)))
    (case f_Book_available => (refine' Fb.FunM.of ?a ?i ?l ?c ?k; (case a => k_is); (case i => k_is); (case l => k_is); (case c => k_is); (case k => k_is)))
    (case f_Book_enter => (refine' Fb.FunM.of ?a ?i ?l ?c ?k; (case a => k_is); (case i => k_is); (case l => k_is); (case c => k_is); (case k => k_is)))
    (case f_Book_match => (refine' Fb.FunM.of ?a ?i ?l ?c ?k; (case a => k_is); (case i => k_is); (case l => k_is); (case c => k_is); (case k => k_is)))
    (case f_Book_settle_first => (refine' Fb.FunM.of ?a ?i ?l ?c ?k; (case a => k_is); (case i => k_is); (case l => k_is); (case c => k_is); (case k => k_is)))
    (case f_Book_trigger => (refine' Fb.FunM.of ?a ?i ?l ?c ?k; (case a => k_is); (case i => k_is); (case l => k_is); (case c => k_is); (case k => k_is)))
    (case f_Book_first_reached => (refine' Fb.FunM.of ?a ?i ?l ?c ?k; (case a => k_is); (case i => k_is); (case l => k_is); (case c => k_is); (case k => k_is)))
    (case f_law_house => (refine' Fb.FunF.of KX G ?a ?l ?c ?k; (case a => k_is); (case l => k_is); (case c => k_is); (case k => k_is)))
    (case f_law_resting_side => (refine' Fb.FunF.of KX G ?a ?l ?c ?k; (case a => k_is); (case l => k_is); (case c => k_is); (case k => k_is)))
    (case f_law_fits => (refine' Fb.FunF.of KX G ?a ?l ?c ?k; (case a => k_is); (case l => k_is); (case c => k_is); (case k => k_is)))
    (case f_law_first => (refine' Fb.FunF.of KX G ?a ?l ?c ?k; (case a => k_is); (case l => k_is); (case c => k_is); (case k => k_is)))
    (case f_law_visible => (refine' Fb.FunF.of KX G ?a ?l ?c ?k; (case a => k_is); (case l => k_is); (case c => k_is); (case k => k_is)))
    (case f_law_trade => (refine' Fb.FunF.of KX G ?a ?l ?c ?k; (case a => k_is); (case l => k_is); (case c => k_is); (case k => k_is)))
    (case f_law_available => (refine' Fb.FunF.of KX G ?a ?l ?c ?k; (case a => k_is); (case l => k_is); (case c => k_is); (case k => k_is)))
    (case f_law_enter => (refine' Fb.FunF.of KX G ?a ?l ?c ?k; (case a => k_is); (case l => k_is); (case c => k_is); (case k => k_is)))
    (case f_law_listed => (refine' Fb.FunF.of KX G ?a ?l ?c ?k; (case a => k_is); (case l => k_is); (case c => k_is); (case k => k_is)))
    (case f_law_same => (refine' Fb.FunF.of KX G ?a ?l ?c ?k; (case a => k_is); (case l => k_is); (case c => k_is); (case k => k_is)))
    (case f_law_submit => (refine' Fb.FunF.of KX G ?a ?l ?c ?k; (case a => k_is); (case l => k_is); (case c => k_is); (case k => k_is)))
    (case f_law_cancel => (refine' Fb.FunF.of KX G ?a ?l ?c ?k; (case a => k_is); (case l => k_is); (case c => k_is); (case k => k_is)))
    (case f_law_amend => (refine' Fb.FunF.of KX G ?a ?l ?c ?k; (case a => k_is); (case l => k_is); (case c => k_is); (case k => k_is)))
    (case f_law => (refine' Fb.FunF.of KX G ?a ?l ?c ?k; (case a => k_is); (case l => k_is); (case c => k_is); (case k => k_is)))

import PyProof.Rows.All
import Wide.All
import OpenK.AllK
import Wide.FinOn
import KE.KExcTry
import HandS.ForMost
import HandS.Zip
import HandS.TupMul
import HandS.TupAny
import HandS.OwnEq
import PySem.Challenge.RW_finecloud_k50_whole_woven
import HandS.ForExc
import HandS.ExcSuper
import HandS.ExcField
import HandS.IsInst
import HandS.Style
import HandS.SortInts
import HandS.Conv
import HandS.Walk
/-! The plain mathematics of the program: woven numbers, cells, boxes, prefixes. No program in sight. -/
set_option linter.all false
namespace FC

/-! ### the mirror -/
def wovStep (half : Nat) (found x : Nat) : Nat := found * 2 + x / half % 2
def wovTurn (p : List Nat) (st : Nat × Nat) : Nat × Nat := (p.foldl (wovStep st.2) st.1, st.2 / 2)
def wovIter (b : Nat) (p : List Nat) (i : Nat) : Nat × Nat := (List.range i).foldl (fun st _ => wovTurn p st) (0, 2 ^ b / 2)
def woven (b : Nat) (p : List Nat) : Nat := (wovIter b p b).1

def poStep (d n : Nat) (st : List Nat × Nat) (t : Nat) : List Nat × Nat := (st.1.set (t % d) (st.1.getD (t % d) 0 * 2 + n / st.2 % 2), max 1 (st.2 / 2))
def poIter (d b n i : Nat) : List Nat × Nat := (List.range i).foldl (poStep d n) (List.replicate d 0, 2 ^ (d * b) / 2)
def pointOf (d b n : Nat) : List Nat := (poIter d b n (d * b)).1

/-- the cell of a prefix (l, n) -/
def cellLo (d b l n : Nat) : List Nat := pointOf d b (n * 2 ^ (d * b - l))
def cellHi (d b l n : Nat) : List Nat := pointOf d b (n * 2 ^ (d * b - l) + 2 ^ (d * b - l) - 1)

def holdsB : List Nat → List Nat → List Nat → Bool
  | l :: ls, x :: xs, h :: hs => (decide (l ≤ x) && decide (x ≤ h)) && holdsB ls xs hs
  | _, _, _ => true
def over (l h f t : Nat) : Nat := min h t + 1 - max l f
def roomN : List Nat → List Nat → List Nat → List Nat → Nat
  | l :: ls, h :: hs, f :: fs, t :: ts => over l h f t * roomN ls hs fs ts
  | _, _, _, _ => 1
def room (d b : Nat) (lo hi : List Nat) (l n : Nat) : Nat := roomN lo hi (cellLo d b l n) (cellHi d b l n)

def allPts (s : Nat) : Nat → List (List Nat)
  | 0 => [[]]
  | d + 1 => (allPts s d).flatMap fun p => (List.range s).map fun x => p ++ [x]
def lawBits (b : Nat) (p : List Nat) : List Nat := (List.range b).flatMap fun t => p.map fun x => x / 2 ^ (b - 1 - t) % 2
def begins (D w : Nat) (q : Nat × Nat) : Bool := w / 2 ^ (D - q.1) == q.2

/-! ### what is reckoned for each of the 14 spaces -/
def checkPts (d b : Nat) : Bool :=
  let pts := allPts (2 ^ b) d
  let nums := pts.map (woven b)
  nums.isPerm (List.range (2 ^ (d * b))) && (nums.map (pointOf d b) == pts) && (pts.all fun p => (lawBits b p).foldl (fun v x => 2 * v + x) 0 == woven b p)
def checkFwd (d b : Nat) : Bool :=
  (allPts (2 ^ b) d).all fun p => let w := woven b p
    (List.range (d * b + 1)).all fun l => holdsB (cellLo d b l (w / 2 ^ (d * b - l))) p (cellHi d b l (w / 2 ^ (d * b - l)))
def ltAll (s : Nat) (p : List Nat) : Bool := p.all fun x => decide (x < s)
def leAll : List Nat → List Nat → Bool
  | l :: ls, h :: hs => decide (l ≤ h) && leAll ls hs
  | _, _ => true
def checkCell (d b : Nat) : Bool :=
  (List.range (d * b + 1)).all fun l => (List.range (2 ^ l)).all fun n =>
    let lo := cellLo d b l n
    let hi := cellHi d b l n
    (lo.length == d) && (hi.length == d) && ltAll (2 ^ b) hi && leAll lo hi && (roomN lo hi lo hi == 2 ^ (d * b - l))
def spaces : List (Nat × Nat) := [(1,1),(1,2),(1,3),(1,4),(1,5),(1,6),(1,7),(1,8),(2,1),(2,2),(2,3),(2,4),(3,1),(3,2)]

theorem pts_ok : (spaces.all fun s => checkPts s.1 s.2) = true := by decide +kernel
theorem fwd_ok : (spaces.all fun s => checkFwd s.1 s.2) = true := by decide +kernel
theorem cell_ok : (spaces.all fun s => checkCell s.1 s.2) = true := by decide +kernel
end FC

set_option linter.all false
namespace FC
def hAt (lo pt hi : List Nat) (i : Nat) : Bool := decide (lo.getD i 0 ≤ pt.getD i 0) && decide (pt.getD i 0 ≤ hi.getD i 0)
theorem holds_range : ∀ (d : Nat) (lo pt hi : List Nat), lo.length = d → pt.length = d → hi.length = d → ((List.range d).map (hAt lo pt hi)).all id = holdsB lo pt hi
  | 0, [], [], [], _, _, _ => rfl
  | d + 1, l :: lo, x :: pt, h :: hi, hl, hp, hh => by
    have ih := holds_range d lo pt hi (by simpa using hl) (by simpa using hp) (by simpa using hh)
    rw [List.range_succ_eq_map, List.map_cons, List.all_cons, List.map_map]
    show (hAt (l :: lo) (x :: pt) (h :: hi) 0 && ((List.range d).map (hAt (l :: lo) (x :: pt) (h :: hi) ∘ Nat.succ)).all id) = _
    have e : (hAt (l :: lo) (x :: pt) (h :: hi) ∘ Nat.succ) = hAt lo pt hi := by funext i; simp [hAt]
    rw [e, ih]
    rfl
  | 0, _ :: _, _, _, h, _, _ => by simp at h
  | 0, [], _ :: _, _, _, h, _ => by simp at h
  | 0, [], [], _ :: _, _, _, h => by simp at h
  | d + 1, [], _, _, h, _, _ => by simp at h
  | d + 1, _ :: _, [], _, _, h, _ => by simp at h
  | d + 1, _ :: _, _ :: _, [], _, _, h => by simp at h
def oAt (lo hi fs ts : List Nat) (i : Nat) : Nat := over (lo.getD i 0) (hi.getD i 0) (fs.getD i 0) (ts.getD i 0)
theorem room_range : ∀ (d : Nat) (lo hi fs ts : List Nat) (a : Nat), lo.length = d → hi.length = d → fs.length = d → ts.length = d → (List.range d).foldl (fun acc i => acc * oAt lo hi fs ts i) a = a * roomN lo hi fs ts
  | 0, [], [], [], [], a, _, _, _, _ => by simp [roomN]
  | d + 1, l :: lo, h :: hi, f :: fs, t :: ts, a, hl, hh, hf, ht => by
    have ih := fun a => room_range d lo hi fs ts a (by simpa using hl) (by simpa using hh) (by simpa using hf) (by simpa using ht)
    rw [List.range_succ_eq_map, List.foldl_cons, List.foldl_map]
    have e : (fun (acc i : Nat) => acc * oAt (l :: lo) (h :: hi) (f :: fs) (t :: ts) (Nat.succ i)) = fun acc i => acc * oAt lo hi fs ts i := by funext acc i; simp [oAt]
    show (List.range d).foldl (fun acc i => acc * oAt (l :: lo) (h :: hi) (f :: fs) (t :: ts) (Nat.succ i)) (a * oAt (l :: lo) (h :: hi) (f :: fs) (t :: ts) 0) = _
    rw [e, ih]
    show a * over l h f t * roomN lo hi fs ts = a * (over l h f t * roomN lo hi fs ts)
    rw [Nat.mul_assoc]
  | 0, _ :: _, _, _, _, _, h, _, _, _ => by simp at h
  | 0, [], _ :: _, _, _, _, _, h, _, _ => by simp at h
  | 0, [], [], _ :: _, _, _, _, _, h, _ => by simp at h
  | 0, [], [], [], _ :: _, _, _, _, _, h => by simp at h
  | d + 1, [], _, _, _, _, h, _, _, _ => by simp at h
  | d + 1, _ :: _, [], _, _, _, _, h, _, _ => by simp at h
  | d + 1, _ :: _, _ :: _, [], _, _, _, _, h, _ => by simp at h
  | d + 1, _ :: _, _ :: _, _ :: _, [], _, _, _, _, h => by simp at h
/-! ### the prefixes of a box: r l n: how many points of the box begin with (l, n); k: levels left -/
def pf (r : Nat → Nat → Nat) (D : Nat) : Nat → Nat → List (Nat × Nat)
  | 0, n => if r D n = 1 then [(D, n)] else []
  | k + 1, n => if r (D - (k + 1)) n = 2 ^ (k + 1) then [(D - (k + 1), n)] else if r (D - (k + 1)) n = 0 then [] else pf r D k (2 * n) ++ pf r D k (2 * n + 1)
theorem pf_len (r : Nat → Nat → Nat) (D : Nat) : ∀ k n, (pf r D k n).length ≤ 2 ^ k
  | 0, n => by unfold pf; split <;> simp
  | k + 1, n => by
    have h1 := pf_len r D k (2 * n)
    have h2 := pf_len r D k (2 * n + 1)
    have h3 := Nat.two_pow_pos (k + 1)
    unfold pf
    split
    · exact h3
    · split
      · simp
      · rw [List.length_append, Nat.pow_succ]
        omega
end FC

set_option linter.all false
/-! counting over the points of a space -/
namespace FC
theorem apts_len (s : Nat) : ∀ {d : Nat} {p : List Nat}, p ∈ allPts s d → p.length = d
  | 0, p, h => by
    have h' : p = [] := by simpa [allPts] using h
    subst h'
    rfl
  | d + 1, p, h => by
    obtain ⟨q, hq, hp⟩ := List.mem_flatMap.mp h
    obtain ⟨x, hx, rfl⟩ := List.mem_map.mp hp
    rw [List.length_append, apts_len s hq]
    rfl
def hN (d : Nat) (lo pt hi : List Nat) : Bool := (List.range d).all (hAt lo pt hi)
theorem hN_holds {d : Nat} {lo pt hi : List Nat} (h1 : lo.length = d) (h2 : pt.length = d) (h3 : hi.length = d) : hN d lo pt hi = holdsB lo pt hi := by
  rw [← holds_range d lo pt hi h1 h2 h3, List.all_map]
  rfl
theorem getD_app {p : List Nat} {x i d : Nat} (h : p.length = d) (hi : i < d) : (p ++ [x]).getD i 0 = p.getD i 0 := by
  rw [List.getD_eq_getElem?_getD, List.getD_eq_getElem?_getD, List.getElem?_append_left (by omega)]
theorem getD_last {p : List Nat} {x d : Nat} (h : p.length = d) : (p ++ [x]).getD d 0 = x := by
  subst h
  simp
theorem all_congr' {l : List Nat} {f g : Nat → Bool} (h : ∀ x ∈ l, f x = g x) : l.all f = l.all g := by
  induction l with
  | nil => rfl
  | cons a l ih => rw [List.all_cons, List.all_cons, h a (by simp), ih fun x hx => h x (by simp [hx])]
theorem hN_succ {d : Nat} {lo p hi : List Nat} {x : Nat} (h : p.length = d) : hN (d + 1) lo (p ++ [x]) hi = (hN d lo p hi && (decide (lo.getD d 0 ≤ x) && decide (x ≤ hi.getD d 0))) := by
  unfold hN
  rw [List.range_succ, List.all_append]
  congr 1
  · refine all_congr' fun i hi' => ?_
    unfold hAt
    rw [getD_app h (List.mem_range.mp hi')]
  · rw [List.all_cons, List.all_nil, Bool.and_true]
    unfold hAt
    rw [getD_last h]
theorem cnt_and {l : List Nat} {a : Bool} {B : Nat → Bool} : l.countP (fun x => a && B x) = if a then l.countP B else 0 := by
  cases a with
  | true => simp
  | false => simp
theorem cnt_flat {s : Nat} {Q A : List Nat → Bool} {B : Nat → Bool} : ∀ l : List (List Nat), (∀ p ∈ l, ∀ x, Q (p ++ [x]) = (A p && B x)) → (l.flatMap fun p => (List.range s).map fun x => p ++ [x]).countP Q = l.countP A * (List.range s).countP B
  | [], _ => by simp
  | p :: l, h => by
    have e : (Q ∘ fun x => p ++ [x]) = fun x => A p && B x := by
      funext x
      exact h p (by simp) x
    rw [List.flatMap_cons, List.countP_append, cnt_flat l fun q hq x => h q (by simp [hq]) x, List.countP_map, e, cnt_and, List.countP_cons]
    cases A p with
    | true => simp [Nat.add_mul, Nat.add_comm]
    | false => simp
theorem cnt_iv (a h : Nat) : ∀ s, (List.range s).countP (fun x => decide (a ≤ x) && decide (x ≤ h)) = min (h + 1) s - a
  | 0 => by simp
  | s + 1 => by
    rw [List.range_succ, List.countP_append, cnt_iv a h s]
    by_cases h1 : a ≤ s
    · by_cases h2 : s ≤ h
      · simp [h1, h2]; omega
      · simp [h2]; omega
    · simp [h1]; omega
theorem cnt_over {lo hi f t s : Nat} (ht : t < s) : (List.range s).countP (fun x => (decide (lo ≤ x) && decide (x ≤ hi)) && (decide (f ≤ x) && decide (x ≤ t))) = over lo hi f t := by
  have e : (fun x => (decide (lo ≤ x) && decide (x ≤ hi)) && (decide (f ≤ x) && decide (x ≤ t))) = fun x => decide (max lo f ≤ x) && decide (x ≤ min hi t) := by
    funext x
    rw [Bool.eq_iff_iff]
    simp only [Bool.and_eq_true, decide_eq_true_eq]
    omega
  rw [e, cnt_iv]
  unfold over
  omega
/-- the points that two boxes share -/
theorem cnt_pts {s : Nat} {lo hi f t : List Nat} : ∀ d, (∀ i, i < d → t.getD i 0 < s) → (allPts s d).countP (fun p => hN d lo p hi && hN d f p t) = (List.range d).foldl (fun acc i => acc * oAt lo hi f t i) 1
  | 0, _ => by simp [allPts, hN]
  | d + 1, h => by
    show ((allPts s d).flatMap fun p => (List.range s).map fun x => p ++ [x]).countP _ = _
    rw [cnt_flat (A := fun p => hN d lo p hi && hN d f p t) (B := fun x => (decide (lo.getD d 0 ≤ x) && decide (x ≤ hi.getD d 0)) && (decide (f.getD d 0 ≤ x) && decide (x ≤ t.getD d 0))) (allPts s d) (fun p hp x => ?_),
      cnt_pts d (fun i hi => h i (by omega)), cnt_over (h d (by omega)), List.range_succ, List.foldl_append]
    · rfl
    · have hl := apts_len s hp
      rw [hN_succ hl, hN_succ hl]
      cases hN d lo p hi <;> cases hN d f p t <;> simp
theorem cnt_room {s d : Nat} {lo hi f t : List Nat} (h1 : lo.length = d) (h2 : hi.length = d) (h3 : f.length = d) (h4 : t.length = d) (h : ∀ x ∈ t, x < s) :
    (allPts s d).countP (fun p => holdsB lo p hi && holdsB f p t) = roomN lo hi f t := by
  have hg : ∀ i, i < d → t.getD i 0 < s := fun i hi => by
    rw [List.getD_eq_getElem?_getD, List.getElem?_eq_getElem (by omega)]
    exact h _ (List.getElem_mem _)
  have e := cnt_pts (lo := lo) (hi := hi) (f := f) (t := t) d hg
  rw [room_range d lo hi f t 1 h1 h2 h3 h4, Nat.one_mul] at e
  rw [← e]
  refine List.countP_congr fun p hp => ?_
  have hl := apts_len s hp
  rw [hN_holds h1 hl h2, hN_holds h3 hl h4]
end FC

set_option linter.all false
/-! points and woven numbers, cells, rooms -/
namespace FC
abbrev ptsOf (d b : Nat) : List (List Nat) := allPts (2 ^ b) d
theorem sp_pts {d b : Nat} (h : (d, b) ∈ spaces) : checkPts d b = true := List.all_eq_true.mp pts_ok _ h
theorem sp_fwd {d b : Nat} (h : (d, b) ∈ spaces) : checkFwd d b = true := List.all_eq_true.mp fwd_ok _ h
theorem sp_cell {d b : Nat} (h : (d, b) ∈ spaces) : checkCell d b = true := List.all_eq_true.mp cell_ok _ h
theorem sp_bound {d b : Nat} (h : (d, b) ∈ spaces) : 1 ≤ d ∧ d ≤ 3 ∧ 1 ≤ b ∧ b ≤ 8 ∧ 1 ≤ d * b ∧ d * b ≤ 8 := by
  have z : (spaces.all fun s => decide (1 ≤ s.1 ∧ s.1 ≤ 3 ∧ 1 ≤ s.2 ∧ s.2 ≤ 8 ∧ 1 ≤ s.1 * s.2 ∧ s.1 * s.2 ≤ 8)) = true := by decide
  exact of_decide_eq_true (List.all_eq_true.mp z _ h)
section
variable {d b : Nat}
theorem nums_perm (h : (d, b) ∈ spaces) : ((ptsOf d b).map (woven b)).Perm (List.range (2 ^ (d * b))) := by
  have z := sp_pts h
  unfold checkPts at z
  simp only [Bool.and_eq_true] at z
  exact List.isPerm_iff.mp z.1.1
theorem point_back (h : (d, b) ∈ spaces) : ((ptsOf d b).map (woven b)).map (pointOf d b) = ptsOf d b := by
  have z := sp_pts h
  unfold checkPts at z
  simp only [Bool.and_eq_true, beq_iff_eq] at z
  exact z.1.2
theorem bits_ok (h : (d, b) ∈ spaces) {p : List Nat} (hp : p ∈ ptsOf d b) : (lawBits b p).foldl (fun v x => 2 * v + x) 0 = woven b p := by
  have z := sp_pts h
  unfold checkPts at z
  simp only [Bool.and_eq_true] at z
  have := List.all_eq_true.mp z.2 p hp
  simpa using this
theorem point_inv (h : (d, b) ∈ spaces) {p : List Nat} (hp : p ∈ ptsOf d b) : pointOf d b (woven b p) = p := by
  have e := point_back h
  rw [List.map_map] at e
  obtain ⟨i, hi⟩ := List.getElem?_of_mem hp
  have e2 : ((ptsOf d b).map (pointOf d b ∘ woven b))[i]? = (ptsOf d b)[i]? := by rw [e]
  rw [List.getElem?_map, hi] at e2
  exact Option.some.inj e2
theorem woven_lt (h : (d, b) ∈ spaces) {p : List Nat} (hp : p ∈ ptsOf d b) : woven b p < 2 ^ (d * b) :=
  List.mem_range.mp ((nums_perm h).mem_iff.mp (List.mem_map_of_mem hp))
theorem cell_facts (h : (d, b) ∈ spaces) {l n : Nat} (hl : l ≤ d * b) (hn : n < 2 ^ l) : (cellLo d b l n).length = d ∧ (cellHi d b l n).length = d ∧ (∀ x ∈ cellHi d b l n, x < 2 ^ b) ∧
    leAll (cellLo d b l n) (cellHi d b l n) = true ∧ roomN (cellLo d b l n) (cellHi d b l n) (cellLo d b l n) (cellHi d b l n) = 2 ^ (d * b - l) := by
  have z := sp_cell h
  unfold checkCell at z
  have z := List.all_eq_true.mp z l (List.mem_range.mpr (by omega))
  have z := List.all_eq_true.mp z n (List.mem_range.mpr hn)
  simp only [Bool.and_eq_true, beq_iff_eq] at z
  obtain ⟨⟨⟨⟨h1, h2⟩, h3⟩, h4⟩, h5⟩ := z
  refine ⟨h1, h2, fun x hx => ?_, h4, h5⟩
  unfold ltAll at h3
  exact of_decide_eq_true (List.all_eq_true.mp h3 x hx)
/-- how many numbers below m go to n by k -/
theorem cnt_div (k n : Nat) (hk : 0 < k) : ∀ m, (List.range m).countP (fun w => w / k == n) = min m ((n + 1) * k) - n * k
  | 0 => by simp
  | m + 1 => by
    rw [List.range_succ, List.countP_append, cnt_div k n hk m, List.countP_cons, List.countP_nil]
    have h2 : (n + 1) * k = n * k + k := by rw [Nat.add_mul, Nat.one_mul]
    by_cases e : m / k = n
    · have h3 := Nat.div_mul_le_self m k
      have h4 := Nat.lt_div_mul_add hk (a := m)
      rw [e] at h3 h4
      simp [e]
      omega
    · have e' : (m / k == n) = false := by simpa using e
      rw [e']
      have h3 : ¬ (n * k ≤ m ∧ m < (n + 1) * k) := fun ⟨x, y⟩ => e (Nat.div_eq_of_lt_le x y)
      simp
      omega
theorem cnt_eq_of_sub {α : Type} {A B : α → Bool} : ∀ {l : List α}, (∀ x ∈ l, A x = true → B x = true) → l.countP A = l.countP B → ∀ x ∈ l, A x = B x
  | [], _, _, x, hx => by cases hx
  | a :: l, h, e, x, hx => by
    have hl : ∀ x ∈ l, A x = true → B x = true := fun x hx => h x (List.mem_cons_of_mem _ hx)
    have le : l.countP A ≤ l.countP B := List.countP_mono_left hl
    have ha := h a (List.mem_cons_self)
    rw [List.countP_cons, List.countP_cons] at e
    have key : A a = B a ∧ l.countP A = l.countP B := by
      cases hA : A a <;> cases hB : B a <;> rw [hA, hB] at e <;> simp at e ⊢
      · exact e
      · omega
      · rw [hA, hB] at ha; simp at ha
      · exact e
    rcases List.mem_cons.mp hx with rfl | hx
    · exact key.1
    · exact cnt_eq_of_sub hl key.2 x hx
theorem pow_split {D l : Nat} (h : l ≤ D) : 2 ^ D = 2 ^ l * 2 ^ (D - l) := by rw [← Nat.pow_add]; congr 1; omega
theorem begins_cnt {D l n : Nat} (hl : l ≤ D) (hn : n < 2 ^ l) : (List.range (2 ^ D)).countP (fun w => begins D w (l, n)) = 2 ^ (D - l) := by
  have e : (fun w => begins D w (l, n)) = fun w => w / 2 ^ (D - l) == n := rfl
  rw [e, cnt_div _ _ (Nat.two_pow_pos _)]
  have h1 : (n + 1) * 2 ^ (D - l) ≤ 2 ^ D := by
    rw [pow_split hl]
    exact Nat.mul_le_mul_right _ hn
  rw [Nat.min_eq_right h1, Nat.add_mul, Nat.one_mul, Nat.add_sub_cancel_left]
/-- a cell has just the points that begin with its beginning -/
theorem cell_holds (h : (d, b) ∈ spaces) {l n : Nat} (hl : l ≤ d * b) (hn : n < 2 ^ l) {p : List Nat} (hp : p ∈ ptsOf d b) :
    holdsB (cellLo d b l n) p (cellHi d b l n) = begins (d * b) (woven b p) (l, n) := by
  obtain ⟨h1, h2, h3, _, h5⟩ := cell_facts h hl hn
  refine (cnt_eq_of_sub (l := ptsOf d b) (A := fun p => begins (d * b) (woven b p) (l, n)) (B := fun p => holdsB (cellLo d b l n) p (cellHi d b l n)) (fun q hq e => ?_) ?_ p hp).symm
  · have z := sp_fwd h
    unfold checkFwd at z
    have z := List.all_eq_true.mp z q hq
    have z := List.all_eq_true.mp z l (List.mem_range.mpr (by omega))
    have e' : woven b q / 2 ^ (d * b - l) = n := by
      unfold begins at e
      simpa using e
    rw [e'] at z
    exact z
  · have e1 : (ptsOf d b).countP (fun p => begins (d * b) (woven b p) (l, n)) = 2 ^ (d * b - l) := by
      rw [← begins_cnt hl hn, ← (nums_perm h).countP_eq, List.countP_map]
      rfl
    have e2 : (ptsOf d b).countP (fun p => holdsB (cellLo d b l n) p (cellHi d b l n)) = 2 ^ (d * b - l) := by
      rw [← h5, ← cnt_room h1 h2 h1 h2 h3]
      simp
    rw [e1, e2]
/-- room: the box's points that begin so -/
theorem room_cnt (h : (d, b) ∈ spaces) {lo hi : List Nat} (hlo : lo.length = d) (hhi : hi.length = d) {l n : Nat} (hl : l ≤ d * b) (hn : n < 2 ^ l) :
    room d b lo hi l n = (ptsOf d b).countP (fun p => holdsB lo p hi && begins (d * b) (woven b p) (l, n)) := by
  obtain ⟨h1, h2, h3, _, _⟩ := cell_facts h hl hn
  unfold room
  rw [← cnt_room hlo hhi h1 h2 h3]
  refine List.countP_congr fun p hp => ?_
  rw [cell_holds h hl hn hp]
/-- the box, told of numbers -/
def boxN (d b : Nat) (lo hi : List Nat) (w : Nat) : Bool := holdsB lo (pointOf d b w) hi
theorem room_num (h : (d, b) ∈ spaces) {lo hi : List Nat} (hlo : lo.length = d) (hhi : hi.length = d) {l n : Nat} (hl : l ≤ d * b) (hn : n < 2 ^ l) :
    room d b lo hi l n = (List.range (2 ^ (d * b))).countP (fun w => boxN d b lo hi w && begins (d * b) w (l, n)) := by
  rw [room_cnt h hlo hhi hl hn, ← (nums_perm h).countP_eq, List.countP_map]
  refine List.countP_congr fun p hp => ?_
  show _ ↔ (boxN d b lo hi (woven b p) && begins (d * b) (woven b p) (l, n)) = true
  unfold boxN
  rw [point_inv h hp]
end
/-- numbers from a up, m of them -/
theorem cnt_split (B C : Nat → Bool) (a m N : Nat) (h : a + m ≤ N) (hC : ∀ w, w < N → (C w = true ↔ a ≤ w ∧ w < a + m)) :
    (List.range N).countP (fun w => B w && C w) = (List.range' a m).countP B := by
  have e : List.range N = List.range' 0 a ++ (List.range' a m ++ List.range' (a + m) (N - (a + m))) := by
    rw [List.range_eq_range', show N = a + (m + (N - (a + m))) by omega, ← List.range'_append_1, ← List.range'_append_1]
    congr 1
    · congr 1
      · rw [Nat.zero_add]
      · rw [Nat.zero_add]; congr 1; omega
  have z0 : ∀ l : List Nat, (∀ w ∈ l, C w = false) → l.countP (fun w => B w && C w) = 0 := fun l hl => by
    rw [List.countP_eq_zero]
    intro w hw
    rw [hl w hw, Bool.and_false]
    exact Bool.false_ne_true
  have cF : ∀ w, w < N → ¬ (a ≤ w ∧ w < a + m) → C w = false := fun w hw hn => by
    cases hc : C w with
    | false => rfl
    | true => exact absurd ((hC w hw).mp hc) hn
  rw [e, List.countP_append, List.countP_append, z0 (List.range' 0 a), z0 (List.range' (a + m) _)]
  · rw [Nat.zero_add, Nat.add_zero]
    refine List.countP_congr fun w hw => ?_
    have hw' := List.mem_range'_1.mp hw
    rw [(hC w (by omega)).mpr hw', Bool.and_true]
  · intro w hw
    have hw' := List.mem_range'_1.mp hw
    exact cF w (by omega) (by omega)
  · intro w hw
    have hw' := List.mem_range'_1.mp hw
    exact cF w (by omega) (by omega)
theorem div_iff {w k n : Nat} (hk : 0 < k) : w / k = n ↔ n * k ≤ w ∧ w < n * k + k := by
  constructor
  · rintro rfl
    exact ⟨Nat.div_mul_le_self w k, Nat.lt_div_mul_add hk⟩
  · rintro ⟨h1, h2⟩
    exact Nat.div_eq_of_lt_le h1 (by rw [Nat.add_mul, Nat.one_mul]; exact h2)
/-- rooms by the levels that are left -/
theorem room_lev {d b : Nat} (h : (d, b) ∈ spaces) {lo hi : List Nat} (hlo : lo.length = d) (hhi : hi.length = d) {k n : Nat} (hk : k ≤ d * b) (hn : n < 2 ^ (d * b - k)) :
    room d b lo hi (d * b - k) n = (List.range' (n * 2 ^ k) (2 ^ k)).countP (boxN d b lo hi) := by
  rw [room_num h hlo hhi (by omega) hn]
  have hp := Nat.two_pow_pos k
  have e : d * b - (d * b - k) = k := by omega
  refine cnt_split _ _ _ _ _ ?_ fun w hw => ?_
  · have h1 : (n + 1) * 2 ^ k ≤ 2 ^ (d * b) := by
      have := pow_split (D := d * b) (l := d * b - k) (by omega)
      rw [e] at this
      rw [this]
      exact Nat.mul_le_mul_right _ hn
    rw [Nat.add_mul, Nat.one_mul] at h1
    exact h1
  · unfold begins
    rw [beq_iff_eq]
    show w / 2 ^ (d * b - (d * b - k)) = n ↔ _
    rw [e]
    exact div_iff hp
end FC

set_option linter.all false
/-! the prefixes of a box -/
namespace FC
/-- q lies at or below the node (k levels left, n) -/
def Under (D k n : Nat) (q : Nat × Nat) : Prop := ∃ j, j ≤ k ∧ q.1 = D - j ∧ q.2 / 2 ^ (k - j) = n
section
variable {r : Nat → Nat → Nat} {D : Nat} {B : Nat → Bool}
theorem half_of {x k j n : Nat} (hj : j ≤ k) (h : x / 2 ^ (k - j) = n) : x / 2 ^ (k + 1 - j) = n / 2 := by
  rw [show k + 1 - j = (k - j) + 1 by omega, Nat.pow_succ, ← Nat.div_div_eq_div_mul, h]
theorem pf_under : ∀ k n q, k ≤ D → q ∈ pf r D k n → Under D k n q
  | 0, n, q, _, h => by
    unfold pf at h
    split at h
    · rcases List.mem_cons.mp h with rfl | h
      · exact ⟨0, Nat.le_refl 0, rfl, by simp⟩
      · cases h
    · cases h
  | k + 1, n, q, hk, h => by
    unfold pf at h
    split at h
    · rcases List.mem_cons.mp h with rfl | h
      · exact ⟨k + 1, Nat.le_refl _, rfl, by simp⟩
      · cases h
    · split at h
      · cases h
      · rcases List.mem_append.mp h with h | h
        · obtain ⟨j, h1, h2, h3⟩ := pf_under k (2 * n) q (by omega) h
          exact ⟨j, by omega, h2, by rw [half_of h1 h3]; omega⟩
        · obtain ⟨j, h1, h2, h3⟩ := pf_under k (2 * n + 1) q (by omega) h
          exact ⟨j, by omega, h2, by rw [half_of h1 h3]; omega⟩
/-- numbers below a node begin with what lies below it only -/
theorem begins_under {k n w : Nat} {q : Nat × Nat} (hk : k ≤ D) (u : Under D k n q) (h : begins D w q = true) : w / 2 ^ k = n := by
  obtain ⟨j, h1, h2, h3⟩ := u
  unfold begins at h
  rw [beq_iff_eq, h2, show D - (D - j) = j by omega] at h
  rw [← h3, ← h, Nat.div_div_eq_div_mul, ← Nat.pow_add]
  congr 2
  omega
theorem cnt_none {w : Nat} {l : List (Nat × Nat)} (h : ∀ q ∈ l, begins D w q ≠ true) : l.countP (begins D w) = 0 := List.countP_eq_zero.mpr h
theorem full_all {a m : Nat} (h : (List.range' a m).countP B = m) {w : Nat} (h1 : a ≤ w) (h2 : w < a + m) : B w = true := by
  have e : (List.range' a m).countP B = (List.range' a m).length := by rw [h, List.length_range']
  exact List.countP_eq_length.mp e w (List.mem_range'_1.mpr ⟨h1, h2⟩)
theorem none_all {a m : Nat} (h : (List.range' a m).countP B = 0) {w : Nat} (h1 : a ≤ w) (h2 : w < a + m) : B w = false := by
  have e := List.countP_eq_zero.mp h w (List.mem_range'_1.mpr ⟨h1, h2⟩)
  cases hb : B w with
  | false => rfl
  | true => exact absurd hb e
def Rooms (r : Nat → Nat → Nat) (D : Nat) (B : Nat → Bool) : Prop := ∀ k n, k ≤ D → n < 2 ^ (D - k) → r (D - k) n = (List.range' (n * 2 ^ k) (2 ^ k)).countP B
theorem kid_lt {k n : Nat} (hk : k + 1 ≤ D) (hn : n < 2 ^ (D - (k + 1))) : 2 * n < 2 ^ (D - k) ∧ 2 * n + 1 < 2 ^ (D - k) := by
  have e : 2 ^ (D - k) = 2 ^ (D - (k + 1)) * 2 := by rw [← Nat.pow_succ]; congr 1; omega
  omega
theorem pf_count (H : Rooms r D B) : ∀ k n w, k ≤ D → n < 2 ^ (D - k) → w / 2 ^ k = n → (pf r D k n).countP (begins D w) = if B w then 1 else 0
  | 0, n, w, hk, hn, hw => by
    have e := H 0 n hk hn
    have hw' : w = n := by simpa using hw
    subst hw'
    have e' : r D w = if B w then 1 else 0 := by
      rw [show D = D - 0 from rfl, e]
      simp [List.range'_one, List.countP_cons]
    unfold pf
    cases hb : B w with
    | true =>
      rw [hb] at e'
      rw [if_pos (by simpa using e')]
      simp [begins]
    | false =>
      rw [hb] at e'
      rw [if_neg (by rw [e']; simp)]
      simp
  | k + 1, n, w, hk, hn, hw => by
    have hp := Nat.two_pow_pos (k + 1)
    have e := H (k + 1) n hk hn
    obtain ⟨w1, w2⟩ := (div_iff hp).mp hw
    unfold pf
    split
    · rename_i hf
      rw [full_all (e.symm.trans hf) w1 w2]
      have : begins D w (D - (k + 1), n) = true := by
        unfold begins
        rw [beq_iff_eq]
        show w / 2 ^ (D - (D - (k + 1))) = n
        rw [show D - (D - (k + 1)) = k + 1 by omega]
        exact hw
      simp [this]
    · split
      · rename_i hz
        rw [none_all (e.symm.trans hz) w1 w2]
        simp
      · obtain ⟨l1, l2⟩ := kid_lt hk hn
        have hh : w / 2 ^ k / 2 = n := by rw [Nat.div_div_eq_div_mul, ← Nat.pow_succ]; exact hw
        rw [List.countP_append]
        by_cases hc : w / 2 ^ k = 2 * n
        · rw [pf_count H k (2 * n) w (by omega) l1 hc, cnt_none (l := pf r D k (2 * n + 1)) fun q hq hb => by
            have := begins_under (by omega) (pf_under k _ q (by omega) hq) hb
            omega, Nat.add_zero]
        · have hc' : w / 2 ^ k = 2 * n + 1 := by omega
          rw [pf_count H k (2 * n + 1) w (by omega) l2 hc', cnt_none (l := pf r D k (2 * n)) fun q hq hb => by
            have := begins_under (by omega) (pf_under k _ q (by omega) hq) hb
            omega, Nat.zero_add]
/-- below a node that is not full: its parent was not full -/
theorem pf_parent : ∀ k n q, k ≤ D → q ∈ pf r D k n → ∀ j, q.1 = D - j → j < k → r (D - (j + 1)) (q.2 / 2) ≠ 2 ^ (j + 1)
  | 0, n, q, _, _, j, _, hj => by omega
  | k + 1, n, q, hk, h, j, hq, hj => by
    unfold pf at h
    split at h
    · rcases List.mem_cons.mp h with rfl | h
      · have : D - (k + 1) = D - j := hq
        omega
      · cases h
    · rename_i hf
      split at h
      · cases h
      · rcases Nat.lt_or_ge j k with hjk | hjk
        · rcases List.mem_append.mp h with h | h
          · exact pf_parent k _ q (by omega) h j hq hjk
          · exact pf_parent k _ q (by omega) h j hq hjk
        · have ej : j = k := by omega
          subst ej
          have e2 : q.2 / 2 = n := by
            rcases List.mem_append.mp h with h | h
            · obtain ⟨i, h1, h2, h3⟩ := pf_under j _ q (by omega) h
              have : i = j := by omega
              subst this
              rw [Nat.sub_self, Nat.pow_zero, Nat.div_one] at h3
              omega
            · obtain ⟨i, h1, h2, h3⟩ := pf_under j _ q (by omega) h
              have : i = j := by omega
              subst this
              rw [Nat.sub_self, Nat.pow_zero, Nat.div_one] at h3
              omega
          rw [e2]
          exact hf
def place (D : Nat) (q : Nat × Nat) : Nat := q.2 * 2 ^ (D - q.1)
theorem place_under {k n : Nat} {q : Nat × Nat} (hk : k ≤ D) (u : Under D k n q) : n * 2 ^ k ≤ place D q ∧ place D q < (n + 1) * 2 ^ k := by
  obtain ⟨j, h1, h2, h3⟩ := u
  obtain ⟨a1, a2⟩ := (div_iff (Nat.two_pow_pos _)).mp h3
  unfold place
  rw [h2, show D - (D - j) = j by omega, show 2 ^ k = 2 ^ (k - j) * 2 ^ j by rw [← Nat.pow_add]; congr 1; omega, ← Nat.mul_assoc, ← Nat.mul_assoc]
  refine ⟨Nat.mul_le_mul_right _ a1, ?_⟩
  rw [Nat.add_mul n 1, Nat.one_mul]
  exact Nat.mul_lt_mul_of_pos_right a2 (Nat.two_pow_pos j)
theorem pf_sorted : ∀ k n, k ≤ D → ((pf r D k n).map (place D)).Pairwise (· ≤ ·)
  | 0, n, _ => by
    unfold pf
    split <;> simp
  | k + 1, n, hk => by
    unfold pf
    split
    · simp
    · split
      · simp
      · rw [List.map_append]
        refine List.pairwise_append.mpr ⟨pf_sorted k _ (by omega), pf_sorted k _ (by omega), fun x hx y hy => ?_⟩
        obtain ⟨q, hq, rfl⟩ := List.mem_map.mp hx
        obtain ⟨q', hq', rfl⟩ := List.mem_map.mp hy
        have h1 := (place_under (by omega) (pf_under k _ q (by omega) hq)).2
        have h2 := (place_under (by omega) (pf_under k _ q' (by omega) hq')).1
        omega
theorem pf_mem (q : Nat × Nat) (h : q ∈ pf r D D 0) : q.1 ≤ D ∧ q.2 < 2 ^ q.1 := by
  obtain ⟨j, h1, h2, h3⟩ := pf_under D 0 q (Nat.le_refl D) h
  refine ⟨by omega, ?_⟩
  rw [h2]
  have := (div_iff (Nat.two_pow_pos (D - j))).mp h3
  omega
theorem two_cnt {α : Type} {A : α → Bool} : ∀ {l : List α} {x y : α}, x ∈ l → y ∈ l → x ≠ y → A x = true → A y = true → 2 ≤ l.countP A
  | [], x, y, hx, _, _, _, _ => by cases hx
  | a :: l, x, y, hx, hy, hne, ax, ay => by
    rw [List.countP_cons]
    have pos : ∀ z ∈ l, A z = true → 1 ≤ l.countP A := fun z hz az => List.countP_pos_iff.mpr ⟨z, hz, az⟩
    rcases List.mem_cons.mp hx with ex | hx'
    · rcases List.mem_cons.mp hy with ey | hy'
      · exact absurd (ex.trans ey.symm) hne
      · have := pos y hy' ay
        rw [if_pos (ex ▸ ax)]
        omega
    · rcases List.mem_cons.mp hy with ey | hy'
      · have := pos x hx' ax
        rw [if_pos (ey ▸ ay)]
        omega
      · have := two_cnt hx' hy' hne ax ay
        omega
theorem low_lt {q : Nat × Nat} (h1 : q.1 ≤ D) (h2 : q.2 < 2 ^ q.1) : q.2 * 2 ^ (D - q.1) < 2 ^ D := by
  rw [pow_split h1]
  exact Nat.mul_lt_mul_of_pos_right h2 (Nat.two_pow_pos _)
theorem low_begins (q : Nat × Nat) : begins D (q.2 * 2 ^ (D - q.1)) q = true := by
  unfold begins
  rw [Nat.mul_div_cancel _ (Nat.two_pow_pos _), beq_iff_eq]
/-- inside: by length and number -/
def insideB (p q : Nat × Nat) : Bool := decide (q.1 ≤ p.1 ∧ p.2 / 2 ^ (p.1 - q.1) = q.2)
def sibN (n : Nat) : Nat := if n % 2 = 0 then n + 1 else n - 1
theorem pf_apart (H : Rooms r D B) {p q : Nat × Nat} (hp : p ∈ pf r D D 0) (hq : q ∈ pf r D D 0) (hne : q ≠ p) : insideB p q = false ∧ ¬ (q.1 = p.1 ∧ q.2 = sibN p.2) := by
  obtain ⟨p1, p2⟩ := pf_mem p hp
  obtain ⟨q1, q2⟩ := pf_mem q hq
  have one : ∀ w, w < 2 ^ D → (pf r D D 0).countP (begins D w) = if B w then 1 else 0 := fun w hw =>
    pf_count H D 0 w (Nat.le_refl D) (by rw [Nat.sub_self]; decide) (Nat.div_eq_of_lt hw)
  constructor
  · cases hi : insideB p q with
    | false => rfl
    | true =>
      unfold insideB at hi
      obtain ⟨i1, i2⟩ := of_decide_eq_true hi
      have hw := low_lt p1 p2
      have b1 := low_begins (D := D) p
      have b2 : begins D (p.2 * 2 ^ (D - p.1)) q = true := by
        unfold begins
        rw [beq_iff_eq, show D - q.1 = (D - p.1) + (p.1 - q.1) by omega, Nat.pow_add, ← Nat.div_div_eq_div_mul, Nat.mul_div_cancel _ (Nat.two_pow_pos _)]
        exact i2
      have := two_cnt hp hq (Ne.symm hne) b1 b2
      rw [one _ hw] at this
      split at this <;> omega
  · rintro ⟨e1, e2⟩
    -- the parent
    have hl : 1 ≤ p.1 := by
      rcases Nat.eq_zero_or_pos p.1 with z | z
      · rw [z] at p2
        rw [e1, z] at q2
        unfold sibN at e2
        split at e2 <;> omega
      · exact z
    obtain ⟨j, hj⟩ : ∃ j, p.1 = D - j ∧ j < D := ⟨D - p.1, by omega, by omega⟩
    have par := pf_parent D 0 p (Nat.le_refl D) hp j hj.1 hj.2
    have hn : p.2 / 2 < 2 ^ (D - (j + 1)) := by
      have : 2 ^ p.1 = 2 ^ (D - (j + 1)) * 2 := by rw [← Nat.pow_succ]; congr 1; omega
      omega
    refine par ?_
    rw [H (j + 1) (p.2 / 2) (by omega) hn, ← List.length_range' (s := p.2 / 2 * 2 ^ (j + 1)) (n := 2 ^ (j + 1)) (step := 1)]
    rw [List.length_range']
    refine (List.countP_eq_length.mpr fun w hw => ?_).trans List.length_range'
    obtain ⟨w1, w2⟩ := List.mem_range'_1.mp hw
    have hdiv : w / 2 ^ (j + 1) = p.2 / 2 := (div_iff (Nat.two_pow_pos _)).mpr ⟨w1, w2⟩
    have hh : w / 2 ^ j / 2 = p.2 / 2 := by rw [Nat.div_div_eq_div_mul, ← Nat.pow_succ]; exact hdiv
    have hwD : w < 2 ^ D := by
      have h3 : (p.2 / 2 + 1) * 2 ^ (j + 1) ≤ 2 ^ (D - (j + 1)) * 2 ^ (j + 1) := Nat.mul_le_mul_right _ hn
      rw [← Nat.pow_add, show D - (j + 1) + (j + 1) = D by omega, Nat.add_mul, Nat.one_mul] at h3
      omega
    have hb : begins D w p = true ∨ begins D w q = true := by
      unfold begins
      rw [e1, e2, hj.1, show D - (D - j) = j by omega, beq_iff_eq, beq_iff_eq]
      unfold sibN
      split <;> omega
    have hpos : 1 ≤ (pf r D D 0).countP (begins D w) := by
      rcases hb with hb | hb
      · exact List.countP_pos_iff.mpr ⟨p, hp, hb⟩
      · exact List.countP_pos_iff.mpr ⟨q, hq, hb⟩
    rw [one w hwD] at hpos
    cases hB : B w with
    | true => rfl
    | false => rw [hB] at hpos; simp at hpos
end
end FC

set_option linter.all false
/-! what the law asks, of lists and numbers -/
namespace FC
theorem perm_sorted : ∀ {ns ms : List Int}, ns.Perm ms → ns.Pairwise (· ≤ ·) → ms.Pairwise (· ≤ ·) → ns = ms
  | [], ms, h, _, _ => h.nil_eq
  | a :: ns, [], h, _, _ => by have := h.length_eq; simp at this
  | a :: ns, b :: ms, h, h1, h2 => by
    have h1' := List.pairwise_cons.mp h1
    have h2' := List.pairwise_cons.mp h2
    have ab : a = b := by
      have ha : a ∈ b :: ms := h.mem_iff.mp List.mem_cons_self
      have hb : b ∈ a :: ns := h.mem_iff.mpr List.mem_cons_self
      rcases List.mem_cons.mp ha with e | ha
      · exact e
      · rcases List.mem_cons.mp hb with e | hb
        · exact e.symm
        · have := h1'.1 b hb
          have := h2'.1 a ha
          omega
    subst ab
    rw [perm_sorted (List.Perm.cons_inv h) h1'.2 h2'.2]
theorem range_sorted (n : Nat) : ((List.range n).map fun x : Nat => (x : Int)).Pairwise (· ≤ ·) := by
  rw [List.pairwise_map]
  exact List.pairwise_lt_range.imp fun h => by omega
section
variable {d b : Nat} {lo hi : List Nat}
abbrev numsOf (d b : Nat) : List Nat := (ptsOf d b).map (woven b)
abbrev foundOf (d b : Nat) (lo hi : List Nat) : List (Nat × Nat) := pf (room d b lo hi) (d * b) (d * b) 0
/-- sorted numbers are all numbers -/
theorem nums_sorted (h : (d, b) ∈ spaces) {ns : List Int} (hp : ns.Perm ((numsOf d b).map fun x : Nat => (x : Int))) (hs : ns.Pairwise (· ≤ ·)) : ns = (List.range (2 ^ (d * b))).map fun x : Nat => (x : Int) :=
  perm_sorted (hp.trans ((nums_perm h).map _)) hs (range_sorted _)
theorem rooms_of (h : (d, b) ∈ spaces) (h1 : lo.length = d) (h2 : hi.length = d) : Rooms (room d b lo hi) (d * b) (boxN d b lo hi) := fun k n hk hn => room_lev h h1 h2 hk hn
theorem room_leaf (h : (d, b) ∈ spaces) (h1 : lo.length = d) (h2 : hi.length = d) {n : Nat} (hn : n < 2 ^ (d * b)) : room d b lo hi (d * b) n ≤ 1 := by
  have e := rooms_of h h1 h2 0 n (Nat.zero_le _) hn
  rw [Nat.sub_zero] at e
  rw [e]
  exact Nat.le_trans List.countP_le_length (by rw [List.length_range']; decide)
/-- a box is just the points of its beginnings, each once -/
theorem found_once (h : (d, b) ∈ spaces) (h1 : lo.length = d) (h2 : hi.length = d) {p : List Nat} (hp : p ∈ ptsOf d b) :
    (((foundOf d b lo hi).filter fun q => begins (d * b) (woven b p) q).length == 1) = holdsB lo p hi := by
  have e := pf_count (rooms_of h h1 h2) (d * b) 0 (woven b p) (Nat.le_refl _) (by rw [Nat.sub_self]; decide) (Nat.div_eq_of_lt (woven_lt h hp))
  have eb : boxN d b lo hi (woven b p) = holdsB lo p hi := by unfold boxN; rw [point_inv h hp]
  rw [eb] at e
  have e' : ((foundOf d b lo hi).filter fun q => begins (d * b) (woven b p) q).length = (foundOf d b lo hi).countP (begins (d * b) (woven b p)) := List.countP_eq_length_filter.symm
  rw [e', e]
  cases holdsB lo p hi <;> rfl
theorem inside_self (p : Nat × Nat) : insideB p p = true := by
  unfold insideB
  simp
theorem inside_zero {l n : Nat} (hn : n < 2 ^ l) : insideB (l, n) (0, 0) = true := by
  unfold insideB
  simp
  omega
/-- inside: all numbers that begin with the one begin with the other -/
theorem due_ok (h : (d, b) ∈ spaces) {l n l' n' : Nat} (hl : l ≤ d * b) (hn : n < 2 ^ l) (hl' : l' ≤ l) :
    ((numsOf d b).filter fun w => begins (d * b) w (l, n)).all (fun w => begins (d * b) w (l', n')) = insideB (l, n) (l', n') := by
  have key : ∀ w, begins (d * b) w (l, n) = true → (begins (d * b) w (l', n') = true ↔ n / 2 ^ (l - l') = n') := fun w hw => by
    unfold begins at hw ⊢
    rw [beq_iff_eq] at hw ⊢
    show w / 2 ^ (d * b - l') = n' ↔ _
    rw [show d * b - l' = (d * b - l) + (l - l') by omega, Nat.pow_add, ← Nat.div_div_eq_div_mul, hw]
  rw [Bool.eq_iff_iff, List.all_eq_true]
  unfold insideB
  rw [decide_eq_true_eq]
  constructor
  · intro ha
    have hw := low_lt (D := d * b) (q := (l, n)) hl hn
    have hm : n * 2 ^ (d * b - l) ∈ numsOf d b := (nums_perm h).mem_iff.mpr (List.mem_range.mpr hw)
    have hb := low_begins (D := d * b) (l, n)
    exact ⟨hl', (key _ hb).mp (ha _ (List.mem_filter.mpr ⟨hm, hb⟩))⟩
  · rintro ⟨_, e⟩ w hw
    exact (key w (List.mem_filter.mp hw).2).mpr e
/-- the room of a beginning -/
theorem room_len (h : (d, b) ∈ spaces) (h1 : lo.length = d) (h2 : hi.length = d) {l n : Nat} (hl : l ≤ d * b) (hn : n < 2 ^ l) :
    room d b lo hi l n = ((ptsOf d b).filter fun p => holdsB lo p hi && begins (d * b) (woven b p) (l, n)).length := by
  rw [room_cnt h h1 h2 hl hn, List.countP_eq_length_filter]
theorem places_sorted (d b : Nat) (lo hi : List Nat) : ((foundOf d b lo hi).map fun q => ((place (d * b) q : Nat) : Int)).Pairwise (· ≤ ·) := by
  have e := pf_sorted (r := room d b lo hi) (D := d * b) (d * b) 0 (Nat.le_refl _)
  rw [List.pairwise_map] at e ⊢
  exact e.imp fun h => by omega
theorem found_apart (h : (d, b) ∈ spaces) (h1 : lo.length = d) (h2 : hi.length = d) {p q : Nat × Nat} (hp : p ∈ foundOf d b lo hi) (hq : q ∈ foundOf d b lo hi) :
    (decide (q ≠ p) && (insideB p q || decide (q = (p.1, sibN p.2)))) = false := by
  by_cases e : q = p
  · simp [e]
  · obtain ⟨i1, i2⟩ := pf_apart (rooms_of h h1 h2) hp hq e
    have i3 : ¬ q = (p.1, sibN p.2) := fun z => i2 (by rw [z]; exact ⟨rfl, rfl⟩)
    rw [i1, decide_eq_false i3]
    simp
theorem found_mem {q : Nat × Nat} (h : q ∈ foundOf d b lo hi) : q.1 ≤ d * b ∧ q.2 < 2 ^ q.1 := pf_mem q h
theorem found_len : (foundOf d b lo hi).length ≤ 2 ^ (d * b) := pf_len _ _ _ _
end
end FC

set_option linter.all false
namespace FC
def told (d b : Nat) : Bool :=
  (woven b (List.replicate d (2 ^ b - 1)) == 2 ^ (d * b) - 1) && (pointOf d b (2 ^ (d * b) - 1) == List.replicate d (2 ^ b - 1)) && (woven b (List.replicate d 0) == 0)
theorem told_all : ((List.range 3).all fun i => (List.range 10).all fun j => told (i + 1) (j + 1)) = true := by decide +kernel
theorem told_ok {d b : Nat} (h1 : 1 ≤ d) (h2 : d ≤ 3) (h3 : 1 ≤ b) (h4 : b ≤ 10) : woven b (List.replicate d (2 ^ b - 1)) = 2 ^ (d * b) - 1 ∧ pointOf d b (2 ^ (d * b) - 1) = List.replicate d (2 ^ b - 1) ∧ woven b (List.replicate d 0) = 0 := by
  have h := List.all_eq_true.mp told_all (d - 1) (List.mem_range.mpr (by omega))
  have h := List.all_eq_true.mp h (b - 1) (List.mem_range.mpr (by omega))
  rw [show d - 1 + 1 = d by omega, show b - 1 + 1 = b by omega] at h
  unfold told at h
  simp only [Bool.and_eq_true, beq_iff_eq] at h
  exact ⟨h.1.1, h.1.2, h.2⟩
end FC

set_option Elab.async false
set_option linter.all false
set_option maxRecDepth 100000
set_option maxHeartbeats 4000000
/-! zip of any number of tuples, by any target -/
namespace ZN
open PySem PySem.Spec PyProof.Rows L2 RZ
abbrev ZTup (h : Heap) (T : Addr) (vs : List Value) : Prop := h.get? T = some { cls := .type "tuple", data := .seq vs.toArray }
abbrev IsZ (h : Heap) (z TI TO : Addr) (f0 : Value) (f1 : Bool) : Prop :=
  h.get? z = some { cls := .type "zip", dict := none, data := .fields #[f0, .bool f1, .bool false, .ref TI, .ref TO], slots := #[] }
/-- an iterator, its tuple, the tuple's items -/
abbrev Zi := Addr × Addr × Array Value
structure Apart (z TI TO : Addr) (L : List Zi) : Prop where
  TIz : TI ≠ z
  TOz : TO ≠ z
  TITO : TI ≠ TO
  iz : ∀ e ∈ L, e.1 ≠ z
  iTI : ∀ e ∈ L, e.1 ≠ TI
  iTO : ∀ e ∈ L, e.1 ≠ TO
  lz : ∀ e ∈ L, e.2.1 ≠ z
  lTO : ∀ e ∈ L, e.2.1 ≠ TO
  li : ∀ e ∈ L, ∀ f ∈ L, e.2.1 ≠ f.1
  nd : (L.map (·.1)).Nodup
/-- where the turn stands: j of the iterators have been drawn from -/
structure Zs (h0 h : Heap) (z TO : Addr) (L : List Zi) (i j : Nat) (xs vs : List Value) : Prop where
  size : h.objs.size = h0.objs.size
  keep : ∀ c o, c ≠ z → c ≠ TO → (∀ e ∈ L, c ≠ e.1) → h0.get? c = some o → h.get? c = some o
  tO : ZTup h TO vs
  len : vs.length = L.length
  done : vs.take j = xs.take j
  it : ∀ k e, L[k]? = some e → h.IsTupleIter e.1 e.2.1 (if k < j then i + 1 else i)
  tp : ∀ e ∈ L, h.IsTuple e.2.1 e.2.2

theorem nd_fst {L : List Zi} (nd : (L.map (·.1)).Nodup) {j k : Nat} {e f : Zi} (hj : L[j]? = some e) (hk : L[k]? = some f) (h : e.1 = f.1) : j = k := by
  have a : (L.map (·.1))[j]? = some e.1 := by rw [List.getElem?_map, hj] <;> rfl
  have b : (L.map (·.1))[k]? = some e.1 := by rw [List.getElem?_map, hk, h] <;> rfl
  exact nd_ix nd a b
section
variable {prog : Program} {w : World} {A : Around} {E : Value → Shared → Prop} {s : Shared}
theorem up_seq {T : Addr} {vs : List Value} {x : Value} {k : Nat} {Q : Unit → Shared → Prop} (hT : ZTup s.heap T vs) (hv : vs.length ≤ sizeLine)
    (h : ∀ h', ZTup h' T (vs.set k x) → Heap.SameBut T s.heap h' → Q () { s with heap := h' }) :
    wpAny (model prog w) A (updateSeq T (·.setIfInBounds k x)) Q E s := by
  refine wpAny_updateSeq hT rfl (h _ ?_ (Heap.SameBut.update ..)) (by rw [List.size_toArray]; exact hv) (by rw [Array.size_setIfInBounds, List.size_toArray]; omega)
  show (s.heap.update T _).get? T = _
  rw [Heap.get?_update_self _ hT rfl]
  simp [Obj.mapSeq]
theorem Zs.step {h0 h h1 h2 : Heap} {z TO TI : Addr} {L : List Zi} {i j : Nat} {xs vs : List Value} {e : Zi} {x : Value} (D : Apart z TI TO L) (Z : Zs h0 h z TO L i j xs vs) (he : L[j]? = some e) (hx : xs[j]? = some x)
    (hi : h1.IsTupleIter e.1 e.2.1 (i + 1)) (s1 : Heap.SameBut e.1 h h1) (hT : ZTup h2 TO (vs.set j x)) (s2 : Heap.SameBut TO h1 h2) : Zs h0 h2 z TO L i (j + 1) xs (vs.set j x) := by
  have me : e ∈ L := List.mem_of_getElem? he
  have hjl : j < L.length := (List.getElem?_eq_some_iff.mp he).1
  refine ⟨by rw [s2.1, s1.1, Z.size], fun c o c1 c2 c3 q => s2.extBut _ _ c2 (s1.extBut _ _ (c3 e me) (Z.keep c o c1 c2 c3 q)), hT, by rw [List.length_set, Z.len], ?_, fun k f hf => ?_, fun f hf => ?_⟩
  · rw [List.take_add_one, List.take_add_one, hx, List.getElem?_set_self (by rw [Z.len]; exact hjl), List.take_set_of_le (Nat.le_refl _), Z.done]
  · by_cases hk : k = j
    · subst hk
      rw [he] at hf
      cases hf
      rw [if_pos (Nat.lt_succ_self _)]
      exact hi.extBut s2.extBut (D.iTO e me)
    · have q := Z.it k f hf
      have mf : f ∈ L := List.mem_of_getElem? hf
      have e1 : (if k < j + 1 then i + 1 else i) = (if k < j then i + 1 else i) := by
        by_cases a : k < j
        · rw [if_pos a, if_pos (Nat.lt_succ_of_lt a)]
        · rw [if_neg a, if_neg (by omega)]
      rw [e1]
      exact (q.extBut s1.extBut (fun y => hk (nd_fst D.nd hf he y))).extBut s2.extBut (D.iTO f mf)
  · exact ((Z.tp f hf).extBut s1.extBut (D.li f hf e me)).extBut s2.extBut (D.lTO f hf)
theorem zip_it {its : List Addr} {j : Nat} {x : Value × Nat} {rest : List (Value × Nat)} (h : x :: rest = ((its.map Value.ref).zipIdx).drop j) : ∃ a, its[j]? = some a ∧ x = (.ref a, j) ∧ rest = ((its.map Value.ref).zipIdx).drop (j + 1) := by
  have hj : j < ((its.map Value.ref).zipIdx).length := by
    rcases Nat.lt_or_ge j ((its.map Value.ref).zipIdx).length with q | q
    · exact q
    · rw [List.drop_of_length_le q] at h
      cases h
  rw [List.drop_eq_getElem_cons hj] at h
  injection h with h1 h2
  have hj' : j < its.length := by simpa using hj
  refine ⟨its[j], List.getElem?_eq_getElem hj', ?_, h2⟩
  rw [h1]
  simp
theorem wp_alive {a : Addr} {Q : Option Obj → Shared → Prop} (h : Q (s.heap.get? a) s) : wpAny (model prog w) A (loadIfAlive a) Q E s := fun Γ p hΓ => by
  unfold loadIfAlive
  rw [Sem.wp_loadIfAlive, Sem.wp_pure]
  exact h
/-- the tuple that was handed out last is let go, or there is none -/
def Fr0 (h : Heap) (f0 : Value) : Prop := f0 = .none ∨ ∃ a : Addr, f0 = rawInt a ∧ h.get? a = none
theorem free_yes {z TI TO : Addr} {f0 : Value} {f1 : Bool} {Q : Bool → Shared → Prop} (hz : IsZ s.heap z TI TO f0 f1) (hf : Fr0 s.heap f0) (h : Q true s) :
    wpAny (model prog w) A (Builtin.SmallTypes.ownedTupleIsFree (.ref z)) Q E s := by
  unfold Builtin.SmallTypes.ownedTupleIsFree
  rcases hf with rfl | ⟨a, rfl, ha⟩
  · exact wpAny_bind (wpAny_field hz rfl (x := .none) rfl (wpAny_pure h))
  · refine wpAny_bind (wpAny_field hz rfl (x := rawInt a) rfl ?_)
    show wpAny _ _ (loadIfAlive ((a : Int).toNat) >>= _) _ _ _
    refine wpAny_bind (wp_alive ?_)
    rw [Int.toNat_natCast, ha]
    exact wpAny_pure h
theorem free_no {z TI TO a : Addr} {f1 : Bool} {o : Obj} {Q : Bool → Shared → Prop} (hz : IsZ s.heap z TI TO (rawInt a) f1) (ha : s.heap.get? a = some o)
    (h : ∀ h', IsZ h' z TI TO (rawInt a) true → Heap.SameBut z s.heap h' → Q false { s with heap := h' }) :
    wpAny (model prog w) A (Builtin.SmallTypes.ownedTupleIsFree (.ref z)) Q E s := by
  unfold Builtin.SmallTypes.ownedTupleIsFree
  refine wpAny_bind (wpAny_field hz rfl (x := rawInt a) rfl ?_)
  show wpAny _ _ (loadIfAlive ((a : Int).toNat) >>= _) _ _ _
  refine wpAny_bind (wp_alive ?_)
  rw [Int.toNat_natCast, ha]
  show wpAny _ _ (field (.ref z) 1 >>= _) _ _ _
  refine wpAny_bind (wpAny_field hz rfl (x := .bool f1) rfl ?_)
  cases f1 with
  | true =>
    rw [if_neg (show ¬ ((Value.bool true != Value.bool true) = true) from by simp)]
    exact wpAny_pure (h s.heap hz (Heap.SameBut.refl _ _))
  | false =>
    rw [if_pos (show ((Value.bool false != Value.bool true) = true) from by decide)]
    refine wpAny_bind (wpAny_setField_rec hz (by simp) fun h' hz' hs' => wpAny_pure (h h' hz' hs'))
/-- the free way: a new tuple of what all iterators yield -/
theorem next_item {z TI TO : Addr} {L : List Zi} {i : Nat} {xs vs : List Value} {f0 : Value} {f1 : Bool} {Q : Value → Shared → Prop} (D : Apart z TI TO L)
    (hz : IsZ s.heap z TI TO f0 f1) (hf : Fr0 s.heap f0) (hTI : ZTup s.heap TI (L.map fun e => .ref e.1)) (hTO : ZTup s.heap TO vs) (hl : vs.length = L.length) (hne : L ≠ []) (hlx : xs.length = L.length) (hsz : xs.length ≤ sizeLine)
    (hit : ∀ e ∈ L, s.heap.IsTupleIter e.1 e.2.1 i) (htp : ∀ e ∈ L, s.heap.IsTuple e.2.1 e.2.2) (hx : ∀ (k : Nat) e, L[k]? = some e → e.2.2[i]? = xs[k]?)
    (hQ : ∀ h', IsZ h' z TI TO (rawInt s.heap.objs.size) false → ZTup h' TO xs → (∀ e ∈ L, h'.IsTupleIter e.1 e.2.1 (i + 1)) → ZTup h' s.heap.objs.size xs → h'.objs.size = s.heap.objs.size + 1 →
      (∀ c o, c ≠ z → c ≠ TO → (∀ e ∈ L, c ≠ e.1) → s.heap.get? c = some o → h'.get? c = some o) → Q (.ref s.heap.objs.size) { s with heap := h' }) :
    wpAny (model prog w) A (Builtin.«zip.__next__» ⟨[.ref z], []⟩) (fun fin s' => ∃ v, fin = .done (.ret v) ∧ Q v s') E s := by
  have eI : (L.map fun e => Value.ref e.1) = (L.map (·.1)).map Value.ref := by rw [List.map_map]; rfl
  rw [eI] at hTI
  show wpAny _ _ (field (.ref z) 2 >>= _) _ _ _
  refine wpAny_bind (wpAny_field hz rfl (x := .bool false) rfl ?_)
  show wpAny _ _ (field (.ref z) 3 >>= _) _ _ _
  refine wpAny_bind (wpAny_field hz rfl (x := .ref TI) rfl ?_)
  refine wpAny_bind (wpAny_seqItems hTI rfl ?_)
  have he : (((L.map (·.1)).map Value.ref).toArray).isEmpty = false := by
    cases L with
    | nil => exact absurd rfl hne
    | cons a l => rfl
  simp only [he, Bool.false_eq_true, if_false]
  show wpAny _ _ (Builtin.SmallTypes.ownedTupleIsFree (.ref z) >>= _) _ _ _
  refine wpAny_bind (free_yes hz hf ?_)
  simp only [if_true]
  refine wpAny_bind (wpAny_rule ?_)
  refine wpAny_bind (wpAny_field hz rfl (x := .ref TO) rfl ?_)
  refine wpAny_bind (wpAny_setField_rec hz (by simp) fun h₁ hz₁ hs₁ => ?_)
  replace hz₁ : IsZ h₁ z TI TO .ellipsis f1 := hz₁
  have Z0 : Zs s.heap h₁ z TO L i 0 xs vs := ⟨hs₁.1, fun c o c1 _ _ q => hs₁.extBut _ _ c1 q, hs₁.extBut _ _ D.TOz hTO, hl, rfl, fun k e q => by
    rw [if_neg (Nat.not_lt_zero _)]
    exact (hit e (List.mem_of_getElem? q)).extBut hs₁.extBut (D.iz e (List.mem_of_getElem? q)), fun e q => (htp e q).extBut hs₁.extBut (D.lz e q)⟩
  refine wpAny_bind (wpAny_forIn_list _ (fun rest b s' => b = (none, ()) ∧ ∃ j vs' h, rest = (((L.map (·.1)).map Value.ref).zipIdx).drop j ∧ j ≤ L.length ∧ IsZ h z TI TO .ellipsis f1 ∧ Zs s.heap h z TO L i j xs vs' ∧ s' = { s with heap := h }) _ ?turn ?fin _ _ ⟨rfl, 0, vs, h₁, rfl, Nat.zero_le _, hz₁, Z0, rfl⟩)
  case turn =>
    rintro x rest b s' ⟨rfl, j, vs', h, hr, hj, hzh, Z, rfl⟩
    obtain ⟨a, ha, rfl, hrest⟩ := zip_it hr
    obtain ⟨e, hej, rfl⟩ : ∃ e, L[j]? = some e ∧ e.1 = a := by
      rw [List.getElem?_map] at ha
      cases q : L[j]? with
      | none => rw [q] at ha; cases ha
      | some e => rw [q] at ha; exact ⟨e, rfl, Option.some.inj ha⟩
    have hjl : j < L.length := (List.getElem?_eq_some_iff.mp hej).1
    have me : e ∈ L := List.mem_of_getElem? hej
    obtain ⟨y, hy⟩ : ∃ y, xs[j]? = some y := ⟨_, List.getElem?_eq_getElem (by omega)⟩
    have hit' := Z.it j e hej
    rw [if_neg (Nat.lt_irrefl _)] at hit'
    refine wpAny_bind (wpAny_onRaise ?_)
    show wpAny _ _ (Builtin.SmallTypes.nextOf (.ref e.1) >>= _) _ _ _
    refine wpAny_bind (nextOf_tuple_item (s := { s with heap := h }) hit' (Z.tp e me) ((hx j e hej).trans hy) fun h₂ hi₂ hs₂ => wpAny_pure ?_)
    have hTO₂ : ZTup h₂ TO vs' := hs₂.extBut _ _ (Ne.symm (D.iTO e me)) Z.tO
    refine wpAny_bind (wpAny_seqItems (s := { s with heap := h₂ }) hTO₂ rfl ?_)
    refine wpAny_bind (up_seq (s := { s with heap := h₂ }) (x := y) (k := j) hTO₂ (by rw [Z.len, ← hlx]; exact hsz) fun h₃ hTO₃ hs₃ => ?_)
    refine wpAny_bind (wpAny_letGo (wpAny_pure ?_))
    exact ⟨rfl, j + 1, vs'.set j y, h₃, hrest, hjl, hs₃.extBut _ _ D.TOz.symm (hs₂.extBut _ _ (D.iz e me).symm hzh), Z.step D hej hy hi₂ hs₂ hTO₃ hs₃, rfl⟩
  case fin =>
    rintro b s' ⟨rfl, j, vs', h₅, hr, hj, hz₅, Z, rfl⟩
    have hjn : j = L.length := by
      have q := congrArg List.length hr
      simp at q
      omega
    subst hjn
    have ev : vs' = xs := by
      have q := Z.done
      rw [List.take_of_length_le (Nat.le_of_eq Z.len), List.take_of_length_le (Nat.le_of_eq hlx)] at q
      exact q
    subst ev
    refine wpAny_bind (wpAny_seqItems (s := { s with heap := h₅ }) Z.tO rfl ?_)
    refine wpAny_bind (wpAny_newTuple ?_ (by simpa using hsz))
    have hzlt : z < h₅.objs.size := Heap.lt_size hz₅
    show wpAny _ _ (Builtin.SmallTypes.ownedTupleHandOut (.ref z) (.ref h₅.objs.size) >>= _) _ _ _
    refine wpAny_bind ?_
    unfold Builtin.SmallTypes.ownedTupleHandOut
    have hz₆ : IsZ (h₅.push { cls := .type "tuple", data := .seq vs'.toArray }) z TI TO .ellipsis f1 := Heap.get?_push_of_some _ hz₅
    refine wpAny_bind (wpAny_setField_rec (s := { s with heap := h₅.push { cls := .type "tuple", data := .seq vs'.toArray } }) hz₆ (by simp) fun h₇ hz₇ hs₇ => ?_)
    replace hz₇ : IsZ h₇ z TI TO (rawInt h₅.objs.size) f1 := hz₇
    refine wpAny_setField_rec (s := { s with heap := h₇ }) hz₇ (by simp) fun h₈ hz₈ hs₈ => ?_
    replace hz₈ : IsZ h₈ z TI TO (rawInt h₅.objs.size) false := hz₈
    have up : ∀ c o, c ≠ z → h₅.get? c = some o → h₈.get? c = some o := fun c o c1 e => hs₈.extBut _ _ c1 (hs₇.extBut _ _ c1 (Heap.get?_push_of_some _ e))
    have hT₈ : ZTup h₈ h₅.objs.size vs' := hs₈.extBut _ _ (Nat.ne_of_gt hzlt) (hs₇.extBut _ _ (Nat.ne_of_gt hzlt) (Heap.get?_push_size _ rfl))
    have hz8 : h₈.objs.size = h₅.objs.size + 1 := by rw [hs₈.1, hs₇.1, Heap.size_push]
    rw [Z.size] at hz₈ hT₈ hz8
    refine wpAny_pure ⟨_, rfl, ?_⟩
    show Q (.ref h₅.objs.size) _
    rw [Z.size]
    refine hQ h₈ hz₈ (up _ _ D.TOz Z.tO) (fun e me => ?_) hT₈ hz8 fun c o c1 c2 c3 e => up c o c1 (Z.keep c o c1 c2 c3 e)
    obtain ⟨k, hk⟩ := List.getElem?_of_mem me
    have q := Z.it k e hk
    rw [if_pos (List.getElem?_eq_some_iff.mp hk).1] at q
    exact q.at fun o y => up _ o (D.iz e me) y
/-- the first iterator has ended -/
theorem next_end {z TI TO : Addr} {L : List Zi} {e0 : Zi} {i : Nat} {f0 : Value} {f1 : Bool} {Q : Fin → Shared → Prop} (hh : A.handled = none) (D : Apart z TI TO (e0 :: L))
    (hz : IsZ s.heap z TI TO f0 f1) (hf : Fr0 s.heap f0) (hTI : ZTup s.heap TI ((e0 :: L).map fun e => .ref e.1)) 
    (hit : s.heap.IsTupleIter e0.1 e0.2.1 i) (htp : s.heap.IsTuple e0.2.1 e0.2.2) (hx : e0.2.2[i]? = none)
    (hE : ∀ h' e, (∀ c o, c ≠ z → c ≠ e0.1 → s.heap.get? c = some o → h'.get? c = some o) → (∃ o, h'.get? e = some o ∧ o.cls = .type "StopIteration") → E (.ref e) { s with heap := h' }) :
    wpAny (model prog w) A (Builtin.«zip.__next__» ⟨[.ref z], []⟩) Q E s := by
  have m0 : e0 ∈ e0 :: L := List.mem_cons_self
  show wpAny _ _ (field (.ref z) 2 >>= _) _ _ _
  refine wpAny_bind (wpAny_field hz rfl (x := .bool false) rfl ?_)
  show wpAny _ _ (field (.ref z) 3 >>= _) _ _ _
  refine wpAny_bind (wpAny_field hz rfl (x := .ref TI) rfl ?_)
  refine wpAny_bind (wpAny_seqItems hTI rfl ?_)
  show wpAny _ _ (Builtin.SmallTypes.ownedTupleIsFree (.ref z) >>= _) _ _ _
  refine wpAny_bind (free_yes hz hf ?_)
  simp only [if_true]
  refine wpAny_bind (wpAny_rule ?_)
  refine wpAny_bind (wpAny_field hz rfl (x := .ref TO) rfl ?_)
  refine wpAny_bind (wpAny_setField_rec hz (by simp) fun h₁ hz₁ hs₁ => ?_)
  replace hz₁ : IsZ h₁ z TI TO .ellipsis f1 := hz₁
  refine wpAny_bind ?_
  simp only [List.map_cons, List.zipIdx_cons, List.forIn_cons]
  refine wpAny_bind (wpAny_bind (wpAny_onRaise ?_))
  show wpAny _ _ (Builtin.SmallTypes.nextOf (.ref e0.1) >>= _) _ _ _
  refine wpAny_bind (nextOf_tuple_end (s := { s with heap := h₁ }) hh (hit.extBut hs₁.extBut (D.iz e0 m0)) (htp.extBut hs₁.extBut (D.lz e0 m0)) hx fun h₂ e hs₂ he => ?_)
  obtain ⟨oe, hoe, hce⟩ := he
  have hz₂ : IsZ h₂ z TI TO .ellipsis f1 := hs₂ _ _ (D.iz e0 m0).symm hz₁
  have hez : e ≠ z := fun x => by subst x; rw [hz₂] at hoe; cases hoe; simp at hce
  refine wpAny_setField_rec (s := { s with heap := h₂ }) hz₂ (by simp) fun h₃ _ hs₃ => hE h₃ e (fun c o c1 c2 x => hs₃.extBut _ _ c1 (hs₂ _ _ c2 (hs₁.extBut _ _ c1 x))) ⟨oe, hs₃.extBut _ _ hez hoe, hce⟩
theorem zip_iz {its : List Addr} {x : Value} {rest : List Value} {j : Nat} (h : x :: rest = (its.map Value.ref).drop j) : ∃ a, its[j]? = some a ∧ x = .ref a ∧ rest = (its.map Value.ref).drop (j + 1) := by
  have hj : j < (its.map Value.ref).length := by
    rcases Nat.lt_or_ge j (its.map Value.ref).length with q | q
    · exact q
    · rw [List.drop_of_length_le q] at h
      cases h
  rw [List.drop_eq_getElem_cons hj] at h
  injection h with h1 h2
  have hj' : j < its.length := by simpa using hj
  refine ⟨its[j], List.getElem?_eq_getElem hj', ?_, h2⟩
  rw [h1]
  simp
/-- where the turn stands on the held way -/
structure Zh (h0 h : Heap) (z : Addr) (L : List Zi) (i j : Nat) : Prop where
  size : h.objs.size = h0.objs.size
  keep : ∀ c o, c ≠ z → (∀ e ∈ L, c ≠ e.1) → h0.get? c = some o → h.get? c = some o
  it : ∀ k e, L[k]? = some e → h.IsTupleIter e.1 e.2.1 (if k < j then i + 1 else i)
  tp : ∀ e ∈ L, h.IsTuple e.2.1 e.2.2
theorem Zh.step {h0 h h1 : Heap} {z TO TI : Addr} {L : List Zi} {i j : Nat} {e : Zi} (D : Apart z TI TO L) (Z : Zh h0 h z L i j) (he : L[j]? = some e)
    (hi : h1.IsTupleIter e.1 e.2.1 (i + 1)) (s1 : Heap.SameBut e.1 h h1) : Zh h0 h1 z L i (j + 1) := by
  have me : e ∈ L := List.mem_of_getElem? he
  refine ⟨by rw [s1.1, Z.size], fun c o c1 c3 q => s1.extBut _ _ (c3 e me) (Z.keep c o c1 c3 q), fun k f hf => ?_, fun f hf => ?_⟩
  · by_cases hk : k = j
    · subst hk
      rw [he] at hf
      cases hf
      rw [if_pos (Nat.lt_succ_self _)]
      exact hi
    · have q := Z.it k f hf
      have e1 : (if k < j + 1 then i + 1 else i) = (if k < j then i + 1 else i) := by
        by_cases a : k < j
        · rw [if_pos a, if_pos (Nat.lt_succ_of_lt a)]
        · rw [if_neg a, if_neg (by omega)]
      rw [e1]
      exact q.extBut s1.extBut (fun y => hk (nd_fst D.nd hf he y))
  · exact (Z.tp f hf).extBut s1.extBut (D.li f hf e me)
/-- the held way: the tuple that was handed out last is alive -/
theorem next_held {z TI TO a : Addr} {o : Obj} {L : List Zi} {i : Nat} {xs : List Value} {f1 : Bool} {Q : Value → Shared → Prop} (D : Apart z TI TO L)
    (hz : IsZ s.heap z TI TO (rawInt a) f1) (ha : s.heap.get? a = some o) (hTI : ZTup s.heap TI (L.map fun e => .ref e.1)) (hne : L ≠ []) (hlx : xs.length = L.length) (hsz : xs.length ≤ sizeLine)
    (hit : ∀ e ∈ L, s.heap.IsTupleIter e.1 e.2.1 i) (htp : ∀ e ∈ L, s.heap.IsTuple e.2.1 e.2.2) (hx : ∀ (k : Nat) e, L[k]? = some e → e.2.2[i]? = xs[k]?)
    (hQ : ∀ h', IsZ h' z TI TO (rawInt a) true → (∀ e ∈ L, h'.IsTupleIter e.1 e.2.1 (i + 1)) → ZTup h' s.heap.objs.size xs → h'.objs.size = s.heap.objs.size + 1 →
      (∀ c o, c ≠ z → (∀ e ∈ L, c ≠ e.1) → s.heap.get? c = some o → h'.get? c = some o) → Q (.ref s.heap.objs.size) { s with heap := h' }) :
    wpAny (model prog w) A (Builtin.«zip.__next__» ⟨[.ref z], []⟩) (fun fin s' => ∃ v, fin = .done (.ret v) ∧ Q v s') E s := by
  have eI : (L.map fun e => Value.ref e.1) = (L.map (·.1)).map Value.ref := by rw [List.map_map]; rfl
  rw [eI] at hTI
  show wpAny _ _ (field (.ref z) 2 >>= _) _ _ _
  refine wpAny_bind (wpAny_field hz rfl (x := .bool false) rfl ?_)
  show wpAny _ _ (field (.ref z) 3 >>= _) _ _ _
  refine wpAny_bind (wpAny_field hz rfl (x := .ref TI) rfl ?_)
  refine wpAny_bind (wpAny_seqItems hTI rfl ?_)
  have he : (((L.map (·.1)).map Value.ref).toArray).isEmpty = false := by
    cases L with
    | nil => exact absurd rfl hne
    | cons a l => rfl
  simp only [he, Bool.false_eq_true, if_false]
  show wpAny _ _ (Builtin.SmallTypes.ownedTupleIsFree (.ref z) >>= _) _ _ _
  refine wpAny_bind (free_no hz ha fun h₁ hz₁ hs₁ => ?_)
  simp only [Bool.false_eq_true, if_false]
  have Z0 : Zh s.heap h₁ z L i 0 := ⟨hs₁.1, fun c o c1 _ q => hs₁.extBut _ _ c1 q, fun k e q => by
    rw [if_neg (Nat.not_lt_zero _)]
    exact (hit e (List.mem_of_getElem? q)).extBut hs₁.extBut (D.iz e (List.mem_of_getElem? q)), fun e q => (htp e q).extBut hs₁.extBut (D.lz e q)⟩
  refine wpAny_bind (MeetsSeq2.wpAny_forIn_array _ (fun rest b s' => ∃ j h, b = (none, (xs.take j).toArray) ∧ rest = ((L.map (·.1)).map Value.ref).drop j ∧ j ≤ L.length ∧ IsZ h z TI TO (rawInt a) true ∧ Zh s.heap h z L i j ∧ s' = { s with heap := h }) _ ?turn ?fin _ _ ⟨0, h₁, rfl, by simp, Nat.zero_le _, hz₁, Z0, rfl⟩)
  case turn =>
    rintro x rest b s' ⟨j, h, rfl, hr, hj, hzh, Z, rfl⟩
    obtain ⟨a', ha', rfl, hrest⟩ := zip_iz hr
    obtain ⟨e, hej, rfl⟩ : ∃ e, L[j]? = some e ∧ e.1 = a' := by
      rw [List.getElem?_map] at ha'
      cases q : L[j]? with
      | none => rw [q] at ha'; cases ha'
      | some e => rw [q] at ha'; exact ⟨e, rfl, Option.some.inj ha'⟩
    have hjl : j < L.length := (List.getElem?_eq_some_iff.mp hej).1
    have me : e ∈ L := List.mem_of_getElem? hej
    obtain ⟨y, hy⟩ : ∃ y, xs[j]? = some y := ⟨_, List.getElem?_eq_getElem (by omega)⟩
    have hit' := Z.it j e hej
    rw [if_neg (Nat.lt_irrefl _)] at hit'
    refine wpAny_bind (wpAny_holding ?_)
    show wpAny _ _ (Builtin.SmallTypes.nextOf (.ref e.1) >>= _) _ _ _
    refine wpAny_bind (nextOf_tuple_item (s := { s with heap := h }) hit' (Z.tp e me) ((hx j e hej).trans hy) fun h₂ hi₂ hs₂ => wpAny_pure ?_)
    refine wpAny_pure ?_
    refine ⟨j + 1, h₂, ?_, hrest, hjl, hs₂.extBut _ _ (D.iz e me).symm hzh, Z.step D hej hi₂ hs₂, rfl⟩
    rw [List.take_add_one, hy]
    simp
  case fin =>
    rintro b s' ⟨j, h₅, rfl, hr, hj, hz₅, Z, rfl⟩
    have hjn : j = L.length := by
      have q := congrArg List.length hr
      simp at q
      omega
    subst hjn
    rw [List.take_of_length_le (Nat.le_of_eq hlx)]
    refine wpAny_bind (wpAny_newTuple ?_ (by simpa using hsz))
    refine wpAny_pure ⟨_, rfl, ?_⟩
    show Q (.ref h₅.objs.size) _
    rw [Z.size]
    have g : ZTup (h₅.push { cls := .type "tuple", data := .seq xs.toArray }) h₅.objs.size xs := Heap.get?_push_size _ rfl
    rw [Z.size] at g
    refine hQ (h₅.push { cls := .type "tuple", data := .seq xs.toArray }) (Heap.get?_push_of_some _ hz₅) (fun e me => ?_) g (by rw [Heap.size_push, Z.size]) fun c o c1 c3 e => Heap.get?_push_of_some _ (Z.keep c o c1 c3 e)
    obtain ⟨k, hk⟩ := List.getElem?_of_mem me
    have q := Z.it k e hk
    rw [if_pos (List.getElem?_eq_some_iff.mp hk).1] at q
    exact q.at fun o y => Heap.get?_push_of_some _ y
theorem held_end {z TI TO a : Addr} {o : Obj} {L : List Zi} {e0 : Zi} {i : Nat} {f1 : Bool} {Q : Fin → Shared → Prop} (hh : A.handled = none) (D : Apart z TI TO (e0 :: L))
    (hz : IsZ s.heap z TI TO (rawInt a) f1) (ha : s.heap.get? a = some o) (hTI : ZTup s.heap TI ((e0 :: L).map fun e => .ref e.1)) 
    (hit : s.heap.IsTupleIter e0.1 e0.2.1 i) (htp : s.heap.IsTuple e0.2.1 e0.2.2) (hx : e0.2.2[i]? = none)
    (hE : ∀ h' e, (∀ c o, c ≠ z → c ≠ e0.1 → s.heap.get? c = some o → h'.get? c = some o) → (∃ o, h'.get? e = some o ∧ o.cls = .type "StopIteration") → E (.ref e) { s with heap := h' }) :
    wpAny (model prog w) A (Builtin.«zip.__next__» ⟨[.ref z], []⟩) Q E s := by
  have m0 : e0 ∈ e0 :: L := List.mem_cons_self
  show wpAny _ _ (field (.ref z) 2 >>= _) _ _ _
  refine wpAny_bind (wpAny_field hz rfl (x := .bool false) rfl ?_)
  show wpAny _ _ (field (.ref z) 3 >>= _) _ _ _
  refine wpAny_bind (wpAny_field hz rfl (x := .ref TI) rfl ?_)
  refine wpAny_bind (wpAny_seqItems hTI rfl ?_)
  show wpAny _ _ (Builtin.SmallTypes.ownedTupleIsFree (.ref z) >>= _) _ _ _
  refine wpAny_bind (free_no hz ha fun h₁ hz₁ hs₁ => ?_)
  simp only [Bool.false_eq_true, if_false]
  refine wpAny_bind ?_
  rw [← Array.forIn_toList]
  simp only [List.map_cons, List.forIn_cons]
  refine wpAny_bind (wpAny_bind (wpAny_holding ?_))
  show wpAny _ _ (Builtin.SmallTypes.nextOf (.ref e0.1) >>= _) _ _ _
  exact wpAny_bind (nextOf_tuple_end (s := { s with heap := h₁ }) hh (hit.extBut hs₁.extBut (D.iz e0 m0)) (htp.extBut hs₁.extBut (D.lz e0 m0)) hx fun h₂ e hs₂ he => hE h₂ e (fun c o c1 c2 x => hs₂ _ _ c2 (hs₁.extBut _ _ c1 x)) he)
end
end ZN

set_option Elab.async false
set_option linter.all false
set_option maxRecDepth 100000
set_option maxHeartbeats 4000000
/-! zip of any number of tuples, by any target -/
namespace ZN
open PySem PySem.Spec PyProof.Rows L2 RZ
abbrev zIt (l : Addr) : Obj := { cls := .type "tuple_iterator", data := .fields #[.ref l, .int 0 0] }
abbrev zH3_1 (h : Heap) (l1 : Addr) : Heap := h.push (zIt l1)
abbrev zH3_2 (h : Heap) (l1 l2 : Addr) : Heap := (zH3_1 h l1).push (zIt l2)
abbrev zH3_3 (h : Heap) (l1 l2 l3 : Addr) : Heap := (zH3_2 h l1 l2).push (zIt l3)
abbrev zHT3 (h : Heap) (l1 l2 l3 : Addr) : Heap := (zH3_3 h l1 l2 l3).push { cls := .type "tuple", data := .seq #[.ref h.objs.size, .ref (zH3_1 h l1).objs.size, .ref (zH3_2 h l1 l2).objs.size] }
abbrev zHO3 (h : Heap) (l1 l2 l3 : Addr) : Heap := (zHT3 h l1 l2 l3).push { cls := .type "tuple", data := .seq #[.none, .none, .none] }
abbrev zHZ3 (h : Heap) (l1 l2 l3 : Addr) : Heap := (zHO3 h l1 l2 l3).push { cls := .type "zip", data := .fields #[.none, .bool false, .bool false, .ref (zH3_3 h l1 l2 l3).objs.size, .ref (zHT3 h l1 l2 l3).objs.size] }
theorem meets_zip3 (l1 l2 l3 : Addr) (x1 x2 x3 : Array Value) :
    Meets (Builtin.«zip.__new__» ⟨[.type "zip", .ref l1, .ref l2, .ref l3], []⟩) (fun _ R s => s.heap.IsTuple l1 x1 ∧ s.heap.IsTuple l2 x2 ∧ s.heap.IsTuple l3 x3 ∧
      R (.ok (.ret (.ref (zHO3 s.heap l1 l2 l3).objs.size))) { s with heap := zHZ3 s.heap l1 l2 l3 }) :=
  .of_wp fun prog w A R s h => by
    obtain ⟨hp, g, d, tk, os⟩ := s; obtain ⟨kl1, kl2, kl3, h⟩ := h
    have hsub := sub_zip
    have g1 : Heap.IsTuple (Shared.heap ⟨hp, g, d, tk, os⟩) l1 x1 := kl1
    have g2 : Heap.IsTuple (Shared.heap ⟨zH3_1 hp l1, g, d, tk, os⟩) l2 x2 := Heap.IsTuple.push (kl2) _
    have g3 : Heap.IsTuple (Shared.heap ⟨zH3_2 hp l1 l2, g, d, tk, os⟩) l3 x3 := Heap.IsTuple.push (Heap.IsTuple.push (kl3) _) _
    wp_walk using wpAny_pyIter_tuple g1, wpAny_pyIter_tuple g2, wpAny_pyIter_tuple g3
    exact ⟨_, rfl, h⟩
theorem tc3 (a0 a1 a2 : Value) : checkTypeCall "zip" ⟨[a0, a1, a2], []⟩ = pure () := by kernel_rfl
theorem nc3 (a0 a1 a2 : Value) : checkBuiltinCall "zip.__new__" ⟨[.type "zip", a0, a1, a2], []⟩ = pure () := by kernel_rfl
theorem oi3 (a0 a1 a2 a3 : Value) : argsOk "object.__init__" ⟨[a0, a1, a2, a3], []⟩ := by
  unfold argsOk; rw [signature?_of (id := "object.__init__") (n := ['_', '_', 't', 'i', 'n', 'i', '_', '_']) (o := ['t', 'c', 'e', 'j', 'b', 'o']) (by kernel_rfl) F.owner_object]; kernel_rfl
abbrev zH4_1 (h : Heap) (l1 : Addr) : Heap := h.push (zIt l1)
abbrev zH4_2 (h : Heap) (l1 l2 : Addr) : Heap := (zH4_1 h l1).push (zIt l2)
abbrev zH4_3 (h : Heap) (l1 l2 l3 : Addr) : Heap := (zH4_2 h l1 l2).push (zIt l3)
abbrev zH4_4 (h : Heap) (l1 l2 l3 l4 : Addr) : Heap := (zH4_3 h l1 l2 l3).push (zIt l4)
abbrev zHT4 (h : Heap) (l1 l2 l3 l4 : Addr) : Heap := (zH4_4 h l1 l2 l3 l4).push { cls := .type "tuple", data := .seq #[.ref h.objs.size, .ref (zH4_1 h l1).objs.size, .ref (zH4_2 h l1 l2).objs.size, .ref (zH4_3 h l1 l2 l3).objs.size] }
abbrev zHO4 (h : Heap) (l1 l2 l3 l4 : Addr) : Heap := (zHT4 h l1 l2 l3 l4).push { cls := .type "tuple", data := .seq #[.none, .none, .none, .none] }
abbrev zHZ4 (h : Heap) (l1 l2 l3 l4 : Addr) : Heap := (zHO4 h l1 l2 l3 l4).push { cls := .type "zip", data := .fields #[.none, .bool false, .bool false, .ref (zH4_4 h l1 l2 l3 l4).objs.size, .ref (zHT4 h l1 l2 l3 l4).objs.size] }
theorem meets_zip4 (l1 l2 l3 l4 : Addr) (x1 x2 x3 x4 : Array Value) :
    Meets (Builtin.«zip.__new__» ⟨[.type "zip", .ref l1, .ref l2, .ref l3, .ref l4], []⟩) (fun _ R s => s.heap.IsTuple l1 x1 ∧ s.heap.IsTuple l2 x2 ∧ s.heap.IsTuple l3 x3 ∧ s.heap.IsTuple l4 x4 ∧
      R (.ok (.ret (.ref (zHO4 s.heap l1 l2 l3 l4).objs.size))) { s with heap := zHZ4 s.heap l1 l2 l3 l4 }) :=
  .of_wp fun prog w A R s h => by
    obtain ⟨hp, g, d, tk, os⟩ := s; obtain ⟨kl1, kl2, kl3, kl4, h⟩ := h
    have hsub := sub_zip
    have g1 : Heap.IsTuple (Shared.heap ⟨hp, g, d, tk, os⟩) l1 x1 := kl1
    have g2 : Heap.IsTuple (Shared.heap ⟨zH4_1 hp l1, g, d, tk, os⟩) l2 x2 := Heap.IsTuple.push (kl2) _
    have g3 : Heap.IsTuple (Shared.heap ⟨zH4_2 hp l1 l2, g, d, tk, os⟩) l3 x3 := Heap.IsTuple.push (Heap.IsTuple.push (kl3) _) _
    have g4 : Heap.IsTuple (Shared.heap ⟨zH4_3 hp l1 l2 l3, g, d, tk, os⟩) l4 x4 := Heap.IsTuple.push (Heap.IsTuple.push (Heap.IsTuple.push (kl4) _) _) _
    wp_walk using wpAny_pyIter_tuple g1, wpAny_pyIter_tuple g2, wpAny_pyIter_tuple g3, wpAny_pyIter_tuple g4
    exact ⟨_, rfl, h⟩
theorem tc4 (a0 a1 a2 a3 : Value) : checkTypeCall "zip" ⟨[a0, a1, a2, a3], []⟩ = pure () := by kernel_rfl
theorem nc4 (a0 a1 a2 a3 : Value) : checkBuiltinCall "zip.__new__" ⟨[.type "zip", a0, a1, a2, a3], []⟩ = pure () := by kernel_rfl
theorem oi4 (a0 a1 a2 a3 a4 : Value) : argsOk "object.__init__" ⟨[a0, a1, a2, a3, a4], []⟩ := by
  unfold argsOk; rw [signature?_of (id := "object.__init__") (n := ['_', '_', 't', 'i', 'n', 'i', '_', '_']) (o := ['t', 'c', 'e', 'j', 'b', 'o']) (by kernel_rfl) F.owner_object]; kernel_rfl
end ZN

set_option Elab.async false
set_option linter.all false
set_option maxRecDepth 100000
set_option maxHeartbeats 4000000
/-! zip of any number of tuples, by any target: the rules of the layer -/
namespace ZN
open PySem PySem.Spec PyProof.Rows L2 RZ
/-- the iterators from address n on -/
def mkP : Nat → List Addr → List (Addr × Addr)
  | _, [] => []
  | n, l :: ls => (n, l) :: mkP (n + 1) ls
theorem mkP_snd : ∀ (n : Nat) (ls : List Addr), (mkP n ls).map (·.2) = ls
  | _, [] => rfl
  | n, l :: ls => by
    show l :: (mkP (n + 1) ls).map (·.2) = _
    rw [mkP_snd (n + 1) ls]
theorem mkP_len : ∀ (n : Nat) (ls : List Addr), (mkP n ls).length = ls.length
  | _, [] => rfl
  | n, l :: ls => congrArg (· + 1) (mkP_len (n + 1) ls)
theorem mkP_ge : ∀ (n : Nat) (ls : List Addr), ∀ e ∈ mkP n ls, n ≤ e.1 ∧ e.1 < n + ls.length
  | _, [], e, h => by cases h
  | n, l :: ls, e, h => by
    rcases List.mem_cons.mp h with rfl | h
    · exact ⟨Nat.le_refl _, by rw [List.length_cons]; show n < _; omega⟩
    · have q := mkP_ge (n + 1) ls e h
      exact ⟨Nat.le_of_succ_le q.1, Nat.lt_of_lt_of_eq q.2 (by rw [List.length_cons]; omega)⟩
theorem mkP_nd : ∀ (n : Nat) (ls : List Addr), ((mkP n ls).map (·.1)).Nodup
  | _, [] => List.nodup_nil
  | n, l :: ls => by
    refine List.nodup_cons.mpr ⟨fun h => ?_, mkP_nd (n + 1) ls⟩
    obtain ⟨e, he, h1⟩ := List.mem_map.mp h
    have q := (mkP_ge (n + 1) ls e he).1
    rw [h1] at q
    exact Nat.lt_irrefl _ q
section
variable {prog : Program} {w : World} {A : Around} {E : Value → Shared → Prop} {s : Shared}
/-- what a call of zip leaves -/
structure Zmade (h h' : Heap) (ls : List Addr) : Prop where
  z : IsZ h' (h.objs.size + ls.length + 2) (h.objs.size + ls.length) (h.objs.size + ls.length + 1) .none false
  tI : ZTup h' (h.objs.size + ls.length) ((mkP h.objs.size ls).map fun e => .ref e.1)
  tO : ∃ vs : List Value, vs.length = ls.length ∧ ZTup h' (h.objs.size + ls.length + 1) vs
  it : ∀ e ∈ mkP h.objs.size ls, h'.IsTupleIter e.1 e.2 0
  keep : ∀ c o, h.get? c = some o → h'.get? c = some o
theorem call_zip3 {l1 l2 l3 : Addr} {x1 x2 x3 : Array Value} {Q : Value → Shared → Prop} (g1 : s.heap.IsTuple l1 x1) (g2 : s.heap.IsTuple l2 x2) (g3 : s.heap.IsTuple l3 x3)
    (h : ∀ h', Zmade s.heap h' [l1, l2, l3] → Q (.ref (s.heap.objs.size + 3 + 2)) { s with heap := h' }) : wpAny (model prog w) A (call (.type "zip") [.ref l1, .ref l2, .ref l3]) Q E s := by
  refine callType_new F.called_zip (by decide) (tc3 _ _ _) (nc3 _ _ _) (fun obj => oi3 obj _ _ _) F.entry_zip_new (meets_zip3 l1 l2 l3 x1 x2 x3) ⟨g1, g2, g3, ?_⟩
  have z1 : (zH3_1 s.heap l1).objs.size = s.heap.objs.size + 1 := Heap.size_push ..
  have z2 : (zH3_2 s.heap l1 l2).objs.size = s.heap.objs.size + 2 := by rw [Heap.size_push, z1]
  have z3 : (zH3_3 s.heap l1 l2 l3).objs.size = s.heap.objs.size + 3 := by rw [Heap.size_push, z2]
  have z4 : (zHT3 s.heap l1 l2 l3).objs.size = s.heap.objs.size + 4 := by rw [Heap.size_push, z3]
  have z5 : (zHO3 s.heap l1 l2 l3).objs.size = s.heap.objs.size + 5 := by rw [Heap.size_push, z4]
  have g6 : (zHZ3 s.heap l1 l2 l3).get? (zHO3 s.heap l1 l2 l3).objs.size = some _ := Heap.get?_push_size _ rfl
  have g5 : (zHZ3 s.heap l1 l2 l3).get? (zHT3 s.heap l1 l2 l3).objs.size = some _ := Heap.get?_push_of_some _ (Heap.get?_push_size _ rfl)
  have g4 : (zHZ3 s.heap l1 l2 l3).get? (zH3_3 s.heap l1 l2 l3).objs.size = some _ := Heap.get?_push_of_some _ (Heap.get?_push_of_some _ (Heap.get?_push_size _ rfl))
  have k3 : (zHZ3 s.heap l1 l2 l3).get? (zH3_2 s.heap l1 l2).objs.size = some _ := Heap.get?_push_of_some _ (Heap.get?_push_of_some _ (Heap.get?_push_of_some _ (Heap.get?_push_size _ rfl)))
  have k2 : (zHZ3 s.heap l1 l2 l3).get? (zH3_1 s.heap l1).objs.size = some _ := Heap.get?_push_of_some _ (Heap.get?_push_of_some _ (Heap.get?_push_of_some _ (Heap.get?_push_of_some _ (Heap.get?_push_size _ rfl))))
  have k1 : (zHZ3 s.heap l1 l2 l3).get? s.heap.objs.size = some _ := Heap.get?_push_of_some _ (Heap.get?_push_of_some _ (Heap.get?_push_of_some _ (Heap.get?_push_of_some _ (Heap.get?_push_of_some _ (Heap.get?_push_size _ rfl)))))
  show _ ∧ _
  rw [z3, z4, z5] at g6
  rw [z4] at g5
  rw [z1, z2, z3] at g4
  rw [z2] at k3
  rw [z1] at k2
  rw [z5]
  refine ⟨⟨_, g6, rfl⟩, h _ ⟨g6, g4, ⟨[.none, .none, .none], rfl, g5⟩, ?_, fun c o x => Heap.get?_push_of_some _ (Heap.get?_push_of_some _ (Heap.get?_push_of_some _ (Heap.get?_push_of_some _ (Heap.get?_push_of_some _ (Heap.get?_push_of_some _ x)))))⟩⟩
  intro e he
  have he' : e = (s.heap.objs.size, l1) ∨ e = (s.heap.objs.size + 1, l2) ∨ e = (s.heap.objs.size + 2, l3) := by simpa [mkP] using he
  rcases he' with rfl | rfl | rfl
  · exact ⟨_, k1, rfl, rfl⟩
  · exact ⟨_, k2, rfl, rfl⟩
  · exact ⟨_, k3, rfl, rfl⟩
theorem call_zip4 {l1 l2 l3 l4 : Addr} {x1 x2 x3 x4 : Array Value} {Q : Value → Shared → Prop} (g1 : s.heap.IsTuple l1 x1) (g2 : s.heap.IsTuple l2 x2) (g3 : s.heap.IsTuple l3 x3) (g4' : s.heap.IsTuple l4 x4)
    (h : ∀ h', Zmade s.heap h' [l1, l2, l3, l4] → Q (.ref (s.heap.objs.size + 4 + 2)) { s with heap := h' }) : wpAny (model prog w) A (call (.type "zip") [.ref l1, .ref l2, .ref l3, .ref l4]) Q E s := by
  refine callType_new F.called_zip (by decide) (tc4 _ _ _ _) (nc4 _ _ _ _) (fun obj => oi4 obj _ _ _ _) F.entry_zip_new (meets_zip4 l1 l2 l3 l4 x1 x2 x3 x4) ⟨g1, g2, g3, g4', ?_⟩
  have z1 : (zH4_1 s.heap l1).objs.size = s.heap.objs.size + 1 := Heap.size_push ..
  have z2 : (zH4_2 s.heap l1 l2).objs.size = s.heap.objs.size + 2 := by rw [Heap.size_push, z1]
  have z3 : (zH4_3 s.heap l1 l2 l3).objs.size = s.heap.objs.size + 3 := by rw [Heap.size_push, z2]
  have z3' : (zH4_4 s.heap l1 l2 l3 l4).objs.size = s.heap.objs.size + 4 := by rw [Heap.size_push, z3]
  have z4 : (zHT4 s.heap l1 l2 l3 l4).objs.size = s.heap.objs.size + 5 := by rw [Heap.size_push, z3']
  have z5 : (zHO4 s.heap l1 l2 l3 l4).objs.size = s.heap.objs.size + 6 := by rw [Heap.size_push, z4]
  have g6 : (zHZ4 s.heap l1 l2 l3 l4).get? (zHO4 s.heap l1 l2 l3 l4).objs.size = some _ := Heap.get?_push_size _ rfl
  have g5 : (zHZ4 s.heap l1 l2 l3 l4).get? (zHT4 s.heap l1 l2 l3 l4).objs.size = some _ := Heap.get?_push_of_some _ (Heap.get?_push_size _ rfl)
  have g4 : (zHZ4 s.heap l1 l2 l3 l4).get? (zH4_4 s.heap l1 l2 l3 l4).objs.size = some _ := Heap.get?_push_of_some _ (Heap.get?_push_of_some _ (Heap.get?_push_size _ rfl))
  have k4 : (zHZ4 s.heap l1 l2 l3 l4).get? (zH4_3 s.heap l1 l2 l3).objs.size = some _ := Heap.get?_push_of_some _ (Heap.get?_push_of_some _ (Heap.get?_push_of_some _ (Heap.get?_push_size _ rfl)))
  have k3 : (zHZ4 s.heap l1 l2 l3 l4).get? (zH4_2 s.heap l1 l2).objs.size = some _ := Heap.get?_push_of_some _ (Heap.get?_push_of_some _ (Heap.get?_push_of_some _ (Heap.get?_push_of_some _ (Heap.get?_push_size _ rfl))))
  have k2 : (zHZ4 s.heap l1 l2 l3 l4).get? (zH4_1 s.heap l1).objs.size = some _ := Heap.get?_push_of_some _ (Heap.get?_push_of_some _ (Heap.get?_push_of_some _ (Heap.get?_push_of_some _ (Heap.get?_push_of_some _ (Heap.get?_push_size _ rfl)))))
  have k1 : (zHZ4 s.heap l1 l2 l3 l4).get? s.heap.objs.size = some _ := Heap.get?_push_of_some _ (Heap.get?_push_of_some _ (Heap.get?_push_of_some _ (Heap.get?_push_of_some _ (Heap.get?_push_of_some _ (Heap.get?_push_of_some _ (Heap.get?_push_size _ rfl))))))
  show _ ∧ _
  rw [z3', z4, z5] at g6
  rw [z4] at g5
  rw [z1, z2, z3, z3'] at g4
  rw [z3] at k4
  rw [z2] at k3
  rw [z1] at k2
  rw [z5]
  refine ⟨⟨_, g6, rfl⟩, h _ ⟨g6, g4, ⟨[.none, .none, .none, .none], rfl, g5⟩, ?_, fun c o x => Heap.get?_push_of_some _ (Heap.get?_push_of_some _ (Heap.get?_push_of_some _ (Heap.get?_push_of_some _ (Heap.get?_push_of_some _ (Heap.get?_push_of_some _ (Heap.get?_push_of_some _ x))))))⟩⟩
  intro e he
  have he' : e = (s.heap.objs.size, l1) ∨ e = (s.heap.objs.size + 1, l2) ∨ e = (s.heap.objs.size + 2, l3) ∨ e = (s.heap.objs.size + 3, l4) := by simpa [mkP] using he
  rcases he' with rfl | rfl | rfl | rfl
  · exact ⟨_, k1, rfl, rfl⟩
  · exact ⟨_, k2, rfl, rfl⟩
  · exact ⟨_, k3, rfl, rfl⟩
  · exact ⟨_, k4, rfl, rfl⟩
theorem call_zip2 {l1 l2 : Addr} {x1 x2 : Array Value} {Q : Value → Shared → Prop} (g1 : s.heap.IsTuple l1 x1) (g2 : s.heap.IsTuple l2 x2)
    (h : ∀ h', Zmade s.heap h' [l1, l2] → Q (.ref (s.heap.objs.size + 2 + 2)) { s with heap := h' }) : wpAny (model prog w) A (call (.type "zip") [.ref l1, .ref l2]) Q E s := by
  refine call_zipT g1 g2 fun h' hz hTI hTO h1 h2 hsz hk => h h' ⟨hz, hTI, ⟨[.none, .none], rfl, hTO⟩, ?_, hk⟩
  intro e he
  have he' : e = (s.heap.objs.size, l1) ∨ e = (s.heap.objs.size + 1, l2) := by simpa [mkP] using he
  rcases he' with rfl | rfl
  · exact h1
  · exact h2
end

/-! ### the turns -/
structure ApP (z TI TO : Addr) (P : List (Addr × Addr)) : Prop where
  TIz : TI ≠ z
  TOz : TO ≠ z
  TITO : TI ≠ TO
  i1 : ∀ e ∈ P, e.1 ≠ z ∧ e.1 ≠ TI ∧ e.1 ≠ TO
  l1 : ∀ e ∈ P, e.2 ≠ z ∧ e.2 ≠ TO
  li : ∀ e ∈ P, ∀ f ∈ P, e.2 ≠ f.1
  nd : (P.map (·.1)).Nodup
abbrev pr (e : Zi) : Addr × Addr := (e.1, e.2.1)
theorem ApP.of {z TI TO : Addr} {P : List (Addr × Addr)} {L : List Zi} (D : ApP z TI TO P) (h : L.map pr = P) : Apart z TI TO L := by
  have m : ∀ e ∈ L, pr e ∈ P := fun e q => h ▸ List.mem_map_of_mem q
  refine ⟨D.TIz, D.TOz, D.TITO, fun e q => (D.i1 _ (m e q)).1, fun e q => (D.i1 _ (m e q)).2.1, fun e q => (D.i1 _ (m e q)).2.2, fun e q => (D.l1 _ (m e q)).1, fun e q => (D.l1 _ (m e q)).2, fun e q f r => D.li _ (m e q) _ (m f r), ?_⟩
  have n := D.nd
  rw [← h, List.map_map] at n
  exact n
/-- by values: the tuples at ls hold xss -/
abbrev Tps (K : PySem.W.Frag) (H : Hp) (ls : List Addr) (xss : List (List V)) : Prop := Paired (fun l xs => SqT K H l xs) ls xss
/-- the tuples at ls as they stand at each turn, the items in new tuples -/
def ItzN (K : PySem.W.Frag) (ls : List Addr) : It :=
  ⟨fun i H => ∃ xss : List (List V), Tps K H ls xss ∧ ∀ xs ∈ xss, i < xs.length,
    fun i H v H' => ∃ T ys, v = .ref T ∧ H T = none ∧ H' = upd H T (.tup ys) ∧ ∀ xss, Tps K H ls xss → xss.map (·[i]?) = ys.map some,
    fun i H => ∃ xs xss, Tps K H ls (xs :: xss) ∧ xs.length ≤ i⟩
def F0ok (f0 : Value) : Prop := f0 = .none ∨ ∃ a : Addr, f0 = rawInt a
/-- the state of such an iterator; fr: whether its tuple may be held -/
def tnN (fr : Value → Prop) (z TI TO : Addr) (P : List (Addr × Addr)) (i : Nat) (h : Heap) : Prop :=
  ∃ f0 f1, IsZ h z TI TO f0 f1 ∧ fr f0 ∧ ZTup h TI (P.map fun e => .ref e.1) ∧ (∃ vs : List Value, vs.length = P.length ∧ ZTup h TO vs) ∧ ∀ e ∈ P, h.IsTupleIter e.1 e.2 i
abbrev fpN (z TI TO : Addr) (P : List (Addr × Addr)) : List Addr := z :: TI :: TO :: P.map (·.1)
theorem tnN_obj {fr : Value → Prop} {z TI TO : Addr} {P : List (Addr × Addr)} {i : Nat} {h : Heap} (t : tnN fr z TI TO P i h) : ∀ b ∈ fpN z TI TO P, ∃ o, h.get? b = some o ∧ ∀ v, o.data ≠ .cell v := by
  obtain ⟨f0, f1, hz, _, hTI, ⟨vs, _, hTO⟩, hit⟩ := t
  intro b hb
  rcases List.mem_cons.mp hb with rfl | hb
  · exact ⟨_, hz, fun v q => nomatch q⟩
  rcases List.mem_cons.mp hb with rfl | hb
  · exact ⟨_, hTI, fun v q => nomatch q⟩
  rcases List.mem_cons.mp hb with rfl | hb
  · exact ⟨_, hTO, fun v q => nomatch q⟩
  obtain ⟨e, he, rfl⟩ := List.mem_map.mp hb
  obtain ⟨o, h1, _, d1⟩ := hit e he
  exact ⟨o, h1, fun v q => by rw [d1] at q; cases q⟩
theorem tnN_keep {fr : Value → Prop} {z TI TO : Addr} {P : List (Addr × Addr)} {i : Nat} {h h' : Heap} (t : tnN fr z TI TO P i h) (k : ∀ b ∈ fpN z TI TO P, ∀ o, h.get? b = some o → h'.get? b = some o) : tnN fr z TI TO P i h' := by
  obtain ⟨f0, f1, hz, hf, hTI, ⟨vs, hl, hTO⟩, hit⟩ := t
  exact ⟨f0, f1, k _ (by simp) _ hz, hf, k _ (by simp) _ hTI, ⟨vs, hl, k _ (by simp) _ hTO⟩, fun e he => (hit e he).at fun o q => k e.1 (by simp; exact .inr (.inr (.inr ⟨_, he⟩))) o q⟩
theorem mkL {X : Cx} {pins : List (Addr × Obj)} {σ : L2.St} {H : Hp} {s : Shared} (I : Inv X pins σ H s) : ∀ (P : List (Addr × Addr)) (xss : List (List V)), Tps X.K H (P.map (·.2)) xss →
    ∃ L : List Zi, L.map pr = P ∧ (∀ e ∈ L, s.heap.IsTuple e.2.1 e.2.2) ∧ Paired (fun xs (e : Zi) => Vals xs e.2.2.toList) xss L
  | [], _, .nil => ⟨[], rfl, (fun e h => by cases h), .nil⟩
  | p :: P, _, .cons (b := xs) h t => by
    obtain ⟨L, h1, h2, h3⟩ := mkL I P _ t
    obtain ⟨its, r, p1, _⟩ := I.tuple h
    refine ⟨(p.1, p.2, its.toArray) :: L, by rw [List.map_cons, h1], fun e he => ?_, .cons (by simpa using r) h3⟩
    rcases List.mem_cons.mp he with rfl | he
    · exact p1
    · exact h2 e he
theorem at_i {i : Nat} : ∀ {xss : List (List V)} {L : List Zi}, Paired (fun xs (e : Zi) => Vals xs e.2.2.toList) xss L → (∀ xs ∈ xss, i < xs.length) →
    ∃ (ys : List V) (ws : List Value), xss.map (·[i]?) = ys.map some ∧ (L.map fun e => e.2.2[i]?) = ws.map some ∧ Vals ys ws
  | _, _, .nil, _ => ⟨[], [], rfl, rfl, .nil⟩
  | _, _, .cons (a := xs) (b := e) r t, h => by
    obtain ⟨ys, ws, h1, h2, h3⟩ := at_i t fun xs q => h xs (List.mem_cons_of_mem _ q)
    have hlt : i < xs.length := h xs List.mem_cons_self
    obtain ⟨u, hu, ru⟩ := r.get (List.getElem?_eq_getElem hlt)
    refine ⟨xs[i] :: ys, u :: ws, ?_, ?_, .cons ru h3⟩
    · rw [List.map_cons, List.map_cons, h1, List.getElem?_eq_getElem hlt]
    · rw [List.map_cons, List.map_cons, h2, ← hu]
      simp
theorem mapSome {α β : Type} {f : α → Option β} : ∀ {L : List α} {ws : List β}, L.map f = ws.map some → L.length = ws.length ∧ ∀ (k : Nat) (e : α), L[k]? = some e → f e = ws[k]? := fun {L ws} h => by
  have hl : L.length = ws.length := by
    have q := congrArg List.length h
    simpa using q
  refine ⟨hl, fun k e hk => ?_⟩
  have q : (L.map f)[k]? = (ws.map some)[k]? := by rw [h]
  rw [List.getElem?_map, hk, List.getElem?_map] at q
  cases hw : ws[k]? with
  | none => rw [hw] at q; cases q
  | some w => rw [hw] at q; exact Option.some.inj q
section
variable {prog : Program} {w : World} {A : Around} {E : Value → Shared → Prop} {s : Shared}
theorem pyNext_item {z : Addr} {o : Obj} {Q : Option Value → Shared → Prop} (hz : s.heap.get? z = some o) (hc : o.cls = .type "zip")
    (h : wpAny (model prog w) A.in1 (Builtin.«zip.__next__» ⟨[.ref z], []⟩) (fun fin s' => ∃ v, fin = .done (.ret v) ∧ Q (some v) s') (fun _ _ => False) s) : wpAny (model prog w) A (pyNext (.ref z)) Q E s := by
  have hT : s.TypeIs (.ref z) "zip" := ⟨_, hz, hc⟩
  unfold pyNext
  refine wpAny_bind (wpAny_attempt (wpAny_callSpecial?_slot (name := Str.ofString "__next__") hT F.slot_zip_next
    (wpAny_call_entry F.slot_zip_next hT F.entry_zip_next (wpAny_mono h (fun fin s' q => ?_) fun _ _ q => q.elim) (F.args_zip_next_1 _))))
  obtain ⟨v, rfl, q⟩ := q
  exact ⟨v, rfl, wpAny_pure q⟩
theorem pyNext_end {z : Addr} {o : Obj} {Q : Option Value → Shared → Prop} (hz : s.heap.get? z = some o) (hc : o.cls = .type "zip")
    (h : wpAny (model prog w) A.in1 (Builtin.«zip.__next__» ⟨[.ref z], []⟩) (fun _ _ => False) (fun e s' => ∃ a, e = .ref a ∧ (∃ o, s'.heap.get? a = some o ∧ o.cls = .type "StopIteration") ∧ Q none s') s) : wpAny (model prog w) A (pyNext (.ref z)) Q E s := by
  have hT : s.TypeIs (.ref z) "zip" := ⟨_, hz, hc⟩
  unfold pyNext
  refine wpAny_bind (wpAny_attempt (wpAny_callSpecial?_slot (name := Str.ofString "__next__") hT F.slot_zip_next
    (wpAny_call_entry F.slot_zip_next hT F.entry_zip_next (wpAny_mono h (fun _ _ q => q.elim) (fun e s' q => ?_)) (F.args_zip_next_1 _))))
  obtain ⟨a, rfl, ⟨o, ho, hc⟩, q⟩ := q
  refine wpAny_bind (wpAny_isInstance (T := "StopIteration") (b := true) ⟨o, ho, hc⟩ isSubtype_stop ?_)
  exact wpAny_pure q
end
end ZN

set_option Elab.async false
set_option linter.all false
set_option maxRecDepth 100000
set_option maxHeartbeats 4000000
/-! zip of any number of tuples, by any target: the turns, the rules -/
namespace ZN
open PySem PySem.Spec PyProof.Rows L2 RZ
theorem fp_lt {fr : Value → Prop} {z TI TO : Addr} {P : List (Addr × Addr)} {i : Nat} {h : Heap} (t : tnN fr z TI TO P i h) {c : Addr} (hc : c ∈ fpN z TI TO P) : c < h.objs.size := by
  obtain ⟨o, e, _⟩ := tnN_obj t c hc
  exact Heap.lt_size e
theorem mem_L {z TI TO : Addr} {P : List (Addr × Addr)} {L : List Zi} (h : L.map pr = P) {e : Zi} (he : e ∈ L) : e.1 ∈ fpN z TI TO P := by
  have q : pr e ∈ P := h ▸ List.mem_map_of_mem he
  have q2 : e.1 ∈ P.map (·.1) := List.mem_map.mpr ⟨_, q, rfl⟩
  simp only [List.mem_cons]
  exact .inr (.inr (.inr q2))
theorem refs_L {P : List (Addr × Addr)} {L : List Zi} (h : L.map pr = P) : (P.map fun e => Value.ref e.1) = L.map fun e => Value.ref e.1 := by
  rw [← h, List.map_map]
  rfl
theorem its_L {P : List (Addr × Addr)} {L : List Zi} {h : Heap} {i : Nat} (hL : L.map pr = P) (hit : ∀ e ∈ P, h.IsTupleIter e.1 e.2 i) : ∀ e ∈ L, h.IsTupleIter e.1 e.2.1 i := fun e he =>
  hit (pr e) (hL ▸ List.mem_map_of_mem he)
theorem its_P {P : List (Addr × Addr)} {L : List Zi} {h : Heap} {i : Nat} (hL : L.map pr = P) (hit : ∀ e ∈ L, h.IsTupleIter e.1 e.2.1 i) : ∀ e ∈ P, h.IsTupleIter e.1 e.2 i := fun e he => by
  rw [← hL] at he
  obtain ⟨f, hf, rfl⟩ := List.mem_map.mp he
  exact hit f hf
theorem yld_L {K : PySem.W.Frag} {X : Cx} {pins : List (Addr × Obj)} {σ : L2.St} {H : Hp} {s : Shared} (I : Inv X pins σ H s) : ∀ {ls : List Addr} {xss yss : List (List V)}, Tps X.K H ls xss → Tps X.K H ls yss → xss = yss
  | _, _, _, .nil, .nil => rfl
  | _, _, _, .cons a t, .cons b u => by rw [I.tuple_inj a b, yld_L (K := K) I t u]
/-- a target that is a tuple: the tuple is let go at once -/
theorem turn_tup {Pg : Program} {w : World} {K : PySem.W.Frag} {elts : List Expr} {kk : Nat} {tpos : Pos} {z TI TO : Addr} {P : List (Addr × Addr)} (D : ApP z TI TO P) (hne : P ≠ []) (hz8 : P.length ≤ 8) :
    Turn Pg w K (.Tuple elts kk tpos) (ItzN K (P.map (·.2))) (fpN z TI TO P) z (tnN (· = .none) z TI TO P) where
  mem := by simp
  obj := fun i h st => tnN_obj st
  keep := fun i h h' st k => tnN_keep st k
  item := by
    intro X hP hw hK hc i pins s σ H E I hf st hg
    subst hP hw hK
    have hlt0 : ∀ c ∈ fpN z TI TO P, c < s.heap.objs.size := fun c q => fp_lt st q
    obtain ⟨f0, f1, hz, hf0, hTI, ⟨vs, hl, hTO⟩, hit⟩ := st
    obtain ⟨xss, tp, hlt⟩ := hg
    obtain ⟨L, hL, ht, hv⟩ := mkL I P xss tp
    obtain ⟨ys, ws, e1, e2, rv⟩ := at_i hv hlt
    obtain ⟨lw, hx⟩ := mapSome e2
    have lP : L.length = P.length := by rw [← hL, List.length_map]
    have hLne : L ≠ [] := fun q => hne (by rw [← hL, q]; rfl)
    have hws : ws.length ≤ sizeLine := by rw [← lw, lP]; exact Nat.le_trans hz8 (by decide)
    refine pyNext_item hz rfl (next_item (D.of hL) hz (.inl hf0) (by rw [← refs_L hL]; exact hTI) hTO (by rw [hl, lP]) hLne lw.symm hws (its_L hL hit) ht hx fun h' z' TO' it' hT hsz hk => ?_)
    refine ⟨_, rfl, wpAny_letOwnedTupleGo_zip (s := { s with heap := h' }) z' fun h'' z'' sb => ?_⟩
    have hzl : z < s.heap.objs.size := hlt0 z (by simp)
    have hT2 : ZTup h'' s.heap.objs.size ws := (sb.2 _ (Nat.ne_of_gt hzl)).trans hT
    have new : ObjOk X.prog X.w (upd H s.heap.objs.size (.tup ys)) h'' s.heap.objs.size (.tup ys) :=
      ⟨by rw [rv.length]; exact hws, ws, rv, ⟨_, hT2, rfl, _, rfl⟩⟩
    have nL : ∀ {b : Addr}, b ∉ fpN z TI TO P → ∀ e ∈ L, b ≠ e.1 := fun hb e he q => hb (q ▸ mem_L hL he)
    have I1 : Inv X pins σ (upd H s.heap.objs.size (.tup ys)) { s with heap := h'' } :=
      I.turnedNew (t' := s.toks) (ch := fpN z TI TO P) (fun c o hb q => (sb.2 c (fun q' => hb (by simp [q']))).trans (hk c o (fun q' => hb (by simp [q'])) (fun q' => hb (by simp [q'])) (nL hb) q)) hf (Nat.le_refl _) new
    refine ⟨.ref s.heap.objs.size, _, I1, rfl, ⟨_, ys, rfl, I.hok.fresh (Nat.le_refl _), rfl, fun yss q => by rw [yld_L (K := X.K) I q tp]; exact e1⟩, ⟨.none, false, z'', rfl, ?_, ⟨ws, by rw [← lw, lP], (sb.2 _ D.TOz).trans TO'⟩, its_P hL fun e he => (it' e he).at fun o q => (sb.2 _ ((D.of hL).iz e he)).trans q⟩, fun c hcm => ?_⟩
    · exact (sb.2 _ D.TIz).trans (hk _ _ D.TIz D.TITO (fun e he q => (D.of hL).iTI e he q.symm) hTI)
    · rw [upd_ne (Nat.ne_of_lt (hlt0 c hcm))]
      exact (hf c hcm).1
  done := by
    intro X hP hw hK hc i pins s σ H E I hf st hg
    subst hP hw hK
    obtain ⟨f0, f1, hz, hf0, hTI, ⟨vs, hl, hTO⟩, hit⟩ := st
    obtain ⟨xs, xss, tp, hend⟩ := hg
    obtain ⟨L, hL, ht, hv⟩ := mkL I P _ tp
    cases hv with
    | cons r t =>
      rename_i e0 L0
      have m0 : e0 ∈ e0 :: L0 := List.mem_cons_self
      have he : e0.2.2[i]? = none := by
        have q : xs.length = e0.2.2.toList.length := Vals.length r
        have q2 : e0.2.2.toList.length = e0.2.2.size := Array.length_toList
        rw [Array.getElem?_eq_none_iff]
        omega
      refine pyNext_end hz rfl (next_end (I.ok.hd hc) (D.of hL) hz (.inl hf0) (by rw [← refs_L hL]; exact hTI) (its_L hL hit e0 m0) (ht e0 m0) he fun h' e hk he => ⟨e, rfl, he, rfl, ?_⟩)
      exact I.turnedL (t' := s.toks) (ch := fpN z TI TO P) (fun c o hb q => hk c o (fun q' => hb (by simp [q'])) (fun q' => hb (q' ▸ mem_L hL m0)) q) hf
  self := fun A i s Q E st h => by
    obtain ⟨f0, f1, hz, _⟩ := st
    have hT : s.TypeIs (.ref z) "zip" := ⟨_, hz, rfl⟩
    refine wpAny_pyIter_slot hT F.slot_zip_iter (wpAny_call_entry F.slot_zip_iter hT F.entry_zip_iter ?_ (F.args_zip_iter_1 _))
    show wpAny _ _ (ret (.ref z)) _ _ s
    exact wpAny_pure ⟨_, rfl, "zip", _, hT, F.slot_zip_next.lookup, h⟩
/-- a target that is a name: the tuple may be held -/
theorem turn_name {Pg : Program} {w : World} {K : PySem.W.Frag} {x : Str} {tpos : Pos} {z TI TO : Addr} {P : List (Addr × Addr)} (D : ApP z TI TO P) (hne : P ≠ []) (hz8 : P.length ≤ 8) :
    Turn Pg w K (.Name x tpos) (ItzN K (P.map (·.2))) (fpN z TI TO P) z (tnN F0ok z TI TO P) where
  mem := by simp
  obj := fun i h st => tnN_obj st
  keep := fun i h h' st k => tnN_keep st k
  item := by
    intro X hP hw hK hc i pins s σ H E I hf st hg
    subst hP hw hK
    have hlt0 : ∀ c ∈ fpN z TI TO P, c < s.heap.objs.size := fun c q => fp_lt st q
    obtain ⟨f0, f1, hz, hf0, hTI, ⟨vs, hl, hTO⟩, hit⟩ := st
    obtain ⟨xss, tp, hlt⟩ := hg
    obtain ⟨L, hL, ht, hv⟩ := mkL I P xss tp
    obtain ⟨ys, ws, e1, e2, rv⟩ := at_i hv hlt
    obtain ⟨lw, hx⟩ := mapSome e2
    have lP : L.length = P.length := by rw [← hL, List.length_map]
    have hLne : L ≠ [] := fun q => hne (by rw [← hL, q]; rfl)
    have hws : ws.length ≤ sizeLine := by rw [← lw, lP]; exact Nat.le_trans hz8 (by decide)
    have nL : ∀ {b : Addr}, b ∉ fpN z TI TO P → ∀ e ∈ L, b ≠ e.1 := fun hb e he q => hb (q ▸ mem_L hL he)
    -- common end
    have fin : ∀ (h' : Heap) (f0' : Value) (f1' : Bool), IsZ h' z TI TO f0' f1' → F0ok f0' → (∃ vs' : List Value, vs'.length = P.length ∧ ZTup h' TO vs') → (∀ e ∈ L, h'.IsTupleIter e.1 e.2.1 (i + 1)) → ZTup h' s.heap.objs.size ws →
        (∀ c o, c ≠ z → c ≠ TO → (∀ e ∈ L, c ≠ e.1) → s.heap.get? c = some o → h'.get? c = some o) →
        ∃ u, some (Value.ref s.heap.objs.size) = some u ∧ wpAny (model X.prog X.w) X.A (letOwnedTupleGo (.Name x tpos) (.ref z) u) (fun _ s2 => ∃ x H', Inv X pins σ H' s2 ∧ RelV x u ∧ (ItzN X.K (P.map (·.2))).yld i H x H' ∧ tnN F0ok z TI TO P (i + 1) s2.heap ∧ ∀ b ∈ fpN z TI TO P, H' b = none) E { s with heap := h' } := by
      intro h' f0' f1' z' hf0' hTO' it' hT hk
      refine ⟨_, rfl, wpAny_pure ?_⟩
      have new : ObjOk X.prog X.w (upd H s.heap.objs.size (.tup ys)) h' s.heap.objs.size (.tup ys) :=
        ⟨by rw [rv.length]; exact hws, ws, rv, ⟨_, hT, rfl, _, rfl⟩⟩
      have I1 : Inv X pins σ (upd H s.heap.objs.size (.tup ys)) { s with heap := h' } :=
        I.turnedNew (t' := s.toks) (ch := fpN z TI TO P) (fun c o hb q => hk c o (fun q' => hb (by simp [q'])) (fun q' => hb (by simp [q'])) (nL hb) q) hf (Nat.le_refl _) new
      refine ⟨.ref s.heap.objs.size, _, I1, rfl, ⟨_, ys, rfl, I.hok.fresh (Nat.le_refl _), rfl, fun yss q => by rw [yld_L (K := X.K) I q tp]; exact e1⟩, ⟨f0', f1', z', hf0', ?_, hTO', its_P hL it'⟩, fun c hcm => ?_⟩
      · exact hk _ _ D.TIz D.TITO (fun e he q => (D.of hL).iTI e he q.symm) hTI
      · rw [upd_ne (Nat.ne_of_lt (hlt0 c hcm))]
        exact (hf c hcm).1
    have hfree : Fr0 s.heap f0 ∨ ∃ (a : Addr) (o : Obj), f0 = rawInt a ∧ s.heap.get? a = some o := by
      rcases hf0 with rfl | ⟨a, rfl⟩
      · exact .inl (.inl rfl)
      · cases ha : s.heap.get? a with
        | none => exact .inl (.inr ⟨a, rfl, ha⟩)
        | some o => exact .inr ⟨a, o, rfl, ha⟩
    rcases hfree with hfr | ⟨a, o, rfl, ha⟩
    · refine pyNext_item hz rfl (next_item (D.of hL) hz hfr (by rw [← refs_L hL]; exact hTI) hTO (by rw [hl, lP]) hLne lw.symm hws (its_L hL hit) ht hx fun h' z' TO' it' hT hsz hk => ?_)
      exact fin h' _ _ z' (.inr ⟨_, rfl⟩) ⟨ws, by rw [← lw, lP], TO'⟩ it' hT hk
    · refine pyNext_item hz rfl (next_held (D.of hL) hz ha (by rw [← refs_L hL]; exact hTI) hLne lw.symm hws (its_L hL hit) ht hx fun h' z' it' hT hsz hk => ?_)
      exact fin h' _ _ z' (.inr ⟨_, rfl⟩) ⟨vs, hl, hk _ _ D.TOz (fun e he q => (D.of hL).iTO e he q.symm) hTO⟩ it' hT fun c o c1 _ c3 => hk c o c1 c3
  done := by
    intro X hP hw hK hc i pins s σ H E I hf st hg
    subst hP hw hK
    obtain ⟨f0, f1, hz, hf0, hTI, ⟨vs, hl, hTO⟩, hit⟩ := st
    obtain ⟨xs, xss, tp, hend⟩ := hg
    obtain ⟨L, hL, ht, hv⟩ := mkL I P _ tp
    cases hv with
    | cons r t =>
      rename_i e0 L0
      have m0 : e0 ∈ e0 :: L0 := List.mem_cons_self
      have he : e0.2.2[i]? = none := by
        have q : xs.length = e0.2.2.toList.length := Vals.length r
        have q2 : e0.2.2.toList.length = e0.2.2.size := Array.length_toList
        rw [Array.getElem?_eq_none_iff]
        omega
      have hfree : Fr0 s.heap f0 ∨ ∃ (a : Addr) (o : Obj), f0 = rawInt a ∧ s.heap.get? a = some o := by
        rcases hf0 with rfl | ⟨a, rfl⟩
        · exact .inl (.inl rfl)
        · cases ha : s.heap.get? a with
          | none => exact .inl (.inr ⟨a, rfl, ha⟩)
          | some o => exact .inr ⟨a, o, rfl, ha⟩
      rcases hfree with hfr | ⟨a, o, rfl, ha⟩
      · refine pyNext_end hz rfl (next_end (I.ok.hd hc) (D.of hL) hz hfr (by rw [← refs_L hL]; exact hTI) (its_L hL hit e0 m0) (ht e0 m0) he fun h' e hk he => ⟨e, rfl, he, rfl, ?_⟩)
        exact I.turnedL (t' := s.toks) (ch := fpN z TI TO P) (fun c o hb q => hk c o (fun q' => hb (by simp [q'])) (fun q' => hb (q' ▸ mem_L hL m0)) q) hf
      · refine pyNext_end hz rfl (held_end (I.ok.hd hc) (D.of hL) hz ha (by rw [← refs_L hL]; exact hTI) (its_L hL hit e0 m0) (ht e0 m0) he fun h' e hk he => ⟨e, rfl, he, rfl, ?_⟩)
        exact I.turnedL (t' := s.toks) (ch := fpN z TI TO P) (fun c o hb q => hk c o (fun q' => hb (by simp [q'])) (fun q' => hb (q' ▸ mem_L hL m0)) q) hf
  self := fun A i s Q E st h => by
    obtain ⟨f0, f1, hz, _⟩ := st
    have hT : s.TypeIs (.ref z) "zip" := ⟨_, hz, rfl⟩
    refine wpAny_pyIter_slot hT F.slot_zip_iter (wpAny_call_entry F.slot_zip_iter hT F.entry_zip_iter ?_ (F.args_zip_iter_1 _))
    show wpAny _ _ (ret (.ref z)) _ _ s
    exact wpAny_pure ⟨_, rfl, "zip", _, hT, F.slot_zip_next.lookup, h⟩
end ZN

set_option Elab.async false
set_option linter.all false
set_option maxRecDepth 100000
set_option maxHeartbeats 4000000
/-! zip of any number of tuples: what a for and a comprehension ask -/
namespace ZN
open PySem PySem.Spec PyProof.Rows L2 RZ
theorem apP_mk {n : Nat} {ls : List Addr} (hl : ∀ l ∈ ls, (l : Nat) < n) : ApP (n + ls.length + 2) (n + ls.length) (n + ls.length + 1) (mkP n ls) := by
  have lt2 : ∀ e ∈ mkP n ls, (e.2 : Nat) < n := fun e he => by
    have q : e.2 ∈ (mkP n ls).map (·.2) := List.mem_map_of_mem he
    rw [mkP_snd] at q
    exact hl _ q
  have ne : ∀ {a b : Nat}, a < b → a ≠ b := fun h => Nat.ne_of_lt h
  refine ⟨ne (by omega), ne (by omega), ne (by omega), fun e he => ?_, fun e he => ?_, fun e he f hf => ?_, mkP_nd n ls⟩
  · have q := (mkP_ge n ls e he).2
    exact ⟨ne (Nat.lt_of_lt_of_le q (by omega)), ne q, ne (Nat.lt_of_lt_of_le q (by omega))⟩
  · have q := lt2 e he
    exact ⟨ne (Nat.lt_of_lt_of_le q (by omega)), ne (Nat.lt_of_lt_of_le q (by omega))⟩
  · exact ne (Nat.lt_of_lt_of_le (lt2 e he) (mkP_ge n ls f hf).1)
def iZipN (K : PySem.W.Frag) (ta : TA) : TI := fun σ H R => ta σ H fun vs H1 => ∃ ls xss, vs = ls.map V.ref ∧ (2 ≤ ls.length ∧ ls.length ≤ 4) ∧ Tps K H1 ls xss ∧ R (ItzN K ls) H1
theorem refs_eq : ∀ {ls : List Addr} {us : List Value}, Vals (ls.map V.ref) us → us = ls.map Value.ref
  | [], _, .nil => rfl
  | l :: ls, _, .cons r t => by
    cases r
    rw [refs_eq t]
    rfl
section
variable {X : Cx}
theorem call_zipN {pins : List (Addr × Obj)} {σ : L2.St} {H : Hp} {s : Shared} {ls : List Addr} {xss : List (List V)} (I : Inv X pins σ H s) (hn : 2 ≤ ls.length ∧ ls.length ≤ 4) (tp : Tps X.K H ls xss) {A : Around} {E : Value → Shared → Prop} {Q : Value → Shared → Prop}
    (h : ∀ h', Zmade s.heap h' ls → Q (.ref (s.heap.objs.size + ls.length + 2)) { s with heap := h' }) : wpAny (model X.prog X.w) A (call (.type "zip") (ls.map Value.ref)) Q E s := by
  have tu : ∀ {l : Addr} {xs : List V}, SqT X.K H l xs → ∃ its : Array Value, s.heap.IsTuple l its := fun q => by
    obtain ⟨its, _, p, _⟩ := I.tuple q
    exact ⟨_, p⟩
  obtain ⟨h2, h4⟩ := hn
  cases tp with
  | nil => exact absurd h2 (by simp)
  | cons t1 r1 =>
    cases r1 with
    | nil => exact absurd h2 (by simp)
    | cons t2 r2 =>
      obtain ⟨i1, g1⟩ := tu t1
      obtain ⟨i2, g2⟩ := tu t2
      cases r2 with
      | nil => exact call_zip2 g1 g2 h
      | cons t3 r3 =>
        obtain ⟨i3, g3⟩ := tu t3
        cases r3 with
        | nil => exact call_zip3 g1 g2 g3 h
        | cons t4 r4 =>
          obtain ⟨i4, g4⟩ := tu t4
          cases r4 with
          | nil => exact call_zip4 g1 g2 g3 g4 h
          | cons t5 r5 => exact absurd h4 (by simp)
theorem lt_Tps {pins : List (Addr × Obj)} {σ : L2.St} {H : Hp} {s : Shared} (I : Inv X pins σ H s) : ∀ {ls : List Addr} {xss : List (List V)}, Tps X.K H ls xss → ∀ l ∈ ls, l < s.heap.objs.size
  | _, _, .nil, _, h => by cases h
  | _, _, .cons t r, l, h => by
    rcases List.mem_cons.mp h with rfl | h
    · obtain ⟨its, _, ⟨o, ho, _⟩, _⟩ := I.tuple t
      exact Heap.lt_size ho
    · exact lt_Tps I r l h
theorem pi_zipG {tg e : Expr} {rest : List Expr} {ta : TA} {p pos : Pos} {fr : Value → Prop} (hfr : fr .none)
    (T : ∀ {Pg : Program} {w : World} {K : PySem.W.Frag} {z TI TO : Addr} {P : List (Addr × Addr)} (D : ApP z TI TO P) (hne : P ≠ []) (hz8 : P.length ≤ 8), Turn Pg w K tg (ItzN K (P.map (·.2))) (fpN z TI TO P) z (tnN fr z TI TO P))
    (hg : Gl X "zip") (hm : X.mg "zip" = none) (ha : PA X (e :: rest) ta)
    (hs : starEach (e :: rest) X.env = (false, eval e X.env) :: starEach rest X.env) (hpl : (backTo pos (starEach rest X.env)).any (·.1) = false) :
    PI X tg (.Call (.Name "zip" p) (e :: rest) [] pos) (iZipN X.K ta) := by
  refine ⟨fun pins s σ H R I h => ?_⟩
  refine Call_ (ld_blt I hg hm PyProof.Rows.boot_zip (PyProof.Rows.callWith_type1 (thn (ha.run pos pins s σ H _ I h) fun us s1 ⟨vs, H1, I1, r1, q1⟩ => ?_) hs hpl))
  obtain ⟨ls, xss, ex, hn, tp, q⟩ := q1
  subst ex
  rw [refs_eq r1]
  refine call_zipN I1 hn tp fun h' M => ?_
  have hne : mkP s1.heap.objs.size ls ≠ [] := fun z => by
    have q := mkP_len s1.heap.objs.size ls
    rw [z] at q
    have q' : 0 = ls.length := q
    omega
  have h8 : (mkP s1.heap.objs.size ls).length ≤ 8 := by rw [mkP_len]; omega
  have D := apP_mk (n := s1.heap.objs.size) (lt_Tps I1 tp)
  have I2 : Inv X pins σ H1 { s1 with heap := h' } := I1.kept (t' := s1.toks) M.keep
  have TT := T (Pg := X.prog) (w := X.w) (K := X.K) D hne h8
  obtain ⟨vs, hvl, hTO⟩ := M.tO
  have st : tnN fr (s1.heap.objs.size + ls.length + 2) (s1.heap.objs.size + ls.length) (s1.heap.objs.size + ls.length + 1) (mkP s1.heap.objs.size ls) 0 h' :=
    ⟨.none, false, M.z, hfr, M.tI, ⟨vs, by rw [hvl, mkP_len], hTO⟩, M.it⟩
  refine TT.self X.A 0 { s1 with heap := h' } _ _ st ?_
  rw [mkP_snd] at TT
  refine ⟨_, _, _, _, H1, rfl, I2, TT, st, fun b hb => ?_, q⟩
  have hle : s1.heap.objs.size ≤ b := by
    simp only [List.mem_cons] at hb
    rcases hb with rfl | rfl | rfl | hb
    · exact Nat.le_trans (Nat.le_add_right _ _) (Nat.le_add_right _ _)
    · exact Nat.le_add_right _ _
    · exact Nat.le_trans (Nat.le_add_right _ _) (Nat.le_add_right _ _)
    · obtain ⟨e, he, rfl⟩ := List.mem_map.mp hb
      exact (mkP_ge _ _ e he).1
  exact I1.fpOk hle (I1.hok.fresh hle)
theorem pi_zipT {elts : List Expr} {kk : Nat} {tpos : Pos} {e : Expr} {rest : List Expr} {ta : TA} {p pos : Pos} (hg : Gl X "zip") (hm : X.mg "zip" = none) (ha : PA X (e :: rest) ta)
    (hs : starEach (e :: rest) X.env = (false, eval e X.env) :: starEach rest X.env := by rfl) (hpl : (backTo pos (starEach rest X.env)).any (·.1) = false := by rfl) :
    PI X (.Tuple elts kk tpos) (.Call (.Name "zip" p) (e :: rest) [] pos) (iZipN X.K ta) := pi_zipG (fr := (· = .none)) rfl (fun D hne h8 => turn_tup D hne h8) hg hm ha hs hpl
theorem pi_zipN {x : Str} {tpos : Pos} {e : Expr} {rest : List Expr} {ta : TA} {p pos : Pos} (hg : Gl X "zip") (hm : X.mg "zip" = none) (ha : PA X (e :: rest) ta)
    (hs : starEach (e :: rest) X.env = (false, eval e X.env) :: starEach rest X.env := by rfl) (hpl : (backTo pos (starEach rest X.env)).any (·.1) = false := by rfl) :
    PI X (.Name x tpos) (.Call (.Name "zip" p) (e :: rest) [] pos) (iZipN X.K ta) := pi_zipG (fr := F0ok) (.inl rfl) (fun D hne h8 => turn_name D hne h8) hg hm ha hs hpl
end
/-! ### loops: the tuples hold n items each; col i: the i-th items -/
structure Cols (xss : List (List V)) (n : Nat) (col : Nat → List V) : Prop where
  ne : xss ≠ []
  len : ∀ xs ∈ xss, xs.length = n
  at_ : ∀ i, i < n → xss.map (·[i]?) = (col i).map some
theorem mapSome_inj {α : Type} : ∀ {a b : List α}, a.map some = b.map some → a = b
  | [], [], _ => rfl
  | [], _ :: _, h => by cases h
  | _ :: _, [], h => by cases h
  | x :: a, y :: b, h => by
    injection h with h1 h2
    cases h1
    rw [mapSome_inj h2]
theorem for_zip {K : PySem.W.Frag} {ls : List Addr} {xss : List (List V)} {n : Nat} {col : Nat → List V} {g : TG} {tb : TS} {D : Ends} {σ : L2.St} {H : Hp} (C : Cols xss n col) (Pv : Nat → L2.St → Hp → Prop) (h0 : Pv 0 σ H) (hq : ∀ i σ H, Pv i σ H → Tps K H ls xss)
    (hs : ∀ (i : Nat) (T : Addr) (σ : L2.St) (H : Hp), i < n → Pv i σ H → H T = none → g (.ref T) σ (upd H T (.tup (col i))) fun σ2 H2 => tb { D with nx := Pv (i + 1), ct := Pv (i + 1), bk := D.nx } σ2 H2) (hd : ∀ σ H, Pv n σ H → D.nx σ H) :
    ∃ W : Nat → Nat → L2.St → Hp → Prop, (∃ m, W 0 m σ H) ∧ ∀ i m σ H, W i m σ H →
      ((ItzN K ls).stop i H ∧ D.nx σ H) ∨ ((ItzN K ls).go i H ∧ ∃ N : L2.St → Hp → Prop, (∀ σ' H', N σ' H' → ∃ m', m' < m ∧ W (i + 1) m' σ' H') ∧ ∀ v H', (ItzN K ls).yld i H v H' → g v σ H' fun σ2 H2 => tb { D with nx := N, ct := N, bk := D.nx } σ2 H2) := by
  refine ⟨fun i m σ H => m = n - i ∧ i ≤ n ∧ Pv i σ H, ⟨n, rfl, Nat.zero_le _, h0⟩, ?_⟩
  rintro i m σ H ⟨rfl, hi, p⟩
  have tp := hq i σ H p
  by_cases hlt : i < n
  · refine .inr ⟨⟨xss, tp, fun xs q => by rw [C.len xs q]; exact hlt⟩, Pv (i + 1), fun σ' H' p' => ⟨n - (i + 1), by omega, rfl, hlt, p'⟩, fun v H' y => ?_⟩
    obtain ⟨T, ys, rfl, hT, rfl, f⟩ := y
    rw [mapSome_inj ((f xss tp).symm.trans (C.at_ i hlt))]
    exact hs i T σ H hlt p hT
  · have e : i = n := by omega
    subst e
    cases xss with
    | nil => exact absurd rfl C.ne
    | cons xs r => exact .inl ⟨⟨xs, r, tp, Nat.le_of_eq (C.len xs List.mem_cons_self)⟩, hd σ H p⟩
theorem lc_zip {K : PySem.W.Frag} {ls : List Addr} {xss : List (List V)} {n : Nat} {col : Nat → List V} {g : TG} {tt : TT} {te : TE} {vs : List Nat} {σ : L2.St} {H1 : Hp} {D : Addr} {Qd : Hp → Prop} (C : Cols xss n col) (Pv : Nat → Hp → Prop) (h0 : Pv 0 (upd H1 D (.lst []))) (hl : ∀ i H, Pv i H → Tps K H ls xss)
    (hs : ∀ i T H, i < n → Pv i H → H T = none → g (.ref T) (wipe σ vs) (upd H T (.tup (col i))) fun σ2 H2 => wipe σ2 vs = wipe σ vs ∧ tt σ2 H2 fun b H3 =>
      if b = true then te σ2 H3 fun y H4 => ∃ acc, H4 D = some (.lst acc) ∧ acc.length < sizeLine ∧ Pv (i + 1) (upd H4 D (.lst (acc ++ [y]))) else Pv (i + 1) H3) (hd : ∀ H, Pv n H → Qd H) :
    ∃ W : Nat → Nat → Hp → Prop, (∃ m, W 0 m (upd H1 D (.lst []))) ∧ ∀ i m H, W i m H →
      ((ItzN K ls).stop i H ∧ Qd H) ∨ ((ItzN K ls).go i H ∧ ∃ Nx : Hp → Prop, (∀ H', Nx H' → ∃ m', m' < m ∧ W (i + 1) m' H') ∧ ∀ x H', (ItzN K ls).yld i H x H' → g x (wipe σ vs) H' fun σ2 H2 => wipe σ2 vs = wipe σ vs ∧ tt σ2 H2 fun b H3 =>
        if b = true then te σ2 H3 fun y H4 => ∃ acc, H4 D = some (.lst acc) ∧ acc.length < sizeLine ∧ Nx (upd H4 D (.lst (acc ++ [y]))) else Nx H3) := by
  refine ⟨fun i m H => m = n - i ∧ i ≤ n ∧ Pv i H, ⟨n, rfl, Nat.zero_le _, h0⟩, ?_⟩
  rintro i m H ⟨rfl, hi, p⟩
  have tp := hl i H p
  by_cases hlt : i < n
  · refine .inr ⟨⟨xss, tp, fun xs q => by rw [C.len xs q]; exact hlt⟩, Pv (i + 1), fun H' p' => ⟨n - (i + 1), by omega, rfl, hlt, p'⟩, fun x H' y => ?_⟩
    obtain ⟨T, ys, rfl, hT, rfl, f⟩ := y
    rw [mapSome_inj ((f xss tp).symm.trans (C.at_ i hlt))]
    exact hs i T H hlt p hT
  · have e : i = n := by omega
    subst e
    cases xss with
    | nil => exact absurd rfl C.ne
    | cons xs r => exact .inl ⟨⟨xs, r, tp, Nat.le_of_eq (C.len xs List.mem_cons_self)⟩, hd H p⟩
end ZN

set_option Elab.async false
set_option linter.all false
set_option maxRecDepth 100000
set_option maxHeartbeats 4000000
/-! small rules that the layer lacks -/
namespace FR
open PySem PySem.Spec PyProof.Rows L2
/-! ### xs[i] read in xs[i] op= e -/
theorem get_list {X : Cx} : PGet X (rIxL X.K) := by
  intro pins s σ H o i ov iv Q I ro ri h
  obtain ⟨p, xs, k, z, rfl, rfl, hq, he, q⟩ := h
  cases ro
  obtain ⟨t, rfl⟩ := ri
  obtain ⟨its, r, pl, hz⟩ := I.list hq
  obtain ⟨j, h1, h2, h3, h4, h5⟩ := atI_get he
  obtain ⟨w, ew, rw'⟩ := r.get h2
  have hl := r.length
  have hn := line63
  by_cases h0 : 0 ≤ k
  · have hj : k.toNat = j := by
      rw [seqIndex_of h0 h5] at h1
      exact Option.some.inj h1
    exact wpAny_getItem_list pl.isList h0 (by omega) (by rw [hj]; simpa using ew) ⟨z, H, I, rw', q⟩
  · have hj : (k + (its.toArray.size : Int)).toNat = j := by
      rw [seqIndex_neg (by omega) h4] at h1
      rw [List.size_toArray, ← hl]
      exact Option.some.inj h1
    exact wpAny_getItem_list_neg pl.isList (by omega) (by rw [List.size_toArray] <;> omega) (by omega) (by rw [hj]; simpa using ew) ⟨z, H, I, rw', q⟩

/-! ### max(t), min(t) of a tuple of ints -/
section
variable {prog : Program} {w : World} {A : Around} {E : Value → Shared → Prop} {s : Shared} {l : Addr} {xs : Array (Int × Tok)}
theorem iter_intTup {Q : Value → Shared → Prop} (hl : s.heap.IsTuple l (intItems xs))
    (h : ∀ s₂ : Shared, s₂ = { s with heap := s.heap.push { cls := .type "tuple_iterator", data := .fields #[.ref l, .int 0 0] } } →
      (s₂.heap.IsTupleIter s.heap.objs.size l 0 ∧ s₂.heap.IsTuple l (intItems xs)) → (∀ b ∈ [s.heap.objs.size, l], b < s₂.heap.objs.size) → l ≠ s.heap.objs.size → Q (.ref s.heap.objs.size) s₂) :
    wpAny (model prog w) A (pyIter (.ref l)) Q E s := by
  have hlt : l < s.heap.objs.size := by obtain ⟨_, e, _⟩ := hl; exact Heap.lt_size e
  refine wpAny_pyIter_tuple hl (h _ rfl ⟨⟨_, Heap.get?_push_size _ rfl, rfl, rfl⟩, hl.push _⟩ (fun b hb => ?_) (Nat.ne_of_lt hlt))
  show b < (s.heap.push _).objs.size
  rw [Heap.size_push]
  rcases List.mem_cons.mp hb with rfl | hb
  · exact Nat.lt_succ_self _
  · rcases List.mem_cons.mp hb with rfl | hb
    · exact Nat.lt_succ_of_lt hlt
    · cases hb
theorem old_keptT {h' : Heap} (hk : ∀ b o, b ∉ [s.heap.objs.size] → (s.heap.push { cls := .type "tuple_iterator", data := .fields #[.ref l, .int 0 0] }).get? b = some o → h'.get? b = some o) :
    ∀ b o, s.heap.get? b = some o → h'.get? b = some o := fun b o e => by
  refine hk b o (fun hm => ?_) (Heap.get?_push_of_some _ e)
  rcases List.mem_cons.mp hm with e1 | hm
  · exact absurd (e1 ▸ Heap.lt_size e) (Nat.lt_irrefl _)
  · cases hm
theorem max_intTup {Q : Value → Shared → Prop} (hh : A.handled = none) (hl : s.heap.IsTuple l (intItems xs)) (hne : 0 < xs.size)
    (h : ∀ v h' tk, (intItems xs)[argBest (fun i j => decide (numAt xs i > numAt xs j)) (xs.size - 1)]? = some v → (∀ b o, s.heap.get? b = some o → h'.get? b = some o) → Q v { s with heap := h', toks := tk }) :
    wpAny (model prog w) A (call (.builtin "max") [.ref l]) Q E s := by
  refine call_max_walk (iter_intTup hl fun s₂ e st hfp hlI => ?_)
  subst e
  refine ⟨_, [_, l], [_], _, _, _, _, rfl, Walks.tuple (A := A.in1) hh _ l hlI (intItems xs), st, hfp, by simpa [intItems] using hne, CmpOf.ints_gt (numAt xs) (fun _ _ => intItems_at), fun v h' tk hP hk => ?_⟩
  exact h v h' tk (by simpa [intItems] using hP) (old_keptT hk)
theorem min_intTup {Q : Value → Shared → Prop} (hh : A.handled = none) (hl : s.heap.IsTuple l (intItems xs)) (hne : 0 < xs.size)
    (h : ∀ v h' tk, (intItems xs)[argBest (fun i j => decide (numAt xs i < numAt xs j)) (xs.size - 1)]? = some v → (∀ b o, s.heap.get? b = some o → h'.get? b = some o) → Q v { s with heap := h', toks := tk }) :
    wpAny (model prog w) A (call (.builtin "min") [.ref l]) Q E s := by
  refine call_min_walk (iter_intTup hl fun s₂ e st hfp hlI => ?_)
  subst e
  refine ⟨_, [_, l], [_], _, _, _, _, rfl, Walks.tuple (A := A.in1) hh _ l hlI (intItems xs), st, hfp, by simpa [intItems] using hne, CmpOf.ints_lt (numAt xs) (fun _ _ => intItems_at), fun v h' tk hP hk => ?_⟩
  exact h v h' tk (by simpa [intItems] using hP) (old_keptT hk)
theorem max_rawT {its : List Value} {ns : List Int} {Q : Value → Shared → Prop} (hh : A.handled = none) (hl : s.heap.IsTuple l its.toArray) (hi : IntsAre its ns) (hne : 0 < ns.length)
    (h : ∀ h' tk M t', (∀ b o, s.heap.get? b = some o → h'.get? b = some o) → M ∈ ns → (∀ a, a ∈ ns → a ≤ M) → Q (.int M t') { s with heap := h', toks := tk }) : wpAny (model prog w) A (call (.builtin "max") [.ref l]) Q E s := by
  obtain ⟨xs, e⟩ := hi.allInts.items
  have hn : numsOf (intItems xs).toList = ns := by rw [← e]; exact hi.numsOf
  rw [nums_intItems] at hn
  subst hn
  rw [e] at hl
  have hsz : 0 < xs.size := by simpa using hne
  refine max_intTup hh hl hsz fun v h' tk hv hk => ?_
  obtain ⟨t, rfl⟩ := intItems_at hv
  obtain ⟨h1, h2⟩ := argBest_gt (numAt xs) (xs.size - 1)
  refine h h' tk _ t hk ?_ fun a ha => ?_
  · rw [numAt_eq]; exact PySem.getD_mem (by rw [List.length_map, Array.length_toList]; omega)
  · obtain ⟨j, hj, rfl⟩ := mem_getD ha
    rw [List.length_map, Array.length_toList] at hj
    rw [← numAt_eq]; exact h2 j (by omega)
theorem min_rawT {its : List Value} {ns : List Int} {Q : Value → Shared → Prop} (hh : A.handled = none) (hl : s.heap.IsTuple l its.toArray) (hi : IntsAre its ns) (hne : 0 < ns.length)
    (h : ∀ h' tk M t', (∀ b o, s.heap.get? b = some o → h'.get? b = some o) → M ∈ ns → (∀ a, a ∈ ns → M ≤ a) → Q (.int M t') { s with heap := h', toks := tk }) : wpAny (model prog w) A (call (.builtin "min") [.ref l]) Q E s := by
  obtain ⟨xs, e⟩ := hi.allInts.items
  have hn : numsOf (intItems xs).toList = ns := by rw [← e]; exact hi.numsOf
  rw [nums_intItems] at hn
  subst hn
  rw [e] at hl
  have hsz : 0 < xs.size := by simpa using hne
  refine min_intTup hh hl hsz fun v h' tk hv hk => ?_
  obtain ⟨t, rfl⟩ := intItems_at hv
  obtain ⟨h1, h2⟩ := argBest_lt (numAt xs) (xs.size - 1)
  refine h h' tk _ t hk ?_ fun a ha => ?_
  · rw [numAt_eq]; exact PySem.getD_mem (by rw [List.length_map, Array.length_toList]; omega)
  · obtain ⟨j, hj, rfl⟩ := mem_getD ha
    rw [List.length_map, Array.length_toList] at hj
    rw [← numAt_eq]; exact h2 j (by omega)
end
def rMaxT (K : PySem.W.Frag) : List V → Hp → VK → Prop := fun vs H Q => ∃ (a : Addr) (ns : List Int), vs = [V.ref a] ∧ SqT K H a (ns.map V.int) ∧ 0 < ns.length ∧ ∀ m, m ∈ ns → (∀ y, y ∈ ns → y ≤ m) → Q (.int m) H
def rMinT (K : PySem.W.Frag) : List V → Hp → VK → Prop := fun vs H Q => ∃ (a : Addr) (ns : List Int), vs = [V.ref a] ∧ SqT K H a (ns.map V.int) ∧ 0 < ns.length ∧ ∀ m, m ∈ ns → (∀ y, y ∈ ns → m ≤ y) → Q (.int m) H
section
variable {X : Cx}
theorem cr_maxT (hc : X.calm = true) : CallR X (.builtin "max") (rMaxT X.K) := by
  intro pins s σ H vs us Q I r h
  obtain ⟨a, ns, rfl, hs, hne, q⟩ := h
  obtain ⟨its, rv, hl, _⟩ := I.tuple hs
  rw [Vals.ref1 r]
  exact max_rawT (I.ok.hd hc) hl rv.ints hne fun h' tk m t' hk h1 h2 => ⟨.int _, H, I.kept hk, ⟨_, rfl⟩, q m h1 h2⟩
theorem cr_minT (hc : X.calm = true) : CallR X (.builtin "min") (rMinT X.K) := by
  intro pins s σ H vs us Q I r h
  obtain ⟨a, ns, rfl, hs, hne, q⟩ := h
  obtain ⟨its, rv, hl, _⟩ := I.tuple hs
  rw [Vals.ref1 r]
  exact min_rawT (I.ok.hd hc) hl rv.ints hne fun h' tk m t' hk h1 h2 => ⟨.int _, H, I.kept hk, ⟨_, rfl⟩, q m h1 h2⟩
end

/-! ### t * 1: the tuple itself -/
theorem tuple_mul1 (l : Addr) (items : Array Value) (n : Nat) (sl : Array (Option Value)) (dd : Option Addr) (u : Tok) :
    Meets (Builtin.«tuple.__mul__» ⟨[.ref l, .int 1 u], []⟩) (fun _ R s => s.heap.get? l = some { cls := .type "tuple", dict := dd, data := .seq items n, slots := sl } ∧ R (.ok (.ret (Value.ref l))) s) :=
  .of_wp fun prog w A R s h => by
    obtain ⟨hp, g, d, tk, os⟩ := s
    obtain ⟨hl, h⟩ := h
    have f1 := AutoSeq1.idx_int
    have c1 : (items.isEmpty || (1 : Int) == 1) = true := by simp
    wp_walk using wpAny_loadPart' hl
    exact ⟨_, rfl, h⟩
def rRep1 (K : PySem.W.Frag) : R2 := fun x y H Q => ∃ l xs, x = .ref l ∧ y = .int 1 ∧ SqT K H l xs ∧ Q (.ref l) H
theorem op_rep1 {X : Cx} : OpR X (binaryOp .Mult) (rRep1 X.K) := by
  intro pins s σ H x y v u Q I rx ry h
  obtain ⟨l, xs, rfl, rfl, hT, q⟩ := h
  cases rx
  obtain ⟨t, rfl⟩ := ry
  obtain ⟨its, r, ⟨⟨cls, dd, data, sl⟩, ho, hc, n, hd⟩, hs⟩ := I.tuple hT
  simp only at hc hd
  subst hc hd
  exact wpAny_binaryOp_repeat_ref (T := "tuple") (U := "int") (by decide) ⟨_, ho, rfl⟩ (fun s' => typeIs_int s' 1 t) noFill_tuple_mul F.fills_int_mul F.slot_int_rmul repeat_tuple F.slot_int_index.lookup
    (call_meets F.slot_int_rmul (typeIs_int s 1 t) F.entry_int_rmul (F.args_int_rmul_2 _ _) (int_rmul_tuple 1 t l its.toArray n dd sl)
      ⟨ho, rfl, ⟨_, ho, rfl⟩, call_meets F.slot_tuple_mul ⟨_, ho, rfl⟩ F.entry_tuple_mul (F.args_tuple_mul_2 _ _) (tuple_mul1 l its.toArray n sl dd t) ⟨ho, ⟨.ref l, H, I, rfl, q⟩⟩⟩)
/-- t * k, k from 1 on, of a tracked tuple -/
def rRepN : R2 := fun x y H Q => ∃ l xs, x = .ref l ∧ ∃ k : Nat, y = .int (k : Int) ∧ H l = some (.tup xs) ∧ xs ≠ [] ∧ 1 ≤ k ∧ k ≤ 1000 ∧ xs.length ≤ 1000 ∧
  ∀ p H', (∀ b o, H b = some o → H' b = some o) → H' p = some (.tup (List.replicate k xs).flatten) → Q (.ref p) H'
theorem op_repN {X : Cx} : OpR X (binaryOp .Mult) rRepN := by
  intro pins s σ H x y v u Q I rx ry h
  obtain ⟨l, xs, rfl, k, rfl, hT, hne, h1, h2, hz, q⟩ := h
  by_cases hk : k = 1
  · subst hk
    exact op_rep1 pins s σ H _ _ v u Q I rx ry ⟨l, xs, rfl, rfl, .inl (.inl hT), q l H (fun _ _ e => e) (by simpa using hT)⟩
  · refine op_repT pins s σ H _ _ v u Q I rx ry ⟨l, k, xs, rfl, rfl, .inl (.inl hT), hne, by omega, by omega, hz, fun p hp => q p _ (fun b o e => by rw [upd_ne (ne_of_none e hp)]; exact e) ?_⟩
    rw [Int.toNat_natCast]
    exact upd_same

/-! ### == and != by an own __eq__, whatever it answers -/
section
open PySem.W
variable {prog : Program} {w : World} {A : Around} {E : Value → Shared → Prop} {s : Shared} {K : Frag} {x y C f : Addr} {ox oy : Obj} {od od' : Option Obj}
theorem ifBoundB_K {M : Model} {name : Str} {id : String} {args : List Value} {Q : Option Value → Shared → Prop} (X : K.In s.heap) (I : InstAt s.heap x ox C od) (hs : findIn K (.ref C) name = some (some (.builtin id))) (S : Slot "object" name id)
    (h : wpAny M A (call (.builtin id) (.ref x :: args)) (fun v => Q (some v)) E s) : wpAny M A (callSpecialIfBound? (.ref x) name args) Q E s := by
  simp only [callSpecialIfBound?, bindSpecialIfBound?]
  refine wpAny_holding (wpAny_bind (wpAny_bind (wpAny_bind (I.type.here ((looks_findIn X hs).here ?_)))))
  simp only [S.bind]
  refine wpAny_bind (wpAny_askSetting (wpAny_ite ?_))
  have fin : wpAny M A (call (.builtin id) ([.ref x] ++ args) >>= fun v => pure (some v)) Q E s := wpAny_bind (wpAny_mono h (fun v s' h' => wpAny_pure h') fun _ _ h' => h')
  split
  · exact wpAny_bind (wpAny_pure (wpAny_pure (by exact fin)))
  · exact wpAny_tryCatch (wpAny_bind (wpAny_pure (wpAny_pure (by exact fin))))
theorem ne_K {Q : Value → Shared → Prop} (hu : A.units + 1 < cLine) (X : K.In s.heap) (I : InstAt s.heap x ox C od) (J : InstAt s.heap y oy C od')
    (hne : findIn K (.ref C) "__ne__" = some (some (.builtin "object.__ne__"))) (hob : subIn K (.ref C) (.type "object") = some true)
    (heq : findIn K (.ref C) "__eq__" = some (some (.ref f))) (hf : isFn K (.ref f) = true)
    (h : wpAny (model prog w) A.in1 (call (.ref f) [.ref x, .ref y]) (fun v s' => ∃ b, v = .bool b ∧ Q (.bool (!b)) s') E s) : wpAny (model prog w) A (richCompare .NotEq (.ref x) (.ref y)) Q E s := by
  have one : wpAny (model prog w) A (tryCompare (.ref x) "__ne__" (.ref y)) (fun r s' => ∃ v, r = some v ∧ Q v s') E s := by
    unfold tryCompare
    refine wpAny_bind (ifBoundB_K X I hne F.cmp_object.ne (wpAny_call (codeAny_call_builtin F.cmp_object.ne.plain F.cmpEntry_ne
      (@W.check_slot (model prog w) _ _ s "object.__ne__" "object" "__ne__" (.ref x) [.ref y] [] _ F.cmpKind_ne F.cmpSplit_ne (I.type.andThen (looks_subIn X hob)) (F.cmpArgs_ne _ _) ?_))))
    unfold Builtin.«object.__ne__»
    refine wpAny_bind (wpAny_of_eq (a := (Value.ref x, [Value.ref y])) (by first | rfl | kernel_rfl) ?_)
    refine wpAny_bind (wpAny_cRoomFor (show A.in1.units < cLine from hu) ?_)
    refine wpAny_bind (ifBound_K X I heq hf (wpAny_mono h (fun v s' hv => ?_) fun _ _ e => e))
    obtain ⟨b, rfl, q⟩ := hv
    refine wpAny_bind (wpAny_truthy_bool ?_)
    refine wpAny_pure ?_
    show wpAny _ _ (pure (some (Value.bool !b))) _ _ _
    exact wpAny_pure ⟨_, rfl, q⟩
  unfold richCompare
  simp only [oneThing_ref]
  refine wpAny_holding (wpAny_bind (wpAny_cRoomFor (Nat.lt_of_succ_lt hu) ?_))
  refine wpAny_bind (I.type.here (wpAny_bind (J.type.here ?_)))
  rw [show (Value.ref C != Value.ref C) = false from by simp]
  simp only [Bool.false_eq_true, if_false]
  refine wpAny_bind (wpAny_pure ?_)
  simp only [Bool.false_eq_true, if_false]
  refine wpAny_bind (wpAny_mono one (fun r s' z => ?_) fun _ _ e => e)
  obtain ⟨v, rfl, q⟩ := z
  exact wpAny_pure q
end
section
variable {X : Cx}
/-- what both ask: two instances of the class at C, and the promise of __eq__ at them -/
def rOwn (C : Addr) (sp : Sp) (k : Bool → Bool) : R2 := fun x y H Q => ∃ a b dx dy fs gs, x = .ref a ∧ y = .ref b ∧ H a = some (.ins C dx fs) ∧ H b = some (.ins C dy gs) ∧ sp [.ref a, .ref b] H (fun v H' => ∃ r, v = .bl r ∧ Q (.bl (k r)) H') E0
theorem own_call {f : Addr} {fd : FuncData} {ps : List Str} {n : Nat} {sp : Sp} {A : Around} (F : FnOk X.prog X.w X.K X.mg X.base CX0 n f fd ps sp) (hb : Binds X.K fd ps []) (sb : Sub X n A) {pins : List (Addr × Obj)} {s : Shared} {σ : L2.St} {H : Hp} {a b : Addr} {Q : VK} (I : Inv X pins σ H s)
    (h : sp [.ref a, .ref b] H Q E0) {R : Value → Shared → Prop} (hR : ∀ v u s' H', Inv X pins σ H' s' → RelV v u → Q v H' → R u s') : wpAny (model X.prog X.w) A (call (.ref f) [.ref a, .ref b]) R X.xe s := by
  have e0 : Env0 X.prog X.w X.K X.mg X.base A X.stack s H := by
    have e := I.env0
    exact ⟨by rw [sb.fr]; exact e.frames, e.mod, e.bs, e.bsz, e.funs, e.frf, e.hok, e.bare⟩
  have hl := F.len _ _ _ _ h
  have r2 : Vals [V.ref a, V.ref b] [Value.ref a, Value.ref b] := .cons rfl (.cons rfl .nil)
  refine wpAny_call (codeAny_mono (F.run A X.stack s H ⟨[.ref a, .ref b], []⟩ [.ref a, .ref b] [.ref a, .ref b] _ E0 sb.room e0 (by
    have := hb s [.ref a, .ref b] I.kIn (by simpa using hl)
    simpa using this) r2 h) fun r s' hq => ?_)
  cases r with
  | error e => exact pass0 pins σ H s e s' I hq
  | ok fl =>
    cases fl with
    | ret w =>
      obtain ⟨z, H', I', rz, q⟩ := I.after hq
      exact hR z w s' H' I' rz q
    | next => exact False.elim hq
    | brk => exact False.elim hq
    | cont => exact False.elim hq
theorem op_eqOwn {C f : Addr} {fd : FuncData} {ps : List Str} {n : Nat} {sp : Sp} (F : FnOk X.prog X.w X.K X.mg X.base CX0 n f fd ps sp) (hr : Room n X.A)
    (hs : PySem.W.findIn X.K (.ref C) "__eq__" = some (some (.ref f))) (hf : PySem.W.isFn X.K (.ref f) = true) (hb : Binds X.K fd ps []) : OpR X (compareOp .Eq) (rOwn C sp id) := by
  intro pins s σ H x y v u Q I rx ry h
  obtain ⟨a, b, dx, dy, fs, gs, rfl, rfl, ha, hb', hq⟩ := h
  cases rx
  cases ry
  obtain ⟨mA, J, _⟩ := ins_get I.hok ha
  obtain ⟨mB, J', _⟩ := ins_get I.hok hb'
  obtain ⟨od, J, _⟩ := J.look
  obtain ⟨od', J', _⟩ := J'.look
  obtain ⟨m, hF⟩ := I.fr
  show wpAny (model X.prog X.w) X.A (richCompare .Eq (.ref a) (.ref b)) (EP X pins σ Q) X.xe s
  refine PySem.W.cmp_K (op := .Eq) (tb := .ref C) hr.units0 hF I.ok.mod.kin J J'.type (by simp [PySem.W.notFirst]) hs hf ?_
  refine own_call (A := X.A) F hb ⟨hr, rfl⟩ I hq fun v u s' H' I' rv q => ?_
  obtain ⟨r, rfl, q⟩ := q
  cases rv
  exact ⟨.bl r, H', I', rfl, q⟩
theorem op_neOwn {C f : Addr} {fd : FuncData} {ps : List Str} {n : Nat} {sp : Sp} (F : FnOk X.prog X.w X.K X.mg X.base CX0 n f fd ps sp) (hr : Room (n + 1) X.A)
    (hs : PySem.W.findIn X.K (.ref C) "__eq__" = some (some (.ref f))) (hf : PySem.W.isFn X.K (.ref f) = true) (hb : Binds X.K fd ps [])
    (hne : PySem.W.findIn X.K (.ref C) "__ne__" = some (some (.builtin "object.__ne__"))) (hob : PySem.W.subIn X.K (.ref C) (.type "object") = some true) : OpR X (compareOp .NotEq) (rOwn C sp (! ·)) := by
  intro pins s σ H x y v u Q I rx ry h
  obtain ⟨a, b, dx, dy, fs, gs, rfl, rfl, ha, hb', hq⟩ := h
  cases rx
  cases ry
  obtain ⟨mA, J, _⟩ := ins_get I.hok ha
  obtain ⟨mB, J', _⟩ := ins_get I.hok hb'
  obtain ⟨od, J, _⟩ := J.look
  obtain ⟨od', J', _⟩ := J'.look
  show wpAny (model X.prog X.w) X.A (richCompare .NotEq (.ref a) (.ref b)) (EP X pins σ Q) X.xe s
  refine ne_K (hu_of hr) I.kIn J J' hne hob hs hf ?_
  refine own_call (A := X.A.in1) F hb (Sub.in1 ⟨hr, rfl⟩) I hq fun v u s' H' I' rv q => ?_
  obtain ⟨r, rfl, q⟩ := q
  cases rv
  exact ⟨r, rfl, .bl (!r), H', I', rfl, q⟩
end
end FR

set_option Elab.async false
set_option linter.all false
set_option maxRecDepth 100000
/-! the text by places -/
namespace FC
open PySem L2
def top (i : Nat) : Stmt := PySem.Challenge.pw_finecloud_k50_whole_woven.main.body.getD i (.Pass ⟨0, 0, 0, 0⟩)
abbrev sBadInit : Stmt := inClass (top 3) 0
abbrev sWhole : Stmt := top 6
abbrev sPower : Stmt := top 7
abbrev sSpInit : Stmt := inClass (top 11) 0
abbrev sSpEq : Stmt := inClass (top 11) 1
abbrev sIsPoint : Stmt := inClass (top 11) 2
abbrev sCheck : Stmt := inClass (top 11) 3
abbrev sWoven : Stmt := inClass (top 11) 4
abbrev sPointOf : Stmt := inClass (top 11) 5
abbrev sSize : Stmt := inClass (top 11) 6
abbrev sCell : Stmt := inClass (top 11) 8
abbrev sBoxInit : Stmt := inClass (top 12) 0
abbrev sHolds : Stmt := inClass (top 12) 1
abbrev sRoom : Stmt := inClass (top 12) 2
abbrev sPrefixes : Stmt := top 13
abbrev sInside : Stmt := top 14
abbrev sNumber : Stmt := top 18
abbrev sTake : Stmt := top 19
abbrev sPick : Stmt := top 20
abbrev sLPower : Stmt := top 22
abbrev sLSpace : Stmt := top 23
abbrev sLPoint : Stmt := top 24
abbrev sLBox : Stmt := top 27
abbrev sLAll : Stmt := top 28
abbrev sLBits : Stmt := top 29
abbrev sBegins : Stmt := top 30
abbrev sRefused : Stmt := top 31
abbrev sTold : Stmt := top 32
abbrev sLaw : Stmt := top 33
example : defBody sBadInit = [.Expr (.Call (.Attribute (.Call (.Name "super" ⟨10, 8, 10, 13⟩) [] [] ⟨10, 8, 10, 15⟩) "__init__" ⟨10, 8, 10, 24⟩) [.Constant (.str "a bad space") 0 ⟨10, 25, 10, 38⟩] [] ⟨10, 8, 10, 39⟩) ⟨10, 8, 10, 39⟩, .Assign [.Attribute (.Name "self" ⟨11, 8, 11, 12⟩) "word" ⟨11, 8, 11, 17⟩] (.Name "word" ⟨11, 20, 11, 24⟩) ⟨11, 8, 11, 24⟩] := by rfl
end FC

set_option Elab.async false
set_option linter.all false
set_option maxRecDepth 100000
set_option maxHeartbeats 4000000
/-! an own error below another own class, its __init__ with super().__init__: made and raised -/
namespace FE
open PySem PySem.W PySem.Calls PyProof.Rows PySem.HandSPX FC L2
abbrev exT (CE : Addr) : List Value := [.ref CE, .type "Exception", .type "BaseException", .type "object"]
/-- what the written part says of BadSpace, at C, below CloudError, at CE; its __init__ at fI, the cell at cc, the code at cda -/
structure BadTxt (K : Frag) (mg : Str → Option Value) (C CE fI cc cda : Addr) : Prop where
  gC : mg "BadSpace" = some (.ref C)
  gS : mg "super" = none
  cls : ∃ nm q N bs sn sub ab col dd k0 k1 k2 k3 k5, K.lookup C = some (excClassObj nm q C N bs (exT CE) true sn sub ab col dd k0 k1 k2 k3 k5 "Exception.__new__")
  sa : findIn K (.ref C) "__setattr__" = some (some (.builtin "object.__setattr__"))
  noN : findIn K (.ref C) "word" = some none
  iC : findIn K (.ref C) "__init__" = some (some (.ref fI))
  tC : typeIn K (.ref fI) = some (.type "function")
  kC : keepIn K (.ref C) = true
  sup : ks_superIn K C C "__init__" = some (some (.builtin "Exception.__init__"))
  opq : nsIn K cStatics "thirdparty.any" = some none
  xsub : subIn K (.ref C) (.type "Exception") = some true
  bsub : subIn K (.ref C) (.type "BaseException") = some true
  tyC : typeIn K (.ref C) = some (.type "type")
  fn : ∃ (oc : Value) (od : Option Addr) (doc pm : Value) (an : Option Addr) (ct : Value) (osl : Array (Option Value)),
    K.lookup fI = some ⟨oc, od, .func (ksFn "__init__" "BadSpace.__init__" (defArgs sBadInit) (defBody sBadInit) (defScope sBadInit) .none .none doc pm an (.ref cda) ct cc), osl⟩
  code : codeIn K (.ref cda) "BadSpace.__init__" = true
  cell : ∃ (cl : Value) (cld : Option Addr) (csl : Array (Option Value)), K.lookup cc = some ⟨cl, cld, .cell (some (.ref C)), csl⟩
  cobj : ∃ (ccl : Value) (cdd : Option Addr) (vs : Array Value) (ccs : Array (Option Value)) (tf : Tok), K.lookup cda = some ⟨ccl, cdd, .fields vs, ccs⟩ ∧ vs[2]? = some (.str "/claim/cut.py" tf)
theorem one_size (v : Value) : [v].length ≤ sizeLine := by
  rw [sizeLine_eq]
  exact (by decide : 1 ≤ 16777216)
theorem kept_but {K : Frag} {h h' : Heap} {x : Addr} (X : K.In h) (hx : K.lookup x = none) (k : ∀ b o, b ≠ x → h.get? b = some o → h'.get? b = some o) : K.In h' := fun a o e =>
  k a o (fun z => by rw [z, hx] at e; cases e) (X a o e)
theorem ex_contains (CE : Addr) (X : String) : (exT CE).contains (.type X) = (ESX.exTail).contains (.type X) := by
  show (Value.ref CE :: ESX.exTail).contains (.type X) = _
  rw [List.contains_cons, show ((Value.type X : Value) == .ref CE) = false from by simp, Bool.false_or]
/-! ### self.name = v: the first store lays the object's dict -/
section
open Builtin Builtin.ObjectAttr
variable {prog : Program} {w : World} {A : Around} {E : Value → Shared → Prop} {R : Result → Shared → Prop} {hp : Heap} {g : Array GenState} {d : Drawn} {t : Nat} {os : OsState}
theorem osa_bad {K : W.Frag} {name : Str} {tk : Tok} {v : Value} {x C CE : Addr} {fv : Array Value} {cd : ClassData}
    (X : K.In hp) (hx : hp.get? x = some { cls := .ref C, data := .fields fv }) (hcd : W.clsIn K C = some cd) (hm : cd.mro = .ref C :: exT CE) (hh : cd.hasDict = true) (ha : W.findIn K (.ref C) name = some none)
    (hq : ∀ h' tk' dx, (∀ b o, b ≠ x → hp.get? b = some o → h'.get? b = some o) → hp.objs.size ≤ dx → dx ≠ x → h'.get? x = some { cls := .ref C, dict := some dx, data := .fields fv } →
      h'.Ns1 dx (fun y => if y = name then some v else none) → R (.ok (.ret .none)) ⟨h', g, d, tk', os⟩) :
    codeAny (model prog w) A (.call (.builtin "object.__setattr__") ⟨[.ref x, .str name tk, v], []⟩) R ⟨hp, g, d, t, os⟩ := by
  have I : W.InstAt hp x { cls := .ref C, data := .fields fv } C none := ⟨hx, rfl, rfl, trivial⟩
  have SF := F.store_object
  have hxs : x ≠ hp.objs.size := Nat.ne_of_lt (Heap.lt_size hx)
  have hob : cd.mro.contains (.type "object") = true := by
    rw [hm, List.contains_cons, show ((Value.type "object" : Value) == .ref C) = false from by simp, Bool.false_or, ex_contains]
    decide +kernel
  have ne : cd.mro.isEmpty = false := by rw [hm]; rfl
  have sub : W.Looks (model prog w) hp (isInstance (.ref x) (.type "object")) true := I.type.andThen (W.looks_mroIn X (by unfold W.mroIn; rw [hcd, Option.bind_some, if_neg (by rw [ne]; decide), hob]))
  refine codeAny_call_builtin SF.slot.plain SF.entry (@W.check_slot (model prog w) _ _ ⟨hp, g, d, t, os⟩ "object.__setattr__" "object" "__setattr__" (.ref x) [.str name tk, v] [] _ SF.kind SF.split sub (SF.args (.ref x) (.str name tk) v) ?_)
  have hmr : W.Looks (model prog w) hp (mroOf (.ref C)) cd.mro := (W.looks_clsIn X hcd).andThen .now
  have L3 : W.Looks (model prog w) hp (storeTaker? none) none := .now
  have hcls : W.Looks (model prog w) hp (classData C) cd := W.looks_clsIn X hcd
  have hpass : refuseLoop (.ref x) "__setattr__" cd.mro = pure () := by
    rw [hm, refuseLoop_ref, refuseLoop_ref]
    exact F.store_Exception.passes _
  rw [W.osa_eq, refuse_eq]
  refine wpAny_bind (wpAny_bind (I.type.at (wpAny_bind (hmr.at ?_))))
  rw [hpass]
  refine wpAny_pure (wpAny_bind (I.type.at (wpAny_bind ((W.looks_findIn X ha).at (wpAny_bind (L3.at ?_))))))
  show wpAny _ _ (storeInOwnDict (.ref x) (.ref C) (.str name tk) name v false) _ _ _
  obtain ⟨nm, bs, mro, ns, qn, hd, sn, sb, ab, col, del⟩ := cd
  dsimp only at hh
  subst hh
  unfold storeInOwnDict ownDictForStores
  repeat (first | with_reducible refine store_in_new ?_ ?_ | with_reducible refine wpAny_loadPart_at hx ?_ | with_reducible refine hcls.at ?_ | wp_step)
  · exact ⟨_, #[], _, (Heap.get?_update_ne _ _ _ _ hxs.symm).trans (Heap.get?_push_at rfl rfl), rfl, fun e he => absurd he (by simp), fun _ => rfl⟩
  · intro h' tk' hn' hs
    have hx₁ : (hp.push { cls := .type "dict", data := .dict #[] }).get? x = some { cls := .ref C, data := .fields fv } := Heap.get?_push_of_some _ hx
    refine hq h' tk' hp.objs.size (fun b o hb ho => ?_) (Nat.le_refl _) hxs.symm ?_ hn'
    · exact (hs.2 b (Nat.ne_of_lt (Heap.lt_size ho))).trans ((Heap.get?_update_ne _ _ _ _ hb).trans (Heap.get?_push_of_some _ ho))
    · exact (hs.2 x hxs).trans (Heap.get?_update_self _ hx₁ rfl)
end
/-- what __init__ leaves of a fresh exception at x -/
structure InitEnd (h h' : Heap) (x C dx t1 : Addr) (v : Value) : Prop where
  keep : ∀ b o, b ≠ x → h.get? b = some o → h'.get? b = some o
  obj : h'.get? x = some { cls := .ref C, dict := some dx, data := .fields #[.ref t1, .none, .none, .none, .bool false, .none] }
  dbig : h.objs.size ≤ dx
  dne : dx ≠ x
  ns : h'.Ns1 dx (fun y => if y = "word" then some v else none)
structure OwnMade (h h' : Heap) (e C d : Addr) (v : Value) : Prop where
  keep : ∀ b o, h.get? b = some o → h'.get? b = some o
  new : h.objs.size ≤ e
  obj : ∃ oe vs, h'.get? e = some oe ∧ oe.cls = .ref C ∧ oe.dict = some d ∧ oe.data = .fields vs ∧ vs[1]? = some .none
  dbig : h.objs.size ≤ d
  dne : d ≠ e
  ns : h'.Ns1 d (fun y => if y = "word" then some v else none)
section
variable {w : World} {A : Around} {E : Value → Shared → Prop} {R : Result → Shared → Prop} {s : Shared} {K : Frag} {mg mb : Str → Option Value} {C CE fI cc cda : Addr}
abbrev prg : Program := PySem.Challenge.pw_finecloud_k50_whole_woven
abbrev iEnv (L fI cc cda : Addr) : Env := ksEnv "BadSpace.__init__" (defScope sBadInit) L fI (.ref cda) cc
theorem bad_init (T : BadTxt K mg C CE fI cc cda) {x t0 : Addr} {v : Value} (X : K.In s.heap) (hlim : s.heap.NoLimit) (hG : s.heap.Ns mainGlobals mg) (hB : s.heap.Ns builtinsNs mb) (hS : mb "super" = some (.type "super")) (hx : s.heap.get? x = some (excO C t0)) (hnx : K.lookup x = none) (hroom : A.depth < recursionLimit)
    (hq : ∀ h' tk dx t1, InitEnd s.heap h' x C dx t1 v → R (.ok (.ret .none)) { s with heap := h', toks := tk }) :
    codeAny (model prg w) A (.call (.ref fI) ⟨[.ref x, v], []⟩) R s := by
  obtain ⟨oc, od, doc, pm, an, ct, osl, ho⟩ := T.fn
  obtain ⟨nm, q, N, bs, sn, sub, ab, col, dd, k0, k1, k2, k3, k5, hC⟩ := T.cls
  obtain ⟨cl, cld, csl, hcell⟩ := T.cell
  obtain ⟨ccl, cdd, vs, ccs, tf, hcode, hvs⟩ := T.cobj
  have hcl : clsIn K C = some { name := nm, bases := bs, mro := .ref C :: exT CE, ns := N, qualname := q, hasDict := true, slotNames := sn, subclasses := sub, abstract := ab, collection := col, hasDel := false } := by unfold clsIn; rw [hC] <;> rfl
  have hcells : ∀ y ∈ (defScope sBadInit).names, y.2 ≠ .cell := by decide +kernel
  have hl1 : (defScope sBadInit).names.lookup ("self" : Str) = some .local := by decide +kernel
  have hl2 : (defScope sBadInit).names.lookup ("word" : Str) = some .local := by decide +kernel
  have hks : (defScope sBadInit).names.lookup ("super" : Str) = some .globalImplicit := by decide +kernel
  have hkc : (defScope sBadInit).names.lookup ("__class__" : Str) = some .free := by decide +kernel
  refine ks_codeAny_call_defAt (fd := ksFn "__init__" "BadSpace.__init__" (defArgs sBadInit) (defBody sBadInit) (defScope sBadInit) .none .none doc pm an (.ref cda) ct cc) (body := defBody sBadInit) (binds := [("self", .ref x), ("word", v)]) hroom (X _ _ ho) rfl hlim (codeRec_of X T.code) rfl (BindsTo.of_eq (by first | rfl | with_unfolding_all rfl)) hcells (by
      intro y hy
      rcases List.mem_cons.mp hy with rfl | hy
      · exact hl1
      · rcases List.mem_cons.mp hy with rfl | hy
        · exact hl2
        · cases hy) (fun h₁ hns k => ?_) rfl rfl rfl
  have X₁ : K.In h₁ := X.keeps k
  have hx₁ := k _ _ hx
  have hxC : x ≠ C := fun z => by rw [z, hC] at hnx; cases hnx
  have hC₁ := X₁ _ _ hC
  have hv : (fun y => [(("self" : Str), Value.ref x), (("word" : Str), v)].reverse.lookup y) "self" = some (.ref x) := by first | rfl | decide +kernel | simp [List.lookup]
  have hw : (fun y => [(("self" : Str), Value.ref x), (("word" : Str), v)].reverse.lookup y) "word" = some v := by first | rfl | simp [List.lookup]
  -- super().__init__("a bad space")
  refine ks_wpAt_execs_cons (ks_wpAt_Expr_any (ks_wpAt_MethodCall (pl := _) ?_))
  refine ks_wpAt_super_base (env := iEnv s.heap.objs.size fI cc cda) hks hkc (by decide +kernel) rfl (X₁ _ _ ho) rfl (ar := { arg := "self", annotation := none, pos := ⟨9, 17, 9, 21⟩ }) rfl rfl (X₁ _ _ hcode) rfl hvs (by decide +kernel) (by decide +kernel) ?_
  refine ks_loadName_global rfl hks (loadGlobal_builtin (env := iEnv s.heap.objs.size fI cc cda) (hG.keeps k) T.gS (hB.keeps k) hS ⟨rfl, ?_⟩)
  refine wpAny_loadName_free (env := iEnv s.heap.objs.size fI cc cda) rfl hkc rfl ⟨_, X₁ _ _ hcell, rfl⟩ ?_
  refine wpAny_loadName_local (env := iEnv s.heap.objs.size fI cc cda) rfl hl1 hns hv ?_
  refine ks_wpAny_isType_cls hC₁ rfl ⟨rfl, ?_⟩
  have hmro : mroIn K C (.ref C) = some true := by
    unfold mroIn
    rw [hcl]
    show some ((Value.ref C :: exT CE).contains (.ref C)) = some true
    simp
  refine ks_wpAny_call_super hC₁ rfl hx₁ rfl (fun c e => nomatch e) (looks_mroIn X₁ hmro) (fun h₂ e₂ k₂ => ?_)
  have X₂ : K.In h₂ := X₁.keeps k₂
  have hx₂ := k₂ _ _ hx₁
  have I₂ : InstAt h₂ x (excO C t0) C none := ⟨hx₂, rfl, rfl, trivial⟩
  have hal : alongIn K "__init__" (exT CE) = some (some (.builtin "Exception.__init__")) := by
    have q := T.sup
    unfold ks_superIn at q
    rw [hcl] at q
    have e : ((Value.ref C :: exT CE).dropWhile (· != .ref C)).drop 1 = exT CE := ESX.drop_own C _
    show alongIn K "__init__" (exT CE) = _
    rw [← e]
    exact q
  refine ESX.getMethod_super (l₀ := .ref C :: exT CE) e₂ (looks_opaque X₂ T.opq) (fun A Q E s k q => wpAny_bind ((looks_clsIn X₂ hcl) A _ E s k (wpAny_pure q))) (ESX.drop_own C _) X₂ hal hxC (by decide +kernel) (I₂.type.andThen (looks_subIn X₂ T.xsub)) ?_
  refine ESX.callWith_bound (x := x) ?_
  refine spliced_cons (Constant_str (k := 0) (pos := ⟨10, 25, 10, 38⟩) (spliced_nil ⟨Heap.get?_push_at rfl rfl, ?_⟩))
  have k₃ : ∀ b o, h₂.get? b = some o → (h₂.push (ESX.bw x)).get? b = some o := fun b o e => Heap.get?_push_of_some _ e
  refine ESX.call_bw (h := h₂.push (ESX.bw x)) (X₂.keeps k₃ _ _ hC) (k₃ _ _ hx₂) (Heap.get?_push_at rfl rfl) (one_size _) fun h₄ t1 k₄ hx₄ => ?_
  -- self.word = word
  have hxL : s.heap.objs.size ≠ x := Nat.ne_of_gt (Heap.lt_size hx)
  have k14 : ∀ b o, b ≠ x → h₁.get? b = some o → h₄.get? b = some o := fun b o hb e => k₄ b o hb (k₃ b o (k₂ b o e))
  have X₄ : K.In h₄ := kept_but X₁ hnx k14
  have hn₄ : h₄.Ns s.heap.objs.size (fun y => [(("self" : Str), Value.ref x), (("word" : Str), v)].reverse.lookup y) := hns.at fun o e => k14 _ o hxL e
  refine wpAt_of_wpAny (wpAny_execs_cons (plainObj_wpAny_Assign_Attribute ?_))
  refine wpAny_Name (wpAny_loadName_local (env := iEnv s.heap.objs.size fI cc cda) rfl hl2 hn₄ hw ?_) (by decide)
  refine wpAny_Name (wpAny_loadName_local (env := iEnv s.heap.objs.size fI cc cda) rfl hl1 hn₄ hv ?_) (by decide)
  refine set_plain X₄ (ox := excO C t1) (od := none) ⟨hx₄, rfl, rfl, trivial⟩ T.sa ?_
  refine osa_bad X₄ hx₄ hcl rfl rfl T.noN (fun h₅ tk₅ dx k₅ dn dne hx₅ hn₅ => ?_)
  show wpAny _ _ (execs _ _) _ _ _
  have z : s.heap.objs.size < h₄.objs.size := hn₄.lt
  exact wpAny_execs_nil (hq h₅ tk₅ dx t1 ⟨fun b o hb e => k₅ b o hb (k14 b o hb (k b o e)), hx₅, Nat.le_of_lt (Nat.lt_of_lt_of_le z dn), dne, hn₅⟩)
theorem bad_made (T : BadTxt K mg C CE fI cc cda) {v : Value} (X : K.In s.heap) (hlim : s.heap.NoLimit) (hG : s.heap.Ns mainGlobals mg) (hB : s.heap.Ns builtinsNs mb) (hS : mb "super" = some (.type "super")) (hroom : A.depth + 1 < recursionLimit)
    (hq : ∀ h' tk e d, OwnMade s.heap h' e C d v → R (.ok (.ret (.ref e))) { s with heap := h', toks := tk }) :
    codeAny (model prg w) A (.call (.ref C) ⟨[v], []⟩) R s := by
  obtain ⟨nm, q, N, bs, sn, sub, ab, col, dd, k0, k1, k2, k3, k5, hC⟩ := T.cls
  obtain ⟨hp, g, dr, tk, os⟩ := s
  have k : ∀ b o, hp.get? b = some o → ((hp.push (kdv_tup [v])).push (excO C hp.objs.size)).get? b = some o := fun b o e => Heap.get?_push_of_some _ (Heap.get?_push_of_some _ e)
  have hget : ((hp.push (kdv_tup [v])).push (excO C hp.objs.size)).get? (hp.objs.size + 1) = some (excO C hp.objs.size) := by heap_get
  have hnx : K.lookup (hp.objs.size + 1) = none := by
    cases e : K.lookup (hp.objs.size + 1) with
    | none => rfl
    | some o =>
      have z : hp.get? (hp.objs.size + 1) = some o := X _ _ e
      exact absurd (Nat.lt_of_succ_lt (Heap.lt_size z)) (Nat.lt_irrefl _)
  refine call_own F.excBase_Exception (fun X => ex_contains CE X) (X _ _ hC) (looks_findIn X T.iC) (fun self => bind_fn X self T.tC) (one_size v) ?_
  refine bad_init (s := ⟨(hp.push (kdv_tup [v])).push (excO C hp.objs.size), g, dr, tk, os⟩) (mb := mb) T (X.keeps k) (hlim.keeps k) (hG.keeps k) (hB.keeps k) hS hget hnx ?_ fun h' tk' dx t1 ⟨k', hx, dn, dne, hns⟩ => ?_
  · show A.depth + 1 < recursionLimit
    exact hroom
  · have old : ∀ b o, hp.get? b = some o → h'.get? b = some o := fun b o e => k' b o (Nat.ne_of_lt (Nat.lt_succ_of_lt (Heap.lt_size e))) (k b o e)
    have z : hp.objs.size + 1 + 1 ≤ dx := by
      first
        | (simpa only [Heap.size_push] using dn)
        | exact dn
        | (have q := dn; rw [Heap.size_push, Heap.size_push] at q; exact q)
    exact ⟨rfl, hq h' tk' (hp.objs.size + 1) dx ⟨old, Nat.le_succ _, ⟨_, _, hx, rfl, rfl, rfl, rfl⟩, Nat.le_trans (Nat.le_trans (Nat.le_succ _) (Nat.le_succ _)) z, dne, hns⟩⟩
end
end FE
namespace FE
open PySem PySem.Spec PyProof.Rows L2 FC
theorem relO_word {v : V} {v' : Value} (r : RelV v v') (f : Str) : RelO (List.lookup f [(("word" : Str), v)]) (if f = "word" then some v' else none) := by
  by_cases hw : f = "word"
  · subst hw
    rw [if_pos rfl]
    have q : List.lookup ("word" : Str) [(("word" : Str), v)] = some v := by simp [List.lookup]
    rw [q]
    exact r
  · rw [if_neg hw]
    have qw : (f == ("word" : Str)) = false := by simpa using hw
    have q2 : List.lookup f [(("word" : Str), v)] = none := by simp [List.lookup, qw]
    rw [q2]
    trivial
section
variable {X : Cx} {C CE fI cc cda : Addr}
/-- BadSpace(e) -/
def tMkBad (C : Addr) (ta : TA) : L2.St → Hp → XK → Prop := fun σ H Q => ta σ H fun vs H1 => ∃ v, vs = [v] ∧ ∀ d, H1 d = none → Q (.ref C) (some d) (upd H1 d (.xd [(("word" : Str), v)]))
theorem pmk_bad {a : Expr} {ta : TA} {p pos : Pos} {k : Nat} (hP : X.prog = prg) (T : BadTxt X.K X.mg C CE fI cc cda) (hr : Room k X.A) (ha : PA X [a] ta) (hg : Gl X "BadSpace" := by rfl)
    (he : starEach (a :: []) X.env = (false, eval a X.env) :: starEach [] X.env := by rfl) (hpl : (backTo pos (starEach [] X.env)).any (·.1) = false := by rfl) :
    PMk X (.Call (.Name "BadSpace" p) [a] [] pos) (tMkBad C ta) := by
  intro pins s σ H Q I h
  refine wpAny_Call_Name_kw (ld_glob I hg T.gC ?_)
  refine PySem.W.callWith_K (h₀ := X.base) I.ok.mod.kin T.kC (thn (ha.run pos pins s σ H _ I h) fun us s1 hh => ?_) he hpl
  obtain ⟨vs, H1, I1, r1, v, ev, q1⟩ := hh
  subst ev
  refine ⟨I1.kIn, ?_⟩
  cases r1 with
  | cons rv rn =>
    rename_i v' us'
    cases rn
    show wpAny _ _ (call (.ref C) [v']) _ _ _
    have hlim := I1.nolimit
    have hG := I1.mod.glob.keeps I1.bk
    obtain ⟨mb, hB1, hB2⟩ := I1.mod.blt
    have hB := hB1.keeps I1.bk
    have hS : mb "super" = some (.type "super") := (hB2 "super" (by decide +kernel)).trans (by first | rfl | decide +kernel | kernel_rfl)
    obtain ⟨hp, g, dr, tk, os⟩ := s1
    rw [hP]
    refine wpAny_call (bad_made T I1.kIn hlim hG hB hS (by have := hr.dp; omega) fun h' tk' e d M => ?_)
    show MkP X pins σ Q (.ref e) ⟨h', g, dr, tk', os⟩
    obtain ⟨oe, fv, hoe, hc, hd, hdat, h1⟩ := M.obj
    have hns := M.ns
    obtain ⟨G', g1, g2⟩ := restrict h' fun b => decide (b ≠ e)
    have gk : ∀ b, b ≠ e → G'.get? b = h'.get? b := fun b hb => g1 b (decide_eq_true hb)
    have ge : G'.get? e = none := g2 e (by simp)
    have old : ∀ b o, hp.get? b = some o → G'.get? b = some o := fun b o q => (gk b (Nat.ne_of_lt (Nat.lt_of_lt_of_le (Heap.lt_size q) M.new))).trans (M.keep b o q)
    have ob : ObjOk X.prog X.w (upd H1 d (.xd [(("word" : Str), v)])) G' d (.xd [(("word" : Str), v)]) :=
      ⟨_, hns.at (fun o q => (gk d M.dne).trans q), fun f => relO_word rv f⟩
    have J : Inv X pins σ (upd H1 d (.xd [(("word" : Str), v)])) ⟨G', g, dr, tk', os⟩ := I1.laid (t' := tk') old M.dbig ob
    refine ⟨e, oe, fv, ⟨G', g, dr, tk', os⟩, _, .ref C, some d, rfl, J, fun b o q => ?_, ge, hoe, ⟨hc, hd⟩, hdat, h1, ?_, rfl, I1.bare, raises_own T.bsub T.tyC, q1 d (I1.hok.fresh M.dbig)⟩
    · by_cases hb : b = e
      · have q' : G'.get? b = some o := q
        rw [hb, ge] at q'; cases q'
      · exact (gk b hb).symm.trans q
    · rw [upd_ne (Ne.symm M.dne)]
      exact I1.hok.fresh M.new
/-- raise BadSpace(e) -/
def tRaiseBad (C : Addr) (W : WX) (ta : TA) : TS := fun _ σ H => tMkBad C ta σ H fun cls d H' => W cls d σ H'
theorem ps_raiseBad {a : Expr} {ta : TA} {W : WX} {p pos pos2 : Pos} {k : Nat} (hc : X.calm = true) (hP : X.prog = prg) (T : BadTxt X.K X.mg C CE fI cc cda) (hr : Room k X.A) (tk : Takes X W) (ha : PA X [a] ta) (hg : Gl X "BadSpace" := by rfl)
    (he : starEach (a :: []) X.env = (false, eval a X.env) :: starEach [] X.env := by rfl) (hpl : (backTo pos (starEach [] X.env)).any (·.1) = false := by rfl) :
    PS X (.Raise (some (.Call (.Name "BadSpace" p) [a] [] pos)) none pos2) (tRaiseBad C W ta) := ps_raise hc tk (pmk_bad hP T hr ha hg he hpl)
end
end FE

set_option Elab.async false
set_option linter.all false
set_option maxRecDepth 100000
set_option maxHeartbeats 4000000
/-! the facts of the top, the data; whole numbers -/
namespace FC
open PySem PySem.Spec PyProof.Rows L2
/-- what the walk asks of the top -/
structure Txt (K : PySem.W.Frag) (mg : Str → Option Value) (CS CB : Addr) : Prop where
  clS : Cls K CS
  clB : Cls K CB
  sDim : NoAttr K CS "dimensions"
  sBits : NoAttr K CS "bits"
  sDepth : NoAttr K CS "depth"
  sSide : NoAttr K CS "side"
  bSpace : NoAttr K CB "space"
  bLows : NoAttr K CB "lows"
  bHighs : NoAttr K CB "highs"
  cls : PySem.W.findIn K (.ref CS) "__class__" = some (some (.builtin "object.__class__"))
  clsG : PySem.W.specialIn K (.builtin "object.__class__") "__get__" = some (some (.builtin "getset_descriptor.__get__"))
  clsT : PySem.W.takesIn K (.builtin "object.__class__") = some true
  clsM : PySem.W.mroIn K CS (.type "object") = some true
  kitS : PySem.W.kitOne K (.ref CS) (.ref CS) = some true
  neS : PySem.W.findIn K (.ref CS) "__ne__" = some (some (.builtin "object.__ne__"))
  obS : PySem.W.subIn K (.ref CS) (.type "object") = some true
  mgS : mg "Space" = some (.ref CS)
  mgB : mg "Box" = some (.ref CB)
  mgD : ∃ t, mg "MOST_DIMENSIONS" = some (.int 3 t)
  mgM : ∃ t, mg "MOST_BITS" = some (.int 10 t)
  isinst : mg "isinstance" = none
  int : mg "int" = none
  bool : mg "bool" = none
  tup : mg "tuple" = none
  len : mg "len" = none
  all : mg "all" = none
  any : mg "any" = none
  zip : mg "zip" = none
  range : mg "range" = none
  max : mg "max" = none
  min : mg "min" = none
  abs : mg "abs" = none
  sorted : mg "sorted" = none
  list : mg "list" = none
theorem putF_le {f : Str} {v : V} {n : Nat} : ∀ {fs : List (Str × V)}, fs.length ≤ n → (putF f v fs).length ≤ n + 1
  | [], _ => by show 1 ≤ n + 1; omega
  | (g, x) :: r, h => by
    unfold putF
    split
    · exact Nat.le_succ_of_le h
    · cases n with
      | zero => exact absurd h (by simp)
      | succ n =>
        have h' : r.length ≤ n := by simpa using h
        exact Nat.succ_le_succ (putF_le h')
theorem put1 {f : Str} {v : V} : (putF f v []).length < 1000 := Nat.lt_of_le_of_lt (putF_le (Nat.le_refl 0)) (by decide)
theorem put2 {f g : Str} {v u : V} : (putF f v (putF g u [])).length < 1000 := Nat.lt_of_le_of_lt (putF_le (putF_le (Nat.le_refl 0))) (by decide)
theorem put3 {f g h : Str} {v u x : V} : (putF f v (putF g u (putF h x []))).length < 1000 := Nat.lt_of_le_of_lt (putF_le (putF_le (putF_le (Nat.le_refl 0)))) (by decide)
/-! ### Space -/
def sFl (d b : Nat) : List (Str × V) := putF "side" (.int ((2 ^ b : Nat) : Int)) (putF "depth" (.int ((d * b : Nat) : Int)) (putF "bits" (.int (b : Int)) (putF "dimensions" (.int (d : Int)) [])))
theorem sFl_dim (d b : Nat) : (sFl d b).lookup ("dimensions" : Str) = some (.int (d : Int)) := by
  unfold sFl
  rw [lookup_putF, if_neg (by decide +kernel), lookup_putF, if_neg (by decide +kernel), lookup_putF, if_neg (by decide +kernel), lookup_putF, if_pos rfl]
theorem sFl_bits (d b : Nat) : (sFl d b).lookup ("bits" : Str) = some (.int (b : Int)) := by
  unfold sFl
  rw [lookup_putF, if_neg (by decide +kernel), lookup_putF, if_neg (by decide +kernel), lookup_putF, if_pos rfl]
theorem sFl_depth (d b : Nat) : (sFl d b).lookup ("depth" : Str) = some (.int ((d * b : Nat) : Int)) := by
  unfold sFl
  rw [lookup_putF, if_neg (by decide +kernel), lookup_putF, if_pos rfl]
theorem sFl_side (d b : Nat) : (sFl d b).lookup ("side" : Str) = some (.int ((2 ^ b : Nat) : Int)) := by
  unfold sFl
  rw [lookup_putF, if_pos rfl]
theorem sFl_no (d b : Nat) {m : Str} (h1 : ¬ m = "dimensions") (h2 : ¬ m = "bits") (h3 : ¬ m = "depth") (h4 : ¬ m = "side") : (sFl d b).lookup m = none := by
  unfold sFl
  rw [lookup_putF, if_neg h4, lookup_putF, if_neg h3, lookup_putF, if_neg h2, lookup_putF, if_neg h1]
  all_goals rfl
def SpaceAt (CS : Addr) (H : Hp) (p : Addr) (d b : Nat) : Prop := ∃ dx, H p = some (.ins CS dx (sFl d b))
theorem SpaceAt.same {CS : Addr} {H H' : Hp} {p : Addr} {d b : Nat} (h : SpaceAt CS H p d b) (e : Same H H') : SpaceAt CS H' p d b := let ⟨dx, q⟩ := h; ⟨dx, e _ _ q⟩
/-- a list of numbers as values -/
abbrev iV (p : List Nat) : List V := p.map fun (n : Nat) => V.int (n : Int)
/-- a tuple of numbers stands at a -/
abbrev TupAt (H : Hp) (a : Addr) (p : List Nat) : Prop := H a = some (.tup (iV p))
theorem same_upd {H : Hp} {p : Addr} {o : HO} (h : H p = none) : Same H (upd H p o) := fun b u e => by
  rw [upd_ne (ne_of_none e h)]
  exact e
theorem same_more {H H1 : Hp} {p : Addr} {o : HO} (x : Same H H1) (h : H1 p = none) : Same H (upd H1 p o) := x.trans (same_upd h)
theorem same_at {H H2 : Hp} {D : Addr} {o : HO} (x : Same H H2) (hD : H D = none) : Same H (upd H2 D o) := fun b u e => by
  rw [upd_ne (ne_of_none e hD)]
  exact x b u e
theorem bl_snoc (i : Nat) : (List.replicate i true).map V.bl ++ [V.bl true] = (List.replicate (i + 1) true).map V.bl := by
  rw [List.replicate_succ', List.map_append]
  rfl
theorem iV_get {p : List Nat} {i : Nat} {x : V} (h : (iV p)[i]? = some x) : ∃ n : Nat, p[i]? = some n ∧ x = V.int (n : Int) := by
  rw [List.getElem?_map] at h
  cases e : p[i]? with
  | none => rw [e] at h; cases h
  | some n => rw [e] at h; exact ⟨n, rfl, (Option.some.inj h).symm⟩
theorem get_lt {α : Type} {l : List α} {i : Nat} {x : α} (h : l[i]? = some x) : i < l.length := (List.getElem?_eq_some_iff.mp h).1
/-- a field, where the written part is named (within a comprehension) -/
theorem pe_fldB {X : Cx} {K : PySem.W.Frag} {e : Expr} {ta : TE} {f : Str} {pos : Pos} (hK : X.K = K) (he : PE X e ta) (hb : attributeBase e f X.env (eval e X.env) = eval e X.env) : PE X (.Attribute e f pos) (tFld K ta f) := by
  subst hK
  exact pe_fld he hb
/-! ### is_whole, power -/
def spWhole : Sp := fun vs H Q _ => ∃ (x : V) (lo hi : Int), vs = [x, .int lo, .int hi] ∧ ((∃ i, x = .int i ∧ Q (.bl (decide (lo ≤ i ∧ i ≤ hi))) H) ∨ ((x = .non ∨ ∃ k, x = .bl k) ∧ Q (.bl false) H))
def spPower : Sp := fun vs H Q _ => ∃ n : Nat, vs = [.int (n : Int)] ∧ n ≤ 1000 ∧ Q (.int ((2 ^ n : Nat) : Int)) H
section
variable {P : Program} {w : World} {K : PySem.W.Frag} {mg : Str → Option Value} {base : Heap} {CS CB : Addr}
theorem scWhole : FnScope ["thing", "low", "high"] ["thing", "low", "high"] (defScope sWhole) := ⟨rfl, rfl, rfl, by decide +kernel, rfl, by decide +kernel, by decide +kernel⟩
theorem ok_whole {f : Addr} {fd : FuncData} (F : Fun K "is_whole" "is_whole" sWhole f fd) (T : Txt K mg CS CB) : FnOk P w K mg base CX0 1 f fd ["thing", "low", "high"] spWhole := by
  refine F.ok scWhole (fun vs H Q E h => ?_) (fun cdv A outer s H vs Q E hr h => ?_)
  · obtain ⟨x, lo, hi, rfl, _⟩ := h
    rfl
  · obtain ⟨x, lo, hi, rfl, h⟩ := h
    refine ⟨_, pss_one (ps_ret (pe_and (pe_callB call_isi (by rfl) T.isinst (by decide +kernel) (pa_cons (pv 0) (pa_cons (pe_bltn (v := .ty "int") (by rfl) T.int (by decide +kernel) rfl) pa_nil)))
      (pe_and (pe_not (pe_callB call_isi (by rfl) T.isinst (by decide +kernel) (pa_cons (pv 0) (pa_cons (pe_bltn (v := .ty "bool") (by rfl) T.bool (by decide +kernel) rfl) pa_nil))))
      (pe_one (pe_chain op_le op_le (pv 1) (pv 0) (pv 2)))))), ?_⟩
    rcases h with ⟨i, rfl, q⟩ | ⟨rfl | ⟨k, rfl⟩, q⟩
    · refine ⟨_, rfl, _, .ty "int", _, .type "int", true, rfl, .ty _, .base (.int i), kit_ty (by decide +kernel), true, rfl, iteT ?_⟩
      refine ⟨_, rfl, _, .ty "bool", _, .type "bool", false, rfl, .ty _, .base (.int i), kit_ty (by decide +kernel), false, rfl, true, rfl, iteT ?_⟩
      refine ⟨_, rfl, _, rfl, _, _, rfl, rfl, _, rfl, ?_⟩
      by_cases h1 : lo ≤ i
      · rw [decide_eq_true h1]
        refine iteT ⟨_, rfl, _, _, rfl, rfl, ?_⟩
        have e : decide (lo ≤ i ∧ i ≤ hi) = decide (i ≤ hi) := by simp [h1]
        rw [e] at q
        exact q
      · rw [decide_eq_false h1]
        have e : decide (lo ≤ i ∧ i ≤ hi) = false := by simp [h1]
        rw [e] at q
        exact iteF q
    · exact ⟨_, rfl, _, .ty "int", _, .type "int", false, rfl, .ty _, .base .non, kit_ty (by decide +kernel), false, rfl, iteF q⟩
    · refine ⟨_, rfl, _, .ty "int", _, .type "int", true, rfl, .ty _, .base (.bl k), kit_ty (by decide +kernel), true, rfl, iteT ?_⟩
      exact ⟨_, rfl, _, .ty "bool", _, .type "bool", true, rfl, .ty _, .base (.bl k), kit_ty (by decide +kernel), true, rfl, false, rfl, iteF q⟩
theorem scPower : FnScope ["times", "found", "turn"] ["times"] (defScope sPower) := ⟨rfl, rfl, rfl, by decide +kernel, rfl, by decide +kernel, by decide +kernel⟩
theorem ok_power {f : Addr} {fd : FuncData} (F : Fun K "power" "power" sPower f fd) (T : Txt K mg CS CB) : FnOk P w K mg base CX0 1 f fd ["times"] spPower := by
  refine F.ok scPower (fun vs H Q E h => ?_) (fun cdv A outer s H vs Q E hr h => ?_)
  · obtain ⟨n, rfl, _⟩ := h
    rfl
  · obtain ⟨n, rfl, hn, q⟩ := h
    refine ⟨_, pss_cons (ps_set (i := 1) scPower.nd rfl (Or.inl rfl) pe_int) (pss_cons (ps_for PassesOwn.never rfl (pi_range1 rfl T.range (pa_cons (pv 0) pa_nil)) (pg_name (i := 2) scPower.nd rfl (Or.inl rfl))
      (pss_one (ps_set (i := 1) scPower.nd rfl (Or.inl rfl) (pe_op op_mul (pv 1) pe_int)))) (pss_one (ps_ret (pv 1)))), ?_⟩
    refine ⟨_, rfl, n, rfl, by omega, by omega, for_range (lo := 0) (n := n) (fun i σ H2 => H2 = H ∧ ∃ v, σ = [some (.int (n : Int)), some (.int ((2 ^ i : Nat) : Int)), v]) ⟨rfl, none, rfl⟩ ?_ ?_⟩
    · rintro i σ H2 hi ⟨rfl, v, rfl⟩
      refine ⟨_, rfl, _, _, rfl, rfl, .inr (by decide), rfl, some (.int (0 + (i : Int))), ?_⟩
      have e : ((2 ^ i : Nat) : Int) * 2 = ((2 ^ (i + 1) : Nat) : Int) := by rw [Nat.pow_succ]; omega
      show [some (V.int (n : Int)), some (V.int (((2 ^ i : Nat) : Int) * 2)), some (V.int (0 + (i : Int)))] = _
      rw [e]
    · rintro σ H2 ⟨rfl, v, rfl⟩
      exact ⟨_, rfl, q⟩
theorem scLPower : FnScope ["_law_times", "_law_found", "_law_turn"] ["_law_times"] (defScope sLPower) := ⟨rfl, rfl, rfl, by decide +kernel, rfl, by decide +kernel, by decide +kernel⟩
theorem ok_lpower {f : Addr} {fd : FuncData} (F : Fun K "_law_power" "_law_power" sLPower f fd) (T : Txt K mg CS CB) : FnOk P w K mg base CX0 1 f fd ["_law_times"] spPower := by
  refine F.ok scLPower (fun vs H Q E h => ?_) (fun cdv A outer s H vs Q E hr h => ?_)
  · obtain ⟨n, rfl, _⟩ := h
    rfl
  · obtain ⟨n, rfl, hn, q⟩ := h
    refine ⟨_, pss_cons (ps_set (i := 1) scLPower.nd rfl (Or.inl rfl) pe_int) (pss_cons (ps_for PassesOwn.never rfl (pi_range1 rfl T.range (pa_cons (pv 0) pa_nil)) (pg_name (i := 2) scLPower.nd rfl (Or.inl rfl))
      (pss_one (ps_set (i := 1) scLPower.nd rfl (Or.inl rfl) (pe_op op_mul (pv 1) pe_int)))) (pss_one (ps_ret (pv 1)))), ?_⟩
    refine ⟨_, rfl, n, rfl, by omega, by omega, for_range (lo := 0) (n := n) (fun i σ H2 => H2 = H ∧ ∃ v, σ = [some (.int (n : Int)), some (.int ((2 ^ i : Nat) : Int)), v]) ⟨rfl, none, rfl⟩ ?_ ?_⟩
    · rintro i σ H2 hi ⟨rfl, v, rfl⟩
      refine ⟨_, rfl, _, _, rfl, rfl, .inr (by decide), rfl, some (.int (0 + (i : Int))), ?_⟩
      have e : ((2 ^ i : Nat) : Int) * 2 = ((2 ^ (i + 1) : Nat) : Int) := by rw [Nat.pow_succ]; omega
      show [some (V.int (n : Int)), some (V.int (((2 ^ i : Nat) : Int) * 2)), some (V.int (0 + (i : Int)))] = _
      rw [e]
    · rintro σ H2 ⟨rfl, v, rfl⟩
      exact ⟨_, rfl, q⟩
end
end FC

set_option Elab.async false
set_option linter.all false
set_option maxRecDepth 100000
set_option maxHeartbeats 4000000
/-! data that is compared: tuples of numbers, lists of them, lists of numbers -/
namespace FC
open PySem PySem.Spec PyProof.Rows L2
abbrev dI (p : List Nat) : List PyData := p.map fun (n : Nat) => PyData.int (n : Int)
abbrev dZ (p : List Int) : List PyData := p.map PyData.int
section
variable {K : PySem.W.Frag} {H : Hp}
theorem dpAll_iV : ∀ p : List Nat, DpAll K H (iV p) (dI p)
  | [] => .nil
  | n :: p => .cons (.int n) (dpAll_iV p)
theorem dpAll_zV : ∀ p : List Int, DpAll K H (p.map V.int) (dZ p)
  | [] => .nil
  | n :: p => .cons (.int n) (dpAll_zV p)
theorem dp_tup {a : Addr} {p : List Nat} (h : SqT K H a (iV p)) : Dp K H (.ref a) (.tuple (dI p)) := .tup h (dpAll_iV p)
theorem dp_ints {a : Addr} {p : List Int} (h : SqL K H a (p.map V.int)) : Dp K H (.ref a) (.list (dZ p)) := .lst h (dpAll_zV p)
theorem lay_dI : ∀ p : List Nat, PyData.canLayAll0 (dI p) = true
  | [] => rfl
  | n :: p => by
    show (PyData.canLay0 (.int (n : Int)) && PyData.canLayAll0 (dI p)) = true
    rw [lay_dI p]
    rfl
theorem lay_dZ : ∀ p : List Int, PyData.canLayAll0 (dZ p) = true
  | [] => rfl
  | n :: p => by
    show (PyData.canLay0 (.int n) && PyData.canLayAll0 (dZ p)) = true
    rw [lay_dZ p]
    rfl
theorem dep_dI : ∀ p : List Nat, PyData.depthAll (dI p) = 0
  | [] => by simp [PyData.depthAll]
  | n :: p => by
    have h := dep_dI p
    simp [PyData.depthAll, PyData.depth] at h ⊢
    exact h
theorem dep_dZ : ∀ p : List Int, PyData.depthAll (dZ p) = 0
  | [] => by simp [PyData.depthAll]
  | n :: p => by
    have h := dep_dZ p
    simp [PyData.depthAll, PyData.depth] at h ⊢
    exact h
theorem shaped_tup (p : List Nat) : SeqAt.shaped (.tuple (dI p)) = true := by
  unfold SeqAt.shaped
  rw [show PyData.canLay0 (.tuple (dI p)) = PyData.canLayAll0 (dI p) from by simp [PyData.canLay0], lay_dI p, Bool.true_and]
  refine decide_eq_true ?_
  simp [PyData.depth, dep_dI]
theorem shaped_ints (p : List Int) : SeqAt.shaped (.list (dZ p)) = true := by
  unfold SeqAt.shaped
  rw [show PyData.canLay0 (.list (dZ p)) = PyData.canLayAll0 (dZ p) from by simp [PyData.canLay0], lay_dZ p, Bool.true_and]
  refine decide_eq_true ?_
  simp [PyData.depth, dep_dZ]
theorem eqvAll_dI : ∀ p q : List Nat, PyData.eqvAll (dI p) (dI q) = decide (p = q)
  | [], [] => by simp [PyData.eqvAll]
  | [], n :: q => by simp [PyData.eqvAll]
  | n :: p, [] => by simp [PyData.eqvAll]
  | n :: p, m :: q => by
    have h := eqvAll_dI p q
    show (PyData.eqv (.int (n : Int)) (.int (m : Int)) && PyData.eqvAll (dI p) (dI q)) = _
    rw [h, show PyData.eqv (.int (n : Int)) (.int (m : Int)) = ((n : Int) == (m : Int)) from by simp [PyData.eqv]]
    by_cases e : n = m
    · subst e
      simp
    · have e' : ((n : Int) == (m : Int)) = false := by simpa using fun z => e (by omega)
      rw [e', Bool.false_and]
      exact (decide_eq_false (fun z => e (List.cons.inj z).1)).symm
theorem eqvAll_dZ : ∀ p q : List Int, PyData.eqvAll (dZ p) (dZ q) = decide (p = q)
  | [], [] => by simp [PyData.eqvAll]
  | [], n :: q => by simp [PyData.eqvAll]
  | n :: p, [] => by simp [PyData.eqvAll]
  | n :: p, m :: q => by
    have h := eqvAll_dZ p q
    show (PyData.eqv (.int n) (.int m) && PyData.eqvAll (dZ p) (dZ q)) = _
    rw [h, show PyData.eqv (.int n) (.int m) = (n == m) from by simp [PyData.eqv]]
    by_cases e : n = m
    · subst e
      simp
    · have e' : (n == m) = false := by simpa using e
      rw [e', Bool.false_and]
      exact (decide_eq_false (fun z => e (List.cons.inj z).1)).symm
theorem eqv_tup (p q : List Nat) : PyData.eqv (.tuple (dI p)) (.tuple (dI q)) = decide (p = q) := by
  rw [show PyData.eqv (.tuple (dI p)) (.tuple (dI q)) = PyData.eqvAll (dI p) (dI q) from by simp [PyData.eqv]]
  exact eqvAll_dI p q
theorem eqv_ints (p q : List Int) : PyData.eqv (.list (dZ p)) (.list (dZ q)) = decide (p = q) := by
  rw [show PyData.eqv (.list (dZ p)) (.list (dZ q)) = PyData.eqvAll (dZ p) (dZ q) from by simp [PyData.eqv]]
  exact eqvAll_dZ p q
/-! ### lists of tuples -/
abbrev dT (ps : List (List Nat)) : List PyData := ps.map fun p => PyData.tuple (dI p)
/-- the tuples at as hold ps -/
abbrev TupsAt (H : Hp) (as : List Addr) (ps : List (List Nat)) : Prop := Paired (fun a p => TupAt H a p) as ps
theorem TupsAt.same {H H' : Hp} {as : List Addr} {ps : List (List Nat)} (t : TupsAt H as ps) (e : Same H H') : TupsAt H' as ps := Paired.mapP t fun a p h => e _ _ h
theorem TupsAt.get {H : Hp} : ∀ {as : List Addr} {ps : List (List Nat)} {i : Nat} {a : Addr}, TupsAt H as ps → as[i]? = some a → ∃ p, ps[i]? = some p ∧ TupAt H a p
  | _, _, i, a, .nil, e => by simp at e
  | _, _, 0, a, .cons r t, e => by simp at e; subst e; exact ⟨_, rfl, r⟩
  | _, _, i + 1, a, .cons _ t, e => by
    obtain ⟨p, h1, h2⟩ := TupsAt.get (i := i) (a := a) t (by simpa using e)
    exact ⟨p, by simpa using h1, h2⟩
theorem TupsAt.snoc {H : Hp} {a : Addr} {p : List Nat} (h : TupAt H a p) : ∀ {as : List Addr} {ps : List (List Nat)}, TupsAt H as ps → TupsAt H (as ++ [a]) (ps ++ [p])
  | _, _, .nil => .cons h .nil
  | _, _, .cons r t => .cons r (TupsAt.snoc h t)
theorem dpAll_T : ∀ {as : List Addr} {ps : List (List Nat)}, TupsAt H as ps → DpAll K H (as.map V.ref) (dT ps)
  | _, _, .nil => .nil
  | _, _, .cons r t => .cons (dp_tup (.inl (.inl r))) (dpAll_T t)
theorem dp_tups {a : Addr} {as : List Addr} {ps : List (List Nat)} (h : SqL K H a (as.map V.ref)) (t : TupsAt H as ps) : Dp K H (.ref a) (.list (dT ps)) := .lst h (dpAll_T t)
theorem lay_dT : ∀ ps : List (List Nat), PyData.canLayAll0 (dT ps) = true
  | [] => rfl
  | p :: ps => by
    show (PyData.canLay0 (.tuple (dI p)) && PyData.canLayAll0 (dT ps)) = true
    rw [lay_dT ps, show PyData.canLay0 (.tuple (dI p)) = PyData.canLayAll0 (dI p) from by simp [PyData.canLay0], lay_dI p]
    rfl
theorem dep_dT : ∀ ps : List (List Nat), PyData.depthAll (dT ps) ≤ 1
  | [] => by simp [PyData.depthAll]
  | p :: ps => by
    have h := dep_dT ps
    have h2 := dep_dI p
    show max (PyData.depth (.tuple (dI p))) (PyData.depthAll (dT ps)) ≤ 1
    rw [show PyData.depth (.tuple (dI p)) = PyData.depthAll (dI p) + 1 from by simp [PyData.depth], h2]
    exact Nat.max_le.mpr ⟨Nat.le_refl _, h⟩
theorem shaped_tups (ps : List (List Nat)) : SeqAt.shaped (.list (dT ps)) = true := by
  unfold SeqAt.shaped
  rw [show PyData.canLay0 (.list (dT ps)) = PyData.canLayAll0 (dT ps) from by simp [PyData.canLay0], lay_dT ps, Bool.true_and]
  refine decide_eq_true ?_
  rw [show PyData.depth (.list (dT ps)) = PyData.depthAll (dT ps) + 1 from by simp [PyData.depth]]
  have := dep_dT ps
  omega
theorem eqvAll_dT : ∀ p q : List (List Nat), PyData.eqvAll (dT p) (dT q) = decide (p = q)
  | [], [] => by simp [PyData.eqvAll]
  | [], n :: q => by simp [PyData.eqvAll]
  | n :: p, [] => by simp [PyData.eqvAll]
  | n :: p, m :: q => by
    have h := eqvAll_dT p q
    show (PyData.eqv (.tuple (dI n)) (.tuple (dI m)) && PyData.eqvAll (dT p) (dT q)) = _
    rw [h, eqv_tup]
    by_cases e : n = m
    · subst e
      simp
    · rw [decide_eq_false e, Bool.false_and]
      exact (decide_eq_false (fun z => e (List.cons.inj z).1)).symm
theorem eqv_tups (p q : List (List Nat)) : PyData.eqv (.list (dT p)) (.list (dT q)) = decide (p = q) := by
  rw [show PyData.eqv (.list (dT p)) (.list (dT q)) = PyData.eqvAll (dT p) (dT q) from by simp [PyData.eqv]]
  exact eqvAll_dT p q
theorem eqv_nil_tups (p : List (List Nat)) : PyData.eqv (.list (dT p)) (.list []) = decide (p = []) := eqv_tups p []
end
end FC

set_option Elab.async false
set_option linter.all false
set_option maxRecDepth 100000
set_option maxHeartbeats 4000000
/-! Space: made, refused, compared; points -/
namespace FC
open PySem PySem.Spec PyProof.Rows L2 FE
/-- Space(d, b): made -/
def spSpOk (CS : Addr) : Sp := fun vs H Q _ => ∃ (p dx : Addr) (d b : Nat), vs = [.ref p, .int (d : Int), .int (b : Int)] ∧ (1 ≤ d ∧ d ≤ 3 ∧ 1 ≤ b ∧ b ≤ 10) ∧ H p = some (.ins CS dx []) ∧
  ∀ H', SpaceAt CS H' p d b → (∀ q o, q ≠ p → H q = some o → H' q = some o) → Q .non H'
/-- what is asked of Space's arguments -/
def okNum (x : V) (hi : Int) : Prop := ∃ i, x = .int i ∧ 1 ≤ i ∧ i ≤ hi
def badNum (x : V) (hi : Int) : Prop := (∃ i, x = .int i ∧ ¬ (1 ≤ i ∧ i ≤ hi)) ∨ x = .non ∨ ∃ k, x = .bl k
/-- Space(x, y): refused -/
def spSpBad (CS CX : Addr) : Sp := fun vs H Q E => ∃ (p dx : Addr) (x y : V) (z : Str), vs = [.ref p, x, y] ∧ H p = some (.ins CS dx []) ∧ ((badNum x 3 ∧ z = "dimensions") ∨ (okNum x 3 ∧ badNum y 10 ∧ z = "bits")) ∧
  ∀ d, H d = none → E (.ref CX) (some d) (upd H d (.xd [(("word" : Str), .str z)]))
/-- space == other: two spaces -/
def spSpEq (CS : Addr) : Sp := fun vs H Q _ => ∃ (p q : Addr) (d b d' b' : Nat), vs = [.ref p, .ref q] ∧ SpaceAt CS H p d b ∧ SpaceAt CS H q d' b' ∧ ∀ H', Same H H' → Q (.bl (decide (d = d' ∧ b = b'))) H'
section
variable {P : Program} {w : World} {K : PySem.W.Frag} {mg : Str → Option Value} {base : Heap} {CS CB : Addr}
theorem scSp : FnScope ["self", "dimensions", "bits"] ["self", "dimensions", "bits"] (defScope sSpInit) := ⟨rfl, rfl, rfl, by decide +kernel, rfl, by decide +kernel, by decide +kernel⟩
theorem ok_sp {f fW fP : Addr} {fd fdW fdP : FuncData} (F : Fun K "__init__" "Space.__init__" sSpInit f fd) (T : Txt K mg CS CB)
    (GW : FnOk P w K mg base CX0 1 fW fdW ["thing", "low", "high"] spWhole) (mW : mg "is_whole" = some (.ref fW)) (kW : PySem.W.keepIn K (.ref fW) = true) (bW : Binds K fdW ["thing", "low", "high"] [])
    (GP : FnOk P w K mg base CX0 1 fP fdP ["times"] spPower) (mP : mg "power" = some (.ref fP)) (kP : PySem.W.keepIn K (.ref fP) = true) (bP : Binds K fdP ["times"] []) :
    FnOk P w K mg base CX0 2 f fd ["self", "dimensions", "bits"] (spSpOk CS) := by
  obtain ⟨tD, mgD⟩ := T.mgD
  obtain ⟨tM, mgM⟩ := T.mgM
  refine F.ok scSp (fun vs H Q E h => ?_) (fun cdv A outer s H vs Q E hr h => ?_)
  · obtain ⟨p, dx, d, b, rfl, _⟩ := h
    rfl
  · obtain ⟨p, dx, d, b, rfl, hb, hp, q⟩ := h
    refine ⟨_, pss_cons (ps_if (pt_not (pt_val (pe_call GW hr rfl mW kW bW .nil pass0 (pa_cons (pv 1) (pa_cons pe_int (pa_cons (pe_glob (v := .int 3) rfl mgD ⟨_, rfl⟩) pa_nil)))))) pss_never pss_nil)
      (pss_cons (ps_if (pt_not (pt_val (pe_call GW hr rfl mW kW bW .nil pass0 (pa_cons (pv 2) (pa_cons pe_int (pa_cons (pe_glob (v := .int 10) rfl mgM ⟨_, rfl⟩) pa_nil)))))) pss_never pss_nil)
      (pss_cons (ps_fld (pv 0) (pv 1) rfl)
      (pss_cons (ps_fld (pv 0) (pv 2) rfl)
      (pss_cons (ps_fld (pv 0) (pe_op op_mul (pv 1) (pv 2)) rfl)
      (pss_one (ps_fld (pv 0) (pe_call GP hr rfl mP kP bP .nil pass0 (pa_cons (pv 2) pa_nil)) rfl)))))), ?_⟩
    refine ⟨_, rfl, _, 1, 3, rfl, .inl ⟨_, rfl, _, rfl, ?_⟩⟩
    rw [decide_eq_true (by omega)]
    refine iteF ⟨_, rfl, _, 1, 10, rfl, .inl ⟨_, rfl, _, rfl, ?_⟩⟩
    rw [decide_eq_true (by omega)]
    refine iteF ?_
    refine ⟨_, rfl, _, rfl, p, CS, dx, _, rfl, hp, T.clS, T.sDim, (by decide), ?_⟩
    refine ⟨_, rfl, _, rfl, p, CS, dx, _, rfl, upd_same, T.clS, T.sBits, put1, ?_⟩
    refine ⟨_, rfl, _, rfl, _, _, rfl, rfl, .inl ⟨by omega, by omega⟩, _, rfl, p, CS, dx, _, rfl, upd_same, T.clS, T.sDepth, put2, ?_⟩
    refine ⟨_, rfl, b, rfl, by omega, _, rfl, p, CS, dx, _, rfl, upd_same, T.clS, T.sSide, put3, ?_⟩
    refine q _ ⟨dx, ?_⟩ fun r o hr e => ?_
    · rw [upd_same]
      unfold sFl
      rw [Int.natCast_mul]
    · rw [upd_ne hr, upd_ne hr, upd_ne hr, upd_ne hr]
      exact e
theorem ok_spBad {f fW fP CX CE fI cc cda : Addr} {fd fdW fdP : FuncData} (F : Fun K "__init__" "Space.__init__" sSpInit f fd) (T : Txt K mg CS CB) (B : BadTxt K mg CX CE fI cc cda)
    (GW : FnOk prg w K mg base CX0 1 fW fdW ["thing", "low", "high"] spWhole) (mW : mg "is_whole" = some (.ref fW)) (kW : PySem.W.keepIn K (.ref fW) = true) (bW : Binds K fdW ["thing", "low", "high"] []) :
    FnOk prg w K mg base (L2.CX prg w) 2 f fd ["self", "dimensions", "bits"] (spSpBad CS CX) := by
  obtain ⟨tD, mgD⟩ := T.mgD
  obtain ⟨tM, mgM⟩ := T.mgM
  refine F.okX scSp (fun vs H Q E h => ?_) (fun cdv A outer s H vs Q E hr h => ?_)
  · obtain ⟨p, dx, x, y, z, rfl, _⟩ := h
    rfl
  · obtain ⟨p, dx, x, y, z, rfl, hp, hc, q⟩ := h
    refine ⟨_, pss_cons (ps_if (pt_not (pt_val (pe_call GW hr rfl mW kW bW .nil pass0 (pa_cons (pv 1) (pa_cons pe_int (pa_cons (pe_glob (v := .int 3) rfl mgD ⟨_, rfl⟩) pa_nil)))))) (pss_one (ps_raiseBad rfl rfl B hr (takes_of rfl rfl rfl rfl) (pa_cons pe_str pa_nil))) pss_nil)
      (pss_cons (ps_if (pt_not (pt_val (pe_call GW hr rfl mW kW bW .nil pass0 (pa_cons (pv 2) (pa_cons pe_int (pa_cons (pe_glob (v := .int 10) rfl mgM ⟨_, rfl⟩) pa_nil)))))) (pss_one (ps_raiseBad rfl rfl B hr (takes_of rfl rfl rfl rfl) (pa_cons pe_str pa_nil))) pss_nil)
      pss_never), ?_⟩
    rcases hc with ⟨hb, rfl⟩ | ⟨⟨i, rfl, h1, h2⟩, hb, rfl⟩
    · rcases hb with ⟨i, rfl, h⟩ | h
      · refine ⟨_, rfl, _, 1, 3, rfl, .inl ⟨i, rfl, _, rfl, ?_⟩⟩
        rw [decide_eq_false h]
        exact iteT ⟨_, rfl, q⟩
      · exact ⟨_, rfl, _, 1, 3, rfl, .inr ⟨h, _, rfl, iteT ⟨_, rfl, q⟩⟩⟩
    · refine ⟨_, rfl, _, 1, 3, rfl, .inl ⟨_, rfl, _, rfl, ?_⟩⟩
      rw [decide_eq_true ⟨h1, h2⟩]
      rcases hb with ⟨i, rfl, h⟩ | h
      · refine iteF ⟨_, rfl, _, 1, 10, rfl, .inl ⟨i, rfl, _, rfl, ?_⟩⟩
        rw [decide_eq_false h]
        exact iteT ⟨_, rfl, q⟩
      · exact iteF ⟨_, rfl, _, 1, 10, rfl, .inr ⟨h, _, rfl, iteT ⟨_, rfl, q⟩⟩⟩
theorem scEq : FnScope ["self", "other"] ["self", "other"] (defScope sSpEq) := ⟨rfl, rfl, rfl, by decide +kernel, rfl, by decide +kernel, by decide +kernel⟩
theorem ok_eq {f : Addr} {fd : FuncData} (F : Fun K "__eq__" "Space.__eq__" sSpEq f fd) (T : Txt K mg CS CB) : FnOk P w K mg base CX0 1 f fd ["self", "other"] (spSpEq CS) := by
  refine F.ok scEq (fun vs H Q E h => ?_) (fun cdv A outer s H vs Q E hr h => ?_)
  · obtain ⟨p, q, d, b, d', b', rfl, _⟩ := h
    rfl
  · obtain ⟨p, r, d, b, d', b', rfl, ⟨dx, hp⟩, ⟨dy, hq⟩, q⟩ := h
    refine ⟨_, pss_one (ps_ret (pe_and (pe_callB call_isi (by rfl) T.isinst (by decide +kernel) (pa_cons (pv 1) (pa_cons (pe_glob (v := .ref CS) rfl T.mgS rfl) pa_nil)))
      (pe_one (pe_cmpR (op_eqD hr.units) (pe_tup (pa_cons (pe_fld (pv 0) rfl) (pa_cons (pe_fld (pv 0) rfl) pa_nil))) (pe_tup (pa_cons (pe_fld (pv 1) rfl) (pa_cons (pe_fld (pv 1) rfl) pa_nil))) (nomark _))))), ?_⟩
    refine ⟨_, rfl, _, .ref CS, .ref CS, _, true, rfl, .own _, .base (.ins hq T.clS T.cls T.clsG T.clsT T.clsM), T.kitS, true, rfl, iteT ?_⟩
    refine ⟨_, rfl, p, CS, dx, _, _, rfl, hp, T.clS, T.sDim, sFl_dim _ _, _, rfl, p, CS, dx, _, _, rfl, hp, T.clS, T.sBits, sFl_bits _ _, (by show 2 ≤ sizeLine; decide), fun t ht => ?_⟩
    have nq : r ≠ t := ne_of_none hq ht
    refine ⟨_, rfl, r, CS, dy, _, _, rfl, (by rw [upd_ne nq]; exact hq), T.clS, T.sDim, sFl_dim _ _, _, rfl, r, CS, dy, _, _, rfl, (by rw [upd_ne nq]; exact hq), T.clS, T.sBits, sFl_bits _ _, (by show 2 ≤ sizeLine; decide), fun t' ht' => ?_⟩
    have e1 : Same H (upd (upd H t (.tup [.int (d : Int), .int (b : Int)])) t' (.tup [.int (d' : Int), .int (b' : Int)])) := same_more (same_upd ht) ht'
    have htt : t ≠ t' := fun z => by rw [← z, upd_same] at ht'; cases ht'
    refine ⟨.tuple (dI [d, b]), .tuple (dI [d', b']), dp_tup (.inl (.inl ((upd_ne htt).trans upd_same))), dp_tup (.inl (.inl upd_same)), shaped_tup _, shaped_tup _, ?_⟩
    rw [eqv_tup, show decide ([d, b] = [d', b']) = decide (d = d' ∧ b = b') from by simp]
    exact q _ e1
end
end FC

set_option Elab.async false
set_option linter.all false
set_option maxRecDepth 100000
set_option maxHeartbeats 4000000
/-! points, woven numbers, cells -/
namespace FC
open PySem PySem.Spec PyProof.Rows L2
/-- a point of a space -/
def IsPt (d b : Nat) (p : List Nat) : Prop := p.length = d ∧ ∀ x ∈ p, x < 2 ^ b
def spIsPoint (CS : Addr) : Sp := fun vs H Q _ => ∃ (p t : Addr) (d b : Nat) (pt : List Nat), vs = [.ref p, .ref t] ∧ b ≤ 10 ∧ SpaceAt CS H p d b ∧ TupAt H t pt ∧ IsPt d b pt ∧ pt.length ≤ 1000 ∧ ∀ H', Same H H' → Q (.bl true) H'
def spCheck (CS : Addr) : Sp := fun vs H Q _ => ∃ (p t : Addr) (d b : Nat) (pt : List Nat), vs = [.ref p, .ref t] ∧ b ≤ 10 ∧ SpaceAt CS H p d b ∧ TupAt H t pt ∧ IsPt d b pt ∧ pt.length ≤ 1000 ∧ ∀ H', Same H H' → Q .non H'
section
variable {P : Program} {w : World} {K : PySem.W.Frag} {mg : Str → Option Value} {base : Heap} {CS CB : Addr}
theorem scIsPoint : FnScope ["self", "thing", "number"] ["self", "thing"] (defScope sIsPoint) := ⟨rfl, rfl, rfl, by decide +kernel, rfl, by decide +kernel, by decide +kernel⟩
theorem ok_isPoint {f fW : Addr} {fd fdW : FuncData} (F : Fun K "is_point" "Space.is_point" sIsPoint f fd) (T : Txt K mg CS CB)
    (GW : FnOk P w K mg base CX0 1 fW fdW ["thing", "low", "high"] spWhole) (mW : mg "is_whole" = some (.ref fW)) (kW : PySem.W.keepIn K (.ref fW) = true) (bW : Binds K fdW ["thing", "low", "high"] []) :
    FnOk P w K mg base CX0 2 f fd ["self", "thing"] (spIsPoint CS) := by
  refine F.ok scIsPoint (fun vs H Q E h => ?_) (fun cdv A outer s H vs Q E hr h => ?_)
  · obtain ⟨p, t, d, b, pt, rfl, _⟩ := h
    rfl
  · obtain ⟨p, t, d, b, pt, rfl, hb, S, ht, ⟨hd, hlt⟩, hz, q⟩ := h
    obtain ⟨dx, hp⟩ := id S
    refine ⟨_, pss_cons (ps_if (PW.pt (pw_or (pt_not (pt_val (pe_callB call_isi (by rfl) T.isinst (by decide +kernel) (pa_cons (pv 1) (pa_cons (pe_bltn (v := .ty "tuple") (by rfl) T.tup (by decide +kernel) rfl) pa_nil)))))
        (pw_or1 (pt_cmpR op_ne (pe_callB call_len_seq (by rfl) T.len PySem.boot_len (pa_cons (pv 1) pa_nil)) (pe_fld (pv 0) rfl) (nomark _))))) pss_never pss_nil)
      (pss_one (ps_ret (pe_callB (cr_all rfl) (by rfl) T.all (by decide +kernel) (pa_cons (pe_lc (own := [("number", 2)]) (g := gName 2) (tt := tYes) rfl scIsPoint.nd (pi_tup (pv 1)) (blkOk_by (N := ["self", "thing", "number"]) (sc := defScope sIsPoint) (by decide +kernel))
        (fun _ _ _ _ _ => pg_name (i := 2) scIsPoint.nd rfl (Or.inl rfl)) (fun _ _ _ _ _ => pts_nil)
        (fun _ _ _ _ _ => pe_call GW hr rfl mW kW bW .nil pass0 (pa_cons (pv 2) (pa_cons pe_int (pa_cons (pe_op op_sub (pe_fldB (K := K) rfl (pv 0) rfl) pe_int) pa_nil))))) pa_nil)))), ?_⟩
    refine ⟨_, rfl, _, .ty "tuple", _, .type "tuple", true, rfl, .ty _, .base (.tup ht), kit_ty (by decide +kernel), true, rfl, iteF ?_⟩
    refine ⟨_, rfl, t, _, rfl, .inr (.inl (.inl ht)), _, rfl, p, CS, dx, _, _, rfl, hp, T.clS, T.sDim, sFl_dim _ _, rfl, _, rfl, ?_⟩
    have el : (V.int ((iV pt).length : Int)) = V.int (d : Int) := by rw [List.length_map, hd]
    refine iteNS el ?_
    -- all([is_whole(number, 0, self.side - 1) for number in thing])
    refine ⟨_, rfl, t, rfl, ⟨_, .inl (.inl ht)⟩, fun D hD => lc_tup (K := K) (a := t) (xs := iV pt) (fun i H2 => Same H H2 ∧ H2 D = some (.lst ((List.replicate i true).map V.bl))) ⟨same_upd hD, upd_same⟩ (fun i H2 _ ⟨s2, _⟩ => .inl (.inl (s2 _ _ ht))) ?_ ?_⟩
    · rintro i x H2 hi ⟨s2, h2⟩
      obtain ⟨n, hn, rfl⟩ := iV_get hi
      have hi' : i < pt.length := get_lt hn
      have hn2 := hlt n (List.mem_of_getElem? hn)
      refine ⟨rfl, _, rfl, _, rfl, p, CS, dx, _, _, rfl, s2 _ _ hp, T.clS, T.sSide, sFl_side _ _, _, _, rfl, rfl, _, 0, _, rfl, .inl ⟨_, rfl, ?_⟩⟩
      rw [decide_eq_true (by omega)]
      refine ⟨_, h2, ?_, same_at s2 hD, ?_⟩
      · rw [List.length_map, List.length_replicate]
        exact small1000 (by omega)
      · rw [bl_snoc]
        exact upd_same
    · rintro H2 ⟨s2, h2⟩
      refine ⟨D, _, rfl, .inl (.inl h2), ?_⟩
      rw [show (List.replicate (iV pt).length true).all id = true from by simp]
      exact q _ s2
theorem scCheck : FnScope ["self", "thing"] ["self", "thing"] (defScope sCheck) := ⟨rfl, rfl, rfl, by decide +kernel, rfl, by decide +kernel, by decide +kernel⟩
theorem ok_check {f fI : Addr} {fd fdI : FuncData} (F : Fun K "check_point" "Space.check_point" sCheck f fd) (T : Txt K mg CS CB)
    (GI : FnOk P w K mg base CX0 2 fI fdI ["self", "thing"] (spIsPoint CS)) (mI : Meth K CS "is_point" fI) (bI : Binds K fdI ["self", "thing"] []) :
    FnOk P w K mg base CX0 3 f fd ["self", "thing"] (spCheck CS) := by
  refine F.ok scCheck (fun vs H Q E h => ?_) (fun cdv A outer s H vs Q E hr h => ?_)
  · obtain ⟨p, t, d, b, pt, rfl, _⟩ := h
    rfl
  · obtain ⟨p, t, d, b, pt, rfl, hb, S, ht, hpt, hz, q⟩ := h
    obtain ⟨dx, hp⟩ := id S
    refine ⟨_, pss_one (ps_if (pt_not (pt_val (pe_meth (pv 0) T.clS mI GI hr bI .nil pass0 (pa_cons (pv 1) pa_nil)))) pss_never pss_nil), ?_⟩
    refine ⟨_, rfl, p, dx, _, rfl, hp, sFl_no _ _ (by decide +kernel) (by decide +kernel) (by decide +kernel) (by decide +kernel), _, rfl, p, t, d, b, pt, rfl, hb, S, ht, hpt, hz, fun H' s' => ⟨_, rfl, iteF (q H' s')⟩⟩
/-! ### size, cell -/
/-- a prefix: the pair (l, n) stands at a -/
abbrev PreAt (H : Hp) (a : Addr) (l n : Nat) : Prop := TupAt H a [l, n]
def spSize (CS : Addr) : Sp := fun vs H Q _ => ∃ (p a : Addr) (d b l n : Nat), vs = [.ref p, .ref a] ∧ SpaceAt CS H p d b ∧ d * b ≤ 1000 ∧ PreAt H a l n ∧ l ≤ d * b ∧ Q (.int ((2 ^ (d * b - l) : Nat) : Int)) H
theorem scSize : FnScope ["self", "prefix"] ["self", "prefix"] (defScope sSize) := ⟨rfl, rfl, rfl, by decide +kernel, rfl, by decide +kernel, by decide +kernel⟩
theorem ok_size {f fP : Addr} {fd fdP : FuncData} (F : Fun K "size" "Space.size" sSize f fd) (T : Txt K mg CS CB)
    (GP : FnOk P w K mg base CX0 1 fP fdP ["times"] spPower) (mP : mg "power" = some (.ref fP)) (kP : PySem.W.keepIn K (.ref fP) = true) (bP : Binds K fdP ["times"] []) :
    FnOk P w K mg base CX0 2 f fd ["self", "prefix"] (spSize CS) := by
  refine F.ok scSize (fun vs H Q E h => ?_) (fun cdv A outer s H vs Q E hr h => ?_)
  · obtain ⟨p, a, d, b, l, n, rfl, _⟩ := h
    rfl
  · obtain ⟨p, a, d, b, l, n, rfl, S, hz, ha, hl, q⟩ := h
    obtain ⟨dx, hp⟩ := id S
    refine ⟨_, pss_one (ps_ret (pe_call GP hr rfl mP kP bP .nil pass0 (pa_cons (pe_op op_sub (pe_fld (pv 0) rfl) (pe_ix ix_tup (pv 1) pe_int (fun _ _ => rfl))) pa_nil))), ?_⟩
    refine ⟨_, rfl, p, CS, dx, _, _, rfl, hp, T.clS, T.sDepth, sFl_depth _ _, _, rfl, a, _, 0, _, rfl, rfl, .inl (.inl ha), at_of (j := 0) rfl rfl, _, _, rfl, rfl, d * b - l, ?_, by omega, q⟩
    have e : ((d * b : Nat) : Int) - (l : Int) = ((d * b - l : Nat) : Int) := by omega
    show [V.int (((d * b : Nat) : Int) - (l : Int))] = _
    rw [e]
end
end FC

set_option Elab.async false
set_option linter.all false
set_option maxRecDepth 100000
set_option maxHeartbeats 4000000
/-! woven numbers, points of numbers, cells -/
namespace FC
open PySem PySem.Spec PyProof.Rows L2
theorem fd_nat (x h : Nat) : (x : Int).fdiv (h : Int) = ((x / h : Nat) : Int) := by
  rw [Int.fdiv_eq_ediv_of_nonneg _ (by omega)]
  exact (Int.natCast_ediv x h).symm
theorem fm_nat (x h : Nat) : (x : Int).fmod (h : Int) = ((x % h : Nat) : Int) := by
  rw [Int.fmod_eq_emod_of_nonneg _ (by omega)]
  exact (Int.natCast_emod x h).symm
theorem wov_half (b : Nat) (p : List Nat) : ∀ i, (wovIter b p i).2 = 2 ^ b / 2 ^ (i + 1)
  | 0 => by show 2 ^ b / 2 = _; rfl
  | i + 1 => by
    unfold wovIter
    rw [List.range_succ, List.foldl_append]
    show (wovIter b p i).2 / 2 = _
    rw [wov_half b p i, Nat.div_div_eq_div_mul, Nat.pow_succ 2 (i + 1)]
theorem wov_succ (b : Nat) (p : List Nat) (i : Nat) : wovIter b p (i + 1) = wovTurn p (wovIter b p i) := by
  unfold wovIter
  rw [List.range_succ, List.foldl_append]
  rfl
theorem wov_pos {b : Nat} {p : List Nat} {i : Nat} (h : i < b) : 1 ≤ (wovIter b p i).2 := by
  rw [wov_half]
  exact (Nat.one_le_div_iff (Nat.two_pow_pos _)).mpr (Nat.pow_le_pow_right (by decide) h)
theorem wov_le {b : Nat} {p : List Nat} {i : Nat} (h : b ≤ 10) : (wovIter b p i).2 ≤ 1024 := by
  rw [wov_half]
  exact Nat.le_trans (Nat.div_le_self _ _) (Nat.pow_le_pow_right (by decide) h : 2 ^ b ≤ 2 ^ 10)
theorem foldl_take {α β : Type} (f : β → α → β) (s : β) {l : List α} {i : Nat} {x : α} (h : l[i]? = some x) : (l.take (i + 1)).foldl f s = f ((l.take i).foldl f s) x := by
  rw [List.take_add_one, h, List.foldl_append]
  rfl
theorem wov_cast (F n h : Nat) : (F : Int) * 2 + (n : Int).fdiv (h : Int) % 2 = ((wovStep h F n : Nat) : Int) := by
  rw [fd_nat]
  unfold wovStep
  generalize n / h = k
  omega
def spWoven (CS : Addr) : Sp := fun vs H Q _ => ∃ (p t : Addr) (d b : Nat) (pt : List Nat), vs = [.ref p, .ref t] ∧ b ≤ 10 ∧ SpaceAt CS H p d b ∧ TupAt H t pt ∧ IsPt d b pt ∧ pt.length ≤ 1000 ∧ ∀ H', Same H H' → Q (.int (woven b pt : Int)) H'
section
variable {P : Program} {w : World} {K : PySem.W.Frag} {mg : Str → Option Value} {base : Heap} {CS CB : Addr}
theorem scWoven : FnScope ["self", "point", "found", "half", "turn", "number"] ["self", "point"] (defScope sWoven) := ⟨rfl, rfl, rfl, by decide +kernel, rfl, by decide +kernel, by decide +kernel⟩
theorem ok_woven {f fC : Addr} {fd fdC : FuncData} (F : Fun K "woven" "Space.woven" sWoven f fd) (T : Txt K mg CS CB)
    (GC : FnOk P w K mg base CX0 3 fC fdC ["self", "thing"] (spCheck CS)) (mC : Meth K CS "check_point" fC) (bC : Binds K fdC ["self", "thing"] []) :
    FnOk P w K mg base CX0 4 f fd ["self", "point"] (spWoven CS) := by
  refine F.ok scWoven (fun vs H Q E h => ?_) (fun cdv A outer s H vs Q E hr h => ?_)
  · obtain ⟨p, t, d, b, pt, rfl, _⟩ := h
    rfl
  · obtain ⟨p, t, d, b, pt, rfl, hb, S, ht, hpt, hz, q⟩ := h
    obtain ⟨dx, hp⟩ := id S
    refine ⟨_, pss_cons (ps_expr (pe_meth (pv 0) T.clS mC GC hr bC .nil pass0 (pa_cons (pv 1) pa_nil)))
      (pss_cons (ps_par (i := 2) (j := 3) (by rfl) scWoven.nd rfl rfl (by decide) rfl rfl (pa_cons pe_int (pa_cons (pe_op op_fdiv (pe_fld (pv 0) rfl) pe_int) pa_nil)) (by rfl))
      (pss_cons (ps_for PassesOwn.never rfl (pi_range1 rfl T.range (pa_cons (pe_fld (pv 0) rfl) pa_nil)) (pg_name (i := 4) scWoven.nd rfl (Or.inl rfl))
        (pss_cons (ps_for PassesOwn.never rfl (pi_tup (pv 1)) (pg_name (i := 5) scWoven.nd rfl (Or.inl rfl))
          (pss_one (ps_set (i := 2) scWoven.nd rfl (Or.inl rfl) (pe_op op_add (pe_op op_mul (pv 2) pe_int) (pe_op op_mod (pe_callTy call_int1 (by rfl) T.int (by decide +kernel) (pa_cons (pe_op op_fdivN (pv 5) (pv 3)) pa_nil)) pe_int)))))
        (pss_one (ps_set (i := 3) scWoven.nd rfl (Or.inl rfl) (pe_op op_fdiv (pv 3) pe_int)))))
      (pss_one (ps_ret (pv 2))))), ?_⟩
    refine ⟨_, rfl, p, dx, _, rfl, hp, sFl_no _ _ (by decide +kernel) (by decide +kernel) (by decide +kernel) (by decide +kernel), _, rfl, p, t, d, b, pt, rfl, hb, S, ht, hpt, hz, fun H1 s1 => ?_⟩
    refine ⟨_, rfl, p, CS, dx, _, _, rfl, s1 _ _ hp, T.clS, T.sSide, sFl_side _ _, _, _, rfl, rfl, ⟨by decide, by decide⟩, _, _, rfl, ?_⟩
    refine ⟨_, rfl, p, CS, dx, _, _, rfl, s1 _ _ hp, T.clS, T.sBits, sFl_bits _ _, b, rfl, by omega, by omega, for_range (lo := 0) (n := b) (fun i σ H2 => Same H H2 ∧ ∃ v u, σ = [some (.ref p), some (.ref t), some (.int ((wovIter b pt i).1 : Int)), some (.int ((wovIter b pt i).2 : Int)), v, u]) ⟨s1, none, none, ?_⟩ ?_ ?_⟩
    · have e : ((2 ^ b : Nat) : Int) / 2 = ((2 ^ b / 2 : Nat) : Int) := (Int.natCast_ediv (2 ^ b) 2).symm
      show [some (V.ref p), some (V.ref t), some (V.int 0), some (V.int (((2 ^ b : Nat) : Int) / 2)), none, none] = _
      rw [e]
      rfl
    · rintro i σ H2 hi ⟨s2, v, u, rfl⟩
      refine ⟨_, rfl, t, rfl, ⟨_, .inl (.inl (s2 _ _ ht))⟩, for_tup (K := K) (a := t) (xs := iV pt) (fun j σ H3 => Same H H3 ∧ ∃ u, σ = [some (.ref p), some (.ref t), some (.int (((pt.take j).foldl (wovStep (wovIter b pt i).2) (wovIter b pt i).1 : Nat) : Int)), some (.int ((wovIter b pt i).2 : Int)), some (.int (0 + (i : Int))), u])
        ⟨s2, u, rfl⟩ (fun j σ H3 _ ⟨s3, _⟩ => .inl (.inl (s3 _ _ ht))) ?_ ?_⟩
      · rintro j x σ H3 hj ⟨s3, u, rfl⟩
        obtain ⟨n, hn, rfl⟩ := iV_get hj
        have hp1 := wov_pos (b := b) (p := pt) hi
        have hp2 := wov_le (b := b) (p := pt) (i := i) hb
        refine ⟨_, rfl, _, _, rfl, rfl, .inr (by decide), _, rfl, _, rfl, _, _, rfl, rfl, ⟨by omega, by rw [Int.natAbs_natCast]; omega⟩, .inl ⟨_, rfl, _, _, rfl, rfl, (by show (0 : Int) < 2; decide), _, _, rfl, rfl, s3, some (V.int (n : Int)), ?_⟩⟩
        show [some (V.ref p), some (V.ref t), some (V.int ((((pt.take j).foldl (wovStep (wovIter b pt i).2) (wovIter b pt i).1 : Nat) : Int) * 2 + (n : Int).fdiv ((wovIter b pt i).2 : Int) % 2)), some (V.int ((wovIter b pt i).2 : Int)), some (V.int (0 + (i : Int))), some (V.int (n : Int))] = _
        rw [wov_cast, foldl_take _ _ hn]
      · rintro σ H3 ⟨s3, u, rfl⟩
        refine ⟨_, rfl, _, _, rfl, rfl, ⟨by decide, by decide⟩, s3, some (V.int (0 + (i : Int))), u, ?_⟩
        have e : ((wovIter b pt i).2 : Int) / 2 = (((wovIter b pt i).2 / 2 : Nat) : Int) := (Int.natCast_ediv _ 2).symm
        rw [List.length_map, List.take_length, wov_succ]
        show [some (V.ref p), some (V.ref t), some (V.int ((pt.foldl (wovStep (wovIter b pt i).2) (wovIter b pt i).1 : Nat) : Int)), some (V.int (((wovIter b pt i).2 : Int) / 2)), some (V.int (0 + (i : Int))), u] = _
        rw [e]
        rfl
    · rintro σ H2 ⟨s2, v, u, rfl⟩
      exact ⟨_, rfl, q _ s2⟩
end
/-! ### point_of -/
theorem po_succ (d b n i : Nat) : poIter d b n (i + 1) = poStep d n (poIter d b n i) i := by
  unfold poIter
  rw [List.range_succ, List.foldl_append]
  rfl
theorem po_len (d b n : Nat) : ∀ i, (poIter d b n i).1.length = d
  | 0 => by show (List.replicate d 0).length = d; simp
  | i + 1 => by
    rw [po_succ]
    show ((poIter d b n i).1.set _ _).length = d
    rw [List.length_set, po_len d b n i]
theorem po_room (d b n : Nat) (h1 : 1 ≤ d * b) (h2 : d * b ≤ 30) : ∀ i, 1 ≤ (poIter d b n i).2 ∧ (poIter d b n i).2 < 1073741824
  | 0 => by
    show 1 ≤ 2 ^ (d * b) / 2 ∧ 2 ^ (d * b) / 2 < 1073741824
    have h3 : 2 ^ 1 ≤ 2 ^ (d * b) := Nat.pow_le_pow_right (by decide) h1
    have h4 : 2 ^ (d * b) ≤ 2 ^ 30 := Nat.pow_le_pow_right (by decide) h2
    omega
  | i + 1 => by
    have h := po_room d b n h1 h2 i
    rw [po_succ]
    show 1 ≤ max 1 ((poIter d b n i).2 / 2) ∧ max 1 ((poIter d b n i).2 / 2) < 1073741824
    omega
def spPointOf (CS : Addr) : Sp := fun vs H Q _ => ∃ (p : Addr) (d b n : Nat), vs = [.ref p, .int (n : Int)] ∧ (1 ≤ d ∧ d ≤ 3 ∧ 1 ≤ b ∧ b ≤ 10) ∧ SpaceAt CS H p d b ∧ ∀ H' c, Same H H' → H c = none → TupAt H' c (pointOf d b n) → Q (.ref c) H'
theorem iV_set (l : List Nat) (i n : Nat) : (iV l).set i (V.int (n : Int)) = iV (l.set i n) := by
  rw [← List.map_set]
theorem rep_flat : ∀ m : Nat, (List.replicate m [V.int 0]).flatten = iV (List.replicate m 0)
  | 0 => rfl
  | m + 1 => by
    rw [List.replicate_succ, List.flatten_cons, rep_flat m, List.replicate_succ]
    rfl
theorem iV_at {l : List Nat} {i : Nat} (h : i < l.length) : (iV l)[i]? = some (V.int ((l.getD i 0 : Nat) : Int)) := by
  rw [List.getElem?_map, List.getElem?_eq_getElem h, List.getD_eq_getElem?_getD, List.getElem?_eq_getElem h]
  rfl
section
variable {P : Program} {w : World} {K : PySem.W.Frag} {mg : Str → Option Value} {base : Heap} {CS CB : Addr}
theorem scPointOf : FnScope ["self", "number", "found", "room", "turn", "axis"] ["self", "number"] (defScope sPointOf) := ⟨rfl, rfl, rfl, by decide +kernel, rfl, by decide +kernel, by decide +kernel⟩
theorem ok_pointOf {f fP : Addr} {fd fdP : FuncData} (F : Fun K "point_of" "Space.point_of" sPointOf f fd) (T : Txt K mg CS CB)
    (GP : FnOk P w K mg base CX0 1 fP fdP ["times"] spPower) (mP : mg "power" = some (.ref fP)) (kP : PySem.W.keepIn K (.ref fP) = true) (bP : Binds K fdP ["times"] []) :
    FnOk P w K mg base CX0 2 f fd ["self", "number"] (spPointOf CS) := by
  refine F.ok scPointOf (fun vs H Q E h => ?_) (fun cdv A outer s H vs Q E hr h => ?_)
  · obtain ⟨p, d, b, n, rfl, _⟩ := h
    rfl
  · obtain ⟨p, d, b, n, rfl, ⟨hd1, hd3, hb1, hb2⟩, S, q⟩ := h
    obtain ⟨dx, hp⟩ := id S
    have hD1 : 1 ≤ d * b := Nat.mul_le_mul hd1 hb1
    have hD2 : d * b ≤ 30 := Nat.mul_le_mul hd3 hb2
    refine ⟨_, pss_cons (ps_par (i := 2) (j := 3) (by rfl) scPointOf.nd rfl rfl (by decide) rfl rfl (pa_cons (pe_op op_rep (pe_lst (pa_cons pe_int pa_nil)) (pe_fld (pv 0) rfl)) (pa_cons (pe_op op_fdiv (pe_call GP hr rfl mP kP bP .nil pass0 (pa_cons (pe_fld (pv 0) rfl) pa_nil)) pe_int) pa_nil)) (by rfl))
      (pss_cons (ps_for PassesOwn.never rfl (pi_range1 rfl T.range (pa_cons (pe_fld (pv 0) rfl) pa_nil)) (pg_name (i := 4) scPointOf.nd rfl (Or.inl rfl))
        (pss_cons (ps_set (i := 5) scPointOf.nd rfl (Or.inl rfl) (pe_op op_modN (pe_callTy call_int1 (by rfl) T.int (by decide +kernel) (pa_cons (pv 4) pa_nil)) (pe_fld (pv 0) rfl)))
        (pss_cons (ps_asg (pe_op op_add (pe_op op_mul (pe_ix ix_list (pv 2) (pv 5) (fun _ _ => rfl)) pe_int) (pe_op op_mod (pe_callTy call_int1 (by rfl) T.int (by decide +kernel) (pa_cons (pe_op op_fdivN (pv 1) (pv 3)) pa_nil)) pe_int)) (pg_sub (pv 2) (pv 5) set_list))
        (pss_one (ps_set (i := 3) scPointOf.nd rfl (Or.inl rfl) (pe_callB (call_max2 rfl) (by rfl) T.max (by decide +kernel) (pa_cons pe_int (pa_cons (pe_op op_fdiv (pv 3) pe_int) pa_nil))))))))
      (pss_one (ps_ret (pe_callTy call_tuple_of (by rfl) T.tup (by decide +kernel) (pa_cons (pv 2) pa_nil))))), ?_⟩
    refine ⟨by show 1 ≤ sizeLine; decide, fun L0 hL0 => ?_⟩
    have s0 : Same H (upd H L0 (.lst [V.int 0])) := same_upd hL0
    refine ⟨_, rfl, p, CS, dx, _, _, rfl, s0 _ _ hp, T.clS, T.sDim, sFl_dim _ _, L0, _, _, rfl, rfl, upd_same, by omega, by omega, ?_, fun L hL => ?_⟩
    · show 1 * ((d : Int)).toNat ≤ sizeLine
      rw [Int.toNat_natCast, Nat.one_mul]
      exact Nat.le_trans hd3 (by decide)
    have s1 : Same H (upd (upd H L0 (.lst [V.int 0])) L (.lst (List.replicate (d : Int).toNat [V.int 0]).flatten)) := same_more s0 hL
    have hLH : H L = none := s0.free hL
    refine ⟨_, rfl, p, CS, dx, _, _, rfl, s1 _ _ hp, T.clS, T.sDepth, sFl_depth _ _, d * b, rfl, by omega, _, _, rfl, rfl, ⟨by decide, by decide⟩, _, _, rfl, ?_⟩
    refine ⟨_, rfl, p, CS, dx, _, _, rfl, s1 _ _ hp, T.clS, T.sDepth, sFl_depth _ _, _, rfl, by omega, by omega, for_range (lo := 0) (n := d * b) (fun i σ H2 => Same H H2 ∧ H2 L = some (.lst (iV (poIter d b n i).1)) ∧ ∃ v u, σ = [some (.ref p), some (.int (n : Int)), some (.ref L), some (.int ((poIter d b n i).2 : Int)), v, u]) ⟨s1, ?_, none, none, ?_⟩ ?_ ?_⟩
    · rw [upd_same, Int.toNat_natCast, rep_flat]
      rfl
    · have e : ((2 ^ (d * b) : Nat) : Int) / 2 = ((2 ^ (d * b) / 2 : Nat) : Int) := (Int.natCast_ediv _ 2).symm
      show [some (V.ref p), some (V.int (n : Int)), some (V.ref L), some (V.int (((2 ^ (d * b) : Nat) : Int) / 2)), none, none] = _
      rw [e]
      rfl
    · rintro i σ H2 hi ⟨s2, hL2, v, u, rfl⟩
      have hlen := po_len d b n i
      have hro := po_room d b n hD1 hD2 i
      have hax : i % d < (poIter d b n i).1.length := by rw [hlen]; exact Nat.mod_lt _ hd1
      have eax : (0 + (i : Int)).fmod (d : Int) = ((i % d : Nat) : Int) := by rw [Int.zero_add, fm_nat]
      refine ⟨_, rfl, .inl ⟨_, rfl, _, rfl, p, CS, dx, _, _, rfl, s2 _ _ hp, T.clS, T.sDim, sFl_dim _ _, _, _, rfl, rfl, by omega, ?_⟩⟩
      refine ⟨_, rfl, _, rfl, L, _, _, _, rfl, rfl, .inl (.inl hL2), at_of eax (iV_at hax), _, _, rfl, rfl, .inr (by decide), _, rfl, _, rfl, _, _, rfl, rfl, ⟨by omega, by rw [Int.natAbs_natCast]; omega⟩, .inl ⟨_, rfl, _, _, rfl, rfl, (by show (0 : Int) < 2; decide), _, _, rfl, rfl, ?_⟩⟩
      refine ⟨_, rfl, _, rfl, L, _, _, i % d, rfl, rfl, hL2, ?_, ?_⟩
      · show ixN _ ((0 + (i : Int)).fmod (d : Int)) = _
        rw [eax]
        unfold ixN
        rw [if_pos (by omega), if_pos (by rw [List.length_map]; omega), Int.toNat_natCast]
      refine ⟨_, rfl, _, _, rfl, rfl, ⟨by decide, by decide⟩, _, _, rfl, same_at s2 hLH, upd_same.trans ?_, some (V.int (0 + (i : Int))), some (V.int ((0 + (i : Int)).fmod (d : Int))), ?_⟩
      · show some (HO.lst ((iV (poIter d b n i).1).set (i % d) (V.int (((((poIter d b n i).1).getD (i % d) 0 : Nat) : Int) * 2 + (n : Int).fdiv ((poIter d b n i).2 : Int) % 2)))) = _
        rw [wov_cast, iV_set, po_succ]
        rfl
      · have e : (if ((poIter d b n i).2 : Int) / 2 > 1 then ((poIter d b n i).2 : Int) / 2 else 1) = ((max 1 ((poIter d b n i).2 / 2) : Nat) : Int) := by
          split <;> omega
        show [some (V.ref p), some (V.int (n : Int)), some (V.ref L), some (V.int (if ((poIter d b n i).2 : Int) / 2 > 1 then ((poIter d b n i).2 : Int) / 2 else 1)), some (V.int (0 + (i : Int))), some (V.int ((0 + (i : Int)).fmod (d : Int)))] = _
        rw [e, po_succ]
        rfl
    · rintro σ H2 ⟨s2, hL2, v, u, rfl⟩
      refine ⟨_, rfl, L, _, rfl, .inl ⟨.inl (.inl hL2), fun c hc => ?_⟩⟩
      exact q _ c (same_more s2 hc) (s2.free hc) upd_same
/-! ### cell -/
def spCell (CS : Addr) : Sp := fun vs H Q _ => ∃ (p a : Addr) (d b l n : Nat), vs = [.ref p, .ref a] ∧ (1 ≤ d ∧ d ≤ 3 ∧ 1 ≤ b ∧ b ≤ 10) ∧ SpaceAt CS H p d b ∧ PreAt H a l n ∧ l ≤ d * b ∧ n < 2 ^ 40 ∧
  ∀ H' c lo hi, Same H H' → H c = none → H' c = some (.tup [.ref lo, .ref hi]) → TupAt H' lo (cellLo d b l n) → TupAt H' hi (cellHi d b l n) → Q (.ref c) H'
theorem scCell : FnScope ["self", "prefix", "first"] ["self", "prefix"] (defScope sCell) := ⟨rfl, rfl, rfl, by decide +kernel, rfl, by decide +kernel, by decide +kernel⟩
theorem ok_cell {f fZ fO : Addr} {fd fdZ fdO : FuncData} (F : Fun K "cell" "Space.cell" sCell f fd) (T : Txt K mg CS CB)
    (GZ : FnOk P w K mg base CX0 2 fZ fdZ ["self", "prefix"] (spSize CS)) (mZ : Meth K CS "size" fZ) (bZ : Binds K fdZ ["self", "prefix"] [])
    (GO : FnOk P w K mg base CX0 2 fO fdO ["self", "number"] (spPointOf CS)) (mO : Meth K CS "point_of" fO) (bO : Binds K fdO ["self", "number"] []) :
    FnOk P w K mg base CX0 3 f fd ["self", "prefix"] (spCell CS) := by
  refine F.ok scCell (fun vs H Q E h => ?_) (fun cdv A outer s H vs Q E hr h => ?_)
  · obtain ⟨p, a, d, b, l, n, rfl, _⟩ := h
    rfl
  · obtain ⟨p, a, d, b, l, n, rfl, hdb, S, ha, hl, hn, q⟩ := h
    obtain ⟨dx, hp⟩ := id S
    obtain ⟨hd1, hd3, hb1, hb2⟩ := id hdb
    have hD : d * b ≤ 30 := Nat.mul_le_mul hd3 hb2
    have no : ∀ {m : Str}, ¬ m = "dimensions" → ¬ m = "bits" → ¬ m = "depth" → ¬ m = "side" → (sFl d b).lookup m = none := fun h1 h2 h3 h4 => sFl_no _ _ h1 h2 h3 h4
    have n1 : (sFl d b).lookup ("size" : Str) = none := no (by decide +kernel) (by decide +kernel) (by decide +kernel) (by decide +kernel)
    have n2 : (sFl d b).lookup ("point_of" : Str) = none := no (by decide +kernel) (by decide +kernel) (by decide +kernel) (by decide +kernel)
    refine ⟨_, pss_cons (ps_set (i := 2) scCell.nd rfl (Or.inl rfl) (pe_op op_mul (pe_ix ix_tup (pv 1) pe_int (fun _ _ => rfl)) (pe_meth (pv 0) T.clS mZ GZ hr bZ .nil pass0 (pa_cons (pv 1) pa_nil))))
      (pss_one (ps_ret (pe_tup (pa_cons (pe_meth (pv 0) T.clS mO GO hr bO .nil pass0 (pa_cons (pv 2) pa_nil))
        (pa_cons (pe_meth (pv 0) T.clS mO GO hr bO .nil pass0 (pa_cons (pe_op op_sub (pe_op op_add (pv 2) (pe_meth (pv 0) T.clS mZ GZ hr bZ .nil pass0 (pa_cons (pv 1) pa_nil))) pe_int) pa_nil)) pa_nil))))), ?_⟩
    refine ⟨_, rfl, a, _, 1, _, rfl, rfl, .inl (.inl ha), at_of (j := 1) rfl rfl, _, rfl, p, dx, _, rfl, hp, n1, _, rfl, p, a, d, b, l, n, rfl, S, by omega, ha, hl, _, _, rfl, rfl, .inl ⟨by omega, by omega⟩, ?_⟩
    have e1 : (n : Int) * ((2 ^ (d * b - l) : Nat) : Int) = ((n * 2 ^ (d * b - l) : Nat) : Int) := (Int.natCast_mul _ _).symm
    refine ⟨_, rfl, p, dx, _, rfl, hp, n2, _, rfl, p, d, b, n * 2 ^ (d * b - l), ?_, hdb, S, fun H1 c1 s1 f1 g1 => ?_⟩
    · exact congrArg (fun z => [V.ref p, V.int z]) e1
    refine ⟨_, rfl, p, dx, _, rfl, s1 _ _ hp, n2, _, rfl, _, rfl, p, dx, _, rfl, s1 _ _ hp, n1, _, rfl, p, a, d, b, l, n, rfl, S.same s1, by omega, s1 _ _ ha, hl, _, _, rfl, rfl, _, _, rfl, rfl, p, d, b, n * 2 ^ (d * b - l) + 2 ^ (d * b - l) - 1, ?_, hdb, S.same s1, fun H2 c2 s2 f2 g2 => ?_⟩
    · have hpow := Nat.two_pow_pos (d * b - l)
      have e2 : (n : Int) * ((2 ^ (d * b - l) : Nat) : Int) + ((2 ^ (d * b - l) : Nat) : Int) - 1 = ((n * 2 ^ (d * b - l) + 2 ^ (d * b - l) - 1 : Nat) : Int) := by
        rw [e1]
        omega
      exact congrArg (fun z => [V.ref p, V.int z]) e2
    refine ⟨by show 2 ≤ sizeLine; decide, fun c hc => ?_⟩
    have s02 := s1.trans s2
    refine q _ c c1 c2 (same_more s02 hc) (s02.free hc) upd_same ?_ ?_
    · exact same_upd hc _ _ (s2 _ _ g1)
    · exact same_upd hc _ _ g2
end
end FC

set_option Elab.async false
set_option linter.all false
set_option maxRecDepth 100000
set_option maxHeartbeats 4000000
/-! boxes -/
namespace FC
open PySem PySem.Spec PyProof.Rows L2 ZN
/-! ### columns of tuples of numbers -/
abbrev nV (p : List Nat) (i : Nat) : V := V.int ((p.getD i 0 : Nat) : Int)
theorem len_iV {p : List Nat} {n : Nat} (h : p.length = n) : (iV p).length = n := by rw [List.length_map, h]
theorem cols2 {p q : List Nat} {n : Nat} (hp : p.length = n) (hq : q.length = n) : Cols [iV p, iV q] n (fun i => [nV p i, nV q i]) := by
  refine ⟨by simp, fun xs h => ?_, fun i hi => ?_⟩
  · simp only [List.mem_cons, List.not_mem_nil, or_false] at h
    rcases h with rfl | rfl
    · exact len_iV hp
    · exact len_iV hq
  · show [(iV p)[i]?, (iV q)[i]?] = _
    rw [iV_at (by omega), iV_at (by omega)]
    rfl
theorem cols3 {p q r : List Nat} {n : Nat} (hp : p.length = n) (hq : q.length = n) (hr : r.length = n) : Cols [iV p, iV q, iV r] n (fun i => [nV p i, nV q i, nV r i]) := by
  refine ⟨by simp, fun xs h => ?_, fun i hi => ?_⟩
  · simp only [List.mem_cons, List.not_mem_nil, or_false] at h
    rcases h with rfl | rfl | rfl
    · exact len_iV hp
    · exact len_iV hq
    · exact len_iV hr
  · show [(iV p)[i]?, (iV q)[i]?, (iV r)[i]?] = _
    rw [iV_at (by omega), iV_at (by omega), iV_at (by omega)]
    rfl
theorem cols4 {p q r u : List Nat} {n : Nat} (hp : p.length = n) (hq : q.length = n) (hr : r.length = n) (hu : u.length = n) : Cols [iV p, iV q, iV r, iV u] n (fun i => [nV p i, nV q i, nV r i, nV u i]) := by
  refine ⟨by simp, fun xs h => ?_, fun i hi => ?_⟩
  · simp only [List.mem_cons, List.not_mem_nil, or_false] at h
    rcases h with rfl | rfl | rfl | rfl
    · exact len_iV hp
    · exact len_iV hq
    · exact len_iV hr
    · exact len_iV hu
  · show [(iV p)[i]?, (iV q)[i]?, (iV r)[i]?, (iV u)[i]?] = _
    rw [iV_at (by omega), iV_at (by omega), iV_at (by omega), iV_at (by omega)]
    rfl
/-! ### Box -/
def bFl (x lo hi : Addr) : List (Str × V) := putF "highs" (.ref hi) (putF "lows" (.ref lo) (putF "space" (.ref x) []))
theorem bFl_space (x lo hi : Addr) : (bFl x lo hi).lookup ("space" : Str) = some (.ref x) := by
  unfold bFl
  rw [lookup_putF, if_neg (by decide +kernel), lookup_putF, if_neg (by decide +kernel), lookup_putF, if_pos rfl]
theorem bFl_lows (x lo hi : Addr) : (bFl x lo hi).lookup ("lows" : Str) = some (.ref lo) := by
  unfold bFl
  rw [lookup_putF, if_neg (by decide +kernel), lookup_putF, if_pos rfl]
theorem bFl_highs (x lo hi : Addr) : (bFl x lo hi).lookup ("highs" : Str) = some (.ref hi) := by
  unfold bFl
  rw [lookup_putF, if_pos rfl]
theorem bFl_no (x lo hi : Addr) {m : Str} (h1 : ¬ m = "space") (h2 : ¬ m = "lows") (h3 : ¬ m = "highs") : (bFl x lo hi).lookup m = none := by
  unfold bFl
  rw [lookup_putF, if_neg h3, lookup_putF, if_neg h2, lookup_putF, if_neg h1]
  all_goals rfl
/-- a box of the space at x -/
def BoxAt (CB : Addr) (H : Hp) (y x : Addr) (lo hi : List Nat) : Prop := ∃ dx tl th, H y = some (.ins CB dx (bFl x tl th)) ∧ TupAt H tl lo ∧ TupAt H th hi
theorem BoxAt.same {CB : Addr} {H H' : Hp} {y x : Addr} {lo hi : List Nat} (h : BoxAt CB H y x lo hi) (e : Same H H') : BoxAt CB H' y x lo hi := let ⟨dx, tl, th, q, l, u⟩ := h; ⟨dx, tl, th, e _ _ q, e _ _ l, e _ _ u⟩
def spBox (CS CB : Addr) : Sp := fun vs H Q _ => ∃ (y dy x tl th : Addr) (d b : Nat) (lo hi : List Nat), vs = [.ref y, .ref x, .ref tl, .ref th] ∧ (1 ≤ d ∧ d ≤ 3 ∧ 1 ≤ b ∧ b ≤ 10) ∧ H y = some (.ins CB dy []) ∧ SpaceAt CS H x d b ∧ TupAt H tl lo ∧ TupAt H th hi ∧ IsPt d b lo ∧ IsPt d b hi ∧
  (∀ i, i < d → lo.getD i 0 ≤ hi.getD i 0) ∧ ∀ H', H' y = some (.ins CB dy (bFl x tl th)) → (∀ q o, q ≠ y → H q = some o → H' q = some o) → Q .non H'
section
variable {P : Program} {w : World} {K : PySem.W.Frag} {mg : Str → Option Value} {base : Heap} {CS CB : Addr}
theorem scBox : FnScope ["self", "space", "lows", "highs", "point", "low", "high"] ["self", "space", "lows", "highs"] (defScope sBoxInit) := ⟨rfl, rfl, rfl, by decide +kernel, rfl, by decide +kernel, by decide +kernel⟩
theorem ok_box {f fC : Addr} {fd fdC : FuncData} (F : Fun K "__init__" "Box.__init__" sBoxInit f fd) (T : Txt K mg CS CB)
    (GC : FnOk P w K mg base CX0 3 fC fdC ["self", "thing"] (spCheck CS)) (mC : Meth K CS "check_point" fC) (bC : Binds K fdC ["self", "thing"] []) :
    FnOk P w K mg base CX0 4 f fd ["self", "space", "lows", "highs"] (spBox CS CB) := by
  refine F.ok scBox (fun vs H Q E h => ?_) (fun cdv A outer s H vs Q E hr h => ?_)
  · obtain ⟨y, dy, x, tl, th, d, b, lo, hi, rfl, _⟩ := h
    rfl
  · obtain ⟨y, dy, x, tl, th, d, b, lo, hi', rfl, ⟨hd1, hd3, hb1, hb2⟩, hy, S, hl, hh, hpl, hph, hle, q⟩ := h
    obtain ⟨dx, hp⟩ := id S
    refine ⟨_, pss_cons (ps_for PassesOwn.never rfl (pi_tup (pe_tup (pa_cons (pv 2) (pa_cons (pv 3) pa_nil)))) (pg_name (i := 4) scBox.nd rfl (Or.inl rfl))
        (pss_one (ps_expr (pe_meth (pv 1) T.clS mC GC hr bC .nil pass0 (pa_cons (pv 4) pa_nil)))))
      (pss_cons (ps_if (pt_not (pt_val (pe_callB (cr_all rfl) (by rfl) T.all (by decide +kernel) (pa_cons (pe_lc (own := [("low", 5), ("high", 6)]) (g := gTup K 2 (gCons (gName 5) (gCons (gName 6) gNil))) (tt := tYes) rfl scBox.nd (pi_zipT (by rfl) T.zip (pa_cons (pv 2) (pa_cons (pv 3) pa_nil)))
          (blkOk_by (N := ["self", "space", "lows", "highs", "point", "low", "high"]) (sc := defScope sBoxInit) (by decide +kernel))
          (fun _ _ _ _ _ => pg_tup rfl (pgs_cons (pg_name (i := 5) scBox.nd rfl (Or.inl rfl)) (pgs_cons (pg_name (i := 6) scBox.nd rfl (Or.inl rfl)) pgs_nil))) (fun _ _ _ _ _ => pts_nil)
          (fun _ _ _ _ _ => pe_cmpR op_le (pv 5) (pv 6) (nomark _))) pa_nil)))) pss_never pss_nil)
      (pss_cons (ps_fld (pv 0) (pv 1) rfl)
      (pss_cons (ps_fld (pv 0) (pv 2) rfl)
      (pss_one (ps_fld (pv 0) (pv 3) rfl))))), ?_⟩
    refine ⟨_, rfl, _, rfl, by show 2 ≤ sizeLine; decide, fun t ht => ?_⟩
    have s0 : Same H (upd H t (.tup [.ref tl, .ref th])) := same_upd ht
    refine ⟨t, rfl, ⟨_, .inl (.inl upd_same)⟩, for_tup (K := K) (a := t) (xs := [.ref tl, .ref th]) (fun i σ H2 => Same (upd H t (.tup [.ref tl, .ref th])) H2 ∧ ∃ v, σ = [some (.ref y), some (.ref x), some (.ref tl), some (.ref th), v, none, none])
      ⟨Same.refl _, none, rfl⟩ (fun i σ H2 _ ⟨s2, _⟩ => .inl (.inl (s2 _ _ upd_same))) ?_ ?_⟩
    · rintro i z σ H2 hi ⟨s2, v, rfl⟩
      have s02 := s0.trans s2
      have hz : ∃ (a : Addr) (pt : List Nat), z = .ref a ∧ TupAt H a pt ∧ IsPt d b pt := by
        match i, hi with
        | 0, hi => exact ⟨tl, lo, (Option.some.inj hi).symm, hl, hpl⟩
        | 1, hi => exact ⟨th, _, (Option.some.inj hi).symm, hh, hph⟩
      obtain ⟨a, pt, rfl, ha, hpa⟩ := hz
      refine ⟨_, rfl, x, dx, _, rfl, s02 _ _ hp, sFl_no _ _ (by decide +kernel) (by decide +kernel) (by decide +kernel) (by decide +kernel), _, rfl, x, a, d, b, pt, rfl, hb2, S.same s02, s02 _ _ ha, hpa, by rw [hpa.1]; omega, fun H3 s3 => ⟨s2.trans s3, some (.ref a), rfl⟩⟩
    · rintro σ H2 ⟨s2, v, rfl⟩
      have s02 := s0.trans s2
      refine ⟨_, rfl, _, rfl, [tl, th], [iV lo, iV hi'], rfl, ⟨Nat.le_refl 2, (by decide : 2 ≤ 4)⟩, .cons (.inl (.inl (s02 _ _ hl))) (.cons (.inl (.inl (s02 _ _ hh))) .nil), fun D hD => lc_zip (cols2 hpl.1 hph.1) (fun i H3 => Same H2 H3 ∧ H3 D = some (.lst ((List.replicate i true).map V.bl))) ⟨same_upd hD, upd_same⟩
        (fun i H3 ⟨s3, _⟩ => .cons (.inl (.inl (s3 _ _ (s02 _ _ hl)))) (.cons (.inl (.inl (s3 _ _ (s02 _ _ hh)))) .nil)) ?_ ?_⟩
      · rintro i c H3 hi ⟨s3, h3⟩ hc
        refine ⟨c, _, rfl, .inl (.inl upd_same), rfl, _, _, rfl, _, _, rfl, rfl, rfl, _, rfl, _, rfl, _, _, rfl, rfl, ?_⟩
        have e : V.bl (decide (((lo.getD i 0 : Nat) : Int) ≤ ((hi'.getD i 0 : Nat) : Int))) = V.bl true := congrArg V.bl (decide_eq_true (by have := hle i hi; omega))
        have hDc : D ≠ c := ne_of_none h3 hc
        refine ⟨_, (upd_ne hDc).trans h3, ?_, same_at (same_more s3 hc) hD, ?_⟩
        · rw [List.length_map, List.length_replicate]
          exact small1000 (by omega)
        · refine upd_same.trans ?_
          rw [← bl_snoc]
          exact congrArg (fun z => some (HO.lst (((List.replicate i true).map V.bl) ++ [z]))) e
      · rintro H3 ⟨s3, h3⟩
        refine ⟨D, _, rfl, .inl (.inl h3), _, rfl, ?_⟩
        rw [show (List.replicate d true).all id = true from by simp]
        have s03 := s02.trans s3
        refine iteF ?_
        refine ⟨_, rfl, _, rfl, y, CB, dy, _, rfl, s03 _ _ hy, T.clB, T.bSpace, by decide, ?_⟩
        refine ⟨_, rfl, _, rfl, y, CB, dy, _, rfl, upd_same, T.clB, T.bLows, put1, ?_⟩
        refine ⟨_, rfl, _, rfl, y, CB, dy, _, rfl, upd_same, T.clB, T.bHighs, put2, ?_⟩
        refine q _ upd_same fun r o hr e => ?_
        rw [upd_ne hr, upd_ne hr, upd_ne hr]
        exact s03 _ _ e
end
end FC

set_option Elab.async false
set_option linter.all false
set_option maxRecDepth 100000
set_option maxHeartbeats 4000000
/-! boxes: holds, room; prefixes -/
namespace FC
open PySem PySem.Spec PyProof.Rows L2 ZN
def spHolds (CB : Addr) : Sp := fun vs H Q _ => ∃ (y x t : Addr) (d : Nat) (lo hi pt : List Nat), vs = [.ref y, .ref t] ∧ d ≤ 3 ∧ BoxAt CB H y x lo hi ∧ TupAt H t pt ∧ lo.length = d ∧ hi.length = d ∧ pt.length = d ∧ ∀ H', Same H H' → Q (.bl (holdsB lo pt hi)) H'
def spRoom (CS CB : Addr) : Sp := fun vs H Q _ => ∃ (y x a : Addr) (d b l n : Nat) (lo hi : List Nat), vs = [.ref y, .ref a] ∧ (1 ≤ d ∧ d ≤ 3 ∧ 1 ≤ b ∧ b ≤ 10) ∧ BoxAt CB H y x lo hi ∧ SpaceAt CS H x d b ∧ IsPt d b lo ∧ IsPt d b hi ∧ PreAt H a l n ∧ l ≤ d * b ∧ n < 2 ^ 40 ∧
  ∀ H', Same H H' → Q (.int ((room d b lo hi l n : Nat) : Int)) H'
def spInside : Sp := fun vs H Q _ => ∃ (a c : Addr) (l n l' n' : Nat), vs = [.ref a, .ref c] ∧ PreAt H a l n ∧ PreAt H c l' n' ∧ l ≤ 29 ∧ Q (.bl (decide (l' ≤ l ∧ n / 2 ^ (l - l') = n'))) H
theorem bls_snoc (f : Nat → Bool) (i : Nat) : ((List.range i).map f).map V.bl ++ [V.bl (f i)] = ((List.range (i + 1)).map f).map V.bl := by
  rw [List.range_succ, List.map_append, List.map_append]
  rfl
section
variable {P : Program} {w : World} {K : PySem.W.Frag} {mg : Str → Option Value} {base : Heap} {CS CB : Addr}
theorem scHolds : FnScope ["self", "point", "low", "number", "high"] ["self", "point"] (defScope sHolds) := ⟨rfl, rfl, rfl, by decide +kernel, rfl, by decide +kernel, by decide +kernel⟩
theorem ok_holds {f : Addr} {fd : FuncData} (F : Fun K "holds" "Box.holds" sHolds f fd) (T : Txt K mg CS CB) : FnOk P w K mg base CX0 1 f fd ["self", "point"] (spHolds CB) := by
  refine F.ok scHolds (fun vs H Q E h => ?_) (fun cdv A outer s H vs Q E hr h => ?_)
  · obtain ⟨y, x, t, d, lo, hi', pt, rfl, _⟩ := h
    rfl
  · obtain ⟨y, x, t, d, lo, hi', pt, rfl, hd, ⟨dx, tl, th, hy, hl, hh⟩, ht, ll, lh, lp, q⟩ := h
    refine ⟨_, pss_one (ps_ret (pe_callB (cr_all rfl) (by rfl) T.all (by decide +kernel) (pa_cons (pe_lc (own := [("low", 2), ("number", 3), ("high", 4)]) (g := gTup K 3 (gCons (gName 2) (gCons (gName 3) (gCons (gName 4) gNil)))) (tt := tYes) rfl scHolds.nd
        (pi_zipT (by rfl) T.zip (pa_cons (pe_fld (pv 0) rfl) (pa_cons (pv 1) (pa_cons (pe_fld (pv 0) rfl) pa_nil))))
        (blkOk_by (N := ["self", "point", "low", "number", "high"]) (sc := defScope sHolds) (by decide +kernel))
        (fun _ _ _ _ _ => pg_tup rfl (pgs_cons (pg_name (i := 2) scHolds.nd rfl (Or.inl rfl)) (pgs_cons (pg_name (i := 3) scHolds.nd rfl (Or.inl rfl)) (pgs_cons (pg_name (i := 4) scHolds.nd rfl (Or.inl rfl)) pgs_nil)))) (fun _ _ _ _ _ => pts_nil)
        (fun _ _ _ _ _ => pe_chain op_le op_le (pv 2) (pv 3) (pv 4))) pa_nil))), ?_⟩
    refine ⟨_, rfl, y, CB, dx, _, _, rfl, hy, T.clB, T.bLows, bFl_lows _ _ _, _, rfl, _, rfl, y, CB, dx, _, _, rfl, hy, T.clB, T.bHighs, bFl_highs _ _ _, [tl, t, th], [iV lo, iV pt, iV hi'], rfl, ⟨(by decide : 2 ≤ 3), (by decide : 3 ≤ 4)⟩,
      .cons (.inl (.inl hl)) (.cons (.inl (.inl ht)) (.cons (.inl (.inl hh)) .nil)), fun D hD => lc_zip (cols3 ll lp lh) (fun i H3 => Same H H3 ∧ H3 D = some (.lst (((List.range i).map (hAt lo pt hi')).map V.bl))) ⟨same_upd hD, upd_same⟩
        (fun i H3 ⟨s3, _⟩ => .cons (.inl (.inl (s3 _ _ hl))) (.cons (.inl (.inl (s3 _ _ ht))) (.cons (.inl (.inl (s3 _ _ hh))) .nil))) ?_ ?_⟩
    · rintro i c H3 hi ⟨s3, h3⟩ hc
      have hDc : D ≠ c := ne_of_none h3 hc
      have fin : ∀ z : Bool, z = hAt lo pt hi' i → ∃ acc, upd H3 c (.tup [nV lo i, nV pt i, nV hi' i]) D = some (.lst acc) ∧ acc.length < sizeLine ∧ (Same H (upd (upd H3 c (.tup [nV lo i, nV pt i, nV hi' i])) D (.lst (acc ++ [V.bl z]))) ∧ upd (upd H3 c (.tup [nV lo i, nV pt i, nV hi' i])) D (.lst (acc ++ [V.bl z])) D = some (.lst (((List.range (i + 1)).map (hAt lo pt hi')).map V.bl))) := by
        rintro z rfl
        refine ⟨_, (upd_ne hDc).trans h3, ?_, same_at (same_more s3 hc) hD, ?_⟩
        · rw [List.length_map, List.length_map, List.length_range]
          exact small1000 (by omega)
        · rw [bls_snoc]
          exact upd_same
      refine ⟨c, _, rfl, .inl (.inl upd_same), rfl, _, _, rfl, _, _, rfl, _, _, rfl, rfl, rfl, _, rfl, _, rfl, _, _, rfl, rfl, _, rfl, ?_⟩
      by_cases h1 : lo.getD i 0 ≤ pt.getD i 0
      · refine ite2 (fun _ => ?_) fun h => absurd (decide_eq_true (show ((lo.getD i 0 : Nat) : Int) ≤ ((pt.getD i 0 : Nat) : Int) by omega)) h
        refine ⟨_, rfl, _, _, rfl, rfl, ?_⟩
        refine fin _ ?_
        unfold hAt
        rw [decide_eq_true h1, Bool.true_and]
        exact decide_eq_decide.mpr (by omega)
      · refine ite2 (fun h => absurd (of_decide_eq_true h) (show ¬ ((lo.getD i 0 : Nat) : Int) ≤ ((pt.getD i 0 : Nat) : Int) by omega)) fun _ => ?_
        refine fin _ ?_
        unfold hAt
        rw [decide_eq_false h1, Bool.false_and]
    · rintro H3 ⟨s3, h3⟩
      refine ⟨D, _, rfl, .inl (.inl h3), ?_⟩
      rw [holds_range d lo pt hi' ll lp lh]
      exact q _ s3
theorem scInside : FnScope ["prefix", "other"] ["prefix", "other"] (defScope sInside) := ⟨rfl, rfl, rfl, by decide +kernel, rfl, by decide +kernel, by decide +kernel⟩
theorem ok_inside {f fP : Addr} {fd fdP : FuncData} (F : Fun K "is_inside" "is_inside" sInside f fd) (T : Txt K mg CS CB)
    (GP : FnOk P w K mg base CX0 1 fP fdP ["times"] spPower) (mP : mg "power" = some (.ref fP)) (kP : PySem.W.keepIn K (.ref fP) = true) (bP : Binds K fdP ["times"] []) :
    FnOk P w K mg base CX0 2 f fd ["prefix", "other"] spInside := by
  refine F.ok scInside (fun vs H Q E h => ?_) (fun cdv A outer s H vs Q E hr h => ?_)
  · obtain ⟨a, c, l, n, l', n', rfl, _⟩ := h
    rfl
  · obtain ⟨a, c, l, n, l', n', rfl, ha, hc, hl, q⟩ := h
    refine ⟨_, pss_one (ps_ret (pe_and (pe_cmpR op_ge (pe_ix ix_tup (pv 0) pe_int (fun _ _ => rfl)) (pe_ix ix_tup (pv 1) pe_int (fun _ _ => rfl)) (nomark _))
      (pe_one (pe_cmpR op_eq (pe_op op_fdivN (pe_ix ix_tup (pv 0) pe_int (fun _ _ => rfl)) (pe_call GP hr rfl mP kP bP .nil pass0 (pa_cons (pe_op op_sub (pe_ix ix_tup (pv 0) pe_int (fun _ _ => rfl)) (pe_ix ix_tup (pv 1) pe_int (fun _ _ => rfl))) pa_nil)))
        (pe_ix ix_tup (pv 1) pe_int (fun _ _ => rfl)) (nomark _))))), ?_⟩
    refine ⟨_, rfl, a, _, 0, _, rfl, rfl, .inl (.inl ha), at_of (j := 0) rfl rfl, _, rfl, c, _, 0, _, rfl, rfl, .inl (.inl hc), at_of (j := 0) rfl rfl, _, _, rfl, rfl, _, rfl, ?_⟩
    by_cases h1 : l' ≤ l
    · refine ite2 (fun _ => ?_) fun h => absurd (decide_eq_true (show ((l' : Nat) : Int) ≤ ((l : Nat) : Int) by omega)) h
      have hp1 : 2 ^ (l - l') ≤ 2 ^ 29 := Nat.pow_le_pow_right (by decide) (by omega)
      have hp2 := Nat.two_pow_pos (l - l')
      refine ⟨_, rfl, a, _, 1, _, rfl, rfl, .inl (.inl ha), at_of (j := 1) rfl rfl, _, rfl, a, _, 0, _, rfl, rfl, .inl (.inl ha), at_of (j := 0) rfl rfl, _, rfl, c, _, 0, _, rfl, rfl, .inl (.inl hc), at_of (j := 0) rfl rfl, _, _, rfl, rfl, l - l', ?_, by omega, _, _, rfl, rfl, ⟨by omega, by rw [Int.natAbs_natCast]; omega⟩, _, rfl, c, _, 1, _, rfl, rfl, .inl (.inl hc), at_of (j := 1) rfl rfl, rfl, ?_⟩
      · have e : ((l : Nat) : Int) - ((l' : Nat) : Int) = ((l - l' : Nat) : Int) := by omega
        exact congrArg (fun z => [V.int z]) e
      · have e : decide (V.int ((n : Int).fdiv ((2 ^ (l - l') : Nat) : Int)) = V.int (n' : Int)) = decide (l' ≤ l ∧ n / 2 ^ (l - l') = n') := by
          refine decide_eq_decide.mpr ⟨fun h => ⟨h1, ?_⟩, fun h => ?_⟩
          · have h' := V.int.inj h
            rw [fd_nat] at h'
            omega
          · rw [fd_nat, h.2]
        rw [← e] at q
        exact q
    · refine ite2 (fun h => absurd (of_decide_eq_true h) (show ¬ ((l' : Nat) : Int) ≤ ((l : Nat) : Int) by omega)) fun _ => ?_
      rw [show decide (l' ≤ l ∧ n / 2 ^ (l - l') = n') = false from decide_eq_false fun h => h1 h.1] at q
      exact q
end
end FC

set_option Elab.async false
set_option linter.all false
set_option maxRecDepth 100000
set_option maxHeartbeats 4000000
/-! boxes: room, prefixes -/
namespace FC
open PySem PySem.Spec PyProof.Rows L2 ZN
theorem getD_lt {p : List Nat} {n s : Nat} (h : p.length = n) (hs : ∀ x ∈ p, x < s) {i : Nat} (hi : i < n) : p.getD i 0 < s := by
  rw [List.getD_eq_getElem?_getD, List.getElem?_eq_getElem (by omega)]
  exact hs _ (List.getElem_mem _)
abbrev ovI (l h f t : Int) : Int := if (if t < h then t else h) - (if f > l then f else l) + 1 > 0 then (if t < h then t else h) - (if f > l then f else l) + 1 else 0
theorem over_int (l h f t : Nat) : ovI (l : Int) (h : Int) (f : Int) (t : Int) = ((over l h f t : Nat) : Int) := by
  unfold over ovI
  split <;> split <;> split <;> omega
section
variable {P : Program} {w : World} {K : PySem.W.Frag} {mg : Str → Option Value} {base : Heap} {CS CB : Addr}
theorem scRoom : FnScope ["self", "prefix", "lows", "highs", "found", "low", "high", "first", "last"] ["self", "prefix"] (defScope sRoom) := ⟨rfl, rfl, rfl, by decide +kernel, rfl, by decide +kernel, by decide +kernel⟩
theorem ok_room {f fC : Addr} {fd fdC : FuncData} (F : Fun K "room" "Box.room" sRoom f fd) (T : Txt K mg CS CB)
    (GC : FnOk P w K mg base CX0 3 fC fdC ["self", "prefix"] (spCell CS)) (mC : Meth K CS "cell" fC) (bC : Binds K fdC ["self", "prefix"] []) :
    FnOk P w K mg base CX0 4 f fd ["self", "prefix"] (spRoom CS CB) := by
  refine F.ok scRoom (fun vs H Q E h => ?_) (fun cdv A outer s H vs Q E hr h => ?_)
  · obtain ⟨y, x, a, d, b, l, n, lo, hi', rfl, _⟩ := h
    rfl
  · obtain ⟨y, x, a, d, b, l, n, lo, hi', rfl, hdb, ⟨dy, tl, th, hy, hl, hh⟩, S, hpl, hph, ha, hld, hn, q⟩ := h
    obtain ⟨dx, hp⟩ := id S
    obtain ⟨hd1, hd3, hb1, hb2⟩ := id hdb
    have hs : 2 ^ b ≤ 1024 := Nat.pow_le_pow_right (by decide) hb2
    have lf : (cellLo d b l n).length = d := po_len _ _ _ _
    have lt : (cellHi d b l n).length = d := po_len _ _ _ _
    refine ⟨_, pss_cons (ps_asg (pe_meth (pe_fld (pv 0) rfl) T.clS mC GC hr bC .nil pass0 (pa_cons (pv 1) pa_nil)) (pg_tup (by rfl) (pgs_cons (pg_name (i := 2) scRoom.nd rfl (Or.inl rfl)) (pgs_cons (pg_name (i := 3) scRoom.nd rfl (Or.inl rfl)) pgs_nil))))
      (pss_cons (ps_set (i := 4) scRoom.nd rfl (Or.inl rfl) pe_int)
      (pss_cons (ps_for PassesOwn.never rfl (pi_zipT (by rfl) T.zip (pa_cons (pe_fld (pv 0) rfl) (pa_cons (pe_fld (pv 0) rfl) (pa_cons (pv 2) (pa_cons (pv 3) pa_nil)))))
          (pg_tup rfl (pgs_cons (pg_name (i := 5) scRoom.nd rfl (Or.inl rfl)) (pgs_cons (pg_name (i := 6) scRoom.nd rfl (Or.inl rfl)) (pgs_cons (pg_name (i := 7) scRoom.nd rfl (Or.inl rfl)) (pgs_cons (pg_name (i := 8) scRoom.nd rfl (Or.inl rfl)) pgs_nil)))))
        (pss_one (ps_set (i := 4) scRoom.nd rfl (Or.inl rfl) (pe_op op_mul (pv 4) (pe_callB (call_max2 rfl) (by rfl) T.max (by decide +kernel) (pa_cons pe_int (pa_cons (pe_op op_add (pe_op op_sub (pe_callB (call_min2 rfl) (by rfl) T.min (by decide +kernel) (pa_cons (pv 6) (pa_cons (pv 8) pa_nil)))
          (pe_callB (call_max2 rfl) (by rfl) T.max (by decide +kernel) (pa_cons (pv 5) (pa_cons (pv 7) pa_nil)))) pe_int) pa_nil)))))))
      (pss_one (ps_ret (pv 4))))), ?_⟩
    refine ⟨_, rfl, y, CB, dy, _, _, rfl, hy, T.clB, T.bSpace, bFl_space _ _ _, x, dx, _, rfl, hp, sFl_no _ _ (by decide +kernel) (by decide +kernel) (by decide +kernel) (by decide +kernel), _, rfl, x, a, d, b, l, n, rfl, hdb, S, ha, hld, hn, fun H1 c tf tt s1 _ hc hf ht => ?_⟩
    refine ⟨c, _, rfl, .inl (.inl hc), rfl, _, _, rfl, _, _, rfl, rfl, ?_⟩
    refine ⟨_, rfl, y, CB, dy, _, _, rfl, s1 _ _ hy, T.clB, T.bLows, bFl_lows _ _ _, _, rfl, y, CB, dy, _, _, rfl, s1 _ _ hy, T.clB, T.bHighs, bFl_highs _ _ _, _, rfl, _, rfl, [tl, th, tf, tt], [iV lo, iV hi', iV (cellLo d b l n), iV (cellHi d b l n)], rfl, ⟨(by decide : 2 ≤ 4), (by decide : 4 ≤ 4)⟩,
      .cons (.inl (.inl (s1 _ _ hl))) (.cons (.inl (.inl (s1 _ _ hh))) (.cons (.inl (.inl hf)) (.cons (.inl (.inl ht)) .nil))), for_zip (cols4 hpl.1 hph.1 lf lt) (fun i σ H2 => Same H1 H2 ∧ ∃ v5 v6 v7 v8, σ = [some (.ref y), some (.ref a), some (.ref tf), some (.ref tt), some (.int (((List.range i).foldl (fun acc j => acc * oAt lo hi' (cellLo d b l n) (cellHi d b l n) j) 1 : Nat) : Int)), v5, v6, v7, v8])
      ⟨Same.refl _, none, none, none, none, rfl⟩ (fun i σ H2 ⟨s2, _⟩ => .cons (.inl (.inl (s2 _ _ (s1 _ _ hl)))) (.cons (.inl (.inl (s2 _ _ (s1 _ _ hh)))) (.cons (.inl (.inl (s2 _ _ hf))) (.cons (.inl (.inl (s2 _ _ ht))) .nil)))) ?_ ?_⟩
    · rintro i c' σ H2 hi ⟨s2, v5, v6, v7, v8, rfl⟩ hc'
      have hlo := getD_lt hpl.1 hpl.2 hi
      have hhi := getD_lt hph.1 hph.2 hi
      refine ⟨c', _, rfl, .inl (.inl upd_same), rfl, _, _, rfl, _, _, rfl, _, _, rfl, _, _, rfl, rfl, ?_⟩
      refine ⟨_, rfl, _, rfl, _, rfl, _, _, rfl, _, rfl, _, rfl, _, _, rfl, _, _, rfl, rfl, _, _, rfl, rfl, _, _, rfl, _, _, rfl, rfl, .inr ?_, ?_⟩
      · have e := over_int (lo.getD i 0) (hi'.getD i 0) ((cellLo d b l n).getD i 0) ((cellHi d b l n).getD i 0)
        have b1 : over (lo.getD i 0) (hi'.getD i 0) ((cellLo d b l n).getD i 0) ((cellHi d b l n).getD i 0) ≤ 1024 := by unfold over; omega
        show -(2 ^ 64) < ovI _ _ _ _ ∧ ovI _ _ _ _ < 2 ^ 64
        rw [e]
        omega
      · refine ⟨same_more s2 hc', some (nV lo i), some (nV hi' i), some (nV (cellLo d b l n) i), some (nV (cellHi d b l n) i), ?_⟩
        have e : (((List.range i).foldl (fun acc j => acc * oAt lo hi' (cellLo d b l n) (cellHi d b l n) j) 1 : Nat) : Int) * ovI ((lo.getD i 0 : Nat) : Int) ((hi'.getD i 0 : Nat) : Int) (((cellLo d b l n).getD i 0 : Nat) : Int) (((cellHi d b l n).getD i 0 : Nat) : Int) =
            (((List.range (i + 1)).foldl (fun acc j => acc * oAt lo hi' (cellLo d b l n) (cellHi d b l n) j) 1 : Nat) : Int) := by
          rw [over_int, List.range_succ, List.foldl_append]
          exact (Int.natCast_mul _ _).symm
        exact congrArg (fun z => [some (V.ref y), some (V.ref a), some (V.ref tf), some (V.ref tt), some (V.int z), some (nV lo i), some (nV hi' i), some (nV (cellLo d b l n) i), some (nV (cellHi d b l n) i)]) e
    · rintro σ H2 ⟨s2, v5, v6, v7, v8, rfl⟩
      refine ⟨_, rfl, ?_⟩
      have e := room_range d lo hi' (cellLo d b l n) (cellHi d b l n) 1 hpl.1 hph.1 lf lt
      rw [Nat.one_mul] at e
      rw [e]
      exact q _ (s1.trans s2)
/-! ### prefixes_of -/
abbrev pL (q : Nat × Nat) : List Nat := [q.1, q.2]
def wt : Nat × Nat → Nat := fun q => 2 ^ (q.1 + 1) - 1
def wts (ws : List (Nat × Nat)) : Nat := (ws.map wt).sum
def spPrefixes (CS CB : Addr) : Sp := fun vs H Q _ => ∃ (y x : Addr) (d b : Nat) (lo hi : List Nat), vs = [.ref y] ∧ (1 ≤ d ∧ d ≤ 3 ∧ 1 ≤ b ∧ b ≤ 10) ∧ d * b ≤ 8 ∧ BoxAt CB H y x lo hi ∧ SpaceAt CS H x d b ∧ IsPt d b lo ∧ IsPt d b hi ∧ (∀ n, n < 2 ^ (d * b) → room d b lo hi (d * b) n ≤ 1) ∧
  ∀ H' L as, Same H H' → H' L = some (.lst (as.map V.ref)) → TupsAt H' as ((pf (room d b lo hi) (d * b) (d * b) 0).map pL) → Q (.ref L) H'
theorem tups_upd {H : Hp} {as : List Addr} {ps : List (List Nat)} {L : Addr} {xs ys : List V} (t : TupsAt H as ps) (h : H L = some (.lst xs)) : TupsAt (upd H L (.lst ys)) as ps := Paired.mapP t fun a p e => by
  have hne : a ≠ L := fun z => by
    rw [z] at e
    have e' : H L = some (.tup (iV p)) := e
    rw [h] at e'
    cases e'
  show upd H L _ a = _
  rw [upd_ne hne]
  exact e
theorem tups_last {H : Hp} : ∀ {as : List Addr} {ps : List (List Nat)} {p : List Nat}, TupsAt H as (ps ++ [p]) → ∃ as' a, as = as' ++ [a] ∧ TupsAt H as' ps ∧ TupAt H a p
  | _, [], p, .cons r t => by
    cases t
    exact ⟨[], _, rfl, .nil, r⟩
  | _, q :: ps, p, .cons r t => by
    obtain ⟨as', a, rfl, h1, h2⟩ := tups_last t
    exact ⟨_ :: as', a, rfl, .cons r h1, h2⟩
theorem pf_full {r : Nat → Nat → Nat} {D : Nat} : ∀ {k n : Nat}, r (D - k) n = 2 ^ k → pf r D k n = [(D - k, n)]
  | 0, n, h => by unfold pf; rw [Nat.sub_zero] at h; rw [if_pos h, Nat.sub_zero]
  | k + 1, n, h => by unfold pf; rw [if_pos h]
theorem pf_none {r : Nat → Nat → Nat} {D : Nat} : ∀ {k n : Nat}, r (D - k) n = 0 → pf r D k n = []
  | 0, n, h => by unfold pf; rw [Nat.sub_zero] at h; rw [if_neg (by omega)]
  | k + 1, n, h => by
    unfold pf
    have := Nat.two_pow_pos (k + 1)
    rw [if_neg (by omega), if_pos h]
theorem pf_split {r : Nat → Nat → Nat} {D k n : Nat} (h1 : r (D - (k + 1)) n ≠ 2 ^ (k + 1)) (h0 : r (D - (k + 1)) n ≠ 0) : pf r D (k + 1) n = pf r D k (2 * n) ++ pf r D k (2 * n + 1) := by
  rw [pf, if_neg h1, if_neg h0]
theorem wts_snoc (ws : List (Nat × Nat)) (q : Nat × Nat) : wts (ws ++ [q]) = wts ws + wt q := by
  unfold wts
  rw [List.map_append, List.sum_append]
  simp
theorem len_wts : ∀ ws : List (Nat × Nat), ws.length ≤ wts ws
  | [] => Nat.le_refl _
  | q :: ws => by
    have h := len_wts ws
    have h2 : 2 ^ 1 ≤ 2 ^ (q.1 + 1) := Nat.pow_le_pow_right (by decide) (by omega)
    show ws.length + 1 ≤ (((q :: ws).map wt).sum)
    rw [List.map_cons, List.sum_cons]
    show ws.length + 1 ≤ (2 ^ (q.1 + 1) - 1) + wts ws
    omega
theorem scPrefixes : FnScope ["box", "found", "waiting", "prefix", "inside"] ["box"] (defScope sPrefixes) := ⟨rfl, rfl, rfl, by decide +kernel, rfl, by decide +kernel, by decide +kernel⟩
theorem ok_prefixes {f fR fZ : Addr} {fd fdR fdZ : FuncData} (F : Fun K "prefixes_of" "prefixes_of" sPrefixes f fd) (T : Txt K mg CS CB)
    (GR : FnOk P w K mg base CX0 4 fR fdR ["self", "prefix"] (spRoom CS CB)) (mR : Meth K CB "room" fR) (bR : Binds K fdR ["self", "prefix"] [])
    (GZ : FnOk P w K mg base CX0 2 fZ fdZ ["self", "prefix"] (spSize CS)) (mZ : Meth K CS "size" fZ) (bZ : Binds K fdZ ["self", "prefix"] []) :
    FnOk P w K mg base CX0 5 f fd ["box"] (spPrefixes CS CB) := by
  refine F.ok scPrefixes (fun vs H Q E h => ?_) (fun cdv A outer s H vs Q E hr h => ?_)
  · obtain ⟨y, x, d, b, lo, hi', rfl, _⟩ := h
    rfl
  · obtain ⟨y, x, d, b, lo, hi', rfl, hdb, hD, hB, S, hpl, hph, hone, q⟩ := h
    obtain ⟨dy, tl, th, hy, _, _⟩ := id hB
    obtain ⟨dx, hp⟩ := id S
    have hr2 : Room 2 _ := hr.mono (by decide)
    refine ⟨_, pss_cons (ps_par (i := 1) (j := 2) (by rfl) scPrefixes.nd rfl rfl (by decide) rfl rfl (pa_cons (pe_lst pa_nil) (pa_cons (pe_lst (pa_cons (pe_tup (pa_cons pe_int (pa_cons pe_int pa_nil))) pa_nil)) pa_nil)) (by rfl))
      (pss_cons (ps_while PassesOwn.never (pt_cmpR (op_neD hr.units) (pv 2) (pe_lst pa_nil) (nomark _))
        (pss_cons (ps_set (i := 3) scPrefixes.nd rfl (Or.inl rfl) (pe_bm0 PySem.F.plainAttrs_list PySem.F.slot_list_pop PySem.F.type_list_pop mt_pop (pv 2)))
        (pss_cons (ps_set (i := 4) scPrefixes.nd rfl (Or.inl rfl) (pe_meth (pv 0) T.clB mR GR hr bR .nil pass0 (pa_cons (pv 3) pa_nil)))
        (pss_one (ps_if (pt_cmpR op_eq (pv 4) (pe_meth (pe_fld (pv 0) rfl) T.clS mZ GZ hr2 bZ .nil pass0 (pa_cons (pv 3) pa_nil)) (nomark _))
          (pss_one (ps_expr (pe_bm PySem.F.plainAttrs_list PySem.F.slot_list_append PySem.F.type_list_append mt_append (pv 1) (pa_cons (pv 3) pa_nil))))
          (pss_one (ps_if (pt_cmpR op_gt (pv 4) pe_int (nomark _))
            (pss_cons (ps_expr (pe_bm PySem.F.plainAttrs_list PySem.F.slot_list_append PySem.F.type_list_append mt_append (pv 2) (pa_cons (pe_tup (pa_cons (pe_op op_add (pe_ix ix_tup (pv 3) pe_int (fun _ _ => rfl)) pe_int) (pa_cons (pe_op op_add (pe_op op_mul (pe_ix ix_tup (pv 3) pe_int (fun _ _ => rfl)) pe_int) pe_int) pa_nil))) pa_nil)))
            (pss_one (ps_expr (pe_bm PySem.F.plainAttrs_list PySem.F.slot_list_append PySem.F.type_list_append mt_append (pv 2) (pa_cons (pe_tup (pa_cons (pe_op op_add (pe_ix ix_tup (pv 3) pe_int (fun _ _ => rfl)) pe_int) (pa_cons (pe_op op_mul (pe_ix ix_tup (pv 3) pe_int (fun _ _ => rfl)) pe_int) pa_nil))) pa_nil)))))
            pss_nil)))))))
      (pss_one (ps_ret (pv 1)))), ?_⟩
    refine ⟨by show 0 ≤ sizeLine; exact Nat.zero_le _, fun L1 hL1 => ⟨by show 2 ≤ sizeLine; decide, fun t0 ht0 => ⟨by show 1 ≤ sizeLine; decide, fun L2 hL2 => ⟨_, _, rfl, ?_⟩⟩⟩⟩
    have s1 : Same H (upd H L1 (.lst [])) := same_upd hL1
    have s2 : Same (upd H L1 (.lst [])) (upd (upd H L1 (.lst [])) t0 (.tup [V.int 0, V.int 0])) := same_upd ht0
    have s3 := s2.trans (same_upd (o := .lst [V.ref t0]) hL2)
    have f1 : H L1 = none := hL1
    have f2 : H L2 = none := (s1.trans s2).free hL2
    have n12 : L1 ≠ L2 := ne_of_none (s2 _ _ upd_same) hL2
    generalize hr0 : room d b lo hi' = r at q hone
    generalize hDD : d * b = D at q hone hD
    refine ⟨fun m σ H2 => ∃ (fs ws : List (Nat × Nat)) (as1 as2 : List Addr) (v3 v4 : Option V), m = wts ws ∧ σ = [some (.ref y), some (.ref L1), some (.ref L2), v3, v4] ∧ Same H H2 ∧ H2 L1 = some (.lst (as1.map V.ref)) ∧ TupsAt H2 as1 (fs.map pL) ∧ H2 L2 = some (.lst (as2.map V.ref)) ∧
      TupsAt H2 as2 (ws.map fun q => [D - q.1, q.2]) ∧ (∀ q ∈ ws, q.1 ≤ D ∧ q.2 < 2 ^ (D - q.1)) ∧ fs ++ ws.reverse.flatMap (fun q => pf r D q.1 q.2) = pf r D D 0 ∧ wts ws ≤ 2 ^ (D + 1),
      ⟨_, [], [(D, 0)], [], [t0], none, none, rfl, rfl, s1.trans s3, s3 _ _ upd_same, .nil, upd_same, .cons ?_ .nil, ?_, ?_, ?_⟩, ?_⟩
    · show upd _ L2 _ t0 = some (.tup (iV [D - D, 0]))
      rw [Nat.sub_self, upd_ne (ne_of_none upd_same hL2)]
      exact upd_same
    · intro q hq
      rcases List.mem_cons.mp hq with rfl | hq
      · exact ⟨Nat.le_refl _, Nat.two_pow_pos _⟩
      · cases hq
    · simp
    · exact Nat.sub_le _ _
    rintro m σ H2 ⟨fs, ws, as1, as2, v3, v4, rfl, rfl, s02, hA1, tA1, hA2, tA2, hws, hinv, hm⟩
    refine ⟨_, rfl, by show 0 ≤ sizeLine; exact Nat.zero_le _, fun p0 hp0 => ?_⟩
    have s23 : Same H2 (upd H2 p0 (.lst [])) := same_upd hp0
    refine ⟨.list (dT (ws.map fun q => [D - q.1, q.2])), .list [], dp_tups (.inl (.inl (s23 _ _ hA2))) (tA2.same s23), .lst (.inl (.inl upd_same)) .nil, shaped_tups _, rfl, _, rfl, ?_⟩
    rw [eqv_nil_tups]
    rcases List.eq_nil_or_concat ws with rfl | ⟨ws', ⟨k, n⟩, rfl⟩
    · -- the end
      refine iteF ?_
      refine ⟨_, rfl, q _ L1 as1 (s02.trans s23) (s23 _ _ hA1) ?_⟩
      have e : fs = pf r D D 0 := by simpa using hinv
      rw [← e]
      exact tA1.same s23
    · rw [List.concat_eq_append] at tA2 hws hinv hm ⊢
      rw [List.map_append] at tA2
      obtain ⟨as2', a0, rfl, tA2', ha0⟩ := tups_last tA2
      obtain ⟨hk, hn⟩ := hws (k, n) (by simp)
      replace hk : k ≤ D := hk
      replace hn : n < 2 ^ (D - k) := hn
      have eW := wts_snoc ws' (k, n)
      have hkk : D - (D - k) = k := by omega
      have hn8 : 2 ^ (D - k) ≤ 2 ^ 8 := Nat.pow_le_pow_right (by decide) (by omega)
      have hlen := len_wts (ws' ++ [(k, n)])
      have hD9 : 2 ^ (D + 1) ≤ 2 ^ 9 := Nat.pow_le_pow_right (by decide) (by omega)
      have hflen : fs.length ≤ 2 ^ D := by
        have e := congrArg List.length hinv
        rw [List.length_append] at e
        have := pf_len r D D 0
        omega
      have hD8 : 2 ^ D ≤ 2 ^ 8 := Nat.pow_le_pow_right (by decide) hD
      have l1 : as1.length = fs.length := by
        have e := Paired.length tA1
        rw [List.length_map] at e
        exact e
      have l2 : as2'.length = ws'.length := by
        have e := Paired.length tA2'
        rw [List.length_map] at e
        exact e
      rw [List.length_append] at hlen
      have hw9 : ws'.length ≤ 512 := by
        have : ([(k, n)] : List (Nat × Nat)).length = 1 := rfl
        omega
      have e0 : decide (List.map (fun q : Nat × Nat => [D - q.1, q.2]) (ws' ++ [(k, n)]) = []) = false := decide_eq_false (by simp)
      rw [e0]
      refine iteT ⟨_, fun σ' H' hN => hN, ?_⟩
      -- prefix = waiting.pop()
      refine ⟨_, rfl, .inl ⟨rfl, _, .inl (.inl (s23 _ _ hA2))⟩, L2, _, .ref a0, rfl, rfl, s23 _ _ hA2, ?_, ?_⟩
      · rw [List.map_append, List.length_append]
        simp
      have edl : (List.map V.ref (as2' ++ [a0])).dropLast = as2'.map V.ref := by rw [List.map_append]; simp
      rw [edl]
      generalize hHc : upd (upd H2 p0 (.lst [])) L2 (.lst (as2'.map V.ref)) = Hc
      have sHc : Same H Hc := hHc ▸ same_at (s02.trans s23) f2
      have c1 : Hc L1 = some (.lst (as1.map V.ref)) := hHc ▸ (upd_ne n12).trans (s23 _ _ hA1)
      have c2 : Hc L2 = some (.lst (as2'.map V.ref)) := hHc ▸ upd_same
      have ct1 : TupsAt Hc as1 (fs.map pL) := hHc ▸ tups_upd (tA1.same s23) (s23 _ _ hA2)
      have ct2 : TupsAt Hc as2' (ws'.map fun q => [D - q.1, q.2]) := hHc ▸ tups_upd (tA2'.same s23) (s23 _ _ hA2)
      have ca : PreAt Hc a0 (D - k) n := by
        have z : TupsAt Hc [a0] [[D - k, n]] := hHc ▸ tups_upd (TupsAt.same (.cons ha0 .nil) s23) (s23 _ _ hA2)
        cases z with
        | cons r _ => exact r
      clear hHc
      -- inside = box.room(prefix)
      refine ⟨_, rfl, y, dy, _, rfl, sHc _ _ hy, bFl_no _ _ _ (by decide +kernel) (by decide +kernel) (by decide +kernel), _, rfl, y, x, a0, d, b, D - k, n, lo, hi', rfl, hdb, hB.same sHc, S.same sHc, hpl, hph, ca, by omega, by omega, fun H4 s4 => ?_⟩
      have er : room d b lo hi' (D - k) n = r (D - k) n := by rw [hr0]
      have sH4 := sHc.trans s4
      -- if inside == box.space.size(prefix)
      refine ⟨_, rfl, _, rfl, y, CB, dy, _, _, rfl, sH4 _ _ hy, T.clB, T.bSpace, bFl_space _ _ _, x, dx, _, rfl, sH4 _ _ hp, sFl_no _ _ (by decide +kernel) (by decide +kernel) (by decide +kernel) (by decide +kernel), _, rfl, x, a0, d, b, D - k, n, rfl, S.same sH4, by omega, s4 _ _ ca, by omega, rfl, _, rfl, ?_⟩
      have hpow := Nat.two_pow_pos k
      by_cases hfull : r (D - k) n = 2 ^ k
      · have e1 : V.int ((room d b lo hi' (D - k) n : Nat) : Int) = V.int ((2 ^ (d * b - (D - k)) : Nat) : Int) := by rw [er, hfull, hDD, hkk]
        refine ite2 (fun _ => ?_) fun h => absurd (decide_eq_true e1) h
        -- found.append(prefix)
        refine ⟨_, rfl, .inl ⟨rfl, _, .inl (.inl (s4 _ _ c1))⟩, _, rfl, L1, _, _, rfl, rfl, s4 _ _ c1, ?_, ?_⟩
        · rw [List.length_map]
          exact small1000 (by omega)
        have tl : TupsAt (upd H4 L1 (.lst (as1.map V.ref ++ [V.ref a0]))) as2' (ws'.map fun q => [D - q.1, q.2]) := tups_upd (ct2.same s4) (s4 _ _ c1)
        have tl1 : TupsAt (upd H4 L1 (.lst (as1.map V.ref ++ [V.ref a0]))) (as1 ++ [a0]) ((fs ++ [(D - k, n)]).map pL) := by
          rw [List.map_append]
          exact tups_upd (TupsAt.snoc (s4 _ _ ca) (ct1.same s4)) (s4 _ _ c1)
        refine ⟨wts ws', ?_, fs ++ [(D - k, n)], ws', as1 ++ [a0], as2', some (.ref a0), _, rfl, rfl, same_at sH4 f1, ?_, tl1, ?_, tl, fun q hq => hws q (List.mem_append_left _ hq), ?_, by omega⟩
        · have : wt (k, n) = 2 ^ (k + 1) - 1 := rfl
          rw [Nat.pow_succ] at this
          omega
        · rw [List.map_append]
          exact upd_same
        · exact (upd_ne n12.symm).trans (s4 _ _ c2)
        · rw [← hinv, List.reverse_append, List.flatMap_append, ← List.append_assoc]
          congr 2
          show [(D - k, n)] = [(k, n)].reverse.flatMap _
          have e := pf_full hfull
          simp [e]
      · refine ite2 (fun h => absurd (V.int.inj (of_decide_eq_true h)) (fun z => hfull (by rw [er, hDD, hkk] at z; exact Int.ofNat_inj.mp z))) fun _ => ?_
        refine ⟨_, rfl, _, _, rfl, rfl, _, rfl, ?_⟩
        by_cases h0 : r (D - k) n = 0
        · refine ite2 (fun h => absurd (of_decide_eq_true h) (by rw [er, h0]; decide)) fun _ => ?_
          refine ⟨wts ws', ?_, fs, ws', as1, as2', some (.ref a0), _, rfl, rfl, sH4, s4 _ _ c1, ct1.same s4, s4 _ _ c2, ct2.same s4, fun q hq => hws q (List.mem_append_left _ hq), ?_, by omega⟩
          · have : wt (k, n) = 2 ^ (k + 1) - 1 := rfl
            rw [Nat.pow_succ] at this
            omega
          · rw [← hinv, List.reverse_append, List.flatMap_append]
            have e := pf_none (D := D) h0
            simp [e]
        · refine ite2 (fun _ => ?_) fun h => absurd (decide_eq_true (show ((room d b lo hi' (D - k) n : Nat) : Int) > 0 by rw [er]; omega)) h
          obtain ⟨k', rfl⟩ : ∃ k', k = k' + 1 := by
            cases k with
            | zero =>
              have := hone n (by simpa using hn)
              rw [Nat.sub_zero] at h0 hfull
              rw [Nat.pow_zero] at hfull
              omega
            | succ k' => exact ⟨k', rfl⟩
          have sp := pf_split (D := D) hfull h0
          -- waiting.append((prefix[0] + 1, prefix[1] * 2 + 1))
          have ca4 := s4 _ _ ca
          refine ⟨_, rfl, .inl ⟨rfl, _, .inl (.inl (s4 _ _ c2))⟩, _, rfl, a0, _, 0, _, rfl, rfl, .inl (.inl ca4), at_of (j := 0) rfl rfl, _, _, rfl, rfl, _, rfl, a0, _, 1, _, rfl, rfl, .inl (.inl ca4), at_of (j := 1) rfl rfl, _, _, rfl, rfl, .inr (by decide), _, _, rfl, rfl, by show 2 ≤ sizeLine; decide, fun t1 ht1 => ?_⟩
          have s5 : Same H4 (upd H4 t1 (.tup [V.int (((D - (k' + 1) : Nat) : Int) + 1), V.int ((n : Int) * 2 + 1)])) := same_upd ht1
          have w1 : TupAt (upd H4 t1 (.tup [V.int (((D - (k' + 1) : Nat) : Int) + 1), V.int ((n : Int) * 2 + 1)])) t1 [D - k', 2 * n + 1] := by
            refine upd_same.trans ?_
            have e1 : ((D - (k' + 1) : Nat) : Int) + 1 = ((D - k' : Nat) : Int) := by omega
            have e2 : (n : Int) * 2 + 1 = ((2 * n + 1 : Nat) : Int) := by omega
            rw [e1, e2]
            rfl
          generalize upd H4 t1 (.tup [V.int (((D - (k' + 1) : Nat) : Int) + 1), V.int ((n : Int) * 2 + 1)]) = H5 at s5 w1 ⊢
          have c25 := s5 _ _ (s4 _ _ c2)
          refine ⟨L2, _, _, rfl, rfl, c25, by rw [List.length_map]; exact small1000 (by omega), ?_⟩
          have sH6 : Same H (upd H5 L2 (.lst (as2'.map V.ref ++ [V.ref t1]))) := same_at (sH4.trans s5) f2
          have k1 : upd H5 L2 (.lst (as2'.map V.ref ++ [V.ref t1])) L1 = some (.lst (as1.map V.ref)) := (upd_ne n12).trans (s5 _ _ (s4 _ _ c1))
          have k2 : upd H5 L2 (.lst (as2'.map V.ref ++ [V.ref t1])) L2 = some (.lst (as2'.map V.ref ++ [V.ref t1])) := upd_same
          have kt1 : TupsAt (upd H5 L2 (.lst (as2'.map V.ref ++ [V.ref t1]))) as1 (fs.map pL) := tups_upd ((ct1.same s4).same s5) c25
          have kt2 : TupsAt (upd H5 L2 (.lst (as2'.map V.ref ++ [V.ref t1]))) (as2' ++ [t1]) ((ws' ++ [(k', 2 * n + 1)]).map fun q => [D - q.1, q.2]) := by
            rw [List.map_append]
            exact tups_upd (TupsAt.snoc w1 ((ct2.same s4).same s5)) c25
          have ka : PreAt (upd H5 L2 (.lst (as2'.map V.ref ++ [V.ref t1]))) a0 (D - (k' + 1)) n := by
            have z : TupsAt (upd H5 L2 (.lst (as2'.map V.ref ++ [V.ref t1]))) [a0] [[D - (k' + 1), n]] := tups_upd (.cons (s5 _ _ ca4) .nil) c25
            cases z with
            | cons r _ => exact r
          generalize upd H5 L2 (.lst (as2'.map V.ref ++ [V.ref t1])) = H6 at sH6 k1 k2 kt1 kt2 ka ⊢
          -- waiting.append((prefix[0] + 1, prefix[1] * 2))
          refine ⟨_, rfl, .inl ⟨rfl, _, .inl (.inl k2)⟩, _, rfl, a0, _, 0, _, rfl, rfl, .inl (.inl ka), at_of (j := 0) rfl rfl, _, _, rfl, rfl, _, rfl, a0, _, 1, _, rfl, rfl, .inl (.inl ka), at_of (j := 1) rfl rfl, _, _, rfl, rfl, .inr (by decide), by show 2 ≤ sizeLine; decide, fun t2 ht2 => ?_⟩
          have s7 : Same H6 (upd H6 t2 (.tup [V.int (((D - (k' + 1) : Nat) : Int) + 1), V.int ((n : Int) * 2)])) := same_upd ht2
          have w2 : TupAt (upd H6 t2 (.tup [V.int (((D - (k' + 1) : Nat) : Int) + 1), V.int ((n : Int) * 2)])) t2 [D - k', 2 * n] := by
            refine upd_same.trans ?_
            have e1 : ((D - (k' + 1) : Nat) : Int) + 1 = ((D - k' : Nat) : Int) := by omega
            have e2 : (n : Int) * 2 = ((2 * n : Nat) : Int) := by omega
            rw [e1, e2]
            rfl
          generalize upd H6 t2 (.tup [V.int (((D - (k' + 1) : Nat) : Int) + 1), V.int ((n : Int) * 2)]) = H7 at s7 w2 ⊢
          have c27 := s7 _ _ k2
          refine ⟨L2, _, _, rfl, rfl, c27, ?_, ?_⟩
          · rw [List.length_append, List.length_map]
            show as2'.length + 1 < sizeLine
            exact small1000 (by omega)
          have ew : wts (ws' ++ [(k', 2 * n + 1), (k', 2 * n)]) = wts ws' + wt (k', 2 * n + 1) + wt (k', 2 * n) := by
            rw [show ws' ++ [(k', 2 * n + 1), (k', 2 * n)] = (ws' ++ [(k', 2 * n + 1)]) ++ [(k', 2 * n)] by simp, wts_snoc, wts_snoc]
          have w1' : wt (k', 2 * n + 1) = 2 ^ (k' + 1) - 1 := rfl
          have w2' : wt (k', 2 * n) = 2 ^ (k' + 1) - 1 := rfl
          have w3' : wt (k' + 1, n) = 2 ^ (k' + 1 + 1) - 1 := rfl
          have hpp := Nat.two_pow_pos (k' + 1)
          rw [Nat.pow_succ 2 (k' + 1)] at w3'
          refine ⟨wts (ws' ++ [(k', 2 * n + 1), (k', 2 * n)]), by omega, fs, ws' ++ [(k', 2 * n + 1), (k', 2 * n)], as1, as2' ++ [t1, t2], some (.ref a0), _, rfl, rfl, same_at (sH6.trans s7) f2, (upd_ne n12).trans (s7 _ _ k1), tups_upd (kt1.same s7) c27, ?_, ?_, ?_, ?_, by omega⟩
          · refine upd_same.trans ?_
            simp
          · have z : TupsAt (upd H7 L2 (.lst (as2'.map V.ref ++ [V.ref t1] ++ [V.ref t2]))) ((as2' ++ [t1]) ++ [t2]) (((ws' ++ [(k', 2 * n + 1)]).map fun q => [D - q.1, q.2]) ++ [[D - k', 2 * n]]) := tups_upd (TupsAt.snoc w2 (kt2.same s7)) c27
            simpa using z
          · intro q hq
            rcases List.mem_append.mp hq with hq | hq
            · exact hws q (List.mem_append_left _ hq)
            · have hb2 : 2 ^ (D - k') = 2 ^ (D - (k' + 1)) * 2 := by
                rw [← Nat.pow_succ]
                congr 1
                omega
              simp only [List.mem_cons, List.not_mem_nil, or_false] at hq
              rcases hq with rfl | rfl
              · exact ⟨by show k' ≤ D; omega, by show 2 * n + 1 < 2 ^ (D - k'); omega⟩
              · exact ⟨by show k' ≤ D; omega, by show 2 * n < 2 ^ (D - k'); omega⟩
          · rw [← hinv, List.reverse_append, List.reverse_append, List.flatMap_append, List.flatMap_append]
            simp [sp]
end
end FC

set_option Elab.async false
set_option linter.all false
set_option maxRecDepth 100000
set_option maxHeartbeats 4000000
/-! the law's own helpers: numbers drawn -/
namespace FC
open PySem PySem.Spec PyProof.Rows L2 FR
/-- what is drawn from: the list [script, how many were drawn] at dr -/
def Drw (K : PySem.W.Frag) (H : Hp) (dr : Addr) : Prop := ∃ (a : Addr) (j : Int) (ns : List Int), H dr = some (.lst [.ref a, .int j]) ∧ SqL K H a (ns.map V.int) ∧ ns.length ≤ 63
/-- all but dr is as it was -/
def But (dr : Addr) (H H' : Hp) : Prop := ∀ b o, b ≠ dr → H b = some o → H' b = some o
theorem Drw.same {K : PySem.W.Frag} {H H' : Hp} {dr : Addr} (h : Drw K H dr) (e : Same H H') : Drw K H' dr := let ⟨a, j, ns, h1, h2, h3⟩ := h; ⟨a, j, ns, e _ _ h1, e.seq h2, h3⟩
theorem But.refl (dr : Addr) (H : Hp) : But dr H H := fun _ _ _ e => e
theorem But.trans {dr : Addr} {H H1 H2 : Hp} (a : But dr H H1) (b : But dr H1 H2) : But dr H H2 := fun c o n e => b c o n (a c o n e)
theorem but_same {dr : Addr} {H H' : Hp} (e : Same H H') : But dr H H' := fun b o _ h => e b o h
/-- dr is tracked before and behind: what is new was new -/
theorem But.free {dr : Addr} {H H' : Hp} (e : But dr H H') {o : HO} (hd : H' dr = some o) {l : Addr} (h : H' l = none) : H l = none := by
  cases q : H l with
  | none => rfl
  | some u =>
    rw [e l u (fun z => by rw [z, hd] at h; cases h) q] at h
    cases h
theorem drw_some {K : PySem.W.Frag} {H : Hp} {dr : Addr} (h : Drw K H dr) : ∃ xs, H dr = some (.lst xs) := let ⟨_, _, _, h1, _⟩ := h; ⟨_, h1⟩
/-- a store elsewhere -/
theorem drw_upd {K : PySem.W.Frag} {H : Hp} {dr D : Addr} {xs ys : List V} (h : Drw K H dr) (hD : H D = some (.lst xs)) (hne : D ≠ dr) (hnum : ∀ ns : List Int, xs = ns.map V.int → ∃ ms : List Int, ys = ms.map V.int ∧ ms.length ≤ 63) : Drw K (upd H D (.lst ys)) dr := by
  obtain ⟨a, j, ns, h1, h2, h3⟩ := h
  have g1 : upd H D (.lst ys) dr = some (.lst [.ref a, .int j]) := (upd_ne (Ne.symm hne)).trans h1
  by_cases ha : a = D
  · subst ha
    rcases h2 with (h2 | ⟨o, h2⟩) | h2
    · rw [hD] at h2
      obtain ⟨ms, hy, hm⟩ := hnum ns (by injection h2 with h2; injection h2)
      exact ⟨a, j, ms, g1, .inl (.inl (by rw [upd_same, hy])), hm⟩
    · rw [hD] at h2
      cases h2
    · exact ⟨a, j, ns, g1, .inr h2, h3⟩
  · refine ⟨a, j, ns, g1, ?_, h3⟩
    rcases h2 with (h2 | ⟨o, h2⟩) | h2
    · exact .inl (.inl ((upd_ne ha).trans h2))
    · exact .inl (.inr ⟨o, (upd_ne ha).trans h2⟩)
    · exact .inr h2
def spNumber (K : PySem.W.Frag) : Sp := fun vs H Q _ => ∃ (a : Addr) (j : Int) (ns : List Int), vs = [.ref a, .int j] ∧ SqL K H a (ns.map V.int) ∧ ns.length ≤ 63 ∧ ∀ i H', Same H H' → Q (.int i) H'
def spTake (K : PySem.W.Frag) : Sp := fun vs H Q _ => ∃ (dr : Addr) (m : Int), vs = [.ref dr, .int m] ∧ 0 < m ∧ Drw K H dr ∧ ∀ (r : Nat) H', (r : Int) < m → But dr H H' → Drw K H' dr → Q (.int (r : Int)) H'
section
variable {P : Program} {w : World} {K : PySem.W.Frag} {mg : Str → Option Value} {base : Heap} {CS CB : Addr}
theorem scNumber : FnScope ["_law_script", "_law_index", "_law_cell", "_law_blend"] ["_law_script", "_law_index"] (defScope sNumber) := ⟨rfl, rfl, rfl, by decide +kernel, rfl, by decide +kernel, by decide +kernel⟩
theorem ok_number {f : Addr} {fd : FuncData} (F : Fun K "_law_number" "_law_number" sNumber f fd) (T : Txt K mg CS CB) : FnOk P w K mg base CX0 1 f fd ["_law_script", "_law_index"] (spNumber K) := by
  refine F.ok scNumber (fun vs H Q E h => ?_) (fun cdv A outer s H vs Q E hr h => ?_)
  · obtain ⟨a, j, ns, rfl, _⟩ := h
    rfl
  · obtain ⟨a, j, ns, rfl, hS, hl, q⟩ := h
    refine ⟨_, pss_cons (ps_if (pt_cmpR (op_eqD hr.units) (pv 0) (pe_lst pa_nil) (nomark _))
        (pss_one (ps_ret (pe_callTy call_int1 (by rfl) T.int (by decide +kernel) (pa_cons (pe_op op_mod (pe_op op_add (pe_op op_mul (pv 1) pe_int) pe_int) pe_int) pa_nil)))) pss_nil)
      (pss_cons (ps_set (i := 2) scNumber.nd rfl (Or.inl rfl) (pe_ix ix_list (pv 0) (pe_op op_modN (pv 1) (pe_callB call_len_seq (by rfl) T.len PySem.boot_len (pa_cons (pv 0) pa_nil))) (fun _ _ => rfl)))
      (pss_cons (ps_if (pt_cmpR op_ge (pe_callB call_abs (by rfl) T.abs (by decide +kernel) (pa_cons (pv 2) pa_nil)) (pe_op op_pow pe_int pe_int) (nomark _))
        (pss_one (ps_set (i := 2) scNumber.nd rfl (Or.inl rfl) (pe_op op_modN (pv 2) (pe_op op_pow pe_int pe_int)))) pss_nil)
      (pss_cons (ps_set (i := 3) scNumber.nd rfl (Or.inl rfl) (pe_op op_mod (pe_op op_add (pe_op op_mul (pe_op op_add (pv 2) (pe_op op_mul pe_int (pv 1))) pe_int) (pe_op op_mul pe_int (pe_callB call_len_seq (by rfl) T.len PySem.boot_len (pa_cons (pv 0) pa_nil)))) pe_int))
      (pss_one (ps_ret (pe_callTy call_int1 (by rfl) T.int (by decide +kernel) (pa_cons (pe_op op_mod (pe_op op_add (pe_op op_mul (pe_op op_mod (pe_op op_mul (pv 3) pe_int) pe_int) pe_int) (pv 1)) pe_int) pa_nil))))))), ?_⟩
    refine ⟨_, rfl, by show 0 ≤ sizeLine; exact Nat.zero_le _, fun p0 hp0 => ?_⟩
    have s1 : Same H (upd H p0 (.lst [])) := same_upd hp0
    refine ⟨.list (dZ ns), .list (dZ []), dp_ints (s1.seq hS), .lst (.inl (.inl upd_same)) .nil, shaped_ints _, rfl, _, rfl, ?_⟩
    rw [eqv_ints]
    refine ite2 (fun _ => ?_) (fun hne => ?_)
    · refine ⟨_, rfl, _, _, rfl, rfl, .inr (by decide), _, _, rfl, rfl, _, _, rfl, rfl, (by show (0 : Int) < 2147483647; decide), .inl ⟨_, rfl, ?_⟩⟩
      exact q _ _ s1
    have hne' : ns ≠ [] := fun z => hne (decide_eq_true z)
    have hpos : 0 < ns.length := List.length_pos_iff.mpr hne'
    have hS1 := s1.seq hS
    have hlen : ((ns.map V.int).length : Int) = (ns.length : Int) := by rw [List.length_map]
    have hp' : (0 : Int) < (ns.length : Int) := by omega
    have k0 : 0 ≤ j.fmod (ns.length : Int) := Int.fmod_nonneg_of_pos _ hp'
    have k1 : j.fmod (ns.length : Int) < (ns.length : Int) := Int.fmod_lt_of_pos _ hp'
    obtain ⟨kn, hkn⟩ : ∃ kn : Nat, j.fmod (ns.length : Int) = (kn : Int) := ⟨(j.fmod (ns.length : Int)).toNat, (Int.toNat_of_nonneg k0).symm⟩
    have hk2 : kn < ns.length := by omega
    have hat : (ns.map V.int)[kn]? = some (V.int ns[kn]) := by rw [List.getElem?_map, List.getElem?_eq_getElem hk2]; rfl
    refine ⟨_, rfl, _, rfl, _, rfl, a, _, rfl, .inl hS1, _, _, rfl, rfl, by rw [hlen]; omega, a, _, _, _, rfl, rfl, hS1, at_of (by rw [hlen]; exact hkn) hat, ?_⟩
    refine ⟨_, rfl, _, rfl, _, _, rfl, rfl, ⟨by decide, by decide, by decide⟩, _, _, rfl, rfl, _, rfl, ?_⟩
    refine ite2 (fun _ => ?_) (fun _ => ?_)
    · refine ⟨_, rfl, _, _, rfl, rfl, ⟨by decide, by decide, by decide⟩, _, _, rfl, rfl, (by show ((10 : Int) ^ Int.toNat 18) ≠ 0; decide), ?_⟩
      refine ⟨_, rfl, _, rfl, _, _, rfl, rfl, .inl ⟨by decide, by decide⟩, _, _, rfl, rfl, _, _, rfl, rfl, .inr (by decide), _, rfl, a, _, rfl, .inl hS1, _, _, rfl, rfl, .inl ⟨by decide, by decide⟩, _, _, rfl, rfl, _, _, rfl, rfl, (by show (0 : Int) < 2147483647; decide), ?_⟩
      refine ⟨_, rfl, _, _, rfl, rfl, .inr (by decide), _, _, rfl, rfl, (by show (0 : Int) < 2147483629; decide), _, _, rfl, rfl, .inr (by decide), _, rfl, _, _, rfl, rfl, _, _, rfl, rfl, (by show (0 : Int) < 2147483587; decide), .inl ⟨_, rfl, q _ _ s1⟩⟩
    · refine ⟨_, rfl, _, rfl, _, _, rfl, rfl, .inl ⟨by decide, by decide⟩, _, _, rfl, rfl, _, _, rfl, rfl, .inr (by decide), _, rfl, a, _, rfl, .inl hS1, _, _, rfl, rfl, .inl ⟨by decide, by decide⟩, _, _, rfl, rfl, _, _, rfl, rfl, (by show (0 : Int) < 2147483647; decide), ?_⟩
      refine ⟨_, rfl, _, _, rfl, rfl, .inr (by decide), _, _, rfl, rfl, (by show (0 : Int) < 2147483629; decide), _, _, rfl, rfl, .inr (by decide), _, rfl, _, _, rfl, rfl, _, _, rfl, rfl, (by show (0 : Int) < 2147483587; decide), .inl ⟨_, rfl, q _ _ s1⟩⟩
theorem scTake : FnScope ["_law_draw", "_law_many"] ["_law_draw", "_law_many"] (defScope sTake) := ⟨rfl, rfl, rfl, by decide +kernel, rfl, by decide +kernel, by decide +kernel⟩
theorem ok_take {f fN : Addr} {fd fdN : FuncData} (F : Fun K "_law_take" "_law_take" sTake f fd) (T : Txt K mg CS CB)
    (GN : FnOk P w K mg base CX0 1 fN fdN ["_law_script", "_law_index"] (spNumber K)) (mN : mg "_law_number" = some (.ref fN)) (kN : PySem.W.keepIn K (.ref fN) = true) (bN : Binds K fdN ["_law_script", "_law_index"] []) :
    FnOk P w K mg base CX0 2 f fd ["_law_draw", "_law_many"] (spTake K) := by
  refine F.ok scTake (fun vs H Q E h => ?_) (fun cdv A outer s H vs Q E hr h => ?_)
  · obtain ⟨dr, m, rfl, _⟩ := h
    rfl
  · obtain ⟨dr, m, rfl, hm, D, q⟩ := h
    obtain ⟨a, j, ns, hd, hS, hl⟩ := id D
    refine ⟨_, pss_cons (ps_augS (pv 0) pe_int get_list pe_int ip_add set_list)
      (pss_one (ps_ret (pe_op op_modN (pe_callTy call_int1 (by rfl) T.int (by decide +kernel) (pa_cons (pe_call GN hr rfl mN kN bN .nil pass0 (pa_cons (pe_ix ix_list (pv 0) pe_int (fun _ _ => rfl)) (pa_cons (pe_callTy call_int1 (by rfl) T.int (by decide +kernel) (pa_cons (pe_ix ix_list (pv 0) pe_int (fun _ _ => rfl)) pa_nil)) pa_nil))) pa_nil)) (pv 1)))), ?_⟩
    refine ⟨_, rfl, dr, _, 1, _, rfl, rfl, .inl (.inl hd), at_of (j := 1) rfl rfl, _, _, rfl, rfl, dr, _, 1, 1, rfl, rfl, hd, rfl, ?_⟩
    have hnd : a ≠ dr ∨ a = dr := by by_cases h : a = dr <;> simp [h]
    have g1 : upd H dr (.lst [.ref a, .int (j + 1)]) dr = some (.lst [.ref a, .int (j + 1)]) := upd_same
    have hS2 : SqL K (upd H dr (.lst [.ref a, .int (j + 1)])) a (ns.map V.int) := by
      rcases hS with (h2 | ⟨o, h2⟩) | h2
      · refine .inl (.inl ((upd_ne fun z => ?_).trans h2))
        rw [z, hd] at h2
        injection h2 with h2
        injection h2 with h2
        cases ns with
        | nil => cases h2
        | cons x ns => cases h2
      · refine .inl (.inr ⟨o, (upd_ne fun z => ?_).trans h2⟩)
        rw [z, hd] at h2
        cases h2
      · exact .inr h2
    refine ⟨_, rfl, dr, _, 0, _, rfl, rfl, .inl (.inl g1), at_of (j := 0) rfl rfl, _, rfl, dr, _, 1, _, rfl, rfl, .inl (.inl g1), at_of (j := 1) rfl rfl, .inl ⟨_, rfl, a, j + 1, ns, rfl, hS2, hl, fun i H' s' => .inl ⟨_, rfl, _, rfl, _, _, rfl, rfl, by omega, ?_⟩⟩⟩
    have r0 : 0 ≤ i.fmod m := Int.fmod_nonneg_of_pos _ hm
    have r1 : i.fmod m < m := Int.fmod_lt_of_pos _ hm
    have e : i.fmod m = (((i.fmod m).toNat : Nat) : Int) := (Int.toNat_of_nonneg r0).symm
    have z := q (i.fmod m).toNat H' (by omega) (fun b o hb h => s' _ _ ((upd_ne hb).trans h)) ⟨a, j + 1, ns, s' _ _ g1, s'.seq hS2, hl⟩
    rw [← e] at z
    exact z
/-! ### _law_pick, _law_begins -/
def spPick (K : PySem.W.Frag) : Sp := fun vs H Q _ => ∃ (dr l : Addr) (xs : List V), vs = [.ref dr, .ref l] ∧ Drw K H dr ∧ H l = some (.lst xs) ∧ l ≠ dr ∧ xs ≠ [] ∧ xs.length ≤ 1000 ∧ ∀ (i : Nat) (x : V) H', xs[i]? = some x → But dr H H' → Drw K H' dr → Q x H'
theorem scPick : FnScope ["_law_draw", "_law_items"] ["_law_draw", "_law_items"] (defScope sPick) := ⟨rfl, rfl, rfl, by decide +kernel, rfl, by decide +kernel, by decide +kernel⟩
theorem ok_pick {f fT : Addr} {fd fdT : FuncData} (F : Fun K "_law_pick" "_law_pick" sPick f fd) (T : Txt K mg CS CB)
    (GT : FnOk P w K mg base CX0 2 fT fdT ["_law_draw", "_law_many"] (spTake K)) (mT : mg "_law_take" = some (.ref fT)) (kT : PySem.W.keepIn K (.ref fT) = true) (bT : Binds K fdT ["_law_draw", "_law_many"] []) :
    FnOk P w K mg base CX0 3 f fd ["_law_draw", "_law_items"] (spPick K) := by
  refine F.ok scPick (fun vs H Q E h => ?_) (fun cdv A outer s H vs Q E hr h => ?_)
  · obtain ⟨dr, l, xs, rfl, _⟩ := h
    rfl
  · obtain ⟨dr, l, xs, rfl, D, hl, hne, hx, hz, q⟩ := h
    have hpos : 0 < xs.length := List.length_pos_iff.mpr hx
    refine ⟨_, pss_one (ps_ret (pe_ix ix_list (pv 1) (pe_call GT hr rfl mT kT bT .nil pass0 (pa_cons (pv 0) (pa_cons (pe_callB call_len_seq (by rfl) T.len PySem.boot_len (pa_cons (pv 1) pa_nil)) pa_nil))) (fun _ _ => rfl))), ?_⟩
    refine ⟨_, rfl, _, rfl, _, rfl, l, _, rfl, .inl (.inl (.inl hl)), dr, _, rfl, by omega, D, fun r H' hr' bt D' => ?_⟩
    have hlt : r < xs.length := by omega
    exact ⟨l, xs, _, _, rfl, rfl, .inl (.inl (bt _ _ hne hl)), at_of rfl (List.getElem?_eq_getElem hlt), q r _ H' (List.getElem?_eq_getElem hlt) bt D'⟩
def spBegins (CS : Addr) : Sp := fun vs H Q _ => ∃ (p a : Addr) (d b wn l n : Nat), vs = [.ref p, .int (wn : Int), .ref a] ∧ SpaceAt CS H p d b ∧ d * b ≤ 29 ∧ PreAt H a l n ∧ l ≤ d * b ∧ Q (.bl (begins (d * b) wn (l, n))) H
theorem scBegins : FnScope ["_law_space_here", "_law_number_here", "_law_prefix"] ["_law_space_here", "_law_number_here", "_law_prefix"] (defScope sBegins) := ⟨rfl, rfl, rfl, by decide +kernel, rfl, by decide +kernel, by decide +kernel⟩
theorem ok_begins {f fP : Addr} {fd fdP : FuncData} (F : Fun K "_law_begins" "_law_begins" sBegins f fd) (T : Txt K mg CS CB)
    (GP : FnOk P w K mg base CX0 1 fP fdP ["_law_times"] spPower) (mP : mg "_law_power" = some (.ref fP)) (kP : PySem.W.keepIn K (.ref fP) = true) (bP : Binds K fdP ["_law_times"] []) :
    FnOk P w K mg base CX0 2 f fd ["_law_space_here", "_law_number_here", "_law_prefix"] (spBegins CS) := by
  refine F.ok scBegins (fun vs H Q E h => ?_) (fun cdv A outer s H vs Q E hr h => ?_)
  · obtain ⟨p, a, d, b, wn, l, n, rfl, _⟩ := h
    rfl
  · obtain ⟨p, a, d, b, wn, l, n, rfl, S, hD, ha, hl, q⟩ := h
    obtain ⟨dx, hp⟩ := id S
    refine ⟨_, pss_one (ps_ret (pe_cmpR op_eq (pe_op op_fdivN (pv 1) (pe_call GP hr rfl mP kP bP .nil pass0 (pa_cons (pe_op op_sub (pe_fld (pv 0) rfl) (pe_ix ix_tup (pv 2) pe_int (fun _ _ => rfl))) pa_nil))) (pe_ix ix_tup (pv 2) pe_int (fun _ _ => rfl)) (nomark _))), ?_⟩
    have hp1 : 2 ^ (d * b - l) ≤ 2 ^ 29 := Nat.pow_le_pow_right (by decide) (by omega)
    have hp2 := Nat.two_pow_pos (d * b - l)
    refine ⟨_, rfl, _, rfl, p, CS, dx, _, _, rfl, hp, T.clS, T.sDepth, sFl_depth _ _, _, rfl, a, _, 0, _, rfl, rfl, .inl (.inl ha), at_of (j := 0) rfl rfl, _, _, rfl, rfl, d * b - l, ?_, by omega, _, _, rfl, rfl, ⟨by omega, by rw [Int.natAbs_natCast]; omega⟩, _, rfl, a, _, 1, _, rfl, rfl, .inl (.inl ha), at_of (j := 1) rfl rfl, rfl, ?_⟩
    · exact congrArg (fun z => [V.int z]) (show ((d * b : Nat) : Int) - (l : Int) = ((d * b - l : Nat) : Int) by omega)
    · have e : decide (V.int ((wn : Int).fdiv ((2 ^ (d * b - l) : Nat) : Int)) = V.int (n : Int)) = begins (d * b) wn (l, n) := by
        unfold begins
        rw [fd_nat]
        by_cases h : wn / 2 ^ (d * b - l) = n
        · rw [h]
          simp
        · rw [decide_eq_false (fun z => h (Int.ofNat_inj.mp (V.int.inj z)))]
          exact (beq_eq_false_iff_ne.mpr h).symm
      rw [← e] at q
      exact q
end
end FC

set_option Elab.async false
set_option linter.all false
set_option maxRecDepth 100000
set_option maxHeartbeats 4000000
/-! the law's own helpers: bits, points, all points -/
namespace FC
open PySem PySem.Spec PyProof.Rows L2 FR ZN
/-- a store at a tracked list elsewhere, of what is no list of ints -/
theorem drw_at {K : PySem.W.Frag} {H : Hp} {dr D : Addr} {o : HO} (h : Drw K H dr) (hD : H D = none) : Drw K (upd H D o) dr := h.same (same_upd hD)
theorem but_at {dr : Addr} {H H2 : Hp} {D : Addr} {o : HO} (x : But dr H H2) (hD : H D = none) : But dr H (upd H2 D o) := fun b u hb e => by
  rw [upd_ne (ne_of_none e hD)]
  exact x b u hb e
def spLBits (CS : Addr) : Sp := fun vs H Q _ => ∃ (p t : Addr) (d b : Nat) (pt : List Nat), vs = [.ref p, .ref t] ∧ 1 ≤ b ∧ b ≤ 10 ∧ SpaceAt CS H p d b ∧ TupAt H t pt ∧ pt.length ≤ 3 ∧ ∀ H' c, Same H H' → TupAt H' c (lawBits b pt) → Q (.ref c) H'
def spLPoint (K : PySem.W.Frag) (CS : Addr) : Sp := fun vs H Q _ => ∃ (dr p : Addr) (d b : Nat), vs = [.ref dr, .ref p] ∧ 1 ≤ d ∧ d ≤ 3 ∧ SpaceAt CS H p d b ∧ Drw K H dr ∧ ∀ t pt H', IsPt d b pt → TupAt H' t pt → But dr H H' → Drw K H' dr → Q (.ref t) H'
section
variable {P : Program} {w : World} {K : PySem.W.Frag} {mg : Str → Option Value} {base : Heap} {CS CB : Addr}
theorem scLBits : FnScope ["_law_space_here", "_law_point_here", "_law_found", "_law_turn", "_law_number_here"] ["_law_space_here", "_law_point_here"] (defScope sLBits) := ⟨rfl, rfl, rfl, by decide +kernel, rfl, by decide +kernel, by decide +kernel⟩
theorem ok_lbits {f fP : Addr} {fd fdP : FuncData} (F : Fun K "_law_bits" "_law_bits" sLBits f fd) (T : Txt K mg CS CB)
    (GP : FnOk P w K mg base CX0 1 fP fdP ["_law_times"] spPower) (mP : mg "_law_power" = some (.ref fP)) (kP : PySem.W.keepIn K (.ref fP) = true) (bP : Binds K fdP ["_law_times"] []) :
    FnOk P w K mg base CX0 2 f fd ["_law_space_here", "_law_point_here"] (spLBits CS) := by
  refine F.ok scLBits (fun vs H Q E h => ?_) (fun cdv A outer s H vs Q E hr h => ?_)
  · obtain ⟨p, t, d, b, pt, rfl, _⟩ := h
    rfl
  · obtain ⟨p, t, d, b, pt, rfl, hb1, hb2, S, ht, hl, q⟩ := h
    obtain ⟨dx, hp⟩ := id S
    refine ⟨_, pss_cons (ps_set (i := 2) scLBits.nd rfl (Or.inl rfl) (pe_lst pa_nil))
      (pss_cons (ps_for PassesOwn.never rfl (pi_range1 rfl T.range (pa_cons (pe_fld (pv 0) rfl) pa_nil)) (pg_name (i := 3) scLBits.nd rfl (Or.inl rfl))
        (pss_one (ps_for PassesOwn.never rfl (pi_tup (pv 1)) (pg_name (i := 4) scLBits.nd rfl (Or.inl rfl))
          (pss_one (ps_expr (pe_bm PySem.F.plainAttrs_list PySem.F.slot_list_append PySem.F.type_list_append mt_append (pv 2) (pa_cons (pe_op op_mod (pe_op op_fdivN (pv 4) (pe_call GP hr rfl mP kP bP .nil pass0 (pa_cons (pe_op op_sub (pe_op op_sub (pe_fld (pv 0) rfl) pe_int) (pv 3)) pa_nil))) pe_int) pa_nil)))))))
      (pss_one (ps_ret (pe_callTy call_tuple_of (by rfl) T.tup (by decide +kernel) (pa_cons (pv 2) pa_nil))))), ?_⟩
    refine ⟨by show 0 ≤ sizeLine; exact Nat.zero_le _, fun L hL => ?_⟩
    have s0 : Same H (upd H L (.lst [])) := same_upd hL
    let fb : Nat → List Nat := fun i => (List.range i).flatMap fun t => pt.map fun x => x / 2 ^ (b - 1 - t) % 2
    have fbl : ∀ i, (fb i).length = i * pt.length := fun i => by
      induction i with
      | zero => simp [fb]
      | succ i ih =>
        show ((List.range (i + 1)).flatMap _).length = _
        rw [List.range_succ, List.flatMap_append, List.length_append]
        have : ((List.range i).flatMap fun t => pt.map fun x => x / 2 ^ (b - 1 - t) % 2).length = i * pt.length := ih
        rw [this, Nat.succ_mul]
        simp
    refine ⟨_, rfl, p, CS, dx, _, _, rfl, s0 _ _ hp, T.clS, T.sBits, sFl_bits _ _, b, rfl, by omega, by omega, for_range (lo := 0) (n := b) (fun i σ H2 => Same H H2 ∧ H2 L = some (.lst (iV (fb i))) ∧ ∃ v u, σ = [some (.ref p), some (.ref t), some (.ref L), v, u]) ⟨s0, upd_same, none, none, rfl⟩ ?_ ?_⟩
    · rintro i σ H2 hi ⟨s2, hL2, v, u, rfl⟩
      refine ⟨_, rfl, t, rfl, ⟨_, .inl (.inl (s2 _ _ ht))⟩, for_tup (K := K) (a := t) (xs := iV pt) (fun j σ H3 => Same H H3 ∧ H3 L = some (.lst (iV (fb i ++ (pt.take j).map fun x => x / 2 ^ (b - 1 - i) % 2))) ∧ ∃ u, σ = [some (.ref p), some (.ref t), some (.ref L), some (.int (0 + (i : Int))), u])
        ⟨s2, by simpa using hL2, u, rfl⟩ (fun j σ H3 _ ⟨s3, _⟩ => .inl (.inl (s3 _ _ ht))) ?_ ?_⟩
      · rintro j x σ H3 hj ⟨s3, hL3, u, rfl⟩
        obtain ⟨n, hn, rfl⟩ := iV_get hj
        have hp1 : 2 ^ (b - 1 - i) ≤ 2 ^ 9 := Nat.pow_le_pow_right (by decide) (by omega)
        have hp2 := Nat.two_pow_pos (b - 1 - i)
        refine ⟨_, rfl, .inl ⟨rfl, _, .inl (.inl hL3)⟩, _, rfl, _, rfl, p, CS, dx, _, _, rfl, s3 _ _ hp, T.clS, T.sBits, sFl_bits _ _, _, _, rfl, rfl, _, rfl, _, _, rfl, rfl, b - 1 - i, ?_, by omega, _, _, rfl, rfl, ⟨by omega, by rw [Int.natAbs_natCast]; omega⟩, _, _, rfl, rfl, (by show (0 : Int) < 2; decide), ?_⟩
        · exact congrArg (fun z => [V.int z]) (show (b : Int) - 1 - (0 + (i : Int)) = ((b - 1 - i : Nat) : Int) by omega)
        refine ⟨L, _, _, rfl, rfl, hL3, ?_, same_at s3 hL, ?_, some (V.int (n : Int)), rfl⟩
        · rw [List.length_map, List.length_append, fbl, List.length_map, List.length_take]
          have h1 : i * pt.length ≤ 10 * 3 := Nat.mul_le_mul (by omega) hl
          exact small1000 (by omega)
        · refine upd_same.trans ?_
          rw [List.take_add_one, hn]
          have e : (n : Int).fdiv ((2 ^ (b - 1 - i) : Nat) : Int) % 2 = ((n / 2 ^ (b - 1 - i) % 2 : Nat) : Int) := by rw [fd_nat]; omega
          show some (HO.lst (iV _ ++ [V.int ((n : Int).fdiv ((2 ^ (b - 1 - i) : Nat) : Int) % 2)])) = _
          rw [e]
          simp
      · rintro σ H3 ⟨s3, hL3, u, rfl⟩
        refine ⟨s3, ?_, some (.int (0 + (i : Int))), u, rfl⟩
        rw [hL3, List.length_map, List.take_length]
        show some (HO.lst (iV (fb i ++ _))) = some (HO.lst (iV ((List.range (i + 1)).flatMap _)))
        rw [List.range_succ, List.flatMap_append]
        simp [fb]
    · rintro σ H2 ⟨s2, hL2, v, u, rfl⟩
      exact ⟨_, rfl, L, _, rfl, .inl ⟨.inl (.inl hL2), fun c hc => q _ c (same_more s2 hc) upd_same⟩⟩
theorem scLPoint : FnScope ["_law_draw", "_law_space_here", "_law_axis"] ["_law_draw", "_law_space_here"] (defScope sLPoint) := ⟨rfl, rfl, rfl, by decide +kernel, rfl, by decide +kernel, by decide +kernel⟩
theorem ok_lpoint {f fT : Addr} {fd fdT : FuncData} (F : Fun K "_law_point" "_law_point" sLPoint f fd) (T : Txt K mg CS CB)
    (GT : FnOk P w K mg base CX0 2 fT fdT ["_law_draw", "_law_many"] (spTake K)) (mT : mg "_law_take" = some (.ref fT)) (kT : PySem.W.keepIn K (.ref fT) = true) (bT : Binds K fdT ["_law_draw", "_law_many"] []) :
    FnOk P w K mg base CX0 3 f fd ["_law_draw", "_law_space_here"] (spLPoint K CS) := by
  refine F.ok scLPoint (fun vs H Q E h => ?_) (fun cdv A outer s H vs Q E hr h => ?_)
  · obtain ⟨dr, p, d, b, rfl, _⟩ := h
    rfl
  · obtain ⟨dr, p, d, b, rfl, hd1, hd3, S, D, q⟩ := h
    obtain ⟨dx, hp⟩ := id S
    obtain ⟨xd, hdx⟩ := drw_some D
    have hpd : p ≠ dr := ne_of hp hdx (by intro z; cases z)
    refine ⟨_, pss_one (ps_ret (pe_callTy call_tuple_of (by rfl) T.tup (by decide +kernel) (pa_cons (pe_lc (own := [("_law_axis", 2)]) (g := gName 2) (tt := tYes) rfl scLPoint.nd (pi_range1 rfl T.range (pa_cons (pe_fld (pv 1) rfl) pa_nil))
        (blkOk_by (N := ["_law_draw", "_law_space_here", "_law_axis"]) (sc := defScope sLPoint) (by decide +kernel)) (fun _ _ _ _ _ => pg_name (i := 2) scLPoint.nd rfl (Or.inl rfl)) (fun _ _ _ _ _ => pts_nil)
        (fun _ _ _ _ _ => pe_call GT hr rfl mT kT bT .nil pass0 (pa_cons (pv 0) (pa_cons (pe_fldB (K := K) rfl (pv 1) rfl) pa_nil)))) pa_nil))), ?_⟩
    refine ⟨_, rfl, p, CS, dx, _, _, rfl, hp, T.clS, T.sDim, sFl_dim _ _, d, rfl, by omega, by omega, fun L hL => lc_range (lo := 0) (n := d) (fun i H2 => ∃ pt, pt.length = i ∧ (∀ x ∈ pt, x < 2 ^ b) ∧ H2 L = some (.lst (iV pt)) ∧ But dr H H2 ∧ Drw K H2 dr) ⟨[], rfl, (fun x h => by cases h), upd_same, but_same (same_upd hL), drw_at D hL⟩ ?_ ?_⟩
    · rintro i H2 hi ⟨pt, hlen, hlt, hL2, bt, D2⟩
      have hLd : L ≠ dr := fun z => by rw [z, hdx] at hL; cases hL
      refine ⟨rfl, _, rfl, _, rfl, p, CS, dx, _, _, rfl, bt _ _ hpd hp, T.clS, T.sSide, sFl_side _ _, dr, _, rfl, by have := Nat.two_pow_pos b; omega, D2, fun r H3 hr3 bt3 D3 => ?_⟩
      have hL3 := bt3 _ _ hLd hL2
      refine ⟨_, hL3, by rw [List.length_map]; exact small1000 (by omega), pt ++ [r], by rw [List.length_append, hlen]; rfl, ?_, ?_, ?_, ?_⟩
      · intro x hx
        rcases List.mem_append.mp hx with hx | hx
        · exact hlt x hx
        · rcases List.mem_cons.mp hx with rfl | hx
          · omega
          · cases hx
      · refine upd_same.trans ?_
        simp
      · exact but_at (bt.trans bt3) hL
      · refine drw_upd D3 hL3 hLd fun ns hns => ⟨(pt ++ [r]).map fun n : Nat => (n : Int), by simp, ?_⟩
        rw [List.length_map, List.length_append, hlen]
        show i + 1 ≤ 63
        omega
    · rintro H2 ⟨pt, hlen, hlt, hL2, bt, D2⟩
      refine ⟨L, _, rfl, .inl ⟨.inl (.inl hL2), fun c hc => ?_⟩⟩
      exact q c pt _ ⟨hlen, hlt⟩ upd_same (bt.trans (but_same (same_upd hc))) (drw_at D2 hc)
/-! ### _law_box -/
def spLBox (K : PySem.W.Frag) (CS CB : Addr) : Sp := fun vs H Q _ => ∃ (dr p : Addr) (d b : Nat), vs = [.ref dr, .ref p] ∧ (1 ≤ d ∧ d ≤ 3 ∧ 1 ≤ b ∧ b ≤ 10) ∧ SpaceAt CS H p d b ∧ Drw K H dr ∧
  ∀ y lo hi H', IsPt d b lo → IsPt d b hi → (∀ i, i < d → lo.getD i 0 ≤ hi.getD i 0) → BoxAt CB H' y p lo hi → But dr H H' → Drw K H' dr → Q (.ref y) H'
/-- what a comprehension of least and greatest numbers leaves -/
theorem mm_snoc (f : Nat → Nat) (i : Nat) : iV ((List.range i).map f) ++ [V.int ((f i : Nat) : Int)] = iV ((List.range (i + 1)).map f) := by
  rw [List.range_succ]
  simp
theorem rng_getD {f : Nat → Nat} {d i : Nat} (h : i < d) : ((List.range d).map f).getD i 0 = f i := by
  rw [List.getD_eq_getElem?_getD, List.getElem?_map, List.getElem?_range h]
  rfl
theorem rng_pt {f : Nat → Nat} {d b : Nat} (h : ∀ i, i < d → f i < 2 ^ b) : IsPt d b ((List.range d).map f) := by
  refine ⟨by rw [List.length_map, List.length_range], fun x hx => ?_⟩
  obtain ⟨i, hi, rfl⟩ := List.mem_map.mp hx
  exact h i (List.mem_range.mp hi)
theorem scLBox : FnScope ["_law_draw", "_law_space_here", "_law_one", "_law_other", "_law_pair"] ["_law_draw", "_law_space_here"] (defScope sLBox) := ⟨rfl, rfl, rfl, by decide +kernel, rfl, by decide +kernel, by decide +kernel⟩
theorem ok_lbox {f fP fI : Addr} {fd fdP fdI : FuncData} (F : Fun K "_law_box" "_law_box" sLBox f fd) (T : Txt K mg CS CB)
    (GP : FnOk P w K mg base CX0 3 fP fdP ["_law_draw", "_law_space_here"] (spLPoint K CS)) (mP : mg "_law_point" = some (.ref fP)) (kP : PySem.W.keepIn K (.ref fP) = true) (bP : Binds K fdP ["_law_draw", "_law_space_here"] [])
    (M : Mk K CB fI) (GI : FnOk P w K mg base CX0 4 fI fdI ["self", "space", "lows", "highs"] (spBox CS CB)) (bI : Binds K fdI ["self", "space", "lows", "highs"] []) :
    FnOk P w K mg base CX0 6 f fd ["_law_draw", "_law_space_here"] (spLBox K CS CB) := by
  refine F.ok scLBox (fun vs H Q E h => ?_) (fun cdv A outer s H vs Q E hr h => ?_)
  · obtain ⟨dr, p, d, b, rfl, _⟩ := h
    rfl
  · obtain ⟨dr, p, d, b, rfl, hdb, S, D, q⟩ := h
    obtain ⟨hd1, hd3, hb1, hb2⟩ := id hdb
    obtain ⟨dx, hp⟩ := id S
    obtain ⟨xd, hdx⟩ := drw_some D
    have hpd : p ≠ dr := ne_of hp hdx (by intro z; cases z)
    have hr3 : Room 3 _ := hr.mono (by decide)
    refine ⟨_, pss_cons (ps_par (i := 2) (j := 3) (by rfl) scLBox.nd rfl rfl (by decide) rfl rfl (pa_cons (pe_call GP hr3 rfl mP kP bP .nil pass0 (pa_cons (pv 0) (pa_cons (pv 1) pa_nil))) (pa_cons (pe_call GP hr3 rfl mP kP bP .nil pass0 (pa_cons (pv 0) (pa_cons (pv 1) pa_nil))) pa_nil)) (by rfl))
      (pss_one (ps_ret (pe_make M GI hr rfl T.mgB bI .nil pass0 (pa_cons (pv 1)
        (pa_cons (pe_callTy call_tuple_of (by rfl) T.tup (by decide +kernel) (pa_cons (pe_lc (own := [("_law_pair", 4)]) (g := gName 4) (tt := tYes) rfl scLBox.nd (pi_zipN rfl T.zip (pa_cons (pv 2) (pa_cons (pv 3) pa_nil)))
          (blkOk_by (N := ["_law_draw", "_law_space_here", "_law_one", "_law_other", "_law_pair"]) (sc := defScope sLBox) (by decide +kernel)) (fun _ _ _ _ _ => pg_name (i := 4) scLBox.nd rfl (Or.inl rfl)) (fun _ _ _ _ _ => pts_nil)
          (fun _ _ _ _ _ => pe_callB (r := rMinT K) (cr_minT rfl) (by rfl) T.min (by decide +kernel) (pa_cons (pv 4) pa_nil))) pa_nil))
        (pa_cons (pe_callTy call_tuple_of (by rfl) T.tup (by decide +kernel) (pa_cons (pe_lc (own := [("_law_pair", 4)]) (g := gName 4) (tt := tYes) rfl scLBox.nd (pi_zipN rfl T.zip (pa_cons (pv 2) (pa_cons (pv 3) pa_nil)))
          (blkOk_by (N := ["_law_draw", "_law_space_here", "_law_one", "_law_other", "_law_pair"]) (sc := defScope sLBox) (by decide +kernel)) (fun _ _ _ _ _ => pg_name (i := 4) scLBox.nd rfl (Or.inl rfl)) (fun _ _ _ _ _ => pts_nil)
          (fun _ _ _ _ _ => pe_callB (r := rMaxT K) (cr_maxT rfl) (by rfl) T.max (by decide +kernel) (pa_cons (pv 4) pa_nil))) pa_nil)) pa_nil)))))), ?_⟩
    refine ⟨_, rfl, _, rfl, dr, p, d, b, rfl, hd1, hd3, S, D, fun t1 p1 H1 hp1 ht1 b1 D1 => ?_⟩
    refine ⟨_, rfl, _, rfl, dr, p, d, b, rfl, hd1, hd3, ⟨dx, b1 _ _ hpd hp⟩, D1, fun t2 p2 H2 hp2 ht2 b2 D2 => ⟨_, _, rfl, ?_⟩⟩
    obtain ⟨xd1, hdx1⟩ := drw_some D1
    have ht1' : TupAt H2 t1 p1 := b2 _ _ (ne_of ht1 hdx1 (by intro z; cases z)) ht1
    have hp2' := b2 _ _ hpd (b1 _ _ hpd hp)
    let fmn : Nat → Nat := fun i => min (p1.getD i 0) (p2.getD i 0)
    let fmx : Nat → Nat := fun i => max (p1.getD i 0) (p2.getD i 0)
    have hlt1 : ∀ i, i < d → p1.getD i 0 < 2 ^ b := fun i hi => getD_lt hp1.1 hp1.2 hi
    have hlt2 : ∀ i, i < d → p2.getD i 0 < 2 ^ b := fun i hi => getD_lt hp2.1 hp2.2 hi
    have pmn : IsPt d b ((List.range d).map fmn) := rng_pt fun i hi => by have := hlt1 i hi; show min _ _ < _; omega
    have pmx : IsPt d b ((List.range d).map fmx) := rng_pt fun i hi => by have := hlt1 i hi; have := hlt2 i hi; show max _ _ < _; omega
    have tp : ∀ {H3 : Hp}, Same H2 H3 → Tps K H3 [t1, t2] [iV p1, iV p2] := fun s3 => .cons (.inl (.inl (s3 _ _ ht1'))) (.cons (.inl (.inl (s3 _ _ ht2))) .nil)
    refine ⟨_, rfl, _, rfl, _, rfl, [t1, t2], [iV p1, iV p2], rfl, ⟨Nat.le_refl 2, (by decide : 2 ≤ 4)⟩, tp (Same.refl _), fun L1 hL1 => lc_zip (cols2 hp1.1 hp2.1) (fun i H3 => Same H2 H3 ∧ H3 L1 = some (.lst (iV ((List.range i).map fmn)))) ⟨same_upd hL1, upd_same⟩ (fun i H3 ⟨s3, _⟩ => tp s3) ?_ ?_⟩
    · rintro i c H3 hi ⟨s3, h3⟩ hc
      have hLc : L1 ≠ c := ne_of_none h3 hc
      refine ⟨rfl, _, rfl, c, [((p1.getD i 0 : Nat) : Int), ((p2.getD i 0 : Nat) : Int)], rfl, .inl (.inl upd_same), Nat.succ_pos 1, fun m hm hle => ⟨_, (upd_ne hLc).trans h3, ?_, same_at (same_more s3 hc) hL1, ?_⟩⟩
      · rw [List.length_map, List.length_map, List.length_range]
        exact small1000 (by omega)
      · have e : m = ((fmn i : Nat) : Int) := by
          have h1 := hle _ (List.mem_cons_self (a := ((p1.getD i 0 : Nat) : Int)))
          have h2 := hle ((p2.getD i 0 : Nat) : Int) (by simp)
          show m = ((min (p1.getD i 0) (p2.getD i 0) : Nat) : Int)
          simp only [List.mem_cons, List.not_mem_nil, or_false] at hm
          omega
        rw [e, mm_snoc]
        exact upd_same
    · rintro H3 ⟨s3, h3⟩
      refine ⟨L1, _, rfl, .inl ⟨.inl (.inl h3), fun tl htl => ?_⟩⟩
      have s4 := same_more (o := .tup (iV ((List.range d).map fmn))) s3 htl
      have gtl : TupAt (upd H3 tl (.tup (iV ((List.range d).map fmn)))) tl ((List.range d).map fmn) := upd_same
      generalize upd H3 tl (.tup (iV ((List.range d).map fmn))) = H4 at s4 gtl ⊢
      refine ⟨_, rfl, _, rfl, [t1, t2], [iV p1, iV p2], rfl, ⟨Nat.le_refl 2, (by decide : 2 ≤ 4)⟩, tp s4, fun L2 hL2 => lc_zip (cols2 hp1.1 hp2.1) (fun i H5 => Same H4 H5 ∧ H5 L2 = some (.lst (iV ((List.range i).map fmx)))) ⟨same_upd hL2, upd_same⟩ (fun i H5 ⟨s5, _⟩ => tp (s4.trans s5)) ?_ ?_⟩
      · rintro i c H5 hi ⟨s5, h5⟩ hc
        have hLc : L2 ≠ c := ne_of_none h5 hc
        refine ⟨rfl, _, rfl, c, [((p1.getD i 0 : Nat) : Int), ((p2.getD i 0 : Nat) : Int)], rfl, .inl (.inl upd_same), Nat.succ_pos 1, fun m hm hle => ⟨_, (upd_ne hLc).trans h5, ?_, same_at (same_more s5 hc) hL2, ?_⟩⟩
        · rw [List.length_map, List.length_map, List.length_range]
          exact small1000 (by omega)
        · have e : m = ((fmx i : Nat) : Int) := by
            have h1 := hle _ (List.mem_cons_self (a := ((p1.getD i 0 : Nat) : Int)))
            have h2 := hle ((p2.getD i 0 : Nat) : Int) (by simp)
            show m = ((max (p1.getD i 0) (p2.getD i 0) : Nat) : Int)
            simp only [List.mem_cons, List.not_mem_nil, or_false] at hm
            omega
          rw [e, mm_snoc]
          exact upd_same
      · rintro H5 ⟨s5, h5⟩
        refine ⟨L2, _, rfl, .inl ⟨.inl (.inl h5), fun th hth => ?_⟩⟩
        have s6 := same_more (o := .tup (iV ((List.range d).map fmx))) s5 hth
        have gth : TupAt (upd H5 th (.tup (iV ((List.range d).map fmx)))) th ((List.range d).map fmx) := upd_same
        generalize upd H5 th (.tup (iV ((List.range d).map fmx))) = H6 at s6 gth ⊢
        have s26 := s4.trans s6
        intro y dy hy hdy hne
        have s7 : Same H6 (upd (upd H6 dy (.own y)) y (.ins CB dy [])) := fun b' o e => by
          rw [upd_ne (ne_of_none e hy), upd_ne (ne_of_none e hdy)]
          exact e
        refine ⟨y, dy, p, tl, th, d, b, _, _, rfl, hdb, upd_same, ⟨dx, s7 _ _ (s26 _ _ hp2')⟩, s7 _ _ (s6 _ _ gtl), s7 _ _ gth, pmn, pmx, fun i hi => ?_, fun H' hy' kp => ⟨rfl, ?_⟩⟩
        · rw [rng_getD hi, rng_getD hi]
          show min _ _ ≤ max _ _
          omega
        have kp6 : ∀ b' o, H6 b' = some o → H' b' = some o := fun b' o e => kp b' o (ne_of_none e hy) (s7 _ _ e)
        refine q y _ _ H' pmn pmx (fun i hi => ?_) ⟨dy, tl, th, hy', kp6 _ _ (s6 _ _ gtl), kp6 _ _ gth⟩ ((b1.trans b2).trans fun b' o _ e => kp6 _ _ (s26 _ _ e)) ((D2.same s26).same kp6)
        rw [rng_getD hi, rng_getD hi]
        show min _ _ ≤ max _ _
        omega
end
end FC

set_option Elab.async false
set_option linter.all false
set_option maxRecDepth 100000
set_option maxHeartbeats 4000000
/-! the law's own helpers: a space, all points -/
namespace FC
open PySem PySem.Spec PyProof.Rows L2 FR ZN
def spLSpace (K : PySem.W.Frag) (CS : Addr) : Sp := fun vs H Q _ => ∃ (dr : Addr), vs = [.ref dr, .int 8] ∧ Drw K H dr ∧ ∀ x d b H', (d, b) ∈ spaces → SpaceAt CS H' x d b → But dr H H' → Drw K H' dr → Q (.ref x) H'
abbrev pairsTo (k n : Nat) : List (List Nat) := (List.range n).map fun b => [k, 1 + b]
/-- [(k, b) for b in range(1, n + 1)] -/
theorem lc_pairs {k n : Nat} {vs : List Nat} {i : Nat} {σ : L2.St} {H1 : Hp} {D : Addr} {Qd : Hp → Prop} (hn : n ≤ 8) (hD : H1 D = none) (hi : ∀ z : Option V, i < (wipe σ vs).length) (hw : ∀ z : Option V, wipe ((wipe σ vs).set i z) vs = wipe σ vs)
    (hd : ∀ H as, Same H1 H → H D = some (.lst (as.map V.ref)) → TupsAt H as (pairsTo k n) → Qd H) :
    ∃ W : Nat → Nat → Hp → Prop, (∃ m, W 0 m (upd H1 D (.lst []))) ∧ ∀ j m H, W j m H →
      ((Itr 1 n).stop j H ∧ Qd H) ∨ ((Itr 1 n).go j H ∧ ∃ Nx : Hp → Prop, (∀ H', Nx H' → ∃ m', m' < m ∧ W (j + 1) m' H') ∧ ∀ x H', (Itr 1 n).yld j H x H' → gName i x (wipe σ vs) H' fun σ2 H2 => wipe σ2 vs = wipe σ vs ∧ tYes σ2 H2 fun b H3 =>
        if b = true then tTup (tCons (tC (.int (k : Int))) (tCons (tVar i) tNil)) σ2 H3 fun y H4 => ∃ acc, H4 D = some (.lst acc) ∧ acc.length < sizeLine ∧ Nx (upd H4 D (.lst (acc ++ [y]))) else Nx H3) := by
  refine lc_range (lo := 1) (n := n) (fun j H => Same H1 H ∧ ∃ as, H D = some (.lst (as.map V.ref)) ∧ TupsAt H as (pairsTo k j)) ⟨same_upd hD, [], upd_same, .nil⟩ ?_ (fun H ⟨s, as, h, t⟩ => hd H as s h t)
  rintro j H hj ⟨s, as, h, t⟩
  refine ⟨hw _, _, List.getElem?_set_self (hi none), by show 2 ≤ sizeLine; decide, fun a ha => ?_⟩
  have hDa : D ≠ a := ne_of_none h ha
  have sa : Same H (upd H a (.tup [V.int (k : Int), V.int (1 + (j : Int))])) := same_upd ha
  have ga : TupAt (upd H a (.tup [V.int (k : Int), V.int (1 + (j : Int))])) a [k, 1 + j] := by
    refine upd_same.trans ?_
    have e : (1 : Int) + (j : Int) = ((1 + j : Nat) : Int) := by omega
    rw [e]
    rfl
  generalize upd H a (.tup [V.int (k : Int), V.int (1 + (j : Int))]) = H2 at sa ga ⊢
  have l := Paired.length t
  rw [List.length_map, List.length_range] at l
  refine ⟨_, sa _ _ h, by rw [List.length_map, l]; exact small1000 (by omega), same_at (s.trans sa) hD, as ++ [a], ?_, ?_⟩
  · rw [List.map_append]
    exact upd_same
  · show TupsAt _ _ ((List.range (j + 1)).map _)
    rw [List.range_succ, List.map_append]
    exact tups_upd (TupsAt.snoc ga (t.same sa)) (sa _ _ h)
section
variable {P : Program} {w : World} {K : PySem.W.Frag} {mg : Str → Option Value} {base : Heap} {CS CB : Addr}
theorem scLSpace : FnScope ["_law_draw", "_law_most", "_law_bits_here", "_law_found", "_law_dimensions"] ["_law_draw", "_law_most"] (defScope sLSpace) := ⟨rfl, rfl, rfl, by decide +kernel, rfl, by decide +kernel, by decide +kernel⟩
theorem ok_lspace {f fP fI : Addr} {fd fdP fdI : FuncData} (F : Fun K "_law_space" "_law_space" sLSpace f fd) (T : Txt K mg CS CB)
    (GP : FnOk P w K mg base CX0 3 fP fdP ["_law_draw", "_law_items"] (spPick K)) (mP : mg "_law_pick" = some (.ref fP)) (kP : PySem.W.keepIn K (.ref fP) = true) (bP : Binds K fdP ["_law_draw", "_law_items"] [])
    (M : Mk K CS fI) (GI : FnOk P w K mg base CX0 2 fI fdI ["self", "dimensions", "bits"] (spSpOk CS)) (bI : Binds K fdI ["self", "dimensions", "bits"] []) :
    FnOk P w K mg base CX0 4 f fd ["_law_draw", "_law_most"] (spLSpace K CS) := by
  refine F.ok scLSpace (fun vs H Q E h => ?_) (fun cdv A outer s H vs Q E hr h => ?_)
  · obtain ⟨dr, rfl, _⟩ := h
    rfl
  · obtain ⟨dr, rfl, D, q⟩ := h
    obtain ⟨xd, hdx⟩ := drw_some D
    refine ⟨_, pss_cons (ps_set (i := 3) scLSpace.nd rfl (Or.inl rfl) (pe_op op_cat
        (pe_lc (own := [("_law_bits_here", 2)]) (g := gName 2) (tt := tYes) rfl scLSpace.nd (pi_range2 rfl T.range (pa_cons pe_int (pa_cons (pe_op op_add (pe_callB (call_min2 rfl) (by rfl) T.min (by decide +kernel) (pa_cons pe_int (pa_cons (pv 1) pa_nil))) pe_int) pa_nil)))
          (blkOk_by (N := ["_law_draw", "_law_most", "_law_bits_here", "_law_found", "_law_dimensions"]) (sc := defScope sLSpace) (by decide +kernel)) (fun _ _ _ _ _ => pg_name (i := 2) scLSpace.nd rfl (Or.inl rfl)) (fun _ _ _ _ _ => pts_nil) (fun _ _ _ _ _ => pe_tup (pa_cons pe_int (pa_cons (pv 2) pa_nil))))
        (pe_lc (own := [("_law_bits_here", 2)]) (g := gName 2) (tt := tYes) rfl scLSpace.nd (pi_range2 rfl T.range (pa_cons pe_int (pa_cons (pe_op op_add (pe_op op_fdiv (pv 1) pe_int) pe_int) pa_nil)))
          (blkOk_by (N := ["_law_draw", "_law_most", "_law_bits_here", "_law_found", "_law_dimensions"]) (sc := defScope sLSpace) (by decide +kernel)) (fun _ _ _ _ _ => pg_name (i := 2) scLSpace.nd rfl (Or.inl rfl)) (fun _ _ _ _ _ => pts_nil) (fun _ _ _ _ _ => pe_tup (pa_cons pe_int (pa_cons (pv 2) pa_nil))))))
      (pss_cons (ps_aug (i := 3) scLSpace.nd rfl (Or.inl rfl)
        (pe_lc (own := [("_law_bits_here", 2)]) (g := gName 2) (tt := tYes) rfl scLSpace.nd (pi_range2 rfl T.range (pa_cons pe_int (pa_cons (pe_op op_add (pe_op op_fdiv (pv 1) pe_int) pe_int) pa_nil)))
          (blkOk_by (N := ["_law_draw", "_law_most", "_law_bits_here", "_law_found", "_law_dimensions"]) (sc := defScope sLSpace) (by decide +kernel)) (fun _ _ _ _ _ => pg_name (i := 2) scLSpace.nd rfl (Or.inl rfl)) (fun _ _ _ _ _ => pts_nil) (fun _ _ _ _ _ => pe_tup (pa_cons pe_int (pa_cons (pv 2) pa_nil)))) iop_ext)
      (pss_cons (ps_asg (pe_call GP hr rfl mP kP bP .nil pass0 (pa_cons (pv 0) (pa_cons (pv 3) pa_nil))) (pg_tup (by rfl) (pgs_cons (pg_name (i := 4) scLSpace.nd rfl (Or.inl rfl)) (pgs_cons (pg_name (i := 2) scLSpace.nd rfl (Or.inl rfl)) pgs_nil))))
      (pss_one (ps_ret (pe_make M GI hr rfl T.mgS bI .nil pass0 (pa_cons (pv 4) (pa_cons (pv 2) pa_nil))))))), ?_⟩
    refine ⟨_, rfl, _, _, rfl, _, _, rfl, rfl, 1, 9, rfl, ⟨by decide, by decide, by decide, by decide⟩, fun A1 hA1 => lc_pairs (k := 1) (n := 8) (by decide) hA1 (fun _ => (show 2 < 5 by decide)) (fun _ => rfl) fun H1 as1 s1 hl1 t1 => ?_⟩
    refine ⟨_, rfl, _, _, rfl, rfl, ⟨by decide, by decide⟩, _, _, rfl, rfl, 1, 5, rfl, ⟨by decide, by decide, by decide, by decide⟩, fun A2 hA2 => lc_pairs (k := 2) (n := 4) (by decide) hA2 (fun _ => (show 2 < 5 by decide)) (fun _ => rfl) fun H2 as2 s2 hl2 t2 => ?_⟩
    have la1 : as1.length = 8 := by have e := Paired.length t1; rw [List.length_map, List.length_range] at e; exact e
    have la2 : as2.length = 4 := by have e := Paired.length t2; rw [List.length_map, List.length_range] at e; exact e
    have hl1' := s2 _ _ hl1
    refine ⟨A1, A2, _, _, rfl, rfl, hl1', hl2, ?_, fun F1 hF1 => ?_⟩
    · rw [List.length_map, List.length_map, la1, la2]
      decide
    have s3 : Same H2 (upd H2 F1 (.lst (as1.map V.ref ++ as2.map V.ref))) := same_upd hF1
    have hF3 : upd H2 F1 (.lst (as1.map V.ref ++ as2.map V.ref)) F1 = some (.lst (as1.map V.ref ++ as2.map V.ref)) := upd_same
    have hFH : H F1 = none := (s1.trans s2).free hF1
    generalize upd H2 F1 (.lst (as1.map V.ref ++ as2.map V.ref)) = H3 at s3 hF3 ⊢
    refine ⟨_, rfl, _, rfl, _, _, rfl, rfl, ⟨by decide, by decide⟩, _, _, rfl, rfl, 1, 3, rfl, ⟨by decide, by decide, by decide, by decide⟩, fun A3 hA3 => lc_pairs (k := 3) (n := 2) (by decide) hA3 (fun _ => (show 2 < 5 by decide)) (fun _ => rfl) fun H4 as3 s4 hl3 t3 => ?_⟩
    have la3 : as3.length = 2 := by have e := Paired.length t3; rw [List.length_map, List.length_range] at e; exact e
    refine ⟨F1, A3, _, _, rfl, rfl, s4 _ _ hF3, hl3, ?_, ?_⟩
    · rw [List.length_append, List.length_map, List.length_map, List.length_map, la1, la2, la3]
      decide
    have sH4 := ((s1.trans s2).trans s3).trans s4
    have sH5 : Same H (upd H4 F1 (.lst (as1.map V.ref ++ as2.map V.ref ++ as3.map V.ref))) := same_at sH4 hFH
    have hF5 : upd H4 F1 (.lst (as1.map V.ref ++ as2.map V.ref ++ as3.map V.ref)) F1 = some (.lst ((as1 ++ as2 ++ as3).map V.ref)) := by
      rw [List.map_append, List.map_append]
      exact upd_same
    have app : ∀ {H' : Hp} {a b : List Addr} {p r : List (List Nat)}, TupsAt H' a p → TupsAt H' b r → TupsAt H' (a ++ b) (p ++ r) := fun {H' a b p r} h1 h2 => by
      induction h1 with
      | nil => exact h2
      | cons x _ ih => exact .cons x ih
    have t5 : TupsAt (upd H4 F1 (.lst (as1.map V.ref ++ as2.map V.ref ++ as3.map V.ref))) (as1 ++ as2 ++ as3) (spaces.map fun z => [z.1, z.2]) :=
      tups_upd (app (app (((t1.same s2).same s3).same s4) ((t2.same s3).same s4)) t3) (s4 _ _ hF3)
    have D5 := D.same sH5
    generalize upd H4 F1 (.lst (as1.map V.ref ++ as2.map V.ref ++ as3.map V.ref)) = H5 at sH5 hF5 t5 D5 ⊢
    have la : (as1 ++ as2 ++ as3).length = 14 := by rw [List.length_append, List.length_append, la1, la2, la3]
    have hFd : F1 ≠ dr := fun z => by rw [z, hdx] at hFH; cases hFH
    refine ⟨_, rfl, _, rfl, dr, F1, _, rfl, D5, hF5, hFd, fun z => ?_, by rw [List.length_map, la]; decide, fun i x H6 hx bt D6 => ?_⟩
    · have e := congrArg List.length z
      rw [List.length_map, la] at e
      cases e
    obtain ⟨a, ha, rfl⟩ : ∃ a, (as1 ++ as2 ++ as3)[i]? = some a ∧ x = V.ref a := by
      rw [List.getElem?_map] at hx
      cases e : (as1 ++ as2 ++ as3)[i]? with
      | none => rw [e] at hx; cases hx
      | some a => rw [e] at hx; exact ⟨a, rfl, (Option.some.inj hx).symm⟩
    obtain ⟨p, hp, hta⟩ := t5.get ha
    obtain ⟨⟨d, b⟩, hm, rfl⟩ := List.mem_map.mp (List.mem_of_getElem? hp)
    obtain ⟨xd5, hd5⟩ := drw_some D5
    have hta6 := bt _ _ (ne_of hta hd5 (by intro z; cases z)) hta
    refine ⟨a, _, rfl, .inl (.inl hta6), rfl, _, _, rfl, _, _, rfl, rfl, ?_⟩
    refine ⟨_, rfl, _, rfl, fun y dy hy hdy hne => ?_⟩
    have hb : 1 ≤ d ∧ d ≤ 3 ∧ 1 ≤ b ∧ b ≤ 10 := by
      have z : (spaces.all fun s => decide (1 ≤ s.1 ∧ s.1 ≤ 3 ∧ 1 ≤ s.2 ∧ s.2 ≤ 10)) = true := by decide
      exact of_decide_eq_true (List.all_eq_true.mp z _ hm)
    have s7 : Same H6 (upd (upd H6 dy (.own y)) y (.ins CS dy [])) := fun b' o e => by
      rw [upd_ne (ne_of_none e hy), upd_ne (ne_of_none e hdy)]
      exact e
    refine ⟨y, dy, d, b, rfl, hb, upd_same, fun H' hS kp => ⟨rfl, ?_⟩⟩
    have kp6 : ∀ b' o, H6 b' = some o → H' b' = some o := fun b' o e => kp b' o (ne_of_none e hy) (s7 _ _ e)
    exact q y d b H' hm hS (fun b' o hb' e => kp6 _ _ (bt _ _ hb' (sH5 _ _ e))) (D6.same kp6)
/-! ### _law_all -/
def spLAll (CS : Addr) : Sp := fun vs H Q _ => ∃ (p : Addr) (d b : Nat), vs = [.ref p] ∧ d ≤ 3 ∧ d * b ≤ 8 ∧ 1 ≤ b ∧ SpaceAt CS H p d b ∧ ∀ H' L as, Same H H' → H' L = some (.lst (as.map V.ref)) → TupsAt H' as (allPts (2 ^ b) d) → Q (.ref L) H'
theorem allPts_len (s : Nat) : ∀ d, (allPts s d).length = s ^ d
  | 0 => rfl
  | d + 1 => by
    show ((allPts s d).flatMap fun p => (List.range s).map fun x => p ++ [x]).length = _
    rw [List.length_flatMap]
    simp only [List.length_map, List.length_range]
    rw [List.map_const', List.sum_replicate_nat, allPts_len s d, Nat.pow_succ]
theorem allPts_mem {s : Nat} : ∀ {d : Nat} {p : List Nat}, p ∈ allPts s d → p.length = d ∧ ∀ x ∈ p, x < s
  | 0, p, h => by
    have h' : p = [] := by simpa [allPts] using h
    subst h'
    exact ⟨rfl, fun x hx => by cases hx⟩
  | d + 1, p, h => by
    obtain ⟨q, hq, hp⟩ := List.mem_flatMap.mp h
    obtain ⟨x, hx, rfl⟩ := List.mem_map.mp hp
    obtain ⟨h1, h2⟩ := allPts_mem hq
    refine ⟨by rw [List.length_append, h1]; rfl, fun y hy => ?_⟩
    rcases List.mem_append.mp hy with hy | hy
    · exact h2 y hy
    · rcases List.mem_cons.mp hy with rfl | hy
      · exact List.mem_range.mp hx
      · cases hy
theorem flat_len (s : Nat) (l : List (List Nat)) : (l.flatMap fun p => (List.range s).map fun x => p ++ [x]).length = l.length * s := by
  rw [List.length_flatMap]
  simp only [List.length_map, List.length_range]
  rw [List.map_const', List.sum_replicate_nat]
theorem scLAll : FnScope ["_law_space_here", "_law_found", "_law_axis", "_law_late", "_law_point_here", "_law_number_here"] ["_law_space_here"] (defScope sLAll) := ⟨rfl, rfl, rfl, by decide +kernel, rfl, by decide +kernel, by decide +kernel⟩
theorem ok_lall {f : Addr} {fd : FuncData} (F : Fun K "_law_all" "_law_all" sLAll f fd) (T : Txt K mg CS CB) : FnOk P w K mg base CX0 1 f fd ["_law_space_here"] (spLAll CS) := by
  refine F.ok scLAll (fun vs H Q E h => ?_) (fun cdv A outer s H vs Q E hr h => ?_)
  · obtain ⟨p, d, b, rfl, _⟩ := h
    rfl
  · obtain ⟨p, d, b, rfl, hd, hD, hb, S, q⟩ := h
    obtain ⟨dx, hp⟩ := id S
    refine ⟨_, pss_cons (ps_set (i := 1) scLAll.nd rfl (Or.inl rfl) (pe_lst (pa_cons (pe_tup pa_nil) pa_nil)))
      (pss_cons (ps_for PassesOwn.never rfl (pi_range1 rfl T.range (pa_cons (pe_fld (pv 0) rfl) pa_nil)) (pg_name (i := 2) scLAll.nd rfl (Or.inl rfl))
        (pss_cons (ps_set (i := 3) scLAll.nd rfl (Or.inl rfl) (pe_lst pa_nil))
        (pss_cons (ps_for PassesOwn.never rfl (pi_list (pv 1)) (pg_name (i := 4) scLAll.nd rfl (Or.inr rfl))
          (pss_one (ps_aug (i := 3) scLAll.nd rfl (Or.inl rfl)
            (pe_lc (own := [("_law_number_here", 5)]) (g := gName 5) (tt := tYes) rfl scLAll.nd (pi_range1 rfl T.range (pa_cons (pe_fld (pv 0) rfl) pa_nil))
              (blkOk_by (N := ["_law_space_here", "_law_found", "_law_axis", "_law_late", "_law_point_here", "_law_number_here"]) (sc := defScope sLAll) (by decide +kernel)) (fun _ _ _ _ _ => pg_name (i := 5) scLAll.nd rfl (Or.inl rfl)) (fun _ _ _ _ _ => pts_nil)
              (fun _ _ _ _ _ => pe_op (r := rCatA K) op_catA (pv 4) (pe_tup (pa_cons (pv 5) pa_nil)))) iop_ext)))
        (pss_one (ps_set (i := 1) scLAll.nd rfl (Or.inl rfl) (pv 3))))))
      (pss_one (ps_ret (pv 1)))), ?_⟩
    refine ⟨by show 0 ≤ sizeLine; exact Nat.zero_le _, fun t0 ht0 => ⟨by show 1 ≤ sizeLine; decide, fun F0 hF0 => ?_⟩⟩
    have s0 : Same H (upd H t0 (.tup [])) := same_upd ht0
    have s1 : Same (upd H t0 (.tup [])) (upd (upd H t0 (.tup [])) F0 (.lst [.ref t0])) := same_upd hF0
    have s01 := s0.trans s1
    have hs : ∀ i, i ≤ d → (2 ^ b) ^ i ≤ 256 := fun i hi => by
      rw [← Nat.pow_mul]
      have h1 : b * i ≤ 8 := Nat.le_trans (Nat.mul_le_mul_left b hi) (by rw [Nat.mul_comm]; exact hD)
      exact (Nat.pow_le_pow_right (by decide) h1 : 2 ^ (b * i) ≤ 2 ^ 8)
    refine ⟨_, rfl, p, CS, dx, _, _, rfl, s01 _ _ hp, T.clS, T.sDim, sFl_dim _ _, d, rfl, by omega, by omega, for_range (lo := 0) (n := d) (fun i σ H2 => Same H H2 ∧ ∃ Fa as v2 v3 v4, σ = [some (.ref p), some (.ref Fa), v2, v3, v4, none] ∧ H2 Fa = some (.lst (as.map V.ref)) ∧ TupsAt H2 as (allPts (2 ^ b) i))
      ⟨s01, F0, [t0], none, none, none, rfl, upd_same, .cons (s1 _ _ upd_same) .nil⟩ ?_ ?_⟩
    · rintro i σ H2 hi ⟨s2, Fa, as, v2, v3, v4, rfl, hFa, tas⟩
      refine ⟨by show 0 ≤ sizeLine; exact Nat.zero_le _, fun L hL => ?_⟩
      have las : as.length = (2 ^ b) ^ i := by rw [Paired.length tas, allPts_len]
      refine ⟨_, rfl, Fa, rfl, ⟨_, .inl (.inl (same_upd hL _ _ hFa))⟩, for_list (K := K) (a := Fa) (xs := as.map V.ref) (fun j σ H3 => Same H2 H3 ∧ ∃ bs v4, H3 L = some (.lst (bs.map V.ref)) ∧ TupsAt H3 bs (((allPts (2 ^ b) i).take j).flatMap fun p => (List.range (2 ^ b)).map fun x => p ++ [x]) ∧ σ = [some (.ref p), some (.ref Fa), some (.int (0 + (i : Int))), some (.ref L), v4, none])
        ⟨same_upd hL, [], v4, upd_same, .nil, rfl⟩ (fun j σ H3 _ ⟨s3, _⟩ => .inl (.inl (s3 _ _ hFa))) ?_ ?_⟩
      · rintro j x σ H3 hj ⟨s3, bs, v4, hL3, tbs, rfl⟩
        obtain ⟨a, ha, rfl⟩ : ∃ a, as[j]? = some a ∧ x = V.ref a := by
          rw [List.getElem?_map] at hj
          cases e : as[j]? with
          | none => rw [e] at hj; cases hj
          | some a => rw [e] at hj; exact ⟨a, rfl, (Option.some.inj hj).symm⟩
        obtain ⟨pt, hpt, hta⟩ := tas.get ha
        have hta3 := s3 _ _ hta
        have lpt : pt.length = i := (allPts_mem (List.mem_of_getElem? hpt)).1
        have h256 := hs (i + 1) hi
        have hside : 2 ^ b ≤ 256 := by have := hs 1 (by omega); rw [Nat.pow_one] at this; exact this
        refine ⟨_, rfl, _, rfl, p, CS, dx, _, _, rfl, s3 _ _ (s2 _ _ hp), T.clS, T.sSide, sFl_side _ _, ((2 ^ b : Nat) : Int), rfl, Int.le_trans (by decide) (Int.natCast_nonneg _), Int.lt_of_le_of_lt (Int.ofNat_le.mpr hside) (by decide), fun D hD => ?_⟩
        have hDL : D ≠ L := fun z => by rw [z, hL3] at hD; cases hD
        refine lc_range (lo := 0) (n := 2 ^ b) (fun k H4 => Same H3 H4 ∧ ∃ cs, H4 D = some (.lst (cs.map V.ref)) ∧ TupsAt H4 cs ((List.range k).map fun x => pt ++ [x])) ⟨same_upd hD, [], upd_same, .nil⟩ ?_ ?_
        · rintro k H4 hk ⟨s4, cs, hD4, tcs⟩
          have lcs : cs.length = k := by have e := Paired.length tcs; rw [List.length_map, List.length_range] at e; exact e
          have fin : ∀ (H5 : Hp) (y : Addr), Same H4 H5 → TupAt H5 y (pt ++ [k]) → ∃ acc, H5 D = some (.lst acc) ∧ acc.length < sizeLine ∧ (Same H3 (upd H5 D (.lst (acc ++ [V.ref y]))) ∧ ∃ cs, upd H5 D (.lst (acc ++ [V.ref y])) D = some (.lst (cs.map V.ref)) ∧ TupsAt (upd H5 D (.lst (acc ++ [V.ref y]))) cs ((List.range (k + 1)).map fun x => pt ++ [x])) := by
            intro H5 y s5 hy
            refine ⟨_, s5 _ _ hD4, by rw [List.length_map, lcs]; exact small1000 (by omega), same_at (s4.trans s5) hD, cs ++ [y], ?_, ?_⟩
            · rw [List.map_append]
              exact upd_same
            · rw [List.range_succ, List.map_append]
              exact tups_upd (TupsAt.snoc hy (tcs.same s5)) (s5 _ _ hD4)
          refine ⟨rfl, _, rfl, _, rfl, by show 1 ≤ sizeLine; decide, fun c hc => ?_⟩
          have s5 : Same H4 (upd H4 c (.tup [V.int (0 + (k : Int))])) := same_upd hc
          have gc : upd H4 c (.tup [V.int (0 + (k : Int))]) c = some (.tup [V.int (0 + (k : Int))]) := upd_same
          have ek : V.int (0 + (k : Int)) = V.int (k : Int) := by rw [Int.zero_add]
          refine ⟨a, c, _, _, rfl, rfl, .inl (.inl (s5 _ _ (s4 _ _ hta3))), .inl (.inl gc), ?_, fun hx => ?_, fun _ hy => (by cases hy), fun _ _ y hy => ?_⟩
          · rw [List.length_map, lpt]
            show i + 1 ≤ sizeLine
            exact Nat.le_trans (by omega : i + 1 ≤ 4) (by decide)
          · have hp0 : pt = [] := by simpa using hx
            subst hp0
            exact fin _ c s5 (by rw [ek] at gc; rw [ek]; exact gc)
          · refine fin _ y (s5.trans (same_upd hy)) ?_
            refine upd_same.trans ?_
            rw [ek]
            show some (HO.tup (iV pt ++ [V.int (k : Int)])) = some (HO.tup (iV (pt ++ [k])))
            simp
        · rintro H4 ⟨s4, cs, hD4, tcs⟩
          have lcs : cs.length = 2 ^ b := by have e := Paired.length tcs; rw [List.length_map, List.length_range] at e; exact e
          have lbs : bs.length ≤ 256 := by
            rw [Paired.length tbs, flat_len]
            have h1 : ((allPts (2 ^ b) i).take j).length ≤ (2 ^ b) ^ i := by rw [List.length_take, allPts_len]; exact Nat.min_le_right _ _
            have h2 : ((allPts (2 ^ b) i).take j).length * 2 ^ b ≤ (2 ^ b) ^ i * 2 ^ b := Nat.mul_le_mul_right _ h1
            rw [Nat.pow_succ] at h256
            omega
          have hL4 := s4 _ _ hL3
          refine ⟨L, D, _, _, rfl, rfl, hL4, hD4, ?_, ?_⟩
          · rw [List.length_map, List.length_map, lcs]
            exact Nat.le_trans (by omega : bs.length + 2 ^ b ≤ 512) (by decide)
          have app : ∀ {H' : Hp} {a b : List Addr} {p r : List (List Nat)}, TupsAt H' a p → TupsAt H' b r → TupsAt H' (a ++ b) (p ++ r) := fun {H' a b p r} h1 h2 => by
            induction h1 with
            | nil => exact h2
            | cons x _ ih => exact .cons x ih
          refine ⟨same_at (s3.trans s4) hL, bs ++ cs, some (V.ref a), ?_, ?_, rfl⟩
          · rw [List.map_append]
            exact upd_same
          · rw [List.take_add_one, hpt, List.flatMap_append]
            refine tups_upd (app (tbs.same s4) ?_) hL4
            simpa using tcs
      · rintro σ H3 ⟨s3, bs, v4, hL3, tbs, rfl⟩
        refine ⟨_, rfl, s2.trans s3, L, bs, _, _, _, rfl, hL3, ?_⟩
        rw [List.length_map, las, List.take_of_length_le (Nat.le_of_eq (allPts_len _ _))] at tbs
        exact tbs
    · rintro σ H2 ⟨s2, Fa, as, v2, v3, v4, rfl, hFa, tas⟩
      exact ⟨_, rfl, q _ Fa as s2 hFa tas⟩
end
end FC

set_option Elab.async false
set_option linter.all false
set_option maxRecDepth 100000
set_option maxHeartbeats 4000000
/-! _law_is_refused -/
namespace FC
open PySem PySem.Spec PyProof.Rows L2 FE
section
variable {X : Cx} {CC : CXT} {k : Nat} {f C : Addr} {fd : FuncData} {ps : List Str} {sp : Sp} {E : L2.St → XK} {x m : Str} {p pos : Pos} {e o : Expr} {es : List Expr} {t : TA}
/-- C(..) whose __init__ may raise: what it lets out may look at the slots -/
def tMakeS (C : Addr) (sp : Sp) (E : L2.St → XK) (t : TA) : TE := fun σ H Q => t σ H fun vs H1 => ∀ x dx, H1 x = none → H1 dx = none → dx ≠ x → sp (.ref x :: vs) (upd (upd H1 dx (.own x)) x (.ins C dx [])) (fun v H2 => v = .non ∧ Q (.ref x) H2) (E σ)
theorem run_makeS {pins : List (Addr × Obj)} {σ : L2.St} {H : Hp} {s : Shared} {Q : VK} {us : List Value} {vs : List V} (M : Mk X.K C f) (F : FnOk X.prog X.w X.K X.mg X.base CC k f fd ps sp) (hr : Room (k + 1) X.A) (hb : Binds X.K fd ps [])
    (hx : PassesAt CC X σ (E σ)) (I : Inv X pins σ H s) (r : Vals vs us)
    (h : ∀ x dx, H x = none → H dx = none → dx ≠ x → sp (.ref x :: vs) (upd (upd H dx (.own x)) x (.ins C dx [])) (fun v H2 => v = .non ∧ Q (.ref x) H2) (E σ)) :
    wpAny (model X.prog X.w) X.A (call (.ref C) us) (EP X pins σ Q) X.xe s := by
  have hq := h (s.heap.objs.size + 1) s.heap.objs.size (I.hok.fresh (Nat.le_succ _)) (I.hok.fresh (Nat.le_refl _)) (Nat.ne_of_lt (Nat.lt_succ_self _))
  have I2 := Inv.made (C := C) I
  have r2 : Vals (V.ref (s.heap.objs.size + 1) :: vs) (Value.ref (s.heap.objs.size + 1) :: us) := .cons rfl r
  have hl : (Value.ref (s.heap.objs.size + 1) :: us ++ []).length = ps.length := by
    have e := r2.length
    rw [F.len _ _ _ _ hq] at e
    rw [List.append_nil]
    exact e.symm
  have bb := hb _ (Value.ref (s.heap.objs.size + 1) :: us) I2.kIn hl
  rw [List.append_nil] at bb
  refine wpAny_call (make_map (f := f) I.kIn M.makes M.init (beq_iff_eq.mp M.fn) (codeAny_mono (F.run _ X.stack _ _ ⟨Value.ref (s.heap.objs.size + 1) :: us, []⟩ (Value.ref (s.heap.objs.size + 1) :: us) _ _ (E σ) (hr.make C us [])
    (I2.env0.make C us []) bb r2 hq) fun r s' hq' => ?_))
  cases r with
  | error e => exact hx pins _ _ e s' I2 hq'
  | ok fl =>
    cases fl with
    | ret u =>
      obtain ⟨v, H', I3, rv, ev, q3⟩ := I2.after hq'
      subst ev
      exact ⟨rv, ⟨V.ref (s.heap.objs.size + 1), H', I3, rfl, q3⟩⟩
    | next => exact False.elim hq'
    | brk => exact False.elim hq'
    | cont => exact False.elim hq'
theorem pe_makeS (M : Mk X.K C f) (F : FnOk X.prog X.w X.K X.mg X.base CC k f fd ps sp) (hr : Room (k + 1) X.A) (hg : Gl X x) (hm : X.mg x = some (.ref C)) (hb : Binds X.K fd ps []) (hx : ∀ σ, PassesAt CC X σ (E σ))
    (ha : PA X (e :: es) t) (hdb : (x == ("__debug__" : Str)) = false := by decide) (he : starEach (e :: es) X.env = (false, eval e X.env) :: starEach es X.env := by rfl) (hpl : (backTo pos (starEach es X.env)).any (·.1) = false := by rfl) :
    PE X (.Call (.Name x p) (e :: es) [] pos) (tMakeS C sp E t) := by
  refine ⟨fun pins s σ H Q I h => ?_⟩
  refine wpAny_Call_Name_kw (ld_glob I hg hm ?_ hdb)
  refine PySem.W.callWith_K (h₀ := X.base) I.ok.mod.kin M.kp (thn (ha.run pos pins s σ H _ I h) fun us s1 ⟨vs, H1, I1, r, q⟩ => ⟨I1.kIn, ?_⟩) he hpl
  exact run_makeS M F hr hb (hx σ) I1 r q
end
/-- what is refused, and with which word -/
def spRefused : Sp := fun vs H Q _ => ∃ (x y : V) (z : Str), vs = [x, y, .str z] ∧ ((badNum x 3 ∧ z = "dimensions") ∨ (okNum x 3 ∧ badNum y 10 ∧ z = "bits")) ∧ ∀ H', Same H H' → Q (.bl true) H'
section
variable {w : World} {K : PySem.W.Frag} {mg : Str → Option Value} {base : Heap} {CS CB CE : Addr}
theorem scRef : FnScope ["_law_dimensions", "_law_bits_here", "_law_word", "bad"] ["_law_dimensions", "_law_bits_here", "_law_word"] (defScope sRefused) := ⟨rfl, rfl, rfl, by decide +kernel, rfl, by decide +kernel, by decide +kernel⟩
theorem ok_refused {f fI C fB cc cda : Addr} {fd fdI : FuncData} (F : Fun K "_law_is_refused" "_law_is_refused" sRefused f fd) (T : Txt K mg CS CB) (B : BadTxt K mg C CE fB cc cda) (XF : XfC K C) (hno : PySem.W.findIn K (.ref C) "word" = some none)
    (hm : PySem.W.exmOne K (.ref C) (.ref C) = some true) (M : Mk K CS fI)
    (GI : FnOk prg w K mg base (L2.CX prg w) 2 fI fdI ["self", "dimensions", "bits"] (spSpBad CS C)) (bI : Binds K fdI ["self", "dimensions", "bits"] []) :
    FnOk prg w K mg base CX0 4 f fd ["_law_dimensions", "_law_bits_here", "_law_word"] spRefused := by
  refine F.ok scRef (fun vs H Q E h => ?_) (fun cdv A outer s H vs Q E hr h => ?_)
  · obtain ⟨x, y, z, rfl, _⟩ := h
    rfl
  · obtain ⟨x, y, z, rfl, hc, q⟩ := h
    refine ⟨_, pss_cons (ps_try_as (i := 3) (Wout := fun _ _ _ _ => False) rfl rfl scRef.nd rfl rfl ⟨rfl, by decide, .inl B.gC⟩ takes0
      (fun W pn xe tk _ => pss_one (ps_expr (pe_makeS (E := WE W) M GI (hr.mono (by omega)) rfl T.mgS bI (fun σ => passAt tk σ) (pa_cons (pv 0) (pa_cons (pv 1) pa_nil)))))
      (fun a oe cls d pn hz hf => pss_one (ps_ret (pe_cmpR op_eq (pe_xf XF hno hz hf (pv 3)) (pv 2) (nomark _))))) pss_never, ?_⟩
    refine ⟨_, rfl, _, rfl, fun y' dy hy hdy hne => ?_⟩
    refine ⟨_, dy, _, _, z, rfl, upd_same, hc, fun d hd => ?_⟩
    refine ⟨true, hm, fun _ a ha => ?_, fun h => by cases h⟩
    refine ⟨_, rfl, rfl, rfl, d, _, .str z, rfl, upd_same, (by simp [List.lookup]), _, rfl, rfl, ?_⟩
    rw [decide_eq_true rfl]
    refine q _ fun b o e => ?_
    have n1 : b ≠ dy := ne_of_none e hdy
    have n2 : b ≠ y' := ne_of_none e hy
    have e2 : upd (upd H dy (.own y')) y' (.ins CS dy []) b = some o := by rw [upd_ne n2, upd_ne n1]; exact e
    rw [upd_ne (ne_of_none e2 hd)]
    exact e2
end
end FC

set_option Elab.async false
set_option linter.all false
set_option maxRecDepth 100000
set_option maxHeartbeats 4000000
/-! _law_as_told -/
namespace FC
open PySem PySem.Spec PyProof.Rows L2 FR
def spTold : Sp := fun vs H Q _ => vs = [] ∧ ∀ H', Same H H' → Q (.bl true) H'
theorem rep_iV (d n : Nat) : (List.replicate d [V.int (n : Int)]).flatten = iV (List.replicate d n) := by
  induction d with
  | zero => rfl
  | succ d ih => rw [List.replicate_succ, List.flatten_cons, ih]; rfl
theorem rep_pt {d b n : Nat} (h : n < 2 ^ b) : IsPt d b (List.replicate d n) := ⟨List.length_replicate, fun x hx => by rw [List.eq_of_mem_replicate hx]; exact h⟩
/-- 1 << n, 2 to the n less one, numbers times numbers -/
theorem op_shlN {X : Cx} : OpR X (binaryOp .LShift) (fun x y H Q => ∃ n : Nat, x = .int 1 ∧ y = .int (n : Int) ∧ n ≤ 1000 ∧ Q (.int ((2 ^ n : Nat) : Int)) H) := by
  intro pins s σ H x y v u Q I rx ry h
  obtain ⟨n, hx, hy, hn, q⟩ := h
  refine op_shl pins s σ H x y v u Q I rx ry ⟨1, (n : Int), hx, hy, ⟨by omega, by omega, by decide⟩, ?_⟩
  have e : (1 : Int) * 2 ^ ((n : Int)).toNat = ((2 ^ n : Nat) : Int) := by rw [Int.toNat_natCast, Int.one_mul, Int.natCast_pow]; rfl
  show Q (.int ((1 : Int) * 2 ^ ((n : Int)).toNat)) H
  rw [e]
  exact q
theorem op_predN {X : Cx} : OpR X (binaryOp .Sub) (fun x y H Q => ∃ n : Nat, 1 ≤ n ∧ x = .int (n : Int) ∧ y = .int 1 ∧ Q (.int ((n - 1 : Nat) : Int)) H) := by
  intro pins s σ H x y v u Q I rx ry h
  obtain ⟨n, h1, hx, hy, q⟩ := h
  refine op_sub pins s σ H x y v u Q I rx ry ⟨(n : Int), 1, hx, hy, ?_⟩
  have e : (n : Int) - 1 = ((n - 1 : Nat) : Int) := by omega
  show Q (.int ((n : Int) - 1)) H
  rw [e]
  exact q
theorem op_mulN {X : Cx} : OpR X (binaryOp .Mult) (fun x y H Q => ∃ n m : Nat, x = .int (n : Int) ∧ y = .int (m : Int) ∧ n ≤ 1000 ∧ Q (.int ((n * m : Nat) : Int)) H) := by
  intro pins s σ H x y v u Q I rx ry h
  obtain ⟨n, m, hx, hy, h1, q⟩ := h
  refine op_mul pins s σ H x y v u Q I rx ry ⟨(n : Int), (m : Int), hx, hy, .inl ⟨by omega, by omega⟩, ?_⟩
  show Q (.int ((n : Int) * (m : Int))) H
  rw [← Int.natCast_mul]
  exact q
section
variable {P : Program} {w : World} {K : PySem.W.Frag} {mg : Str → Option Value} {base : Heap} {CS CB : Addr}
theorem scTold : FnScope ["_law_dimensions", "_law_bits_here", "_law_space_here", "_law_side", "_law_last"] [] (defScope sTold) := ⟨rfl, rfl, rfl, by decide +kernel, rfl, by decide +kernel, by decide +kernel⟩
theorem ok_told {f fI fW fP fE : Addr} {fd fdI fdW fdP fdE : FuncData} (F : Fun K "_law_as_told" "_law_as_told" sTold f fd) (T : Txt K mg CS CB)
    (M : Mk K CS fI) (GI : FnOk P w K mg base CX0 2 fI fdI ["self", "dimensions", "bits"] (spSpOk CS)) (bI : Binds K fdI ["self", "dimensions", "bits"] [])
    (GW : FnOk P w K mg base CX0 4 fW fdW ["self", "point"] (spWoven CS)) (mW : Meth K CS "woven" fW) (bW : Binds K fdW ["self", "point"] [])
    (GP : FnOk P w K mg base CX0 2 fP fdP ["self", "number"] (spPointOf CS)) (mP : Meth K CS "point_of" fP) (bP : Binds K fdP ["self", "number"] [])
    (GE : FnOk P w K mg base CX0 1 fE fdE ["self", "other"] (spSpEq CS)) (hE : PySem.W.findIn K (.ref CS) "__eq__" = some (some (.ref fE))) (iE : PySem.W.isFn K (.ref fE) = true) (bE : Binds K fdE ["self", "other"] []) :
    FnOk P w K mg base CX0 5 f fd [] spTold := by
  refine F.ok scTold (fun vs H Q E h => ?_) (fun cdv A outer s H vs Q E hr h => ?_)
  · obtain ⟨rfl, _⟩ := h
    rfl
  · obtain ⟨rfl, q⟩ := h
    have hr2 : Room 2 _ := hr.mono (by decide)
    have hr3 : Room (2 + 1) _ := hr.mono (by decide)
    have hr4 : Room 4 _ := hr.mono (by decide)
    have hr1 : Room (1 + 1) _ := hr.mono (by decide)
    have hr0 : Room 1 _ := hr.mono (by decide)
    refine ⟨_, pss_cons (ps_for PassesOwn.never rfl (pi_tup (pe_tup (pa_cons pe_int (pa_cons pe_int (pa_cons pe_int pa_nil))))) (pg_name (i := 0) scTold.nd rfl (Or.inl rfl))
      (pss_one (ps_for PassesOwn.never rfl (pi_range2 rfl T.range (pa_cons pe_int (pa_cons pe_int pa_nil))) (pg_name (i := 1) scTold.nd rfl (Or.inl rfl))
        (pss_cons (ps_par (i := 2) (j := 3) (by rfl) scTold.nd rfl rfl (by decide) rfl rfl (pa_cons (pe_make M GI hr3 rfl T.mgS bI .nil pass0 (pa_cons (pv 0) (pa_cons (pv 1) pa_nil))) (pa_cons (pe_op op_shlN pe_int (pv 1)) pa_nil)) (by rfl))
        (pss_cons (ps_if (pt_cmpR (op_neD hr.units) (pe_tup (pa_cons (pe_fld (pv 2) rfl) (pa_cons (pe_fld (pv 2) rfl) (pa_cons (pe_fld (pv 2) rfl) (pa_cons (pe_fld (pv 2) rfl) pa_nil)))))
            (pe_tup (pa_cons (pv 0) (pa_cons (pv 1) (pa_cons (pe_op op_mulN (pv 0) (pv 1)) (pa_cons (pv 3) pa_nil))))) (nomark _)) pss_never pss_nil)
        (pss_cons (ps_set (i := 4) scTold.nd rfl (Or.inl rfl) (pe_op op_predN (pe_op op_shlN pe_int (pe_op op_mulN (pv 0) (pv 1))) pe_int))
        (pss_cons (ps_if (pw_or (pt_cmpR op_ne (pe_meth (pv 2) T.clS mW GW hr4 bW .nil pass0 (pa_cons (pe_op op_repN (pe_tup (pa_cons (pe_op op_predN (pv 3) pe_int) pa_nil)) (pv 0)) pa_nil)) (pv 4) (nomark _))
            (pw_or1 (pt_cmpR (op_neD hr.units) (pe_meth (pv 2) T.clS mP GP hr2 bP .nil pass0 (pa_cons (pv 4) pa_nil)) (pe_op op_repN (pe_tup (pa_cons (pe_op op_predN (pv 3) pe_int) pa_nil)) (pv 0)) (nomark _)))).pt pss_never pss_nil)
        (pss_one (ps_if (pw_or (pt_cmpR op_ne (pe_meth (pv 2) T.clS mW GW hr4 bW .nil pass0 (pa_cons (pe_op op_repN (pe_tup (pa_cons pe_int pa_nil)) (pv 0)) pa_nil)) pe_int (nomark _))
            (pw_or (pt_cmpR (op_neOwn GE hr1 hE iE bE T.neS T.obS) (pv 2) (pe_make M GI hr3 (by rfl) T.mgS bI .nil pass0 (pa_cons (pv 0) (pa_cons (pv 1) pa_nil))) (nomark _))
            (pw_or1 (pt_cmpR (op_eqOwn GE hr0 hE iE bE) (pv 2) (pe_make M GI hr3 (by rfl) T.mgS bI .nil pass0 (pa_cons (pv 0) (pa_cons (pe_op op_add (pe_op op_mod (pe_callTy call_int1 (by rfl) T.int (by decide +kernel) (pa_cons (pv 1) pa_nil)) pe_int) pe_int) pa_nil))) (nomark _))))).pt pss_never pss_nil)))))))))
      (pss_one (ps_ret pe_bl)), ?_⟩
    refine ⟨(by show 3 ≤ sizeLine; decide), fun t3 ht3 => ?_⟩
    have s0 : Same H (upd H t3 (.tup [V.int 1, V.int 2, V.int 3])) := same_upd ht3
    have g3 : upd H t3 (.tup [V.int 1, V.int 2, V.int 3]) t3 = some (.tup [V.int 1, V.int 2, V.int 3]) := upd_same
    generalize upd H t3 (.tup [V.int 1, V.int 2, V.int 3]) = H1 at s0 g3 ⊢
    refine ⟨t3, rfl, ⟨_, .inl (.inl g3)⟩, for_tup (K := K) (a := t3) (xs := [V.int 1, V.int 2, V.int 3]) (fun j σ H2 => Same H1 H2 ∧ ∃ v0 v1 v2 v3 v4, σ = [v0, v1, v2, v3, v4]) ⟨Same.refl _, _, _, _, _, _, rfl⟩ (fun j σ H2 _ ⟨s2, _⟩ => .inl (.inl (s2 _ _ g3))) ?_ ?_⟩
    · rintro j x σ H2 hj ⟨s2, v0, v1, v2, v3, v4, rfl⟩
      obtain ⟨d, hd1, hd3, rfl⟩ : ∃ d : Nat, 1 ≤ d ∧ d ≤ 3 ∧ x = V.int (d : Int) := by
        match j, hj with
        | 0, h => exact ⟨1, by omega, by omega, (Option.some.inj h).symm⟩
        | 1, h => exact ⟨2, by omega, by omega, (Option.some.inj h).symm⟩
        | 2, h => exact ⟨3, by omega, by omega, (Option.some.inj h).symm⟩
      refine ⟨1, 11, rfl, (by decide), for_range (lo := 1) (n := 10) (fun i σ H3 => Same H1 H3 ∧ ∃ v1 v2 v3 v4, σ = [some (.int (d : Int)), v1, v2, v3, v4]) ⟨s2, _, _, _, _, rfl⟩ ?_ ?_⟩
      · rintro i σ H3 hi ⟨s3, v1, v2, v3, v4, rfl⟩
        obtain ⟨b, hb1, hb2, eb⟩ : ∃ b : Nat, 1 ≤ b ∧ b ≤ 10 ∧ (1 : Int) + (i : Int) = (b : Int) := ⟨i + 1, by omega, by omega, by omega⟩
        rw [eb]
        have hdb : 1 ≤ d ∧ d ≤ 3 ∧ 1 ≤ b ∧ b ≤ 10 := ⟨hd1, hd3, hb1, hb2⟩
        have hDn : d * b ≤ 30 := Nat.mul_le_mul hd3 hb2
        obtain ⟨m1, m2, m3⟩ := told_ok hd1 hd3 hb1 hb2
        have mk : ∀ {H4 : Hp} {y dy : Addr}, H4 y = none → H4 dy = none → Same H4 (upd (upd H4 dy (.own y)) y (.ins CS dy [])) := fun {H4 y dy} hy hdy b' o e => by
          rw [upd_ne (ne_of_none e hy), upd_ne (ne_of_none e hdy)]
          exact e
        refine ⟨_, rfl, _, rfl, fun p dp hp hdp _ => ?_⟩
        refine ⟨p, dp, d, b, rfl, hdb, upd_same, fun H4 S kp => ⟨rfl, ?_⟩⟩
        have s4 : Same H3 H4 := fun b' o e => kp b' o (ne_of_none e hp) (mk hp hdp _ _ e)
        obtain ⟨dx, hp4⟩ := id S
        have two : 1 ≤ 2 ^ b := Nat.two_pow_pos b
        have twoD : 1 ≤ 2 ^ (d * b) := Nat.two_pow_pos _
        refine ⟨_, rfl, b, rfl, rfl, by omega, ⟨_, _, rfl, ?_⟩⟩
        refine ⟨_, rfl, p, CS, dx, _, _, rfl, hp4, T.clS, T.sDim, sFl_dim _ _, _, rfl, p, CS, dx, _, _, rfl, hp4, T.clS, T.sBits, sFl_bits _ _, _, rfl, p, CS, dx, _, _, rfl, hp4, T.clS, T.sDepth, sFl_depth _ _, _, rfl, p, CS, dx, _, _, rfl, hp4, T.clS, T.sSide, sFl_side _ _, (by show 4 ≤ sizeLine; decide), fun t ht => ?_⟩
        have s5 : Same H4 (upd H4 t (.tup [V.int (d : Int), V.int (b : Int), V.int ((d * b : Nat) : Int), V.int ((2 ^ b : Nat) : Int)])) := same_upd ht
        have g5 : upd H4 t (.tup [V.int (d : Int), V.int (b : Int), V.int ((d * b : Nat) : Int), V.int ((2 ^ b : Nat) : Int)]) t = some (.tup [V.int (d : Int), V.int (b : Int), V.int ((d * b : Nat) : Int), V.int ((2 ^ b : Nat) : Int)]) := upd_same
        refine ⟨_, rfl, _, rfl, _, rfl, _, rfl, d, b, rfl, rfl, by omega, _, rfl, (by show 4 ≤ sizeLine; decide), fun t' ht' => ?_⟩
        have htt : t ≠ t' := ne_of_none g5 ht'
        have s6 : Same H4 (upd (upd H4 t (.tup [V.int (d : Int), V.int (b : Int), V.int ((d * b : Nat) : Int), V.int ((2 ^ b : Nat) : Int)])) t' (.tup [V.int (d : Int), V.int (b : Int), V.int ((d * b : Nat) : Int), V.int ((2 ^ b : Nat) : Int)])) := same_more s5 ht'
        refine ⟨.tuple (dI [d, b, d * b, 2 ^ b]), .tuple (dI [d, b, d * b, 2 ^ b]), dp_tup (.inl (.inl ((upd_ne htt).trans g5))), dp_tup (.inl (.inl upd_same)), shaped_tup _, shaped_tup _, ?_⟩
        refine ⟨_, rfl, ?_⟩
        rw [eqv_tup, decide_eq_true rfl]
        refine iteF ?_
        generalize upd (upd H4 t (.tup [V.int (d : Int), V.int (b : Int), V.int ((d * b : Nat) : Int), V.int ((2 ^ b : Nat) : Int)])) t' (.tup [V.int (d : Int), V.int (b : Int), V.int ((d * b : Nat) : Int), V.int ((2 ^ b : Nat) : Int)]) = H6 at s6 ⊢
        have hp6 := s6 _ _ hp4
        refine ⟨_, rfl, _, rfl, d, b, rfl, rfl, by omega, d * b, rfl, rfl, by omega, _, twoD, rfl, rfl, ?_⟩
        -- the last number
        refine ⟨_, rfl, p, dx, _, rfl, hp6, sFl_no _ _ (by decide +kernel) (by decide +kernel) (by decide +kernel) (by decide +kernel), ?_⟩
        refine ⟨_, rfl, _, two, rfl, rfl, (by show 1 ≤ sizeLine; decide), fun t1 ht1 => ?_⟩
        have s7 := same_more (o := .tup [V.int ((2 ^ b - 1 : Nat) : Int)]) s6 ht1
        refine ⟨_, rfl, t1, _, rfl, d, rfl, upd_same, (by intro z; cases z), hd1, by omega, (by show 1 ≤ 1000; decide), fun u1 H7 s77 hu1 => ?_⟩
        rw [rep_iV] at hu1
        have s8 := s7.trans s77
        refine ⟨p, u1, d, b, _, rfl, hb2, ⟨dx, s8 _ _ hp4⟩, hu1, rep_pt (by omega), by rw [List.length_replicate]; omega, fun H8 s88 => ?_⟩
        rw [m1]
        have s9 := s8.trans s88
        refine ⟨_, rfl, rfl, ⟨_, rfl, ?_⟩⟩
        rw [decide_eq_true rfl]
        refine iteF ⟨_, rfl, p, dx, _, rfl, s9 _ _ hp4, sFl_no _ _ (by decide +kernel) (by decide +kernel) (by decide +kernel) (by decide +kernel), ?_⟩
        refine ⟨_, rfl, p, d, b, _, rfl, hdb, ⟨dx, s9 _ _ hp4⟩, fun H9 c9 s99 hc9 tc9 => ?_⟩
        rw [m2] at tc9
        have s10 := s9.trans s99
        refine ⟨_, rfl, _, two, rfl, rfl, (by show 1 ≤ sizeLine; decide), fun t2 ht2 => ?_⟩
        have s11 := same_more (o := .tup [V.int ((2 ^ b - 1 : Nat) : Int)]) s10 ht2
        have tc10 : TupAt (upd H9 t2 (.tup [V.int ((2 ^ b - 1 : Nat) : Int)])) c9 (List.replicate d (2 ^ b - 1)) := (same_upd ht2) _ _ tc9
        refine ⟨_, rfl, t2, _, rfl, d, rfl, upd_same, (by intro z; cases z), hd1, by omega, (by show 1 ≤ 1000; decide), fun u2 H11 s111 hu2 => ?_⟩
        rw [rep_iV] at hu2
        have s12 := s11.trans s111
        refine ⟨.tuple (dI (List.replicate d (2 ^ b - 1))), .tuple (dI (List.replicate d (2 ^ b - 1))), dp_tup (.inl (.inl (s111 _ _ tc10))), dp_tup (.inl (.inl hu2)), shaped_tup _, shaped_tup _, _, rfl, ?_⟩
        rw [eqv_tup, decide_eq_true rfl]
        refine iteF ?_
        -- zeros
        refine ⟨_, rfl, p, dx, _, rfl, s12 _ _ hp4, sFl_no _ _ (by decide +kernel) (by decide +kernel) (by decide +kernel) (by decide +kernel), ?_⟩
        refine ⟨(by show 1 ≤ sizeLine; decide), fun t3 ht3 => ?_⟩
        have s13 := same_more (o := .tup [V.int ((0 : Nat) : Int)]) s12 ht3
        refine ⟨_, rfl, t3, [V.int ((0 : Nat) : Int)], rfl, d, rfl, upd_same, (by intro z; cases z), hd1, by omega, (by show 1 ≤ 1000; decide), fun u3 H13 s133 hu3 => ?_⟩
        rw [rep_iV] at hu3
        have s14 := s13.trans s133
        refine ⟨p, u3, d, b, _, rfl, hb2, ⟨dx, s14 _ _ hp4⟩, hu3, rep_pt (by omega), by rw [List.length_replicate]; omega, fun H14 s144 => ?_⟩
        rw [m3]
        have s15 := s14.trans s144
        refine ⟨rfl, ⟨_, rfl, ?_⟩⟩
        refine iteF ⟨_, rfl, _, rfl, _, rfl, fun r dr hr dhr _ => ?_⟩
        refine ⟨r, dr, d, b, rfl, hdb, upd_same, fun H15 S15 kp15 => ⟨rfl, ?_⟩⟩
        have s16 : Same H4 H15 := s15.trans fun b' o e => kp15 b' o (ne_of_none e hr) (mk hr dhr _ _ e)
        obtain ⟨ey, hy15⟩ := id S15
        refine ⟨p, r, dx, ey, _, _, rfl, rfl, s16 _ _ hp4, hy15, p, r, d, b, d, b, rfl, ⟨dx, s16 _ _ hp4⟩, S15, fun H16 s166 => ⟨_, rfl, _, rfl, ?_⟩⟩
        rw [decide_eq_true (⟨rfl, rfl⟩ : d = d ∧ b = b)]
        have s17 := s16.trans s166
        refine iteF ⟨_, rfl, _, rfl, _, rfl, .inl ⟨_, rfl, _, _, rfl, rfl, (by show (0 : Int) < 10; decide), _, _, rfl, rfl, ?_⟩⟩
        intro z dz hz hdz _
        obtain ⟨b', hb', eb'⟩ : ∃ b' : Nat, (1 ≤ b' ∧ b' ≤ 10 ∧ b' ≠ b) ∧ (b : Int) % 10 + 1 = (b' : Int) := ⟨b % 10 + 1, ⟨by omega, by omega, by omega⟩, by omega⟩
        refine ⟨z, dz, d, b', congrArg (fun w => [V.ref z, V.int (d : Int), V.int w]) eb', ⟨hd1, hd3, hb'.1, hb'.2.1⟩, upd_same, fun H17 S17 kp17 => ⟨rfl, ?_⟩⟩
        have s18 : Same H4 H17 := s17.trans fun b'' o e => kp17 b'' o (ne_of_none e hz) (mk hz hdz _ _ e)
        obtain ⟨ez, hz17⟩ := id S17
        refine ⟨p, z, dx, ez, _, _, rfl, rfl, s18 _ _ hp4, hz17, p, z, d, b, d, b', rfl, ⟨dx, s18 _ _ hp4⟩, S17, fun H18 s188 => ⟨_, rfl, _, rfl, ?_⟩⟩
        rw [decide_eq_false (fun h : d = d ∧ b = b' => hb'.2.2 h.2.symm)]
        exact iteF ⟨((s3.trans s4).trans s18).trans s188, _, _, _, _, rfl⟩
      · rintro σ H3 ⟨s3, v1, v2, v3, v4, rfl⟩
        exact ⟨s3, _, _, _, _, _, rfl⟩
    · rintro σ H2 ⟨s2, v0, v1, v2, v3, v4, rfl⟩
      exact q _ (s0.trans s2)
end
end FC

set_option Elab.async false
set_option linter.all false
set_option maxRecDepth 100000
set_option maxHeartbeats 8000000
/-! the law -/
namespace FC
open PySem PySem.Spec PyProof.Rows L2 FR FE ZN
def spLaw (K : PySem.W.Frag) : Sp := fun vs H Q _ => ∃ (a : Addr) (ns : List Int), vs = [.ref a] ∧ SqL K H a (ns.map V.int) ∧ ns.length ≤ 63 ∧ ∀ H', Q (.bl true) H'
section
variable {w : World} {K : PySem.W.Frag} {mg : Str → Option Value} {base : Heap} {CS CB : Addr}

/-! what stays while the law draws: all but the drawn-from list -/
def Nd (o : HO) : Prop := ∀ a j, o ≠ .lst [.ref a, .int j]
def Kp (H H' : Hp) : Prop := ∀ b o, Nd o → H b = some o → H' b = some o
theorem Kp.refl (H : Hp) : Kp H H := fun _ _ _ e => e
theorem Kp.trans {H H1 H2 : Hp} (a : Kp H H1) (b : Kp H1 H2) : Kp H H2 := fun c o n e => b c o n (a c o n e)
theorem Kp.same {H H' : Hp} (s : Same H H') : Kp H H' := fun c o _ e => s c o e
theorem Kp.but {dr : Addr} {H H' : Hp} (D : Drw K H dr) (s : But dr H H') : Kp H H' := fun c o n e => s c o (fun z => by
  obtain ⟨a, j, ns, h1, _⟩ := D
  rw [z, h1] at e
  exact n a j (Option.some.inj e).symm) e
theorem Kp.tupV {H H' : Hp} (k : Kp H H') {a : Addr} {xs : List V} (h : H a = some (.tup xs)) : H' a = some (.tup xs) := k a _ (fun _ _ z => by cases z) h
theorem Kp.tup {H H' : Hp} (k : Kp H H') {a : Addr} {p : List Nat} (h : TupAt H a p) : TupAt H' a p := k.tupV h
theorem Kp.ins {H H' : Hp} (k : Kp H H') {a C dx : Addr} {fs : List (Str × V)} (h : H a = some (.ins C dx fs)) : H' a = some (.ins C dx fs) := k a _ (fun _ _ z => by cases z) h
theorem Kp.refs {H H' : Hp} (k : Kp H H') {a : Addr} {as : List Addr} (h : H a = some (.lst (as.map V.ref))) : H' a = some (.lst (as.map V.ref)) := k a _ (fun a j z => by
  have z' : as.map V.ref = [.ref a, .int j] := by injection z
  match as, z' with
  | [_, _], z' => simp at z') h
theorem Kp.nums {H H' : Hp} (k : Kp H H') {a : Addr} {p : List Nat} (h : H a = some (.lst (iV p))) : H' a = some (.lst (iV p)) := k a _ (fun a j z => by
  have z' : iV p = [.ref a, .int j] := by injection z
  match p, z' with
  | [_, _], z' => simp at z') h
theorem Kp.space {H H' : Hp} (k : Kp H H') {x : Addr} {d b : Nat} (h : SpaceAt CS H x d b) : SpaceAt CS H' x d b := let ⟨dx, q⟩ := h; ⟨dx, k.ins q⟩
theorem Kp.box {H H' : Hp} (k : Kp H H') {y x : Addr} {lo hi : List Nat} (h : BoxAt CB H y x lo hi) : BoxAt CB H' y x lo hi := let ⟨dx, tl, th, q, l, u⟩ := h; ⟨dx, tl, th, k.ins q, k.tup l, k.tup u⟩
theorem Kp.tups {H H' : Hp} (k : Kp H H') {as : List Addr} {ps : List (List Nat)} (h : TupsAt H as ps) : TupsAt H' as ps := Paired.mapP h fun a p e => k.tup e
theorem refs_get {as : List Addr} {i : Nat} {x : V} (hj : (as.map V.ref)[i]? = some x) : ∃ a, as[i]? = some a ∧ x = V.ref a := by
  rw [List.getElem?_map] at hj
  cases e : as[i]? with
  | none => rw [e] at hj; cases hj
  | some a => rw [e] at hj; exact ⟨a, rfl, (Option.some.inj hj).symm⟩
theorem iV_ints (p : List Nat) : iV p = (p.map fun n : Nat => (n : Int)).map V.int := by rw [List.map_map]; rfl
theorem rgV_range (n : Nat) : rgV 0 (n : Int) = ((List.range n).map fun x : Nat => (x : Int)).map V.int := by
  unfold rgV
  rw [List.map_map, show ((n : Int) - 0).toNat = n by omega]
  refine List.map_congr_left fun i _ => ?_
  show V.int (0 + (i : Int)) = V.int (i : Int)
  rw [Int.zero_add]
theorem pts_len {d b : Nat} : (ptsOf d b).length = 2 ^ (d * b) := by
  rw [allPts_len, ← Nat.pow_mul, Nat.mul_comm]
theorem leAll_get : ∀ {lo hi : List Nat} {d : Nat}, leAll lo hi = true → lo.length = d → hi.length = d → ∀ i, i < d → lo.getD i 0 ≤ hi.getD i 0
  | [], [], d, _, h1, _, i, hi => by simp at h1; omega
  | l :: lo, h :: hi, d + 1, e, h1, h2, i, hlt => by
    unfold leAll at e
    have e := Bool.and_eq_true_iff.mp e
    cases i with
    | zero => simpa using of_decide_eq_true e.1
    | succ i =>
      have := leAll_get e.2 (by simpa using h1) (by simpa using h2) i (by omega)
      simpa using this
  | [], _ :: _, d, _, h1, h2, i, hi => by simp at h1 h2; omega
  | _ :: _, [], d, _, h1, h2, i, hi => by simp at h1 h2; omega
  | _ :: _, _ :: _, 0, _, h1, _, _, _ => by simp at h1
theorem lo_pt {lo hi : List Nat} {d b : Nat} (e : leAll lo hi = true) (h1 : lo.length = d) (h2 : hi.length = d) (h : ∀ x ∈ hi, x < 2 ^ b) : IsPt d b lo := by
  refine ⟨h1, fun x hx => ?_⟩
  obtain ⟨i, hi'⟩ := List.getElem?_of_mem hx
  have hlt : i < d := by rw [← h1]; exact (List.getElem?_eq_some_iff.mp hi').1
  have a := leAll_get e h1 h2 i hlt
  have c := getD_lt h2 h hlt
  rw [List.getD_eq_getElem?_getD, hi'] at a
  exact Nat.lt_of_le_of_lt a c

/-- a if c else b: both ways to one end -/
theorem tIf_cont {tA : TT} {ta tb : TE} {σ : L2.St} {H : Hp} {Q : VK} (R1 : Bool → Hp → Prop) (R : V → Hp → Prop) (h1 : ∀ Kc : Bool → Hp → Prop, (∀ c H1, R1 c H1 → Kc c H1) → tA σ H Kc)
    (h2 : ∀ H1, R1 true H1 → ∀ Q' : VK, (∀ v H', R v H' → Q' v H') → ta σ H1 Q') (h3 : ∀ H1, R1 false H1 → ∀ Q' : VK, (∀ v H', R v H' → Q' v H') → tb σ H1 Q') (h : ∀ v H', R v H' → Q v H') : tIf tA ta tb σ H Q := by
  refine h1 _ fun c H1 r => ?_
  cases c with
  | true => exact iteT (h2 H1 r _ h)
  | false => exact iteF (h3 H1 r _ h)
theorem pL_get {l : List (Nat × Nat)} {j : Nat} {qp : List Nat} (h : (l.map pL)[j]? = some qp) : ∃ q, l[j]? = some q ∧ qp = pL q := by
  rw [List.getElem?_map] at h
  cases e : l[j]? with
  | none => rw [e] at h; cases h
  | some q => rw [e] at h; exact ⟨q, rfl, (Option.some.inj h).symm⟩
theorem pL_inj {p q : Nat × Nat} (z : pL p = pL q) : p = q := by
  obtain ⟨a, b⟩ := p
  obtain ⟨c, e⟩ := q
  have h1 : a = c := by simpa using congrArg (fun l => l.getD 0 0) z
  have h2 : b = e := by simpa using congrArg (fun l => l.getD 1 0) z
  rw [h1, h2]
abbrev NLaw : List Str := ["_law_script", "_law_draw", "_law_space_here", "_law_points_here", "_law_numbers", "_law_point_here", "_law_number_here", "_law_value", "_law_bit", "_law_length", "_law_prefix", "_law_lows", "_law_highs", "_law_cell", "_law_box_here", "_law_found", "_law_one", "_law_length_late", "_law_late", "_law_is_due", "_law_inside", "_law_other", "_law_wrong", "_law_places"]
theorem scLaw : FnScope NLaw ["_law_script"] (defScope sLaw) := ⟨rfl, rfl, rfl, by decide +kernel, rfl, by decide +kernel, by decide +kernel⟩
theorem ok_law {f fI fSp fAl fWo fPo fPw fBt fTa fCe fBx fPf fHo fBg fIn fRo fSi fPi fRf fTd : Addr} {fd dI dSp dAl dWo dPo dPw dBt dTa dCe dBx dPf dHo dBg dIn dRo dSi dPi dRf dTd : FuncData} (F : Fun K "law" "law" sLaw f fd) (T : Txt K mg CS CB)
    (GSp : FnOk prg w K mg base CX0 4 fSp dSp ["_law_draw", "_law_most"] (spLSpace K CS)) (mSp : mg "_law_space" = some (.ref fSp)) (kSp : PySem.W.keepIn K (.ref fSp) = true) (bSp : Binds K dSp ["_law_draw", "_law_most"] [])
    (GAl : FnOk prg w K mg base CX0 1 fAl dAl ["_law_space_here"] (spLAll CS)) (mAl : mg "_law_all" = some (.ref fAl)) (kAl : PySem.W.keepIn K (.ref fAl) = true) (bAl : Binds K dAl ["_law_space_here"] [])
    (GWo : FnOk prg w K mg base CX0 4 fWo dWo ["self", "point"] (spWoven CS)) (mWo : Meth K CS "woven" fWo) (bWo : Binds K dWo ["self", "point"] [])
    (GPo : FnOk prg w K mg base CX0 2 fPo dPo ["self", "number"] (spPointOf CS)) (mPo : Meth K CS "point_of" fPo) (bPo : Binds K dPo ["self", "number"] [])
    (GPw : FnOk prg w K mg base CX0 1 fPw dPw ["_law_times"] spPower) (mPw : mg "_law_power" = some (.ref fPw)) (kPw : PySem.W.keepIn K (.ref fPw) = true) (bPw : Binds K dPw ["_law_times"] [])
    (GBt : FnOk prg w K mg base CX0 2 fBt dBt ["_law_space_here", "_law_point_here"] (spLBits CS)) (mBt : mg "_law_bits" = some (.ref fBt)) (kBt : PySem.W.keepIn K (.ref fBt) = true) (bBt : Binds K dBt ["_law_space_here", "_law_point_here"] [])
    (GTa : FnOk prg w K mg base CX0 2 fTa dTa ["_law_draw", "_law_many"] (spTake K)) (mTa : mg "_law_take" = some (.ref fTa)) (kTa : PySem.W.keepIn K (.ref fTa) = true) (bTa : Binds K dTa ["_law_draw", "_law_many"] [])
    (GCe : FnOk prg w K mg base CX0 3 fCe dCe ["self", "prefix"] (spCell CS)) (mCe : Meth K CS "cell" fCe) (bCe : Binds K dCe ["self", "prefix"] [])
    (GBx : FnOk prg w K mg base CX0 6 fBx dBx ["_law_draw", "_law_space_here"] (spLBox K CS CB)) (mBx : mg "_law_box" = some (.ref fBx)) (kBx : PySem.W.keepIn K (.ref fBx) = true) (bBx : Binds K dBx ["_law_draw", "_law_space_here"] [])
    (GPf : FnOk prg w K mg base CX0 5 fPf dPf ["box"] (spPrefixes CS CB)) (mPf : mg "prefixes_of" = some (.ref fPf)) (kPf : PySem.W.keepIn K (.ref fPf) = true) (bPf : Binds K dPf ["box"] [])
    (GHo : FnOk prg w K mg base CX0 1 fHo dHo ["self", "point"] (spHolds CB)) (mHo : Meth K CB "holds" fHo) (bHo : Binds K dHo ["self", "point"] [])
    (GBg : FnOk prg w K mg base CX0 2 fBg dBg ["_law_space_here", "_law_number_here", "_law_prefix"] (spBegins CS)) (mBg : mg "_law_begins" = some (.ref fBg)) (kBg : PySem.W.keepIn K (.ref fBg) = true) (bBg : Binds K dBg ["_law_space_here", "_law_number_here", "_law_prefix"] [])
    (GIn : FnOk prg w K mg base CX0 2 fIn dIn ["prefix", "other"] spInside) (mIn : mg "is_inside" = some (.ref fIn)) (kIn : PySem.W.keepIn K (.ref fIn) = true) (bIn : Binds K dIn ["prefix", "other"] [])
    (GRo : FnOk prg w K mg base CX0 4 fRo dRo ["self", "prefix"] (spRoom CS CB)) (mRo : Meth K CB "room" fRo) (bRo : Binds K dRo ["self", "prefix"] [])
    (GSi : FnOk prg w K mg base CX0 2 fSi dSi ["self", "prefix"] (spSize CS)) (mSi : Meth K CS "size" fSi) (bSi : Binds K dSi ["self", "prefix"] [])
    (GPi : FnOk prg w K mg base CX0 3 fPi dPi ["_law_draw", "_law_items"] (spPick K)) (mPi : mg "_law_pick" = some (.ref fPi)) (kPi : PySem.W.keepIn K (.ref fPi) = true) (bPi : Binds K dPi ["_law_draw", "_law_items"] [])
    (GRf : FnOk prg w K mg base CX0 4 fRf dRf ["_law_dimensions", "_law_bits_here", "_law_word"] spRefused) (mRf : mg "_law_is_refused" = some (.ref fRf)) (kRf : PySem.W.keepIn K (.ref fRf) = true) (bRf : Binds K dRf ["_law_dimensions", "_law_bits_here", "_law_word"] [])
    (GTd : FnOk prg w K mg base CX0 5 fTd dTd [] spTold) (mTd : mg "_law_as_told" = some (.ref fTd)) (kTd : PySem.W.keepIn K (.ref fTd) = true) (bTd : Binds K dTd [] [])
    (MB : Mk K CB fI) (GI : FnOk prg w K mg base CX0 4 fI dI ["self", "space", "lows", "highs"] (spBox CS CB)) (bI : Binds K dI ["self", "space", "lows", "highs"] []) :
    FnOk prg w K mg base CX0 7 f fd ["_law_script"] (spLaw K) := by
  refine F.ok scLaw (fun vs H Q E h => ?_) (fun cdv A outer s H vs Q E hr h => ?_)
  · obtain ⟨a, ns, rfl, _⟩ := h
    rfl
  · obtain ⟨a, ns, rfl, hS, hlen, q⟩ := h
    have rSp : Room 4 _ := hr.mono (by decide)
    have rAl : Room 1 _ := hr.mono (by decide)
    have rWo : Room 4 _ := hr.mono (by decide)
    have rPo : Room 2 _ := hr.mono (by decide)
    have rPw : Room 1 _ := hr.mono (by decide)
    have rBt : Room 2 _ := hr.mono (by decide)
    have rTa : Room 2 _ := hr.mono (by decide)
    have rCe : Room 3 _ := hr.mono (by decide)
    have rBx : Room 6 _ := hr.mono (by decide)
    have rPf : Room 5 _ := hr.mono (by decide)
    have rHo : Room 1 _ := hr.mono (by decide)
    have rBg : Room 2 _ := hr.mono (by decide)
    have rIn : Room 2 _ := hr.mono (by decide)
    have rRo : Room 4 _ := hr.mono (by decide)
    have rSi : Room 2 _ := hr.mono (by decide)
    have rPi : Room 3 _ := hr.mono (by decide)
    have rRf : Room 4 _ := hr.mono (by decide)
    have rTd : Room 5 _ := hr.mono (by decide)
    have rI : Room (4 + 1) _ := hr.mono (by decide)
    refine ⟨_, (pss_cons (ps_set (i := 1) scLaw.nd rfl (Or.inl rfl) (pe_lst (pa_cons (pv 0) (pa_cons pe_int pa_nil))))
      (pss_cons (ps_set (i := 2) scLaw.nd rfl (Or.inr rfl) (pe_call GSp rSp (by rfl) mSp kSp bSp .nil pass0 (pa_cons (pv 1) (pa_cons pe_int pa_nil))))
      (pss_cons (ps_set (i := 3) scLaw.nd rfl (Or.inl rfl) (pe_call GAl rAl (by rfl) mAl kAl bAl .nil pass0 (pa_cons (pv 2) pa_nil)))
      (pss_cons (ps_setLc (i := 4) (own := [("_law_point_here", 5)]) (g := gName 5) (tt := tYes) rfl scLaw.nd rfl rfl (sw_true rfl rfl rfl (by decide +kernel)) (pi_list (pv 3))
          (blkOk_by (N := NLaw) (sc := defScope sLaw) (by decide +kernel)) (fun _ _ _ _ _ => (pg_name (i := 5) scLaw.nd rfl (Or.inl rfl))) (fun _ _ _ _ _ => pts_nil) (fun _ _ _ _ _ => (pe_meth (pv 2) T.clS mWo GWo rWo bWo .nil pass0 (pa_cons (pv 5) pa_nil))))
      (pss_cons (ps_if (pw_or (pt_cmpR (op_neD hr.units) (pe_callB cr_sortedI (by rfl) T.sorted (by decide +kernel) (pa_cons (pv 4) pa_nil)) (pe_listRg rfl (by rfl) T.list (prg_1 (by rfl) T.range (pe_call GPw rPw (by rfl) mPw kPw bPw .nil pass0 (pa_cons (pe_fld (pv 2) rfl) pa_nil)))) (nomark _)) (pw_or1 (pt_cmpR (op_neD hr.units) (pe_lc (own := [("_law_number_here", 6)]) (g := gName 6) (tt := tYes) rfl scLaw.nd (pi_list (pv 4))
          (blkOk_by (N := NLaw) (sc := defScope sLaw) (by decide +kernel)) (fun _ _ _ _ _ => (pg_name (i := 6) scLaw.nd rfl (Or.inl rfl))) (fun _ _ _ _ _ => pts_nil) (fun _ _ _ _ _ => (pe_meth (pv 2) T.clS mPo GPo rPo bPo .nil pass0 (pa_cons (pv 6) pa_nil)))) (pv 3) (nomark _)))).pt pss_never pss_nil)
      (pss_cons (ps_for PassesOwn.never rfl (pi_zip (by rfl) T.zip (pa_cons (pv 3) (pa_cons (pv 4) pa_nil))) (pg_tup (by rfl) (pgs_cons (pg_name (i := 5) scLaw.nd rfl (Or.inl rfl)) (pgs_cons (pg_name (i := 6) scLaw.nd rfl (Or.inr rfl)) pgs_nil))) (pss_cons (ps_set (i := 7) scLaw.nd rfl (Or.inl rfl) pe_int)
      (pss_cons (ps_for PassesOwn.never rfl (pi_tup (pe_call GBt rBt (by rfl) mBt kBt bBt .nil pass0 (pa_cons (pv 2) (pa_cons (pv 5) pa_nil)))) (pg_name (i := 8) scLaw.nd rfl (Or.inl rfl)) (pss_one (ps_set (i := 7) scLaw.nd rfl (Or.inl rfl) (pe_op op_add (pe_op op_mul pe_int (pv 7)) (pv 8)))))
      (pss_one (ps_if (pt_cmpR op_ne (pv 7) (pv 6) (nomark _)) pss_never pss_nil)))))
      (pss_cons (ps_set (i := 9) scLaw.nd rfl (Or.inl rfl) (pe_call GTa rTa (by rfl) mTa kTa bTa .nil pass0 (pa_cons (pv 1) (pa_cons (pe_op op_add (pe_fld (pv 2) rfl) pe_int) pa_nil))))
      (pss_cons (ps_set (i := 10) scLaw.nd rfl (Or.inr rfl) (pe_tup (pa_cons (pv 9) (pa_cons (pe_call GTa rTa (by rfl) mTa kTa bTa .nil pass0 (pa_cons (pv 1) (pa_cons (pe_call GPw rPw (by rfl) mPw kPw bPw .nil pass0 (pa_cons (pv 9) pa_nil)) pa_nil))) pa_nil))))
      (pss_cons (ps_asg (pe_meth (pv 2) T.clS mCe GCe rCe bCe .nil pass0 (pa_cons (pv 10) pa_nil)) (pg_tup (by rfl) (pgs_cons (pg_name (i := 11) scLaw.nd rfl (Or.inl rfl)) (pgs_cons (pg_name (i := 12) scLaw.nd rfl (Or.inl rfl)) pgs_nil))))
      (pss_cons (ps_asg (pe_tup (pa_cons (pe_make MB GI rI (by rfl) T.mgB bI .nil pass0 (pa_cons (pv 2) (pa_cons (pv 11) (pa_cons (pv 12) pa_nil)))) (pa_cons (pe_call GBx rBx (by rfl) mBx kBx bBx .nil pass0 (pa_cons (pv 1) (pa_cons (pv 2) pa_nil))) pa_nil))) (pg_tup (by rfl) (pgs_cons (pg_name (i := 13) scLaw.nd rfl (Or.inl rfl)) (pgs_cons (pg_name (i := 14) scLaw.nd rfl (Or.inr rfl)) pgs_nil))))
      (pss_cons (ps_set (i := 15) scLaw.nd rfl (Or.inl rfl) (pe_call GPf rPf (by rfl) mPf kPf bPf .nil pass0 (pa_cons (pv 14) pa_nil)))
      (pss_cons (ps_for PassesOwn.never rfl (pi_zip (by rfl) T.zip (pa_cons (pv 3) (pa_cons (pv 4) pa_nil))) (pg_tup (by rfl) (pgs_cons (pg_name (i := 5) scLaw.nd rfl (Or.inl rfl)) (pgs_cons (pg_name (i := 6) scLaw.nd rfl (Or.inr rfl)) pgs_nil))) (pss_cons (ps_if (pt_cmpR op_ne (pe_meth (pv 13) T.clB mHo GHo rHo bHo .nil pass0 (pa_cons (pv 5) pa_nil)) (pe_call GBg rBg (by rfl) mBg kBg bBg .nil pass0 (pa_cons (pv 2) (pa_cons (pv 6) (pa_cons (pv 10) pa_nil)))) (nomark _)) pss_never pss_nil)
      (pss_one (ps_if (pt_cmpR op_ne (pe_meth (pv 14) T.clB mHo GHo rHo bHo .nil pass0 (pa_cons (pv 5) pa_nil)) (pe_cmpR op_eq (pe_callB call_len_seq (by rfl) T.len PySem.boot_len (pa_cons (pe_lc (own := [("_law_one", 16)]) (g := gName 16) (tt := _) rfl scLaw.nd (pi_list (pv 15))
          (blkOk_by (N := NLaw) (sc := defScope sLaw) (by decide +kernel)) (fun _ _ _ _ _ => (pg_name (i := 16) scLaw.nd rfl (Or.inl rfl))) (fun _ _ _ _ _ => pts_one (pt_val (pe_call GBg rBg (by rfl) mBg kBg bBg .nil pass0 (pa_cons (pv 2) (pa_cons (pv 6) (pa_cons (pv 16) pa_nil)))))) (fun _ _ _ _ _ => (pv 16))) pa_nil)) pe_int (nomark _)) (nomark _)) pss_never pss_nil))))
      (pss_cons (ps_set (i := 17) scLaw.nd rfl (Or.inl rfl) (pe_call GTa rTa (by rfl) mTa kTa bTa .nil pass0 (pa_cons (pv 1) (pa_cons (pe_op op_add (pv 9) pe_int) pa_nil))))
      (pss_cons (ps_set (i := 18) scLaw.nd rfl (Or.inr rfl) (pe_tup (pa_cons (pv 17) (pa_cons (pe_ifExp (pt_cmpR op_eq (pe_call GTa rTa (by rfl) mTa kTa bTa .nil pass0 (pa_cons (pv 1) (pa_cons pe_int pa_nil))) pe_int (nomark _)) (pe_op op_fdiv (pe_ix ix_tup (pv 10) pe_int (fun _ _ => rfl)) (pe_call GPw rPw (by rfl) mPw kPw bPw .nil pass0 (pa_cons (pe_op op_sub (pv 9) (pv 17)) pa_nil))) (pe_call GTa rTa (by rfl) mTa kTa bTa .nil pass0 (pa_cons (pv 1) (pa_cons (pe_call GPw rPw (by rfl) mPw kPw bPw .nil pass0 (pa_cons (pv 17) pa_nil)) pa_nil)))) pa_nil))))
      (pss_cons (ps_set (i := 19) scLaw.nd rfl (Or.inl rfl) (pe_callB (cr_all rfl) (by rfl) T.all (by decide +kernel) (pa_cons (pe_lc (own := [("_law_number_here", 6)]) (g := gName 6) (tt := _) rfl scLaw.nd (pi_list (pv 4))
          (blkOk_by (N := NLaw) (sc := defScope sLaw) (by decide +kernel)) (fun _ _ _ _ _ => (pg_name (i := 6) scLaw.nd rfl (Or.inl rfl))) (fun _ _ _ _ _ => pts_one (pt_val (pe_call GBg rBg (by rfl) mBg kBg bBg .nil pass0 (pa_cons (pv 2) (pa_cons (pv 6) (pa_cons (pv 10) pa_nil)))))) (fun _ _ _ _ _ => (pe_call GBg rBg (by rfl) mBg kBg bBg .nil pass0 (pa_cons (pv 2) (pa_cons (pv 6) (pa_cons (pv 18) pa_nil)))))) pa_nil)))
      (pss_cons (ps_if (pw_or (pt_cmpR op_ne (pe_call GIn rIn (by rfl) mIn kIn bIn .nil pass0 (pa_cons (pv 10) (pa_cons (pv 18) pa_nil))) (pv 19) (nomark _)) (pw_or (pt_not (pt_val (pe_call GIn rIn (by rfl) mIn kIn bIn .nil pass0 (pa_cons (pv 10) (pa_cons (pe_tup (pa_cons pe_int (pa_cons pe_int pa_nil))) pa_nil))))) (pw_or1 (pt_not (pt_val (pe_call GIn rIn (by rfl) mIn kIn bIn .nil pass0 (pa_cons (pv 10) (pa_cons (pv 10) pa_nil)))))))).pt pss_never pss_nil)
      (pss_cons (ps_setLc (i := 20) (own := [("_law_point_here", 5), ("_law_number_here", 6)]) (g := gTup K 2 (gCons (gName 5) (gCons (gName 6) gNil))) (tt := _) rfl scLaw.nd rfl rfl (sw_true rfl rfl rfl (by decide +kernel)) (pi_zip (by rfl) T.zip (pa_cons (pv 3) (pa_cons (pv 4) pa_nil)))
          (blkOk_by (N := NLaw) (sc := defScope sLaw) (by decide +kernel)) (fun _ _ _ _ _ => pg_tup rfl (pgs_cons (pg_name (i := 5) scLaw.nd rfl (Or.inl rfl)) (pgs_cons (pg_name (i := 6) scLaw.nd rfl (Or.inl rfl)) pgs_nil))) (fun _ _ _ _ _ => pts_one (pw_and (pt_val (pe_meth (pv 14) T.clB mHo GHo rHo bHo .nil pass0 (pa_cons (pv 5) pa_nil))) (pw_and1 (pt_val (pe_call GBg rBg (by rfl) mBg kBg bBg .nil pass0 (pa_cons (pv 2) (pa_cons (pv 6) (pa_cons (pv 10) pa_nil))))))).pt) (fun _ _ _ _ _ => (pv 6)))
      (pss_cons (ps_if (pw_or (pt_cmpR op_ne (pe_meth (pv 14) T.clB mRo GRo rRo bRo .nil pass0 (pa_cons (pv 10) pa_nil)) (pe_callB call_len_seq (by rfl) T.len PySem.boot_len (pa_cons (pv 20) pa_nil)) (nomark _)) (pw_or1 (pt_cmpR op_ne (pe_meth (pv 2) T.clS mSi GSi rSi bSi .nil pass0 (pa_cons (pv 10) pa_nil)) (pe_call GPw rPw (by rfl) mPw kPw bPw .nil pass0 (pa_cons (pe_op op_sub (pe_fld (pv 2) rfl) (pv 9)) pa_nil)) (nomark _)))).pt pss_never pss_nil)
      (pss_cons (ps_for PassesOwn.never rfl (pi_list (pv 15)) (pg_name (i := 16) scLaw.nd rfl (Or.inr rfl)) (pss_one (ps_if (pt_val (pe_callB (cr_any rfl) (by rfl) T.any (by decide +kernel) (pa_cons (pe_lc (own := [("_law_other", 21)]) (g := gName 21) (tt := tYes) rfl scLaw.nd (pi_list (pv 15))
          (blkOk_by (N := NLaw) (sc := defScope sLaw) (by decide +kernel)) (fun _ _ _ _ _ => (pg_name (i := 21) scLaw.nd rfl (Or.inl rfl))) (fun _ _ _ _ _ => pts_nil) (fun _ _ _ _ _ => pe_and (pe_cmpR (r := rNeD K) (op_neD hr.units) (pv 21) (pv 16) (nomark _)) (pe_one (pe_or (pe_call GIn rIn (by rfl) mIn kIn bIn .nil pass0 (pa_cons (pv 16) (pa_cons (pv 21) pa_nil))) (pe_one (pe_cmpR (r := rEqD K) (op_eqD hr.units) (pv 21) (pe_tup (pa_cons (pe_ix (r := rIxT K) ix_tup (pv 16) pe_int (fun _ _ => rfl)) (pa_cons (pe_op op_sub (pe_op op_add (pe_ix (r := rIxT K) ix_tup (pv 16) pe_int (fun _ _ => rfl)) pe_int) (pe_op op_mul pe_int (pe_op op_mod (pe_ix (r := rIxT K) ix_tup (pv 16) pe_int (fun _ _ => rfl)) pe_int))) pa_nil))) (nomark _))))))) pa_nil))) pss_never pss_nil)))
      (pss_cons (ps_set (i := 22) scLaw.nd rfl (Or.inl rfl) (pe_call GPi rPi (by rfl) mPi kPi bPi .nil pass0 (pa_cons (pv 1) (pa_cons (pe_lst (pa_cons (pe_tup (pa_cons pe_int (pa_cons pe_int (pa_cons pe_str pa_nil)))) (pa_cons (pe_tup (pa_cons pe_int (pa_cons pe_int (pa_cons pe_str pa_nil)))) (pa_cons (pe_tup (pa_cons pe_int (pa_cons pe_int (pa_cons pe_str pa_nil)))) (pa_cons (pe_tup (pa_cons pe_int (pa_cons pe_int (pa_cons pe_str pa_nil)))) (pa_cons (pe_tup (pa_cons pe_bl (pa_cons pe_int (pa_cons pe_str pa_nil)))) (pa_cons (pe_tup (pa_cons pe_int (pa_cons pe_non (pa_cons pe_str pa_nil)))) pa_nil))))))) pa_nil))))
      (pss_cons (ps_setLc (i := 23) (own := [("_law_one", 16)]) (g := gName 16) (tt := tYes) rfl scLaw.nd rfl rfl (sw_true rfl rfl rfl (by decide +kernel)) (pi_list (pv 15))
          (blkOk_by (N := NLaw) (sc := defScope sLaw) (by decide +kernel)) (fun _ _ _ _ _ => (pg_name (i := 16) scLaw.nd rfl (Or.inl rfl))) (fun _ _ _ _ _ => pts_nil) (fun _ _ _ _ _ => pe_op op_mul (pe_ix (r := rIxT K) ix_tup (pv 16) pe_int (fun _ _ => rfl)) (pe_meth (pv 2) T.clS mSi GSi rSi bSi .nil pass0 (pa_cons (pv 16) pa_nil))))
      (pss_one (ps_ret (pe_and (pe_cmpR (op_eqD hr.units) (pv 23) (pe_callB cr_sortedI (by rfl) T.sorted (by decide +kernel) (pa_cons (pv 23) pa_nil)) (nomark _)) (pe_and (pe_call GRf rRf (by rfl) mRf kRf bRf .nil pass0 (pa_cons (pe_ix ix_tup (pv 22) pe_int (fun _ _ => rfl)) (pa_cons (pe_ix ix_tup (pv 22) pe_int (fun _ _ => rfl)) (pa_cons (pe_ix ix_tup (pv 22) pe_int (fun _ _ => rfl)) pa_nil)))) (pe_one (pe_call0 GTd rTd (by rfl) mTd kTd bTd .nil pass0))))))))))))))))))))))))))), ?_⟩
    -- _law_draw = [_law_script, 0]
    refine ⟨_, rfl, by show 2 ≤ sizeLine; decide, fun dr hdr => ?_⟩
    have D1 : Drw K (upd H dr (.lst [.ref a, .int 0])) dr := ⟨a, 0, ns, upd_same, (same_upd hdr).seq hS, hlen⟩
    generalize upd H dr (.lst [.ref a, .int 0]) = H1 at D1 ⊢
    -- the space, all points
    refine ⟨_, rfl, dr, rfl, D1, fun x d b H2 hsp S bt2 D2 => ?_⟩
    obtain ⟨hd1, hd3, hb1, hb8, hD1, hD8⟩ := sp_bound hsp
    have hb10 : b ≤ 10 := Nat.le_trans hb8 (by decide)
    have hdb : 1 ≤ d ∧ d ≤ 3 ∧ 1 ≤ b ∧ b ≤ 10 := ⟨hd1, hd3, hb1, hb10⟩
    have h256 : 2 ^ (d * b) ≤ 256 := (Nat.pow_le_pow_right (by decide) hD8 : 2 ^ (d * b) ≤ 2 ^ 8)
    obtain ⟨dx, hx⟩ := id S
    refine ⟨_, rfl, x, d, b, rfl, hd3, hD8, hb1, S, fun H3 P as s3 hP tP => ?_⟩
    have D3 := D2.same s3
    have hx3 := s3 _ _ hx
    have las : as.length = 2 ^ (d * b) := by rw [Paired.length tP, pts_len]
    -- the numbers
    refine ⟨_, rfl, P, rfl, ⟨_, .inl (.inl hP)⟩, fun N hN => lc_list (K := K) (a := P) (xs := as.map V.ref) (fun i H4 => Same H3 H4 ∧ H4 N = some (.lst (iV (((ptsOf d b).take i).map (woven b))))) ⟨same_upd hN, upd_same⟩ (fun i H4 _ ⟨s4, _⟩ => .inl (.inl (s4 _ _ hP))) ?_ ?_⟩
    · rintro i y H4 hi ⟨s4, hN4⟩
      obtain ⟨ai, ha, rfl⟩ := refs_get hi
      obtain ⟨pt, hpt, hta⟩ := tP.get ha
      have hip := allPts_mem (List.mem_of_getElem? hpt)
      refine ⟨rfl, _, rfl, x, dx, _, rfl, s4 _ _ hx3, sFl_no _ _ (by decide +kernel) (by decide +kernel) (by decide +kernel) (by decide +kernel), _, rfl, x, ai, d, b, pt, rfl, hb10, ⟨dx, s4 _ _ hx3⟩, s4 _ _ hta, hip, by rw [hip.1]; omega, fun H5 s5 => ?_⟩
      refine ⟨_, s5 _ _ hN4, ?_, same_at (s4.trans s5) hN, ?_⟩
      · rw [List.length_map, List.length_map, List.length_take]
        exact small1000 (by rw [pts_len]; omega)
      · refine upd_same.trans ?_
        rw [List.take_add_one, hpt]
        simp
    rintro H4 ⟨s4, hN4⟩
    rw [List.length_map, las, List.take_of_length_le (Nat.le_of_eq pts_len)] at hN4
    have D4 := D3.same s4
    have hP4 := s4 _ _ hP
    have tP4 := tP.same s4
    have hx4 := s4 _ _ hx3
    have hNz := hN4
    rw [iV_ints] at hNz
    -- sorted: all of them
    refine ⟨_, rfl, N, (numsOf d b).map fun n : Nat => (n : Int), rfl, .inl (.inl hNz), fun ns' q1 hperm hsort hq1 => ?_⟩
    have e1 := nums_sorted hsp hperm hsort
    subst e1
    have s5 : Same H4 (upd H4 q1 (.lst (((List.range (2 ^ (d * b))).map fun n : Nat => (n : Int)).map V.int))) := same_upd hq1
    have g5 : upd H4 q1 (.lst (((List.range (2 ^ (d * b))).map fun n : Nat => (n : Int)).map V.int)) q1 = some (.lst (((List.range (2 ^ (d * b))).map fun n : Nat => (n : Int)).map V.int)) := upd_same
    generalize upd H4 q1 (.lst (((List.range (2 ^ (d * b))).map fun n : Nat => (n : Int)).map V.int)) = H5 at s5 g5 ⊢
    refine ⟨_, rfl, x, CS, dx, _, _, rfl, s5 _ _ hx4, T.clS, T.sDepth, sFl_depth _ _, d * b, rfl, by omega, _, rfl, RgOk.of_le (by decide) (Int.ofNat_le.mpr (Nat.le_trans h256 (by decide))) (by decide) (Int.natCast_nonneg _), fun q2 hq2 => ?_⟩
    rw [rgV_range]
    have s6 : Same H5 (upd H5 q2 (.lst (((List.range (2 ^ (d * b))).map fun n : Nat => (n : Int)).map V.int))) := same_upd hq2
    refine ⟨.list (dZ ((List.range (2 ^ (d * b))).map fun n : Nat => (n : Int))), .list (dZ ((List.range (2 ^ (d * b))).map fun n : Nat => (n : Int))), dp_ints (.inl (.inl (s6 _ _ g5))), dp_ints (.inl (.inl upd_same)), shaped_ints _, shaped_ints _, _, rfl, ?_⟩
    rw [eqv_ints, decide_eq_true rfl]
    refine iteF ?_
    generalize upd H5 q2 (.lst (((List.range (2 ^ (d * b))).map fun n : Nat => (n : Int)).map V.int)) = H6 at s6 ⊢
    have s46 := s5.trans s6
    have D6 := D4.same s46
    have hP6 := s46 _ _ hP4
    have tP6 := tP4.same s46
    have hx6 := s46 _ _ hx4
    have hN6 := s46 _ _ hN4
    have lnum : (numsOf d b).length = 2 ^ (d * b) := by rw [List.length_map, pts_len]
    -- the points of the numbers
    refine ⟨_, rfl, N, rfl, ⟨_, .inl (.inl hN6)⟩, fun L hL => lc_list (K := K) (a := N) (xs := iV (numsOf d b)) (fun i H7 => Same H6 H7 ∧ ∃ bs, H7 L = some (.lst (bs.map V.ref)) ∧ TupsAt H7 bs (((numsOf d b).take i).map (pointOf d b))) ⟨same_upd hL, [], upd_same, .nil⟩ (fun i H7 _ ⟨s7, _⟩ => .inl (.inl (s7 _ _ hN6))) ?_ ?_⟩
    · rintro i y H7 hi ⟨s7, bs, hL7, tbs⟩
      obtain ⟨n, hn, rfl⟩ := iV_get hi
      refine ⟨rfl, _, rfl, x, dx, _, rfl, s7 _ _ hx6, sFl_no _ _ (by decide +kernel) (by decide +kernel) (by decide +kernel) (by decide +kernel), _, rfl, x, d, b, n, rfl, hdb, ⟨dx, s7 _ _ hx6⟩, fun H8 c s8 hc tc => ?_⟩
      have lbs : bs.length ≤ 256 := by
        rw [Paired.length tbs, List.length_map, List.length_take, lnum]
        omega
      refine ⟨_, s8 _ _ hL7, by rw [List.length_map]; exact small1000 (by omega), same_at (s7.trans s8) hL, bs ++ [c], ?_, ?_⟩
      · rw [List.map_append]
        exact upd_same
      · rw [List.take_add_one, hn, List.map_append]
        exact tups_upd (TupsAt.snoc tc (tbs.same s8)) (s8 _ _ hL7)
    rintro H7 ⟨s7, bs, hL7, tbs⟩
    rw [List.length_map, List.take_length, point_back hsp] at tbs
    refine ⟨_, rfl, .list (dT (ptsOf d b)), .list (dT (ptsOf d b)), dp_tups (.inl (.inl hL7)) tbs, dp_tups (.inl (.inl (s7 _ _ hP6))) (tP6.same s7), shaped_tups _, shaped_tups _, _, rfl, ?_⟩
    rw [eqv_tups, decide_eq_true rfl]
    refine iteF ?_
    have D7 := D6.same s7
    have hP7 := s7 _ _ hP6
    have tP7 := tP6.same s7
    have hx7 := s7 _ _ hx6
    have hN7 := s7 _ _ hN6
    -- the bits
    refine ⟨_, rfl, _, rfl, P, N, as.map V.ref, iV (numsOf d b), rfl, .inl (.inl hP7), .inl (.inl hN7), RZ.for_zipL (by rw [List.length_map, List.length_map, las, lnum]) (fun i σ H8 => Same H7 H8 ∧ ∃ v5 v6 v7 v8, σ = [some (.ref a), some (.ref dr), some (.ref x), some (.ref P), some (.ref N), v5, v6, v7, v8, none, none, none, none, none, none, none, none, none, none, none, none, none, none, none])
      ⟨Same.refl _, none, none, none, none, rfl⟩ (fun i σ H8 ⟨s8, _⟩ => ⟨.inl (.inl (s8 _ _ hP7)), .inl (.inl (s8 _ _ hN7))⟩) ?_ ?_⟩
    · rintro i y z t σ H8 hy hz ⟨s8, v5, v6, v7, v8, rfl⟩ ht
      obtain ⟨ai, ha, rfl⟩ := refs_get hy
      obtain ⟨pt, hpt, hta⟩ := tP7.get ha
      obtain ⟨n, hn, rfl⟩ := iV_get hz
      rw [List.getElem?_map, hpt] at hn
      obtain rfl : woven b pt = n := Option.some.inj hn
      have hpm := List.mem_of_getElem? hpt
      have hip := allPts_mem hpm
      have s9 := same_more (o := .tup [.ref ai, .int (woven b pt : Int)]) s8 ht
      refine ⟨t, _, rfl, .inl (.inl upd_same), rfl, _, _, rfl, _, _, rfl, rfl, ?_⟩
      refine ⟨_, rfl, _, rfl, x, ai, d, b, pt, rfl, hb1, hb10, ⟨dx, s9 _ _ hx7⟩, s9 _ _ hta, by rw [hip.1]; exact hd3, fun H9 c s99 hc => ?_⟩
      refine ⟨c, rfl, ⟨_, .inl (.inl hc)⟩, for_tup (K := K) (a := c) (xs := iV (lawBits b pt)) (fun j σ H10 => Same H9 H10 ∧ ∃ v8, σ = [some (.ref a), some (.ref dr), some (.ref x), some (.ref P), some (.ref N), some (.ref ai), some (.int (woven b pt : Int)), some (.int ((((lawBits b pt).take j).foldl (fun v x => 2 * v + x) 0 : Nat) : Int)), v8, none, none, none, none, none, none, none, none, none, none, none, none, none, none, none])
        ⟨Same.refl _, v8, rfl⟩ (fun j σ H10 _ ⟨s10, _⟩ => .inl (.inl (s10 _ _ hc))) ?_ ?_⟩
      · rintro j y σ H10 hj ⟨s10, v8, rfl⟩
        obtain ⟨m, hm, rfl⟩ := iV_get hj
        refine ⟨_, rfl, _, _, rfl, rfl, .inl ⟨by decide, by decide⟩, _, rfl, _, _, rfl, rfl, s10, some (.int (m : Int)), ?_⟩
        rw [List.take_add_one, hm, List.foldl_append]
        rfl
      · rintro σ H10 ⟨s10, v8, rfl⟩
        rw [List.length_map, List.take_length, bits_ok hsp hpm]
        exact ⟨_, rfl, _, rfl, rfl, _, rfl, iteNS rfl ⟨(s9.trans s99).trans s10, _, _, _, _, rfl⟩⟩
    rintro σ H8 ⟨s8, v5, v6, v7, v8, rfl⟩
    have D8 := D7.same s8
    have hP8 := s8 _ _ hP7
    have tP8 := tP7.same s8
    have hx8 := s8 _ _ hx7
    have hN8 := s8 _ _ hN7
    have k8 : Kp H8 H8 := Kp.refl _
    -- a prefix
    refine ⟨_, rfl, _, rfl, x, CS, dx, _, _, rfl, hx8, T.clS, T.sDepth, sFl_depth _ _, _, _, rfl, rfl, dr, _, rfl, by omega, D8, fun l H9 hl9 bt9 D9 => ?_⟩
    have hl : l ≤ d * b := by omega
    have k9 : Kp H8 H9 := Kp.but D8 bt9
    have hpl : 2 ^ l ≤ 256 := Nat.le_trans (Nat.pow_le_pow_right (by decide) hl) h256
    refine ⟨_, rfl, _, rfl, _, rfl, l, rfl, by omega, dr, _, rfl, Int.ofNat_lt.mpr (Nat.two_pow_pos l), D9, fun n H10 hn10 bt10 D10 => ⟨by show 2 ≤ sizeLine; decide, fun pr hpr => ?_⟩⟩
    have hn : n < 2 ^ l := Int.ofNat_lt.mp hn10
    have hn40 : n < 2 ^ 40 := Nat.lt_of_lt_of_le hn (Nat.le_trans hpl (by decide))
    have k11 : Kp H8 (upd H10 pr (.tup [V.int (l : Int), V.int (n : Int)])) := (k9.trans (Kp.but D9 bt10)).trans (Kp.same (same_upd hpr))
    have D11 : Drw K (upd H10 pr (.tup [V.int (l : Int), V.int (n : Int)])) dr := drw_at D10 hpr
    have pr11 : PreAt (upd H10 pr (.tup [V.int (l : Int), V.int (n : Int)])) pr l n := upd_same
    generalize upd H10 pr (.tup [V.int (l : Int), V.int (n : Int)]) = H11 at k11 D11 pr11 ⊢
    have hP11 := k11.refs hP8
    have tP11 := k11.tups tP8
    have hx11 := k11.ins hx8
    have hN11 := k11.nums hN8
    obtain ⟨cl1, cl2, cl3, cl4, _⟩ := cell_facts hsp hl hn
    -- its cell
    refine ⟨_, rfl, x, dx, _, rfl, hx11, sFl_no _ _ (by decide +kernel) (by decide +kernel) (by decide +kernel) (by decide +kernel), _, rfl, x, pr, d, b, l, n, rfl, hdb, ⟨dx, hx11⟩, pr11, hl, hn40, fun H12 c lo hi s12 hc hc12 tlo thi => ?_⟩
    refine ⟨c, _, rfl, .inl (.inl hc12), rfl, _, _, rfl, _, _, rfl, rfl, ?_⟩
    have hx12 := s12 _ _ hx11
    -- its box; a box
    refine ⟨_, rfl, _, rfl, _, rfl, fun y dy hy hdy hne => ?_⟩
    have s13 : Same H12 (upd (upd H12 dy (.own y)) y (.ins CB dy [])) := fun b' o e => by
      rw [upd_ne (ne_of_none e hy), upd_ne (ne_of_none e hdy)]
      exact e
    refine ⟨y, dy, x, lo, hi, d, b, _, _, rfl, hdb, upd_same, ⟨dx, s13 _ _ hx12⟩, s13 _ _ tlo, s13 _ _ thi, lo_pt cl4 cl1 cl2 cl3, ⟨cl2, cl3⟩, leAll_get cl4 cl1 cl2, fun H13 hy13 kp13 => ⟨rfl, ?_⟩⟩
    have s14 : Same H12 H13 := fun b' o e => kp13 b' o (ne_of_none e hy) (s13 _ _ e)
    have k13 : Kp H11 H13 := Kp.same (s12.trans s14)
    have D13 := (D11.same s12).same s14
    have hx13 := k13.ins hx11
    have bx13 : BoxAt CB H13 y x (cellLo d b l n) (cellHi d b l n) := ⟨dy, lo, hi, hy13, s14 _ _ tlo, s14 _ _ thi⟩
    refine ⟨_, rfl, _, rfl, dr, x, d, b, rfl, hdb, ⟨dx, hx13⟩, D13, fun z lo2 hi2 H14 pl2 ph2 le2 bz14 bt14 D14 => ⟨by show 2 ≤ sizeLine; decide, fun t ht => ?_⟩⟩
    have k15 : Kp H13 (upd H14 t (.tup [V.ref y, V.ref z])) := (Kp.but D13 bt14).trans (Kp.same (same_upd ht))
    have bz15 : BoxAt CB (upd H14 t (.tup [V.ref y, V.ref z])) z x lo2 hi2 := bz14.same (same_upd ht)
    have D15 : Drw K (upd H14 t (.tup [V.ref y, V.ref z])) dr := drw_at D14 ht
    have gt : upd H14 t (.tup [V.ref y, V.ref z]) t = some (.tup [V.ref y, V.ref z]) := upd_same
    generalize upd H14 t (.tup [V.ref y, V.ref z]) = H15 at k15 bz15 D15 gt ⊢
    refine ⟨t, _, rfl, .inl (.inl gt), rfl, _, _, rfl, _, _, rfl, rfl, ?_⟩
    have k115 := k13.trans k15
    have hx15 := k115.ins hx11
    -- its beginnings
    refine ⟨_, rfl, z, x, d, b, lo2, hi2, rfl, hdb, hD8, bz15, ⟨dx, hx15⟩, pl2, ph2, fun m hm => room_leaf hsp pl2.1 ph2.1 hm, fun H16 Fa fs s16 hF tF => ?_⟩
    have k16 : Kp H11 H16 := k115.trans (Kp.same s16)
    have D16 := D15.same s16
    have hP16 := k16.refs hP11
    have tP16 := k16.tups tP11
    have hx16 := k16.ins hx11
    have hN16 := k16.nums hN11
    have pr16 := k16.tup pr11
    have bx16 := (k15.trans (Kp.same s16)).box bx13
    have bz16 := bz15.same s16
    have lfs : fs.length ≤ 256 := by
      have e := Paired.length tF
      rw [List.length_map] at e
      rw [e]
      exact Nat.le_trans found_len h256
    obtain ⟨bd1, bl1, bh1, hy16, _, _⟩ := id bx16
    obtain ⟨bd2, bl2, bh2, hz16, _, _⟩ := id bz16
    -- which points
    refine ⟨_, rfl, _, rfl, P, N, as.map V.ref, iV (numsOf d b), rfl, .inl (.inl hP16), .inl (.inl hN16), RZ.for_zipL (by rw [List.length_map, List.length_map, las, lnum]) (fun i σ H17 => Same H16 H17 ∧ ∃ v5 v6 v7 v8, σ = [some (.ref a), some (.ref dr), some (.ref x), some (.ref P), some (.ref N), v5, v6, v7, v8, some (.int (l : Int)), some (.ref pr), some (.ref lo), some (.ref hi), some (.ref y), some (.ref z), some (.ref Fa), none, none, none, none, none, none, none, none])
      ⟨Same.refl _, _, _, _, _, rfl⟩ (fun i σ H17 ⟨s17, _⟩ => ⟨.inl (.inl (s17 _ _ hP16)), .inl (.inl (s17 _ _ hN16))⟩) ?_ ?_⟩
    · rintro i y' z' t' σ H17 hy' hz' ⟨s17, v5, v6, v7, v8, rfl⟩ ht'
      obtain ⟨ai, ha, rfl⟩ := refs_get hy'
      obtain ⟨pt, hpt, hta⟩ := tP16.get ha
      obtain ⟨wn, hwn, rfl⟩ := iV_get hz'
      rw [List.getElem?_map, hpt] at hwn
      obtain rfl : woven b pt = wn := Option.some.inj hwn
      have hpm := List.mem_of_getElem? hpt
      have hip := allPts_mem hpm
      have s18 := same_more (o := .tup [.ref ai, .int (woven b pt : Int)]) s17 ht'
      refine ⟨t', _, rfl, .inl (.inl upd_same), rfl, _, _, rfl, _, _, rfl, rfl, ?_⟩
      generalize upd H17 t' (.tup [.ref ai, .int (woven b pt : Int)]) = H18 at s18 ⊢
      refine ⟨_, rfl, y, bd1, _, rfl, s18 _ _ hy16, bFl_no _ _ _ (by decide +kernel) (by decide +kernel) (by decide +kernel), _, rfl, y, x, ai, d, _, _, pt, rfl, hd3, bx16.same s18, s18 _ _ hta, cl1, cl2, hip.1, fun H19 s19 => ?_⟩
      have s1619 := s18.trans s19
      refine ⟨_, rfl, _, rfl, _, rfl, x, pr, d, b, _, l, n, rfl, ⟨dx, s1619 _ _ hx16⟩, by omega, s1619 _ _ pr16, hl, rfl, _, rfl, iteNS (congrArg V.bl (cell_holds hsp hl hn hpm)) ?_⟩
      have F19 := s1619 _ _ hF
      refine ⟨_, rfl, z, bd2, _, rfl, s1619 _ _ hz16, bFl_no _ _ _ (by decide +kernel) (by decide +kernel) (by decide +kernel), _, rfl, z, x, ai, d, _, _, pt, rfl, hd3, bz16.same s1619, s1619 _ _ hta, pl2.1, ph2.1, hip.1, fun H20 s20 => ?_⟩
      have s1620 := s1619.trans s20
      have F20 := s1620 _ _ hF
      have t20 := tF.same s1620
      refine ⟨_, rfl, Fa, rfl, ⟨_, .inl (.inl F20)⟩, fun L hL => lc_list (K := K) (a := Fa) (xs := fs.map V.ref) (fun j H21 => Same H20 H21 ∧ ∃ bs, H21 L = some (.lst bs) ∧ bs.length = ((((foundOf d b lo2 hi2).take j).filter fun q => begins (d * b) (woven b pt) q)).length) ⟨same_upd hL, [], upd_same, rfl⟩ (fun j H21 _ ⟨s21, _⟩ => .inl (.inl (s21 _ _ F20))) ?_ ?_⟩
      · rintro j v H21 hj ⟨s21, bs, hL21, lbs⟩
        obtain ⟨qa, hqa, rfl⟩ := refs_get hj
        obtain ⟨qp, hqp, hqt⟩ := t20.get hqa
        rw [List.getElem?_map] at hqp
        obtain ⟨⟨ql, qn⟩, hq, rfl⟩ : ∃ q, (foundOf d b lo2 hi2)[j]? = some q ∧ qp = pL q := by
          cases e : (foundOf d b lo2 hi2)[j]? with
          | none => rw [e] at hqp; cases hqp
          | some q => rw [e] at hqp; exact ⟨q, rfl, (Option.some.inj hqp).symm⟩
        obtain ⟨qm1, qm2⟩ := found_mem (List.mem_of_getElem? hq)
        have lt : (((foundOf d b lo2 hi2).take j).filter fun q => begins (d * b) (woven b pt) q).length ≤ 256 := by
          refine Nat.le_trans (List.length_filter_le _ _) ?_
          rw [List.length_take]
          have := Nat.le_trans (found_len (d := d) (b := b) (lo := lo2) (hi := hi2)) h256
          omega
        have st : ((((foundOf d b lo2 hi2).take (j + 1)).filter fun q => begins (d * b) (woven b pt) q)).length = ((((foundOf d b lo2 hi2).take j).filter fun q => begins (d * b) (woven b pt) q)).length + if begins (d * b) (woven b pt) (ql, qn) = true then 1 else 0 := by
          rw [List.take_add_one, hq, List.filter_append, List.length_append]
          congr 1
          show (List.filter _ [(ql, qn)]).length = _
          rw [List.filter_cons]
          split <;> simp_all
        refine ⟨rfl, _, rfl, _, rfl, _, rfl, x, qa, d, b, _, ql, qn, rfl, ⟨dx, s21 _ _ (s1620 _ _ hx16)⟩, by omega, s21 _ _ hqt, qm1, _, rfl, ?_⟩
        refine ite2 (fun hb => ?_) (fun hb => ?_)
        · refine ⟨_, rfl, _, hL21, by rw [lbs]; exact small1000 (by omega), same_at s21 hL, _, upd_same, ?_⟩
          rw [st, if_pos hb, List.length_append, lbs]
          rfl
        · refine ⟨s21, bs, hL21, ?_⟩
          rw [st, if_neg hb, lbs]
          rfl
      rintro H21 ⟨s21, bs, hL21, lbs⟩
      rw [List.length_map] at lbs
      have lff : fs.length = (foundOf d b lo2 hi2).length := by
        have e := Paired.length tF
        rw [List.length_map] at e
        exact e
      rw [lff, List.take_length] at lbs
      have once : holdsB lo2 pt hi2 = decide (V.int (bs.length : Int) = V.int 1) := by
        rw [← found_once hsp pl2.1 ph2.1 hpm, ← lbs, Bool.eq_iff_iff]
        simp
        omega
      refine ⟨L, _, rfl, .inl (.inl (.inl hL21)), rfl, rfl, _, rfl, iteNS (congrArg V.bl once) ?_⟩
      exact ⟨s1620.trans s21, _, _, _, _, rfl⟩
    rintro σ H17 ⟨s17, v5, v6, v7, v8, rfl⟩
    have j17 : Kp H16 H17 := Kp.same s17
    have k17 := k16.trans j17
    have D17 := D16.same s17
    have hx17 := k17.ins hx11
    have pr17 := k17.tup pr11
    -- a later beginning
    refine ⟨_, rfl, _, rfl, _, _, rfl, rfl, dr, _, rfl, by omega, D17, fun l2 H18 hl2 bt18 D18 => ?_⟩
    have hll : l2 ≤ l := by omega
    have j18 := j17.trans (Kp.but D17 bt18)
    have hpl2 : 2 ^ l2 ≤ 2 ^ l := Nat.pow_le_pow_right (by decide) hll
    refine ⟨_, rfl, tIf_cont (fun _ H19 => Kp H16 H19 ∧ Drw K H19 dr) (fun v H19 => ∃ n2 : Nat, v = .int (n2 : Int) ∧ n2 < 2 ^ l2 ∧ Kp H16 H19 ∧ Drw K H19 dr) (fun Kc hK => ?_) (fun H19 r19 Q' hQ => ?_) (fun H19 r19 Q' hQ => ?_) ?_⟩
    · exact ⟨_, rfl, dr, _, rfl, by decide, D18, fun coin H19 hc19 bt19 D19 => ⟨rfl, _, rfl, hK _ _ ⟨j18.trans (Kp.but D18 bt19), D19⟩⟩⟩
    · have e : (l : Int) - (l2 : Int) = ((l - l2 : Nat) : Int) := by omega
      have h2p := Nat.two_pow_pos (l - l2)
      have h2q : 2 ^ (l - l2) ≤ 2 ^ l := Nat.pow_le_pow_right (by decide) (by omega)
      refine ⟨_, rfl, pr, _, 1, _, rfl, rfl, .inl (.inl (r19.1.tup pr16)), at_of (j := 1) rfl rfl, _, rfl, _, rfl, _, _, rfl, rfl, l - l2, congrArg (fun z => [V.int z]) e, by omega, _, _, rfl, rfl, ⟨by omega, by omega⟩, hQ _ _ ⟨n / 2 ^ (l - l2), ?_, ?_, r19⟩⟩
      · rw [Int.natCast_ediv]
      · refine Nat.div_lt_of_lt_mul ?_
        rw [← Nat.pow_add, show l - l2 + l2 = l by omega]
        exact hn
    · exact ⟨_, rfl, _, rfl, l2, rfl, by omega, dr, _, rfl, Int.ofNat_lt.mpr (Nat.two_pow_pos l2), r19.2, fun r H20 hr20 bt20 D20 => hQ _ _ ⟨r, rfl, Int.ofNat_lt.mp hr20, r19.1.trans (Kp.but r19.2 bt20), D20⟩⟩
    rintro v H19 ⟨n2, rfl, hn2, j19, D19⟩
    refine ⟨by show 2 ≤ sizeLine; decide, fun pq hpq => ?_⟩
    have k1620 : Kp H16 (upd H19 pq (.tup [V.int (l2 : Int), V.int (n2 : Int)])) := j19.trans (Kp.same (same_upd hpq))
    have D20 : Drw K (upd H19 pq (.tup [V.int (l2 : Int), V.int (n2 : Int)])) dr := drw_at D19 hpq
    have pq20 : PreAt (upd H19 pq (.tup [V.int (l2 : Int), V.int (n2 : Int)])) pq l2 n2 := upd_same
    generalize upd H19 pq (.tup [V.int (l2 : Int), V.int (n2 : Int)]) = H20 at D20 pq20 k1620 ⊢
    have k20 := k16.trans k1620
    have hP20 := k20.refs hP11
    have tP20 := k20.tups tP11
    have hx20 := k20.ins hx11
    have hN20 := k20.nums hN11
    have pr20 := k20.tup pr11
    have bz20 := k1620.box bz16
    have hF20 := k1620.refs hF
    have tF20 := k1620.tups tF
    -- is it due
    refine ⟨_, rfl, N, rfl, ⟨_, .inl (.inl hN20)⟩, fun L hL => lc_list (K := K) (a := N) (xs := iV (numsOf d b)) (fun i H21 => Same H20 H21 ∧ H21 L = some (.lst (((((numsOf d b).take i).filter fun wn => begins (d * b) wn (l, n)).map fun wn => begins (d * b) wn (l2, n2)).map V.bl))) ⟨same_upd hL, upd_same⟩ (fun i H21 _ ⟨s21, _⟩ => .inl (.inl (s21 _ _ hN20))) ?_ ?_⟩
    · rintro i v H21 hi ⟨s21, hL21⟩
      obtain ⟨wn, hwn, rfl⟩ := iV_get hi
      have S21 : SpaceAt CS H21 x d b := ⟨dx, s21 _ _ hx20⟩
      have st : (((numsOf d b).take (i + 1)).filter fun wn => begins (d * b) wn (l, n)) = (((numsOf d b).take i).filter fun wn => begins (d * b) wn (l, n)) ++ if begins (d * b) wn (l, n) = true then [wn] else [] := by
        rw [List.take_add_one, hwn, List.filter_append]
        congr 1
        show (List.filter _ [wn]) = _
        rw [List.filter_cons]
        rfl
      refine ⟨rfl, _, rfl, _, rfl, _, rfl, x, pr, d, b, _, l, n, rfl, S21, by omega, s21 _ _ pr20, hl, _, rfl, ?_⟩
      refine ite2 (fun hb => ?_) (fun hb => ?_)
      · refine ⟨_, rfl, _, rfl, _, rfl, x, pq, d, b, _, l2, n2, rfl, S21, by omega, s21 _ _ pq20, Nat.le_trans hll hl, ⟨_, hL21, ?_, same_at s21 hL, ?_⟩⟩
        · rw [List.length_map, List.length_map]
          refine small1000 (Nat.le_trans (List.length_filter_le _ _) ?_)
          rw [List.length_take, lnum]
          omega
        · refine upd_same.trans ?_
          rw [st, if_pos hb]
          simp
      · refine ⟨s21, ?_⟩
        rw [st, if_neg hb, List.append_nil]
        exact hL21
    rintro H21 ⟨s21, hL21⟩
    rw [List.length_map, List.take_length] at hL21
    have D21 := D20.same s21
    have hx21 := s21 _ _ hx20
    have hP21 := s21 _ _ hP20
    have hN21 := s21 _ _ hN20
    have pr21 := s21 _ _ pr20
    have pq21 := s21 _ _ pq20
    have bz21 := bz20.same s21
    have hF21 := s21 _ _ hF20
    have tF21 := tF20.same s21
    have tP21 := tP20.same s21
    refine ⟨L, _, rfl, .inl (.inl hL21), ?_⟩
    -- is_inside
    have due : decide (l2 ≤ l ∧ n / 2 ^ (l - l2) = n2) = ((((numsOf d b).filter fun wn => begins (d * b) wn (l, n)).map fun wn => begins (d * b) wn (l2, n2)).all id) := by
      rw [List.all_map]
      exact (due_ok hsp hl hn hll).symm
    refine ⟨_, rfl, _, rfl, pr, pq, l, n, l2, n2, rfl, pr21, pq21, by omega, _, rfl, rfl, _, rfl, iteNS (congrArg V.bl due) ?_⟩
    refine ⟨_, rfl, by show 2 ≤ sizeLine; decide, fun t0 ht0 => ?_⟩
    have s22 : Same H21 (upd H21 t0 (.tup [V.int 0, V.int 0])) := same_upd ht0
    have g22 : PreAt (upd H21 t0 (.tup [V.int 0, V.int 0])) t0 0 0 := upd_same
    generalize upd H21 t0 (.tup [V.int 0, V.int 0]) = H22 at s22 g22 ⊢
    have pr22 := s22 _ _ pr21
    have z22 : decide (0 ≤ l ∧ n / 2 ^ (l - 0) = 0) = true := inside_zero hn
    refine ⟨pr, t0, l, n, 0, 0, rfl, pr22, g22, by omega, _, rfl, ?_⟩
    rw [z22]
    have z23 : decide (l ≤ l ∧ n / 2 ^ (l - l) = n) = true := inside_self (l, n)
    refine iteF ⟨_, rfl, _, rfl, pr, pr, l, n, l, n, rfl, pr22, pr22, by omega, _, rfl, ?_⟩
    rw [z23]
    refine iteF ?_
    have D22 := D21.same s22
    have hx22 := s22 _ _ hx21
    have hP22 := s22 _ _ hP21
    have hN22 := s22 _ _ hN21
    have bz22 := bz21.same s22
    have hF22 := s22 _ _ hF21
    have tF22 := tF21.same s22
    have tP22 := tP21.same s22
    obtain ⟨be1, bf1, bg1, hz22, _, _⟩ := id bz22
    -- the box's points that begin so
    refine ⟨_, rfl, _, rfl, P, N, as.map V.ref, iV (numsOf d b), rfl, .inl (.inl hP22), .inl (.inl hN22), fun M hM => lc_it (walk_zip (n := 2 ^ (d * b)) (by rw [List.length_map, List.length_map, las, lnum]; omega)) (fun i H23 => Same H22 H23 ∧ H23 M = some (.lst (iV ((((ptsOf d b).take i).filter fun p => holdsB lo2 p hi2 && begins (d * b) (woven b p) (l, n)).map (woven b))))) ⟨same_upd hM, upd_same⟩
      (fun i H23 _ ⟨s23, _⟩ => ⟨.inl (.inl (s23 _ _ hP22)), .inl (.inl (s23 _ _ hN22))⟩) ?_ ?_⟩
    · rintro i v H23 H23' hi ⟨s23, hM23⟩ ⟨t, y1, y2, rfl, ht, rfl, hy1, hy2⟩
      obtain ⟨ai, ha, rfl⟩ := refs_get hy1
      obtain ⟨pt, hpt, hta⟩ := tP22.get ha
      obtain ⟨wn, hwn, rfl⟩ := iV_get hy2
      rw [List.getElem?_map, hpt] at hwn
      obtain rfl : woven b pt = wn := Option.some.inj hwn
      have hip := allPts_mem (List.mem_of_getElem? hpt)
      have s24 := same_more (o := .tup [.ref ai, .int (woven b pt : Int)]) s23 ht
      have hM24 : upd H23 t (.tup [.ref ai, .int (woven b pt : Int)]) M = _ := (upd_ne (ne_of_none hM23 ht)).trans hM23
      refine ⟨t, _, rfl, .inl (.inl upd_same), rfl, _, _, rfl, _, _, rfl, rfl, rfl, ?_⟩
      generalize upd H23 t (.tup [.ref ai, .int (woven b pt : Int)]) = H24 at s24 hM24 ⊢
      have st : ((ptsOf d b).take (i + 1)).filter (fun p => holdsB lo2 p hi2 && begins (d * b) (woven b p) (l, n)) = ((ptsOf d b).take i).filter (fun p => holdsB lo2 p hi2 && begins (d * b) (woven b p) (l, n)) ++ if (holdsB lo2 pt hi2 && begins (d * b) (woven b pt) (l, n)) = true then [pt] else [] := by
        rw [List.take_add_one, hpt, List.filter_append]
        congr 1
        show (List.filter _ [pt]) = _
        rw [List.filter_cons]
        rfl
      refine ⟨_, rfl, z, be1, _, rfl, s24 _ _ hz22, bFl_no _ _ _ (by decide +kernel) (by decide +kernel) (by decide +kernel), _, rfl, z, x, ai, d, _, _, pt, rfl, hd3, bz22.same s24, s24 _ _ hta, pl2.1, ph2.1, hip.1, fun H25 s25 => ⟨_, rfl, ?_⟩⟩
      have s2225 := s24.trans s25
      refine ite2 (fun hb1' => ?_) (fun hb1' => ?_)
      · refine ⟨_, rfl, _, rfl, _, rfl, x, pr, d, b, _, l, n, rfl, ⟨dx, s2225 _ _ hx22⟩, by omega, s2225 _ _ pr22, hl, _, rfl, ?_⟩
        refine ite2 (fun hb2' => ?_) (fun hb2' => ?_)
        · refine ⟨_, rfl, _, s25 _ _ hM24, ?_, same_at s2225 hM, ?_⟩
          · rw [List.length_map, List.length_map]
            refine small1000 (Nat.le_trans (List.length_filter_le _ _) ?_)
            rw [List.length_take, pts_len]
            omega
          · refine upd_same.trans ?_
            rw [st, hb1', hb2']
            simp
        · refine ⟨s2225, ?_⟩
          rw [st, if_neg (by rw [Bool.and_eq_true]; exact fun z => hb2' z.2), List.append_nil]
          exact s25 _ _ hM24
      · refine ite2 (fun z => Bool.noConfusion z) (fun _ => ?_)
        refine ⟨s2225, ?_⟩
        rw [st, if_neg (by rw [Bool.and_eq_true]; exact fun z => hb1' z.1), List.append_nil]
        exact s25 _ _ hM24
    rintro H23 ⟨s23, hM23⟩
    rw [List.take_of_length_le (Nat.le_of_eq pts_len)] at hM23
    have hz23 := s23 _ _ hz22
    have pr23 := s23 _ _ pr22
    have hx23 := s23 _ _ hx22
    -- rooms
    refine ⟨_, rfl, z, be1, _, rfl, hz23, bFl_no _ _ _ (by decide +kernel) (by decide +kernel) (by decide +kernel), _, rfl, z, x, pr, d, b, l, n, lo2, hi2, rfl, hdb, bz22.same s23, ⟨dx, hx23⟩, pl2, ph2, pr23, hl, hn40, fun H24 s24 => ?_⟩
    have e24 : V.int ((room d b lo2 hi2 l n : Nat) : Int) = V.int ((iV (((ptsOf d b).filter fun p => holdsB lo2 p hi2 && begins (d * b) (woven b p) (l, n)).map (woven b))).length : Int) := by
      rw [List.length_map, List.length_map, room_len hsp pl2.1 ph2.1 hl hn]
    refine ⟨_, rfl, M, _, rfl, .inl (.inl (.inl (s24 _ _ hM23))), rfl, _, rfl, iteNS e24 ?_⟩
    have hx24 := s24 _ _ hx23
    have pr24 := s24 _ _ pr23
    have D24 := (D22.same s23).same s24
    have hF24 := s24 _ _ (s23 _ _ hF22)
    have tF24 := (tF22.same s23).same s24
    have edl : ((d * b : Nat) : Int) - (l : Int) = ((d * b - l : Nat) : Int) := by omega
    refine ⟨_, rfl, x, dx, _, rfl, hx24, sFl_no _ _ (by decide +kernel) (by decide +kernel) (by decide +kernel) (by decide +kernel), _, rfl, x, pr, d, b, l, n, rfl, ⟨dx, hx24⟩, by omega, pr24, hl, ?_⟩
    refine ⟨_, rfl, x, CS, dx, _, _, rfl, hx24, T.clS, T.sDepth, sFl_depth _ _, _, rfl, _, _, rfl, rfl, d * b - l, congrArg (fun z => [V.int z]) edl, by omega, rfl, _, rfl, iteNS rfl ?_⟩
    -- no two beginnings are one, or lie in each other
    refine ⟨_, rfl, Fa, rfl, ⟨_, .inl (.inl hF24)⟩, for_list (K := K) (a := Fa) (xs := fs.map V.ref) (fun i σ H25 => Same H24 H25 ∧ ∃ v5 v6 v7 v8 v16 v19, σ = [some (.ref a), some (.ref dr), some (.ref x), some (.ref P), some (.ref N), v5, v6, v7, v8, some (.int (l : Int)), some (.ref pr), some (.ref lo), some (.ref hi), some (.ref y), some (.ref z), some (.ref Fa), v16, some (.int (l2 : Int)), some (.ref pq), v19, some (.ref M), none, none, none])
      ⟨Same.refl _, _, _, _, _, _, _, rfl⟩ (fun i σ H25 _ ⟨s25, _⟩ => .inl (.inl (s25 _ _ hF24))) ?_ ?_⟩
    · rintro i v σ H25 hi' ⟨s25, v5, v6, v7, v8, v16, v19, rfl⟩
      obtain ⟨pa', hpa, rfl⟩ := refs_get hi'
      obtain ⟨pp, hpp, hpt⟩ := tF24.get hpa
      obtain ⟨⟨p1, p2⟩, hp, rfl⟩ := pL_get hpp
      have hpm := List.mem_of_getElem? hp
      obtain ⟨pm1, pm2⟩ := found_mem hpm
      have hF25 := s25 _ _ hF24
      have tF25 := tF24.same s25
      refine ⟨_, rfl, Fa, rfl, ⟨_, .inl (.inl hF25)⟩, fun L hL => lc_list (K := K) (a := Fa) (xs := fs.map V.ref) (fun j H26 => Same H25 H26 ∧ H26 L = some (.lst ((List.replicate j false).map V.bl))) ⟨same_upd hL, upd_same⟩ (fun j H26 _ ⟨s26, _⟩ => .inl (.inl (s26 _ _ hF25))) ?_ ?_⟩
      · rintro j v H26 hj ⟨s26, hL26⟩
        obtain ⟨qa', hqa, rfl⟩ := refs_get hj
        have jlt : j ≤ 256 := by have := get_lt hqa; omega
        obtain ⟨qq, hqq, hqt⟩ := tF25.get hqa
        obtain ⟨⟨q1', q2'⟩, hq', rfl⟩ := pL_get hqq
        have hqm := List.mem_of_getElem? hq'
        have apart := found_apart hsp pl2.1 ph2.1 hpm hqm
        have hp26 := s26 _ _ (s25 _ _ hpt)
        have hq26 := s26 _ _ hqt
        have fin : ∀ H27 : Hp, Same H26 H27 → ∀ k : Bool, k = false → ∃ acc, H27 L = some (.lst acc) ∧ acc.length < sizeLine ∧ (Same H25 (upd H27 L (.lst (acc ++ [V.bl k]))) ∧ upd H27 L (.lst (acc ++ [V.bl k])) L = some (.lst ((List.replicate (j + 1) false).map V.bl))) := by
          rintro H27 s27 k rfl
          refine ⟨_, s27 _ _ hL26, ?_, same_at (s26.trans s27) hL, ?_⟩
          · rw [List.length_map, List.length_replicate]
            exact small1000 (by omega)
          · rw [List.replicate_succ', List.map_append]
            exact upd_same
        refine ⟨rfl, _, rfl, _, rfl, .tuple (FC.dI (pL (q1', q2'))), .tuple (FC.dI (pL (p1, p2))), dp_tup (.inl (.inl hq26)), dp_tup (.inl (.inl hp26)), shaped_tup _, shaped_tup _, _, rfl, ?_⟩
        rw [eqv_tup]
        by_cases e : ((q1', q2') : Nat × Nat) = (p1, p2)
        · rw [decide_eq_true (congrArg pL e)]
          exact iteF (fin H26 (Same.refl _) false rfl)
        · have e' : ¬ pL (q1', q2') = pL (p1, p2) := fun z => e (pL_inj z)
          rw [decide_eq_false e']
          rw [decide_eq_true e, Bool.true_and, Bool.or_eq_false_iff] at apart
          refine iteT ⟨_, rfl, _, rfl, pa', qa', p1, p2, q1', q2', rfl, hp26, hq26, by have : p1 ≤ d * b := pm1; omega, _, rfl, ?_⟩
          rw [show decide (q1' ≤ p1 ∧ p2 / 2 ^ (p1 - q1') = q2') = false from apart.1]
          refine iteF ⟨_, rfl, _, rfl, pa', _, 0, _, rfl, rfl, .inl (.inl hp26), at_of (j := 0) rfl rfl, _, rfl, pa', _, 1, _, rfl, rfl, .inl (.inl hp26), at_of (j := 1) rfl rfl, _, _, rfl, rfl, ?_⟩
          refine ⟨_, rfl, pa', _, 1, _, rfl, rfl, .inl (.inl hp26), at_of (j := 1) rfl rfl, _, _, rfl, rfl, (by show (0 : Int) < 2; decide), _, _, rfl, rfl, .inl ⟨by decide, by decide⟩, _, _, rfl, rfl, by show 2 ≤ sizeLine; decide, fun t27 ht27 => ?_⟩
          have esib : (p2 : Int) + 1 - 2 * ((p2 : Int) % 2) = ((sibN p2 : Nat) : Int) := by
            unfold sibN
            split <;> omega
          have s27 := same_upd (o := .tup [V.int (p1 : Int), V.int ((p2 : Int) + 1 - 2 * ((p2 : Int) % 2))]) ht27
          have g27 : TupAt (upd H26 t27 (.tup [V.int (p1 : Int), V.int ((p2 : Int) + 1 - 2 * ((p2 : Int) % 2))])) t27 [p1, sibN p2] := by
            refine upd_same.trans ?_
            rw [esib]
            rfl
          refine ⟨.tuple (FC.dI (pL (q1', q2'))), .tuple (FC.dI [p1, sibN p2]), dp_tup (.inl (.inl (s27 _ _ hq26))), dp_tup (.inl (.inl g27)), shaped_tup _, shaped_tup _, ?_⟩
          rw [eqv_tup]
          refine fin _ s27 _ (decide_eq_false fun z => ?_)
          have z2 : ((q1', q2') : Nat × Nat) = (p1, sibN p2) := pL_inj (q := (p1, sibN p2)) z
          exact of_decide_eq_false apart.2 z2
      rintro H26 ⟨s26, hL26⟩
      refine ⟨L, _, rfl, .inl (.inl hL26), _, rfl, ?_⟩
      rw [show (List.replicate (fs.map V.ref).length false).any id = false from by simp]
      exact iteF ⟨s25.trans s26, _, _, _, _, _, _, rfl⟩
    rintro σ H25 ⟨s25, v5, v6, v7, v8, v16, v19, rfl⟩
    have D25 := D24.same s25
    have hx25 := s25 _ _ hx24
    have hF25 := s25 _ _ hF24
    have tF25 := tF24.same s25
    -- what is refused
    refine ⟨_, rfl, ?_⟩
    refine ⟨by show 3 ≤ sizeLine; decide, fun t0 ht0 => ?_⟩
    have w0 : Same H25 (upd H25 t0 (.tup [V.int 0, V.int 1, V.str "dimensions"])) := same_upd ht0
    have g0 : upd H25 t0 (.tup [V.int 0, V.int 1, V.str "dimensions"]) t0 = some (.tup [V.int 0, V.int 1, V.str "dimensions"]) := upd_same
    generalize upd H25 t0 (.tup [V.int 0, V.int 1, V.str "dimensions"]) = J0 at w0 g0 ⊢
    refine ⟨by show 3 ≤ sizeLine; decide, fun t1 ht1 => ?_⟩
    have w1 : Same J0 (upd J0 t1 (.tup [V.int 4, V.int 1, V.str "dimensions"])) := same_upd ht1
    have g1 : upd J0 t1 (.tup [V.int 4, V.int 1, V.str "dimensions"]) t1 = some (.tup [V.int 4, V.int 1, V.str "dimensions"]) := upd_same
    generalize upd J0 t1 (.tup [V.int 4, V.int 1, V.str "dimensions"]) = J1 at w1 g1 ⊢
    refine ⟨by show 3 ≤ sizeLine; decide, fun t2 ht2 => ?_⟩
    have w2 : Same J1 (upd J1 t2 (.tup [V.int 2, V.int 0, V.str "bits"])) := same_upd ht2
    have g2 : upd J1 t2 (.tup [V.int 2, V.int 0, V.str "bits"]) t2 = some (.tup [V.int 2, V.int 0, V.str "bits"]) := upd_same
    generalize upd J1 t2 (.tup [V.int 2, V.int 0, V.str "bits"]) = J2 at w2 g2 ⊢
    refine ⟨by show 3 ≤ sizeLine; decide, fun t3 ht3 => ?_⟩
    have w3 : Same J2 (upd J2 t3 (.tup [V.int 2, V.int 11, V.str "bits"])) := same_upd ht3
    have g3 : upd J2 t3 (.tup [V.int 2, V.int 11, V.str "bits"]) t3 = some (.tup [V.int 2, V.int 11, V.str "bits"]) := upd_same
    generalize upd J2 t3 (.tup [V.int 2, V.int 11, V.str "bits"]) = J3 at w3 g3 ⊢
    refine ⟨by show 3 ≤ sizeLine; decide, fun t4 ht4 => ?_⟩
    have w4 : Same J3 (upd J3 t4 (.tup [V.bl true, V.int 1, V.str "dimensions"])) := same_upd ht4
    have g4 : upd J3 t4 (.tup [V.bl true, V.int 1, V.str "dimensions"]) t4 = some (.tup [V.bl true, V.int 1, V.str "dimensions"]) := upd_same
    generalize upd J3 t4 (.tup [V.bl true, V.int 1, V.str "dimensions"]) = J4 at w4 g4 ⊢
    refine ⟨by show 3 ≤ sizeLine; decide, fun t5 ht5 => ?_⟩
    have w5 : Same J4 (upd J4 t5 (.tup [V.int 1, V.non, V.str "bits"])) := same_upd ht5
    have g5 : upd J4 t5 (.tup [V.int 1, V.non, V.str "bits"]) t5 = some (.tup [V.int 1, V.non, V.str "bits"]) := upd_same
    generalize upd J4 t5 (.tup [V.int 1, V.non, V.str "bits"]) = J5 at w5 g5 ⊢
    refine ⟨by show 6 ≤ sizeLine; decide, fun W hW => ?_⟩
    have w6 : Same J5 (upd J5 W (.lst [V.ref t0, V.ref t1, V.ref t2, V.ref t3, V.ref t4, V.ref t5])) := same_upd hW
    have g6 : upd J5 W (.lst [V.ref t0, V.ref t1, V.ref t2, V.ref t3, V.ref t4, V.ref t5]) W = some (.lst [V.ref t0, V.ref t1, V.ref t2, V.ref t3, V.ref t4, V.ref t5]) := upd_same
    generalize upd J5 W (.lst [V.ref t0, V.ref t1, V.ref t2, V.ref t3, V.ref t4, V.ref t5]) = J6 at w6 g6 ⊢
    have w5' := w5.trans w6
    have w4' := w4.trans w5'
    have w3' := w3.trans w4'
    have w2' := w2.trans w3'
    have w1' := w1.trans w2'
    have w0' := w0.trans w1'
    have DJ := D25.same w0'
    have hWd : W ≠ dr := fun z => by
      obtain ⟨a', j', ns', h1, _⟩ := DJ
      rw [← z, g6] at h1
      injection h1 with h1
      injection h1 with h1
      have := congrArg List.length h1
      simp at this
    refine ⟨dr, W, _, rfl, DJ, g6, hWd, (by intro z; cases z), (show 6 ≤ 1000 by decide), fun i v H27 hi' bt27 D27 => ?_⟩
    have k27 : Kp H25 H27 := (Kp.same w0').trans (Kp.but DJ bt27)
    have kJ : Kp J6 H27 := Kp.but DJ bt27
    obtain ⟨wt, u1, u2, u3, rfl, hwt, hbad⟩ : ∃ (wt : Addr) (u1 u2 : V) (u3 : Str), v = .ref wt ∧ H27 wt = some (.tup [u1, u2, .str u3]) ∧ ((badNum u1 3 ∧ u3 = "dimensions") ∨ (okNum u1 3 ∧ badNum u2 10 ∧ u3 = "bits")) := by
      match i, hi' with
      | 0, h => exact ⟨t0, _, _, _, (Option.some.inj h).symm, kJ.tupV (w1' _ _ g0), .inl ⟨.inl ⟨0, rfl, by decide⟩, rfl⟩⟩
      | 1, h => exact ⟨t1, _, _, _, (Option.some.inj h).symm, kJ.tupV (w2' _ _ g1), .inl ⟨.inl ⟨4, rfl, by decide⟩, rfl⟩⟩
      | 2, h => exact ⟨t2, _, _, _, (Option.some.inj h).symm, kJ.tupV (w3' _ _ g2), .inr ⟨⟨2, rfl, by decide, by decide⟩, .inl ⟨0, rfl, by decide⟩, rfl⟩⟩
      | 3, h => exact ⟨t3, _, _, _, (Option.some.inj h).symm, kJ.tupV (w4' _ _ g3), .inr ⟨⟨2, rfl, by decide, by decide⟩, .inl ⟨11, rfl, by decide⟩, rfl⟩⟩
      | 4, h => exact ⟨t4, _, _, _, (Option.some.inj h).symm, kJ.tupV (w5' _ _ g4), .inl ⟨.inr (.inr ⟨true, rfl⟩), rfl⟩⟩
      | 5, h => exact ⟨t5, _, _, _, (Option.some.inj h).symm, kJ.tupV (w6 _ _ g5), .inr ⟨⟨1, rfl, by decide, by decide⟩, .inr (.inl rfl), rfl⟩⟩
    have hx27 := k27.ins hx25
    have hF27 := k27.refs hF25
    have tF27 := k27.tups tF25
    -- the places
    refine ⟨_, rfl, Fa, rfl, ⟨_, .inl (.inl hF27)⟩, fun Z hZ => lc_list (K := K) (a := Fa) (xs := fs.map V.ref) (fun j H28 => Same H27 H28 ∧ H28 Z = some (.lst ((((foundOf d b lo2 hi2).take j).map fun q => ((place (d * b) q : Nat) : Int)).map V.int))) ⟨same_upd hZ, upd_same⟩ (fun j H28 _ ⟨s28, _⟩ => .inl (.inl (s28 _ _ hF27))) ?_ ?_⟩
    · rintro j v H28 hj ⟨s28, hZ28⟩
      obtain ⟨qa', hqa, rfl⟩ := refs_get hj
      have jlt : j ≤ 256 := by have := get_lt hqa; omega
      obtain ⟨qq, hqq, hqt⟩ := tF27.get hqa
      obtain ⟨⟨q1', q2'⟩, hq', rfl⟩ := pL_get hqq
      obtain ⟨qm1, qm2⟩ := found_mem (List.mem_of_getElem? hq')
      have hq28 := s28 _ _ hqt
      have hx28 := s28 _ _ hx27
      have qs : q2' < 2 ^ (d * b) := Nat.lt_of_lt_of_le qm2 (Nat.pow_le_pow_right (by decide) qm1)
      refine ⟨rfl, _, rfl, qa', _, 1, _, rfl, rfl, .inl (.inl hq28), at_of (j := 1) rfl rfl, _, rfl, x, dx, _, rfl, hx28, sFl_no _ _ (by decide +kernel) (by decide +kernel) (by decide +kernel) (by decide +kernel), _, rfl, x, qa', d, b, q1', q2', rfl, ⟨dx, hx28⟩, by omega, hq28, qm1, ?_⟩
      refine ⟨_, _, rfl, rfl, .inl ⟨by omega, by omega⟩, _, hZ28, ?_, same_at s28 hZ, ?_⟩
      · rw [List.length_map, List.length_map, List.length_take]
        exact small1000 (by omega)
      · refine upd_same.trans ?_
        have e : (q2' : Int) * ((2 ^ (d * b - q1') : Nat) : Int) = ((place (d * b) (q1', q2') : Nat) : Int) := by
          unfold place
          rw [Int.natCast_mul]
        show some (HO.lst (_ ++ [V.int ((q2' : Int) * ((2 ^ (d * b - q1') : Nat) : Int))])) = _
        rw [e, List.take_add_one, hq']
        simp
    rintro H28 ⟨s28, hZ28⟩
    have lff : fs.length = (foundOf d b lo2 hi2).length := by
      have e := Paired.length tF
      rw [List.length_map] at e
      exact e
    rw [List.length_map, lff, List.take_length] at hZ28
    -- the end
    refine ⟨_, rfl, _, rfl, Z, _, rfl, .inl (.inl hZ28), fun ns' q3 hperm' hsort' hq3 => ?_⟩
    have e3 := perm_sorted hperm' hsort' (places_sorted d b lo2 hi2)
    subst e3
    have s29 : Same H28 (upd H28 q3 (.lst (((foundOf d b lo2 hi2).map fun q => ((place (d * b) q : Nat) : Int)).map V.int))) := same_upd hq3
    refine ⟨.list (dZ ((foundOf d b lo2 hi2).map fun q => ((place (d * b) q : Nat) : Int))), .list (dZ ((foundOf d b lo2 hi2).map fun q => ((place (d * b) q : Nat) : Int))), dp_ints (.inl (.inl (s29 _ _ hZ28))), dp_ints (.inl (.inl upd_same)), shaped_ints _, shaped_ints _, _, rfl, ?_⟩
    rw [eqv_ints, decide_eq_true rfl]
    have hwt29 := s29 _ _ (s28 _ _ hwt)
    refine iteT ⟨_, rfl, wt, _, 0, _, rfl, rfl, .inl (.inl hwt29), at_of (j := 0) rfl rfl, _, rfl, wt, _, 1, _, rfl, rfl, .inl (.inl hwt29), at_of (j := 1) rfl rfl, _, rfl, wt, _, 2, _, rfl, rfl, .inl (.inl hwt29), at_of (j := 2) rfl rfl, u1, u2, u3, rfl, hbad, fun H30 s30 => ⟨_, rfl, iteT ⟨rfl, fun H31 s31 => q _⟩⟩⟩
end
end FC

set_option Elab.async false
set_option linter.all false
set_option maxRecDepth 100000
set_option maxHeartbeats 8000000
/-! the facts of the top; the end -/
namespace FC
open PySem PySem.Spec PyProof.Rows L2 FE
theorem kit_self (K : PySem.W.Frag) (t : Value) : PySem.W.kitOne K t t = some true := by
  unfold PySem.W.kitOne
  rw [if_pos (by simp)]
theorem sup_of {K : PySem.W.Frag} {CX CE xN yN : Addr} {xnm xq ynm yq : Str} {xbs ybs xsub ysub : List Value} {xsn ysn : List Str} {xab yab : Bool} {xcol ycol : Option Bool} {xdd ydd : Option Addr} {xk0 xk1 xk2 xk3 xk5 yk0 yk1 yk2 yk3 yk5 : Option Value}
    (xL : K.lookup CX = some (excClassObj xnm xq CX xN xbs (exT CE) true xsn xsub xab xcol xdd xk0 xk1 xk2 xk3 xk5 "Exception.__new__"))
    (yL : K.lookup CE = some (excClassObj ynm yq CE yN ybs [.type "Exception", .type "BaseException", .type "object"] true ysn ysub yab ycol ydd yk0 yk1 yk2 yk3 yk5 "Exception.__new__"))
    (yi : PySem.W.findIn K (.ref CE) "__init__" = some (some (.builtin "Exception.__init__"))) : PySem.W.ks_superIn K CX CX "__init__" = some (some (.builtin "Exception.__init__")) := by
  have hcl : PySem.W.clsIn K CX = some { name := xnm, bases := xbs, mro := .ref CX :: exT CE, ns := xN, qualname := xq, hasDict := true, slotNames := xsn, subclasses := xsub, abstract := xab, collection := xcol, hasDel := false } := by unfold PySem.W.clsIn; rw [xL] <;> rfl
  unfold PySem.W.ks_superIn
  rw [hcl]
  show PySem.W.alongIn K "__init__" (((Value.ref CX :: exT CE).dropWhile (· != .ref CX)).drop 1) = _
  rw [ESX.drop_own CX _]
  unfold PySem.W.findIn at yi
  dsimp only at yi
  rw [yL] at yi
  exact yi
/-- an error of the class at S is what «except S» names -/
theorem exm_self {K : PySem.W.Frag} {S : Addr} (h1 : PySem.W.subIn K (.ref S) (.type "BaseException") = some true) (h2 : PySem.W.isClsIn K S = true) (h3 : PySem.W.typeIn K (.ref S) = some (.type "type")) (h4 : PySem.W.subIn K (.ref S) (.ref S) = some true) :
    PySem.W.exmOne K (.ref S) (.ref S) = some true := by
  have e1 : (PySem.W.subIn K (.ref S) (.type "BaseException") == some true) = true := by rw [h1] <;> rfl
  have e2 : ((PySem.W.clsIn K S).isSome && PySem.W.typeIn K (.ref S) == some (.type "type")) = true := by
    have h2' : (PySem.W.clsIn K S).isSome = true := h2
    rw [h2', h3] <;> rfl
  show (if (PySem.W.subIn K (.ref S) (.type "BaseException") == some true) = true then (if ((PySem.W.clsIn K S).isSome && PySem.W.typeIn K (.ref S) == some (.type "type")) = true then PySem.W.subIn K (.ref S) (.ref S) else none) else none) = some true
  rw [if_pos e1, if_pos e2]
  exact h4
theorem all_mk {w : World} {K : PySem.W.Frag} {h : Heap} {mg : Str → Option Value} {fa CS CB CX CE fX cc cda xN yN fWh fPr fSI fEq fIP fCk fWo fPo fSi fCe fBI fHo fRo fPf fIn fNu fTa fPi fPw fSp fPt fBx fAl fBt fBg fRf fTd fLa : Addr} (X : K.In h) (G : h.Ns mainGlobals mg) (hfa : mg "law" = some (.ref fa))
    {odWh anWh odPr anPr odSI anSI odEq anEq odIP anIP odCk anCk odWo anWo odPo anPo odSi anSi odCe anCe odBI anBI odHo anHo odRo anRo odPf anPf odIn anIn odNu anNu odTa anTa odPi anPi odPw anPw odSp anSp odPt anPt odBx anBx odAl anAl odBt anBt odBg anBg odRf anRf odTd anTd odLa anLa odX anX cldX cddX xdd ydd : Option Addr} {slWh slPr slSI slEq slIP slCk slWo slPo slSi slCe slBI slHo slRo slPf slIn slNu slTa slPi slPw slSp slPt slBx slAl slBt slBg slRf slTd slLa slX cslX ccsX : Array (Option Value)} {ocWh dcWh pmWh ctWh ocPr dcPr pmPr ctPr ocSI dcSI pmSI ctSI ocEq dcEq pmEq ctEq ocIP dcIP pmIP ctIP ocCk dcCk pmCk ctCk ocWo dcWo pmWo ctWo ocPo dcPo pmPo ctPo ocSi dcSi pmSi ctSi ocCe dcCe pmCe ctCe ocBI dcBI pmBI ctBI ocHo dcHo pmHo ctHo ocRo dcRo pmRo ctRo ocPf dcPf pmPf ctPf ocIn dcIn pmIn ctIn ocNu dcNu pmNu ctNu ocTa dcTa pmTa ctTa ocPi dcPi pmPi ctPi ocPw dcPw pmPw ctPw ocSp dcSp pmSp ctSp ocPt dcPt pmPt ctPt ocBx dcBx pmBx ctBx ocAl dcAl pmAl ctAl ocBt dcBt pmBt ctBt ocBg dcBg pmBg ctBg ocRf dcRf pmRf ctRf ocTd dcTd pmTd ctTd ocLa dcLa pmLa ctLa ocX dcX pmX ctX kVWh cdWh kVPr cdPr kVSI cdSI kVEq cdEq kVIP cdIP kVCk cdCk kVWo cdWo kVPo cdPo kVSi cdSi kVCe cdCe kVBI cdBI kVHo cdHo kVRo cdRo kVPf cdPf kVIn cdIn kVNu cdNu kVTa cdTa kVPi cdPi kVPw cdPw kVSp cdSp kVPt cdPt kVBx cdBx kVAl cdAl kVBt cdBt kVBg cdBg kVRf cdRf kVTd cdTd kVLa cdLa clX cclX : Value} {vsX : Array Value} {tD tM : Tok}
    {xnm xq ynm yq : Str} {xbs ybs xsub ysub : List Value} {xsn ysn : List Str} {xab yab : Bool} {xcol ycol : Option Bool} {xk0 xk1 xk2 xk3 xk5 yk0 yk1 yk2 yk3 yk5 : Option Value} {tf : Tok}
    (aS : PySem.W.nsIn K mainGlobals "Space" = some (some (.ref CS)))
    (aB : PySem.W.nsIn K mainGlobals "Box" = some (some (.ref CB)))
    (aX : PySem.W.nsIn K mainGlobals "BadSpace" = some (some (.ref CX)))
    (aD : PySem.W.nsIn K mainGlobals "MOST_DIMENSIONS" = some (some (.int 3 tD)))
    (aM : PySem.W.nsIn K mainGlobals "MOST_BITS" = some (some (.int 10 tM)))
    (aWh : PySem.W.nsIn K mainGlobals "is_whole" = some (some (.ref fWh)))
    (lWh : K.lookup fWh = some ⟨ocWh, odWh, .func (PySem.W.fnOf "is_whole" "is_whole" (defArgs sWhole) (defBody sWhole) (defScope sWhole) .none kVWh dcWh pmWh anWh cdWh ctWh), slWh⟩)
    (cWh : PySem.W.codeIn K cdWh "is_whole" = true)
    (kWh : PySem.W.keepIn K (.ref fWh) = true)
    (aPr : PySem.W.nsIn K mainGlobals "power" = some (some (.ref fPr)))
    (lPr : K.lookup fPr = some ⟨ocPr, odPr, .func (PySem.W.fnOf "power" "power" (defArgs sPower) (defBody sPower) (defScope sPower) .none kVPr dcPr pmPr anPr cdPr ctPr), slPr⟩)
    (cPr : PySem.W.codeIn K cdPr "power" = true)
    (kPr : PySem.W.keepIn K (.ref fPr) = true)
    (aSI : PySem.W.findIn K (.ref CS) "__init__" = some (some (.ref fSI)))
    (iSI : PySem.W.isFn K (.ref fSI) = true)
    (lSI : K.lookup fSI = some ⟨ocSI, odSI, .func (PySem.W.fnOf "__init__" "Space.__init__" (defArgs sSpInit) (defBody sSpInit) (defScope sSpInit) .none kVSI dcSI pmSI anSI cdSI ctSI), slSI⟩)
    (cSI : PySem.W.codeIn K cdSI "Space.__init__" = true)
    (kSI : PySem.W.keepIn K (.ref fSI) = true)
    (aEq : PySem.W.findIn K (.ref CS) "__eq__" = some (some (.ref fEq)))
    (iEq : PySem.W.isFn K (.ref fEq) = true)
    (lEq : K.lookup fEq = some ⟨ocEq, odEq, .func (PySem.W.fnOf "__eq__" "Space.__eq__" (defArgs sSpEq) (defBody sSpEq) (defScope sSpEq) .none kVEq dcEq pmEq anEq cdEq ctEq), slEq⟩)
    (cEq : PySem.W.codeIn K cdEq "Space.__eq__" = true)
    (kEq : PySem.W.keepIn K (.ref fEq) = true)
    (aIP : PySem.W.findIn K (.ref CS) "is_point" = some (some (.ref fIP)))
    (iIP : PySem.W.isFn K (.ref fIP) = true)
    (lIP : K.lookup fIP = some ⟨ocIP, odIP, .func (PySem.W.fnOf "is_point" "Space.is_point" (defArgs sIsPoint) (defBody sIsPoint) (defScope sIsPoint) .none kVIP dcIP pmIP anIP cdIP ctIP), slIP⟩)
    (cIP : PySem.W.codeIn K cdIP "Space.is_point" = true)
    (kIP : PySem.W.keepIn K (.ref fIP) = true)
    (aCk : PySem.W.findIn K (.ref CS) "check_point" = some (some (.ref fCk)))
    (iCk : PySem.W.isFn K (.ref fCk) = true)
    (lCk : K.lookup fCk = some ⟨ocCk, odCk, .func (PySem.W.fnOf "check_point" "Space.check_point" (defArgs sCheck) (defBody sCheck) (defScope sCheck) .none kVCk dcCk pmCk anCk cdCk ctCk), slCk⟩)
    (cCk : PySem.W.codeIn K cdCk "Space.check_point" = true)
    (kCk : PySem.W.keepIn K (.ref fCk) = true)
    (aWo : PySem.W.findIn K (.ref CS) "woven" = some (some (.ref fWo)))
    (iWo : PySem.W.isFn K (.ref fWo) = true)
    (lWo : K.lookup fWo = some ⟨ocWo, odWo, .func (PySem.W.fnOf "woven" "Space.woven" (defArgs sWoven) (defBody sWoven) (defScope sWoven) .none kVWo dcWo pmWo anWo cdWo ctWo), slWo⟩)
    (cWo : PySem.W.codeIn K cdWo "Space.woven" = true)
    (kWo : PySem.W.keepIn K (.ref fWo) = true)
    (aPo : PySem.W.findIn K (.ref CS) "point_of" = some (some (.ref fPo)))
    (iPo : PySem.W.isFn K (.ref fPo) = true)
    (lPo : K.lookup fPo = some ⟨ocPo, odPo, .func (PySem.W.fnOf "point_of" "Space.point_of" (defArgs sPointOf) (defBody sPointOf) (defScope sPointOf) .none kVPo dcPo pmPo anPo cdPo ctPo), slPo⟩)
    (cPo : PySem.W.codeIn K cdPo "Space.point_of" = true)
    (kPo : PySem.W.keepIn K (.ref fPo) = true)
    (aSi : PySem.W.findIn K (.ref CS) "size" = some (some (.ref fSi)))
    (iSi : PySem.W.isFn K (.ref fSi) = true)
    (lSi : K.lookup fSi = some ⟨ocSi, odSi, .func (PySem.W.fnOf "size" "Space.size" (defArgs sSize) (defBody sSize) (defScope sSize) .none kVSi dcSi pmSi anSi cdSi ctSi), slSi⟩)
    (cSi : PySem.W.codeIn K cdSi "Space.size" = true)
    (kSi : PySem.W.keepIn K (.ref fSi) = true)
    (aCe : PySem.W.findIn K (.ref CS) "cell" = some (some (.ref fCe)))
    (iCe : PySem.W.isFn K (.ref fCe) = true)
    (lCe : K.lookup fCe = some ⟨ocCe, odCe, .func (PySem.W.fnOf "cell" "Space.cell" (defArgs sCell) (defBody sCell) (defScope sCell) .none kVCe dcCe pmCe anCe cdCe ctCe), slCe⟩)
    (cCe : PySem.W.codeIn K cdCe "Space.cell" = true)
    (kCe : PySem.W.keepIn K (.ref fCe) = true)
    (aBI : PySem.W.findIn K (.ref CB) "__init__" = some (some (.ref fBI)))
    (iBI : PySem.W.isFn K (.ref fBI) = true)
    (lBI : K.lookup fBI = some ⟨ocBI, odBI, .func (PySem.W.fnOf "__init__" "Box.__init__" (defArgs sBoxInit) (defBody sBoxInit) (defScope sBoxInit) .none kVBI dcBI pmBI anBI cdBI ctBI), slBI⟩)
    (cBI : PySem.W.codeIn K cdBI "Box.__init__" = true)
    (kBI : PySem.W.keepIn K (.ref fBI) = true)
    (aHo : PySem.W.findIn K (.ref CB) "holds" = some (some (.ref fHo)))
    (iHo : PySem.W.isFn K (.ref fHo) = true)
    (lHo : K.lookup fHo = some ⟨ocHo, odHo, .func (PySem.W.fnOf "holds" "Box.holds" (defArgs sHolds) (defBody sHolds) (defScope sHolds) .none kVHo dcHo pmHo anHo cdHo ctHo), slHo⟩)
    (cHo : PySem.W.codeIn K cdHo "Box.holds" = true)
    (kHo : PySem.W.keepIn K (.ref fHo) = true)
    (aRo : PySem.W.findIn K (.ref CB) "room" = some (some (.ref fRo)))
    (iRo : PySem.W.isFn K (.ref fRo) = true)
    (lRo : K.lookup fRo = some ⟨ocRo, odRo, .func (PySem.W.fnOf "room" "Box.room" (defArgs sRoom) (defBody sRoom) (defScope sRoom) .none kVRo dcRo pmRo anRo cdRo ctRo), slRo⟩)
    (cRo : PySem.W.codeIn K cdRo "Box.room" = true)
    (kRo : PySem.W.keepIn K (.ref fRo) = true)
    (aPf : PySem.W.nsIn K mainGlobals "prefixes_of" = some (some (.ref fPf)))
    (lPf : K.lookup fPf = some ⟨ocPf, odPf, .func (PySem.W.fnOf "prefixes_of" "prefixes_of" (defArgs sPrefixes) (defBody sPrefixes) (defScope sPrefixes) .none kVPf dcPf pmPf anPf cdPf ctPf), slPf⟩)
    (cPf : PySem.W.codeIn K cdPf "prefixes_of" = true)
    (kPf : PySem.W.keepIn K (.ref fPf) = true)
    (aIn : PySem.W.nsIn K mainGlobals "is_inside" = some (some (.ref fIn)))
    (lIn : K.lookup fIn = some ⟨ocIn, odIn, .func (PySem.W.fnOf "is_inside" "is_inside" (defArgs sInside) (defBody sInside) (defScope sInside) .none kVIn dcIn pmIn anIn cdIn ctIn), slIn⟩)
    (cIn : PySem.W.codeIn K cdIn "is_inside" = true)
    (kIn : PySem.W.keepIn K (.ref fIn) = true)
    (aNu : PySem.W.nsIn K mainGlobals "_law_number" = some (some (.ref fNu)))
    (lNu : K.lookup fNu = some ⟨ocNu, odNu, .func (PySem.W.fnOf "_law_number" "_law_number" (defArgs sNumber) (defBody sNumber) (defScope sNumber) .none kVNu dcNu pmNu anNu cdNu ctNu), slNu⟩)
    (cNu : PySem.W.codeIn K cdNu "_law_number" = true)
    (kNu : PySem.W.keepIn K (.ref fNu) = true)
    (aTa : PySem.W.nsIn K mainGlobals "_law_take" = some (some (.ref fTa)))
    (lTa : K.lookup fTa = some ⟨ocTa, odTa, .func (PySem.W.fnOf "_law_take" "_law_take" (defArgs sTake) (defBody sTake) (defScope sTake) .none kVTa dcTa pmTa anTa cdTa ctTa), slTa⟩)
    (cTa : PySem.W.codeIn K cdTa "_law_take" = true)
    (kTa : PySem.W.keepIn K (.ref fTa) = true)
    (aPi : PySem.W.nsIn K mainGlobals "_law_pick" = some (some (.ref fPi)))
    (lPi : K.lookup fPi = some ⟨ocPi, odPi, .func (PySem.W.fnOf "_law_pick" "_law_pick" (defArgs sPick) (defBody sPick) (defScope sPick) .none kVPi dcPi pmPi anPi cdPi ctPi), slPi⟩)
    (cPi : PySem.W.codeIn K cdPi "_law_pick" = true)
    (kPi : PySem.W.keepIn K (.ref fPi) = true)
    (aPw : PySem.W.nsIn K mainGlobals "_law_power" = some (some (.ref fPw)))
    (lPw : K.lookup fPw = some ⟨ocPw, odPw, .func (PySem.W.fnOf "_law_power" "_law_power" (defArgs sLPower) (defBody sLPower) (defScope sLPower) .none kVPw dcPw pmPw anPw cdPw ctPw), slPw⟩)
    (cPw : PySem.W.codeIn K cdPw "_law_power" = true)
    (kPw : PySem.W.keepIn K (.ref fPw) = true)
    (aSp : PySem.W.nsIn K mainGlobals "_law_space" = some (some (.ref fSp)))
    (lSp : K.lookup fSp = some ⟨ocSp, odSp, .func (PySem.W.fnOf "_law_space" "_law_space" (defArgs sLSpace) (defBody sLSpace) (defScope sLSpace) .none kVSp dcSp pmSp anSp cdSp ctSp), slSp⟩)
    (cSp : PySem.W.codeIn K cdSp "_law_space" = true)
    (kSp : PySem.W.keepIn K (.ref fSp) = true)
    (aPt : PySem.W.nsIn K mainGlobals "_law_point" = some (some (.ref fPt)))
    (lPt : K.lookup fPt = some ⟨ocPt, odPt, .func (PySem.W.fnOf "_law_point" "_law_point" (defArgs sLPoint) (defBody sLPoint) (defScope sLPoint) .none kVPt dcPt pmPt anPt cdPt ctPt), slPt⟩)
    (cPt : PySem.W.codeIn K cdPt "_law_point" = true)
    (kPt : PySem.W.keepIn K (.ref fPt) = true)
    (aBx : PySem.W.nsIn K mainGlobals "_law_box" = some (some (.ref fBx)))
    (lBx : K.lookup fBx = some ⟨ocBx, odBx, .func (PySem.W.fnOf "_law_box" "_law_box" (defArgs sLBox) (defBody sLBox) (defScope sLBox) .none kVBx dcBx pmBx anBx cdBx ctBx), slBx⟩)
    (cBx : PySem.W.codeIn K cdBx "_law_box" = true)
    (kBx : PySem.W.keepIn K (.ref fBx) = true)
    (aAl : PySem.W.nsIn K mainGlobals "_law_all" = some (some (.ref fAl)))
    (lAl : K.lookup fAl = some ⟨ocAl, odAl, .func (PySem.W.fnOf "_law_all" "_law_all" (defArgs sLAll) (defBody sLAll) (defScope sLAll) .none kVAl dcAl pmAl anAl cdAl ctAl), slAl⟩)
    (cAl : PySem.W.codeIn K cdAl "_law_all" = true)
    (kAl : PySem.W.keepIn K (.ref fAl) = true)
    (aBt : PySem.W.nsIn K mainGlobals "_law_bits" = some (some (.ref fBt)))
    (lBt : K.lookup fBt = some ⟨ocBt, odBt, .func (PySem.W.fnOf "_law_bits" "_law_bits" (defArgs sLBits) (defBody sLBits) (defScope sLBits) .none kVBt dcBt pmBt anBt cdBt ctBt), slBt⟩)
    (cBt : PySem.W.codeIn K cdBt "_law_bits" = true)
    (kBt : PySem.W.keepIn K (.ref fBt) = true)
    (aBg : PySem.W.nsIn K mainGlobals "_law_begins" = some (some (.ref fBg)))
    (lBg : K.lookup fBg = some ⟨ocBg, odBg, .func (PySem.W.fnOf "_law_begins" "_law_begins" (defArgs sBegins) (defBody sBegins) (defScope sBegins) .none kVBg dcBg pmBg anBg cdBg ctBg), slBg⟩)
    (cBg : PySem.W.codeIn K cdBg "_law_begins" = true)
    (kBg : PySem.W.keepIn K (.ref fBg) = true)
    (aRf : PySem.W.nsIn K mainGlobals "_law_is_refused" = some (some (.ref fRf)))
    (lRf : K.lookup fRf = some ⟨ocRf, odRf, .func (PySem.W.fnOf "_law_is_refused" "_law_is_refused" (defArgs sRefused) (defBody sRefused) (defScope sRefused) .none kVRf dcRf pmRf anRf cdRf ctRf), slRf⟩)
    (cRf : PySem.W.codeIn K cdRf "_law_is_refused" = true)
    (kRf : PySem.W.keepIn K (.ref fRf) = true)
    (aTd : PySem.W.nsIn K mainGlobals "_law_as_told" = some (some (.ref fTd)))
    (lTd : K.lookup fTd = some ⟨ocTd, odTd, .func (PySem.W.fnOf "_law_as_told" "_law_as_told" (defArgs sTold) (defBody sTold) (defScope sTold) .none kVTd dcTd pmTd anTd cdTd ctTd), slTd⟩)
    (cTd : PySem.W.codeIn K cdTd "_law_as_told" = true)
    (kTd : PySem.W.keepIn K (.ref fTd) = true)
    (aLa : PySem.W.nsIn K mainGlobals "law" = some (some (.ref fLa)))
    (lLa : K.lookup fLa = some ⟨ocLa, odLa, .func (PySem.W.fnOf "law" "law" (defArgs sLaw) (defBody sLaw) (defScope sLaw) .none kVLa dcLa pmLa anLa cdLa ctLa), slLa⟩)
    (cLa : PySem.W.codeIn K cdLa "law" = true)
    (kLa : PySem.W.keepIn K (.ref fLa) = true)
    (pgCS : PySem.W.plainGet K CS Str.empty = true)
    (hdCS : PySem.W.hasDictIn K CS = true)
    (poCS : PySem.W.plainOver K CS = true)
    (saCS : PySem.W.findIn K (.ref CS) "__setattr__" = some (some (.builtin "object.__setattr__")))
    (mkCS : PySem.W.makesIn K CS = true)
    (kcCS : PySem.W.keepIn K (.ref CS) = true)
    (pgCB : PySem.W.plainGet K CB Str.empty = true)
    (hdCB : PySem.W.hasDictIn K CB = true)
    (poCB : PySem.W.plainOver K CB = true)
    (saCB : PySem.W.findIn K (.ref CB) "__setattr__" = some (some (.builtin "object.__setattr__")))
    (mkCB : PySem.W.makesIn K CB = true)
    (kcCB : PySem.W.keepIn K (.ref CB) = true)
    (nSdimensions : PySem.W.findIn K (.ref CS) "dimensions" = some none)
    (nSbits : PySem.W.findIn K (.ref CS) "bits" = some none)
    (nSdepth : PySem.W.findIn K (.ref CS) "depth" = some none)
    (nSside : PySem.W.findIn K (.ref CS) "side" = some none)
    (nBspace : PySem.W.findIn K (.ref CB) "space" = some none)
    (nBlows : PySem.W.findIn K (.ref CB) "lows" = some none)
    (nBhighs : PySem.W.findIn K (.ref CB) "highs" = some none)
    (cl1 : PySem.W.findIn K (.ref CS) "__class__" = some (some (.builtin "object.__class__")))
    (cl2 : PySem.W.specialIn K (.builtin "object.__class__") "__get__" = some (some (.builtin "getset_descriptor.__get__")))
    (cl3 : PySem.W.takesIn K (.builtin "object.__class__") = some true)
    (cl4 : PySem.W.mroIn K CS (.type "object") = some true)
    (ne1 : PySem.W.findIn K (.ref CS) "__ne__" = some (some (.builtin "object.__ne__")))
    (ob1 : PySem.W.subIn K (.ref CS) (.type "object") = some true)
    (zisinstance : PySem.W.nsIn K mainGlobals "isinstance" = some none)
    (zint : PySem.W.nsIn K mainGlobals "int" = some none)
    (zbool : PySem.W.nsIn K mainGlobals "bool" = some none)
    (ztuple : PySem.W.nsIn K mainGlobals "tuple" = some none)
    (zlen : PySem.W.nsIn K mainGlobals "len" = some none)
    (zall : PySem.W.nsIn K mainGlobals "all" = some none)
    (zany : PySem.W.nsIn K mainGlobals "any" = some none)
    (zzip : PySem.W.nsIn K mainGlobals "zip" = some none)
    (zrange : PySem.W.nsIn K mainGlobals "range" = some none)
    (zmax : PySem.W.nsIn K mainGlobals "max" = some none)
    (zmin : PySem.W.nsIn K mainGlobals "min" = some none)
    (zabs : PySem.W.nsIn K mainGlobals "abs" = some none)
    (zsorted : PySem.W.nsIn K mainGlobals "sorted" = some none)
    (zlist : PySem.W.nsIn K mainGlobals "list" = some none)
    (zsuper : PySem.W.nsIn K mainGlobals "super" = some none)
    (xL : K.lookup CX = some (excClassObj xnm xq CX xN xbs (FE.exT CE) true xsn xsub xab xcol xdd xk0 xk1 xk2 xk3 xk5 "Exception.__new__"))
    (yL : K.lookup CE = some (excClassObj ynm yq CE yN ybs [.type "Exception", .type "BaseException", .type "object"] true ysn ysub yab ycol ydd yk0 yk1 yk2 yk3 yk5 "Exception.__new__"))
    (xsa : PySem.W.findIn K (.ref CX) "__setattr__" = some (some (.builtin "object.__setattr__")))
    (xno : PySem.W.findIn K (.ref CX) "word" = some none)
    (xi : PySem.W.findIn K (.ref CX) "__init__" = some (some (.ref fX)))
    (xt : PySem.W.typeIn K (.ref fX) = some (.type "function"))
    (xk : PySem.W.keepIn K (.ref CX) = true)
    (yi : PySem.W.findIn K (.ref CE) "__init__" = some (some (.builtin "Exception.__init__")))
    (opq : PySem.W.nsIn K cStatics "thirdparty.any" = some none)
    (xse : PySem.W.subIn K (.ref CX) (.type "Exception") = some true)
    (xsb : PySem.W.subIn K (.ref CX) (.type "BaseException") = some true)
    (xss : PySem.W.subIn K (.ref CX) (.ref CX) = some true)
    (xty : PySem.W.typeIn K (.ref CX) = some (.type "type"))
    (xis : PySem.W.isClsIn K CX = true)
    (xga : PySem.W.findIn K (.ref CX) "__getattribute__" = some (some (.builtin "BaseException.__getattribute__")))
    (xgg : PySem.W.findIn K (.ref CX) "__getattr__" = some none)
    (xhd : PySem.W.hasDictIn K CX = true)
    (lX : K.lookup fX = some ⟨ocX, odX, .func (PySem.W.ksFn "__init__" "BadSpace.__init__" (defArgs sBadInit) (defBody sBadInit) (defScope sBadInit) .none .none dcX pmX anX (.ref cda) ctX cc), slX⟩)
    (cX : PySem.W.codeIn K (.ref cda) "BadSpace.__init__" = true)
    (ceX : K.lookup cc = some ⟨clX, cldX, .cell (some (.ref CX)), cslX⟩)
    (coX : K.lookup cda = some ⟨cclX, cddX, .fields vsX, ccsX⟩)
    (vsX2 : vsX[2]? = some (.str "/claim/cut.py" tf)) :
    ∃ fd : FuncData, (∀ (s : Shared) (v : Value), BindsTo s fd ⟨[v], []⟩ [("_law_script", v)]) ∧ ∀ base : Heap, K.In base → base.Ns mainGlobals mg → FnOk prg w K mg base CX0 7 fa fd ["_law_script"] (spLaw K) := by
  have e := hfa.symm.trans (PySem.W.mg_of X G aLa)
  cases e
  have T : Txt K mg CS CB := { clS := ⟨pgCS, hdCS, poCS, saCS⟩, clB := ⟨pgCB, hdCB, poCB, saCB⟩, sDim := nSdimensions, sBits := nSbits, sDepth := nSdepth, sSide := nSside, bSpace := nBspace, bLows := nBlows, bHighs := nBhighs, cls := cl1, clsG := cl2, clsT := cl3, clsM := cl4, kitS := kit_self K (.ref CS), neS := ne1, obS := ob1, mgS := PySem.W.mg_of X G aS, mgB := PySem.W.mg_of X G aB, mgD := ⟨tD, PySem.W.mg_of X G aD⟩, mgM := ⟨tM, PySem.W.mg_of X G aM⟩, isinst := PySem.W.mg_none_of X G zisinstance, int := PySem.W.mg_none_of X G zint, bool := PySem.W.mg_none_of X G zbool, tup := PySem.W.mg_none_of X G ztuple, len := PySem.W.mg_none_of X G zlen, all := PySem.W.mg_none_of X G zall, any := PySem.W.mg_none_of X G zany, zip := PySem.W.mg_none_of X G zzip, range := PySem.W.mg_none_of X G zrange, max := PySem.W.mg_none_of X G zmax, min := PySem.W.mg_none_of X G zmin, abs := PySem.W.mg_none_of X G zabs, sorted := PySem.W.mg_none_of X G zsorted, list := PySem.W.mg_none_of X G zlist }
  have B : BadTxt K mg CX CE fX cc cda := { gC := PySem.W.mg_of X G aX, gS := PySem.W.mg_none_of X G zsuper, cls := ⟨_, _, _, _, _, _, _, _, _, _, _, _, _, _, xL⟩, sa := xsa, noN := xno, iC := xi, tC := xt, kC := xk, sup := sup_of xL yL yi, opq := opq, xsub := xse, bsub := xsb, tyC := xty, fn := ⟨_, _, _, _, _, _, _, lX⟩, code := cX, cell := ⟨_, _, _, ceX⟩, cobj := ⟨_, _, _, _, tf, coX, vsX2⟩ }
  have FWh := fun_mk (st := sWhole) lWh cWh kWh
  have bWh := FWh.binds (ps := ["thing", "low", "high"]) fun _ _ _ _ _ _ us hl => match us, hl with | [_, _, _], _ => rfl
  have FPr := fun_mk (st := sPower) lPr cPr kPr
  have bPr := FPr.binds (ps := ["times"]) fun _ _ _ _ _ _ us hl => match us, hl with | [_], _ => rfl
  have FSI := fun_mk (st := sSpInit) lSI cSI kSI
  have bSI := FSI.binds (ps := ["self", "dimensions", "bits"]) fun _ _ _ _ _ _ us hl => match us, hl with | [_, _, _], _ => rfl
  have FEq := fun_mk (st := sSpEq) lEq cEq kEq
  have bEq := FEq.binds (ps := ["self", "other"]) fun _ _ _ _ _ _ us hl => match us, hl with | [_, _], _ => rfl
  have FIP := fun_mk (st := sIsPoint) lIP cIP kIP
  have bIP := FIP.binds (ps := ["self", "thing"]) fun _ _ _ _ _ _ us hl => match us, hl with | [_, _], _ => rfl
  have FCk := fun_mk (st := sCheck) lCk cCk kCk
  have bCk := FCk.binds (ps := ["self", "thing"]) fun _ _ _ _ _ _ us hl => match us, hl with | [_, _], _ => rfl
  have FWo := fun_mk (st := sWoven) lWo cWo kWo
  have bWo := FWo.binds (ps := ["self", "point"]) fun _ _ _ _ _ _ us hl => match us, hl with | [_, _], _ => rfl
  have FPo := fun_mk (st := sPointOf) lPo cPo kPo
  have bPo := FPo.binds (ps := ["self", "number"]) fun _ _ _ _ _ _ us hl => match us, hl with | [_, _], _ => rfl
  have FSi := fun_mk (st := sSize) lSi cSi kSi
  have bSi := FSi.binds (ps := ["self", "prefix"]) fun _ _ _ _ _ _ us hl => match us, hl with | [_, _], _ => rfl
  have FCe := fun_mk (st := sCell) lCe cCe kCe
  have bCe := FCe.binds (ps := ["self", "prefix"]) fun _ _ _ _ _ _ us hl => match us, hl with | [_, _], _ => rfl
  have FBI := fun_mk (st := sBoxInit) lBI cBI kBI
  have bBI := FBI.binds (ps := ["self", "space", "lows", "highs"]) fun _ _ _ _ _ _ us hl => match us, hl with | [_, _, _, _], _ => rfl
  have FHo := fun_mk (st := sHolds) lHo cHo kHo
  have bHo := FHo.binds (ps := ["self", "point"]) fun _ _ _ _ _ _ us hl => match us, hl with | [_, _], _ => rfl
  have FRo := fun_mk (st := sRoom) lRo cRo kRo
  have bRo := FRo.binds (ps := ["self", "prefix"]) fun _ _ _ _ _ _ us hl => match us, hl with | [_, _], _ => rfl
  have FPf := fun_mk (st := sPrefixes) lPf cPf kPf
  have bPf := FPf.binds (ps := ["box"]) fun _ _ _ _ _ _ us hl => match us, hl with | [_], _ => rfl
  have FIn := fun_mk (st := sInside) lIn cIn kIn
  have bIn := FIn.binds (ps := ["prefix", "other"]) fun _ _ _ _ _ _ us hl => match us, hl with | [_, _], _ => rfl
  have FNu := fun_mk (st := sNumber) lNu cNu kNu
  have bNu := FNu.binds (ps := ["_law_script", "_law_index"]) fun _ _ _ _ _ _ us hl => match us, hl with | [_, _], _ => rfl
  have FTa := fun_mk (st := sTake) lTa cTa kTa
  have bTa := FTa.binds (ps := ["_law_draw", "_law_many"]) fun _ _ _ _ _ _ us hl => match us, hl with | [_, _], _ => rfl
  have FPi := fun_mk (st := sPick) lPi cPi kPi
  have bPi := FPi.binds (ps := ["_law_draw", "_law_items"]) fun _ _ _ _ _ _ us hl => match us, hl with | [_, _], _ => rfl
  have FPw := fun_mk (st := sLPower) lPw cPw kPw
  have bPw := FPw.binds (ps := ["_law_times"]) fun _ _ _ _ _ _ us hl => match us, hl with | [_], _ => rfl
  have FSp := fun_mk (st := sLSpace) lSp cSp kSp
  have bSp := FSp.binds (ps := ["_law_draw", "_law_most"]) fun _ _ _ _ _ _ us hl => match us, hl with | [_, _], _ => rfl
  have FPt := fun_mk (st := sLPoint) lPt cPt kPt
  have bPt := FPt.binds (ps := ["_law_draw", "_law_space_here"]) fun _ _ _ _ _ _ us hl => match us, hl with | [_, _], _ => rfl
  have FBx := fun_mk (st := sLBox) lBx cBx kBx
  have bBx := FBx.binds (ps := ["_law_draw", "_law_space_here"]) fun _ _ _ _ _ _ us hl => match us, hl with | [_, _], _ => rfl
  have FAl := fun_mk (st := sLAll) lAl cAl kAl
  have bAl := FAl.binds (ps := ["_law_space_here"]) fun _ _ _ _ _ _ us hl => match us, hl with | [_], _ => rfl
  have FBt := fun_mk (st := sLBits) lBt cBt kBt
  have bBt := FBt.binds (ps := ["_law_space_here", "_law_point_here"]) fun _ _ _ _ _ _ us hl => match us, hl with | [_, _], _ => rfl
  have FBg := fun_mk (st := sBegins) lBg cBg kBg
  have bBg := FBg.binds (ps := ["_law_space_here", "_law_number_here", "_law_prefix"]) fun _ _ _ _ _ _ us hl => match us, hl with | [_, _, _], _ => rfl
  have FRf := fun_mk (st := sRefused) lRf cRf kRf
  have bRf := FRf.binds (ps := ["_law_dimensions", "_law_bits_here", "_law_word"]) fun _ _ _ _ _ _ us hl => match us, hl with | [_, _, _], _ => rfl
  have FTd := fun_mk (st := sTold) lTd cTd kTd
  have bTd := FTd.binds (ps := []) fun _ _ _ _ _ _ us hl => match us, hl with | [], _ => rfl
  have FLa := fun_mk (st := sLaw) lLa cLa kLa
  have bLa := FLa.binds (ps := ["_law_script"]) fun _ _ _ _ _ _ us hl => match us, hl with | [_], _ => rfl
  refine ⟨PySem.W.fnOf "law" "law" (defArgs sLaw) (defBody sLaw) (defScope sLaw) .none kVLa dcLa pmLa anLa cdLa ctLa, fun s v => .of_eq rfl, fun base _ _ => ?_⟩
  have GWh : FnOk prg w K mg base CX0 1 fWh _ ["thing", "low", "high"] spWhole := ok_whole FWh T
  have GPr : FnOk prg w K mg base CX0 1 fPr _ ["times"] spPower := ok_power FPr T
  have GPw : FnOk prg w K mg base CX0 1 fPw _ ["_law_times"] spPower := ok_lpower FPw T
  have GSI : FnOk prg w K mg base CX0 2 fSI _ ["self", "dimensions", "bits"] (spSpOk CS) := ok_sp FSI T GWh (PySem.W.mg_of X G aWh) kWh bWh GPr (PySem.W.mg_of X G aPr) kPr bPr
  have GSX : FnOk prg w K mg base (L2.CX prg w) 2 fSI _ ["self", "dimensions", "bits"] (spSpBad CS CX) := ok_spBad (fP := fX) (fdP := PySem.W.fnOf "law" "law" (defArgs sLaw) (defBody sLaw) (defScope sLaw) .none kVLa dcLa pmLa anLa cdLa ctLa) FSI T B GWh (PySem.W.mg_of X G aWh) kWh bWh
  have GEq : FnOk prg w K mg base CX0 1 fEq _ ["self", "other"] (spSpEq CS) := ok_eq FEq T
  have GIP : FnOk prg w K mg base CX0 2 fIP _ ["self", "thing"] (spIsPoint CS) := ok_isPoint FIP T GWh (PySem.W.mg_of X G aWh) kWh bWh
  have GCk : FnOk prg w K mg base CX0 3 fCk _ ["self", "thing"] (spCheck CS) := ok_check FCk T GIP ⟨aIP, iIP, kIP⟩ bIP
  have GSi : FnOk prg w K mg base CX0 2 fSi _ ["self", "prefix"] (spSize CS) := ok_size FSi T GPr (PySem.W.mg_of X G aPr) kPr bPr
  have GWo : FnOk prg w K mg base CX0 4 fWo _ ["self", "point"] (spWoven CS) := ok_woven FWo T GCk ⟨aCk, iCk, kCk⟩ bCk
  have GPo : FnOk prg w K mg base CX0 2 fPo _ ["self", "number"] (spPointOf CS) := ok_pointOf FPo T GPr (PySem.W.mg_of X G aPr) kPr bPr
  have GCe : FnOk prg w K mg base CX0 3 fCe _ ["self", "prefix"] (spCell CS) := ok_cell FCe T GSi ⟨aSi, iSi, kSi⟩ bSi GPo ⟨aPo, iPo, kPo⟩ bPo
  have GBI : FnOk prg w K mg base CX0 4 fBI _ ["self", "space", "lows", "highs"] (spBox CS CB) := ok_box FBI T GCk ⟨aCk, iCk, kCk⟩ bCk
  have GHo : FnOk prg w K mg base CX0 1 fHo _ ["self", "point"] (spHolds CB) := ok_holds FHo T
  have GRo : FnOk prg w K mg base CX0 4 fRo _ ["self", "prefix"] (spRoom CS CB) := ok_room FRo T GCe ⟨aCe, iCe, kCe⟩ bCe
  have GPf : FnOk prg w K mg base CX0 5 fPf _ ["box"] (spPrefixes CS CB) := ok_prefixes FPf T GRo ⟨aRo, iRo, kRo⟩ bRo GSi ⟨aSi, iSi, kSi⟩ bSi
  have GIn : FnOk prg w K mg base CX0 2 fIn _ ["prefix", "other"] spInside := ok_inside FIn T GPr (PySem.W.mg_of X G aPr) kPr bPr
  have GNu : FnOk prg w K mg base CX0 1 fNu _ ["_law_script", "_law_index"] (spNumber K) := ok_number FNu T
  have GTa : FnOk prg w K mg base CX0 2 fTa _ ["_law_draw", "_law_many"] (spTake K) := ok_take FTa T GNu (PySem.W.mg_of X G aNu) kNu bNu
  have GPi : FnOk prg w K mg base CX0 3 fPi _ ["_law_draw", "_law_items"] (spPick K) := ok_pick FPi T GTa (PySem.W.mg_of X G aTa) kTa bTa
  have GSp : FnOk prg w K mg base CX0 4 fSp _ ["_law_draw", "_law_most"] (spLSpace K CS) := ok_lspace FSp T GPi (PySem.W.mg_of X G aPi) kPi bPi ⟨mkCS, aSI, iSI, kcCS⟩ GSI bSI
  have GPt : FnOk prg w K mg base CX0 3 fPt _ ["_law_draw", "_law_space_here"] (spLPoint K CS) := ok_lpoint FPt T GTa (PySem.W.mg_of X G aTa) kTa bTa
  have GBx : FnOk prg w K mg base CX0 6 fBx _ ["_law_draw", "_law_space_here"] (spLBox K CS CB) := ok_lbox FBx T GPt (PySem.W.mg_of X G aPt) kPt bPt ⟨mkCB, aBI, iBI, kcCB⟩ GBI bBI
  have GAl : FnOk prg w K mg base CX0 1 fAl _ ["_law_space_here"] (spLAll CS) := ok_lall FAl T
  have GBt : FnOk prg w K mg base CX0 2 fBt _ ["_law_space_here", "_law_point_here"] (spLBits CS) := ok_lbits FBt T GPw (PySem.W.mg_of X G aPw) kPw bPw
  have GBg : FnOk prg w K mg base CX0 2 fBg _ ["_law_space_here", "_law_number_here", "_law_prefix"] (spBegins CS) := ok_begins FBg T GPw (PySem.W.mg_of X G aPw) kPw bPw
  have GRf : FnOk prg w K mg base CX0 4 fRf _ ["_law_dimensions", "_law_bits_here", "_law_word"] spRefused := ok_refused FRf T B ⟨xga, xgg, xsb, xhd⟩ xno (exm_self xsb xis xty xss) ⟨mkCS, aSI, iSI, kcCS⟩ GSX bSI
  have GTd : FnOk prg w K mg base CX0 5 fTd _ [] spTold := ok_told FTd T ⟨mkCS, aSI, iSI, kcCS⟩ GSI bSI GWo ⟨aWo, iWo, kWo⟩ bWo GPo ⟨aPo, iPo, kPo⟩ bPo GEq aEq iEq bEq
  exact ok_law FLa T GSp (PySem.W.mg_of X G aSp) kSp bSp GAl (PySem.W.mg_of X G aAl) kAl bAl GWo ⟨aWo, iWo, kWo⟩ bWo GPo ⟨aPo, iPo, kPo⟩ bPo GPw (PySem.W.mg_of X G aPw) kPw bPw GBt (PySem.W.mg_of X G aBt) kBt bBt GTa (PySem.W.mg_of X G aTa) kTa bTa GCe ⟨aCe, iCe, kCe⟩ bCe GBx (PySem.W.mg_of X G aBx) kBx bBx GPf (PySem.W.mg_of X G aPf) kPf bPf GHo ⟨aHo, iHo, kHo⟩ bHo GBg (PySem.W.mg_of X G aBg) kBg bBg GIn (PySem.W.mg_of X G aIn) kIn bIn GRo ⟨aRo, iRo, kRo⟩ bRo GSi ⟨aSi, iSi, kSi⟩ bSi GPi (PySem.W.mg_of X G aPi) kPi bPi GRf (PySem.W.mg_of X G aRf) kRf bRf GTd (PySem.W.mg_of X G aTd) kTd bTd ⟨mkCB, aBI, iBI, kcCB⟩ GBI bBI
theorem walk {q : Program} {loose : List Str} {XP : (Str → Option Value) → Heap → Prop} {YP : World → Heap → Prop} {d : DefRec} {K : Params → PySem.W.Frag} (hdf : d.params.defaults = [])
    (hY : ∀ (w : World) (h : Heap), YP w h → (K w.params).In h)
    (F : ∀ (w : World) (mg : Str → Option Value) (fa : Addr) (h : Heap), (K w.params).In h → h.Ns mainGlobals mg → mg d.name = some (.ref fa) →
      ∃ fd : FuncData, (∀ (s : Shared) (u : Value), BindsTo s fd ⟨[u], []⟩ [("_law_script", u)]) ∧ ∀ base : Heap, (K w.params).In base → base.Ns mainGlobals mg → FnOk prg w (K w.params) mg base CX0 7 fa fd ["_law_script"] (spLaw (K w.params))) :
    PySem.W.WalkO q loose XP YP PySem.Challenge.rw_finecloud_k50_whole_woven.row.toRowW d [] (fun f vs => PySem.call f vs) :=
  L2.walk_of (l := PySem.Challenge.rw_finecloud_k50_whole_woven) (n := 63) (k := 7) (x := "_law_script") (CX := fun _ => CX0) (sp := fun w => spLaw (K w.params)) rfl (by decide) hdf ⟨rfl, by decide, by decide⟩ hY F (fun _ _ a ns hl _ hS => ⟨a, ns, rfl, hS, hl, fun _ => rfl⟩) fun _ _ _ _ _ z => z
end FC
open PySem PySem.W PyProof.Rows
set_option maxRecDepth 100000 in
set_option maxHeartbeats 0 in
theorem PySem.Challenge.cw_finecloud_k50_whole_woven_holds : PySem.Challenge.rw_finecloud_k50_whole_woven.Holds := by
  w_on; o_law; k_head; (case hw => w_witness2)
  k_fill
  refine FC.walk rfl (fun w h Y => PySem.W.kIn_of Y) ?F
  case F =>
    intro w mg fa h KX G hmg
    refine' FC.all_mk KX G hmg ?aS ?aB ?aX ?aD ?aM ?aWh ?lWh ?cWh ?kWh ?aPr ?lPr ?cPr ?kPr ?aSI ?iSI ?lSI ?cSI ?kSI ?aEq ?iEq ?lEq ?cEq ?kEq ?aIP ?iIP ?lIP ?cIP ?kIP ?aCk ?iCk ?lCk ?cCk ?kCk ?aWo ?iWo ?lWo ?cWo ?kWo ?aPo ?iPo ?lPo ?cPo ?kPo ?aSi ?iSi ?lSi ?cSi ?kSi ?aCe ?iCe ?lCe ?cCe ?kCe ?aBI ?iBI ?lBI ?cBI ?kBI ?aHo ?iHo ?lHo ?cHo ?kHo ?aRo ?iRo ?lRo ?cRo ?kRo ?aPf ?lPf ?cPf ?kPf ?aIn ?lIn ?cIn ?kIn ?aNu ?lNu ?cNu ?kNu ?aTa ?lTa ?cTa ?kTa ?aPi ?lPi ?cPi ?kPi ?aPw ?lPw ?cPw ?kPw ?aSp ?lSp ?cSp ?kSp ?aPt ?lPt ?cPt ?kPt ?aBx ?lBx ?cBx ?kBx ?aAl ?lAl ?cAl ?kAl ?aBt ?lBt ?cBt ?kBt ?aBg ?lBg ?cBg ?kBg ?aRf ?lRf ?cRf ?kRf ?aTd ?lTd ?cTd ?kTd ?aLa ?lLa ?cLa ?kLa ?pgCS ?hdCS ?poCS ?saCS ?mkCS ?kcCS ?pgCB ?hdCB ?poCB ?saCB ?mkCB ?kcCB ?nSdimensions ?nSbits ?nSdepth ?nSside ?nBspace ?nBlows ?nBhighs ?cl1 ?cl2 ?cl3 ?cl4 ?ne1 ?ob1 ?zisinstance ?zint ?zbool ?ztuple ?zlen ?zall ?zany ?zzip ?zrange ?zmax ?zmin ?zabs ?zsorted ?zlist ?zsuper ?xL ?yL ?xsa ?xno ?xi ?xt ?xk ?yi ?opq ?xse ?xsb ?xss ?xty ?xis ?xga ?xgg ?xhd ?lX ?cX ?ceX ?coX ?vsX2
    (case aS => k_is); (case aB => k_is); (case aX => k_is); (case aD => k_is); (case aM => k_is); (case aWh => k_is)
    (case lWh => k_is); (case cWh => k_is); (case kWh => k_is); (case aPr => k_is); (case lPr => k_is); (case cPr => k_is)
    (case kPr => k_is); (case aSI => k_is); (case iSI => k_is); (case lSI => k_is); (case cSI => k_is); (case kSI => k_is)
    (case aEq => k_is); (case iEq => k_is); (case lEq => k_is); (case cEq => k_is); (case kEq => k_is); (case aIP => k_is)
    (case iIP => k_is); (case lIP => k_is); (case cIP => k_is); (case kIP => k_is); (case aCk => k_is); (case iCk => k_is)
    (case lCk => k_is); (case cCk => k_is); (case kCk => k_is); (case aWo => k_is); (case iWo => k_is); (case lWo => k_is)
    (case cWo => k_is); (case kWo => k_is); (case aPo => k_is); (case iPo => k_is); (case lPo => k_is); (case cPo => k_is)
    (case kPo => k_is); (case aSi => k_is); (case iSi => k_is); (case lSi => k_is); (case cSi => k_is); (case kSi => k_is)
    (case aCe => k_is); (case iCe => k_is); (case lCe => k_is); (case cCe => k_is); (case kCe => k_is); (case aBI => k_is)
    (case iBI => k_is); (case lBI => k_is); (case cBI => k_is); (case kBI => k_is); (case aHo => k_is); (case iHo => k_is)
    (case lHo => k_is); (case cHo => k_is); (case kHo => k_is); (case aRo => k_is); (case iRo => k_is); (case lRo => k_is)
    (case cRo => k_is); (case kRo => k_is); (case aPf => k_is); (case lPf => k_is); (case cPf => k_is); (case kPf => k_is)
    (case aIn => k_is); (case lIn => k_is); (case cIn => k_is); (case kIn => k_is); (case aNu => k_is); (case lNu => k_is)
    (case cNu => k_is); (case kNu => k_is); (case aTa => k_is); (case lTa => k_is); (case cTa => k_is); (case kTa => k_is)
    (case aPi => k_is); (case lPi => k_is); (case cPi => k_is); (case kPi => k_is); (case aPw => k_is); (case lPw => k_is)
    (case cPw => k_is); (case kPw => k_is); (case aSp => k_is); (case lSp => k_is); (case cSp => k_is); (case kSp => k_is)
    (case aPt => k_is); (case lPt => k_is); (case cPt => k_is); (case kPt => k_is); (case aBx => k_is); (case lBx => k_is)
    (case cBx => k_is); (case kBx => k_is); (case aAl => k_is); (case lAl => k_is); (case cAl => k_is); (case kAl => k_is)
    (case aBt => k_is); (case lBt => k_is); (case cBt => k_is); (case kBt => k_is); (case aBg => k_is); (case lBg => k_is)
    (case cBg => k_is); (case kBg => k_is); (case aRf => k_is); (case lRf => k_is); (case cRf => k_is); (case kRf => k_is)
    (case aTd => k_is); (case lTd => k_is); (case cTd => k_is); (case kTd => k_is); (case aLa => k_is); (case lLa => k_is)
    (case cLa => k_is); (case kLa => k_is); (case pgCS => k_is); (case hdCS => k_is); (case poCS => k_is); (case saCS => k_is)
    (case mkCS => k_is); (case kcCS => k_is); (case pgCB => k_is); (case hdCB => k_is); (case poCB => k_is); (case saCB => k_is)
    (case mkCB => k_is); (case kcCB => k_is); (case nSdimensions => k_is); (case nSbits => k_is); (case nSdepth => k_is); (case nSside => k_is)
    (case nBspace => k_is); (case nBlows => k_is); (case nBhighs => k_is); (case cl1 => k_is); (case cl2 => k_is); (case cl3 => k_is)
    (case cl4 => k_is); (case ne1 => k_is); (case ob1 => k_is); (case zisinstance => k_is); (case zint => k_is); (case zbool => k_is)
    (case ztuple => k_is); (case zlen => k_is); (case zall => k_is); (case zany => k_is); (case zzip => k_is); (case zrange => k_is)
    (case zmax => k_is); (case zmin => k_is); (case zabs => k_is); (case zsorted => k_is); (case zlist => k_is); (case zsuper => k_is)
    (case xL => k_is); (case yL => k_is); (case xsa => k_is); (case xno => k_is); (case xi => k_is); (case xt => k_is)
    (case xk => k_is); (case yi => k_is); (case opq => k_is); (case xse => k_is); (case xsb => k_is); (case xss => k_is)
    (case xty => k_is); (case xis => k_is); (case xga => k_is); (case xgg => k_is); (case xhd => k_is); (case lX => k_is)
    (case cX => k_is); (case ceX => k_is); (case coX => k_is)
    (case vsX2 => rfl)

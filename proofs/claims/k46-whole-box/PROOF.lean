import PyProof.Rows.All
import Wide.All
import OpenK.AllK
import Wide.FinOn
import PyProof.NoPylong
import HandS.ForMost
import HandS.TupMul
import HandS.TupAny
import HandS.Wide
import KE.GoesNew
import HandS.Zip
import HandS.Walk
import KE.SortData
import KE.DataMinMax
import HandS.IsInst
import HandS.TupLen
import HandS.More
import PyProof.ReprRoads
import HandS.Dict
import HandS.EndTab
import HandS.HeadWalk
import KE.DataMinKey
import HandS.Lambda
import HandS.SortKw
import PyProof.WalkInts
import PyProof.SeqI3
import HandS.WideBits
import HandS.Conv
import KE.KStateDown
import HandS.Base
import HandS.Call
import HandS.Ends
import HandS.Words
import HandS.WordsExc
import HandS.Defaults
import HandS.Head0
import HandS.Head1
import HandS.Head2
import HandS.HeadEnd
import HandS.HeadHook1
import HandS.HeadHook2
import HandS.HeadHook3
import HandS.HeadHook4
import PySem.Challenge.RW_stepforms_k46_whole_all_answers_in_a_box
set_option Elab.async false
set_option linter.all false
set_option maxRecDepth 100000
section
set_option maxHeartbeats 4000000
namespace SF
/-! ### rows and tables of ints: what the text's plain defs compute -/
def S : Nat → (Nat → Int) → Int
  | 0, _ => 0
  | n + 1, f => S n f + f n
def vg (r : List Int) (k : Nat) : Int := r.getD k 0
def mg2 (M : List (List Int)) (j k : Nat) : Int := vg (M.getD j []) k
def rsum (r : List Int) (M : List (List Int)) (k : Nat) : Int := S (min r.length M.length) fun j => vg r j * mg2 M j k
def rowTimes (x : List Int) (w : Nat) (M : List (List Int)) : List Int := (List.range w).map (rsum x M)
def unitRow (n j : Nat) : List Int := (List.range n).map fun k => if k = j then 1 else 0
def unitM (n : Nat) : List (List Int) := (List.range n).map (unitRow n)
inductive Deed where
  | turn (i : Nat)
  | swap (i j : Nat)
  | add (i j : Nat) (q : Int)
def Deed.ok (m : Nat) : Deed → Prop
  | .turn i => i < m
  | .swap i j => i < m ∧ j < m ∧ i ≠ j
  | .add i j _ => i < m ∧ j < m ∧ i ≠ j
def rowAdd (q : Int) (r s : List Int) : List Int := List.zipWith (fun x y => x + q * y) r s
def rowNeg (r : List Int) : List Int := r.map fun x => -x
def Deed.app : Deed → List (List Int) → List (List Int)
  | .turn i, M => M.set i (rowNeg (M.getD i []))
  | .swap i j, M => (M.set i (M.getD j [])).set j (M.getD i [])
  | .add i j q, M => M.set i (rowAdd q (M.getD i []) (M.getD j []))
def acts (ds : List Deed) (M : List (List Int)) : List (List Int) := ds.foldl (fun M d => d.app M) M
def Deed.contrary : Deed → Deed
  | .add i j q => .add i j (-q)
  | d => d
def ledBack (ds : List Deed) : List Deed := ds.reverse.map Deed.contrary
def nz (r : List Int) : Bool := r.any fun x => x != 0
def aheadOf (F : List (List Int)) : Nat := (F.filter nz).length
def answerAt (one : List Int) (m : Nat) (free : List (List Int)) (numbers : List Int) : List Int := List.zipWith (fun x y => x + y) one (rowTimes numbers m free)
def numbersOf (one : List Int) (m : Nat) (nfree : Nat) (B : List (List Int)) (row : List Int) : Option (List Int) :=
  let found := rowTimes (List.zipWith (fun x y => x - y) row one) m B
  if nz (found.take (found.length - nfree)) then none else some (found.drop (found.length - nfree))
def leadIn (r : List Int) : Option Nat := r.findIdx? fun x => x != 0
/-! ### lengths -/
/-- m rows of w numbers -/
def Shape (m w : Nat) (M : List (List Int)) : Prop := M.length = m ∧ ∀ r ∈ M, r.length = w
theorem rowTimes_length (x : List Int) (w : Nat) (M : List (List Int)) : (rowTimes x w M).length = w := by simp [rowTimes]
theorem unitRow_length (n j : Nat) : (unitRow n j).length = n := by simp [unitRow]
theorem unitM_shape (n : Nat) : Shape n n (unitM n) := ⟨by simp [unitM], fun r h => by
  obtain ⟨k, _, rfl⟩ := List.mem_map.mp h
  exact unitRow_length n k⟩
theorem Shape.row {m w i : Nat} {M : List (List Int)} (s : Shape m w M) (h : i < m) : (M.getD i []).length = w := by
  have h' : i < M.length := by rw [s.1]; exact h
  rw [List.getD_eq_getElem?_getD, List.getElem?_eq_getElem h']
  exact s.2 _ (List.getElem_mem h')
theorem Shape.set {m w i : Nat} {M : List (List Int)} {r : List Int} (s : Shape m w M) (h : r.length = w) : Shape m w (M.set i r) := by
  refine ⟨by rw [List.length_set]; exact s.1, fun x hx => ?_⟩
  rcases List.mem_or_eq_of_mem_set hx with q | q
  · exact s.2 x q
  · rw [q]; exact h
theorem Deed.app_shape {m w : Nat} {M : List (List Int)} {d : Deed} (s : Shape m w M) (h : d.ok m) : Shape m w (d.app M) := by
  cases d with
  | turn i => exact s.set (by unfold rowNeg; rw [List.length_map]; exact s.row h)
  | swap i j => exact (s.set (s.row h.2.1)).set (s.row h.1)
  | add i j q => exact s.set (by unfold rowAdd; rw [List.length_zipWith, s.row h.1, s.row h.2.1, Nat.min_self])
theorem acts_shape {m w : Nat} : ∀ {ds : List Deed} {M : List (List Int)}, Shape m w M → (∀ d ∈ ds, d.ok m) → Shape m w (acts ds M)
  | [], _, s, _ => s
  | d :: ds, M, s, h => acts_shape (ds := ds) (d.app_shape s (h d (by simp))) fun d' hd => h d' (by simp [hd])
theorem Deed.contrary_ok {m : Nat} {d : Deed} (h : d.ok m) : d.contrary.ok m := by cases d <;> exact h
theorem ledBack_ok {m : Nat} {ds : List Deed} (h : ∀ d ∈ ds, d.ok m) : ∀ d ∈ ledBack ds, d.ok m := fun d hd => by
  unfold ledBack at hd
  obtain ⟨e, he, rfl⟩ := List.mem_map.mp hd
  exact Deed.contrary_ok (h e (List.mem_reverse.mp he))
theorem acts_append (ds es : List Deed) (M : List (List Int)) : acts (ds ++ es) M = acts es (acts ds M) := by unfold acts; rw [List.foldl_append]
end SF
namespace SF
/-- below 2 ^ n in size -/
def Bt (n : Nat) (z : Int) : Prop := z.natAbs < 2 ^ n
theorem getD_set_self {α : Type} {l : List α} {i : Nat} {x d : α} (h : i < l.length) : (l.set i x).getD i d = x := by
  rw [List.getD_eq_getElem?_getD, List.getElem?_set_self h]; rfl
theorem getD_set_ne {α : Type} {l : List α} {i j : Nat} {x d : α} (h : i ≠ j) : (l.set i x).getD j d = l.getD j d := by
  rw [List.getD_eq_getElem?_getD, List.getD_eq_getElem?_getD, List.getElem?_set_ne h]
theorem range_map_set {α : Type} {n i : Nat} {f g : Nat → α} (hi : i < n) (h : ∀ k, k < n → k ≠ i → g k = f k) : ((List.range n).map f).set i (g i) = (List.range n).map g := by
  apply List.ext_getElem?
  intro k
  by_cases hk : k < n
  · by_cases e : i = k
    · subst e; rw [List.getElem?_set_self (by simpa using hi)]; simp [hi]
    · rw [List.getElem?_set_ne e]; simp [hk, h k hk (fun z => e z.symm)]
  · rw [List.getElem?_eq_none (by simp; omega), List.getElem?_eq_none (by simp; omega)]
theorem map_range_getD {n k : Nat} {f : Nat → Int} (h : k < n) : vg ((List.range n).map f) k = f k := by
  unfold vg
  rw [List.getD_eq_getElem?_getD]; simp [h]
theorem leadIn_none {r : List Int} (h : leadIn r = none) : ∀ k, k < r.length → vg r k = 0 := fun k hk => by
  unfold leadIn at h
  rw [List.findIdx?_eq_none_iff] at h
  have q := h (r[k]) (List.getElem_mem hk)
  unfold vg
  rw [List.getD_eq_getElem?_getD, List.getElem?_eq_getElem hk]
  simpa using q
theorem leadIn_some {r : List Int} {i : Nat} (h : leadIn r = some i) : i < r.length ∧ vg r i ≠ 0 ∧ ∀ k, k < i → vg r k = 0 := by
  unfold leadIn at h
  obtain ⟨h1, h2, h3⟩ := List.findIdx?_eq_some_iff_getElem.mp h
  refine ⟨h1, ?_, fun k hk => ?_⟩
  · unfold vg; rw [List.getD_eq_getElem?_getD, List.getElem?_eq_getElem h1]; simpa using h2
  · have := h3 k hk
    unfold vg; rw [List.getD_eq_getElem?_getD, List.getElem?_eq_getElem (by omega)]; simpa using this
theorem leadIn_of {r : List Int} {i : Nat} (h1 : i < r.length) (h2 : vg r i ≠ 0) (h3 : ∀ k, k < i → vg r k = 0) : leadIn r = some i := by
  unfold leadIn
  refine List.findIdx?_eq_some_iff_getElem.mpr ⟨h1, ?_, fun k hk => ?_⟩
  · unfold vg at h2; rw [List.getD_eq_getElem?_getD, List.getElem?_eq_getElem h1] at h2; simpa using h2
  · have := h3 k hk
    unfold vg at this; rw [List.getD_eq_getElem?_getD, List.getElem?_eq_getElem (by omega)] at this; simpa using this
theorem leadIn_of_none {r : List Int} (h : ∀ k, k < r.length → vg r k = 0) : leadIn r = none := by
  cases e : leadIn r with
  | none => rfl
  | some i => exact absurd (h i (leadIn_some e).1) (leadIn_some e).2.1
theorem mem_vg {r : List Int} {k : Nat} (h : k < r.length) : vg r k ∈ r := by
  unfold vg; rw [List.getD_eq_getElem?_getD, List.getElem?_eq_getElem h]; exact List.getElem_mem h
theorem mem_getD {M : List (List Int)} {j : Nat} (h : j < M.length) : M.getD j [] ∈ M := by
  rw [List.getD_eq_getElem?_getD, List.getElem?_eq_getElem h]; exact List.getElem_mem h
theorem Bt.mono {a b : Nat} {z : Int} (h : Bt a z) (hab : a ≤ b) : Bt b z := Nat.lt_of_lt_of_le h (Nat.pow_le_pow_right (by decide) hab)
theorem Bt.add {a : Nat} {x y : Int} (hx : Bt a x) (hy : Bt a y) : Bt (a + 1) (x + y) := by
  unfold Bt at *
  rw [Nat.pow_succ]
  have := Int.natAbs_add_le x y
  omega
theorem Bt.neg {a : Nat} {x : Int} (hx : Bt a x) : Bt a (-x) := by unfold Bt at *; rwa [Int.natAbs_neg]
theorem Bt.sub {a : Nat} {x y : Int} (hx : Bt a x) (hy : Bt a y) : Bt (a + 1) (x - y) := by
  rw [Int.sub_eq_add_neg]
  exact hx.add hy.neg
theorem Bt.mul {a b : Nat} {x y : Int} (hx : Bt a x) (hy : Bt b y) : Bt (a + b) (x * y) := by
  unfold Bt at *
  rw [Int.natAbs_mul, Nat.pow_add]
  exact Nat.mul_lt_mul'' hx hy
/-- the shape of a paper of m numbers over tables of n columns, its numbers below 2 ^ L -/
structure PapOk (L : Nat) (one : List Int) (n m : Nat) (F A B : List (List Int)) : Prop where
  one_ : one.length = m
  F_ : Shape m n F
  A_ : Shape m m A
  B_ : Shape m m B
  n_ : n ≤ 1000
  m_ : m ≤ 1000
  bone : ∀ z ∈ one, Bt L z
  bF : ∀ l ∈ F, ∀ z ∈ l, Bt L z
  bA : ∀ l ∈ A, ∀ z ∈ l, Bt L z
  bB : ∀ l ∈ B, ∀ z ∈ l, Bt L z
end SF
end
section
set_option maxHeartbeats 4000000
namespace SF
/-! ### sums -/
theorem S_congr {n : Nat} {f g : Nat → Int} (h : ∀ i, i < n → f i = g i) : S n f = S n g := by
  induction n with
  | zero => rfl
  | succ n ih => show S n f + f n = S n g + g n; rw [ih fun i hi => h i (by omega), h n (by omega)]
theorem S_add (n : Nat) (f g : Nat → Int) : S n (fun i => f i + g i) = S n f + S n g := by
  induction n with
  | zero => rfl
  | succ n ih => show S n _ + (f n + g n) = (S n f + f n) + (S n g + g n); rw [ih]; omega
theorem S_mul (n : Nat) (c : Int) (f : Nat → Int) : S n (fun i => c * f i) = c * S n f := by
  induction n with
  | zero => show (0 : Int) = c * 0; rw [Int.mul_zero]
  | succ n ih => show S n _ + c * f n = c * (S n f + f n); rw [ih, Int.mul_add]
theorem S_mulr (n : Nat) (c : Int) (f : Nat → Int) : S n (fun i => f i * c) = S n f * c := by
  rw [Int.mul_comm, ← S_mul]; exact S_congr fun i _ => Int.mul_comm _ _
theorem S_zero {n : Nat} {f : Nat → Int} (h : ∀ i, i < n → f i = 0) : S n f = 0 := by
  induction n with
  | zero => rfl
  | succ n ih => show S n f + f n = 0; rw [ih fun i hi => h i (by omega), h n (by omega)]; rfl
theorem S_swap (n m : Nat) (f : Nat → Nat → Int) : S n (fun i => S m (fun j => f i j)) = S m (fun j => S n (fun i => f i j)) := by
  induction n with
  | zero => exact (S_zero fun _ _ => rfl).symm
  | succ n ih => show S n _ + S m (fun j => f n j) = S m (fun j => S n (fun i => f i j) + f n j); rw [ih, S_add]
theorem S_one {n i : Nat} (h : i < n) (f : Nat → Int) : S n (fun j => if j = i then f j else 0) = f i := by
  induction n with
  | zero => omega
  | succ n ih =>
    show S n _ + (if n = i then f n else 0) = f i
    by_cases e : n = i
    · subst e
      rw [if_pos rfl, S_zero fun j hj => if_neg (by omega), Int.zero_add]
    · rw [if_neg e, ih (by omega), Int.add_zero]
theorem S_out {n i : Nat} (h : n ≤ i) (f : Nat → Int) : S n (fun j => if j = i then f j else 0) = 0 := S_zero fun j hj => if_neg (by omega)
theorem S_sub (n : Nat) (f g : Nat → Int) : S n (fun i => f i - g i) = S n f - S n g := by
  induction n with
  | zero => rfl
  | succ n ih => show S n _ + (f n - g n) = (S n f + f n) - (S n g + g n); rw [ih]; omega
/-! ### tables as functions -/
abbrev Mat := Nat → Nat → Int
def mul (m : Nat) (A T : Mat) : Mat := fun i k => S m fun j => A i j * T j k
theorem mul_assoc (m : Nat) (A B T : Mat) : mul m (mul m A B) T = mul m A (mul m B T) := by
  funext i k
  unfold mul
  have h1 : S m (fun j => S m (fun l => A i l * B l j) * T j k) = S m (fun j => S m (fun l => A i l * (B l j * T j k))) := S_congr fun j _ => by
    rw [← S_mulr]; exact S_congr fun l _ => Int.mul_assoc _ _ _
  rw [h1, S_swap]
  exact S_congr fun l _ => S_mul _ _ _
/-! ### deeds as functions -/
def Df : Deed → Mat → Mat
  | .turn a, F => fun i k => if i = a then -(F a k) else F i k
  | .swap a b, F => fun i k => if i = b then F a k else if i = a then F b k else F i k
  | .add a b q, F => fun i k => if i = a then F a k + q * F b k else F i k
def Dfs (ds : List Deed) (F : Mat) : Mat := ds.foldl (fun F d => Df d F) F
theorem Df_mul (d : Deed) (m : Nat) (A T : Mat) : Df d (mul m A T) = mul m (Df d A) T := by
  funext i k
  cases d with
  | turn a =>
    unfold Df mul
    by_cases h : i = a
    · simp only [if_pos h]
      have := S_mul m (-1) (fun j => A a j * T j k)
      rw [show -(S m fun j => A a j * T j k) = -1 * S m (fun j => A a j * T j k) by omega, ← this]
      exact S_congr fun j _ => by grind
    · simp only [if_neg h]
  | swap a b =>
    unfold Df mul
    by_cases h : i = b
    · simp only [if_pos h]
    · by_cases h2 : i = a
      · simp only [if_neg h, if_pos h2]
      · simp only [if_neg h, if_neg h2]
  | add a b q =>
    unfold Df mul
    by_cases h : i = a
    · simp only [if_pos h]
      rw [← S_mul, ← S_add]
      exact S_congr fun j _ => by grind
    · simp only [if_neg h]
theorem Dfs_mul (ds : List Deed) (m : Nat) (A T : Mat) : Dfs ds (mul m A T) = mul m (Dfs ds A) T := by
  induction ds generalizing A with
  | nil => rfl
  | cons d ds ih => show Dfs ds (Df d (mul m A T)) = mul m (Dfs ds (Df d A)) T; rw [Df_mul, ih]
theorem Df_contrary {m : Nat} {d : Deed} (h : d.ok m) (F : Mat) : Df d.contrary (Df d F) = F := by
  funext i k
  cases d with
  | turn a =>
    show (if i = a then -(if a = a then -(F a k) else F a k) else if i = a then -(F a k) else F i k) = F i k
    by_cases h : i = a
    · subst h; simp
    · simp [h]
  | swap a b =>
    have hab : a ≠ b := h.2.2
    show (if i = b then (if a = b then F a k else if a = a then F b k else F a k) else if i = a then (if b = b then F a k else if b = a then F b k else F b k) else if i = b then F a k else if i = a then F b k else F i k) = F i k
    by_cases h1 : i = b
    · subst h1; simp [hab]
    · by_cases h2 : i = a
      · subst h2; simp [h1]
      · simp [h1, h2]
  | add a b q =>
    have hab : a ≠ b := h.2.2
    show (if i = a then (if a = a then F a k + q * F b k else F a k) + -q * (if b = a then F a k + q * F b k else F b k) else if i = a then F a k + q * F b k else F i k) = F i k
    by_cases h1 : i = a
    · subst h1
      simp only [if_pos, if_neg (Ne.symm hab)]
      grind
    · simp [h1]
theorem Dfs_append (ds es : List Deed) (F : Mat) : Dfs (ds ++ es) F = Dfs es (Dfs ds F) := by unfold Dfs; rw [List.foldl_append]
theorem Dfs_ledBack {m : Nat} {ds : List Deed} (h : ∀ d ∈ ds, d.ok m) (F : Mat) : Dfs (ledBack ds) (Dfs ds F) = F := by
  induction ds generalizing F with
  | nil => rfl
  | cons d ds ih =>
    have e : ledBack (d :: ds) = ledBack ds ++ [d.contrary] := by unfold ledBack; simp
    rw [e, Dfs_append]
    show Df d.contrary (Dfs (ledBack ds) (Dfs ds (Df d F))) = F
    rw [ih fun d' hd => h d' (by simp [hd])]
    exact Df_contrary (h d (by simp)) F
theorem vg_out {r : List Int} {k : Nat} (h : r.length ≤ k) : vg r k = 0 := by
  unfold vg; rw [List.getD_eq_getElem?_getD, List.getElem?_eq_none h]; rfl
theorem vg_neg (r : List Int) (k : Nat) : vg (rowNeg r) k = -(vg r k) := by
  unfold vg rowNeg
  rw [List.getD_eq_getElem?_getD, List.getD_eq_getElem?_getD, List.getElem?_map]
  cases r[k]? <;> simp
theorem vg_add {q : Int} {r s : List Int} (h : r.length = s.length) (k : Nat) : vg (rowAdd q r s) k = vg r k + q * vg s k := by
  unfold vg rowAdd
  rw [List.getD_eq_getElem?_getD, List.getD_eq_getElem?_getD, List.getD_eq_getElem?_getD, List.getElem?_zipWith]
  by_cases hk : k < r.length
  · rw [List.getElem?_eq_getElem hk, List.getElem?_eq_getElem (by omega : k < s.length)]; rfl
  · rw [List.getElem?_eq_none (by omega : r.length ≤ k), List.getElem?_eq_none (by omega : s.length ≤ k)]; simp
theorem mg2_set {M : List (List Int)} {i : Nat} {r : List Int} (h : i < M.length) (j k : Nat) : mg2 (M.set i r) j k = if j = i then vg r k else mg2 M j k := by
  unfold mg2
  by_cases e : j = i
  · subst e; rw [getD_set_self h, if_pos rfl]
  · rw [getD_set_ne (fun z => e z.symm), if_neg e]
theorem mg2_app {m w : Nat} {M : List (List Int)} {d : Deed} (s : Shape m w M) (h : d.ok m) : mg2 (d.app M) = Df d (mg2 M) := by
  funext i k
  cases d with
  | turn a =>
    have ha : a < M.length := by rw [s.1]; exact h
    show mg2 (M.set a (rowNeg (M.getD a []))) i k = _
    rw [mg2_set ha, vg_neg]; rfl
  | swap a b =>
    have ha : a < M.length := by rw [s.1]; exact h.1
    have hb : b < (M.set a (M.getD b [])).length := by rw [List.length_set, s.1]; exact h.2.1
    show mg2 ((M.set a (M.getD b [])).set b (M.getD a [])) i k = _
    rw [mg2_set hb, mg2_set ha]; rfl
  | add a b q =>
    have ha : a < M.length := by rw [s.1]; exact h.1
    show mg2 (M.set a (rowAdd q (M.getD a []) (M.getD b []))) i k = _
    rw [mg2_set ha, vg_add (by rw [s.row h.1, s.row h.2.1])]; rfl
theorem mg2_acts {m w : Nat} {ds : List Deed} : ∀ {M : List (List Int)}, Shape m w M → (∀ d ∈ ds, d.ok m) → mg2 (acts ds M) = Dfs ds (mg2 M) := by
  induction ds with
  | nil => intro M _ _; rfl
  | cons d ds ih =>
    intro M s h
    show mg2 (acts ds (d.app M)) = Dfs ds (Df d (mg2 M))
    rw [ih (d.app_shape s (h d (by simp))) fun d' hd => h d' (by simp [hd]), mg2_app s (h d (by simp))]
theorem vg_unit (n j k : Nat) : vg (unitRow n j) k = if k < n then (if k = j then 1 else 0) else 0 := by
  by_cases h : k < n
  · rw [if_pos h]; exact map_range_getD h
  · rw [if_neg h, vg_out (by rw [unitRow_length]; omega)]
theorem mg2_unit (n i k : Nat) : mg2 (unitM n) i k = if i < n ∧ k < n ∧ k = i then 1 else 0 := by
  unfold mg2 unitM
  by_cases h : i < n
  · have : ((List.range n).map (unitRow n)).getD i [] = unitRow n i := by rw [List.getD_eq_getElem?_getD]; simp [h]
    rw [this, vg_unit]
    by_cases h2 : k < n
    · rw [if_pos h2]; simp [h, h2]
    · rw [if_neg h2, if_neg (by omega)]
  · have : ((List.range n).map (unitRow n)).getD i [] = [] := by rw [List.getD_eq_getElem?_getD, List.getElem?_eq_none (by simp; omega)]; rfl
    rw [this, if_neg (by omega)]; rfl
theorem mg2_out {M : List (List Int)} {i k : Nat} (h : M.length ≤ i) : mg2 M i k = 0 := by
  unfold mg2; rw [List.getD_eq_getElem?_getD, List.getElem?_eq_none h]; rfl
theorem unit_mul {m : Nat} {T : List (List Int)} (h : T.length = m) : mul m (mg2 (unitM m)) (mg2 T) = mg2 T := by
  funext i k
  unfold mul
  by_cases hi : i < m
  · rw [← S_one hi (fun j => mg2 T j k)]
    refine S_congr fun j hj => ?_
    rw [mg2_unit]
    by_cases e : j = i
    · subst e; simp [hi]
    · simp [e]
  · rw [mg2_out (by omega : T.length ≤ i)]
    refine S_zero fun j hj => ?_
    rw [mg2_unit, if_neg (by omega), Int.zero_mul]
/-! ### papers that are right -/
structure Ech (m n : Nat) (F : Mat) (rk : Nat) (lead : Nat → Nat) : Prop where
  le : rk ≤ m
  lead_ : ∀ i, i < rk → lead i < n ∧ F i (lead i) ≠ 0 ∧ ∀ k, k < lead i → F i k = 0
  up : ∀ i j, i < j → j < rk → lead i < lead j
  zero : ∀ i, rk ≤ i → i < m → ∀ k, k < n → F i k = 0
structure Good (m n : Nat) (T : Mat) (p one : Nat → Int) (F A B : Mat) : Prop where
  one_ : ∀ k, k < n → S m (fun j => one j * T j k) = p k
  form : ∀ i, i < m → ∀ k, k < n → F i k = mul m A T i k
  back : ∀ i, i < m → ∀ k, k < m → mul m B A i k = if i = k then 1 else 0
  ech : ∃ rk lead, Ech m n F rk lead
theorem Ech.indep {m n rk : Nat} {F : Mat} {lead : Nat → Nat} (e : Ech m n F rk lead) {f : Nat → Int} (h : ∀ k, k < n → S m (fun i => f i * F i k) = 0) : ∀ i, i < rk → f i = 0 := by
  intro i
  induction i using Nat.strongRecOn with
  | ind i ih =>
    intro hi
    obtain ⟨h1, h2, h3⟩ := e.lead_ i hi
    have q := h (lead i) h1
    have key : S m (fun j => f j * F j (lead i)) = f i * F i (lead i) := by
      rw [← S_one (show i < m from Nat.lt_of_lt_of_le hi e.le) (fun j => f j * F j (lead i))]
      refine S_congr fun j hj => ?_
      by_cases ej : j = i
      · rw [if_pos ej]
      · rw [if_neg ej]
        by_cases hlt : j < i
        · rw [ih j hlt (by omega), Int.zero_mul]
        · by_cases hr : j < rk
          · rw [(e.lead_ j hr).2.2 _ (e.up i j (by omega) hr), Int.mul_zero]
          · rw [e.zero j (by omega) hj _ h1, Int.mul_zero]
    rw [key] at q
    rcases Int.mul_eq_zero.mp q with z | z
    · exact z
    · exact absurd z h2
end SF
end
section
set_option maxHeartbeats 4000000
namespace SF
theorem S_split (a b : Nat) (f : Nat → Int) : S (a + b) f = S a f + S b (fun j => f (a + j)) := by
  induction b with
  | zero => show S a f = S a f + 0; omega
  | succ b ih => show S (a + b) f + f (a + b) = S a f + (S b _ + f (a + b)); rw [ih]; omega
theorem nz_iff (r : List Int) : nz r = true ↔ ∃ k, k < r.length ∧ vg r k ≠ 0 := by
  unfold nz
  rw [List.any_eq_true]
  constructor
  · rintro ⟨x, hx, h⟩
    obtain ⟨k, hk, rfl⟩ := List.mem_iff_getElem.mp hx
    refine ⟨k, hk, ?_⟩
    unfold vg; rw [List.getD_eq_getElem?_getD, List.getElem?_eq_getElem hk]; simpa using h
  · rintro ⟨k, hk, h⟩
    exact ⟨vg r k, mem_vg hk, by simpa using h⟩
theorem filter_lt (m rk : Nat) (h : rk ≤ m) : ((List.range m).filter fun i => decide (i < rk)).length = rk := by
  induction m with
  | zero => simp; omega
  | succ m ih =>
    rw [List.range_succ, List.filter_append, List.length_append]
    by_cases e : rk = m + 1
    · subst e
      have : (List.range m).filter (fun i => decide (i < m + 1)) = List.range m := List.filter_eq_self.mpr fun i hi => by have := List.mem_range.mp hi; simp; omega
      rw [this]; simp
    · rw [ih (by omega)]
      have : ¬ m < rk := by omega
      simp [this]
theorem map_getD' (F : List (List Int)) : (List.range F.length).map (fun i => F.getD i []) = F := by
  apply List.ext_getElem?
  intro i
  by_cases h : i < F.length
  · rw [List.getElem?_map, List.getElem?_range h]
    show some (F.getD i []) = F[i]?
    rw [List.getD_eq_getElem?_getD, List.getElem?_eq_getElem h]; rfl
  · rw [List.getElem?_eq_none (by simp; omega), List.getElem?_eq_none (by omega)]
theorem ahead_rk {m n rk : Nat} {F : List (List Int)} {lead : Nat → Nat} (s : Shape m n F) (e : Ech m n (mg2 F) rk lead) : aheadOf F = rk := by
  unfold aheadOf
  have h := map_getD' F
  rw [show F.filter nz = (((List.range F.length).map (fun i => F.getD i [])).filter nz) by rw [h], List.filter_map, List.length_map, ← filter_lt m rk e.le, s.1]
  congr 1
  apply List.filter_congr
  intro i hi
  have him := List.mem_range.mp hi
  show nz (F.getD i []) = decide (i < rk)
  by_cases hr : i < rk
  · rw [decide_eq_true hr, nz_iff]
    exact ⟨lead i, by rw [s.row him]; exact (e.lead_ i hr).1, (e.lead_ i hr).2.1⟩
  · rw [decide_eq_false hr, Bool.eq_false_iff]
    intro z
    obtain ⟨k, hk, h⟩ := (nz_iff _).mp z
    rw [s.row him] at hk
    exact h (e.zero i (by omega) him k hk)
theorem vg_rowTimes {x : List Int} {n k : Nat} {M : List (List Int)} (h : k < n) : vg (rowTimes x n M) k = rsum x M k := map_range_getD h
theorem rsum_eq {x : List Int} {m : Nat} {M : List (List Int)} (hx : x.length = m) (hM : M.length = m) (k : Nat) : rsum x M k = S m fun j => vg x j * mg2 M j k := by
  unfold rsum; rw [hx, hM, Nat.min_self]
theorem row_ext {r s : List Int} {n : Nat} (hr : r.length = n) (hs : s.length = n) (h : ∀ k, k < n → vg r k = vg s k) : r = s := by
  apply List.ext_getElem (by omega)
  intro i h1 h2
  have := h i (by omega)
  unfold vg at this
  rw [List.getD_eq_getElem?_getD, List.getD_eq_getElem?_getD, List.getElem?_eq_getElem h1, List.getElem?_eq_getElem h2] at this
  exact this
theorem vg_zip {f : Int → Int → Int} {r s : List Int} {m k : Nat} (hr : r.length = m) (hs : s.length = m) (hk : k < m) : vg (List.zipWith f r s) k = f (vg r k) (vg s k) := by
  unfold vg
  rw [List.getD_eq_getElem?_getD, List.getD_eq_getElem?_getD, List.getD_eq_getElem?_getD, List.getElem?_zipWith, List.getElem?_eq_getElem (by omega : k < r.length), List.getElem?_eq_getElem (by omega : k < s.length)]; rfl
theorem vg_drop (r : List Int) (a k : Nat) : vg (r.drop a) k = vg r (a + k) := by
  unfold vg; rw [List.getD_eq_getElem?_getD, List.getD_eq_getElem?_getD, List.getElem?_drop]
theorem vg_take {r : List Int} {a k : Nat} (h : k < a) : vg (r.take a) k = vg r k := by
  unfold vg; rw [List.getD_eq_getElem?_getD, List.getD_eq_getElem?_getD, List.getElem?_take_of_lt h]
theorem mg2_drop (M : List (List Int)) (a j k : Nat) : mg2 (M.drop a) j k = mg2 M (a + j) k := by
  unfold mg2; rw [List.getD_eq_getElem?_getD, List.getD_eq_getElem?_getD, List.getElem?_drop]
/-- a right paper of the table T and the point p -/
structure GoodL (L n m : Nat) (T : List (List Int)) (p one : List Int) (F A B : List (List Int)) : Prop where
  ok : PapOk L one n m F A B
  T_ : Shape m n T
  p_ : p.length = n
  good : Good m n (mg2 T) (vg p) (vg one) (mg2 F) (mg2 A) (mg2 B)
section
variable {L n m : Nat} {T : List (List Int)} {p one : List Int} {F A B : List (List Int)}
theorem GoodL.tbf (g : GoodL L n m T p one F A B) {i k : Nat} (hi : i < m) (hk : k < n) : mg2 T i k = S m fun l => mg2 B i l * mg2 F l k := by
  have e1 : S m (fun l => mg2 B i l * mg2 F l k) = mul m (mg2 B) (mul m (mg2 A) (mg2 T)) i k := S_congr fun l hl => by rw [g.good.form l hl k hk]
  rw [e1, ← mul_assoc]
  show mg2 T i k = S m fun j => mul m (mg2 B) (mg2 A) i j * mg2 T j k
  rw [← S_one hi (fun j => mg2 T j k)]
  refine S_congr fun j hj => ?_
  rw [g.good.back i hi j hj]
  by_cases e : j = i
  · subst e; simp
  · simp [e, Ne.symm e]
/-- what numbers_of finds ahead of its cut -/
def fnd (m : Nat) (one : List Int) (B : List (List Int)) (x : List Int) : List Int := rowTimes (List.zipWith (fun x y => x - y) x one) m B
theorem GoodL.apart (g : GoodL L n m T p one F A B) {x : List Int} (hx : x.length = m) {k : Nat} (hk : k < n) : rsum x T k - vg p k = S m fun l => vg (fnd m one B x) l * mg2 F l k := by
  have h1 : rsum x T k = S m fun j => vg x j * mg2 T j k := rsum_eq hx g.T_.1 k
  rw [h1, ← g.good.one_ k hk, ← S_sub]
  have h2 : S m (fun l => vg (fnd m one B x) l * mg2 F l k) = S m fun l => S m fun j => (vg x j - vg one j) * (mg2 B j l * mg2 F l k) := S_congr fun l hl => by
    unfold fnd
    rw [vg_rowTimes hl, rsum_eq (m := m) (by rw [List.length_zipWith, hx, g.ok.one_, Nat.min_self]) g.ok.B_.1, ← S_mulr]
    refine S_congr fun j hj => ?_
    rw [vg_zip hx g.ok.one_ hj, Int.mul_assoc]
  rw [h2, S_swap]
  refine S_congr fun j hj => ?_
  rw [S_mul, ← g.tbf hj hk]
  grind
theorem fnd_length : (fnd m one B x).length = m := rowTimes_length _ _ _
theorem GoodL.numbers (g : GoodL L n m T p one F A B) {x : List Int} (hx : x.length = m) : numbersOf one m (A.drop (aheadOf F)).length B x = if nz ((fnd m one B x).take (aheadOf F)) then none else some ((fnd m one B x).drop (aheadOf F)) := by
  obtain ⟨rk, lead, e⟩ := g.good.ech
  have hr := ahead_rk g.ok.F_ e
  have hle := e.le
  have : (fnd m one B x).length - (A.drop (aheadOf F)).length = aheadOf F := by rw [fnd_length, List.length_drop, g.ok.A_.1, hr]; omega
  unfold numbersOf
  show (if nz ((fnd m one B x).take ((fnd m one B x).length - (A.drop (aheadOf F)).length)) then none else some ((fnd m one B x).drop ((fnd m one B x).length - (A.drop (aheadOf F)).length))) = _
  rw [this]
/-- found is nought ahead of the cut just where x answers -/
theorem GoodL.answers (g : GoodL L n m T p one F A B) {x : List Int} (hx : x.length = m) : nz ((fnd m one B x).take (aheadOf F)) = false ↔ rowTimes x n T = p := by
  obtain ⟨rk, lead, e⟩ := g.good.ech
  have hr := ahead_rk g.ok.F_ e
  have hle := e.le
  rw [hr]
  constructor
  · intro h
    have hz : ∀ l, l < rk → vg (fnd m one B x) l = 0 := fun l hl => by
      by_cases z : vg (fnd m one B x) l = 0
      · exact z
      · have : nz ((fnd m one B x).take rk) = true := (nz_iff _).mpr ⟨l, by rw [List.length_take, fnd_length]; omega, by rw [vg_take hl]; exact z⟩
        rw [this] at h; cases h
    refine row_ext (rowTimes_length _ _ _) g.p_ fun k hk => ?_
    rw [vg_rowTimes hk]
    have q := g.apart hx hk
    rw [S_zero (n := m) (fun l hl => ?_)] at q
    · omega
    · by_cases h2 : l < rk
      · rw [hz l h2, Int.zero_mul]
      · rw [e.zero l (by omega) hl k hk, Int.mul_zero]
  · intro h
    rw [Bool.eq_false_iff]
    intro z
    obtain ⟨l, hl, hne⟩ := (nz_iff _).mp z
    rw [List.length_take, fnd_length] at hl
    rw [vg_take (by omega)] at hne
    refine hne (e.indep (f := vg (fnd m one B x)) (fun k hk => ?_) l (by omega))
    rw [← g.apart hx hk, ← vg_rowTimes hk, h]
    omega
theorem GoodL.none_iff (g : GoodL L n m T p one F A B) {x : List Int} (hx : x.length = m) : numbersOf one m (A.drop (aheadOf F)).length B x = none ↔ rowTimes x n T ≠ p := by
  rw [g.numbers hx]
  have h := g.answers hx
  cases e : nz ((fnd m one B x).take (aheadOf F)) with
  | true =>
    rw [e] at h
    simp only [if_true, true_iff]
    intro z
    exact absurd (h.mpr z) (by decide)
  | false =>
    rw [e] at h
    have := h.mp rfl
    simp [this]
theorem GoodL.tells (g : GoodL L n m T p one F A B) {x r : List Int} (hx : x.length = m) (h : numbersOf one m (A.drop (aheadOf F)).length B x = some r) : answerAt one m (A.drop (aheadOf F)) r = x := by
  obtain ⟨rk, lead, e⟩ := g.good.ech
  have hr := ahead_rk g.ok.F_ e
  have hle := e.le
  rw [g.numbers hx] at h
  cases ez : nz ((fnd m one B x).take (aheadOf F)) with
  | true => rw [ez] at h; simp at h
  | false =>
    rw [ez] at h
    have h : (fnd m one B x).drop (aheadOf F) = r := by simpa using h
    rw [hr] at ez h ⊢
    have hz : ∀ l, l < rk → vg (fnd m one B x) l = 0 := fun l hl => by
      by_cases z : vg (fnd m one B x) l = 0
      · exact z
      · have : nz ((fnd m one B x).take rk) = true := (nz_iff _).mpr ⟨l, by rw [List.length_take, fnd_length]; omega, by rw [vg_take hl]; exact z⟩
        rw [this] at ez; cases ez
    refine row_ext (n := m) (by unfold answerAt; rw [List.length_zipWith, rowTimes_length, g.ok.one_, Nat.min_self]) hx fun k hk => ?_
    unfold answerAt
    rw [vg_zip g.ok.one_ (rowTimes_length _ _ _) hk, vg_rowTimes hk, rsum_eq (m := m - rk) (by rw [← h, List.length_drop, fnd_length]) (by rw [List.length_drop, g.ok.A_.1])]
    have h1 : S (m - rk) (fun j => vg r j * mg2 (A.drop rk) j k) = S m fun j => vg (fnd m one B x) j * mg2 A j k := by
      have e2 : m = rk + (m - rk) := by omega
      rw [show S m (fun j => vg (fnd m one B x) j * mg2 A j k) = S (rk + (m - rk)) (fun j => vg (fnd m one B x) j * mg2 A j k) by rw [← e2], S_split, S_zero (n := rk) (fun j hj => by rw [hz j hj, Int.zero_mul]), Int.zero_add]
      exact S_congr fun j _ => by rw [← h, vg_drop, mg2_drop]
    rw [h1]
    have h2 : S m (fun j => vg (fnd m one B x) j * mg2 A j k) = S m fun j => S m fun l => (vg x l - vg one l) * (mg2 B l j * mg2 A j k) := S_congr fun j hj => by
      unfold fnd
      rw [vg_rowTimes hj, rsum_eq (m := m) (by rw [List.length_zipWith, hx, g.ok.one_, Nat.min_self]) g.ok.B_.1, ← S_mulr]
      refine S_congr fun l hl => ?_
      rw [vg_zip hx g.ok.one_ hl, Int.mul_assoc]
    rw [h2, S_swap]
    have h3 : S m (fun j => S m fun i => (vg x j - vg one j) * (mg2 B j i * mg2 A i k)) = S m (fun j => if j = k then vg x j - vg one j else 0) := S_congr fun j hj => by
      rw [S_mul]
      have q := g.good.back j hj k hk
      have q : S m (fun i => mg2 B j i * mg2 A i k) = if j = k then 1 else 0 := q
      rw [q]
      by_cases ej : j = k
      · simp [ej]
      · simp [ej]
    rw [h3, S_one hk]
    omega
theorem GoodL.any (g : GoodL L n m T p one F A B) {r : List Int} (hr : r.length = (A.drop (aheadOf F)).length) : rowTimes (answerAt one m (A.drop (aheadOf F)) r) n T = p := by
  obtain ⟨rk, lead, e⟩ := g.good.ech
  have ha := ahead_rk g.ok.F_ e
  have hle := e.le
  rw [ha] at hr ⊢
  have hd : (A.drop rk).length = m - rk := by rw [List.length_drop, g.ok.A_.1]
  refine row_ext (rowTimes_length _ _ _) g.p_ fun k hk => ?_
  have hl : (answerAt one m (A.drop rk) r).length = m := by unfold answerAt; rw [List.length_zipWith, rowTimes_length, g.ok.one_, Nat.min_self]
  rw [vg_rowTimes hk, rsum_eq hl g.T_.1, ← g.good.one_ k hk]
  have h1 : S m (fun j => vg (answerAt one m (A.drop rk) r) j * mg2 T j k) = S m (fun j => vg one j * mg2 T j k + S (m - rk) (fun l => vg r l * (mg2 A (rk + l) j * mg2 T j k))) := S_congr fun j hj => by
    unfold answerAt
    rw [vg_zip g.ok.one_ (rowTimes_length _ _ _) hj, vg_rowTimes hj, rsum_eq (hr.trans hd) hd, Int.add_mul, ← S_mulr]
    congr 1
    exact S_congr fun l _ => by rw [mg2_drop, Int.mul_assoc]
  rw [h1, S_add, S_swap]
  have h2 : S (m - rk) (fun l => S m fun j => vg r l * (mg2 A (rk + l) j * mg2 T j k)) = 0 := S_zero fun l hl => by
    rw [S_mul]
    have q := g.good.form (rk + l) (by omega) k hk
    have q : mg2 F (rk + l) k = S m (fun j => mg2 A (rk + l) j * mg2 T j k) := q
    rw [← q, e.zero (rk + l) (by omega) (by omega) k hk, Int.mul_zero]
  rw [h2, Int.add_zero]
end
end SF
end
section
set_option maxHeartbeats 4000000
namespace SF
/-! ### weights -/
def Deed.wt : Deed → Nat
  | .add _ _ q => 1 + q.natAbs
  | _ => 1
def Wt : List Deed → Nat
  | [] => 1
  | d :: ds => d.wt * Wt ds
theorem Deed.wt_pos (d : Deed) : 1 ≤ d.wt := by cases d <;> simp [Deed.wt]
theorem Wt_pos : ∀ ds : List Deed, 1 ≤ Wt ds
  | [] => Nat.le_refl _
  | d :: ds => Nat.mul_le_mul d.wt_pos (Wt_pos ds)
theorem Wt_append (ds es : List Deed) : Wt (ds ++ es) = Wt ds * Wt es := by
  induction ds with
  | nil => show Wt es = 1 * Wt es; omega
  | cons d ds ih => show d.wt * Wt (ds ++ es) = d.wt * Wt ds * Wt es; rw [ih, Nat.mul_assoc]
theorem Wt_take (ds : List Deed) (i : Nat) : Wt (ds.take i) ≤ Wt ds := by
  have h := Wt_append (ds.take i) (ds.drop i)
  rw [List.take_append_drop] at h
  rw [h]
  exact Nat.le_mul_of_pos_right _ (Wt_pos _)
theorem Wt_mem {ds : List Deed} {d : Deed} (h : d ∈ ds) : d.wt ≤ Wt ds := by
  induction ds with
  | nil => simp at h
  | cons e ds ih =>
    rcases List.mem_cons.mp h with z | z
    · rw [z]; exact Nat.le_mul_of_pos_right _ (Wt_pos _)
    · exact Nat.le_trans (ih z) (Nat.le_mul_of_pos_left _ e.wt_pos)
theorem Wt_contrary (d : Deed) : d.contrary.wt = d.wt := by cases d <;> simp [Deed.contrary, Deed.wt]
theorem Wt_ledBack : ∀ ds : List Deed, Wt (ledBack ds) = Wt ds
  | [] => rfl
  | d :: ds => by
    have e : ledBack (d :: ds) = ledBack ds ++ [d.contrary] := by unfold ledBack; simp
    rw [e, Wt_append, Wt_ledBack ds]
    show Wt ds * (d.contrary.wt * 1) = d.wt * Wt ds
    rw [Wt_contrary, Nat.mul_one, Nat.mul_comm]
/-- no number above E in size -/
def Le (E : Nat) (F : Mat) : Prop := ∀ i k, (F i k).natAbs ≤ E
theorem Le.mono {E E' : Nat} {F : Mat} (h : Le E F) (hE : E ≤ E') : Le E' F := fun i k => Nat.le_trans (h i k) hE
theorem natAbs_add_mul {x y q : Int} {E : Nat} (hx : x.natAbs ≤ E) (hy : y.natAbs ≤ E) : (x + q * y).natAbs ≤ E * (1 + q.natAbs) := by
  have h1 := Int.natAbs_add_le x (q * y)
  rw [Int.natAbs_mul] at h1
  have h2 : q.natAbs * y.natAbs ≤ q.natAbs * E := Nat.mul_le_mul_left _ hy
  rw [Nat.mul_add, Nat.mul_one, Nat.mul_comm E]
  omega
theorem Le_Df {E : Nat} {F : Mat} {d : Deed} (h : Le E F) : Le (E * d.wt) (Df d F) := fun i k => by
  cases d with
  | turn a =>
    show (if i = a then -(F a k) else F i k).natAbs ≤ E * 1
    by_cases e : i = a
    · rw [if_pos e, Int.natAbs_neg, Nat.mul_one]; exact h a k
    · rw [if_neg e, Nat.mul_one]; exact h i k
  | swap a b =>
    show (if i = b then F a k else if i = a then F b k else F i k).natAbs ≤ E * 1
    rw [Nat.mul_one]
    by_cases e : i = b
    · rw [if_pos e]; exact h a k
    · rw [if_neg e]
      by_cases e2 : i = a
      · rw [if_pos e2]; exact h b k
      · rw [if_neg e2]; exact h i k
  | add a b q =>
    show (if i = a then F a k + q * F b k else F i k).natAbs ≤ E * (1 + q.natAbs)
    by_cases e : i = a
    · rw [if_pos e]; exact natAbs_add_mul (h a k) (h b k)
    · rw [if_neg e]
      exact Nat.le_trans (h i k) (Nat.le_mul_of_pos_right _ (by omega))
theorem Le_Dfs : ∀ {ds : List Deed} {E : Nat} {F : Mat}, Le E F → Le (E * Wt ds) (Dfs ds F)
  | [], E, F, h => by show Le (E * 1) F; rw [Nat.mul_one]; exact h
  | d :: ds, E, F, h => by
    show Le (E * (d.wt * Wt ds)) (Dfs ds (Df d F))
    rw [← Nat.mul_assoc]
    exact Le_Dfs (Le_Df h)
theorem Le_of_bt {B : Nat} {M : List (List Int)} (h : ∀ l ∈ M, ∀ z ∈ l, Bt B z) : Le (2 ^ B) (mg2 M) := fun i k => by
  by_cases hi : i < M.length
  · by_cases hk : k < (M.getD i []).length
    · exact Nat.le_of_lt (h _ (mem_getD hi) _ (mem_vg hk))
    · unfold mg2; rw [vg_out (by omega)]; exact Nat.zero_le _
  · rw [mg2_out (by omega)]; exact Nat.zero_le _
theorem bt_of_Le {B E : Nat} {M : List (List Int)} (h : Le E (mg2 M)) (hB : E < 2 ^ B) : ∀ l ∈ M, ∀ z ∈ l, Bt B z := fun l hl z hz => by
  obtain ⟨i, hi, rfl⟩ := List.mem_iff_getElem.mp hl
  obtain ⟨k, hk, rfl⟩ := List.mem_iff_getElem.mp hz
  have := h i k
  unfold mg2 vg at this
  rw [List.getD_eq_getElem?_getD, List.getD_eq_getElem?_getD, List.getElem?_eq_getElem hi] at this
  simp only [Option.getD_some] at this
  rw [List.getElem?_eq_getElem hk] at this
  exact Nat.lt_of_le_of_lt this hB
/-! ### floor division -/
theorem fdiv_rest {a d : Int} (h : d ≠ 0) : (0 < d → 0 ≤ a - a.fdiv d * d ∧ a - a.fdiv d * d < d) ∧ (d < 0 → d < a - a.fdiv d * d ∧ a - a.fdiv d * d ≤ 0) := by
  constructor
  · intro hd
    rw [Int.fdiv_eq_ediv_of_nonneg a (Int.le_of_lt hd)]
    have h1 := Int.emod_nonneg a h
    have h2 := Int.emod_lt_of_pos a hd
    have h3 := Int.emod_def a d
    rw [Int.mul_comm] at h3
    omega
  · intro hd
    have e : a.fdiv d = (-a) / (-d) := by
      rw [← Int.fdiv_eq_ediv_of_nonneg (-a) (by omega : (0 : Int) ≤ -d), Int.neg_fdiv_neg]
    rw [e]
    have h1 := Int.emod_nonneg (-a) (by omega : -d ≠ 0)
    have h2 := Int.emod_lt_of_pos (-a) (by omega : 0 < -d)
    have h3 := Int.emod_def (-a) (-d)
    rw [Int.mul_comm, Int.mul_neg] at h3
    omega
theorem rest_lt {a d : Int} (h : d ≠ 0) : (a - a.fdiv d * d).natAbs < d.natAbs := by
  have := fdiv_rest (a := a) h
  omega
/-- the quotient's size: the rest is below the divisor -/
theorem fdiv_size {a d : Int} (h : d ≠ 0) : (a.fdiv d).natAbs ≤ a.natAbs / d.natAbs + 1 := by
  have h1 := rest_lt (a := a) h
  have h2 : (a.fdiv d * d).natAbs ≤ a.natAbs + (a - a.fdiv d * d).natAbs := by omega
  rw [Int.natAbs_mul] at h2
  have hp : 0 < d.natAbs := by omega
  have h3 := Nat.div_add_mod a.natAbs d.natAbs
  have h4 := Nat.mod_lt a.natAbs hp
  have h5 : (a.fdiv d).natAbs * d.natAbs < (a.natAbs / d.natAbs + 2) * d.natAbs := by
    rw [Nat.add_mul, Nat.mul_comm (a.natAbs / d.natAbs)]
    omega
  have := Nat.lt_of_mul_lt_mul_right h5
  omega
theorem fdiv_same {a d : Int} (h : d ≠ 0) (hs : (0 ≤ a ∧ 0 ≤ d) ∨ (a ≤ 0 ∧ d ≤ 0)) : (a.fdiv d).natAbs = a.natAbs / d.natAbs ∧ (a - a.fdiv d * d).natAbs = a.natAbs % d.natAbs := by
  have key : ∀ (x y : Nat), 0 < y → ((x : Int).fdiv (y : Int)) = ((x / y : Nat) : Int) := fun x y hy => by
    rw [Int.fdiv_eq_ediv_of_nonneg _ (Int.natCast_nonneg y)]; rfl
  have r : ∀ (x y : Nat), (x : Int) - ((x / y : Nat) : Int) * (y : Int) = ((x % y : Nat) : Int) := fun x y => by
    have := Nat.div_add_mod x y
    have h2 : ((y * (x / y) + x % y : Nat) : Int) = (x : Int) := by rw [this]
    rw [Int.natCast_add, Int.natCast_mul, Int.mul_comm] at h2
    omega
  rcases hs with ⟨h1, h2⟩ | ⟨h1, h2⟩
  · obtain ⟨x, rfl⟩ := Int.eq_ofNat_of_zero_le h1
    obtain ⟨y, rfl⟩ := Int.eq_ofNat_of_zero_le h2
    have hy : 0 < y := by omega
    rw [key x y hy, r x y, Int.natAbs_natCast, Int.natAbs_natCast, Int.natAbs_natCast, Int.natAbs_natCast]
    exact ⟨rfl, rfl⟩
  · obtain ⟨x, hx⟩ := Int.eq_ofNat_of_zero_le (by omega : 0 ≤ -a)
    obtain ⟨y, hy⟩ := Int.eq_ofNat_of_zero_le (by omega : 0 ≤ -d)
    have ha : a = -(x : Int) := by omega
    have hd : d = -(y : Int) := by omega
    subst ha hd
    have hy : 0 < y := by omega
    rw [Int.neg_fdiv_neg, key x y hy]
    have e := r x y
    rw [show -(x : Int) - ((x / y : Nat) : Int) * -(y : Int) = -((x : Int) - ((x / y : Nat) : Int) * (y : Int)) by rw [Int.mul_neg]; omega, e, Int.natAbs_neg, Int.natAbs_neg, Int.natAbs_neg, Int.natAbs_natCast, Int.natAbs_natCast, Int.natAbs_natCast, Int.natAbs_natCast]
    exact ⟨rfl, rfl⟩
/-! ### the potential of a column while it is cleared -/
/-- before the first pass -/
structure Pot0 (C t m : Nat) (c : Nat → Int) : Prop where
  le : ∀ j, t ≤ j → j < m → (c j).natAbs ≤ C
structure Pot1 (C t m : Nat) (c : Nat → Int) (G p j0 : Nat) : Prop where
  h1 : t ≤ j0
  h2 : j0 < m
  hp : (c j0).natAbs = p
  p1 : 1 ≤ p
  pC : p ≤ C
  lt : ∀ j, t ≤ j → j < m → j ≠ j0 → (c j).natAbs < p
  sg : (∀ j, t ≤ j → j < m → 0 ≤ c j) ∨ ∀ j, t ≤ j → j < m → c j ≤ 0
  pot : ∀ u, 1 ≤ u → (∀ j, t ≤ j → j < m → c j ≠ 0 → u ≤ (c j).natAbs) → G * (p * (p * u)) ≤ 3 * (C * (C * C))
def passC (b : Nat) (c : Nat → Int) : Nat → Int := fun j => if j = b then c b else c j - (c j).fdiv (c b) * c b
theorem passC_self (b : Nat) (c : Nat → Int) : passC b c b = c b := if_pos rfl
theorem passC_ne {b j : Nat} (c : Nat → Int) (h : j ≠ b) : passC b c j = c j - (c j).fdiv (c b) * c b := if_neg h
theorem passC_lt {b j : Nat} {c : Nat → Int} (hb : c b ≠ 0) (h : j ≠ b) : (passC b c j).natAbs < (c b).natAbs := by rw [passC_ne c h]; exact rest_lt hb
theorem passC_sg {t m b : Nat} {c : Nat → Int} (hb : c b ≠ 0) : (∀ j, t ≤ j → j < m → 0 ≤ passC b c j) ∨ ∀ j, t ≤ j → j < m → passC b c j ≤ 0 := by
  by_cases h : 0 < c b
  · refine .inl fun j _ _ => ?_
    by_cases e : j = b
    · rw [e, passC_self]; omega
    · rw [passC_ne c e]; exact ((fdiv_rest hb).1 h).1
  · refine .inr fun j _ _ => ?_
    by_cases e : j = b
    · rw [e, passC_self]; omega
    · rw [passC_ne c e]; exact ((fdiv_rest hb).2 (by omega)).2
theorem Pot0.pass {C t m b : Nat} {c : Nat → Int} (h : Pot0 C t m c) (tb : t ≤ b) (bm : b < m) (hb : c b ≠ 0) :
    ∃ q, 1 ≤ q ∧ (∀ j, t ≤ j → j < m → j ≠ b → ((c j).fdiv (c b)).natAbs ≤ q) ∧ Pot1 C t m (passC b c) (1 + q) (c b).natAbs b := by
  have hp : 1 ≤ (c b).natAbs := by omega
  have hC := h.le b tb bm
  refine ⟨C / (c b).natAbs + 1, Nat.le_add_left 1 _, fun j h1 h2 _ => ?_, ⟨tb, bm, by rw [passC_self], hp, hC, fun j _ _ hj => passC_lt hb hj, passC_sg hb, fun u hu hl => ?_⟩⟩
  · refine Nat.le_trans (fdiv_size hb) (Nat.add_le_add_right ?_ 1)
    exact Nat.div_le_div_right (h.le j h1 h2)
  · have hu2 : u ≤ (c b).natAbs := by
      have := hl b tb bm (by rw [passC_self]; exact hb)
      rwa [passC_self] at this
    generalize (c b).natAbs = p at *
    have h3 : (1 + (C / p + 1)) * p ≤ 3 * C := by
      have := Nat.div_mul_le_self C p
      rw [show 1 + (C / p + 1) = C / p + 2 by omega, Nat.add_mul]
      omega
    have h4 : (1 + (C / p + 1)) * (p * (p * u)) = ((1 + (C / p + 1)) * p) * (p * u) := by grind
    rw [h4]
    have h5 : p * u ≤ C * C := Nat.mul_le_mul hC (Nat.le_trans hu2 hC)
    have h6 := Nat.mul_le_mul h3 h5
    rw [Nat.mul_assoc 3] at h6
    exact h6
theorem Pot1.pass {C t m G p j0 b : Nat} {c : Nat → Int} (h : Pot1 C t m c G p j0) (tb : t ≤ b) (bm : b < m) (hb : c b ≠ 0) (hne : b ≠ j0) (hmin : ∀ j, t ≤ j → j < m → c j ≠ 0 → (c b).natAbs ≤ (c j).natAbs) :
    ∃ q, 1 ≤ q ∧ (∀ j, t ≤ j → j < m → j ≠ b → ((c j).fdiv (c b)).natAbs ≤ q) ∧ Pot1 C t m (passC b c) (G * (1 + q)) (c b).natAbs b := by
  have hp' : 1 ≤ (c b).natAbs := by omega
  have hlt : (c b).natAbs < p := h.lt b tb bm hne
  have hle : ∀ j, t ≤ j → j < m → (c j).natAbs ≤ p := fun j h1 h2 => by
    by_cases e : j = j0
    · rw [e, h.hp]; exact Nat.le_refl _
    · exact Nat.le_of_lt (h.lt j h1 h2 e)
  have hs : ∀ j, t ≤ j → j < m → (0 ≤ c j ∧ 0 ≤ c b) ∨ (c j ≤ 0 ∧ c b ≤ 0) := fun j h1 h2 => by
    rcases h.sg with q | q
    · exact .inl ⟨q j h1 h2, q b tb bm⟩
    · exact .inr ⟨q j h1 h2, q b tb bm⟩
  have hq1 : 1 ≤ p / (c b).natAbs := (Nat.one_le_div_iff (by omega)).mpr (Nat.le_of_lt hlt)
  refine ⟨p / (c b).natAbs, hq1, fun j h1 h2 _ => ?_, ⟨tb, bm, by rw [passC_self], hp', by have := h.pC; omega, fun j _ _ hj => passC_lt hb hj, passC_sg hb, fun u hu hl => ?_⟩⟩
  · rw [(fdiv_same hb (hs j h1 h2)).1]
    exact Nat.div_le_div_right (hle j h1 h2)
  · have hu2 : u ≤ (c b).natAbs := by
      have := hl b tb bm (by rw [passC_self]; exact hb)
      rwa [passC_self] at this
    have hold := h.pot (c b).natAbs hp' hmin
    have hj0 : (passC b c j0).natAbs = p % (c b).natAbs := by
      rw [passC_ne c (Ne.symm hne), (fdiv_same hb (hs j0 h.h1 h.h2)).2, h.hp]
    have h2u : 2 * u ≤ p := by
      have hdm := Nat.div_add_mod p (c b).natAbs
      have hml := Nat.mod_lt p (show 0 < (c b).natAbs by omega)
      by_cases hz : passC b c j0 = 0
      · have hz2 : p % (c b).natAbs = 0 := by rw [← hj0, hz]; rfl
        rw [hz2, Nat.add_zero] at hdm
        have hq2 : 2 ≤ p / (c b).natAbs := by
          rcases Nat.lt_or_ge (p / (c b).natAbs) 2 with z | z
          · have : p / (c b).natAbs = 1 := by omega
            rw [this, Nat.mul_one] at hdm
            omega
          · exact z
        have := Nat.mul_le_mul hu2 hq2
        omega
      · have := hl j0 h.h1 h.h2 hz
        rw [hj0] at this
        have h3 : (c b).natAbs * 1 ≤ (c b).natAbs * (p / (c b).natAbs) := Nat.mul_le_mul_left _ hq1
        omega
    generalize (c b).natAbs = p' at *
    have h3 : (1 + p / p') * p' ≤ 2 * p := by
      have := Nat.div_mul_le_self p p'
      rw [Nat.add_mul]
      omega
    calc G * (1 + p / p') * (p' * (p' * u)) = (G * ((1 + p / p') * p')) * (p' * u) := by grind
      _ ≤ (G * (2 * p)) * (p' * u) := Nat.mul_le_mul_right _ (Nat.mul_le_mul_left _ h3)
      _ = (G * (p * p')) * (2 * u) := by grind
      _ ≤ (G * (p * p')) * p := Nat.mul_le_mul_left _ h2u
      _ = G * (p * (p * p')) := by grind
      _ ≤ 3 * (C * (C * C)) := hold
theorem Pot1.bound {C t m G p j0 : Nat} {c : Nat → Int} (h : Pot1 C t m c G p j0) : G ≤ 3 * (C * (C * C)) := by
  have := h.pot 1 (Nat.le_refl _) fun j _ _ hj => by omega
  have hp := h.p1
  have h2 : 1 ≤ p * (p * 1) := by
    have := Nat.mul_le_mul hp hp
    rw [Nat.mul_one p]
    omega
  exact Nat.le_trans (Nat.le_mul_of_pos_right G h2) this
def swapC (a b : Nat) (c : Nat → Int) : Nat → Int := fun j => if j = b then c a else if j = a then c b else c j
def swapI (a b j : Nat) : Nat := if j = b then a else if j = a then b else j
theorem swapC_eq (a b : Nat) (c : Nat → Int) (j : Nat) : swapC a b c j = c (swapI a b j) := by
  unfold swapC swapI
  by_cases h : j = b
  · simp [h]
  · by_cases h2 : j = a
    · subst h2; simp only [if_neg h, if_pos]
    · simp only [if_neg h, if_neg h2]
theorem swapI_in {a b t m j : Nat} (ha : t ≤ a ∧ a < m) (hb : t ≤ b ∧ b < m) (hj : t ≤ j ∧ j < m) : t ≤ swapI a b j ∧ swapI a b j < m := by
  unfold swapI
  by_cases h : j = b
  · rw [if_pos h]; exact ha
  · rw [if_neg h]
    by_cases h2 : j = a
    · rw [if_pos h2]; exact hb
    · rw [if_neg h2]; exact hj
theorem swapI_swapI (a b j : Nat) : swapI a b (swapI a b j) = j := by
  unfold swapI
  by_cases h : j = b
  · by_cases h2 : a = b <;> simp [h, h2]
  · by_cases h2 : j = a
    · simp [h, h2]
    · simp [h, h2]
theorem Pot0.swap {C t m a b : Nat} {c : Nat → Int} (h : Pot0 C t m c) (ha : t ≤ a ∧ a < m) (hb : t ≤ b ∧ b < m) : Pot0 C t m (swapC a b c) := ⟨fun j h1 h2 => by
  rw [swapC_eq]
  have := swapI_in ha hb ⟨h1, h2⟩
  exact h.le _ this.1 this.2⟩
theorem Pot1.swap {C t m a b G p j0 : Nat} {c : Nat → Int} (h : Pot1 C t m c G p j0) (ha : t ≤ a ∧ a < m) (hb : t ≤ b ∧ b < m) : Pot1 C t m (swapC a b c) G p (swapI a b j0) := by
  have hj := swapI_in ha hb ⟨h.h1, h.h2⟩
  have inn : ∀ j, t ≤ j → j < m → t ≤ swapI a b j ∧ swapI a b j < m := fun j h1 h2 => swapI_in ha hb ⟨h1, h2⟩
  refine ⟨hj.1, hj.2, by rw [swapC_eq, swapI_swapI]; exact h.hp, h.p1, h.pC, fun j h1 h2 hne => ?_, ?_, fun u hu hl => h.pot u hu fun j h1 h2 hz => ?_⟩
  · rw [swapC_eq]
    have := inn j h1 h2
    exact h.lt _ this.1 this.2 fun z => hne (by rw [← z, swapI_swapI])
  · rcases h.sg with q | q
    · exact .inl fun j h1 h2 => by rw [swapC_eq]; exact q _ (inn j h1 h2).1 (inn j h1 h2).2
    · exact .inr fun j h1 h2 => by rw [swapC_eq]; exact q _ (inn j h1 h2).1 (inn j h1 h2).2
  · have := hl (swapI a b j) (inn j h1 h2).1 (inn j h1 h2).2
    rw [swapC_eq, swapI_swapI] at this
    exact this hz
end SF
end
section
set_option maxHeartbeats 4000000
namespace SF
/-! ### a pass: multiples of the row b taken off the rows of L -/
def passF (b col : Nat) (L : List Nat) (F : Mat) : Mat := fun j k => if j ∈ L then F j k - (F j col).fdiv (F b col) * F b k else F j k
theorem passF_nil (b col : Nat) (F : Mat) : passF b col [] F = F := by funext j k; unfold passF; simp
theorem passF_out {b col j : Nat} {L : List Nat} (F : Mat) (h : j ∉ L) (k : Nat) : passF b col L F j k = F j k := if_neg h
theorem passF_in {b col j : Nat} {L : List Nat} (F : Mat) (h : j ∈ L) (k : Nat) : passF b col L F j k = F j k - (F j col).fdiv (F b col) * F b k := if_pos h
theorem passF_snoc {b col i : Nat} {L : List Nat} {F : Mat} (hb : b ∉ L) (hi : i ∉ L) (hib : i ≠ b) :
    Df (.add i b (0 - (F i col).fdiv (F b col))) (passF b col L F) = passF b col (L ++ [i]) F := by
  funext j k
  show (if j = i then passF b col L F i k + (0 - (F i col).fdiv (F b col)) * passF b col L F b k else passF b col L F j k) = _
  by_cases h : j = i
  · subst h
    rw [if_pos rfl, passF_out F hi, passF_out F hb, passF_in F (by simp)]
    grind
  · rw [if_neg h]
    by_cases h2 : j ∈ L
    · rw [passF_in F h2, passF_in F (by simp [h2])]
    · rw [passF_out F h2, passF_out F (by simp [h2, h])]
theorem passF_skip {b col i : Nat} {L : List Nat} {F : Mat} (hi : i ∉ L) (h0 : (F i col).fdiv (F b col) = 0) : passF b col (L ++ [i]) F = passF b col L F := by
  funext j k
  by_cases h : j = i
  · subst h
    rw [passF_out F hi, passF_in F (by simp), h0]
    omega
  · by_cases h2 : j ∈ L
    · rw [passF_in F h2, passF_in F (by simp [h2])]
    · rw [passF_out F h2, passF_out F (by simp [h2, h])]
structure PassI (b col q : Nat) (F : Mat) (L : List Nat) (es : List Deed) : Prop where
  eq : Dfs es F = passF b col L F
  am : ∀ d ∈ es, ∃ j z, d = .add j b z ∧ j ∈ L
  wt : Wt es ≤ (1 + q) ^ L.length
  len : es.length ≤ L.length
theorem PassI.nil (b col q : Nat) (F : Mat) : PassI b col q F [] [] := ⟨(passF_nil b col F).symm, fun d h => by simp at h, by simp [Wt], Nat.le_refl _⟩
def stepD (i b : Nat) (z : Int) : List Deed := if z = 0 then [] else [.add i b (0 - z)]
theorem PassI.step {b col q i : Nat} {F : Mat} {L : List Nat} {es : List Deed} (p : PassI b col q F L es) (hb : b ∉ L) (hi : i ∉ L) (hib : i ≠ b) (hq : ((F i col).fdiv (F b col)).natAbs ≤ q) :
    PassI b col q F (L ++ [i]) (es ++ stepD i b ((F i col).fdiv (F b col))) := by
  unfold stepD
  by_cases h0 : (F i col).fdiv (F b col) = 0
  · rw [if_pos h0, List.append_nil]
    refine ⟨by rw [passF_skip hi h0]; exact p.eq, fun d hd => ?_, ?_, by rw [List.length_append]; exact Nat.le_add_right_of_le p.len⟩
    · obtain ⟨j, z, e, hj⟩ := p.am d hd
      exact ⟨j, z, e, by simp [hj]⟩
    · rw [List.length_append]
      exact Nat.le_trans p.wt (Nat.pow_le_pow_right (by omega) (by omega))
  · rw [if_neg h0]
    refine ⟨?_, fun d hd => ?_, ?_, ?_⟩
    · rw [Dfs_append, p.eq]
      exact passF_snoc hb hi hib
    · rcases List.mem_append.mp hd with hd | hd
      · obtain ⟨j, z, e, hj⟩ := p.am d hd
        exact ⟨j, z, e, by simp [hj]⟩
      · have := List.mem_singleton.mp hd
        exact ⟨i, _, this, by simp⟩
    · rw [Wt_append, List.length_append]
      show Wt es * ((1 + (0 - (F i col).fdiv (F b col)).natAbs) * 1) ≤ (1 + q) ^ (L.length + 1)
      rw [Nat.pow_succ, Nat.mul_one]
      refine Nat.mul_le_mul p.wt ?_
      rw [Int.zero_sub, Int.natAbs_neg]
      omega
    · rw [List.length_append, List.length_append]
      have := p.len
      simp
      omega
/-! ### deeds among the rows from t on -/
def Deed.ge (t : Nat) : Deed → Prop
  | .turn i => t ≤ i
  | .swap i j => t ≤ i ∧ t ≤ j
  | .add i j _ => t ≤ i ∧ t ≤ j
theorem Df_lt {t i k : Nat} {d : Deed} {F : Mat} (h : d.ge t) (hi : i < t) : Df d F i k = F i k := by
  cases d with
  | turn a => exact if_neg (by have : t ≤ a := h; omega)
  | swap a b =>
    have h : t ≤ a ∧ t ≤ b := h
    show (if i = b then F a k else if i = a then F b k else F i k) = F i k
    rw [if_neg (by omega), if_neg (by omega)]
  | add a b q => exact if_neg (by have : t ≤ a ∧ t ≤ b := h; omega)
theorem Dfs_lt {t i k : Nat} {ds : List Deed} {F : Mat} (h : ∀ d ∈ ds, d.ge t) (hi : i < t) : Dfs ds F i k = F i k := by
  induction ds generalizing F with
  | nil => rfl
  | cons d ds ih => show Dfs ds (Df d F) i k = F i k; rw [ih fun d' hd => h d' (by simp [hd]), Df_lt (h d (by simp)) hi]
theorem Df_zero {t m k : Nat} {d : Deed} {F : Mat} (h : d.ge t) (ok : d.ok m) (hz : ∀ i, t ≤ i → i < m → F i k = 0) : ∀ i, t ≤ i → i < m → Df d F i k = 0 := fun i h1 h2 => by
  cases d with
  | turn a =>
    show (if i = a then -(F a k) else F i k) = 0
    have ha : t ≤ a := h
    rw [hz a ha ok, hz i h1 h2]; simp
  | swap a b =>
    show (if i = b then F a k else if i = a then F b k else F i k) = 0
    have hh : t ≤ a ∧ t ≤ b := h
    have ok : a < m ∧ b < m ∧ a ≠ b := ok
    rw [hz a hh.1 ok.1, hz b hh.2 ok.2.1, hz i h1 h2]; simp
  | add a b q =>
    show (if i = a then F a k + q * F b k else F i k) = 0
    have hh : t ≤ a ∧ t ≤ b := h
    have ok : a < m ∧ b < m ∧ a ≠ b := ok
    rw [hz a hh.1 ok.1, hz b hh.2 ok.2.1, hz i h1 h2]; simp
theorem Dfs_zero {t m k : Nat} {ds : List Deed} {F : Mat} (h : ∀ d ∈ ds, d.ge t) (ok : ∀ d ∈ ds, d.ok m) (hz : ∀ i, t ≤ i → i < m → F i k = 0) : ∀ i, t ≤ i → i < m → Dfs ds F i k = 0 := by
  induction ds generalizing F with
  | nil => exact hz
  | cons d ds ih => exact ih (fun d' hd => h d' (by simp [hd])) (fun d' hd => ok d' (by simp [hd])) (Df_zero (h d (by simp)) (ok d (by simp)) hz)
/-! ### clearing below, told by deeds -/
def L3 (c : Nat) : Nat := 3 * ((2 ^ c) * ((2 ^ c) * (2 ^ c)))
theorem L3_lt (c : Nat) : L3 c < 2 ^ (3 * c + 2) := by
  unfold L3
  rw [← Nat.pow_add, ← Nat.pow_add, show c + (c + c) = 3 * c by omega, Nat.pow_add]
  have : 0 < 2 ^ (3 * c) := Nat.pow_pos (by decide)
  omega
structure BelI (c t col m : Nat) (F : Mat) (fst : Bool) (es : List Deed) (mu : Nat) : Prop where
  ok : ∀ d ∈ es, d.ok m
  ge : ∀ d ∈ es, d.ge t
  st : (fst = true ∧ es = [] ∧ Pot0 (2 ^ c) t m (fun j => F j col) ∧ mu = 2 ^ c + 1) ∨
    fst = false ∧ ∃ G n, Pot1 (2 ^ c) t m (fun j => Dfs es F j col) G mu t ∧ Wt es ≤ G ^ 2 ∧ es.length ≤ 3 * n ∧ 2 ^ n ≤ G
theorem BelI.start {c t col m : Nat} {F : Mat} (h : Le (2 ^ c) F) : BelI c t col m F true [] (2 ^ c + 1) := ⟨fun d h => by simp at h, fun d h => by simp at h, .inl ⟨rfl, rfl, ⟨fun j _ _ => h j col⟩, rfl⟩⟩
theorem BelI.wt {c t col m mu : Nat} {F : Mat} {fst : Bool} {es : List Deed} (b : BelI c t col m F fst es mu) : Wt es ≤ (L3 c) ^ 2 := by
  rcases b.st with ⟨_, e, _⟩ | ⟨_, G, n, h1, h2, _⟩
  · rw [e]
    show 1 ≤ _
    exact Nat.one_le_pow _ _ (by unfold L3; have : 0 < 2 ^ c := Nat.pow_pos (by decide); exact Nat.mul_pos (by decide) (Nat.mul_pos this (Nat.mul_pos this this)))
  · exact Nat.le_trans h2 (Nat.pow_le_pow_left h1.bound 2)
theorem BelI.len {c t col m mu : Nat} {F : Mat} {fst : Bool} {es : List Deed} (b : BelI c t col m F fst es mu) : es.length ≤ 3 * (3 * c + 2) := by
  rcases b.st with ⟨_, e, _⟩ | ⟨_, G, n, h1, _, h3, h4⟩
  · rw [e]; exact Nat.zero_le _
  · have h5 : 2 ^ n < 2 ^ (3 * c + 2) := Nat.lt_of_le_of_lt (Nat.le_trans h4 h1.bound) (L3_lt c)
    have h6 := (Nat.pow_lt_pow_iff_right (by decide : 1 < 2)).mp h5
    omega
/-- the rows that a pass over all rows below t speaks of -/
def below (t m : Nat) : List Nat := (List.range (m - (t + 1))).map fun i => t + 1 + i
theorem mem_below {t m j : Nat} : j ∈ below t m ↔ t < j ∧ j < m := by
  unfold below
  rw [List.mem_map]
  constructor
  · rintro ⟨i, hi, rfl⟩
    have := List.mem_range.mp hi
    omega
  · rintro ⟨h1, h2⟩
    exact ⟨j - (t + 1), List.mem_range.mpr (by omega), by omega⟩
theorem below_length (t m : Nat) : (below t m).length = m - (t + 1) := by unfold below; simp
def swD (t b : Nat) : List Deed := if b = t then [] else [.swap t b]
theorem swD_ok {t b m : Nat} (ht : t < m) (hb : b < m) : ∀ d ∈ swD t b, d.ok m := fun d hd => by
  unfold swD at hd
  by_cases e : b = t
  · rw [if_pos e] at hd; simp at hd
  · rw [if_neg e] at hd
    rw [List.mem_singleton.mp hd]
    exact ⟨ht, hb, fun z => e z.symm⟩
theorem swD_ge {t b : Nat} (hb : t ≤ b) : ∀ d ∈ swD t b, d.ge t := fun d hd => by
  unfold swD at hd
  by_cases e : b = t
  · rw [if_pos e] at hd; simp at hd
  · rw [if_neg e] at hd
    rw [List.mem_singleton.mp hd]
    exact ⟨Nat.le_refl _, hb⟩
theorem swD_wt (t b : Nat) : Wt (swD t b) = 1 := by
  unfold swD
  by_cases e : b = t
  · rw [if_pos e]; rfl
  · rw [if_neg e]; rfl
theorem swD_len (t b : Nat) : (swD t b).length ≤ 1 := by
  unfold swD
  by_cases e : b = t
  · rw [if_pos e]; simp
  · rw [if_neg e]; simp
theorem swD_col (t b col : Nat) (F : Mat) : (fun j => Dfs (swD t b) F j col) = swapC t b (fun j => F j col) := by
  funext j
  unfold swD
  by_cases e : b = t
  · rw [if_pos e]
    subst e
    show F j col = swapC b b (fun j => F j col) j
    unfold swapC
    by_cases h : j = b
    · simp [h]
    · simp [h]
  · rw [if_neg e]
    show (if j = b then F t col else if j = t then F b col else F j col) = swapC t b (fun j => F j col) j
    rfl
/-- one turn of the while: b is the place of the least; what the pass asks, and what holds behind it -/
theorem BelI.turn {c t col m mu b : Nat} {F : Mat} {fst : Bool} {es : List Deed} (B : BelI c t col m F fst es mu) (hm : m ≤ 3) (tb : t ≤ b) (bm : b < m) (hb : Dfs es F b col ≠ 0) (hmin : ∀ j, t ≤ j → j < m → Dfs es F j col ≠ 0 → (Dfs es F b col).natAbs ≤ (Dfs es F j col).natAbs)
    (hne : fst = false → b ≠ t) :
    ∃ q, (∀ j, t < j → j < m → ((Dfs (es ++ swD t b) F j col).fdiv (Dfs (es ++ swD t b) F t col)).natAbs ≤ q) ∧ Dfs (es ++ swD t b) F t col ≠ 0 ∧ (Dfs (es ++ swD t b) F t col).natAbs ≤ 2 ^ c ∧
      1 + q ≤ L3 c ∧ (∀ L es2, PassI t col q (Dfs (es ++ swD t b) F) L es2 → L.length ≤ 2 → Wt (es ++ swD t b ++ es2) ≤ (L3 c) ^ 2) ∧
      ∀ es2, PassI t col q (Dfs (es ++ swD t b) F) (below t m) es2 → ∃ mu', mu' < mu ∧ BelI c t col m F false (es ++ swD t b ++ es2) mu' := by
  have ht : t < m := by omega
  have ecol : ∀ j, Dfs (es ++ swD t b) F j col = swapC t b (fun j => Dfs es F j col) j := fun j => by
    rw [Dfs_append]
    exact congrFun (swD_col t b col (Dfs es F)) j
  have etc : swapC t b (fun j => Dfs es F j col) t = Dfs es F b col := by
    rw [swapC_eq]
    unfold swapI
    by_cases e : t = b
    · subst e; simp
    · simp [e]
  have et : Dfs (es ++ swD t b) F t col = Dfs es F b col := by rw [ecol, etc]
  have key : ∃ q G G0 n, 1 ≤ q ∧ G = G0 * (1 + q) ∧ Wt es ≤ G0 ^ 2 ∧ es.length ≤ 3 * n ∧ 2 ^ n ≤ G0 ∧ (∀ j, t ≤ j → j < m → j ≠ t → ((swapC t b (fun j => Dfs es F j col) j).fdiv (swapC t b (fun j => Dfs es F j col) t)).natAbs ≤ q) ∧
      Pot1 (2 ^ c) t m (passC t (swapC t b (fun j => Dfs es F j col))) G (Dfs es F b col).natAbs t ∧ (Dfs es F b col).natAbs < mu ∧ (Dfs es F b col).natAbs ≤ 2 ^ c := by
    rcases B.st with ⟨_, e, h0, hmu⟩ | ⟨hf, G0, n, h1, h2, h3, h4⟩
    · have h0' : Pot0 (2 ^ c) t m (fun j => Dfs es F j col) := by rw [e]; exact h0
      obtain ⟨q, hq1, hq, hp⟩ := (h0'.swap ⟨Nat.le_refl t, ht⟩ ⟨tb, bm⟩).pass (Nat.le_refl t) ht (by rw [etc]; exact hb)
      rw [etc] at hp
      have hle := h0'.le b tb bm
      refine ⟨q, 1 + q, 1, 0, hq1, by omega, by rw [e]; exact Nat.le_refl _, by rw [e]; exact Nat.le_refl _, Nat.le_refl _, hq, hp, ?_, hle⟩
      rw [hmu]
      exact Nat.lt_succ_of_le hle
    · have hbt : b ≠ t := hne hf
      have hs := h1.swap ⟨Nat.le_refl t, ht⟩ ⟨tb, bm⟩
      have hj : swapI t b t = b := by unfold swapI; simp [Ne.symm hbt]
      rw [hj] at hs
      obtain ⟨q, hq1, hq, hp⟩ := hs.pass (Nat.le_refl t) ht (by rw [etc]; exact hb) (Ne.symm hbt) (fun j j1 j2 jz => by
        rw [etc]
        rw [swapC_eq] at jz ⊢
        have := swapI_in (j := j) ⟨Nat.le_refl t, ht⟩ ⟨tb, bm⟩ ⟨j1, j2⟩
        exact hmin _ this.1 this.2 jz)
      rw [etc] at hp
      have hlt := h1.lt b tb bm hbt
      exact ⟨q, _, G0, n, hq1, rfl, h2, h3, h4, hq, hp, hlt, Nat.le_trans (Nat.le_of_lt hlt) h1.pC⟩
  obtain ⟨q, G, G0, n, hq1, hG, hw, hl, hn, hq, hp, hmu, hC⟩ := key
  have hG0 : 1 ≤ G0 := Nat.le_trans (Nat.one_le_pow n 2 (by decide)) hn
  have hGb : G ≤ L3 c := hp.bound
  have wtA : ∀ L es2, PassI t col q (Dfs (es ++ swD t b) F) L es2 → L.length ≤ 2 → Wt (es ++ swD t b ++ es2) ≤ G ^ 2 := fun L es2 p h2 => by
    rw [Wt_append, Wt_append, swD_wt, Nat.mul_one, hG, Nat.mul_pow]
    exact Nat.mul_le_mul hw (Nat.le_trans p.wt (Nat.pow_le_pow_right (by omega) h2))
  refine ⟨q, fun j j1 j2 => ?_, by rw [et]; exact hb, by rw [et]; exact hC, Nat.le_trans (by rw [hG]; exact Nat.le_mul_of_pos_left _ hG0) hGb, fun L es2 p h2 => Nat.le_trans (wtA L es2 p h2) (Nat.pow_le_pow_left hGb 2), fun es2 p => ⟨(Dfs es F b col).natAbs, hmu, ?_, ?_, .inr ⟨rfl, G, n + 1, ?_, wtA _ _ p (by rw [below_length]; omega), ?_, ?_⟩⟩⟩
  · rw [ecol, ecol]
    exact hq j (by omega) j2 (by omega)
  · intro d hd
    rcases List.mem_append.mp hd with hd | hd
    · rcases List.mem_append.mp hd with hd | hd
      · exact B.ok d hd
      · exact swD_ok ht bm d hd
    · obtain ⟨j, z, rfl, hj⟩ := p.am d hd
      have := mem_below.mp hj
      exact ⟨this.2, ht, by omega⟩
  · intro d hd
    rcases List.mem_append.mp hd with hd | hd
    · rcases List.mem_append.mp hd with hd | hd
      · exact B.ge d hd
      · exact swD_ge tb d hd
    · obtain ⟨j, z, rfl, hj⟩ := p.am d hd
      have := mem_below.mp hj
      exact ⟨by omega, Nat.le_refl _⟩
  · have e2 : ∀ j, t ≤ j → j < m → Dfs (es ++ swD t b ++ es2) F j col = passC t (swapC t b (fun j => Dfs es F j col)) j := fun j j1 j2 => by
      rw [Dfs_append, p.eq]
      by_cases e : j = t
      · subst e
        rw [passF_out _ (fun z => by have := mem_below.mp z; omega), passC_self, ecol]
      · rw [passF_in _ (mem_below.mpr ⟨by omega, j2⟩), passC_ne _ e, ecol, ecol]
    refine ⟨hp.h1, hp.h2, by rw [e2 t (Nat.le_refl t) ht]; exact hp.hp, hp.p1, hp.pC, fun j j1 j2 j3 => by rw [e2 j j1 j2]; exact hp.lt j j1 j2 j3, ?_, fun u hu hl => hp.pot u hu fun j j1 j2 jz => ?_⟩
    · rcases hp.sg with z | z
      · exact .inl fun j j1 j2 => by rw [e2 j j1 j2]; exact z j j1 j2
      · exact .inr fun j j1 j2 => by rw [e2 j j1 j2]; exact z j j1 j2
    · have := hl j j1 j2
      rw [e2 j j1 j2] at this
      exact this jz
  · rw [List.length_append, List.length_append]
    have h1 := swD_len t b
    have h2 := p.len
    rw [below_length] at h2
    omega
  · rw [hG, Nat.pow_succ]
    exact Nat.mul_le_mul hn (by omega)
/-- the loop is left: nothing but the pivot stands in the column from t on -/
structure BelR (c t col m : Nat) (F : Mat) (es : List Deed) : Prop where
  ok : ∀ d ∈ es, d.ok m
  ge : ∀ d ∈ es, d.ge t
  piv : Dfs es F t col ≠ 0
  size : (Dfs es F t col).natAbs ≤ 2 ^ c
  zero : ∀ j, t < j → j < m → Dfs es F j col = 0
  wt : Wt es ≤ (L3 c) ^ 2
  len : es.length ≤ 3 * (3 * c + 2)
theorem BelI.stop {c t col m mu : Nat} {F : Mat} {es : List Deed} (B : BelI c t col m F false es mu) (hz : ∀ j, t < j → j < m → Dfs es F j col = 0) : BelR c t col m F es := by
  rcases B.st with ⟨h, _⟩ | ⟨_, G, n, h1, _⟩
  · cases h
  · refine ⟨B.ok, B.ge, fun z => ?_, ?_, hz, B.wt, B.len⟩
    · have := h1.p1
      rw [← h1.hp] at this
      have this2 : 1 ≤ (Dfs es F t col).natAbs := this
      rw [z] at this2
      exact absurd this2 (by decide)
    · have := h1.pC
      rw [← h1.hp] at this
      exact this
end SF
end
section
set_option maxHeartbeats 4000000
namespace SF
/-! ### the form grows by a column -/
structure HermI (t col m : Nat) (F : Mat) (lead : Nat → Nat) : Prop where
  tm : t ≤ m
  lead_ : ∀ i, i < t → lead i < col ∧ 0 < F i (lead i) ∧ ∀ k, k < lead i → F i k = 0
  up : ∀ i j, i < j → j < t → lead i < lead j
  zero : ∀ i, t ≤ i → i < m → ∀ k, k < col → F i k = 0
  red : ∀ i j, i < j → j < t → 0 ≤ F i (lead j) ∧ F i (lead j) < F j (lead j)
theorem HermI.start (m : Nat) (F : Mat) (lead : Nat → Nat) : HermI 0 0 m F lead := ⟨Nat.zero_le _, fun i h => by omega, fun i j _ h => by omega, fun i _ _ k h => by omega, fun i j _ h => by omega⟩
theorem HermI.skip {t col m : Nat} {F : Mat} {lead : Nat → Nat} (h : HermI t col m F lead) (hz : ∀ i, t ≤ i → i < m → F i col = 0) : HermI t (col + 1) m F lead :=
  ⟨h.tm, fun i hi => ⟨by have := (h.lead_ i hi).1; omega, (h.lead_ i hi).2⟩, h.up, fun i h1 h2 k hk => by
    by_cases e : k = col
    · rw [e]; exact hz i h1 h2
    · exact h.zero i h1 h2 k (by omega), h.red⟩
theorem HermI.ech {t n m : Nat} {F : Mat} {lead : Nat → Nat} (h : HermI t n m F lead) : Ech m n F t lead :=
  ⟨h.tm, fun i hi => ⟨(h.lead_ i hi).1, by have := (h.lead_ i hi).2.1; omega, (h.lead_ i hi).2.2⟩, h.up, h.zero⟩
def tuD (t col : Nat) (F : Mat) : List Deed := if F t col < 0 then [.turn t] else []
theorem tuD_ne {t col j k : Nat} {F : Mat} (h : j ≠ t) : Dfs (tuD t col F) F j k = F j k := by
  unfold tuD
  by_cases e : F t col < 0
  · rw [if_pos e]; exact if_neg h
  · rw [if_neg e]; rfl
theorem tuD_zero {t col j k : Nat} {F : Mat} (h : F j k = 0) : Dfs (tuD t col F) F j k = 0 := by
  by_cases e : j = t
  · unfold tuD
    by_cases e2 : F t col < 0
    · rw [if_pos e2]
      show (if j = t then -(F t k) else F j k) = 0
      rw [if_pos e, ← e, h]; rfl
    · rw [if_neg e2]; exact h
  · rw [tuD_ne e]; exact h
theorem tuD_col {t col : Nat} {F : Mat} : Dfs (tuD t col F) F t col = ((F t col).natAbs : Int) := by
  unfold tuD
  by_cases e : F t col < 0
  · rw [if_pos e]
    show (if t = t then -(F t col) else F t col) = _
    rw [if_pos rfl]; omega
  · rw [if_neg e]
    show F t col = _
    omega
theorem tuD_wt (t col : Nat) (F : Mat) : Wt (tuD t col F) = 1 := by
  unfold tuD
  by_cases e : F t col < 0
  · rw [if_pos e]; rfl
  · rw [if_neg e]; rfl
theorem tuD_len (t col : Nat) (F : Mat) : (tuD t col F).length ≤ 1 := by
  unfold tuD
  by_cases e : F t col < 0
  · rw [if_pos e]; simp
  · rw [if_neg e]; simp
theorem tuD_ok {t col m : Nat} {F : Mat} (h : t < m) : ∀ d ∈ tuD t col F, d.ok m := fun d hd => by
  unfold tuD at hd
  by_cases e : F t col < 0
  · rw [if_pos e] at hd
    rw [List.mem_singleton.mp hd]
    exact h
  · rw [if_neg e] at hd; simp at hd
/-- the form behind the clearing above -/
def upF (t col : Nat) (F : Mat) : Mat := passF t col (List.range t) (Dfs (tuD t col F) F)
theorem upF_lt {t col j : Nat} (F : Mat) (h : j < t) (k : Nat) : upF t col F j k = F j k - (F j col).fdiv (Dfs (tuD t col F) F t col) * Dfs (tuD t col F) F t k := by
  unfold upF
  rw [passF_in _ (List.mem_range.mpr h), tuD_ne (by omega), tuD_ne (by omega)]
theorem upF_ge {t col j : Nat} (F : Mat) (h : t ≤ j) (k : Nat) : upF t col F j k = Dfs (tuD t col F) F j k := passF_out _ (fun z => by have := List.mem_range.mp z; omega) k
/-- F0 the form, F what stands when the column is cleared below -/
theorem HermI.step {t col m : Nat} {F0 F : Mat} {lead : Nat → Nat} (h : HermI t col m F0 lead) (ht : t < m) (hlt : ∀ i, i < t → ∀ k, F i k = F0 i k) (hz : ∀ i, t ≤ i → i < m → ∀ k, k < col → F i k = 0) (hp : F t col ≠ 0) (hb : ∀ j, t < j → j < m → F j col = 0) :
    HermI (t + 1) (col + 1) m (upF t col F) (fun i => if i = t then col else lead i) ∧ (∀ i, i < t → upF t col F i (lead i) = F0 i (lead i)) ∧ upF t col F t col = ((F t col).natAbs : Int) := by
  have e0 : ∀ i, i < t → ∀ k, k < col → upF t col F i k = F0 i k := fun i hi k hk => by
    rw [upF_lt F hi, tuD_zero (hz t (Nat.le_refl t) ht k hk), Int.mul_zero, hlt i hi]
    omega
  have e1 : upF t col F t col = ((F t col).natAbs : Int) := by rw [upF_ge F (Nat.le_refl t), tuD_col]
  have e2 : ∀ k, k < col → upF t col F t k = 0 := fun k hk => by rw [upF_ge F (Nat.le_refl t)]; exact tuD_zero (hz t (Nat.le_refl t) ht k hk)
  refine ⟨⟨ht, fun i hi => ?_, fun i j hij hj => ?_, fun i h1 h2 k hk => ?_, fun i j hij hj => ?_⟩, fun i hi => e0 i hi _ (h.lead_ i hi).1, e1⟩
  · by_cases e : i = t
    · subst e
      simp only [if_pos]
      exact ⟨by omega, by rw [e1]; omega, e2⟩
    · simp only [if_neg e]
      have hi' : i < t := by omega
      obtain ⟨l1, l2, l3⟩ := h.lead_ i hi'
      exact ⟨by omega, by rw [e0 i hi' _ l1]; exact l2, fun k hk => by rw [e0 i hi' k (by omega)]; exact l3 k hk⟩
  · by_cases e : j = t
    · subst e
      simp only [if_pos, if_neg (show i ≠ j by omega)]
      exact (h.lead_ i hij).1
    · simp only [if_neg e, if_neg (show i ≠ t by omega)]
      exact h.up i j hij (by omega)
  · rw [upF_ge F (by omega)]
    by_cases e : k = col
    · rw [e, tuD_ne (by omega)]
      exact hb i (by omega) h2
    · exact tuD_zero (hz i (by omega) h2 k (by omega))
  · by_cases e : j = t
    · subst e
      simp only [if_pos]
      have hi : i < j := hij
      rw [e1, upF_lt F hi]
      have hd : Dfs (tuD j col F) F j col = ((F j col).natAbs : Int) := tuD_col
      have hpos : 0 < Dfs (tuD j col F) F j col := by rw [hd]; omega
      have := (fdiv_rest (a := F i col) (show Dfs (tuD j col F) F j col ≠ 0 by omega)).1 hpos
      rw [← hd]
      exact this
    · simp only [if_neg e]
      have hj' : j < t := by omega
      have l := (h.lead_ j hj').1
      rw [e0 i (by omega) _ l, e0 j hj' _ l]
      exact h.red i j hij hj'
/-! ### the told form -/
def bb : Nat → Nat
  | 0 => 0
  | t + 1 => 21 * bb t + 156
theorem bb_le {t : Nat} (h : t ≤ 2) : bb t ≤ 3432 := by
  match t, h with
  | 0, _ => decide
  | 1, _ => decide
  | 2, _ => decide
theorem bb3 {t : Nat} (h : t ≤ 3) : bb t ≤ 72228 := by
  match t, h with
  | 0, _ => decide
  | 1, _ => decide
  | 2, _ => decide
  | 3, _ => decide
structure TI (m : Nat) (F : Mat) (t col : Nat) (ds : List Deed) (lead : Nat → Nat) : Prop where
  ok : ∀ d ∈ ds, d.ok m
  herm : HermI t col m (Dfs ds F) lead
  piv : ∀ i, i < t → (Dfs ds F i (lead i)).natAbs ≤ 2 ^ 8000
  wt : Wt ds ≤ 2 ^ bb t
  len : ds.length ≤ 40000 * t
theorem TI.start (m : Nat) (F : Mat) : TI m F 0 0 [] (fun _ => 0) := ⟨fun d h => by simp at h, HermI.start m _ _, fun i h => by omega, Nat.le_refl _, Nat.zero_le _⟩
theorem TI.le {m t col : Nat} {F : Mat} {ds : List Deed} {lead : Nat → Nat} (h : TI m F t col ds lead) (hF : Le (2 ^ 7) F) : Le (2 ^ (7 + bb t)) (Dfs ds F) := by
  rw [Nat.pow_add]
  exact (Le_Dfs hF).mono (Nat.mul_le_mul_left _ h.wt)
theorem TI.skip {m t col : Nat} {F : Mat} {ds : List Deed} {lead : Nat → Nat} (h : TI m F t col ds lead) (hz : ∀ i, t ≤ i → i < m → Dfs ds F i col = 0) : TI m F t (col + 1) ds lead := ⟨h.ok, h.herm.skip hz, h.piv, h.wt, h.len⟩
theorem pow2_add2 {e : Nat} (h : 1 ≤ e) : 2 ^ e + 2 ≤ 2 ^ (e + 1) := by
  rw [Nat.pow_succ]
  have : 2 ^ 1 ≤ 2 ^ e := Nat.pow_le_pow_right (by decide) h
  omega
/-- what stands when the column is cleared below is below 2 ^ (7 c + 4) -/
theorem BelR.le {c t col m : Nat} {F : Mat} {es : List Deed} (h : Le (2 ^ c) F) (hw : Wt es ≤ (L3 c) ^ 2) : Le (2 ^ (7 * c + 4)) (Dfs es F) := by
  have h1 : (L3 c) ^ 2 ≤ 2 ^ (6 * c + 4) := by
    have := Nat.pow_le_pow_left (Nat.le_of_lt (L3_lt c)) 2
    rw [← Nat.pow_mul] at this
    rwa [show (3 * c + 2) * 2 = 6 * c + 4 by omega] at this
  refine (Le_Dfs h).mono ?_
  have := Nat.mul_le_mul_left (2 ^ c) (Nat.le_trans hw h1)
  rwa [← Nat.pow_add, show c + (6 * c + 4) = 7 * c + 4 by omega] at this
theorem TI.step {m t col : Nat} {F : Mat} {ds es es2 : List Deed} {lead : Nat → Nat} (h : TI m F t col ds lead) (hF : Le (2 ^ 7) F) (hm : m ≤ 3) (ht : t < m) (b : BelR (7 + bb t) t col m (Dfs ds F) es)
    (p : PassI t col (2 ^ (7 * (7 + bb t) + 4) + 1) (Dfs (tuD t col (Dfs (ds ++ es) F)) (Dfs (ds ++ es) F)) (List.range t) es2) :
    TI m F (t + 1) (col + 1) (ds ++ es ++ (tuD t col (Dfs (ds ++ es) F) ++ es2)) (fun i => if i = t then col else lead i) := by
  have eF : Dfs (ds ++ es ++ (tuD t col (Dfs (ds ++ es) F) ++ es2)) F = upF t col (Dfs es (Dfs ds F)) := by
    rw [Dfs_append (ds ++ es), Dfs_append (tuD t col (Dfs (ds ++ es) F)), p.eq, Dfs_append ds]
    rfl
  obtain ⟨h1, h2, h3⟩ := h.herm.step (F := Dfs es (Dfs ds F)) ht (fun i hi k => Dfs_lt b.ge hi) (fun i i1 i2 k hk => Dfs_zero b.ge b.ok (fun i' j1 j2 => h.herm.zero i' j1 j2 k hk) i i1 i2) b.piv b.zero
  have hc : 7 + bb t ≤ 3439 := by have := bb_le (show t ≤ 2 by omega); omega
  refine ⟨fun d hd => ?_, by rw [eF]; exact h1, fun i hi => ?_, ?_, ?_⟩
  · rcases List.mem_append.mp hd with hd | hd
    · rcases List.mem_append.mp hd with hd | hd
      · exact h.ok d hd
      · exact b.ok d hd
    · rcases List.mem_append.mp hd with hd | hd
      · exact tuD_ok ht d hd
      · obtain ⟨j, z, rfl, hj⟩ := p.am d hd
        have := List.mem_range.mp hj
        exact ⟨by omega, ht, by omega⟩
  · rw [eF]
    by_cases e : i = t
    · subst e
      simp only [if_pos]
      rw [h3, Int.natAbs_natCast]
      exact Nat.le_trans b.size (Nat.pow_le_pow_right (by decide) (by omega))
    · simp only [if_neg e]
      rw [h2 i (by omega)]
      exact h.piv i (by omega)
  · rw [Wt_append, Wt_append, Wt_append, tuD_wt, Nat.one_mul]
    have w1 : Wt es ≤ 2 ^ (6 * (7 + bb t) + 4) := by
      refine Nat.le_trans b.wt ?_
      have := Nat.pow_le_pow_left (Nat.le_of_lt (L3_lt (7 + bb t))) 2
      rw [← Nat.pow_mul] at this
      rwa [show (3 * (7 + bb t) + 2) * 2 = 6 * (7 + bb t) + 4 by omega] at this
    have w2 : Wt es2 ≤ 2 ^ (2 * (7 * (7 + bb t) + 5)) := by
      refine Nat.le_trans p.wt ?_
      rw [List.length_range]
      have q1 : 1 + (2 ^ (7 * (7 + bb t) + 4) + 1) ≤ 2 ^ (7 * (7 + bb t) + 5) := by
        have := pow2_add2 (e := 7 * (7 + bb t) + 4) (by omega)
        rw [show 7 * (7 + bb t) + 5 = 7 * (7 + bb t) + 4 + 1 from rfl, Nat.add_comm 1, Nat.add_assoc]
        exact this
      refine Nat.le_trans (Nat.pow_le_pow_right (Nat.lt_of_lt_of_le (by decide) (Nat.le_add_right 1 _)) (show t ≤ 2 by omega)) ?_
      refine Nat.le_trans (Nat.pow_le_pow_left q1 2) ?_
      rw [← Nat.pow_mul, Nat.mul_comm 2]
      exact Nat.le_refl _
    refine Nat.le_trans (Nat.mul_le_mul (Nat.mul_le_mul h.wt w1) w2) ?_
    rw [← Nat.pow_add, ← Nat.pow_add]
    refine Nat.pow_le_pow_right (by decide) ?_
    show bb t + (6 * (7 + bb t) + 4) + 2 * (7 * (7 + bb t) + 5) ≤ 21 * bb t + 156
    omega
  · simp only [List.length_append]
    have l1 := h.len
    have l2 := b.len
    have l3 := tuD_len t col (Dfs (ds ++ es) F)
    have l4 := p.len
    rw [List.length_range] at l4
    omega
theorem DoneOk.num' {ds : List Deed} {b : Nat} (h : Wt ds ≤ 2 ^ b) {i j : Nat} {q : Int} (hd : Deed.add i j q ∈ ds) : Bt b q := by
  have := Nat.le_trans (Wt_mem hd) h
  unfold Bt
  have : 1 + q.natAbs ≤ 2 ^ b := this
  omega
theorem Le_pass {E q b col : Nat} {L : List Nat} {F : Mat} (h : Le E F) (hq : ∀ j, j ∈ L → ((F j col).fdiv (F b col)).natAbs ≤ q) : Le (E * (1 + q)) (passF b col L F) := fun j k => by
  by_cases hj : j ∈ L
  · rw [passF_in F hj]
    have h1 := natAbs_add_mul (q := -((F j col).fdiv (F b col))) (h j k) (h b k)
    rw [Int.natAbs_neg] at h1
    rw [show F j k - (F j col).fdiv (F b col) * F b k = F j k + -((F j col).fdiv (F b col)) * F b k by rw [Int.neg_mul]; omega]
    exact Nat.le_trans h1 (Nat.mul_le_mul_left _ (Nat.add_le_add_left (hq j hj) 1))
  · rw [passF_out F hj]
    exact Nat.le_trans (h j k) (Nat.le_mul_of_pos_right _ (by omega))
theorem Le_tuD {E t col : Nat} {F : Mat} (h : Le E F) : Le E (Dfs (tuD t col F) F) := by
  have := Le_Dfs (ds := tuD t col F) h
  rwa [tuD_wt, Nat.mul_one] at this
theorem range_succ' (i : Nat) : List.range i ++ [i] = List.range (i + 1) := List.range_succ.symm
theorem fdiv_le2 {x d : Int} {e : Nat} (hx : x.natAbs ≤ 2 ^ e) (hd : d ≠ 0) : (x.fdiv d).natAbs ≤ 2 ^ e + 1 :=
  Nat.le_trans (fdiv_size hd) (Nat.add_le_add_right (Nat.le_trans (Nat.div_le_self _ _) hx) 1)
theorem bt_of_le2 {q : Int} {e : Nat} (h : q.natAbs ≤ 2 ^ e + 1) : Bt (e + 2) q := by
  unfold Bt
  have : 2 ^ (e + 2) = 4 * 2 ^ e := by rw [Nat.pow_succ, Nat.pow_succ]; omega
  have h2 : 0 < 2 ^ e := Nat.pow_pos (by decide)
  omega
theorem pow_sq2 (e : Nat) : 2 ^ e * (1 + (2 ^ e + 1)) < 2 ^ (2 * e + 2) := by
  have h1 : 2 ^ (2 * e + 2) = 2 ^ e * (2 ^ e * 4) := by rw [show 2 * e + 2 = e + (e + 2) by omega, Nat.pow_add, Nat.pow_add]
  rw [h1]
  have h2 : 0 < 2 ^ e := Nat.pow_pos (by decide)
  exact (Nat.mul_lt_mul_left h2).mpr (by omega)
end SF
end
section
set_option maxHeartbeats 4000000
namespace L2
open PySem PySem.Spec PyProof.Rows HT
/-- // by any divisor but 0, below 2 ^ 9000 in size -/
def CDivZ (_ j : Int) : Prop := j ≠ 0 ∧ j.natAbs.log2 < 9000
section
variable {X : Cx}
theorem op_fdivZ : OpR X (binaryOp .FloorDiv) (rI CDivZ fun i j => .int (i.fdiv j)) := opI fun _ _ _ _ _ _ _ hc q => floordiv_int hc.1 q (.inl (PyProof.noPylong_of_log2 hc.2))
end
/-- tuple * 1: itself; tuple * 0: a new empty one -/
theorem tuple_mulW1 (l : Addr) (items : Array Value) (n : Nat) (dd : Option Addr) (sl : Array (Option Value)) (u : Tok) :
    Meets (Builtin.«tuple.__mul__» ⟨[.ref l, .int 1 u], []⟩) (fun _ R s => s.heap.get? l = some { cls := .type "tuple", dict := dd, data := .seq items n, slots := sl } ∧
      R (.ok (.ret (Value.ref l))) s) :=
  .of_wp fun prog w A R s h => by
    obtain ⟨hp, g, d, tk, os⟩ := s
    obtain ⟨hl, h⟩ := h
    have f1 := AutoSeq1.idx_int
    have c0 : (decide ((1:Int) < -(2 ^ 63)) || decide ((1:Int) ≥ 2 ^ 63)) = false := by decide
    have c1 : (items.isEmpty || (1:Int) == 1) = true := by rw [Bool.or_eq_true]; exact .inr rfl
    wp_walk using wpAny_loadPart' hl
    repeat (first
      | (refine wpAny_ite_false (decide_eq_false (by rw [c0]; exact Bool.false_ne_true)) ?_; wp_walk using wpAny_loadPart' hl)
      | (refine wpAny_ite_true (decide_eq_true (by rw [c1])) ?_; wp_walk using wpAny_loadPart' hl))
    exact ⟨_, rfl, h⟩
theorem tuple_mulW0 (l : Addr) (items : Array Value) (n : Nat) (dd : Option Addr) (sl : Array (Option Value)) (u : Tok) (hn : items.isEmpty = false) :
    Meets (Builtin.«tuple.__mul__» ⟨[.ref l, .int 0 u], []⟩) (fun _ R s => s.heap.get? l = some { cls := .type "tuple", dict := dd, data := .seq items n, slots := sl } ∧
      R (.ok (.ret (Value.ref s.heap.objs.size))) { s with heap := s.heap.push { cls := Value.type "tuple", data := Data.seq #[] }, toks := s.toks }) :=
  .of_wp fun prog w A R s h => by
    obtain ⟨hp, g, d, tk, os⟩ := s
    obtain ⟨hl, h⟩ := h
    have f1 := AutoSeq1.idx_int
    have c0 : (decide ((0:Int) < -(2 ^ 63)) || decide ((0:Int) ≥ 2 ^ 63)) = false := by decide
    have c1 : (items.isEmpty || (0:Int) == 1) = false := by rw [hn]; rfl
    have c2 : (decide ((0:Int) ≤ 0) || items.isEmpty) = true := by rw [Bool.or_eq_true]; exact .inl (by decide)
    have hsz : (#[] : Array Value).size ≤ sizeLine := Nat.zero_le _
    wp_walk using wpAny_loadPart' hl
    repeat (first
      | (refine wpAny_ite_false (decide_eq_false (by rw [c0]; exact Bool.false_ne_true)) ?_; wp_walk using wpAny_loadPart' hl)
      | (refine wpAny_ite_false (decide_eq_false (by rw [c1]; exact Bool.false_ne_true)) ?_; wp_walk using wpAny_loadPart' hl)
      | (refine wpAny_ite_true (decide_eq_true (by rw [c2])) ?_; wp_walk using wpAny_loadPart' hl)
      | (refine wpAny_ite_false (decide_eq_false (Nat.not_lt.mpr hsz)) ?_; wp_walk using wpAny_loadPart' hl))
    exact ⟨_, rfl, h⟩
/-- (v,) * k for a small k from 0 on -/
def rRepA (K : PySem.W.Frag) : R2 := fun x y H Q => ∃ (l : Addr) (v : V) (k : Nat), x = .ref l ∧ y = .int (k : Int) ∧ SqT K H l [v] ∧ k ≤ 1000 ∧ (k = 1 → Q (.ref l) H) ∧ (k ≠ 1 → ∀ p, H p = none → Q (.ref p) (upd H p (.tup (List.replicate k v))))
section
variable {X : Cx}
theorem op_repA : OpR X (binaryOp .Mult) (rRepA X.K) := by
  intro pins s σ H x y v u Q I rx ry h
  obtain ⟨l, z, k, rfl, rfl, hT, hk, q1, q2⟩ := h
  match k, hk, q1, q2, ry with
  | 0, hk, q1, q2, ry =>
    cases rx
    obtain ⟨t, rfl⟩ := ry
    obtain ⟨its, r, ⟨⟨cls, dd, data, sl⟩, ho, hc, n, hd⟩, hs⟩ := I.tuple hT
    simp only at hc hd
    subst hc hd
    have hi : its.toArray.isEmpty = false := by
      cases r with
      | cons a b => rfl
    refine wpAny_binaryOp_repeat_ref (T := "tuple") (U := "int") (by decide) ⟨_, ho, rfl⟩ (fun s' => typeIs_int s' _ t) noFill_tuple_mul F.fills_int_mul F.slot_int_rmul repeat_tuple F.slot_int_index.lookup
      (call_meets F.slot_int_rmul (typeIs_int s _ t) F.entry_int_rmul (F.args_int_rmul_2 _ _) (int_rmul_tuple _ t l its.toArray n dd sl)
        ⟨ho, rfl, ⟨_, ho, rfl⟩, call_meets F.slot_tuple_mul ⟨_, ho, rfl⟩ F.entry_tuple_mul (F.args_tuple_mul_2 _ _) (tuple_mulW0 l its.toArray n dd sl t hi) ⟨ho, ?_⟩⟩)
    refine ⟨.ref s.heap.objs.size, _, I.laid (t' := s.toks) (o := .tup []) (fun b ob q => Heap.get?_push_of_some _ q) (Nat.le_refl _) ?_, rfl, q2 (by decide) _ (I.hok.fresh (Nat.le_refl _))⟩
    exact ⟨Nat.zero_le _, [], .nil, IsTup.new _ _⟩
  | 1, hk, q1, q2, ry =>
    cases rx
    obtain ⟨t, rfl⟩ := ry
    obtain ⟨its, r, ⟨⟨cls, dd, data, sl⟩, ho, hc, n, hd⟩, hs⟩ := I.tuple hT
    simp only at hc hd
    subst hc hd
    refine wpAny_binaryOp_repeat_ref (T := "tuple") (U := "int") (by decide) ⟨_, ho, rfl⟩ (fun s' => typeIs_int s' _ t) noFill_tuple_mul F.fills_int_mul F.slot_int_rmul repeat_tuple F.slot_int_index.lookup
      (call_meets F.slot_int_rmul (typeIs_int s _ t) F.entry_int_rmul (F.args_int_rmul_2 _ _) (int_rmul_tuple _ t l its.toArray n dd sl)
        ⟨ho, rfl, ⟨_, ho, rfl⟩, call_meets F.slot_tuple_mul ⟨_, ho, rfl⟩ F.entry_tuple_mul (F.args_tuple_mul_2 _ _) (tuple_mulW1 l its.toArray n dd sl t) ⟨ho, ?_⟩⟩)
    exact ⟨.ref l, H, I, rfl, q1 rfl⟩
  | k + 2, hk, q1, q2, ry =>
    have e : (List.replicate ((k + 2 : Nat) : Int).toNat [z]).flatten = List.replicate (k + 2) z := by
      rw [Int.toNat_natCast]
      clear q1 q2 ry hk
      induction k + 2 with
      | zero => rfl
      | succ m ih => rw [List.replicate_succ, List.flatten_cons, ih]; rfl
    refine op_repT pins s σ H _ _ v u Q I rx ry ⟨l, _, [z], rfl, rfl, hT, by simp, by omega, by omega, by simp, fun p hp => ?_⟩
    rw [e]
    exact q2 (by omega) p hp
/-! ### t[::-1], t a tuple -/
theorem sliceApplied_rev {prog : Program} {w : World} {A : Around} {E : Value → Shared → Prop} {s : Shared} {sl : Addr} {n : Nat} {vs : Value} {Q : Int × Int × Nat → Shared → Prop} (hs : s.heap.IsSliceOf sl .none .none vs) (ps : IsPart vs (some (-1)))
    (h : Q (((n : Nat) : Int) - 1, -1, n) s) : wpAny (model prog w) A (Builtin.Slice.sliceApplied (.ref sl) (pure (n : Int))) Q E s := by
  obtain ⟨os, hos, hcs, hds⟩ := id hs
  unfold Builtin.Slice.sliceApplied Builtin.Slice.sliceFields
  refine wpAny_bind (wpAny_bind (wpAny_field hos hds (x := .none) rfl (wpAny_bind (wpAny_field hos hds (x := .none) rfl (wpAny_bind (wpAny_field hos hds (x := vs) rfl (wpAny_pure ?_)))))))
  refine wpAny_bind (slicePart_ ps ?_)
  show wpAny _ _ (if ((-1 : Int) == 0) = true then _ else _) _ _ s
  rw [if_neg (by decide)]
  refine wpAny_bind (slicePart_none (wpAny_bind (slicePart_none (wpAny_bind (wpAny_pure ?_)))))
  show wpAny _ _ (match Builtin.Slice.sliceAdjust none none (-1) (n : Int) with | (lo, hi) => pure (lo, (-1 : Int), Builtin.Slice.slicePlaces lo hi (-1))) _ _ s
  have e : Builtin.Slice.sliceAdjust none none (-1) (n : Int) = ((n : Int) - 1, -1) := rfl
  rw [e]
  show wpAny _ _ (pure (((n : Nat) : Int) - 1, (-1 : Int), Builtin.Slice.slicePlaces ((n : Int) - 1) (-1) (-1))) _ _ s
  have e2 : Builtin.Slice.slicePlaces ((n : Int) - 1) (-1) (-1) = n := by
    unfold Builtin.Slice.slicePlaces
    rw [if_neg (by decide)]
    by_cases hn : n = 0
    · subst hn; rfl
    · rw [if_pos (by omega), show (-(-1 : Int)) = 1 from rfl, Int.ediv_one]
      omega
  rw [e2]
  exact wpAny_pure h
theorem pick_rev (xs : List Value) : ((List.range xs.length).filterMap fun (m : Nat) => xs.toArray[(((xs.length : Nat) : Int) - 1 + (m : Int) * -1).toNat]?) = xs.reverse := by
  apply List.ext_getElem?
  intro i
  by_cases hi : i < xs.length
  · have key : ∀ k, k ≤ xs.length → ((List.range k).filterMap fun (m : Nat) => xs.toArray[(((xs.length : Nat) : Int) - 1 + (m : Int) * -1).toNat]?) = (List.range k).map fun m => xs.toArray[xs.length - 1 - m]?.getD .none := by
      intro k hk
      induction k with
      | zero => rfl
      | succ k ih =>
        rw [List.range_succ, List.filterMap_append, List.map_append, ih (by omega)]
        congr 1
        have e : (((xs.length : Nat) : Int) - 1 + (k : Int) * -1).toNat = xs.length - 1 - k := by omega
        rw [List.filterMap_cons, e]
        have h2 : xs.length - 1 - k < xs.length := by omega
        simp [h2]
    rw [key _ (Nat.le_refl _)]
    have h2 : xs.length - 1 - i < xs.length := by omega
    simp [hi, h2]
  · have h1 : ((List.range xs.length).filterMap fun (m : Nat) => xs.toArray[(((xs.length : Nat) : Int) - 1 + (m : Int) * -1).toNat]?).length ≤ xs.length := by
      refine Nat.le_trans (List.length_filterMap_le _ _) (by simp)
    rw [List.getElem?_eq_none (by omega), List.getElem?_eq_none (by simp; omega)]
theorem getItem_tuple_rev {prog : Program} {w : World} {A : Around} {E : Value → Shared → Prop} {s : Shared} {t sl : Addr} {its : List Value} {vs : Value} {Q : Value → Shared → Prop} (ht : IsTup s.heap t its.toArray) (hs : s.heap.IsSliceOf sl .none .none vs) (ps : IsPart vs (some (-1)))
    (h : Q (.ref s.heap.objs.size) { s with heap := s.heap.push { cls := .type "tuple", data := .seq its.reverse.toArray } })
    (hsz : its.length ≤ sizeLine) : wpAny (model prog w) A (getItem (.ref t) (.ref sl)) Q E s := by
  have htake : sizeOk (.seq its.reverse.toArray) := by
    show its.reverse.toArray.size ≤ sizeLine
    rw [List.size_toArray, List.length_reverse]
    exact hsz
  obtain ⟨os, hos, hcs, hds⟩ := id hs
  have hTs : s.TypeIs (.ref sl) "slice" := ⟨os, hos, hcs⟩
  unfold getItem
  try with_reducible refine wpAny_holding ?_
  first | refine wpAny_bind (wpAny_pure ?_) | skip
  refine wpAny_bind (wpAny_sequenceKey ht.typeIs (by decide) ?_)
  refine wpAny_bind (wpAny_callSpecial?_slot (name := Str.ofString "__getitem__") ht.typeIs PyProof.Rows.slot_tuple_getitem
    (wpAny_call_entry PyProof.Rows.slot_tuple_getitem ht.typeIs entry_tuple_getitem ?_ (args_tuple_getitem _ _)))
  show wpAny _ _ (Builtin.Tuple.tupleItemsOf (.ref t) >>= _) _ _ s
  refine wpAny_bind (tupleItemsOf_ ht ?_)
  refine wpAny_bind (wpAny_typeOf hTs ?_)
  rw [if_pos (by decide)]
  refine wpAny_bind (sliceApplied_rev hs ps ?_)
  have hno : ¬ ((((its.toArray.size : Nat) : Int) - 1 == 0 && (-1 : Int) == 1 && its.toArray.size == its.toArray.size) = true) := by
    intro q
    rw [Bool.and_eq_true, Bool.and_eq_true] at q
    exact absurd (eq_of_beq q.1.2) (by decide)
  show wpAny _ _ (if (((its.toArray.size : Nat) : Int) - 1 == 0 && (-1 : Int) == 1 && its.toArray.size == its.toArray.size) = true then _ else _) _ _ s
  rw [if_neg hno]
  have e : ((List.range its.toArray.size).filterMap fun (m : Nat) => its.toArray[(((its.toArray.size : Nat) : Int) - 1 + (m : Int) * -1).toNat]?).toArray = its.reverse.toArray := by
    rw [List.size_toArray, pick_rev]
  rw [e]
  first
    | exact wpAny_bind (m := Builtin.Tuple.tupleExact _) (wpAny_newObj_type (wpAny_pure ⟨_, rfl, wpAny_pure h⟩) htake)
    | exact wpAny_bind (m := Builtin.Tuple.tupleExact _) (wpAny_newObj_type (wpAny_bind (wpAny_pure (wpAny_pure ⟨_, rfl, wpAny_pure h⟩))) htake)
    | exact wpAny_bind (wpAny_bind (m := Builtin.Tuple.tupleExact _) (wpAny_newObj_type (wpAny_pure (wpAny_pure ⟨_, rfl, wpAny_pure h⟩)) htake))
    | exact wpAny_bind (wpAny_bind (m := Builtin.Tuple.tupleExact _) (wpAny_newObj_type (wpAny_pure ⟨_, rfl, wpAny_pure h⟩) htake))
def tRevT (K : PySem.W.Frag) (te : TE) : TE := fun σ H Q => te σ H fun x H1 => ∃ a xs, x = .ref a ∧ SqT K H1 a xs ∧ ∀ p, H1 p = none → Q (.ref p) (upd H1 p (.tup xs.reverse))
theorem pe_revT {e : Expr} {te : TE} {k : Nat} {p1 p2 p3 pos : Pos} (he : PE X e te) : PE X (.Subscript e (.Slice none none (some (.UnaryOp .USub (.Constant (.int 1) k p1) p2)) p3) pos) (tRevT X.K te) := by
  refine ⟨fun pins s σ H Q I h => ?_⟩
  refine Subscript_ (thn (he.run pins s σ H _ I h) fun v s1 ⟨x, H1, I1, r1, q1⟩ => ?_)
  obtain ⟨a, xs, ex, hx, q⟩ := q1
  subst ex
  cases r1
  have hst : PO X (some (.UnaryOp .USub (.Constant (.int 1) k p1) p2)) (tPart (tUn (rU fun i => .int (-i)) (tC (.int 1)))) := po_some (pe_un un_neg pe_int)
  refine wpAny_Slice (thn (po_none.run pins s1 σ H1 (fun o H2 => o = none ∧ H2 = H1) I1 ⟨rfl, rfl⟩) fun vl s2 ⟨l, H2, I2, pl, el, e2⟩ => ?_)
  subst el e2
  refine thn (po_none.run pins s2 σ H2 (fun o H3 => o = none ∧ H3 = H2) I2 ⟨rfl, rfl⟩) fun vu s3 ⟨u, H3, I3, pu, eu, e3⟩ => ?_
  subst eu e3
  refine thn (hst.run pins s3 σ H3 (fun o H4 => o = some (-1) ∧ H4 = H3) I3 ⟨1, rfl, -1, rfl, rfl, rfl⟩) fun vs s4 ⟨o, H4, I4, ps, eo, e4⟩ => ?_
  subst eo e4
  have I5 : Inv X pins σ H4 { s4 with heap := s4.heap.push { cls := .type "slice", data := .fields #[vl, vu, vs] } } := I4.kept (t' := s4.toks) fun b ob q => Heap.get?_push_of_some _ q
  cases pl
  cases pu
  obtain ⟨its, r, ht, hz⟩ := I5.tuple hx
  have hlen := r.length
  show wpAny (model X.prog X.w) X.A (subscriptTail e (.Slice none none (some (.UnaryOp .USub (.Constant (.int 1) k p1) p2)) p3) (.ref a) (.ref s4.heap.objs.size)) (EP X pins σ Q) X.xe { s4 with heap := s4.heap.push { cls := .type "slice", data := .fields #[.none, .none, vs] } }
  refine tail_any (ops := [.ref a, .ref s4.heap.objs.size]) ht.typeIs (PyProof.Rows.slot_tuple_getitem.lookup) ?_ (by with_unfolding_all rfl)
  refine getItem_tuple_rev ht (Heap.IsSliceOf.new _ .none .none vs) ps ?_ (by omega)
  refine ⟨.ref _, _, I5.laid (t' := s4.toks) (o := .tup xs.reverse) (fun b ob q => Heap.get?_push_of_some _ q) (Nat.le_refl _) ?_, rfl, q _ (I5.hok.fresh (Nat.le_refl _))⟩
  exact ⟨by rw [List.length_reverse]; exact hz, _, r.reverse, IsTup.new _ _⟩
end
end L2
end
section
set_option maxHeartbeats 4000000
namespace L2
open PySem PySem.Spec PyProof.Rows
/-! ### zip of a list and a tuple -/
def ItzM (K : PySem.W.Frag) (a b : Addr) : It :=
  ⟨fun i H => ∃ (xs ys : List V) (x y : V), SqL K H a xs ∧ SqT K H b ys ∧ xs[i]? = some x ∧ ys[i]? = some y,
    fun i H v H' => ∃ T x y, v = .ref T ∧ H T = none ∧ H' = upd H T (.tup [x, y]) ∧ (∀ xs, SqL K H a xs → xs[i]? = some x) ∧ ∀ ys, SqT K H b ys → ys[i]? = some y,
    fun i H => ∃ xs ys : List V, SqL K H a xs ∧ SqT K H b ys ∧ i = min xs.length ys.length⟩
theorem sepM {z TI TO i1 i2 a b : Addr} (D : ZipApart z TI TO i1 i2 a b) : ZipSep2 z TI TO i1 i2 [i1, a] [i2, b] where
  TIz := D.TIz
  TOz := D.TOz
  TITO := D.TITO
  TIi1 := D.TIi1
  mem1 := by simp
  zf1 := by simp only [List.mem_cons, List.not_mem_nil, or_false, not_or]; exact ⟨fun e => D.i1z e.symm, fun e => D.l1z e.symm⟩
  Tf1 := by simp only [List.mem_cons, List.not_mem_nil, or_false, not_or]; exact ⟨D.TOi1, fun e => D.l1TO e.symm⟩
  TIi2 := D.TIi2
  mem2 := by simp
  zf2 := by simp only [List.mem_cons, List.not_mem_nil, or_false, not_or]; exact ⟨fun e => D.i2z e.symm, fun e => D.l2z e.symm⟩
  Tf2 := by simp only [List.mem_cons, List.not_mem_nil, or_false, not_or]; exact ⟨D.TOi2, fun e => D.l2TO e.symm⟩
  sep1_2 := by simp only [List.mem_cons, List.not_mem_nil, or_false, not_or]; exact ⟨D.i12, fun e => D.l2i1 e.symm⟩
  sep2_1 := by simp only [List.mem_cons, List.not_mem_nil, or_false, not_or]; exact ⟨fun e => D.i12 e.symm, fun e => D.l1i2 e.symm⟩
theorem turn_zipM {P : Program} {w : World} {K : PySem.W.Frag} {elts : List Expr} {kk : Nat} {tpos : Pos} {a b z TI TO i1 i2 : Addr} (D : ZipApart z TI TO i1 i2 a b) :
    Turn P w K (.Tuple elts kk tpos) (ItzM K a b) [z, TI, TO, i1, i2] z (fun i h => IsZip h z TI TO .none ∧ IsPair h TI (.ref i1) (.ref i2) ∧ (∃ x y, IsPair h TO x y) ∧ h.IsListIter i1 a i ∧ h.IsTupleIter i2 b i) where
  mem := by simp
  obj := fun i h st c hc => by
    obtain ⟨hz, hTI, ⟨x, y, hTO⟩, ⟨o1, e1, _, d1⟩, ⟨o2, e2, _, d2⟩⟩ := st
    have e' : c = z ∨ c = TI ∨ c = TO ∨ c = i1 ∨ c = i2 := by simpa using hc
    rcases e' with q | q | q | q | q
    · rw [q]; exact ⟨_, hz, fun v q => nomatch q⟩
    · rw [q]; exact ⟨_, hTI, fun v q => nomatch q⟩
    · rw [q]; exact ⟨_, hTO, fun v q => nomatch q⟩
    · rw [q]; exact ⟨o1, e1, fun v q => by rw [d1] at q; cases q⟩
    · rw [q]; exact ⟨o2, e2, fun v q => by rw [d2] at q; cases q⟩
  keep := fun i h h' st k => by
    obtain ⟨hz, hTI, ⟨x, y, hTO⟩, h1, h2⟩ := st
    exact ⟨k z (by simp) _ hz, k TI (by simp) _ hTI, ⟨x, y, k TO (by simp) _ hTO⟩, h1.at fun o q => k i1 (by simp) o q, h2.at fun o q => k i2 (by simp) o q⟩
  item := by
    intro X hP hw hK hc i pins s σ H E I hf st hg
    subst hP hw hK
    obtain ⟨hz, hTI, ⟨x0, y0, hTO⟩, h1, h2⟩ := st
    obtain ⟨xs, ys, x, y, hqx, hqy, hx, hy⟩ := hg
    obtain ⟨its, rv, p, _⟩ := I.list hqx
    obtain ⟨its2, rv2, p2, _⟩ := I.tuple hqy
    obtain ⟨u, hu, ru⟩ := rv.get hx
    obtain ⟨u2, hu2, ru2⟩ := rv2.get hy
    have hzl : z < s.heap.objs.size := Heap.lt_size hz
    have n1 : i < its.toArray.size := by
      have := (List.getElem?_eq_some_iff.mp hu).1
      simpa using this
    have n2 : i < its2.toArray.size := by
      have := (List.getElem?_eq_some_iff.mp hu2).1
      simpa using this
    have hh : X.A.in1.handled = none := I.ok.hd hc
    refine wpAny_pyNext_zipD2_item (sepM D) (Draws.list hh i1 a D.l1i1 its.toArray) (Draws.tuple hh i2 b D.l2i2 its2.toArray) hz hTI hTO ⟨h1, p.isList⟩ ⟨h2, show s.heap.IsTuple b its2.toArray from p2⟩ n1 n2 fun x1 x2 h' tk y1 y2 z' TO' d1 d2 hT hsz hk => ?_
    have e1 : x1 = u := by
      have q : its.toArray[i]? = some u := by simpa using hu
      exact Option.some.inj (y1.symm.trans q)
    have e2 : x2 = u2 := by
      have q : its2.toArray[i]? = some u2 := by simpa using hu2
      exact Option.some.inj (y2.symm.trans q)
    subst e1 e2
    refine ⟨_, rfl, wpAny_letOwnedTupleGo_zip (s := { s with heap := h', toks := tk }) z' fun h'' z'' sb => ?_⟩
    have hT2 : h''.get? s.heap.objs.size = some { cls := .type "tuple", data := .seq #[x1, x2] } := (sb.2 _ (Nat.ne_of_gt hzl)).trans hT
    have new : ObjOk X.prog X.w (upd H s.heap.objs.size (.tup [x, y])) h'' s.heap.objs.size (.tup [x, y]) :=
      ⟨by show 2 ≤ sizeLine; decide, [x1, x2], .cons ru (.cons ru2 .nil), ⟨_, hT2, rfl, _, rfl⟩⟩
    have I1 : Inv X pins σ (upd H s.heap.objs.size (.tup [x, y])) { s with heap := h'', toks := tk } :=
      I.turnedNew (t' := tk) (ch := [z, TI, TO, i1, i2]) (fun c o hb q => (sb.2 c (fun q' => hb (by simp [q']))).trans (hk c o (fun q' => hb (by simp [q'])) (fun q' => hb (by simp [q'])) (fun q' => hb (by simp [q'])) (fun q' => hb (by simp [q'])) q)) hf (Nat.le_refl _) new
    refine ⟨.ref s.heap.objs.size, _, I1, rfl, ⟨_, x, y, rfl, I.hok.fresh (Nat.le_refl _), rfl, fun l hl => by rw [I.list_inj hl hqx]; exact hx, fun l hl => by rw [I.tuple_inj hl hqy]; exact hy⟩, ⟨z'', ?_, ⟨x1, x2, ?_⟩, ?_, ?_⟩, fun c hcm => ?_⟩
    · exact (sb.2 _ D.TIz).trans (hk _ _ D.TIz D.TITO D.TIi1 D.TIi2 hTI)
    · exact (sb.2 _ D.TOz).trans TO'
    · exact d1.1.at fun o q => (sb.2 _ D.i1z).trans q
    · exact d2.1.at fun o q => (sb.2 _ D.i2z).trans q
    · have hlt : c < s.heap.objs.size := by
        have e' : c = z ∨ c = TI ∨ c = TO ∨ c = i1 ∨ c = i2 := by simpa using hcm
        rcases e' with q | q | q | q | q
        · rw [q]; exact hzl
        · rw [q]; exact Heap.lt_size hTI
        · rw [q]; exact Heap.lt_size hTO
        · rw [q]; obtain ⟨_, e1, _⟩ := h1; exact Heap.lt_size e1
        · rw [q]; obtain ⟨_, e2, _⟩ := h2; exact Heap.lt_size e2
      rw [upd_ne (Nat.ne_of_lt hlt)]
      exact (hf c hcm).1
  done := by
    intro X hP hw hK hc i pins s σ H E I hf st hg
    subst hP hw hK
    obtain ⟨hz, hTI, ⟨x0, y0, hTO⟩, h1, h2⟩ := st
    obtain ⟨xs, ys, hqx, hqy, hend⟩ := hg
    obtain ⟨its, rv, p, _⟩ := I.list hqx
    obtain ⟨its2, rv2, p2, _⟩ := I.tuple hqy
    have l1 : xs.length = its.toArray.size := by rw [List.size_toArray]; exact rv.length
    have l2 : ys.length = its2.toArray.size := by rw [List.size_toArray]; exact rv2.length
    have hh : X.A.in1.handled = none := I.ok.hd hc
    refine wpAny_pyNext_zipD2_end (sepM D) (Draws.list hh i1 a D.l1i1 its.toArray) (Draws.tuple hh i2 b D.l2i2 its2.toArray) hz hTI hTO ⟨h1, p.isList⟩ ⟨h2, show s.heap.IsTuple b its2.toArray from p2⟩ (by omega) (by omega) (by omega) fun h' tk hk => ⟨rfl, I.turnedL (t' := tk) (ch := [z, TI, TO, i1, i2]) (fun c o hb q =>
      hk c o (fun q' => hb (by simp [q'])) (fun q' => hb (by simp [q'])) (fun q' => hb (by simp [q'])) (fun q' => hb (by simp [q'])) q) hf⟩
  self := fun A i s Q E st h => wpAny_pyIter_zip st.1 h
def iZipM (K : PySem.W.Frag) (ta : TA) : TI := fun σ H R => ta σ H fun vs H1 => ∃ a b xs ys, vs = [.ref a, .ref b] ∧ SqL K H1 a xs ∧ SqT K H1 b ys ∧ R (ItzM K a b) H1
theorem pi_zipM {X : Cx} {e e2 : Expr} {ta : TA} {p pos tpos : Pos} {elts : List Expr} {kk : Nat} (hg : Gl X "zip") (hm : X.mg "zip" = none) (ha : PA X [e, e2] ta)
    (hs : starEach [e, e2] X.env = (false, eval e X.env) :: starEach [e2] X.env := by rfl) (hpl : (backTo pos (starEach [e2] X.env)).any (·.1) = false := by rfl) :
    PI X (.Tuple elts kk tpos) (.Call (.Name "zip" p) [e, e2] [] pos) (iZipM X.K ta) := by
  refine ⟨fun pins s σ H R I h => ?_⟩
  refine Call_ (ld_blt I hg hm PyProof.Rows.boot_zip (PyProof.Rows.callWith_type1 (thn (ha.run pos pins s σ H _ I h) fun us s1 ⟨vs, H1, I1, r1, q1⟩ => ?_) hs hpl))
  obtain ⟨a, b, xs, ys, ex, hqx, hqy, q⟩ := q1
  subst ex
  cases r1 with
  | cons r rr =>
    cases rr with
    | cons r' rr =>
      cases rr
      cases r
      cases r'
      have fresh5 : ∀ c, c ∈ [s1.heap.objs.size + 4, s1.heap.objs.size + 2, s1.heap.objs.size + 3, s1.heap.objs.size, s1.heap.objs.size + 1] → FpOk X pins H1 c := fun c hcm => by
        have e' : c = s1.heap.objs.size + 4 ∨ c = s1.heap.objs.size + 2 ∨ c = s1.heap.objs.size + 3 ∨ c = s1.heap.objs.size ∨ c = s1.heap.objs.size + 1 := by simpa using hcm
        have hle : s1.heap.objs.size ≤ c := by
          rcases e' with z | z | z | z | z
          · rw [z]; exact Nat.le_add_right _ _
          · rw [z]; exact Nat.le_add_right _ _
          · rw [z]; exact Nat.le_add_right _ _
          · rw [z]; exact Nat.le_refl _
          · rw [z]; exact Nat.le_add_right _ _
        exact I1.fpOk hle (I1.hok.fresh hle)
      obtain ⟨its, rv, p1, _⟩ := I1.list hqx
      obtain ⟨its2, rv2, p2, _⟩ := I1.tuple hqy
      have la : a < s1.heap.objs.size := p1.lt
      obtain ⟨o2, ho2, _⟩ := id p2
      have lb : b < s1.heap.objs.size := Heap.lt_size ho2
      refine zip_begins2 (begins_list a its.toArray) (begins_tuple b its2.toArray) p1.isList (show s1.heap.IsTuple b its2.toArray from p2) fun h' hz hTI hTO h1 h2 hsz hk => wpAny_pyIter_zip hz ?_
      have I2 : Inv X pins σ H1 { s1 with heap := h' } := I1.kept (t' := s1.toks) hk
      exact ⟨s1.heap.objs.size + 4, [s1.heap.objs.size + 4, s1.heap.objs.size + 2, s1.heap.objs.size + 3, s1.heap.objs.size, s1.heap.objs.size + 1], _, _, H1, rfl, I2, turn_zipM (PySem.W.ktu_apart s1.heap.objs.size a b la lb), ⟨hz, hTI, ⟨_, _, hTO⟩, ⟨_, h1, rfl, rfl⟩, ⟨_, h2, rfl, rfl⟩⟩, fresh5, q⟩
/-! ### enumerate of a tuple -/
def IteT (K : PySem.W.Frag) (a : Addr) : It :=
  ⟨fun i H => ∃ (xs : List V) (x : V), SqT K H a xs ∧ xs[i]? = some x, fun i H v H' => ∃ T x, v = .ref T ∧ H T = none ∧ H' = upd H T (.tup [.int (i : Nat), x]) ∧ ∀ xs, SqT K H a xs → xs[i]? = some x, fun i H => ∃ xs : List V, SqT K H a xs ∧ xs.length = i⟩
end L2
namespace PySem
open Sem (wp)
theorem meets_enumerate_newB1 {v : Value} {o : Obj} {H : Heap → Prop} (B : Begins v o H) :
    Meets (Builtin.«enumerate.__new__» ⟨[.type "enumerate", v], []⟩) (fun _ R s => H s.heap ∧
      R (.ok (.ret (.ref (s.heap.push o).objs.size))) { s with heap := (s.heap.push o).push { cls := .type "enumerate", data := .fields #[.none, .bool false, .ref s.heap.objs.size, rawInt 0, .none, .none] } }) :=
  .of_wp fun prog w A R s h => by
    obtain ⟨hp, g, d, tk, os⟩ := s; obtain ⟨h1, h⟩ := h
    have hsub := sub_enumerate
    have q1 : ∀ {A' : Around} {E : Value → Shared → Prop} {Q : Value → Shared → Prop}, Q (.ref hp.objs.size) ⟨hp.push o, g, d, tk, os⟩ → wpAny (model prog w) A' (pyIter v) Q E ⟨hp, g, d, tk, os⟩ :=
      fun q => B.iter prog w _ _ ⟨hp, g, d, tk, os⟩ _ h1 q
    wp_walk using q1
    refine wpAny_stack_any fun st => wpAny_pure ?_
    split
    · rename_i c _ _ _ _ _
      cases (c == Value.type "enumerate")
      · wp_walk using q1
        exact ⟨_, rfl, h⟩
      · wp_walk using q1
        exact ⟨_, rfl, h⟩
    · wp_walk using q1
      exact ⟨_, rfl, h⟩
theorem enum_begins1 {prog : Program} {w : World} {A : Around} {E : Value → Shared → Prop} {s : Shared} {v : Value} {o : Obj} {H : Heap → Prop} {Q : Value → Shared → Prop} (B : Begins v o H) (h1 : H s.heap)
    (h : ∀ h', IsEnum h' (s.heap.objs.size + 1) s.heap.objs.size 0 .none → h'.get? s.heap.objs.size = some o → h'.objs.size = s.heap.objs.size + 2 →
      (∀ b o, s.heap.get? b = some o → h'.get? b = some o) → Q (.ref (s.heap.objs.size + 1)) { s with heap := h' }) :
    wpAny (model prog w) A (call (.type "enumerate") [v]) Q E s := by
  refine callType_new F.called_enumerate (by decide) (F.typeCall_enumerate_1 _) (F.newCall_enumerate_1 _) (fun obj => F.args_object_init_2 obj _) F.entry_enumerate_new
    (meets_enumerate_newB1 B) ⟨h1, ?_⟩
  have hz : (s.heap.push o).objs.size = s.heap.objs.size + 1 := Heap.size_push ..
  show _ ∧ _
  rw [hz]
  have he : IsEnum ((s.heap.push o).push { cls := .type "enumerate", data := .fields #[.none, .bool false, .ref s.heap.objs.size, rawInt 0, .none, .none] }) (s.heap.objs.size + 1) s.heap.objs.size 0 .none := by
    have := Heap.get?_push_size (s.heap.push o) (o := { cls := .type "enumerate", data := .fields #[.none, .bool false, .ref s.heap.objs.size, rawInt 0, .none, .none] }) rfl
    rw [hz] at this; exact this
  refine ⟨⟨_, he, rfl⟩, h _ he (Heap.get?_push_of_some _ (Heap.get?_push_size _ B.free)) (by rw [Heap.size_push, hz]) fun b o x => Heap.get?_push_of_some _ (Heap.get?_push_of_some _ x)⟩
end PySem
namespace L2
open PySem PySem.Spec PyProof.Rows
theorem turn_enumT {P : Program} {w : World} {K : PySem.W.Frag} {elts : List Expr} {kk : Nat} {tpos : Pos} (a e it : Addr) (hne : e ≠ it) (hae : e ≠ a) (hai : a ≠ it) :
    Turn P w K (.Tuple elts kk tpos) (IteT K a) [e, it] e (fun i h => (∃ old, IsEnum h e it ((i : Nat) : Int) old) ∧ h.IsTupleIter it a i) where
  mem := by simp
  obj := fun i h st b hb => by
    obtain ⟨⟨old, he⟩, ⟨o, ho, hc, hd⟩⟩ := st
    have e' : b = e ∨ b = it := by simpa using hb
    rcases e' with z | z
    · rw [z]; exact ⟨_, he, fun v q => nomatch q⟩
    · rw [z]; exact ⟨o, ho, fun v q => by rw [hd] at q; cases q⟩
  keep := fun i h h' st k => let ⟨⟨old, he⟩, hi⟩ := st; ⟨⟨old, k e (by simp) _ he⟩, hi.at fun o q => k it (by simp) o q⟩
  item := by
    intro X hP hw hK hc i pins s σ H E I hf st hg
    subst hP hw hK
    obtain ⟨⟨old, he⟩, hit⟩ := st
    obtain ⟨xs, x, hq, hx⟩ := hg
    obtain ⟨its, rv, p, hz⟩ := I.tuple hq
    obtain ⟨u, hu, ru⟩ := rv.get hx
    have hel : e < s.heap.objs.size := Heap.lt_size he
    have hil : it < s.heap.objs.size := by obtain ⟨_, q, _⟩ := hit; exact Heap.lt_size q
    have hh : X.A.in1.handled = none := I.ok.hd hc
    have n1 : i < its.toArray.size := by
      have := (List.getElem?_eq_some_iff.mp hu).1
      simpa using this
    refine wpAny_pyNext_enum_itemC (Draws.tuple hh it a hai its.toArray) he ⟨hit, show s.heap.IsTuple a its.toArray from p⟩ n1 hne (by simp only [List.mem_cons, List.not_mem_nil, or_false, not_or]; exact ⟨hne, hae⟩) fun x1 h' tk y1 ho hit' hT hsz hk => ?_
    have e1 : x1 = u := by
      have q : its.toArray[i]? = some u := by simpa using hu
      exact Option.some.inj (y1.symm.trans q)
    subst e1
    refine ⟨_, rfl, wpAny_letOwnedTupleGo_enum (s := { s with heap := h', toks := tk + 1 }) ho fun h'' he' sb => ?_⟩
    have hT2 : h''.get? s.heap.objs.size = some { cls := .type "tuple", data := .seq #[.int i tk, x1] } := (sb.2 _ (Nat.ne_of_gt hel)).trans hT
    have new : ObjOk X.prog X.w (upd H s.heap.objs.size (.tup [.int (i : Nat), x])) h'' s.heap.objs.size (.tup [.int (i : Nat), x]) :=
      ⟨by show 2 ≤ sizeLine; decide, [.int i tk, x1], .cons ⟨_, rfl⟩ (.cons ru .nil), ⟨_, hT2, rfl, _, rfl⟩⟩
    have I1 : Inv X pins σ (upd H s.heap.objs.size (.tup [.int (i : Nat), x])) { s with heap := h'', toks := tk + 1 } :=
      I.turnedNew (ch := [e, it]) (fun b ob hb q => (sb.2 b (fun z => hb (by simp [z]))).trans (hk b ob (fun z => hb (by simp [z])) (fun z => hb (by simp [z])) q)) hf (Nat.le_refl _) new
    refine ⟨.ref s.heap.objs.size, _, I1, rfl, ⟨_, x, rfl, I.hok.fresh (Nat.le_refl _), rfl, fun ys hy => by rw [I.tuple_inj hy hq]; exact hx⟩, ⟨⟨x1, ?_⟩, hit'.1.at fun o q => (sb.2 it (Ne.symm hne)).trans q⟩, fun b hb => ?_⟩
    · have e1 : ((i + 1 : Nat) : Int) = (i : Int) + 1 := by omega
      rw [e1]; exact he'
    · have hb' : b < s.heap.objs.size := by
        have e' : b = e ∨ b = it := by simpa using hb
        rcases e' with z | z
        · rw [z]; exact hel
        · rw [z]; exact hil
      rw [upd_ne (Nat.ne_of_lt hb')]
      exact (hf b hb).1
  done := by
    intro X hP hw hK hc i pins s σ H E I hf st hg
    subst hP hw hK
    obtain ⟨⟨old, he⟩, hit⟩ := st
    obtain ⟨xs, hq, hx⟩ := hg
    obtain ⟨its, rv, p, hz⟩ := I.tuple hq
    obtain ⟨f0, f1, f2, f3, f4, f5⟩ := hf it (by simp)
    have hl : xs.length = its.toArray.size := by rw [List.size_toArray]; exact rv.length
    have hh : X.A.in1.handled = none := I.ok.hd hc
    subst hx
    rw [hl] at hit
    exact wpAny_pyNext_enum_endD (Draws.tuple hh it a hai its.toArray) he ⟨hit, show s.heap.IsTuple a its.toArray from p⟩ fun h' eb => ⟨rfl, I.turned (t' := s.toks) (fun b o hb q => eb b o hb q) f0 f1 f3 f4 f5⟩
  self := fun A i s Q E st h => let ⟨⟨_, he⟩, _⟩ := st; wpAny_pyIter_enum he h
def iEnumT (K : PySem.W.Frag) (ta : TA) : TI := fun σ H R => ta σ H fun vs H1 => ∃ a xs, vs = [.ref a] ∧ SqT K H1 a xs ∧ R (IteT K a) H1
theorem pi_enumT {X : Cx} {e : Expr} {ta : TA} {p pos tpos : Pos} {elts : List Expr} {kk : Nat} (hg : Gl X "enumerate") (hm : X.mg "enumerate" = none) (ha : PA X [e] ta) (hs : starEach [e] X.env = [(false, eval e X.env)] := by rfl) :
    PI X (.Tuple elts kk tpos) (.Call (.Name "enumerate" p) [e] [] pos) (iEnumT X.K ta) := by
  refine ⟨fun pins s σ H R I h => ?_⟩
  refine Call_ (ld_blt I hg hm boot_enumerate (PyProof.Rows.callWith_type1 (thn (ha.run pos pins s σ H _ I h) fun us s1 ⟨vs, H1, I1, r1, q1⟩ => ?_) hs rfl))
  obtain ⟨a, xs, ex, hq, q⟩ := q1
  subst ex
  cases r1 with
  | cons r rr =>
    cases rr
    cases r
    obtain ⟨its, rv, p', hz⟩ := I1.tuple hq
    obtain ⟨o2, ho2, _⟩ := id p'
    have lb : a < s1.heap.objs.size := Heap.lt_size ho2
    refine enum_begins1 (begins_tuple a its.toArray) (show s1.heap.IsTuple a its.toArray from p') fun h' he hit hsz hk => wpAny_pyIter_enum he ?_
    have I2 : Inv X pins σ H1 { s1 with heap := h' } := I1.kept (t' := s1.toks) hk
    refine ⟨s1.heap.objs.size + 1, [s1.heap.objs.size + 1, s1.heap.objs.size], _, _, H1, rfl, I2, turn_enumT a (s1.heap.objs.size + 1) s1.heap.objs.size (Nat.succ_ne_self _) (by have := lb; exact fun z => absurd (show a < s1.heap.objs.size from lb) (by rw [← z]; exact Nat.not_lt.mpr (Nat.le_succ _))) (Nat.ne_of_lt lb), ⟨⟨.none, he⟩, ⟨_, hit, rfl, rfl⟩⟩, fun b hb => ?_, q⟩
    have e' : b = s1.heap.objs.size + 1 ∨ b = s1.heap.objs.size := by simpa using hb
    have hle : s1.heap.objs.size ≤ b := by
      rcases e' with z | z
      · rw [z]; exact Nat.le_add_right _ _
      · rw [z]; exact Nat.le_refl _
    exact I1.fpOk hle (I1.hok.fresh hle)
/-! ### walks -/
section
variable {K : PySem.W.Frag} {a b : Addr} {xs ys : List V}
theorem walk_zipM {n : Nat} (hn : n = min xs.length ys.length) : Walk (ItzM K a b) n (fun H => SqL K H a xs ∧ SqT K H b ys) (YPair (fun i => xs[i]?) (fun i => ys[i]?)) := by
  subst hn
  refine ⟨fun i _ hi q => ?_, fun _ q => ⟨xs, ys, q.1, q.2, rfl⟩, fun i H v H' _ q y => ?_⟩
  · have h1 : i < xs.length := by omega
    have h2 : i < ys.length := by omega
    exact ⟨xs, ys, xs[i], ys[i], q.1, q.2, by simp [h1], by simp [h2]⟩
  · obtain ⟨T, x, z, h1, h2, h3, h4, h5⟩ := y
    exact ⟨T, x, z, h1, h2, h3, h4 xs q.1, h5 ys q.2⟩
theorem walk_zipTT {n : Nat} (hn : n = min xs.length ys.length) : Walk (RZ.ItzT K a b) n (fun H => SqT K H a xs ∧ SqT K H b ys) (YPair (fun i => xs[i]?) (fun i => ys[i]?)) := by
  subst hn
  refine ⟨fun i _ hi q => ?_, fun _ q => ⟨xs, ys, q.1, q.2, by omega⟩, fun i H v H' _ q y => ?_⟩
  · have h1 : i < xs.length := by omega
    have h2 : i < ys.length := by omega
    exact ⟨xs, ys, xs[i], ys[i], q.1, q.2, by simp [h1], by simp [h2]⟩
  · obtain ⟨T, x, z, h1, h2, h3, h4, h5⟩ := y
    exact ⟨T, x, z, h1, h2, h3, h4 xs q.1, h5 ys q.2⟩
theorem walk_enumT : Walk (IteT K a) xs.length (fun H => SqT K H a xs) (YPair (fun i => some (.int (i : Nat))) (fun i => xs[i]?)) := by
  refine ⟨fun i _ hi q => ⟨xs, xs[i], q, by simp [hi]⟩, fun _ q => ⟨xs, q, rfl⟩, fun i H v H' _ q y => ?_⟩
  obtain ⟨T, x, h1, h2, h3, h4⟩ := y
  exact ⟨T, .int (i : Nat), x, h1, h2, h3, rfl, h4 xs q⟩
end
end L2
end
section
set_option maxHeartbeats 4000000
namespace L2
open PySem PySem.Spec PyProof.Rows
open PySem.W (dataLt AlikeAll iter_listW cmpIn_lt moved_old dataLt_ii)
theorem argBest_lex (x y : Nat → Int) : ∀ k, argBest (fun i j => decide (x i < x j ∨ (x i = x j ∧ y i < y j))) k ≤ k ∧ ∀ j, j ≤ k → x (argBest (fun i j => decide (x i < x j ∨ (x i = x j ∧ y i < y j))) k) ≤ x j
  | 0 => ⟨Nat.le_refl _, fun j hj => by
      have : j = 0 := by omega
      subst this; exact Int.le_refl _⟩
  | k + 1 => by
    obtain ⟨h1, h2⟩ := argBest_lex x y k
    simp only [argBest]
    by_cases hc : x (k + 1) < x (argBest (fun i j => decide (x i < x j ∨ (x i = x j ∧ y i < y j))) k) ∨ (x (k + 1) = x (argBest (fun i j => decide (x i < x j ∨ (x i = x j ∧ y i < y j))) k) ∧ y (k + 1) < y (argBest (fun i j => decide (x i < x j ∨ (x i = x j ∧ y i < y j))) k))
    · rw [if_pos (by simpa using hc)]
      refine ⟨Nat.le_refl _, fun j hj => ?_⟩
      rcases Nat.lt_or_ge j (k + 1) with hlt | hge
      · have := h2 j (by omega)
        omega
      · have : j = k + 1 := by omega
        subst this; exact Int.le_refl _
    · rw [if_neg (by simpa using hc)]
      refine ⟨by omega, fun j hj => ?_⟩
      rcases Nat.lt_or_ge j (k + 1) with hlt | hge
      · exact h2 j (by omega)
      · have : j = k + 1 := by omega
        subst this
        omega
/-- min of a list of pairs of ints: one of them, its first no greater than any's -/
def rMinP (K : PySem.W.Frag) : List V → Hp → VK → Prop := fun vs H Q => ∃ (a : Addr) (xs : List V) (ps : List (Int × Int)), vs = [V.ref a] ∧ SqL K H a xs ∧ ps ≠ [] ∧ Paired (fun v (p : Int × Int) => ∃ t, v = V.ref t ∧ SqT K H t [.int p.1, .int p.2]) xs ps ∧
  ∀ (i : Nat) (v : V) (p : Int × Int), xs[i]? = some v → ps[i]? = some p → (∀ q ∈ ps, p.1 ≤ q.1) → Q v H
theorem dpAll_pairs {K : PySem.W.Frag} {H : Hp} : ∀ {xs : List V} {ps : List (Int × Int)}, Paired (fun v (p : Int × Int) => ∃ t, v = V.ref t ∧ SqT K H t [.int p.1, .int p.2]) xs ps → DpAll K H xs (ps.map fun p => .tuple [.int p.1, .int p.2])
  | _, _, .nil => .nil
  | _, _, .cons ⟨t, e, h⟩ r => by
    subst e
    exact .cons (.tup h (.cons (.int _) (.cons (.int _) .nil))) (dpAll_pairs r)
theorem depth_pairs : ∀ ps : List (Int × Int), PyData.depthAll (ps.map fun p => .tuple [.int p.1, .int p.2]) ≤ 1
  | [] => by simp [PyData.depthAll]
  | p :: r => by
    have := depth_pairs r
    rw [List.map_cons]
    simp only [PyData.depthAll, PyData.depth]
    omega
theorem getD_pair (ps : List (Int × Int)) (i : Nat) : (ps.map fun p => PyData.tuple [.int p.1, .int p.2]).getD i .none = .tuple [.int (ps.getD i (0, 0)).1, .int (ps.getD i (0, 0)).2] ∨ ps.length ≤ i := by
  by_cases h : i < ps.length
  · left
    simp [List.getD, List.getElem?_map, List.getElem?_eq_getElem h]
  · exact .inr (by omega)
section
variable {X : Cx}
theorem cr_minP (hc : X.calm = true) (hu : X.A.units + 64 < cLine) : CallR X (.builtin "min") (rMinP X.K) := by
  intro pins s σ H vs us Q I r h
  obtain ⟨a, xs, ps, rfl, hL, hne, hp, q⟩ := h
  obtain ⟨u, rfl, rx⟩ := vals1 r
  obtain rfl : u = Value.ref a := rx
  obtain ⟨its, rv, pl, hz⟩ := I.list hL
  have hd : Dp X.K H (.ref a) (.list (ps.map fun p => .tuple [.int p.1, .int p.2])) := .lst hL (dpAll_pairs hp)
  obtain ⟨as, rd⟩ := Dp.reads I _ _ (Value.ref a) hd rfl
  obtain ⟨vs2, as2, hvs, hr⟩ : ∃ (vs2 : Array Value) (as2 : List Addr), s.heap.IsList a vs2 ∧ ReadsAll s.heap vs2.toList (ps.map fun p => .tuple [.int p.1, .int p.2]) as2 := by
    cases rd with
    | list h1 h2 h3 h4 => exact ⟨_, _, ⟨_, h1, h2, _, h3⟩, h4⟩
  have evs : vs2 = its.toArray := by
    obtain ⟨o, e1, _, n1, d1⟩ := hvs
    obtain ⟨o', e2, _, n2, d2⟩ := pl.isList
    rw [e1] at e2; cases e2
    rw [d1] at d2
    injection d2
  subst evs
  have hn : its.toArray.size = ps.length := by
    have := PySem.W.readsAll_len hr
    simpa using this
  have hpos : 0 < ps.length := List.length_pos_iff.mpr hne
  have hlx : xs.length = ps.length := Paired.length hp
  have hA : AlikeAll (ps.map fun p => PyData.tuple [.int p.1, .int p.2]) := by
    refine ⟨fun x hx y hy => ?_, fun x hx => ?_⟩
    · obtain ⟨p, _, rfl⟩ := List.mem_map.mp hx
      obtain ⟨p', _, rfl⟩ := List.mem_map.mp hy
      rfl
    · obtain ⟨p, _, rfl⟩ := List.mem_map.mp hx
      exact fun z => nomatch z
  have hdep := depth_pairs ps
  have bt : ∀ i j, i < ps.length → j < ps.length → dataLt ((ps.map fun p => PyData.tuple [.int p.1, .int p.2]).getD i .none) ((ps.map fun p => PyData.tuple [.int p.1, .int p.2]).getD j .none) =
      decide ((ps.getD i (0, 0)).1 < (ps.getD j (0, 0)).1 ∨ ((ps.getD i (0, 0)).1 = (ps.getD j (0, 0)).1 ∧ (ps.getD i (0, 0)).2 < (ps.getD j (0, 0)).2)) := fun i j hi hj => by
    rcases getD_pair ps i with e | e
    · rcases getD_pair ps j with e' | e'
      · rw [e, e', dataLt_ii]
      · omega
    · omega
  have bb : ∀ k, k < ps.length → argBest (fun i j => dataLt ((ps.map fun p => PyData.tuple [.int p.1, .int p.2]).getD i .none) ((ps.map fun p => PyData.tuple [.int p.1, .int p.2]).getD j .none)) k =
      argBest (fun i j => decide ((ps.getD i (0, 0)).1 < (ps.getD j (0, 0)).1 ∨ ((ps.getD i (0, 0)).1 = (ps.getD j (0, 0)).1 ∧ (ps.getD i (0, 0)).2 < (ps.getD j (0, 0)).2))) k := by
    intro k
    induction k with
    | zero => intro _; rfl
    | succ k ih =>
      intro hk
      have e := ih (by omega)
      have l := (argBest_lex (fun i => (ps.getD i (0, 0)).1) (fun i => (ps.getD i (0, 0)).2) k).1
      show (if dataLt _ _ = true then k + 1 else _) = (if decide _ = true then k + 1 else _)
      rw [e, bt (k + 1) _ hk (by omega)]
  refine call_min_walkH (iter_listW (A := X.A.in1) (I.ok.hd hc) pl.isList fun s₂ e W st hfp hw hk => ?_)
  refine ⟨_, _, _, _, _, _, _, s.heap, _, rfl, W, st, hfp, by omega, hw, hk, cmpIn_lt (A := X.A.in1) hr hA (by show X.A.units + 1 + _ < _; omega), fun v s' hP m => ?_⟩
  obtain ⟨h', tk, rfl, hk'⟩ := moved_old e rfl m
  have e1 : its.toArray.size - 1 = ps.length - 1 := by omega
  have hP : its.toArray[argBest _ (its.toArray.size - 1)]? = some v := hP
  rw [e1, bb _ (by omega)] at hP
  obtain ⟨b1, b2⟩ := argBest_lex (fun i => (ps.getD i (0, 0)).1) (fun i => (ps.getD i (0, 0)).2) (ps.length - 1)
  generalize argBest _ (ps.length - 1) = k at hP b1 b2
  have hk1 : k < ps.length := by omega
  have hk2 : k < xs.length := by omega
  obtain ⟨u', hu', ru'⟩ := rv.get (List.getElem?_eq_getElem hk2)
  have hP2 : its[k]? = some v := by simpa using hP
  rw [hu'] at hP2
  cases hP2
  refine ⟨xs[k], H, I.kept (t' := tk) hk', ru', q k xs[k] ps[k] (List.getElem?_eq_getElem hk2) (List.getElem?_eq_getElem hk1) fun p hpm => ?_⟩
  obtain ⟨j, hj, rfl⟩ := List.mem_iff_getElem.mp hpm
  have := b2 j (by omega)
  simpa [List.getD, List.getElem?_eq_getElem hk1, List.getElem?_eq_getElem hj] using this
end
end L2
end
section
set_option maxHeartbeats 4000000
namespace L2
open PySem PySem.Spec PyProof.Rows
/-! ### d.get(k, x), d a written dict -/
def tKGet (K : PySem.W.Frag) (d : Addr) (td ty tx : TE) : TE := fun σ H Q => td σ H fun x H1 => x = .ref d ∧ ty σ H1 fun y H2 => tx σ H2 fun z H3 => ∃ t r, y = .str t ∧ PySem.W.nsIn K d t = some r ∧
  (r = none → Q z H3) ∧ ∀ u0, r = some u0 → ∃ v0, RelV v0 u0 ∧ Q v0 H3
theorem pe_kget2 {X : Cx} {o e f : Expr} {apos cpos : Pos} {td ty tx : TE} {d : Addr} {es : Array DictEntry} {n : Nat} (D : KDict X.K X.w d es n) (ho : PE X o td) (he : PE X e ty) (hf : PE X f tx) (m : M2 X o "get" apos e f cpos) :
    PE X (.Call (.Attribute o "get" apos) [e, f] [] cpos) (tKGet X.K d td ty tx) := by
  refine ⟨fun pins s σ H Q I h => ?_⟩
  refine wpAny_Call_method m.base m.few m.line PySem.F.plainAttrs_dict PySem.F.slot_dict_get PySem.F.type_dict_get (thn (ho.run pins s σ H _ I h) fun u s1 ⟨x, H1, I1, rx, ex, q1⟩ => ?_)
  subst ex
  obtain rfl : u = Value.ref d := rx
  have hm := PySem.W.mapOf_K (prog := X.prog) (w := X.w) I1.kIn D.at_ D.lit
  refine ⟨hm.typeIs, hm.noDict, ?_⟩
  rw [m.trees]
  refine Calls.callWith_builtin rfl (Calls.evalArgs_plain (Calls.spliced_cons (thn (he.run pins s1 σ H1 _ I1 q1) fun iv s2 ⟨y, H2, I2, ry, q2⟩ =>
    Calls.spliced_cons (thn (hf.run pins s2 σ H2 _ I2 q2) fun fv s3 ⟨z, H3, I3, rz, tt, r, ey, er, q3, q4⟩ => Calls.spliced_nil ?_))))
  subst ey
  obtain ⟨tk, rfl⟩ := ry
  have hm3 := PySem.W.mapOf_K (prog := X.prog) (w := X.w) I3.kIn D.at_ D.lit
  refine call_meetsIn PySem.F.slot_dict_get hm3.typeIs PySem.F.entry_dict_get (PySem.F.args_dict_get_3 _ _ _) (meets_dict_get_default (strKind X.prog X.w) d (PySem.strKind_is X.prog X.w tt tk) D.low fv) ⟨_, hm3, ?_⟩
  rw [PySem.W.find_K D.at_ er]
  cases r with
  | none => exact ⟨z, H3, I3.tok _, rz, q3 rfl⟩
  | some u0 =>
    obtain ⟨v0, r0, q⟩ := q4 u0 rfl
    exact ⟨v0, H3, I3.tok _, r0, q⟩
/-! ### repr of data -/
def rRepr (K : PySem.W.Frag) : List V → Hp → VK → Prop := fun xs H Q => ∃ (a : Addr) (d : PyData), xs = [.ref a] ∧ Dp K H (.ref a) d ∧ d.showable = true ∧ d.hasDict = false ∧ d.depth ≤ 4 ∧ d.shown.length ≤ sizeLine ∧ Q (.str d.shown) H
theorem cr_repr {X : Cx} (hg : X.A.guards = some []) (hu : X.A.units + 64 < cLine) : CallR X (.builtin "repr") (rRepr X.K) := by
  intro pins s σ H xs us Q I r h
  obtain ⟨a, d, rfl, hd, h1, h2, h3, h4, q⟩ := h
  rw [Vals.ref1 r]
  obtain ⟨as, rd⟩ := Dp.reads I d _ _ hd rfl
  exact repr_of_reads' rd h1 (fun e => by rw [h2] at e; cases e) hg (by omega) (fun _ _ e => e) (fun h' u tk hk => ⟨.str d.shown, H, I.kept (t' := tk) hk, ⟨u, rfl⟩, q⟩) h4
/-! ### a def that wants to be called at a place where nothing is shown -/
structure FnG (P : Program) (w : World) (K : PySem.W.Frag) (mg : Str → Option Value) (base : Heap) (CX : CXT) (k : Nat) (f : Addr) (fd : FuncData) (ps : List Str) (sp : Sp) : Prop where
  len : ∀ vs H Q E, sp vs H Q E → vs.length = ps.length
  run : ∀ (A : Around) (outer : List Env) (s : Shared) (H : Hp) (args : Args) (us : List Value) (vs : List V) (Q : VK) (E : XK), A.guards = some [] → Room k A → Env0 P w K mg base A outer s H → BindsTo s fd args (ps.zip us) → Vals vs us → sp vs H Q E →
    codeAny (model P w) A (.call (.ref f) args) (CR CX outer P w H s Q E) s
section
variable {P : Program} {w : World} {K : PySem.W.Frag} {mg : Str → Option Value} {base : Heap}
theorem fn_ofG {CX : CXT} {k : Nat} {f : Addr} {name qual : Str} {params : Arguments} {body : List Stmt} {scope : Scope} {dV kV doc pm cdv ct oc : Value} {an od : Option Addr}
    {osl : Array (Option Value)} {N ps : List Str} {sp : Sp} (lk : K.lookup f = some ⟨oc, od, .func (PySem.W.fnOf name qual params body scope dV kV doc pm an cdv ct), osl⟩) (hcd : PySem.W.codeIn K cdv qual = true) (S : FnScope N ps scope)
    (len : ∀ vs H Q E, sp vs H Q E → vs.length = ps.length)
    (hbody : ∀ (A : Around) (outer : List Env) (s : Shared) (H : Hp) (vs : List V) (Q : VK) (E : XK), A.guards = some [] → Room k (A.deeper (envOfC qual scope s.heap.objs.size f cdv)) → sp vs H Q E →
      ∃ t, PSs (cxOf CX P w K mg base N qual scope f cdv A outer s H E) body t ∧ t { nx := fun _ H' => Q .non H', rt := Q } (start N vs) H) :
    FnG P w K mg base CX (k + 1) f (PySem.W.fnOf name qual params body scope dV kV doc pm an cdv ct) ps sp := by
  refine ⟨len, fun A outer s H args us vs Q E hg hr e0 hb r hsp => ?_⟩
  have hl := len _ _ _ _ hsp
  have KX : K.In s.heap := e0.mod.kin.keeps fun b o e => (e0.bs b o e).1
  have lim : s.heap.NoLimit := e0.mod.nolimit.keeps fun b o e => (e0.bs b o e).1
  have hkind : ∀ y ∈ ps.zip us, scope.names.lookup y.1 = some .local ∨ (scope.names.lookup y.1 = some .cell ∧ ((cellsFrom (s.heap.objs.size + 1) scope.names []).lookup y.1).isSome = true) := fun ⟨n, v⟩ hy => by
    rcases S.par n (List.of_mem_zip hy).1 with q | q
    · exact .inl q
    · exact .inr ⟨q, PySem.W.cellsFrom_some _ _ _ (.inl q)⟩
  refine codeAny_call_function hr.depth (KX _ _ lk) rfl S.co S.gen rfl (PySem.W.codeRec_of KX hcd) (hb _ _ _ _ ?_)
  refine wpAny_newFunctionEnv_cells S.kind hkind fun env he s1 x => ?_
  subst he
  refine ⟨lim.keeps x.toInCall.keep, codeAny_func ?_⟩
  obtain ⟨t, ht, hq⟩ := hbody A outer s H vs Q E hg (hr.deeper _) hsp
  have I : Inv (cxOf CX P w K mg base N qual scope f cdv A outer s H E) [] (start N vs) H s1 := inv_start S hr.hd e0 hl r x
  refine wpAny_mono (ht.run [] s1 (start N vs) H _ I hq) (fun fl s' hs => ?_) fun e s' hs => hs
  have fin : ∀ {σ' : St} {H' : Hp} {v : V} {u : Value}, Inv (cxOf CX P w K mg base N qual scope f cdv A outer s H E) [] σ' H' s' → RelV v u → Q v H' → CE outer P w H s Q u s' :=
    fun {σ' H' v u} J rv q => ⟨v, H', J.os, J.bare, J.base, J.hok, rv, q⟩
  cases fl with
  | ret u =>
    obtain ⟨v, σ', H', J, rv, q⟩ := hs
    exact fin J rv q
  | next =>
    obtain ⟨σ', H', J, q⟩ := hs
    exact fin (v := V.non) (u := Value.none) J rfl q
  | brk =>
    obtain ⟨_, _, _, q⟩ := hs
    exact False.elim q
  | cont =>
    obtain ⟨_, _, _, q⟩ := hs
    exact False.elim q
theorem Fun.okG {x qual : Str} {st : Stmt} {f : Addr} {fd : FuncData} {N ps : List Str} {k : Nat} {sp : Sp} (F : Fun K x qual st f fd) (S : FnScope N ps (defScope st)) (len : ∀ vs H Q E, sp vs H Q E → vs.length = ps.length)
    (hbody : ∀ (cdv : Value) (A : Around) (outer : List Env) (s : Shared) (H : Hp) (vs : List V) (Q : VK) (E : XK), A.guards = some [] → Room k (A.deeper (envOfC qual (defScope st) s.heap.objs.size f cdv)) → sp vs H Q E →
      ∃ t, PSs (cxOf CX0 P w K mg base N qual (defScope st) f cdv A outer s H E).nox (defBody st) t ∧ t { nx := fun _ H' => Q .non H', rt := Q } (start N vs) H) : FnG P w K mg base CX0 (k + 1) f fd ps sp := by
  obtain ⟨oc, od, kV, doc, pm, an, cdv, ct, osl, rfl, lk, hcd⟩ := F.ex
  refine fn_ofG lk hcd S len fun A outer s H vs Q E hg hr hsp => ?_
  obtain ⟨t, h, q⟩ := hbody cdv A outer s H vs Q E hg hr hsp
  exact ⟨t, h.nox, q⟩
end
theorem guards_deeper {A : Around} {env : Env} (h : A.guards = some []) : (A.deeper env).guards = some [] := h
section
variable {X : Cx} {CX : CXT} {k : Nat} {f C : Addr} {fd : FuncData} {ps : List Str} {sp : Sp} {dvs : List V} {ds : List Value} {E : XK} {x m : Str} {p pos apos : Pos} {e o : Expr} {es : List Expr} {ta : TE} {t : TA}
theorem pe_callG' (F : FnG X.prog X.w X.K X.mg X.base CX k f fd ps sp) (hgd : X.A.guards = some []) (hr : Room k X.A) (hg : Gl X x) (hm : X.mg x = some (.ref f)) (hk : PySem.W.keepIn X.K (.ref f) = true) (hb : Binds X.K fd ps ds) (hd : Vals dvs ds) (hx : Passes CX X E)
    (ha : PA X (e :: es) t) (hdb : (x == ("__debug__" : Str)) = false := by decide) (he : starEach (e :: es) X.env = (false, eval e X.env) :: starEach es X.env := by rfl) (hpl : (backTo pos (starEach es X.env)).any (·.1) = false := by rfl) :
    PE X (.Call (.Name x p) (e :: es) [] pos) (tCall sp dvs E t) := by
  refine ⟨fun pins s σ H Q I h => ?_⟩
  refine wpAny_Call_Name_kw (ld_glob I hg hm ?_ hdb)
  refine PySem.W.callWith_K (h₀ := X.base) I.ok.mod.kin hk (thn (ha.run pos pins s σ H _ I h) fun us s1 ⟨vs, H1, I1, r, q⟩ => ⟨I1.kIn, ?_⟩) he hpl
  have r2 : Vals (vs ++ dvs) (us ++ ds) := r.append hd
  have hl : (us ++ ds).length = ps.length := by rw [← r2.length]; exact F.len _ _ _ _ q
  refine wpAny_call (codeAny_mono (F.run X.A X.stack s1 H1 ⟨us, []⟩ (us ++ ds) (vs ++ dvs) Q E hgd hr I1.env0 (hb s1 us I1.kIn hl) r2 q) fun r s' hq => ?_)
  cases r with
  | error e => exact hx pins σ H1 s1 e s' I1 hq
  | ok fl =>
    cases fl with
    | ret u => exact I1.after hq
    | next => exact False.elim hq
    | brk => exact False.elim hq
    | cont => exact False.elim hq
end
end L2
end
section
set_option maxHeartbeats 4000000
namespace L2
open PySem PySem.Spec PyProof.Rows
open LamX (Tabs ExtN TabB CodeO lamCx lamEnv)
open PySem.W (iter_listW)
/-- a lambda of one parameter, no other name of its own -/
structure LamS1 (sc scope : Scope) (a : Str) : Prop where
  kind : scope.kind = .function
  co : scope.isCoroutine = false
  gen : scope.isGenerator = false
  par : scope.names.lookup a = some .local
  own : ∀ y ∈ scope.names, y.2 ≠ .cell ∧ (y.2 = .local → y.1 = a)
  free : ∀ y ∈ scope.names, y.2 = .free → sc.names.lookup y.1 = some .cell ∨ sc.names.lookup y.1 = some .free
def lamSB1 (sc scope : Scope) (a : Str) : Bool :=
  decide (scope.kind = .function) && !scope.isCoroutine && !scope.isGenerator && decide (scope.names.lookup a = some .local) && scope.names.all fun y => !decide (y.2 = .cell) && (!decide (y.2 = .local) || decide (y.1 = a)) && (!decide (y.2 = .free) || decide (sc.names.lookup y.1 = some .cell) || decide (sc.names.lookup y.1 = some .free))
theorem lamS1_by {sc scope : Scope} {a : Str} (h : lamSB1 sc scope a = true) : LamS1 sc scope a := by
  unfold lamSB1 at h
  simp only [Bool.and_eq_true, Bool.or_eq_true, Bool.not_eq_true', decide_eq_true_eq, decide_eq_false_iff_not, List.all_eq_true] at h
  obtain ⟨⟨⟨⟨h1, h2⟩, h3⟩, h4⟩, h5⟩ := h
  refine ⟨h1, h2, h3, h4, fun y hy => ⟨(h5 y hy).1.1, fun e => ?_⟩, fun y hy e => ?_⟩
  · rcases (h5 y hy).1.2 with z | z
    · exact absurd e z
    · exact z
  · rcases (h5 y hy).2 with (z | z) | z
    · exact absurd e z
    · exact .inl z
    · exact .inr z
theorem LamS1.has {X : Cx} {scope : Scope} {a : Str} (L : LamS1 X.env.scope scope a) (ok : X.Ok) : ∀ y ∈ scope.names, y.2 = .free → ∃ c, X.env.cells.lookup y.1 = some c := fun y hy e => by
  rcases L.free y hy e with k | k
  · exact ok.has _ (.inl k)
  · exact ok.has _ (.inr k)
section
variable {X : Cx} {pins : List (Addr × Obj)} {σ : St} {H : Hp} {s : Shared}
theorem lam_start3 {A : Around} {outer : List Env} {E : XK} {scope : Scope} {a : Str} {i : Nat} {x : V} {u : Value} {f c' : Addr} {h₁ : Heap} {tk : Nat} (I : Inv X pins σ H s) (L : LamS1 X.env.scope scope a) (hN : X.N.Nodup) (hi : X.N[i]? = some a) (ru : RelV x u)
    (e0 : Env0 X.prog X.w X.K X.mg X.base A outer s H) (hd : A.handled = none)
    (hns : h₁.Ns s.heap.objs.size fun y => ([(a, u)] : List (Str × Value)).reverse.lookup y) (kp : ∀ b o, s.heap.get? b = some o → h₁.get? b = some o) :
    Inv (lamCx X A outer s H E scope f c') [] (σ.set i (some x)) H { s with heap := h₁, toks := tk } := by
  have hfree := L.has I.ok
  have cm : ∀ {y c}, (cloFrom X.env.cells scope.names []).lookup y = some c → X.env.cells.lookup y = some c := fun {y c} e => by
    rcases cloFrom_mem (PySem.mem_of_lookup e) with hm | ⟨h1, h2⟩
    · cases hm
    · obtain ⟨c1, hc⟩ := hfree _ h1 rfl
      have hc : X.env.cells.lookup y = some c1 := hc
      have e2 : c = c1 := by
        rw [h2, hc] <;> rfl
      rw [e2]
      exact hc
  have look : ∀ {y}, scope.names.lookup y = some .free → ∃ c, (cloFrom X.env.cells scope.names []).lookup y = some c := fun {y} hl => by
    have hy : (y, NameKind.free) ∈ scope.names := PySem.mem_of_lookup hl
    exact L2.mem_lookup (cloFrom_has (cells := X.env.cells) (acc := []) hy)
  have cellK : ∀ {c : Addr} {v : Option Value}, s.heap.IsCell c v → h₁.IsCell c v := fun {c v} ⟨o, ho, hd⟩ => ⟨o, kp _ _ ho, hd⟩
  have noA : ∀ b : Addr, b ∉ (lamCx X A outer s H E scope f c').ex := fun b z => absurd (show b ∈ ([] : List Addr) from z) (by simp)
  refine ⟨⟨e0.mod, L.kind, rfl, rfl, Nat.le_refl _, fun y z c e1 e2 => I.ok.inj y z c (cm e1) (cm e2), fun y hy => ?_, fun y c z _ => ?_, fun _ => hd, Around.frames_deeper e0.frames, .inr ⟨rfl, rfl⟩, fun b z => absurd z (noA b), e0.bs, e0.bsz, fun b _ _ => noA b,
      fun b z => absurd z (noA b), e0.funs, e0.frf⟩,
    rfl, e0.bare, Un.kept kp, ⟨_, hns, fun j y v e1 e2 e3 => ?_⟩, fun y c e => ?_, e0.hok.fresh (Nat.le_refl _), fun y c e => I.freeC y c (cm e), fun q hq => absurd (show q ∈ ([] : List (Addr × Obj)) ++ [] from hq) (by simp), e0.hok.kept kp, by rw [List.length_set]; exact I.len⟩
  · have hy : scope.names.lookup y = some .cell ∨ scope.names.lookup y = some .free := hy
    rcases hy with hy | hy
    · exact absurd rfl (L.own _ (PySem.mem_of_lookup hy)).1
    · exact look hy
  · have z : false = true := z
    cases z
  · have e3 : Vis scope y := e3
    have e1 : X.N[j]? = some y := e1
    rcases e3 with k | k | k
    · have ey : y = a := (L.own _ (PySem.mem_of_lookup k)).2 rfl
      subst ey
      have ej : j = i := nd_ix hN e1 hi
      subst ej
      have hlt : j < σ.length := by rw [I.len]; exact (List.getElem?_eq_some_iff.mp hi).1
      rw [List.getElem?_set_self hlt] at e2
      cases e2
      exact ⟨u, ru, .inl ⟨k, by simp⟩⟩
    · exact absurd rfl (L.own _ (PySem.mem_of_lookup k)).1
    · have ny : y ≠ a := fun z => by
        rw [z, L.par] at k
        cases k
      have nj : i ≠ j := fun z => by
        subst z
        rw [hi] at e1
        cases e1
        exact ny rfl
      rw [List.getElem?_set_ne nj] at e2
      obtain ⟨m, hn, hl⟩ := I.loc
      have hvis : Vis X.env.scope y := (L.free _ (PySem.mem_of_lookup k) rfl).elim (fun k => .inr (.inl k)) (fun k => .inr (.inr k))
      obtain ⟨w', r, q⟩ := hl j y v e1 e2 hvis
      obtain ⟨c2, h2⟩ := look k
      refine ⟨w', r, .inr ⟨.inr k, c2, h2, ?_⟩⟩
      have c1 := cm h2
      rcases q with ⟨k', _⟩ | ⟨_, c3, e', z⟩
      · have k' : X.env.scope.names.lookup y = some .local := k'
        rcases L.free _ (PySem.mem_of_lookup k) rfl with k2 | k2 <;> rw [show X.env.scope.names.lookup y = _ from k2] at k' <;> cases k'
      · rw [c1] at e'
        cases e'
        exact cellK z
  · obtain ⟨w', z⟩ := I.cell y c (cm e)
    exact ⟨w', cellK z⟩
/-- the lambda at f, called with one value -/
theorem lam_call1 {A : Around} {f c' : Addr} {a : Str} {i : Nat} {x : V} {u : Value} {pm ctv : Value} {params : Arguments} {body : Expr} {scope : Scope} {k : Nat} {tb : TE} {Q : VK} {E : Value → Shared → Prop} {R : Value → Shared → Prop}
    (hA : A.frames = X.A.frames) (hr : Room (k + 1) A)
    (I : Inv X pins σ H s) (L : LamS1 X.env.scope scope a) (hN : X.N.Nodup) (hi : X.N[i]? = some a)
    (hf : s.heap.get? f = some (PySem.W.kla_obj "<lambda>" (X.env.qual ++ "<lambda>") params body scope (cloFrom X.env.cells scope.names []) pm c' ctv)) (hc : H c' = some (CodeO c' (X.env.qual ++ "<lambda>")))
    (hbind : bindArgs (PySem.W.kla_fn "<lambda>" (X.env.qual ++ "<lambda>") params body scope (cloFrom X.env.cells scope.names []) pm (.ref c') ctv) ⟨[u], []⟩ = pure [(a, u)])
    (hbody : ∀ (outer : List Env) (s : Shared) (H : Hp), Room k (A.deeper (lamEnv X scope s.heap.objs.size f c')) → PE (lamCx X A outer s H E0 scope f c') body tb)
    (ru : RelV x u) (ht : tb (σ.set i (some x)) H Q)
    (h : ∀ v r H' s', Inv X pins σ H' s' → RelV v r → Q v H' → (∀ b o, s.heap.get? b = some o → H b = none → b ∉ frs X.stack → s'.heap.get? b = some o) → R r s') :
    wpAny (model X.prog X.w) A (call (.ref f) [u]) R E s := by
  have e0 : Env0 X.prog X.w X.K X.mg X.base A X.stack s H := ⟨hA.trans I.ok.frames, I.ok.mod, I.bs, Nat.le_trans I.ok.bsz I.sz, I.stack, I.stkFree, I.hok, I.bare⟩
  obtain ⟨⟨oc, vs, t, hoc, hdc, hvc⟩, _, _⟩ := I.hok c' _ hc
  have rc : codeAny (model X.prog X.w) A (.call (.ref f) ⟨[u], []⟩) (CR (L2.CX X.prog X.w) X.stack X.prog X.w H s Q E0) s := by
    refine PySem.W.kla_callFunE hr.depth hf rfl L.co L.gen rfl ⟨c', oc, vs, t, rfl, hoc, hdc, hvc⟩ ?_
    rw [hbind]
    refine wpAny_pure (wpAny_newFunctionEnv (fun y hy => (L.own y hy).1) (fun y hy => ?_) (fun h₁ hns hsb => ⟨I.nolimit.fresh _ hsb, ?_⟩) L.kind)
    · have z := List.mem_singleton.mp hy
      subst z
      exact L.par
    show codeAny _ _ (.expr body (lamEnv X scope s.heap.objs.size f c')) _ _
    have kp : ∀ b o, s.heap.get? b = some o → h₁.get? b = some o := fun b o e => hsb.extBut b o (Nat.ne_of_lt (Heap.lt_size e)) (Heap.get?_push_of_some _ e)
    have J : Inv (lamCx X A X.stack s H E0 scope f c') [] (σ.set i (some x)) H { s with heap := h₁, toks := s.toks + ([(a, u)] : List (Str × Value)).length } :=
      lam_start3 I L hN hi ru e0 hr.hd hns kp
    refine PySem.W.kla_codeExpr (wpAny_mono ((hbody X.stack s H (hr.deeper _)).run [] _ _ H Q J ht) (fun v s' hq => ?_) fun e s' hq => hq)
    obtain ⟨w', H', J', rv, q⟩ := hq
    exact ⟨w', H', J'.os, J'.bare, J'.base, J'.hok, rv, q⟩
  refine wpAny_call (codeAny_mono rc fun r s' hq => ?_)
  cases r with
  | error e =>
    obtain ⟨_, _, _, _, _, _, _, _, _, _, _, _, _, _, _, _, z⟩ := (show L2.CX X.prog X.w X.stack H s E0 e s' from hq)
  | ok fl =>
    cases fl with
    | ret u' =>
      have hq : CE X.stack X.prog X.w H s Q u' s' := hq
      obtain ⟨v, H', I', r', q'⟩ := I.after hq
      obtain ⟨_, _, _, _, un, _, _, _⟩ := hq
      exact h v u' H' s' I' r' q' fun b o e n nb => un.keep b o e n nb (by simp)
    | next => exact False.elim hq
    | brk => exact False.elim hq
    | cont => exact False.elim hq
end
/-- min(e, key=lambda a: body) over a list of ints; i: the slot of a -/
def tMinK (T : List (Addr × Str)) (te : TE) (i : Nat) (tb : TE) : TE := fun σ H Q => te σ H fun x H0 => ∃ (a : Addr) (ns : List Int), x = .ref a ∧ H0 a = some (.lst (ns.map V.int)) ∧ ns ≠ [] ∧ Tabs T H0 ∧ ∀ H1, ExtN H0 H1 → Tabs T H1 →
  ∃ g : Int → Int, (∀ n ∈ ns, ∀ o, tb (σ.set i (some (.int n))) (upd H1 a (.frz o (.lst (ns.map V.int)))) fun v H3 => v = .int (g n) ∧ H3 = upd H1 a (.frz o (.lst (ns.map V.int)))) ∧ ∀ n ∈ ns, (∀ m ∈ ns, g n ≤ g m) → Q (.int n) H1
section
variable {X : Cx}
theorem pe_minK {T : List (Addr × Str)} {c P : Addr} {k i : Nat} {a : Str} {e : Expr} {te tb : TE} {params : Arguments} {body : Expr} {scope : Scope} {p lpos kpos pos : Pos}
    (hg : Gl X "min") (hm : X.mg "min" = none) (he : PE X e te)
    (TB : TabB X.base X.mg c P) (hcode : X.env.code = .ref c) (hmT : (P, X.env.qual ++ "<lambda>") ∈ T) (hu : ∀ p ∈ T, p.1 = P → p.2 = X.env.qual ++ "<lambda>") (hr : Room (k + 2) X.A) (hcalm : X.calm = true)
    (L : LamS1 X.env.scope scope a) (hN : X.N.Nodup) (hi : X.N[i]? = some a) (hdef : defaultsOf params X.env = ([], []))
    (hbind : ∀ (q : Str) (cl : List (Str × Addr)) (pm cv ctv u : Value), bindArgs (PySem.W.kla_fn "<lambda>" q params body scope cl pm cv ctv) ⟨[u], []⟩ = pure [(a, u)])
    (hbody : ∀ (A : Around) (outer : List Env) (s : Shared) (H : Hp) (f c' : Addr), Room k (A.deeper (lamEnv X scope s.heap.objs.size f c')) → PE (lamCx X A outer s H E0 scope f c') body tb)
    (hbe : backTo pos (starEach [e] X.env) = (false, eval e X.env) :: backTo pos (starEach [] X.env) := by rfl) (hpl : (backTo pos (starEach [e] X.env)).any (·.1) = false := by rfl) :
    PE X (.Call (.Name "min" p) [e] [⟨some "key", .Lambda params body scope lpos, kpos⟩] pos) (tMinK T te i tb) := by
  refine ⟨fun pins s σ H Q I h => ?_⟩
  refine wpAny_Call_Name_kw (ld_blt I hg hm (show bootBuiltins "min" = some (.builtin "min") from by decide +kernel) ?_)
  refine PyProof.Rows.callWith_kw ?_ hbe hpl
  rw [hbe]
  refine Calls.spliced_cons (thn (he.run pins s σ H _ I h) fun u s0 ⟨x, H0, I0, r0, q0⟩ => ?_)
  obtain ⟨la, ns, ev, hl, hne, hT, q⟩ := q0
  subst ev
  obtain rfl : u = Value.ref la := r0
  refine Calls.spliced_nil ?_
  show wpAny _ _ (evalAll ((do let v ← eval (.Lambda params body scope lpos) X.env; standAt pos; pure v) :: [])) _ _ s0
  refine wpAny_evalAll_cons (wpAny_bind (LamX.lam_make2 I0 TB hcode hmT hu hT hdef (L.has I0.ok) fun f c' pm ctv H1 s1 I1 eN T1 hf hfn hfr hco => wpAny_bind (wpAny_standAt (wpAny_pure ?_))))
  refine wpAny_evalAll_nil ?_
  show wpAny _ _ (call (.builtin "min") [.ref la] [(Str.ofString "key", .ref f)]) _ _ s1
  obtain ⟨g, hg1, hg2⟩ := q H1 eN T1
  have hl1 : H1 la = some (.lst (ns.map V.int)) := eN _ _ hl fun ps z => by cases z
  obtain ⟨od, IL⟩ := I1.lock hl1 True.intro
  obtain ⟨hod, hz, its, n0, rv, hod2⟩ := IL.hok la _ upd_same
  have hisl : s1.heap.IsList la its.toArray := ⟨_, hod2, rfl, n0, rfl⟩
  have hlen : its.length = ns.length := by
    have := rv.length
    rw [List.length_map] at this
    exact this.symm
  have hpos : 0 < ns.length := List.length_pos_iff.mpr hne
  have fla : f ≠ la := fun z => by rw [z, hl1] at hfn; cases hfn
  have hLf : upd H1 la (.frz od (.lst (ns.map V.int))) f = none := by rw [upd_ne fla]; exact hfn
  have cla : c' ≠ la := fun z => by rw [z, hl1] at hco; cases hco
  have hLc : upd H1 la (.frz od (.lst (ns.map V.int))) c' = some (CodeO c' (X.env.qual ++ "<lambda>")) := by rw [upd_ne cla]; exact hco
  have intAt : ∀ (j : Nat) (v : Value), its.toArray[j]? = some v → ∃ z t, ns[j]? = some z ∧ v = .int z t := fun j v e => by
    have e : its[j]? = some v := by simpa using e
    have hj : j < its.length := (List.getElem?_eq_some_iff.mp e).1
    have e2 : (ns.map V.int)[j]? = some (.int (ns[j]'(by omega))) := by
      rw [List.getElem?_map, List.getElem?_eq_getElem (by omega)]; rfl
    obtain ⟨u, hu, ru⟩ := rv.get e2
    rw [e] at hu
    cases hu
    obtain ⟨t, rfl⟩ := ru
    exact ⟨_, t, List.getElem?_eq_getElem (by omega), rfl⟩
  refine PySem.call_min_walkK (iter_listW (A := X.A.in1) (I.ok.hd hcalm) hisl fun s₂ e2 W st hfp hw hk => ?_)
  subst e2
  have IL2 : Inv X pins σ (upd H1 la (.frz od (.lst (ns.map V.int)))) { s1 with heap := s1.heap.push { cls := .type "list_iterator", data := .fields #[.ref la, .int 0 0] } } := IL.kept (t' := s1.toks) fun b o e => Heap.get?_push_of_some _ e
  have hsz2 : (s1.heap.push { cls := .type "list_iterator", data := .fields #[.ref la, .int 0 0] }).objs.size = s1.heap.objs.size + 1 := Heap.size_push ..
  have freshIt : FpOk X pins (upd H1 la (.frz od (.lst (ns.map V.int)))) s1.heap.objs.size := IL.fpOk (Nat.le_refl _) (IL.hok.fresh (Nat.le_refl _))
  have freshS : FpOk X pins (upd H1 la (.frz od (.lst (ns.map V.int)))) (s1.heap.push { cls := .type "list_iterator", data := .fields #[.ref la, .int 0 0] }).objs.size := IL2.fpOk (Nat.le_refl _) (IL2.hok.fresh (Nat.le_refl _))
  have flt : f < s1.heap.objs.size := Heap.lt_size hf
  have notfr : ∀ b, FpOk X pins (upd H1 la (.frz od (.lst (ns.map V.int)))) b → b ∉ frs X.stack := fun b hb z => (List.mem_cons.mp (I1.stkSub b z)).elim hb.2.1 hb.2.2.1
  refine ⟨_, _, _, _, _, _, _, fun s' => Inv X pins σ (upd H1 la (.frz od (.lst (ns.map V.int)))) s' ∧ s'.heap.get? f = some (PySem.W.kla_obj "<lambda>" (X.env.qual ++ "<lambda>") params body scope (cloFrom X.env.cells scope.names []) pm c' ctv),
    fun j v _ => ∃ t, v = .int (g (ns.getD j 0)) t, fun j j' => decide (g (ns.getD j 0) < g (ns.getD j' 0)), rfl, W, st, hfp, by rw [List.size_toArray, hlen]; exact hpos, ⟨?_, fun _ _ _ _ h _ => h, ?_, ?_⟩, ⟨IL2, Heap.get?_push_of_some _ hf⟩, ?_⟩
  · -- what min itself turns
    intro sa sb ⟨Ia, fa⟩ m
    have m1 : ∀ b o, b ∉ [(s1.heap.push { cls := .type "list_iterator", data := .fields #[.ref la, .int 0 0] }).objs.size, s1.heap.objs.size] → sa.heap.get? b = some o → sb.heap.get? b = some o := m.heap
    obtain ⟨hb, gb, db, tb', ob⟩ := sb
    obtain rfl : gb = sa.gens := m.gens
    obtain rfl : db = sa.drawn := m.drawn
    obtain rfl : ob = sa.os := m.os
    refine ⟨Ia.turnedL (t' := tb') m1 fun b hb => ?_, m1 f _ (fun z => ?_) fa⟩
    · have z : b = (s1.heap.push { cls := .type "list_iterator", data := .fields #[.ref la, .int 0 0] }).objs.size ∨ b = s1.heap.objs.size := by simpa using hb
      rcases z with z | z
      · rw [z]; exact freshS
      · rw [z]; exact freshIt
    · have z : f = (s1.heap.push { cls := .type "list_iterator", data := .fields #[.ref la, .int 0 0] }).objs.size ∨ f = s1.heap.objs.size := by simpa using z
      rw [hsz2] at z
      rcases z with z | z
      · exact absurd (show s1.heap.objs.size + 1 < s1.heap.objs.size from by rw [← z]; exact flt) (by omega)
      · exact absurd z (Nat.ne_of_lt flt)
  · -- one turn: the lambda is called
    intro j v sa o Q' E' hj hP ⟨Ia, fa⟩ sta hS hQ'
    obtain ⟨z, t, ez, rfl⟩ := intAt j v hP
    have hzm : z ∈ ns := List.mem_of_getElem? ez
    refine lam_call1 (k := k) (x := .int z) rfl hr.in1 Ia L hN hi fa hLc (hbind _ _ _ _ _ _) (fun outer s H hr' => hbody _ outer s H f c' hr') ⟨t, rfl⟩ (hg1 z hzm od) fun v' r H' sb Ib rr qv keep => ?_
    obtain ⟨rfl, rfl⟩ := qv
    obtain ⟨t', rfl⟩ := rr
    obtain ⟨⟨oi, hoi, ci, di⟩, _⟩ := sta
    have hlb : sb.heap.get? la = some od := (Ib.hok la _ upd_same).1
    refine hQ' _ sb ⟨Ib, keep f _ fa hLf hfr⟩ ⟨⟨oi, keep _ _ hoi freshIt.1 (notfr _ freshIt), ci, di⟩, ⟨od, hlb, ?_⟩⟩ (keep _ _ hS freshS.1 (notfr _ freshS)) ⟨t', by rw [List.getD_eq_getElem?_getD, ez]; rfl⟩ fun _ _ h => h
    obtain ⟨o1, e1, r1⟩ := hisl
    rw [hod] at e1
    cases e1
    exact r1
  · intro j j' kj kj' sa Q' E' _ hj hj' hq
    obtain ⟨t, rfl⟩ := hj
    obtain ⟨t', rfl⟩ := hj'
    exact CmpOf.ints_lt (prog := X.prog) (w := X.w) (A := X.A.in1) (P := fun i v => ∃ t, v = .int (g (ns.getD i 0)) t) (fun i => g (ns.getD i 0)) (fun i v h => h) j j' _ _ _ _ _ ⟨t, rfl⟩ ⟨t', rfl⟩ hq
  · intro v sb hP ⟨Ib, _⟩
    have hn : its.toArray.size - 1 = ns.length - 1 := by rw [List.size_toArray, hlen]
    rw [hn] at hP
    obtain ⟨b1, b2⟩ := PySem.argBest_lt (fun i => g (ns.getD i 0)) (ns.length - 1)
    generalize argBest (fun j j' => decide (g (ns.getD j 0) < g (ns.getD j' 0))) (ns.length - 1) = r at hP b1 b2
    obtain ⟨z, t, ez, rfl⟩ := intAt r v hP
    have hzm : z ∈ ns := List.mem_of_getElem? ez
    have e1 : upd (upd H1 la (.frz od (.lst (ns.map V.int)))) la (.lst (ns.map V.int)) = H1 := by
      rw [upd_upd]
      funext b
      by_cases hb : b = la
      · rw [hb, upd_same, hl1]
      · rw [upd_ne hb]
    have Iu := Ib.unlock upd_same (I1.nofrz hl1 True.intro)
    rw [e1] at Iu
    refine ⟨.int z, H1, Iu, ⟨t, rfl⟩, hg2 z hzm fun m hm => ?_⟩
    obtain ⟨j, hj, rfl⟩ := List.mem_iff_getElem.mp hm
    have := b2 j (by omega)
    rw [List.getD_eq_getElem?_getD, ez, List.getD_eq_getElem?_getD, List.getElem?_eq_getElem hj] at this
    exact this
end
end L2
end
section
set_option maxHeartbeats 4000000
namespace SF
open PySem PySem.Spec PyProof.Rows L2
def topS (i : Nat) : Stmt := PySem.Challenge.pw_stepforms_k46_whole_all_answers_in_a_box.main.body.getD i (.Pass ⟨0, 0, 0, 0⟩)
/-! ### calls -/
structure Cal (P : Program) (w : World) (K : PySem.W.Frag) (mg : Str → Option Value) (base : Heap) (k : Nat) (x : Str) (ps : List Str) (sp : Sp) : Prop where
  ex : ∃ f fd, FnOk P w K mg base CX0 k f fd ps sp ∧ mg x = some (.ref f) ∧ PySem.W.keepIn K (.ref f) = true ∧ Binds K fd ps []
theorem pe_cal {X : Cx} {k : Nat} {x : Str} {ps : List Str} {sp : Sp} {e : Expr} {es : List Expr} {t : TA} {p pos : Pos} (C : Cal X.prog X.w X.K X.mg X.base k x ps sp) (hr : Room k X.A) (hg : Gl X x) (ha : PA X (e :: es) t)
    (hdb : (x == ("__debug__" : Str)) = false := by decide) (he : starEach (e :: es) X.env = (false, eval e X.env) :: starEach es X.env := by rfl) (hpl : (backTo pos (starEach es X.env)).any (·.1) = false := by rfl) :
    PE X (.Call (.Name x p) (e :: es) [] pos) (tCall sp [] E0 t) := by
  obtain ⟨f, fd, F, hm, hk, hb⟩ := C.ex
  exact pe_call F hr hg hm hk hb .nil pass0 ha hdb he hpl
/-- a def whose code object is known -/
structure FunC (K : PySem.W.Frag) (x qual : Str) (st : Stmt) (f : Addr) (fd : FuncData) (c : Addr) : Prop where
  ex : ∃ (oc : Value) (od : Option Addr) (kV doc pm : Value) (an : Option Addr) (ct : Value) (osl : Array (Option Value)),
    fd = PySem.W.fnOf x qual (defArgs st) (defBody st) (defScope st) .none kV doc pm an (.ref c) ct ∧ K.lookup f = some ⟨oc, od, .func fd, osl⟩ ∧ PySem.W.codeIn K (.ref c) qual = true
  kp : PySem.W.keepIn K (.ref f) = true
theorem FunC.fun {K : PySem.W.Frag} {x qual : Str} {st : Stmt} {f : Addr} {fd : FuncData} {c : Addr} (F : FunC K x qual st f fd c) : Fun K x qual st f fd := by
  obtain ⟨⟨oc, od, kV, doc, pm, an, ct, osl, h1, h2, h3⟩, h4⟩ := F
  exact ⟨⟨oc, od, kV, doc, pm, an, _, ct, osl, h1, h2, h3⟩, h4⟩
theorem FunC.ok {P : Program} {w : World} {K : PySem.W.Frag} {mg : Str → Option Value} {base : Heap} {x qual : Str} {st : Stmt} {f : Addr} {fd : FuncData} {c : Addr} {N ps : List Str} {k : Nat} {sp : Sp} (F : FunC K x qual st f fd c) (S : FnScope N ps (defScope st)) (len : ∀ vs H Q E, sp vs H Q E → vs.length = ps.length)
    (hbody : ∀ (A : Around) (outer : List Env) (s : Shared) (H : Hp) (vs : List V) (Q : VK) (E : XK), Room k (A.deeper (envOfC qual (defScope st) s.heap.objs.size f (.ref c))) → sp vs H Q E →
      ∃ t, PSs (cxOf CX0 P w K mg base N qual (defScope st) f (.ref c) A outer s H E).nox (defBody st) t ∧ t { nx := fun _ H' => Q .non H', rt := Q } (start N vs) H) : FnOk P w K mg base CX0 (k + 1) f fd ps sp := by
  obtain ⟨oc, od, kV, doc, pm, an, ct, osl, rfl, lk, hcd⟩ := F.ex
  refine fn_of lk hcd S len fun A outer s H vs Q E hr hsp => ?_
  obtain ⟨t, h, q⟩ := hbody A outer s H vs Q E hr hsp
  exact ⟨t, h.nox, q⟩
/-- the built-in names of the text are the built-ins -/
structure Blt (mg : Str → Option Value) : Prop where
  len : mg "len" = none
  abs : mg "abs" = none
  int : mg "int" = none
  bool : mg "bool" = none
  str : mg "str" = none
  isinstance : mg "isinstance" = none
  tuple : mg "tuple" = none
  list : mg "list" = none
  max : mg "max" = none
  min : mg "min" = none
  range : mg "range" = none
  zip : mg "zip" = none
  enumerate : mg "enumerate" = none
  repr : mg "repr" = none
/-! ### rules whose reading names K -/
def rTupOf (K : PySem.W.Frag) : List V → Hp → VK → Prop := fun xs H Q => ∃ p ys, xs = [.ref p] ∧ ((SqL K H p ys ∧ ∀ l, H l = none → Q (.ref l) (upd H l (.tup ys))) ∨ (SqT K H p ys ∧ Q (.ref p) H))
def rListOf (K : PySem.W.Frag) : List V → Hp → VK → Prop := fun xs H Q => ∃ p ys, xs = [.ref p] ∧ (SqL K H p ys ∨ SqT K H p ys) ∧ ∀ l, H l = none → Q (.ref l) (upd H l (.lst ys))
def rLenS (K : PySem.W.Frag) : List V → Hp → VK → Prop := fun xs H Q => ∃ p ys, xs = [.ref p] ∧ (SqL K H p ys ∨ SqT K H p ys) ∧ Q (.int ys.length) H
theorem call_tup {X : Cx} : CallR X (.type "tuple") (rTupOf X.K) := call_tuple_of
theorem call_lst {X : Cx} : CallR X (.type "list") (rListOf X.K) := call_list_of
theorem call_lenS {X : Cx} : CallR X (.builtin "len") (rLenS X.K) := call_len_seq
theorem pi_tupK {X : Cx} {K : PySem.W.Frag} {tg l : Expr} {tl : TE} (hK : X.K = K) (hl : PE X l tl) : PI X tg l (iTup K tl) := hK ▸ pi_tup hl
theorem pi_listK {X : Cx} {K : PySem.W.Frag} {tg l : Expr} {tl : TE} (hK : X.K = K) (hl : PE X l tl) : PI X tg l (iList K tl) := hK ▸ pi_list hl
theorem pg_tupK {X : Cx} {K : PySem.W.Frag} {es : List Expr} {k : Nat} {pos : Pos} {t : TGs} {n : Nat} (hK : X.K = K) (hc : X.calm = true) (h : PGs X es t)
    (hn : (assignEach es X.env).length = n := by rfl) (hst : (assignEach es X.env).findIdx? (·.1) = none := by rfl) : PG X (.Tuple es k pos) (gTup K n t) := hK ▸ pg_tup hc h hn hst
/-! ### heaps -/
theorem _root_.L2.Same.push {H H' : Hp} {p : Addr} {o : HO} (h : Same H H') (n : H' p = none) : Same H (upd H' p o) := fun b x e => by
  rw [upd_ne (ne_of_none (h b x e) n)]
  exact h b x e
theorem same1 {H : Hp} {p : Addr} {o : HO} (n : H p = none) : Same H (upd H p o) := Same.push (Same.refl H) n
/-- all but what stands at the addresses of S is as it was -/
def But (S : List Addr) (H H' : Hp) : Prop := ∀ b o, b ∉ S → H b = some o → H' b = some o
theorem But.refl (S : List Addr) (H : Hp) : But S H H := fun _ _ _ h => h
theorem But.trans {S : List Addr} {H H1 H2 : Hp} (a : But S H H1) (b : But S H1 H2) : But S H H2 := fun c o n h => b c o n (a c o n h)
theorem But.of {S : List Addr} {H H' : Hp} (h : Same H H') : But S H H' := fun b o _ e => h b o e
theorem But.mono {S S' : List Addr} {H H' : Hp} (h : But S H H') (hs : ∀ a ∈ S, a ∈ S') : But S' H H' := fun b o n e => h b o (fun z => n (hs b z)) e
theorem But.push {S : List Addr} {H H' : Hp} {p : Addr} {o : HO} (h : But S H H') (n : H' p = none) : But S H (upd H' p o) := fun b x nb e => by
  rw [upd_ne (ne_of_none (h b x nb e) n)]
  exact h b x nb e
theorem But.write {S : List Addr} {H H' : Hp} {p : Addr} {o : HO} (h : But S H H') (m : p ∈ S) : But S H (upd H' p o) := fun b x nb e => by
  rw [upd_ne (fun z => nb (by rw [z]; exact m))]
  exact h b x nb e
theorem But.same {S : List Addr} {H H1 H2 : Hp} (a : But S H H1) (b : Same H1 H2) : But S H H2 := fun c o n h => b c o (a c o n h)
/-- what is read of tuples and of the top's lists stays -/
def TK (K : PySem.W.Frag) (H H' : Hp) : Prop := ∀ a xs, SqT K H a xs → SqT K H' a xs
theorem TK.refl (K : PySem.W.Frag) (H : Hp) : TK K H H := fun _ _ h => h
theorem TK.trans {K : PySem.W.Frag} {H H1 H2 : Hp} (a : TK K H H1) (b : TK K H1 H2) : TK K H H2 := fun c o h => b c o (a c o h)
theorem seqT_same {K : PySem.W.Frag} {H H' : Hp} {a : Addr} {xs : List V} (e : Same H H') (h : SqT K H a xs) : SqT K H' a xs := by
  rcases h with (h | ⟨o, h⟩) | h
  · exact .inl (.inl (e _ _ h))
  · exact .inl (.inr ⟨o, e _ _ h⟩)
  · exact .inr h
theorem _root_.L2.Same.tk {K : PySem.W.Frag} {H H' : Hp} (e : Same H H') : TK K H H' := fun _ _ h => seqT_same e h
/-- the addresses of S hold lists (or dicts): no tuple stands there -/
theorem But.tk {K : PySem.W.Frag} {S : List Addr} {H H' : Hp} (e : But S H H') (hS : ∀ a ∈ S, ∃ xs, H a = some (.lst xs)) : TK K H H' := fun a xs h => by
  rcases h with (h | ⟨o, h⟩) | h
  · exact .inl (.inl (e _ _ (fun z => by obtain ⟨ys, q⟩ := hS a z; rw [q] at h; cases h) h))
  · exact .inl (.inr ⟨o, e _ _ (fun z => by obtain ⟨ys, q⟩ := hS a z; rw [q] at h; cases h) h⟩)
  · exact .inr h
/-! ### rows, tables -/
def RowA (K : PySem.W.Frag) (H : Hp) (v : V) (r : List Int) : Prop := ∃ a, v = .ref a ∧ SqT K H a (r.map V.int)
def RowsA (K : PySem.W.Frag) (H : Hp) (v : V) (rs : List (List Int)) : Prop := ∃ a vs, v = .ref a ∧ SqT K H a vs ∧ Paired (RowA K H) vs rs
def TabA (K : PySem.W.Frag) (H : Hp) (v : V) (w : Nat) (rs : List (List Int)) : Prop := ∃ a x, v = .ref a ∧ SqT K H a [.int (w : Nat), x] ∧ RowsA K H x rs
theorem Paired.imp {α β : Type} {R R' : α → β → Prop} (f : ∀ a b, R a b → R' a b) : ∀ {xs : List α} {ys : List β}, Paired R xs ys → Paired R' xs ys
  | _, _, .nil => .nil
  | _, _, .cons r t => .cons (f _ _ r) (Paired.imp f t)
theorem RowA.tk {K : PySem.W.Frag} {H H' : Hp} {v : V} {r : List Int} (t : TK K H H') (h : RowA K H v r) : RowA K H' v r := let ⟨a, e, q⟩ := h; ⟨a, e, t _ _ q⟩
theorem RowsA.tk {K : PySem.W.Frag} {H H' : Hp} {v : V} {rs : List (List Int)} (t : TK K H H') (h : RowsA K H v rs) : RowsA K H' v rs := let ⟨a, vs, e, q, p⟩ := h; ⟨a, vs, e, t _ _ q, Paired.imp (fun _ _ z => RowA.tk t z) p⟩
theorem TabA.tk {K : PySem.W.Frag} {H H' : Hp} {v : V} {w : Nat} {rs : List (List Int)} (t : TK K H H') (h : TabA K H v w rs) : TabA K H' v w rs := let ⟨a, x, e, q, p⟩ := h; ⟨a, x, e, t _ _ q, RowsA.tk t p⟩
theorem Paired.get {α β : Type} {R : α → β → Prop} : ∀ {xs : List α} {ys : List β} {i : Nat} {x : α}, Paired R xs ys → xs[i]? = some x → ∃ y, ys[i]? = some y ∧ R x y
  | _, _, _, _, .nil, e => by simp at e
  | _, _, 0, _, .cons r _, e => by simp at e; subst e; exact ⟨_, rfl, r⟩
  | _, _, i + 1, x, .cons _ t, e => by
    obtain ⟨u, h1, h2⟩ := Paired.get (i := i) (x := x) t (by simpa using e)
    exact ⟨u, by simpa using h1, h2⟩
theorem Paired.get2 {α β : Type} {R : α → β → Prop} : ∀ {xs : List α} {ys : List β} {i : Nat} {y : β}, Paired R xs ys → ys[i]? = some y → ∃ x, xs[i]? = some x ∧ R x y
  | _, _, _, _, .nil, e => by simp at e
  | _, _, 0, _, .cons r _, e => by simp at e; subst e; exact ⟨_, rfl, r⟩
  | _, _, i + 1, x, .cons _ t, e => by
    obtain ⟨u, h1, h2⟩ := Paired.get2 (i := i) (y := x) t (by simpa using e)
    exact ⟨u, by simpa using h1, h2⟩
theorem Paired.set {α β : Type} {R : α → β → Prop} {x : α} {y : β} (r : R x y) : ∀ {xs : List α} {ys : List β} (i : Nat), Paired R xs ys → Paired R (xs.set i x) (ys.set i y)
  | _, _, _, .nil => .nil
  | _, _, 0, .cons _ t => .cons r t
  | _, _, i + 1, .cons q t => .cons q (Paired.set r i t)
theorem Paired.app {α β : Type} {R : α → β → Prop} : ∀ {xs xs' : List α} {ys ys' : List β}, Paired R xs ys → Paired R xs' ys' → Paired R (xs ++ xs') (ys ++ ys')
  | _, _, _, _, .nil, s => s
  | _, _, _, _, .cons r t, s => .cons r (Paired.app t s)
theorem Paired.take' {α β : Type} {R : α → β → Prop} : ∀ {xs : List α} {ys : List β} (n : Nat), Paired R xs ys → Paired R (xs.take n) (ys.take n)
  | _, _, 0, _ => .nil
  | _, _, _ + 1, .nil => .nil
  | _, _, n + 1, .cons r t => .cons r (Paired.take' n t)
theorem Paired.drop' {α β : Type} {R : α → β → Prop} : ∀ {xs : List α} {ys : List β} (n : Nat), Paired R xs ys → Paired R (xs.drop n) (ys.drop n)
  | _, _, 0, r => r
  | _, _, _ + 1, .nil => .nil
  | _, _, n + 1, .cons r t => Paired.drop' n t
theorem Paired.rev {α β : Type} {R : α → β → Prop} : ∀ {xs : List α} {ys : List β}, Paired R xs ys → Paired R xs.reverse ys.reverse
  | _, _, .nil => .nil
  | _, _, .cons r t => by
    rw [List.reverse_cons, List.reverse_cons]
    exact Paired.app (Paired.rev t) (.cons r .nil)
/-! ### ints -/
theorem mapInt_get {r : List Int} {i : Nat} {x : V} (h : (r.map V.int)[i]? = some x) : ∃ z, r[i]? = some z ∧ x = .int z := by
  rw [List.getElem?_map] at h
  cases e : r[i]? with
  | none => rw [e] at h; cases h
  | some z => rw [e] at h; exact ⟨z, rfl, (Option.some.inj h).symm⟩
theorem mapInt_at {r : List Int} {i : Nat} {z : Int} (h : r[i]? = some z) : (r.map V.int)[i]? = some (.int z) := by
  rw [List.getElem?_map, h]; rfl
theorem getD_at {r : List Int} {i : Nat} (h : i < r.length) : r[i]? = some (r.getD i 0) := by
  rw [List.getD_eq_getElem?_getD, List.getElem?_eq_getElem h]; rfl
theorem getD_row {r : List (List Int)} {i : Nat} (h : i < r.length) : r[i]? = some (r.getD i []) := by
  rw [List.getD_eq_getElem?_getD, List.getElem?_eq_getElem h]; rfl
theorem len1000 {n : Nat} (h : n ≤ 1000) : n ≤ sizeLine := Nat.le_trans h (by decide)
end SF
end
section
set_option maxHeartbeats 0
namespace SF
open PySem PySem.Spec PyProof.Rows L2
def lawI : Nat := 58
def loose0 : List Str := ["FormError", "NoDeed", "NOUGHT", "is_whole", "common_divisor", "fraction_of", "fraction_sum", "fraction_times", "fraction_over", "row_parts", "unit_row", "unit", "row_times", "free_rows", "answer_at", "numbers_of", "LENGTHS", "is_place", "is_deed", "look_at", "rows_behind", "done", "deeds_table", "contrary_deed", "led_back", "lead_on", "clear_below", "clear_above", "steps_deeds", "steps_paper"]
def loose1 : List Str := ["lead_in", "taken", "levelled", "barring", "answers_paper", "_law_feed", "_law_draw", "_law_number", "_law_row", "_law_table", "_law_row_times", "_law_unit", "_law_stepped", "_law_laid", "_law_own_paper", "_law_free", "_law_otherwise", "_law_box", "_law_box_right"]
def looseN : List Str := loose0 ++ loose1
def fnN : List (Nat × Str) := [(5, "is_whole"), (13, "unit_row"), (14, "unit"), (15, "row_times"), (17, "free_rows"), (18, "answer_at"), (19, "numbers_of"), (22, "is_place"), (23, "is_deed"), (24, "look_at"), (25, "rows_behind"), (26, "done"), (27, "deeds_table"), (28, "contrary_deed"), (29, "led_back"), (31, "lead_on"), (32, "clear_below"), (33, "clear_above"), (34, "steps_deeds"), (35, "steps_paper")]
def fnM : List (Nat × Str) := [(37, "lead_in"), (38, "taken"), (42, "answers_paper"), (44, "_law_feed"), (45, "_law_draw"), (46, "_law_number"), (47, "_law_row"), (48, "_law_table"), (49, "_law_row_times"), (50, "_law_unit"), (51, "_law_stepped"), (52, "_law_laid"), (53, "_law_own_paper"), (54, "_law_free"), (55, "_law_otherwise"), (56, "_law_box"), (57, "_law_box_right"), (58, "law")]
def frN : List Str := ["len", "abs", "int", "bool", "str", "isinstance", "tuple", "list", "max", "min", "range", "zip", "enumerate", "repr"]
def mkD (x : Nat × Str) : He.DefD := ⟨(x.2, none), x.2, x.2, defArgs (topS x.1), defBody (topS x.1), defScope (topS x.1), [], []⟩
def fnA : List He.DefD := (fnN ++ fnM).map mkD
def faA : List He.Fa := (fnN ++ fnM).map (fun x => He.Fa.glo x.2) ++ (He.Fa.glo "LENGTHS" :: frN.map He.Fa.free)
def tsA : List He.Tab := [(fun K => He.ga K "LENGTHS", ["swap", "turn", "add"])]
def tfA : List He.Defn := [("clear_below", none)]
def isI (o : Option (Option Value)) (n : Int) : Bool := match o with
  | some (some (.int i _)) => decide (i = n)
  | _ => false
def exA (K : PySem.W.Frag) : Bool := isI (PySem.W.nsIn K (He.ga K "LENGTHS") "swap") 3 && (isI (PySem.W.nsIn K (He.ga K "LENGTHS") "turn") 2 && isI (PySem.W.nsIn K (He.ga K "LENGTHS") "add") 4)
abbrev Rw : PySem.W.OpenRow := PySem.W.OpenLaw.row PySem.Challenge.rw_stepforms_k46_whole_all_answers_in_a_box
abbrev hkA : PySem.W.Hook := He.hookX 4 faA fnA tsA tfA exA
def obA (s : PySem.W.SharedT) : He.AlX := He.obsX 4 faA fnA tsA tfA exA (HandSHeadRun.getT s)
theorem obA_eq (s : PySem.W.SharedT) : obA s = hkA.obs s.abs := He.obsX_eq (HandSHeadRun.getT_eq s)
theorem runA (w : World) : HandSHeadRun.RunEq Rw (PySem.W.view Rw.prog [lawI]) hkA obA 4000 looseN w := by
  refine PySem.W.byRow2 "special-get-raises" (P := fun w => HandSHeadRun.RunEq Rw (PySem.W.view Rw.prog [lawI]) hkA obA 4000 looseN w) ?_ ?_ w
  · intro w os; kernel_rfl
  · intro w os; kernel_rfl
end SF
end
section
set_option maxHeartbeats 4000000
namespace SF
open PySem PySem.Spec PyProof.Rows L2
/-- the reading of a comprehension whose turns change nothing that stands: R tells of the i-th thing, p which are kept -/
theorem lc_flt {J : It} {n : Nat} {G : Hp → Prop} {Y : Nat → Hp → V → Hp → Prop} (w : Walk J n G Y) {g : TG} {tt : TT} {te : TE} {vs : List Nat} {σ : L2.St} {H1 : Hp} {D : Addr} {Qd : Hp → Prop} (hD : H1 D = none) (R : Nat → V → Hp → Prop) (p : Nat → Bool)
    (hR : ∀ i v H H', (∃ xs, H D = some (.lst xs)) → But [D] H H' → R i v H → R i v H') (hG : ∀ H, Same H1 H → G H) (hn : n < sizeLine)
    (hb : ∀ i x H H' (K : V → Hp → Prop) (N : Hp → Prop), i < n → Same H1 H → (∃ xs, H D = some (.lst xs)) → Y i H x H' → (∀ y H4, Same H H4 → R i y H4 → p i = true → K y H4) → (∀ H4, Same H H4 → p i = false → N H4) →
      g x (wipe σ vs) H' fun σ2 H2 => wipe σ2 vs = wipe σ vs ∧ tt σ2 H2 fun b H3 => if b = true then te σ2 H3 K else N H3)
    (hq : ∀ H ys, Same H1 H → H D = some (.lst ys) → Paired (fun y i => R i y H) ys ((List.range n).filter p) → Qd H) :
    ∃ W : Nat → Nat → Hp → Prop, (∃ m, W 0 m (upd H1 D (.lst []))) ∧ ∀ i m H, W i m H →
      (J.stop i H ∧ Qd H) ∨ (J.go i H ∧ ∃ Nx : Hp → Prop, (∀ H', Nx H' → ∃ m', m' < m ∧ W (i + 1) m' H') ∧ ∀ x H', J.yld i H x H' → g x (wipe σ vs) H' fun σ2 H2 => wipe σ2 vs = wipe σ vs ∧ tt σ2 H2 fun b H3 =>
        if b = true then te σ2 H3 fun y H4 => ∃ acc, H4 D = some (.lst acc) ∧ acc.length < sizeLine ∧ Nx (upd H4 D (.lst (acc ++ [y]))) else Nx H3) := by
  refine lc_it w (fun i H => Same H1 H ∧ ∃ ys, H D = some (.lst ys) ∧ Paired (fun y j => R j y H) ys ((List.range i).filter p)) ⟨same1 hD, [], upd_same, .nil⟩ (fun i H _ q => hG H q.1) ?_ fun H ⟨sm, ys, e, hp⟩ => hq H ys sm e hp
  intro i x H H' hi ⟨sm, ys, e, hp⟩ hy
  have hl : ys.length < sizeLine := by
    have h1 : ys.length = ((List.range i).filter p).length := Paired.length hp
    have h2 := List.length_filter_le p (List.range i)
    rw [List.length_range] at h2
    omega
  refine hb i x H H' _ _ hi sm ⟨ys, e⟩ hy (fun y H4 s4 r hpi => ⟨ys, s4 _ _ e, hl, fun b o eb => ?_, ys ++ [y], upd_same, ?_⟩) fun H4 s4 hpi => ⟨sm.trans s4, ys, s4 _ _ e, ?_⟩
  · rw [upd_ne (ne_of_none eb hD)]
    exact s4 _ _ (sm _ _ eb)
  · rw [List.range_succ, List.filter_append, show [i].filter p = [i] from by simp [hpi]]
    have b4 : But [D] H4 (upd H4 D (.lst (ys ++ [y]))) := (But.refl [D] H4).write (by simp)
    refine Paired.app (Paired.imp (fun v j q => hR j v H4 _ ⟨ys, s4 _ _ e⟩ b4 (hR j v H H4 ⟨ys, e⟩ (But.of s4) q)) hp) (.cons (hR i y H4 _ ⟨ys, s4 _ _ e⟩ b4 r) .nil)
  · rw [List.range_succ, List.filter_append, show [i].filter p = [] from by simp [hpi], List.append_nil]
    exact Paired.imp (fun v j q => hR j v H H4 ⟨ys, e⟩ (But.of s4) q) hp
theorem filter_all (n : Nat) : (List.range n).filter (fun _ => true) = List.range n := by simp
/-- every thing is kept -/
theorem lc_all {J : It} {n : Nat} {G : Hp → Prop} {Y : Nat → Hp → V → Hp → Prop} (w : Walk J n G Y) {g : TG} {te : TE} {vs : List Nat} {σ : L2.St} {H1 : Hp} {D : Addr} {Qd : Hp → Prop} (hD : H1 D = none) (R : Nat → V → Hp → Prop)
    (hR : ∀ i v H H', (∃ xs, H D = some (.lst xs)) → But [D] H H' → R i v H → R i v H') (hG : ∀ H, Same H1 H → G H) (hn : n < sizeLine)
    (hb : ∀ i x H H' (K : V → Hp → Prop), i < n → Same H1 H → (∃ xs, H D = some (.lst xs)) → Y i H x H' → (∀ y H4, Same H H4 → R i y H4 → K y H4) → g x (wipe σ vs) H' fun σ2 H2 => wipe σ2 vs = wipe σ vs ∧ te σ2 H2 K)
    (hq : ∀ H ys, Same H1 H → H D = some (.lst ys) → Paired (fun y i => R i y H) ys (List.range n) → Qd H)
    (hg : ∀ x σ H (A B : L2.St → Hp → Prop), (∀ σ H, A σ H → B σ H) → g x σ H A → g x σ H B) :
    ∃ W : Nat → Nat → Hp → Prop, (∃ m, W 0 m (upd H1 D (.lst []))) ∧ ∀ i m H, W i m H →
      (J.stop i H ∧ Qd H) ∨ (J.go i H ∧ ∃ Nx : Hp → Prop, (∀ H', Nx H' → ∃ m', m' < m ∧ W (i + 1) m' H') ∧ ∀ x H', J.yld i H x H' → g x (wipe σ vs) H' fun σ2 H2 => wipe σ2 vs = wipe σ vs ∧ tYes σ2 H2 fun b H3 =>
        if b = true then te σ2 H3 fun y H4 => ∃ acc, H4 D = some (.lst acc) ∧ acc.length < sizeLine ∧ Nx (upd H4 D (.lst (acc ++ [y]))) else Nx H3) :=
  lc_flt w hD R (fun _ => true) hR hG hn (fun i x H H' K N hi sm hx hy k _ => hg _ _ _ _ _ (fun σ H q => ⟨q.1, iteT (B := N H) q.2⟩) (hb i x H H' K hi sm hx hy fun y H4 s4 r => k y H4 s4 r rfl)) fun H ys sm e hp => hq H ys sm e (by rw [filter_all] at hp; exact hp)
theorem g_name {i : Nat} (x : V) (σ : L2.St) (H : Hp) (A B : L2.St → Hp → Prop) (h : ∀ σ H, A σ H → B σ H) (q : gName i x σ H A) : gName i x σ H B := h _ _ q
theorem g_pair {K : PySem.W.Frag} {i j : Nat} (x : V) (σ : L2.St) (H : Hp) (A B : L2.St → Hp → Prop) (h : ∀ σ H, A σ H → B σ H) (q : gTup K 2 (gCons (gName i) (gCons (gName j) gNil)) x σ H A) : gTup K 2 (gCons (gName i) (gCons (gName j) gNil)) x σ H B := by
  obtain ⟨a, xs, e1, e2, e3, v, r, e4, v2, r2, e5, e6, e7⟩ := q
  exact ⟨a, xs, e1, e2, e3, v, r, e4, v2, r2, e5, e6, h _ _ e7⟩
theorem paired_of {α β : Type} {R : α → β → Prop} : ∀ {xs : List α} {ys : List β}, xs.length = ys.length → (∀ (i : Nat) x y, xs[i]? = some x → ys[i]? = some y → R x y) → Paired R xs ys
  | [], [], _, _ => .nil
  | [], _ :: _, h, _ => by simp at h
  | _ :: _, [], h, _ => by simp at h
  | x :: xs, y :: ys, h, f => .cons (f 0 x y rfl rfl) (paired_of (by simpa using h) fun i a b ha hb => f (i + 1) a b (by simpa using ha) (by simpa using hb))
theorem paired_range {R : V → Nat → Prop} {ys : List V} {n i : Nat} {y : V} (p : Paired R ys (List.range n)) (e : ys[i]? = some y) : i < n ∧ R y i := by
  obtain ⟨j, ej, r⟩ := Paired.get p e
  have hi : i < n := by
    have := (List.getElem?_eq_some_iff.mp ej).1
    simpa using this
  rw [List.getElem?_range hi] at ej
  cases ej
  exact ⟨hi, r⟩
theorem ixN_n {n j : Nat} (h : j < n) : ixN n (j : Int) = some j := by
  unfold ixN
  rw [if_pos (Int.natCast_nonneg j), if_pos (by omega), Int.toNat_natCast]
theorem walk_rg {n : Nat} : Walk (Itr 0 n) n (fun _ => True) (YFn fun i => .int (i : Nat)) := walk_range.mono (fun _ h => h) fun i H x H' _ _ y => ⟨y.1, by rw [y.2]; show V.int (0 + (i : Int)) = V.int (i : Int); rw [Int.zero_add]⟩
theorem walk_rg2 {lo n : Nat} : Walk (Itr (lo : Nat) n) n (fun _ => True) (YFn fun i => .int ((lo + i : Nat) : Int)) := walk_range.mono (fun _ h => h) fun i H x H' _ _ y => ⟨y.1, by rw [y.2]; show V.int ((lo : Int) + (i : Int)) = V.int ((lo + i : Nat) : Int); rw [Int.natCast_add]⟩
/-- ints made by f -/
def RInt (f : Nat → Int) : Nat → V → Hp → Prop := fun i v _ => v = .int (f i)
theorem rInt_keep {D : Addr} (f : Nat → Int) : ∀ i v H H', (∃ xs, H D = some (.lst xs)) → But [D] H H' → RInt f i v H → RInt f i v H' := fun _ _ _ _ _ _ q => q
theorem ints_of {f : Nat → Int} {H : Hp} : ∀ {ys : List V} {l : List Nat}, Paired (fun y i => RInt f i y H) ys l → ys = (l.map f).map V.int
  | _, _, .nil => rfl
  | _, _, .cons r t => by rw [List.map_cons, List.map_cons, ← ints_of t, show _ = _ from r]
/-- rows (tuples of ints) -/
def RRow (K : PySem.W.Frag) (f : Nat → List Int) : Nat → V → Hp → Prop := fun i v H => RowA K H v (f i)
theorem rRow_keep {D : Addr} (K : PySem.W.Frag) (f : Nat → List Int) : ∀ i v H H', (∃ xs, H D = some (.lst xs)) → But [D] H H' → RRow K f i v H → RRow K f i v H' := fun _ _ _ _ h b q => RowA.tk (b.tk fun a m => by
  rw [List.mem_singleton.mp m]
  exact h) q
theorem rows_of {K : PySem.W.Frag} {f : Nat → List Int} {H : Hp} : ∀ {ys : List V} {l : List Nat}, Paired (fun y i => RRow K f i y H) ys l → Paired (RowA K H) ys (l.map f)
  | _, _, .nil => .nil
  | _, _, .cons r t => .cons r (rows_of t)
/-- a pair that was just laid for a, b in a target -/
theorem pair_in {K : PySem.W.Frag} {i j : Nat} {T : Addr} {x y : V} {σ : L2.St} {H : Hp} {A : L2.St → Hp → Prop} (h : A ((σ.set i (some x)).set j (some y)) (upd H T (.tup [x, y]))) :
    gTup K 2 (gCons (gName i) (gCons (gName j) gNil)) (.ref T) σ (upd H T (.tup [x, y])) A := ⟨T, [x, y], rfl, .inl (.inl upd_same), rfl, x, [y], rfl, y, [], rfl, rfl, h⟩
end SF
end
section
set_option maxHeartbeats 4000000
namespace SF
open PySem PySem.Spec PyProof.Rows L2
/-! ### data -/
def dI (r : List Int) : List PyData := r.map PyData.int
def dR (rs : List (List Int)) : List PyData := rs.map fun r => PyData.tuple (dI r)
theorem dp_ints {K : PySem.W.Frag} {H : Hp} : ∀ r : List Int, DpAll K H (r.map V.int) (dI r)
  | [] => .nil
  | z :: r => .cons (.int z) (dp_ints r)
theorem dp_rows {K : PySem.W.Frag} {H : Hp} : ∀ {vs : List V} {rs : List (List Int)}, Paired (RowA K H) vs rs → DpAll K H vs (dR rs)
  | _, _, .nil => .nil
  | _, _, .cons ⟨a, e, h⟩ t => by
    subst e
    exact .cons (.tup h (dp_ints _)) (dp_rows t)
theorem dp_row {K : PySem.W.Frag} {H : Hp} {v : V} {r : List Int} (h : RowA K H v r) : Dp K H v (.tuple (dI r)) := by
  obtain ⟨a, rfl, h⟩ := h
  exact .tup h (dp_ints _)
theorem dp_lst {K : PySem.W.Frag} {H : Hp} {a : Addr} {r : List Int} (h : H a = some (.lst (r.map V.int))) : Dp K H (.ref a) (.list (dI r)) := .lst (SqL.of h) (dp_ints _)
theorem dp_nil {K : PySem.W.Frag} {H : Hp} {a : Addr} (h : H a = some (.lst [])) : Dp K H (.ref a) (.list []) := .lst (SqL.of h) .nil
theorem lay_ints : ∀ r : List Int, PyData.canLayAll0 (dI r) = true ∧ PyData.depthAll (dI r) = 0
  | [] => ⟨rfl, rfl⟩
  | z :: r => by
    obtain ⟨h1, h2⟩ := lay_ints r
    exact ⟨by show (PyData.canLay0 (.int z) && PyData.canLayAll0 (dI r)) = true; rw [h1]; simp [PyData.canLay0], by show max (PyData.depth (.int z)) (PyData.depthAll (dI r)) = 0; rw [h2]; simp [PyData.depth]⟩
theorem lay_rows : ∀ rs : List (List Int), PyData.canLayAll0 (dR rs) = true ∧ PyData.depthAll (dR rs) ≤ 1
  | [] => ⟨rfl, Nat.zero_le _⟩
  | r :: rs => by
    obtain ⟨h1, h2⟩ := lay_rows rs
    obtain ⟨h3, h4⟩ := lay_ints r
    refine ⟨by show (PyData.canLay0 (.tuple (dI r)) && PyData.canLayAll0 (dR rs)) = true; rw [h1]; simp [PyData.canLay0, h3], ?_⟩
    show max (PyData.depth (.tuple (dI r))) (PyData.depthAll (dR rs)) ≤ 1
    simp only [PyData.depth, h4]
    omega
theorem sh_l (r : List Int) : SeqAt.shaped (.list (dI r)) = true := by
  obtain ⟨h1, h2⟩ := lay_ints r
  simp [SeqAt.shaped, PyData.canLay0, PyData.depth, h1, h2]
theorem sh_t (r : List Int) : SeqAt.shaped (.tuple (dI r)) = true := by
  obtain ⟨h1, h2⟩ := lay_ints r
  simp [SeqAt.shaped, PyData.canLay0, PyData.depth, h1, h2]
theorem sh_ls (rs : List (List Int)) : SeqAt.shaped (.list (dR rs)) = true := by
  obtain ⟨h1, h2⟩ := lay_rows rs
  simp [SeqAt.shaped, PyData.canLay0, PyData.depth, h1]
  omega
theorem sh_nil : SeqAt.shaped (.list []) = true := by decide
theorem eqv_nil : ∀ ds : List PyData, PyData.eqv (.list ds) (.list []) = ds.isEmpty
  | [] => by simp [PyData.eqv, PyData.eqvAll]
  | _ :: _ => by simp [PyData.eqv, PyData.eqvAll]
theorem eqvAll_ints : ∀ r s : List Int, PyData.eqvAll (dI r) (dI s) = decide (r = s)
  | [], [] => by simp [dI, PyData.eqvAll]
  | [], _ :: _ => by simp [dI, PyData.eqvAll]
  | _ :: _, [] => by simp [dI, PyData.eqvAll]
  | x :: r, y :: s => by
    have := eqvAll_ints r s
    simp only [dI] at this
    simp only [dI, List.map_cons, PyData.eqvAll, PyData.eqv, this, List.cons.injEq, Bool.decide_and]
    rfl
theorem eqv_tup (r s : List Int) : PyData.eqv (.tuple (dI r)) (.tuple (dI s)) = decide (r = s) := by
  simp only [PyData.eqv]
  exact eqvAll_ints r s
/-! ### slices -/
theorem cut_drop {xs : List V} {n : Nat} : cutV xs (some (n : Int)) none = xs.drop n := by
  unfold cutV
  rw [HT.sIx_nat, HT.sIx_none]
  by_cases h : n ≤ xs.length
  · rw [Nat.min_eq_left h, List.take_of_length_le (by rw [List.length_drop]; exact Nat.le_refl _)]
  · rw [Nat.min_eq_right (by omega), List.drop_eq_nil_of_le (Nat.le_refl _), List.drop_eq_nil_of_le (by omega)]
    simp
theorem cut_take {xs : List V} {n : Nat} : cutV xs none (some (n : Int)) = xs.take n := by
  unfold cutV
  rw [HT.sIx_nat, HT.sIx_none, List.drop_zero, Nat.sub_zero]
  by_cases h : n ≤ xs.length
  · rw [Nat.min_eq_left h]
  · rw [Nat.min_eq_right (by omega), List.take_of_length_le (Nat.le_refl _), List.take_of_length_le (by omega)]
theorem whole_drop {xs : List V} {n : Nat} (h : HT.sIx xs.length 0 (some (n : Int)) = 0 ∧ HT.sIx xs.length xs.length none = xs.length) : xs.drop n = xs := by
  have h1 := h.1
  rw [HT.sIx_nat] at h1
  rcases Nat.eq_zero_or_pos n with e | e
  · rw [e, List.drop_zero]
  · have : xs.length = 0 := by omega
    rw [List.length_eq_zero_iff] at this
    subst this
    simp
theorem whole_take {xs : List V} {n : Nat} (h : HT.sIx xs.length 0 none = 0 ∧ HT.sIx xs.length xs.length (some (n : Int)) = xs.length) : xs.take n = xs := by
  have h1 := h.2
  rw [HT.sIx_nat] at h1
  exact List.take_of_length_le (by omega)
theorem rd_take {K : PySem.W.Frag} {H : Hp} {a : Addr} {xs : List V} {n : Nat} {R : VK} (h : SqT K H a xs) (q : ∀ p H', Same H H' → SqT K H' p (xs.take n) → R (.ref p) H') : rSlA K (.ref a) none (some (n : Int)) H R :=
  ⟨a, xs, rfl, h, fun z => q a H (Same.refl H) (by rw [whole_take z]; exact h), fun _ p np => q p _ (same1 np) (by rw [cut_take]; exact SqT.of upd_same)⟩
theorem rd_drop {K : PySem.W.Frag} {H : Hp} {a : Addr} {xs : List V} {n : Nat} {R : VK} (h : SqT K H a xs) (q : ∀ p H', Same H H' → SqT K H' p (xs.drop n) → R (.ref p) H') : rSlA K (.ref a) (some (n : Int)) none H R :=
  ⟨a, xs, rfl, h, fun z => q a H (Same.refl H) (by rw [whole_drop z]; exact h), fun _ p np => q p _ (same1 np) (by rw [cut_drop]; exact SqT.of upd_same)⟩
/-! ### papers -/
def PapA (K : PySem.W.Frag) (H : Hp) (v : V) (one : List Int) (w m : Nat) (F A B : List (List Int)) : Prop :=
  ∃ a o f t b, v = .ref a ∧ SqT K H a [.str "answers", o, f, t, b] ∧ RowA K H o one ∧ TabA K H f w F ∧ TabA K H t m A ∧ TabA K H b m B
theorem PapA.tk {K : PySem.W.Frag} {H H' : Hp} {v : V} {one : List Int} {w m : Nat} {F A B : List (List Int)} (t : TK K H H') (h : PapA K H v one w m F A B) : PapA K H' v one w m F A B :=
  let ⟨a, o, f, u, b, e, q, h1, h2, h3, h4⟩ := h; ⟨a, o, f, u, b, e, t _ _ q, h1.tk t, h2.tk t, h3.tk t, h4.tk t⟩
theorem iteN {c A B : Prop} [Decidable c] (h : ¬ c) (b : B) : if c then A else B := by rw [if_neg h]; exact b
theorem iteP {c A B : Prop} [Decidable c] (h : c) (a : A) : if c then A else B := by rw [if_pos h]; exact a
end SF
end
section
set_option maxHeartbeats 4000000
namespace SF
open PySem PySem.Spec PyProof.Rows L2
theorem tup_ints {K : PySem.W.Frag} {H : Hp} {D : Addr} {r : List Int} {Q : VK} (e : H D = some (.lst (r.map V.int))) (q : ∀ H' v, Same H H' → RowA K H' v r → Q v H') : rTupOf K [.ref D] H Q :=
  ⟨D, _, rfl, .inl ⟨SqL.of e, fun l hl => q _ _ (same1 hl) ⟨l, rfl, SqT.of upd_same⟩⟩⟩
section
variable {P : Program} {w : World} {K : PySem.W.Frag} {mg : Str → Option Value} {base : Heap} {f : Addr} {fd : FuncData}
/-! ### is_whole: thing 0; cells - -/
abbrev st_is_whole : Stmt := topS 5
abbrev sl_is_whole : List Str := ["thing"]
theorem sc_is_whole : FnScope sl_is_whole ["thing"] (defScope st_is_whole) := ⟨rfl, rfl, rfl, by decide +kernel, rfl, by decide +kernel, by decide +kernel⟩
-- calls ; built-ins bool int isinstance; level 1
def sp_is_whole (K : PySem.W.Frag) : Sp := fun vs H Q _ => ∃ i, vs = [.int i] ∧ Q (.bl true) H
theorem ok_is_whole (M : Blt mg) (F : Fun K "is_whole" "is_whole" st_is_whole f fd) (hm : mg "is_whole" = some (.ref f)) : Cal P w K mg base 1 "is_whole" ["thing"] (sp_is_whole K) := by
  refine ⟨f, fd, F.ok sc_is_whole (fun vs H Q E h => ?_) (fun cdv A outer s H vs Q E hr h => ?_), hm, F.kp, F.binds fun _ _ _ _ _ _ us hl => match us, hl with | [_], _ => rfl⟩
  · obtain ⟨i, rfl, _⟩ := h
    rfl
  · obtain ⟨i, rfl, q⟩ := h
    refine ⟨_, (pss_one (ps_ret (pe_and (pe_callB (id := "isinstance") (r := rIsi K) call_isi (by rfl) M.isinstance (by decide +kernel) (pa_cons (pv 0) (pa_cons (pe_bltn (v := .ty "int") (by rfl) M.int boot_int rfl) pa_nil))) (pe_one (pe_not (pe_callB (id := "isinstance") (r := rIsi K) call_isi (by rfl) M.isinstance (by decide +kernel) (pa_cons (pv 0) (pa_cons (pe_bltn (v := .ty "bool") (by rfl) M.bool boot_bool rfl) pa_nil)))))))), ?_⟩
    exact ⟨_, rfl, _, _, _, _, true, rfl, .ty _, .base (.int _), kit_ty (by decide +kernel), _, rfl, iteT ⟨_, rfl, _, _, _, _, false, rfl, .ty _, .base (.int _), kit_ty (by decide +kernel), _, rfl, q⟩⟩
/-! ### is_place: many 0 thing 1; cells - -/
abbrev st_is_place : Stmt := topS 22
abbrev sl_is_place : List Str := ["many", "thing"]
theorem sc_is_place : FnScope sl_is_place ["many", "thing"] (defScope st_is_place) := ⟨rfl, rfl, rfl, by decide +kernel, rfl, by decide +kernel, by decide +kernel⟩
-- calls is_whole; built-ins ; level 2
def sp_is_place (K : PySem.W.Frag) : Sp := fun vs H Q _ => ∃ m i, vs = [.int m, .int i] ∧ Q (.bl (decide (0 ≤ i ∧ i < m))) H
theorem ok_is_place (M : Blt mg) (F : Fun K "is_place" "is_place" st_is_place f fd) (hm : mg "is_place" = some (.ref f)) (C_is_whole : Cal P w K mg base 1 "is_whole" ["thing"] (sp_is_whole K)) : Cal P w K mg base 2 "is_place" ["many", "thing"] (sp_is_place K) := by
  refine ⟨f, fd, F.ok sc_is_place (fun vs H Q E h => ?_) (fun cdv A outer s H vs Q E hr h => ?_), hm, F.kp, F.binds fun _ _ _ _ _ _ us hl => match us, hl with | [_, _], _ => rfl⟩
  · obtain ⟨m, i, rfl, _⟩ := h
    rfl
  · obtain ⟨m, i, rfl, q⟩ := h
    refine ⟨_, (pss_one (ps_ret (pe_and (pe_cal C_is_whole (hr.mono (by decide)) (by rfl) (pa_cons (pv 1) pa_nil)) (pe_one (pe_chain op_le op_lt pe_int (pv 1) (pv 0)))))), ?_⟩
    refine ⟨_, rfl, i, rfl, _, rfl, iteT ⟨_, rfl, 0, i, rfl, rfl, _, rfl, ite2 (fun h1 => ⟨_, rfl, i, m, rfl, rfl, ?_⟩) fun h1 => ?_⟩⟩
    · have h0 : (0 : Int) ≤ i := of_decide_eq_true h1
      show Q (.bl (decide (i < m))) H
      by_cases h2 : i < m
      · rw [decide_eq_true (⟨h0, h2⟩ : 0 ≤ i ∧ i < m)] at q; rw [decide_eq_true h2]; exact q
      · rw [decide_eq_false (fun z : 0 ≤ i ∧ i < m => h2 z.2)] at q; rw [decide_eq_false h2]; exact q
    · have h0 : ¬ (0 : Int) ≤ i := fun z => h1 (decide_eq_true z)
      rw [decide_eq_false (fun z : 0 ≤ i ∧ i < m => h0 z.1)] at q
      exact q
/-! ### unit_row: n 0 at 1 k 2; cells at -/
abbrev st_unit_row : Stmt := topS 13
abbrev sl_unit_row : List Str := ["n", "at", "k"]
theorem sc_unit_row : FnScope sl_unit_row ["n", "at"] (defScope st_unit_row) := ⟨rfl, rfl, rfl, by decide +kernel, rfl, by decide +kernel, by decide +kernel⟩
-- calls ; built-ins int range tuple; level 1
def sp_unit_row (K : PySem.W.Frag) : Sp := fun vs H Q _ => ∃ n j : Nat, vs = [.int n, .int j] ∧ n ≤ 1000 ∧ ∀ H' v, Same H H' → RowA K H' v (unitRow n j) → Q v H'
theorem ok_unit_row (M : Blt mg) (F : Fun K "unit_row" "unit_row" st_unit_row f fd) (hm : mg "unit_row" = some (.ref f)) : Cal P w K mg base 1 "unit_row" ["n", "at"] (sp_unit_row K) := by
  refine ⟨f, fd, F.ok sc_unit_row (fun vs H Q E h => ?_) (fun cdv A outer s H vs Q E hr h => ?_), hm, F.kp, F.binds fun _ _ _ _ _ _ us hl => match us, hl with | [_, _], _ => rfl⟩
  · obtain ⟨m, i, rfl, _⟩ := h
    rfl
  · obtain ⟨n, j, rfl, hn, q⟩ := h
    refine ⟨_, (pss_one (ps_ret (pe_callTy (T := "tuple") (r := rTupOf K) call_tup (by rfl) M.tuple (by decide +kernel) (pa_cons (pe_lc (own := [("k", 2)]) rfl sc_unit_row.nd (pi_range1 (by rfl) M.range (pa_cons (pv 0) pa_nil)) (blkOk_by (N := sl_unit_row) (sc := defScope st_unit_row) (by decide +kernel)) (fun _ _ _ _ _ => (pg_name (i := 2) sc_unit_row.nd rfl (.inl rfl) (.inr rfl))) (fun _ _ _ _ _ => pts_nil) (fun _ _ _ _ _ => (pe_callTy (T := "int") call_int1 (by rfl) M.int (by decide +kernel) (pa_cons (pe_cmpR op_eq (pv 2) (pv 1) (nomark _)) pa_nil)))) pa_nil)))), ?_⟩
    refine ⟨_, rfl, (n : Nat), rfl, by omega, by omega, ?_⟩
    refine fun D hD => lc_all (n := n) walk_rg hD (RInt fun k => if k = j then 1 else 0) (rInt_keep _) (fun _ _ => True.intro) (small1000 hn) (fun i x H1 H' C hi sm hx hy k => ?_) (fun H1 ys sm e hp => ?_) g_name
    · obtain ⟨rfl, rfl⟩ := hy
      refine ⟨rfl, _, rfl, _, rfl, rfl, .inr ⟨_, rfl, k _ _ (Same.refl _) ?_⟩⟩
      show V.int (if decide (V.int (i : Int) = V.int j) = true then 1 else 0) = V.int (if i = j then 1 else 0)
      by_cases hij : i = j
      · subst hij; simp
      · rw [if_neg hij, if_neg (by
          rw [decide_eq_true_eq]
          intro z
          have z := V.int.inj z
          omega)]
    · have e2 := ints_of hp
      rw [e2] at e
      exact tup_ints e fun H' v s2 hv => q H' v (sm.trans s2) hv
/-! ### unit: n 0 k 1; cells n -/
abbrev st_unit : Stmt := topS 14
abbrev sl_unit : List Str := ["n", "k"]
theorem sc_unit : FnScope sl_unit ["n"] (defScope st_unit) := ⟨rfl, rfl, rfl, by decide +kernel, rfl, by decide +kernel, by decide +kernel⟩
-- calls unit_row; built-ins range tuple; level 2
def sp_unit (K : PySem.W.Frag) : Sp := fun vs H Q _ => ∃ n : Nat, vs = [.int n] ∧ n ≤ 1000 ∧ ∀ H' v, Same H H' → TabA K H' v n (unitM n) → Q v H'
theorem ok_unit (M : Blt mg) (F : Fun K "unit" "unit" st_unit f fd) (hm : mg "unit" = some (.ref f)) (C_unit_row : Cal P w K mg base 1 "unit_row" ["n", "at"] (sp_unit_row K)) : Cal P w K mg base 2 "unit" ["n"] (sp_unit K) := by
  refine ⟨f, fd, F.ok sc_unit (fun vs H Q E h => ?_) (fun cdv A outer s H vs Q E hr h => ?_), hm, F.kp, F.binds fun _ _ _ _ _ _ us hl => match us, hl with | [_], _ => rfl⟩
  · obtain ⟨m, rfl, _⟩ := h
    rfl
  · obtain ⟨n, rfl, hn, q⟩ := h
    refine ⟨_, (pss_one (ps_ret (pe_tup (pa_cons (pv 0) (pa_cons (pe_callTy (T := "tuple") (r := rTupOf K) call_tup (by rfl) M.tuple (by decide +kernel) (pa_cons (pe_lc (own := [("k", 1)]) rfl sc_unit.nd (pi_range1 (by rfl) M.range (pa_cons (pv 0) pa_nil)) (blkOk_by (N := sl_unit) (sc := defScope st_unit) (by decide +kernel)) (fun _ _ _ _ _ => (pg_name (i := 1) sc_unit.nd rfl (.inl rfl) (.inr rfl))) (fun _ _ _ _ _ => pts_nil) (fun _ _ _ _ _ => (pe_cal C_unit_row (hr.mono (by decide)) (by rfl) (pa_cons (pv 0) (pa_cons (pv 1) pa_nil))))) pa_nil)) pa_nil))))), ?_⟩
    refine ⟨_, rfl, _, rfl, (n : Nat), rfl, by omega, by omega, fun D hD => lc_all (n := n) walk_rg hD (RRow K fun k => unitRow n k) (rRow_keep K _) (fun _ _ => True.intro) (small1000 hn) (fun i x H1 H' C hi sm hx hy k => ?_) (fun H1 ys sm e hp => ?_) g_name⟩
    · obtain ⟨rfl, rfl⟩ := hy
      refine ⟨rfl, _, rfl, _, rfl, n, i, rfl, hn, fun H2 v s2 hv => k v H2 s2 hv⟩
    · have hp2 : Paired (RowA K H1) ys (unitM n) := rows_of hp
      refine ⟨D, ys, rfl, .inl ⟨SqL.of e, fun l hl => ⟨(by decide : 2 ≤ sizeLine), fun t ht => ?_⟩⟩⟩
      have s1 : Same H1 (upd H1 l (.tup ys)) := same1 hl
      have s2 : Same (upd H1 l (.tup ys)) (upd (upd H1 l (.tup ys)) t (.tup [.int n, .ref l])) := same1 ht
      exact q _ _ (sm.trans (s1.trans s2)) ⟨t, _, rfl, SqT.of upd_same, l, ys, rfl, seqT_same s2 (SqT.of upd_same), Paired.imp (fun _ _ z => z.tk (s1.trans s2).tk) hp2⟩
end
end SF
end
section
set_option maxHeartbeats 4000000
namespace SF
open PySem PySem.Spec PyProof.Rows L2
theorem _root_.L2.Same.new {H H' : Hp} {p : Addr} {o : HO} (h : Same H H') (n : H p = none) : Same H (upd H' p o) := fun b x e => by
  rw [upd_ne (ne_of_none e n)]
  exact h b x e
theorem mulx_bt {a b : Nat} {x y : Int} (hx : Bt a x) (hy : Bt b y) (h : a + b ≤ 134217728) : CMulX x y := mulx_ok hx hy h
theorem at_vg {r : List Int} {k : Nat} (h : k < r.length) : atI (r.map V.int) (k : Int) = some (.int (vg r k)) := atI_nat (mapInt_at (getD_at h))
section
variable {P : Program} {w : World} {K : PySem.W.Frag} {mg : Str → Option Value} {base : Heap} {f : Addr} {fd : FuncData}
/-! ### row_times: row 0 table 1 found 2 number 3 line 4 k 5; cells - -/
abbrev st_row_times : Stmt := topS 15
abbrev sl_row_times : List Str := ["row", "table", "found", "number", "line", "k"]
theorem sc_row_times : FnScope sl_row_times ["row", "table"] (defScope st_row_times) := ⟨rfl, rfl, rfl, by decide +kernel, rfl, by decide +kernel, by decide +kernel⟩
-- calls ; built-ins range tuple zip; level 1
def sp_row_times (K : PySem.W.Frag) : Sp := fun vs H Q _ => ∃ (x y : V) (r : List Int) (m : Nat) (M : List (List Int)) (B1 B2 : Nat), vs = [x, y] ∧ RowA K H x r ∧ TabA K H y m M ∧ m ≤ 1000 ∧ (∀ l ∈ M, l.length = m) ∧
  (∀ z ∈ r, Bt B1 z) ∧ (∀ l ∈ M, ∀ z ∈ l, Bt B2 z) ∧ B1 + B2 ≤ 134217728 ∧ ∀ H' v, Same H H' → RowA K H' v (rowTimes r m M) → Q v H'
/-- the same, and the row is laid -/
def sp_row_timesT (K : PySem.W.Frag) : Sp := fun vs H Q _ => ∃ (x y : V) (r : List Int) (m : Nat) (M : List (List Int)) (B1 B2 : Nat), vs = [x, y] ∧ RowA K H x r ∧ TabA K H y m M ∧ m ≤ 1000 ∧ (∀ l ∈ M, l.length = m) ∧
  (∀ z ∈ r, Bt B1 z) ∧ (∀ l ∈ M, ∀ z ∈ l, Bt B2 z) ∧ B1 + B2 ≤ 134217728 ∧ ∀ H' a, Same H H' → H' a = some (.tup ((rowTimes r m M).map V.int)) → Q (.ref a) H'
theorem Cal.imp {k : Nat} {x : Str} {ps : List Str} {sp sp' : Sp} (C : Cal P w K mg base k x ps sp) (h : ∀ vs H Q E, sp' vs H Q E → sp vs H Q E) : Cal P w K mg base k x ps sp' :=
  let ⟨f, fd, F, q⟩ := C.ex
  ⟨f, fd, F.imp h, q⟩
theorem ok_row_timesT (M : Blt mg) (F : Fun K "row_times" "row_times" st_row_times f fd) (hm : mg "row_times" = some (.ref f)) : Cal P w K mg base 1 "row_times" ["row", "table"] (sp_row_timesT K) := by
  refine ⟨f, fd, F.ok sc_row_times (fun vs H Q E h => ?_) (fun cdv A outer s H vs Q E hr h => ?_), hm, F.kp, F.binds fun _ _ _ _ _ _ us hl => match us, hl with | [_, _], _ => rfl⟩
  · obtain ⟨x, y, _, _, _, _, _, rfl, _⟩ := h
    rfl
  · obtain ⟨x, y, r, m, T, B1, B2, rfl, ⟨ax, rfl, hx⟩, ⟨ay, y1, rfl, hy, ay1, ys, rfl, hy1, hp⟩, hm, hl, b1, b2, b12, q⟩ := h
    refine ⟨_, (pss_cons (ps_set (i := 2) sc_row_times.nd rfl (Or.inl rfl) (pe_op op_rep (pe_lst (pa_cons pe_int pa_nil)) (pe_ix (r := rIxT K) ix_tup (pv 1) pe_int (fun _ _ => rfl))))
      (pss_cons (ps_for PassesOwn.never rfl (RZ.pi_zipA (by rfl) M.zip (pa_cons (pv 0) (pa_cons (pe_ix (r := rIxT K) ix_tup (pv 1) pe_int (fun _ _ => rfl)) pa_nil))) (pg_tupK (K := K) (n := 2) rfl rfl (pgs_cons (pg_name (i := 3) sc_row_times.nd rfl (.inl rfl)) (pgs_cons (pg_name (i := 4) sc_row_times.nd rfl (.inl rfl)) pgs_nil)))
        (pss_one (ps_for PassesOwn.never rfl (pi_range1 (by rfl) M.range (pa_cons (pe_ix (r := rIxT K) ix_tup (pv 1) pe_int (fun _ _ => rfl)) pa_nil)) (pg_name (i := 5) sc_row_times.nd rfl (.inl rfl))
          (pss_one (ps_asg (pe_op op_add (pe_ix (r := rIxL K) ix_list (pv 2) (pv 5) (fun _ _ => rfl)) (pe_op op_mulX (pv 3) (pe_ix (r := rIxT K) ix_tup (pv 4) (pv 5) (fun _ _ => rfl)))) (pg_sub (pv 2) (pv 5) set_list))))))
      (pss_one (ps_ret (pe_callTy (T := "tuple") (r := rTupOf K) call_tup (by rfl) M.tuple (by decide +kernel) (pa_cons (pv 2) pa_nil)))))), ?_⟩
    have hT : ∀ {H' : Hp}, Same H H' → SqT K H' ay [.int (m : Nat), .ref ay1] := fun s => seqT_same s hy
    have hlen : ys.length = T.length := Paired.length hp
    refine ⟨(by decide : 1 ≤ sizeLine), fun l nl => ⟨_, rfl, ay, _, 0, .int m, rfl, rfl, hT (same1 nl), rfl, l, m, [.int 0], rfl, rfl, upd_same, by omega, by omega, ?_, fun o no => ?_⟩⟩
    · show 1 * ((m : Nat) : Int).toNat ≤ sizeLine
      rw [Nat.one_mul, Int.toNat_natCast]
      exact len1000 hm
    have no0 : H o = none := (same1 nl).free no
    have s0 : Same H (upd (upd H l (.lst [.int 0])) o (.lst (List.replicate ((m : Nat) : Int).toNat [V.int 0]).flatten)) := (same1 nl).push no
    have e0 : (List.replicate ((m : Nat) : Int).toNat [V.int 0]).flatten = (((List.range m).map fun k => S 0 (fun j => vg r j * mg2 T j k)).map V.int) := by
      rw [Int.toNat_natCast]
      clear hm hl b1 b2 b12 q hx hy hy1 hp s0 no hT
      apply List.ext_getElem?
      intro i
      rw [show List.replicate m [V.int 0] = (List.replicate m (V.int 0)).map fun v => [v] by simp]
      rw [← List.flatMap_def, List.flatMap_singleton']
      by_cases h : i < m
      · simp [h, S]
      · rw [List.getElem?_eq_none (by simp; omega), List.getElem?_eq_none (by simp; omega)]
    rw [e0] at s0
    refine ⟨_, rfl, _, rfl, ay, _, 1, _, rfl, rfl, hT (by rw [e0]; exact s0), rfl, ax, ay1, _, _, rfl, .inr ⟨seqT_same (by rw [e0]; exact s0) hx, seqT_same (by rw [e0]; exact s0) hy1, ?_⟩⟩
    have hn : min (r.map V.int).length ys.length = min r.length T.length := by rw [List.length_map, hlen]
    refine for_it (walk_zipTT rfl) (fun i σ H2 => ∃ x3 x4 x5, σ = [some (.ref ax), some (.ref ay), some (.ref o), x3, x4, x5] ∧ Same H H2 ∧ H2 o = some (.lst (((List.range m).map fun k => S i (fun j => vg r j * mg2 T j k)).map V.int)))
      ⟨none, none, none, rfl, by rw [e0]; exact s0, by rw [e0]; exact upd_same⟩ (fun i σ H2 _ ⟨_, _, _, _, s, _⟩ => ⟨seqT_same s hx, seqT_same s hy1⟩) ?_ ?_
    · rintro i x σ H2 H2' hi ⟨x3, x4, x5, rfl, s2, e2⟩ ⟨Tp, u, v, rfl, nT, rfl, eu, ev⟩
      rw [hn] at hi
      have hir : i < r.length := by omega
      have hiT : i < T.length := by omega
      obtain ⟨z, ez, rfl⟩ := mapInt_get eu
      have ez' : z = vg r i := by
        rw [getD_at hir] at ez
        exact (Option.some.inj ez).symm
      obtain ⟨lr, elr, al, rfl, hal⟩ := Paired.get hp ev
      have elr' : lr = T.getD i [] := by
        rw [getD_row hiT] at elr
        exact (Option.some.inj elr).symm
      subst ez' elr'
      have hll : (T.getD i []).length = m := hl _ (mem_getD hiT)
      refine pair_in ?_
      have s3 : Same H (upd H2 Tp (.tup [.int (vg r i), .ref al])) := s2.push nT
      have e3 : upd H2 Tp (.tup [.int (vg r i), .ref al]) o = some (.lst (((List.range m).map fun k => S i (fun j => vg r j * mg2 T j k)).map V.int)) := by rw [upd_ne (ne_of_none e2 nT)]; exact e2
      refine ⟨_, rfl, ay, _, 0, .int m, rfl, rfl, hT s3, rfl, m, rfl, by omega, by omega, ?_⟩
      refine for_it (walk_rg (n := m)) (fun j σ H4 => ∃ x5, σ = [some (.ref ax), some (.ref ay), some (.ref o), some (.int (vg r i)), some (.ref al), x5] ∧ Same H H4 ∧
          H4 o = some (.lst (((List.range m).map fun k => if k < j then S (i + 1) (fun j => vg r j * mg2 T j k) else S i (fun j => vg r j * mg2 T j k)).map V.int)))
        ⟨x5, rfl, s3, by simpa using e3⟩ (fun _ _ _ _ _ => True.intro) ?_ ?_
      · rintro j x σ H4 H4' hj ⟨y5, rfl, s4, e4⟩ ⟨rfl, rfl⟩
        have hj1 : vg ((List.range m).map fun k => if k < j then S (i + 1) (fun j => vg r j * mg2 T j k) else S i (fun j => vg r j * mg2 T j k)) j = S i (fun j' => vg r j' * mg2 T j' j) := by
          rw [map_range_getD hj, if_neg (Nat.lt_irrefl j)]
        refine ⟨_, rfl, _, rfl, o, _, (j : Int), _, rfl, rfl, SqL.of e4, at_vg (by simpa using hj), _, rfl, _, rfl, _, rfl, al, _, (j : Int), _, rfl, rfl, seqT_same s4 hal, at_vg (by rw [hll]; exact hj), _, _, rfl, rfl,
          mulx_bt (b1 _ (mem_vg hir)) (b2 _ (mem_getD hiT) _ (mem_vg (by rw [hll]; exact hj))) b12, _, _, rfl, rfl, _, rfl, _, rfl, o, _, (j : Int), j, rfl, rfl, e4, ixN_n (by simpa using hj), ?_⟩
        refine ⟨some (.int j), rfl, s4.new no0, ?_⟩
        rw [upd_same, hj1, ← List.map_set]
        congr 3
        have := range_map_set (n := m) (i := j) (f := fun k => if k < j then S (i + 1) (fun j => vg r j * mg2 T j k) else S i (fun j => vg r j * mg2 T j k)) (g := fun k => if k < j + 1 then S (i + 1) (fun j => vg r j * mg2 T j k) else S i (fun j => vg r j * mg2 T j k)) hj (fun k hk hne => by
          by_cases h1 : k < j
          · rw [if_pos h1, if_pos (by omega)]
          · rw [if_neg h1, if_neg (by omega)])
        rw [← this, if_pos (Nat.lt_succ_self j)]
        rfl
      · rintro σ H4 ⟨y5, rfl, s4, e4⟩
        refine ⟨_, _, _, rfl, s4, ?_⟩
        rw [e4]
        congr 3
        apply List.map_congr_left
        intro k hk
        rw [if_pos (List.mem_range.mp hk)]
    · rintro σ H2 ⟨x3, x4, x5, rfl, s2, e2⟩
      rw [hn] at e2
      exact ⟨_, rfl, o, _, rfl, .inl ⟨SqL.of e2, fun l nl => q _ l (s2.push nl) upd_same⟩⟩
theorem row_times_imp : ∀ vs H Q E, sp_row_times K vs H Q E → sp_row_timesT K vs H Q E := fun vs H Q E ⟨x, y, r, m, M, B1, B2, h1, h2, h3, h4, h5, h6, h7, h8, q⟩ =>
  ⟨x, y, r, m, M, B1, B2, h1, h2, h3, h4, h5, h6, h7, h8, fun H' a s e => q H' _ s ⟨a, rfl, SqT.of e⟩⟩
end
end SF
end
section
set_option maxHeartbeats 4000000
namespace SF
open PySem PySem.Spec PyProof.Rows L2
theorem tyTup {K : PySem.W.Frag} {H : Hp} {a : Addr} {xs : List V} (h : SqT K H a xs) : TyX K H (.ref a) (.type "tuple") := by
  rcases h with (h | ⟨o, h⟩) | ⟨o, its, n, h1, h2, _⟩
  · exact .base (.tup h)
  · exact .fTuple h
  · exact .kTuple h1 h2
def Deed.vals : Deed → List V
  | .turn i => [.str "turn", .int (i : Nat)]
  | .swap i j => [.str "swap", .int (i : Nat), .int (j : Nat)]
  | .add i j q => [.str "add", .int (i : Nat), .int (j : Nat), .int q]
def DeedA (K : PySem.W.Frag) (H : Hp) (v : V) (d : Deed) : Prop := ∃ a, v = .ref a ∧ SqT K H a d.vals
def DeedsA (K : PySem.W.Frag) (H : Hp) (v : V) (ds : List Deed) : Prop := ∃ a vs, v = .ref a ∧ SqT K H a vs ∧ Paired (DeedA K H) vs ds
theorem DeedA.tk {K : PySem.W.Frag} {H H' : Hp} {v : V} {d : Deed} (t : TK K H H') (h : DeedA K H v d) : DeedA K H' v d := let ⟨a, e, q⟩ := h; ⟨a, e, t _ _ q⟩
theorem DeedsA.tk {K : PySem.W.Frag} {H H' : Hp} {v : V} {ds : List Deed} (t : TK K H H') (h : DeedsA K H v ds) : DeedsA K H' v ds := let ⟨a, vs, e, q, p⟩ := h; ⟨a, vs, e, t _ _ q, Paired.imp (fun _ _ z => DeedA.tk t z) p⟩
section
variable {P : Program} {w : World} {K : PySem.W.Frag} {mg : Str → Option Value} {base : Heap} {f : Addr} {fd : FuncData}
/-! ### lead_in: row 0 column 1 number 2; cells - -/
abbrev st_lead_in : Stmt := topS 37
abbrev sl_lead_in : List Str := ["row", "column", "number"]
theorem sc_lead_in : FnScope sl_lead_in ["row"] (defScope st_lead_in) := ⟨rfl, rfl, rfl, by decide +kernel, rfl, by decide +kernel, by decide +kernel⟩
-- calls ; built-ins enumerate; level 1
def leadV (r : List Int) : V := match leadIn r with
  | some i => .int (i : Nat)
  | none => .non
def sp_lead_in (K : PySem.W.Frag) : Sp := fun vs H Q _ => ∃ (x : V) (r : List Int), vs = [x] ∧ RowA K H x r ∧ ∀ H', Same H H' → Q (leadV r) H'
theorem ok_lead_in (M : Blt mg) (F : Fun K "lead_in" "lead_in" st_lead_in f fd) (hm : mg "lead_in" = some (.ref f)) : Cal P w K mg base 1 "lead_in" ["row"] (sp_lead_in K) := by
  refine ⟨f, fd, F.ok sc_lead_in (fun vs H Q E h => ?_) (fun cdv A outer s H vs Q E hr h => ?_), hm, F.kp, F.binds fun _ _ _ _ _ _ us hl => match us, hl with | [_], _ => rfl⟩
  · obtain ⟨_, _, rfl, _⟩ := h
    rfl
  · obtain ⟨x, r, rfl, ⟨ax, rfl, hx⟩, q⟩ := h
    refine ⟨_, (pss_cons (ps_for PassesOwn.never rfl (pi_enumT (by rfl) M.enumerate (pa_cons (pv 0) pa_nil)) (pg_tupK (K := K) (n := 2) rfl rfl (pgs_cons (pg_name (i := 1) sc_lead_in.nd rfl (.inl rfl)) (pgs_cons (pg_name (i := 2) sc_lead_in.nd rfl (.inl rfl)) pgs_nil)))
        (pss_one (ps_if (pt_cmpR op_ne (pv 2) pe_int (nomark _))
          (pss_one (ps_ret (pv 1)))
          pss_nil)))
      (pss_one (ps_ret pe_non))), ?_⟩
    refine ⟨_, rfl, ax, _, rfl, hx, ?_⟩
    refine for_it walk_enumT (fun i σ H2 => ∃ x1 x2, σ = [some (.ref ax), x1, x2] ∧ Same H H2 ∧ ∀ k, k < i → vg r k = 0) ⟨none, none, rfl, Same.refl H, fun k hk => absurd hk (Nat.not_lt_zero k)⟩ (fun i σ H2 _ ⟨_, _, _, s, _⟩ => seqT_same s hx) ?_ ?_
    · rintro i x σ H2 H2' hi ⟨x1, x2, rfl, s2, hz⟩ ⟨Tp, u, v, rfl, nT, rfl, eu, ev⟩
      obtain ⟨z, ez, rfl⟩ := mapInt_get ev
      cases eu
      have hir : i < r.length := by simpa using hi
      have ez' : z = vg r i := by
        rw [getD_at hir] at ez
        exact (Option.some.inj ez).symm
      subst ez'
      refine pair_in ⟨_, rfl, rfl, _, rfl, ite2 (fun h1 => ⟨_, rfl, ?_⟩) fun h1 => ?_⟩
      · have hne : vg r i ≠ 0 := fun z => by
          rw [z] at h1
          exact absurd h1 (by decide)
        have e := leadIn_of hir hne hz
        have q2 := q (upd H2 Tp (.tup [.int (i : Nat), .int (vg r i)])) (s2.push nT)
        unfold leadV at q2
        rw [e] at q2
        exact q2
      · have hz0 : vg r i = 0 := by
          by_cases z : vg r i = 0
          · exact z
          · exact absurd (show (!decide (V.int (vg r i) = V.int 0)) = true by simp [z]) h1
        exact ⟨_, _, rfl, s2.push nT, fun k hk => by
          by_cases e : k = i
          · rw [e]; exact hz0
          · exact hz k (by omega)⟩
    · rintro σ H2 ⟨x1, x2, rfl, s2, hz⟩
      have e := leadIn_of_none (r := r) (fun k hk => hz k (by simpa using hk))
      have q2 := q _ s2
      unfold leadV at q2
      rw [e] at q2
      exact q2
/-! ### contrary_deed: deed 0; cells - -/
abbrev st_contrary_deed : Stmt := topS 28
abbrev sl_contrary_deed : List Str := ["deed"]
theorem sc_contrary_deed : FnScope sl_contrary_deed ["deed"] (defScope st_contrary_deed) := ⟨rfl, rfl, rfl, by decide +kernel, rfl, by decide +kernel, by decide +kernel⟩
-- calls ; built-ins ; level 1
def sp_contrary_deed (K : PySem.W.Frag) : Sp := fun vs H Q _ => ∃ (x : V) (d : Deed), vs = [x] ∧ DeedA K H x d ∧ ∀ H' v, Same H H' → DeedA K H' v d.contrary → Q v H'
theorem ok_contrary_deed (M : Blt mg) (F : Fun K "contrary_deed" "contrary_deed" st_contrary_deed f fd) (hm : mg "contrary_deed" = some (.ref f)) : Cal P w K mg base 1 "contrary_deed" ["deed"] (sp_contrary_deed K) := by
  refine ⟨f, fd, F.ok sc_contrary_deed (fun vs H Q E h => ?_) (fun cdv A outer s H vs Q E hr h => ?_), hm, F.kp, F.binds fun _ _ _ _ _ _ us hl => match us, hl with | [_], _ => rfl⟩
  · obtain ⟨_, _, rfl, _⟩ := h
    rfl
  · obtain ⟨x, d, rfl, ⟨ax, rfl, hx⟩, q⟩ := h
    refine ⟨_, (pss_cons (ps_if (pt_cmpR op_eq (pe_ix (r := rIxT K) ix_tup (pv 0) pe_int (fun _ _ => rfl)) pe_str (nomark _))
        (pss_one (ps_ret (pe_op (r := rCatA K) op_catA (pe_slice (r := rSlA K) sl_tupA (pv 0) po_none (po_some pe_int)) (pe_tup (pa_cons (pe_un un_neg (pe_ix (r := rIxT K) ix_tup (pv 0) pe_int (fun _ _ => rfl))) pa_nil)))))
        pss_nil)
      (pss_one (ps_ret (pv 0)))), ?_⟩
    cases d with
    | turn i => exact ⟨_, rfl, ax, _, 0, _, rfl, rfl, hx, rfl, rfl, _, rfl, iteN (by decide +kernel) ⟨_, rfl, q _ _ (Same.refl H) ⟨ax, rfl, hx⟩⟩⟩
    | swap i j => exact ⟨_, rfl, ax, _, 0, _, rfl, rfl, hx, rfl, rfl, _, rfl, iteN (by decide +kernel) ⟨_, rfl, q _ _ (Same.refl H) ⟨ax, rfl, hx⟩⟩⟩
    | add i j z =>
      refine ⟨_, rfl, ax, _, 0, _, rfl, rfl, hx, rfl, rfl, _, rfl, iteP (by decide +kernel) ?_⟩
      refine ⟨_, rfl, 3, rfl, ax, _, rfl, hx, (fun z => absurd z.2 (by show ¬ (HT.sIx 4 4 (some 3) = 4); decide)), fun _ p np => ?_⟩
      have s1 : Same H (upd H p (.tup (cutV (Deed.add i j z).vals none (some 3)))) := same1 np
      refine ⟨_, rfl, ax, _, 3, _, rfl, rfl, seqT_same s1 hx, rfl, z, rfl, by show 1 ≤ sizeLine; decide, fun p2 np2 => ?_⟩
      have s2 := s1.push (o := .tup [.int (-z)]) np2
      refine ⟨p, p2, _, _, rfl, rfl, seqT_same (same1 np2) (SqT.of upd_same), SqT.of upd_same, by show 3 + 1 ≤ sizeLine; decide, (fun e => absurd e (List.cons_ne_nil _ _)), (fun _ e => absurd e (by simp)), fun _ _ p3 np3 => ?_⟩
      exact q _ _ (s2.push np3) ⟨p3, rfl, SqT.of upd_same⟩
/-! ### led_back: deeds 0 deed 1; cells - -/
abbrev st_led_back : Stmt := topS 29
abbrev sl_led_back : List Str := ["deeds", "deed"]
theorem sc_led_back : FnScope sl_led_back ["deeds"] (defScope st_led_back) := ⟨rfl, rfl, rfl, by decide +kernel, rfl, by decide +kernel, by decide +kernel⟩
-- calls contrary_deed; built-ins tuple; level 2
def sp_led_back (K : PySem.W.Frag) : Sp := fun vs H Q _ => ∃ (x : V) (ds : List Deed), vs = [x] ∧ DeedsA K H x ds ∧ ds.length < sizeLine ∧ ∀ H' v, Same H H' → DeedsA K H' v (ledBack ds) → Q v H'
theorem ok_led_back (M : Blt mg) (F : Fun K "led_back" "led_back" st_led_back f fd) (hm : mg "led_back" = some (.ref f)) (C_contrary_deed : Cal P w K mg base 1 "contrary_deed" ["deed"] (sp_contrary_deed K)) : Cal P w K mg base 2 "led_back" ["deeds"] (sp_led_back K) := by
  refine ⟨f, fd, F.ok sc_led_back (fun vs H Q E h => ?_) (fun cdv A outer s H vs Q E hr h => ?_), hm, F.kp, F.binds fun _ _ _ _ _ _ us hl => match us, hl with | [_], _ => rfl⟩
  · obtain ⟨_, _, rfl, _⟩ := h
    rfl
  · obtain ⟨x, ds, rfl, ⟨ax, vs, rfl, hx, hp⟩, hlen, q⟩ := h
    refine ⟨_, (pss_one (ps_ret (pe_callTy (T := "tuple") (r := rTupOf K) call_tup (by rfl) M.tuple (by decide +kernel) (pa_cons (pe_lc (own := [("deed", 1)]) rfl sc_led_back.nd (pi_tupK (K := K) rfl (pe_revT (pv 0))) (blkOk_by (N := sl_led_back) (sc := defScope st_led_back) (by decide +kernel)) (fun _ _ _ _ _ => (pg_name (i := 1) sc_led_back.nd rfl (.inl rfl) (.inr rfl))) (fun _ _ _ _ _ => pts_nil) (fun _ _ _ _ _ => (pe_cal C_contrary_deed (hr.mono (by decide)) (by rfl) (pa_cons (pv 1) pa_nil)))) pa_nil)))), ?_⟩
    refine ⟨_, rfl, ax, vs, rfl, hx, fun p np => ⟨p, rfl, ⟨_, SqT.of upd_same⟩, fun D hD => ?_⟩⟩
    have s1 : Same H (upd H p (.tup vs.reverse)) := same1 np
    have hpr := Paired.rev hp
    have hl : vs.reverse.length = ds.length := by rw [List.length_reverse]; exact Paired.length hp
    refine lc_all walk_tup hD (fun i v H' => ∃ d, ds.reverse[i]? = some d ∧ DeedA K H' v d.contrary) (fun i v H1 H2 h b ⟨d, e, z⟩ => ⟨d, e, z.tk (b.tk fun a m => by rw [List.mem_singleton.mp m]; exact h)⟩) (fun H' s => seqT_same s (SqT.of upd_same)) (by rw [hl]; exact hlen) (fun i x H1 H' C hi sm hx' hy k => ?_) (fun H1 ys sm e hp2 => ?_) g_name
    · obtain ⟨rfl, ex⟩ := hy
      obtain ⟨d, ed, hd⟩ := Paired.get hpr ex
      exact ⟨rfl, _, rfl, x, d, rfl, hd.tk (s1.trans sm).tk, fun H2 v s2 hv => k v H2 s2 ⟨d, ed, hv⟩⟩
    · refine ⟨D, ys, rfl, .inl ⟨SqL.of e, fun l nl => q _ _ ((s1.trans sm).push nl) ⟨l, ys, rfl, SqT.of upd_same, ?_⟩⟩⟩
      have hl2 : ys.length = vs.reverse.length := by
        have := Paired.length hp2
        rwa [List.length_range] at this
      refine paired_of (by unfold ledBack; rw [hl2, hl, List.length_map, List.length_reverse]) fun i y d ey ed => ?_
      obtain ⟨_, d', ed', hd⟩ := paired_range hp2 ey
      unfold ledBack at ed
      rw [List.getElem?_map, ed'] at ed
      cases ed
      exact hd.tk (same1 nl).tk
end
end SF
end
section
set_option maxHeartbeats 4000000
namespace SF
open PySem PySem.Spec PyProof.Rows L2
/-- a list (that may be written) of rows -/
def RowsLT (K : PySem.W.Frag) (H : Hp) (v : V) (rs : List (List Int)) : Prop := ∃ a vs, v = .ref a ∧ H a = some (.lst vs) ∧ Paired (RowA K H) vs rs
theorem RowsLT.same {K : PySem.W.Frag} {H H' : Hp} {v : V} {rs : List (List Int)} (s : Same H H') (h : RowsLT K H v rs) : RowsLT K H' v rs := let ⟨a, vs, e, q, p⟩ := h; ⟨a, vs, e, s _ _ q, Paired.imp (fun _ _ z => RowA.tk s.tk z) p⟩
theorem lst_tk {K : PySem.W.Frag} {H : Hp} {l : Addr} {vs : List V} {o : HO} (e : H l = some (.lst vs)) : TK K H (upd H l o) := (((But.refl [l] H).write (List.mem_singleton.mpr rfl)) : But [l] H (upd H l o)).tk fun a m => by rw [List.mem_singleton.mp m]; exact ⟨_, e⟩
theorem rows_set {K : PySem.W.Frag} {H : Hp} {l : Addr} {vs : List V} {rs : List (List Int)} {i : Nat} {v : V} {r : List Int} (e : H l = some (.lst vs)) (p : Paired (RowA K H) vs rs) (h : RowA K H v r) :
    Paired (RowA K (upd H l (.lst (vs.set i v)))) (vs.set i v) (rs.set i r) :=
  Paired.imp (fun _ _ z => RowA.tk (lst_tk e) z) (Paired.set h i p)
theorem range_vg {f : Int → Int} (r : List Int) : (List.range r.length).map (fun k => f (vg r k)) = r.map f := by
  apply List.ext_getElem?
  intro i
  by_cases h : i < r.length
  · simp [h, vg, List.getD_eq_getElem?_getD]
  · rw [List.getElem?_eq_none (by simp; omega), List.getElem?_eq_none (by simp; omega)]
theorem range_vg2 {f : Int → Int → Int} (r s : List Int) : (List.range (min r.length s.length)).map (fun k => f (vg r k) (vg s k)) = List.zipWith f r s := by
  apply List.ext_getElem?
  intro i
  by_cases h : i < min r.length s.length
  · have h1 : i < r.length := by omega
    have h2 : i < s.length := by omega
    rw [List.getElem?_map, List.getElem?_range h, List.getElem?_zipWith, List.getElem?_eq_getElem h1, List.getElem?_eq_getElem h2]
    simp [h1, h2, vg, List.getD_eq_getElem?_getD]
  · rw [List.getElem?_eq_none (by simp; omega), List.getElem?_eq_none (by simp; omega)]
def Deed.bt (B : Nat) : Deed → Prop
  | .add _ _ q => Bt B q
  | _ => True
section
variable {P : Program} {w : World} {K : PySem.W.Frag} {mg : Str → Option Value} {base : Heap} {f : Addr} {fd : FuncData}
/-! ### rows_behind: rows 0 deed 1 found 2 i 3 number 4 more 5; cells deed -/
abbrev st_rows_behind : Stmt := topS 25
abbrev sl_rows_behind : List Str := ["rows", "deed", "found", "i", "number", "more"]
theorem sc_rows_behind : FnScope sl_rows_behind ["rows", "deed"] (defScope st_rows_behind) := ⟨rfl, rfl, rfl, by decide +kernel, rfl, by decide +kernel, by decide +kernel⟩
-- calls ; built-ins list tuple zip; level 1
def sp_rows_behind (K : PySem.W.Frag) : Sp := fun vs H Q _ => ∃ (x y : V) (rs : List (List Int)) (d : Deed) (m n B1 B2 : Nat), vs = [x, y] ∧ RowsLT K H x rs ∧ DeedA K H y d ∧ Shape m n rs ∧ d.ok m ∧ n < sizeLine ∧ d.bt B1 ∧ (∀ l ∈ rs, ∀ z ∈ l, Bt B2 z) ∧ B1 + B2 ≤ 134217728 ∧
  ∀ H' v, Same H H' → RowsLT K H' v (d.app rs) → Q v H'
theorem ok_rows_behind (M : Blt mg) (F : Fun K "rows_behind" "rows_behind" st_rows_behind f fd) (hm : mg "rows_behind" = some (.ref f)) : Cal P w K mg base 1 "rows_behind" ["rows", "deed"] (sp_rows_behind K) := by
  refine ⟨f, fd, F.ok sc_rows_behind (fun vs H Q E h => ?_) (fun cdv A outer s H vs Q E hr h => ?_), hm, F.kp, F.binds fun _ _ _ _ _ _ us hl => match us, hl with | [_, _], _ => rfl⟩
  · obtain ⟨_, _, _, _, _, _, _, _, rfl, _⟩ := h
    rfl
  · obtain ⟨x, y, rs, d, m, n, B1, B2, rfl, ⟨ar, vs, rfl, er, hp⟩, ⟨ad, rfl, hd⟩, sh, ok, hn, hb1, hb2, hb, q⟩ := h
    refine ⟨_, (pss_cons (ps_set (i := 2) sc_rows_behind.nd rfl (Or.inl rfl) (pe_callTy (T := "list") (r := rListOf K) call_lst (by rfl) M.list (by decide +kernel) (pa_cons (pv 0) pa_nil)))
      (pss_cons (ps_set (i := 3) sc_rows_behind.nd rfl (Or.inl rfl) (pe_ix (r := rIxT K) ix_tup (pv 1) pe_int (fun _ _ => rfl)))
      (pss_cons (ps_if (pt_cmpR op_eq (pe_ix (r := rIxT K) ix_tup (pv 1) pe_int (fun _ _ => rfl)) pe_str (nomark _))
        (pss_one (ps_asg (pe_callTy (T := "tuple") (r := rTupOf K) call_tup (by rfl) M.tuple (by decide +kernel) (pa_cons (pe_lc (own := [("number", 4)]) rfl sc_rows_behind.nd (pi_tupK (K := K) rfl (pe_ix (r := rIxL K) ix_list (pv 0) (pv 3) (fun _ _ => rfl))) (blkOk_by (N := sl_rows_behind) (sc := defScope st_rows_behind) (by decide +kernel)) (fun _ _ _ _ _ => (pg_name (i := 4) sc_rows_behind.nd rfl (.inl rfl) (.inr rfl))) (fun _ _ _ _ _ => pts_nil) (fun _ _ _ _ _ => (pe_un un_neg (pv 4)))) pa_nil)) (pg_sub (pv 2) (pv 3) set_list)))
        (pss_one (ps_if (pt_cmpR op_eq (pe_ix (r := rIxT K) ix_tup (pv 1) pe_int (fun _ _ => rfl)) pe_str (nomark _))
          (pss_cons (ps_asg (pe_ix (r := rIxL K) ix_list (pv 0) (pe_ix (r := rIxT K) ix_tup (pv 1) pe_int (fun _ _ => rfl)) (fun _ _ => rfl)) (pg_sub (pv 2) (pv 3) set_list))
          (pss_one (ps_asg (pe_ix (r := rIxL K) ix_list (pv 0) (pv 3) (fun _ _ => rfl)) (pg_sub (pv 2) (pe_ix (r := rIxT K) ix_tup (pv 1) pe_int (fun _ _ => rfl)) set_list))))
          (pss_one (ps_asg (pe_callTy (T := "tuple") (r := rTupOf K) call_tup (by rfl) M.tuple (by decide +kernel) (pa_cons (pe_lc (own := [("number", 4), ("more", 5)]) rfl sc_rows_behind.nd (RZ.pi_zipA (by rfl) M.zip (pa_cons (pe_ix (r := rIxL K) ix_list (pv 0) (pv 3) (fun _ _ => rfl)) (pa_cons (pe_ix (r := rIxL K) ix_list (pv 0) (pe_ix (r := rIxT K) ix_tup (pv 1) pe_int (fun _ _ => rfl)) (fun _ _ => rfl)) pa_nil))) (blkOk_by (N := sl_rows_behind) (sc := defScope st_rows_behind) (by decide +kernel)) (fun _ _ _ _ _ => (pg_tupK (K := K) (n := 2) rfl rfl (pgs_cons (pg_name (i := 4) sc_rows_behind.nd rfl (.inl rfl) (.inr rfl)) (pgs_cons (pg_name (i := 5) sc_rows_behind.nd rfl (.inl rfl) (.inr rfl)) pgs_nil)))) (fun _ _ _ _ _ => pts_nil) (fun _ _ _ _ _ => (pe_op op_add (pv 4) (pe_op op_mulX (pe_ix (r := rIxT K) ix_tup (pv 1) pe_int (fun _ _ => rfl)) (pv 5))))) pa_nil)) (pg_sub (pv 2) (pv 3) set_list))))))
      (pss_one (ps_ret (pv 2)))))), ?_⟩
    have hlen : vs.length = m := (Paired.length hp).trans sh.1
    have rowAt : ∀ i, i < m → ∃ a, vs[i]? = some (.ref a) ∧ SqT K H a ((rs.getD i []).map V.int) := fun i hi => by
      obtain ⟨v, ev, a, rfl, h⟩ := Paired.get2 hp (getD_row (by rw [sh.1]; exact hi))
      exact ⟨a, ev, h⟩
    refine ⟨_, rfl, ar, vs, rfl, .inl (SqL.of er), fun l nl => ?_⟩
    have s1 : Same H (upd H l (.lst vs)) := same1 nl
    have er1 : SqL K (upd H l (.lst vs)) ar vs := SqL.of (s1 _ _ er)
    have el1 : upd H l (.lst vs) l = some (.lst vs) := upd_same
    have hp1 : Paired (RowA K (upd H l (.lst vs))) vs rs := Paired.imp (fun _ _ z => RowA.tk s1.tk z) hp
    have hd1 := seqT_same s1 hd
    have fin : ∀ (H2 : Hp) (vs2 : List V) (rs2 : List (List Int)), Same H H2 → H2 l = some (.lst vs2) → Paired (RowA K H2) vs2 rs2 → rs2 = d.app rs → Q (.ref l) H2 := fun H2 vs2 rs2 s e p er => q _ _ s ⟨l, vs2, rfl, e, by rw [← er]; exact p⟩
    cases d with
    | turn i =>
      obtain ⟨a, ea, ha⟩ := rowAt i ok
      have hll : ((rs.getD i []).map V.int).length = n := by rw [List.length_map]; exact sh.row ok
      refine ⟨_, rfl, ad, _, 1, _, rfl, rfl, hd1, rfl, _, rfl, ad, _, 0, _, rfl, rfl, hd1, rfl, rfl, _, rfl, iteP (by decide +kernel) ?_⟩
      refine ⟨_, rfl, _, rfl, ar, vs, (i : Nat), _, rfl, rfl, er1, atI_nat ea, a, rfl, ⟨_, seqT_same s1 ha⟩, fun D hD => ?_⟩
      refine lc_all walk_tup hD (RInt fun k => -(vg (rs.getD i []) k)) (rInt_keep _) (fun H' s => seqT_same s (seqT_same s1 ha)) (by rw [hll]; exact hn) (fun j x H1 H' C hj sm hx' hy k => ?_) (fun H1 ys sm e hp2 => ?_) g_name
      · obtain ⟨rfl, ex⟩ := hy
        obtain ⟨z, ez, rfl⟩ := mapInt_get ex
        have hj' : j < (rs.getD i []).length := by rwa [List.length_map] at hj
        rw [getD_at hj'] at ez
        cases ez
        exact ⟨rfl, _, rfl, _, rfl, k _ _ (Same.refl _) rfl⟩
      · have e2 := ints_of hp2
        rw [List.length_map, range_vg (f := fun x => -x)] at e2
        rw [e2] at e
        refine ⟨D, _, rfl, .inl ⟨SqL.of e, fun l2 nl2 => ?_⟩⟩
        have s3 : Same (upd H l (.lst vs)) (upd H1 l2 (.tup ((List.map (fun x => -x) (rs.getD i [])).map V.int))) := sm.push nl2
        have hv : RowA K (upd H1 l2 (.tup ((List.map (fun x => -x) (rs.getD i [])).map V.int))) (.ref l2) (List.map (fun x => -x) (rs.getD i [])) := ⟨l2, rfl, SqT.of upd_same⟩
        have el2 := s3 _ _ el1
        refine ⟨_, rfl, _, rfl, l, vs, (i : Nat), i, rfl, rfl, el2, ixN_n (by rw [hlen]; exact ok), _, rfl, ?_⟩
        exact fin _ _ _ ((s1.trans s3).new nl) upd_same (rows_set (i := i) el2 (Paired.imp (fun _ _ z => RowA.tk s3.tk z) hp1) hv) rfl
    | swap i j =>
      obtain ⟨a, ea, ha⟩ := rowAt i ok.1
      obtain ⟨b, eb, hb'⟩ := rowAt j ok.2.1
      refine ⟨_, rfl, ad, _, 1, _, rfl, rfl, hd1, rfl, _, rfl, ad, _, 0, _, rfl, rfl, hd1, rfl, rfl, _, rfl, iteN (by decide +kernel) ?_⟩
      refine ⟨_, rfl, ad, _, 0, _, rfl, rfl, hd1, rfl, rfl, _, rfl, iteP (by decide +kernel) ?_⟩
      refine ⟨_, rfl, _, rfl, ad, _, 2, _, rfl, rfl, hd1, rfl, ar, vs, (j : Nat), _, rfl, rfl, er1, atI_nat eb, _, rfl, _, rfl, l, vs, (i : Nat), i, rfl, rfl, el1, ixN_n (by rw [hlen]; exact ok.1), ?_⟩
      have nrl : ar ≠ l := ne_of_none er nl
      have s2 : Same H (upd (upd H l (.lst vs)) l (.lst (vs.set i (.ref b)))) := s1.new nl
      have p2 := rows_set (i := i) el1 hp1 (⟨b, rfl, seqT_same s1 hb'⟩ : RowA K (upd H l (.lst vs)) (.ref b) (rs.getD j []))
      have el2 : upd (upd H l (.lst vs)) l (.lst (vs.set i (.ref b))) l = some (.lst (vs.set i (.ref b))) := upd_same
      refine ⟨_, rfl, _, rfl, ar, vs, (i : Nat), _, rfl, rfl, SqL.of (s2 _ _ er), atI_nat ea, _, rfl, _, rfl, ad, _, 2, _, rfl, rfl, seqT_same s2 hd, rfl, l, _, (j : Nat), j, rfl, rfl, el2, ixN_n (by rw [List.length_set, hlen]; exact ok.2.1), _, rfl, ?_⟩
      exact fin _ _ _ (s2.new nl) upd_same (rows_set (i := j) el2 p2 (⟨a, rfl, seqT_same s2 ha⟩ : RowA K _ (.ref a) (rs.getD i []))) rfl
    | add i j z =>
      obtain ⟨a, ea, ha⟩ := rowAt i ok.1
      obtain ⟨b, eb, hb'⟩ := rowAt j ok.2.1
      refine ⟨_, rfl, ad, _, 1, _, rfl, rfl, hd1, rfl, _, rfl, ad, _, 0, _, rfl, rfl, hd1, rfl, rfl, _, rfl, iteN (by decide +kernel) ?_⟩
      refine ⟨_, rfl, ad, _, 0, _, rfl, rfl, hd1, rfl, rfl, _, rfl, iteN (by decide +kernel) ?_⟩
      refine ⟨_, rfl, _, rfl, ar, vs, (i : Nat), _, rfl, rfl, er1, atI_nat ea, _, rfl, _, rfl, ad, _, 2, _, rfl, rfl, hd1, rfl, ar, vs, (j : Nat), _, rfl, rfl, er1, atI_nat eb, a, b, _, _, rfl, .inr ⟨seqT_same s1 ha, seqT_same s1 hb', fun D hD => ?_⟩⟩
      have hli : ((rs.getD i []).map V.int).length = n := by rw [List.length_map]; exact sh.row ok.1
      have hlj : ((rs.getD j []).map V.int).length = n := by rw [List.length_map]; exact sh.row ok.2.1
      refine lc_all (walk_zipTT rfl) hD (RInt fun k => vg (rs.getD i []) k + z * vg (rs.getD j []) k) (rInt_keep _) (fun H' s => ⟨seqT_same (s1.trans s) ha, seqT_same (s1.trans s) hb'⟩) (by rw [hli, hlj, Nat.min_self]; exact hn) (fun k x H1 H' C hk sm hx' hy kk => ?_) (fun H1 ys sm e hp2 => ?_) g_pair
      · obtain ⟨Tp, u, v, rfl, nT, rfl, eu, ev⟩ := hy
        rw [hli, hlj, Nat.min_self] at hk
        obtain ⟨z1, ez1, rfl⟩ := mapInt_get eu
        obtain ⟨z2, ez2, rfl⟩ := mapInt_get ev
        have hki : k < (rs.getD i []).length := by rw [sh.row ok.1]; exact hk
        have hkj : k < (rs.getD j []).length := by rw [sh.row ok.2.1]; exact hk
        rw [getD_at hki] at ez1
        rw [getD_at hkj] at ez2
        cases ez1
        cases ez2
        have sT : Same H1 (upd H1 Tp (.tup [.int (vg (rs.getD i []) k), .int (vg (rs.getD j []) k)])) := same1 nT
        refine pair_in ⟨rfl, _, rfl, _, rfl, ad, _, 3, _, rfl, rfl, seqT_same (sm.trans sT) hd1, rfl, _, rfl, _, _, rfl, rfl, mulx_bt hb1 (hb2 _ (mem_getD (by rw [sh.1]; exact ok.2.1)) _ (mem_vg hkj)) hb, _, _, rfl, rfl, kk _ _ sT rfl⟩
      · have e2 := ints_of hp2
        rw [List.length_map, List.length_map, range_vg2 (f := fun x y => x + z * y)] at e2
        rw [e2] at e
        refine ⟨D, _, rfl, .inl ⟨SqL.of e, fun l2 nl2 => ?_⟩⟩
        have s3 : Same (upd H l (.lst vs)) (upd H1 l2 (.tup ((List.zipWith (fun x y => x + z * y) (rs.getD i []) (rs.getD j [])).map V.int))) := sm.push nl2
        have hv : RowA K (upd H1 l2 (.tup ((List.zipWith (fun x y => x + z * y) (rs.getD i []) (rs.getD j [])).map V.int))) (.ref l2) (List.zipWith (fun x y => x + z * y) (rs.getD i []) (rs.getD j [])) := ⟨l2, rfl, SqT.of upd_same⟩
        have el2 := s3 _ _ el1
        refine ⟨_, rfl, _, rfl, l, vs, (i : Nat), i, rfl, rfl, el2, ixN_n (by rw [hlen]; exact ok.1), _, rfl, ?_⟩
        exact fin _ _ _ ((s1.trans s3).new nl) upd_same (rows_set (i := i) el2 (Paired.imp (fun _ _ z => RowA.tk s3.tk z) hp1) hv) rfl
end
end SF
end
section
set_option maxHeartbeats 4000000
namespace SF
open PySem PySem.Spec PyProof.Rows L2
/-- what is_deed reads of the dict of lengths -/
structure Lens (K : PySem.W.Frag) (dd : Addr) : Prop where
  swap : ∃ t, PySem.W.nsIn K dd "swap" = some (some (.int 3 t))
  turn : ∃ t, PySem.W.nsIn K dd "turn" = some (some (.int 2 t))
  add : ∃ t, PySem.W.nsIn K dd "add" = some (some (.int 4 t))
/-- all is within the line while the deeds are led -/
structure DoneOk (B1 B2 : Nat) (M : List (List Int)) (ds : List Deed) : Prop where
  num : ∀ d ∈ ds, d.bt B1
  ent : ∀ i, ∀ l ∈ acts (ds.take i) M, ∀ z ∈ l, Bt B2 z
  sum : B1 + B2 ≤ 134217728
section
variable {P : Program} {w : World} {K : PySem.W.Frag} {mg : Str → Option Value} {base : Heap} {f : Addr} {fd : FuncData}
/-! ### is_deed: many 0 thing 1; cells - -/
abbrev st_is_deed : Stmt := topS 23
abbrev sl_is_deed : List Str := ["many", "thing"]
theorem sc_is_deed : FnScope sl_is_deed ["many", "thing"] (defScope st_is_deed) := ⟨rfl, rfl, rfl, by decide +kernel, rfl, by decide +kernel, by decide +kernel⟩
-- calls is_place is_whole; built-ins isinstance len str tuple; level 3
def sp_is_deed (K : PySem.W.Frag) : Sp := fun vs H Q _ => ∃ (m : Nat) (x : V) (d : Deed), vs = [.int (m : Nat), x] ∧ DeedA K H x d ∧ d.ok m ∧ Q (.bl true) H
theorem ok_is_deed (M : Blt mg) (F : Fun K "is_deed" "is_deed" st_is_deed f fd) (hm : mg "is_deed" = some (.ref f)) {dd : Addr} {es : Array DictEntry} {nn : Nat} (DK : KDict K w dd es nn) (mLEN : mg "LENGTHS" = some (.ref dd)) (LK : Lens K dd) (C_is_whole : Cal P w K mg base 1 "is_whole" ["thing"] (sp_is_whole K)) (C_is_place : Cal P w K mg base 2 "is_place" ["many", "thing"] (sp_is_place K)) : Cal P w K mg base 3 "is_deed" ["many", "thing"] (sp_is_deed K) := by
  refine ⟨f, fd, F.ok sc_is_deed (fun vs H Q E h => ?_) (fun cdv A outer s H vs Q E hr h => ?_), hm, F.kp, F.binds fun _ _ _ _ _ _ us hl => match us, hl with | [_, _], _ => rfl⟩
  · obtain ⟨_, _, _, rfl, _⟩ := h
    rfl
  · obtain ⟨m, x, d, rfl, ⟨a, rfl, hd⟩, ok, q⟩ := h
    refine ⟨_, (pss_cons (ps_if (PW.pt (pw_or (pt_not (pt_val (pe_callB (id := "isinstance") (r := rIsi K) call_isi (by rfl) M.isinstance (by decide +kernel) (pa_cons (pv 1) (pa_cons (pe_bltn (v := .ty "tuple") (by rfl) M.tuple boot_tuple rfl) pa_nil))))) (pw_or (pt_cmpR op_lt (pe_callB (id := "len") (r := rLenS K) call_lenS (by rfl) M.len (by decide +kernel) (pa_cons (pv 1) pa_nil)) pe_int (nomark _)) (pw_or1 (pt_not (pt_val (pe_callB (id := "isinstance") (r := rIsi K) call_isi (by rfl) M.isinstance (by decide +kernel) (pa_cons (pe_ix (r := rIxT K) ix_tup (pv 1) pe_int (fun _ _ => rfl)) (pa_cons (pe_bltn (v := .ty "str") (by rfl) M.str boot_str rfl) pa_nil)))))))))
        (pss_one (ps_ret pe_bl))
        pss_nil)
      (pss_cons (ps_if (PW.pt (pw_or (pt_cmpR op_ne (pe_kget2 DK (pe_glob (v := .ref dd) rfl mLEN rfl) (pe_ix (r := rIxT K) ix_tup (pv 1) pe_int (fun _ _ => rfl)) pe_int ⟨rfl, rfl, rfl, rfl⟩) (pe_callB (id := "len") (r := rLenS K) call_lenS (by rfl) M.len (by decide +kernel) (pa_cons (pv 1) pa_nil)) (nomark _)) (pw_or1 (pt_not (pt_val (pe_cal C_is_place (hr.mono (by decide)) (by rfl) (pa_cons (pv 0) (pa_cons (pe_ix (r := rIxT K) ix_tup (pv 1) pe_int (fun _ _ => rfl)) pa_nil))))))))
        (pss_one (ps_ret pe_bl))
        pss_nil)
      (pss_cons (ps_if (pt_cmpR op_eq (pe_ix (r := rIxT K) ix_tup (pv 1) pe_int (fun _ _ => rfl)) pe_str (nomark _))
        (pss_one (ps_ret pe_bl))
        pss_nil)
      (pss_cons (ps_if (PW.pt (pw_or (pt_not (pt_val (pe_cal C_is_place (hr.mono (by decide)) (by rfl) (pa_cons (pv 0) (pa_cons (pe_ix (r := rIxT K) ix_tup (pv 1) pe_int (fun _ _ => rfl)) pa_nil))))) (pw_or1 (pt_cmpR op_eq (pe_ix (r := rIxT K) ix_tup (pv 1) pe_int (fun _ _ => rfl)) (pe_ix (r := rIxT K) ix_tup (pv 1) pe_int (fun _ _ => rfl)) (nomark _)))))
        (pss_one (ps_ret pe_bl))
        pss_nil)
      (pss_one (ps_ret (pe_or (pe_cmpR op_eq (pe_ix (r := rIxT K) ix_tup (pv 1) pe_int (fun _ _ => rfl)) pe_str (nomark _)) (pe_one (pe_cal C_is_whole (hr.mono (by decide)) (by rfl) (pa_cons (pe_ix (r := rIxT K) ix_tup (pv 1) pe_int (fun _ _ => rfl)) pa_nil)))))))))), ?_⟩
    have pl : ∀ i : Nat, i < m → decide ((0 : Int) ≤ (i : Int) ∧ (i : Int) < (m : Int)) = true := fun i hi => decide_eq_true ⟨Int.natCast_nonneg i, by omega⟩
    have head : ∀ {c A B : Prop} [Decidable c], True := fun {_ _ _} _ => True.intro
    cases d with
    | turn i =>
      have hi : i < m := ok
      obtain ⟨t, et⟩ := LK.turn
      refine ⟨_, rfl, _, _, _, _, true, rfl, .ty _, tyTup hd, kit_ty (by decide +kernel), _, rfl, iteN (by decide) ⟨_, rfl, a, _, rfl, .inr hd, _, _, rfl, rfl, _, rfl, iteN (by show ¬ decide ((2 : Int) < 2) = true; decide) ?_⟩⟩
      refine ⟨_, rfl, a, _, 0, _, rfl, rfl, hd, rfl, _, _, _, _, true, rfl, .ty _, .base (.str _), kit_ty (by decide +kernel), _, rfl, iteN (by decide) ?_⟩
      refine ⟨rfl, _, rfl, a, _, 0, _, rfl, rfl, hd, rfl, _, _, rfl, et, (fun z => by cases z), fun u0 e => ⟨.int 2, by cases e; exact ⟨t, rfl⟩, ?_⟩⟩
      refine ⟨_, rfl, a, _, rfl, .inr hd, rfl, _, rfl, iteN (by show ¬ (!decide (V.int 2 = V.int 2)) = true; decide) ?_⟩
      refine ⟨_, rfl, _, rfl, a, _, 1, _, rfl, rfl, hd, rfl, _, _, rfl, _, rfl, iteN (by rw [pl i hi]; decide) ?_⟩
      exact ⟨_, rfl, a, _, 0, _, rfl, rfl, hd, rfl, rfl, _, rfl, iteP (by decide +kernel) q⟩
    | swap i j =>
      obtain ⟨hi, hj, hij⟩ := (show i < m ∧ j < m ∧ i ≠ j from ok)
      obtain ⟨t, et⟩ := LK.swap
      refine ⟨_, rfl, _, _, _, _, true, rfl, .ty _, tyTup hd, kit_ty (by decide +kernel), _, rfl, iteN (by decide) ⟨_, rfl, a, _, rfl, .inr hd, _, _, rfl, rfl, _, rfl, iteN (by show ¬ decide ((3 : Int) < 2) = true; decide) ?_⟩⟩
      refine ⟨_, rfl, a, _, 0, _, rfl, rfl, hd, rfl, _, _, _, _, true, rfl, .ty _, .base (.str _), kit_ty (by decide +kernel), _, rfl, iteN (by decide) ?_⟩
      refine ⟨rfl, _, rfl, a, _, 0, _, rfl, rfl, hd, rfl, _, _, rfl, et, (fun z => by cases z), fun u0 e => ⟨.int 3, by cases e; exact ⟨t, rfl⟩, ?_⟩⟩
      refine ⟨_, rfl, a, _, rfl, .inr hd, rfl, _, rfl, iteN (by show ¬ (!decide (V.int 3 = V.int 3)) = true; decide) ?_⟩
      refine ⟨_, rfl, _, rfl, a, _, 1, _, rfl, rfl, hd, rfl, _, _, rfl, _, rfl, iteN (by rw [pl i hi]; decide) ?_⟩
      refine ⟨_, rfl, a, _, 0, _, rfl, rfl, hd, rfl, rfl, _, rfl, iteN (by decide +kernel) ?_⟩
      refine ⟨_, rfl, _, rfl, a, _, 2, _, rfl, rfl, hd, rfl, _, _, rfl, _, rfl, iteN (by rw [pl j hj]; decide) ?_⟩
      refine ⟨_, rfl, a, _, 1, _, rfl, rfl, hd, rfl, _, rfl, a, _, 2, _, rfl, rfl, hd, rfl, rfl, _, rfl, iteN ?_ ?_⟩
      · rw [decide_eq_true_eq]
        intro z
        have z := V.int.inj z
        omega
      · exact ⟨_, rfl, a, _, 0, _, rfl, rfl, hd, rfl, rfl, _, rfl, iteP (by decide +kernel) q⟩
    | add i j z =>
      obtain ⟨hi, hj, hij⟩ := (show i < m ∧ j < m ∧ i ≠ j from ok)
      obtain ⟨t, et⟩ := LK.add
      refine ⟨_, rfl, _, _, _, _, true, rfl, .ty _, tyTup hd, kit_ty (by decide +kernel), _, rfl, iteN (by decide) ⟨_, rfl, a, _, rfl, .inr hd, _, _, rfl, rfl, _, rfl, iteN (by show ¬ decide ((4 : Int) < 2) = true; decide) ?_⟩⟩
      refine ⟨_, rfl, a, _, 0, _, rfl, rfl, hd, rfl, _, _, _, _, true, rfl, .ty _, .base (.str _), kit_ty (by decide +kernel), _, rfl, iteN (by decide) ?_⟩
      refine ⟨rfl, _, rfl, a, _, 0, _, rfl, rfl, hd, rfl, _, _, rfl, et, (fun z => by cases z), fun u0 e => ⟨.int 4, by cases e; exact ⟨t, rfl⟩, ?_⟩⟩
      refine ⟨_, rfl, a, _, rfl, .inr hd, rfl, _, rfl, iteN (by show ¬ (!decide (V.int 4 = V.int 4)) = true; decide) ?_⟩
      refine ⟨_, rfl, _, rfl, a, _, 1, _, rfl, rfl, hd, rfl, _, _, rfl, _, rfl, iteN (by rw [pl i hi]; decide) ?_⟩
      refine ⟨_, rfl, a, _, 0, _, rfl, rfl, hd, rfl, rfl, _, rfl, iteN (by decide +kernel) ?_⟩
      refine ⟨_, rfl, _, rfl, a, _, 2, _, rfl, rfl, hd, rfl, _, _, rfl, _, rfl, iteN (by rw [pl j hj]; decide) ?_⟩
      refine ⟨_, rfl, a, _, 1, _, rfl, rfl, hd, rfl, _, rfl, a, _, 2, _, rfl, rfl, hd, rfl, rfl, _, rfl, iteN ?_ ?_⟩
      · rw [decide_eq_true_eq]
        intro z
        have z := V.int.inj z
        omega
      · exact ⟨_, rfl, a, _, 0, _, rfl, rfl, hd, rfl, rfl, _, rfl, iteN (by decide +kernel) ⟨_, rfl, a, _, 3, _, rfl, rfl, hd, rfl, z, rfl, q⟩⟩
/-! ### look_at: many 0 deeds 1 number 2 deed 3; cells - -/
abbrev st_look_at : Stmt := topS 24
abbrev sl_look_at : List Str := ["many", "deeds", "number", "deed"]
theorem sc_look_at : FnScope sl_look_at ["many", "deeds"] (defScope st_look_at) := ⟨rfl, rfl, rfl, by decide +kernel, rfl, by decide +kernel, by decide +kernel⟩
-- calls is_deed; built-ins enumerate isinstance tuple; level 4
def sp_look_at (K : PySem.W.Frag) : Sp := fun vs H Q _ => ∃ (m : Nat) (x : V) (ds : List Deed), vs = [.int (m : Nat), x] ∧ DeedsA K H x ds ∧ (∀ d ∈ ds, d.ok m) ∧ ∀ H', Same H H' → Q .non H'
theorem ok_look_at (M : Blt mg) (F : Fun K "look_at" "look_at" st_look_at f fd) (hm : mg "look_at" = some (.ref f)) (C_is_deed : Cal P w K mg base 3 "is_deed" ["many", "thing"] (sp_is_deed K)) : Cal P w K mg base 4 "look_at" ["many", "deeds"] (sp_look_at K) := by
  refine ⟨f, fd, F.ok sc_look_at (fun vs H Q E h => ?_) (fun cdv A outer s H vs Q E hr h => ?_), hm, F.kp, F.binds fun _ _ _ _ _ _ us hl => match us, hl with | [_, _], _ => rfl⟩
  · obtain ⟨_, _, _, rfl, _⟩ := h
    rfl
  · obtain ⟨m, x, ds, rfl, ⟨a, us, rfl, ha, hp⟩, ok, q⟩ := h
    refine ⟨_, (pss_cons (ps_if (pt_not (pt_val (pe_callB (id := "isinstance") (r := rIsi K) call_isi (by rfl) M.isinstance (by decide +kernel) (pa_cons (pv 1) (pa_cons (pe_bltn (v := .ty "tuple") (by rfl) M.tuple boot_tuple rfl) pa_nil)))))
        (pss_one ps_never)
        pss_nil)
      (pss_one (ps_for PassesOwn.never rfl (pi_enumT (by rfl) M.enumerate (pa_cons (pv 1) pa_nil)) (pg_tupK (K := K) (n := 2) rfl rfl (pgs_cons (pg_name (i := 2) sc_look_at.nd rfl (.inl rfl)) (pgs_cons (pg_name (i := 3) sc_look_at.nd rfl (.inl rfl)) pgs_nil)))
        (pss_one (ps_if (pt_not (pt_val (pe_cal C_is_deed (hr.mono (by decide)) (by rfl) (pa_cons (pv 0) (pa_cons (pv 3) pa_nil)))))
          (pss_one ps_never)
          pss_nil))))), ?_⟩
    refine ⟨_, rfl, _, _, _, _, true, rfl, .ty _, tyTup ha, kit_ty (by decide +kernel), _, rfl, iteN (by decide) ?_⟩
    refine ⟨_, rfl, a, us, rfl, ha, ?_⟩
    refine for_it walk_enumT (fun i σ H2 => ∃ x2 x3, σ = [some (.int (m : Nat)), some (.ref a), x2, x3] ∧ Same H H2) ⟨none, none, rfl, Same.refl H⟩ (fun i σ H2 _ ⟨_, _, _, s⟩ => seqT_same s ha) ?_ ?_
    · rintro i x σ H2 H2' hi ⟨x2, x3, rfl, s2⟩ ⟨Tp, u, v, rfl, nT, rfl, eu, ev⟩
      cases eu
      obtain ⟨d, ed, hd⟩ := Paired.get hp ev
      have sT : Same H2 (upd H2 Tp (.tup [.int (i : Nat), v])) := same1 nT
      refine pair_in ⟨_, rfl, _, rfl, m, v, d, rfl, hd.tk (s2.trans sT).tk, ok d (List.mem_of_getElem? ed), _, rfl, iteN (by decide) ⟨_, _, rfl, s2.trans sT⟩⟩
    · rintro σ H2 ⟨x2, x3, rfl, s2⟩
      exact q _ s2
/-! ### done: table 0 deeds 1 rows 2 deed 3; cells - -/
abbrev st_done : Stmt := topS 26
abbrev sl_done : List Str := ["table", "deeds", "rows", "deed"]
theorem sc_done : FnScope sl_done ["table", "deeds"] (defScope st_done) := ⟨rfl, rfl, rfl, by decide +kernel, rfl, by decide +kernel, by decide +kernel⟩
-- calls look_at rows_behind; built-ins len list tuple; level 5
def sp_done (K : PySem.W.Frag) : Sp := fun vs H Q _ => ∃ (x y : V) (n m : Nat) (T : List (List Int)) (ds : List Deed) (B1 B2 : Nat), vs = [x, y] ∧ TabA K H x n T ∧ DeedsA K H y ds ∧ Shape m n T ∧ (∀ d ∈ ds, d.ok m) ∧ n < sizeLine ∧ DoneOk B1 B2 T ds ∧
  ∀ H' v, Same H H' → TabA K H' v n (acts ds T) → Q v H'
theorem ok_done (M : Blt mg) (F : Fun K "done" "done" st_done f fd) (hm : mg "done" = some (.ref f)) (C_look_at : Cal P w K mg base 4 "look_at" ["many", "deeds"] (sp_look_at K)) (C_rows_behind : Cal P w K mg base 1 "rows_behind" ["rows", "deed"] (sp_rows_behind K)) : Cal P w K mg base 5 "done" ["table", "deeds"] (sp_done K) := by
  refine ⟨f, fd, F.ok sc_done (fun vs H Q E h => ?_) (fun cdv A outer s H vs Q E hr h => ?_), hm, F.kp, F.binds fun _ _ _ _ _ _ us hl => match us, hl with | [_, _], _ => rfl⟩
  · obtain ⟨_, _, _, _, _, _, _, _, rfl, _⟩ := h
    rfl
  · obtain ⟨x, y, n, m, T, ds, B1, B2, rfl, ⟨at_, tx, rfl, ht, ar, rs, rfl, hr1, hpr⟩, ⟨ad, us, rfl, hd, hpd⟩, sh, ok, hn, hdn, q⟩ := h
    refine ⟨_, (pss_cons (ps_expr (pe_cal C_look_at (hr.mono (by decide)) (by rfl) (pa_cons (pe_callB (id := "len") (r := rLenS K) call_lenS (by rfl) M.len (by decide +kernel) (pa_cons (pe_ix (r := rIxT K) ix_tup (pv 0) pe_int (fun _ _ => rfl)) pa_nil)) (pa_cons (pv 1) pa_nil))))
      (pss_cons (ps_set (i := 2) sc_done.nd rfl (Or.inl rfl) (pe_callTy (T := "list") (r := rListOf K) call_lst (by rfl) M.list (by decide +kernel) (pa_cons (pe_ix (r := rIxT K) ix_tup (pv 0) pe_int (fun _ _ => rfl)) pa_nil)))
      (pss_cons (ps_for PassesOwn.never rfl (pi_tupK (K := K) rfl (pv 1)) (pg_name (i := 3) sc_done.nd rfl (.inl rfl))
        (pss_one (ps_set (i := 2) sc_done.nd rfl (Or.inl rfl) (pe_cal C_rows_behind (hr.mono (by decide)) (by rfl) (pa_cons (pv 2) (pa_cons (pv 3) pa_nil))))))
      (pss_one (ps_ret (pe_tup (pa_cons (pe_ix (r := rIxT K) ix_tup (pv 0) pe_int (fun _ _ => rfl)) (pa_cons (pe_callTy (T := "tuple") (r := rTupOf K) call_tup (by rfl) M.tuple (by decide +kernel) (pa_cons (pv 2) pa_nil)) pa_nil)))))))), ?_⟩
    have hlen : rs.length = m := (Paired.length hpr).trans sh.1
    refine ⟨_, rfl, at_, _, 1, _, rfl, rfl, ht, rfl, ar, rs, rfl, .inr hr1, _, rfl, m, _, ds, by rw [hlen]; rfl, ⟨ad, us, rfl, hd, hpd⟩, ok, fun H1 s1 => ?_⟩
    refine ⟨_, rfl, at_, _, 1, _, rfl, rfl, seqT_same s1 ht, rfl, ar, rs, rfl, .inr (seqT_same s1 hr1), fun l nl => ?_⟩
    have s2 := s1.push (o := .lst rs) nl
    refine ⟨_, rfl, ad, rfl, ⟨us, seqT_same s2 hd⟩, ?_⟩
    refine for_it walk_tup (fun i σ H2 => ∃ v x3, σ = [some (.ref at_), some (.ref ad), some v, x3] ∧ Same H H2 ∧ RowsLT K H2 v (acts (ds.take i) T)) ⟨_, none, rfl, s2, l, rs, rfl, upd_same, Paired.imp (fun _ _ z => RowA.tk s2.tk z) hpr⟩ (fun i σ H2 _ ⟨_, _, _, s, _⟩ => seqT_same s hd) ?_ ?_
    · rintro i x σ H2 H2' hi ⟨v, x3, rfl, s3, hv⟩ ⟨rfl, ex⟩
      obtain ⟨d, ed, hdd⟩ := Paired.get hpd ex
      have hdm : d ∈ ds := List.mem_of_getElem? ed
      refine ⟨_, rfl, _, rfl, v, x, _, d, m, n, B1, B2, rfl, hv, hdd.tk s3.tk, acts_shape sh (fun d' h' => ok d' (List.mem_of_mem_take h')), ok d hdm, hn, hdn.num d hdm, hdn.ent i, hdn.sum, fun H4 v' s4 hv' => ?_⟩
      refine ⟨v', _, rfl, s3.trans s4, ?_⟩
      have e : ds.take (i + 1) = ds.take i ++ [d] := by rw [List.take_add_one, ed]; rfl
      rw [e, acts_append]
      exact hv'
    · rintro σ H2 ⟨v, x3, rfl, s3, b, ws, rfl, eb, hpb⟩
      have hl : us.length = ds.length := Paired.length hpd
      rw [hl, List.take_of_length_le (Nat.le_refl _)] at hpb
      refine ⟨_, rfl, at_, _, 0, _, rfl, rfl, seqT_same s3 ht, rfl, _, rfl, b, ws, rfl, .inl ⟨SqL.of eb, fun l2 nl2 => ⟨by show 2 ≤ sizeLine; decide, fun t nt => ?_⟩⟩⟩
      have s4 := s3.push (o := .tup ws) nl2
      refine q _ _ (s4.push nt) ⟨t, _, rfl, SqT.of upd_same, l2, ws, rfl, seqT_same (same1 nt) (SqT.of upd_same), Paired.imp (fun _ _ z => RowA.tk ((same1 nl2).trans (same1 nt)).tk z) hpb⟩
/-! ### deeds_table: many 0 deeds 1; cells - -/
abbrev st_deeds_table : Stmt := topS 27
abbrev sl_deeds_table : List Str := ["many", "deeds"]
theorem sc_deeds_table : FnScope sl_deeds_table ["many", "deeds"] (defScope st_deeds_table) := ⟨rfl, rfl, rfl, by decide +kernel, rfl, by decide +kernel, by decide +kernel⟩
-- calls done unit; built-ins ; level 6
def sp_deeds_table (K : PySem.W.Frag) : Sp := fun vs H Q _ => ∃ (m : Nat) (y : V) (ds : List Deed) (B1 B2 : Nat), vs = [.int (m : Nat), y] ∧ DeedsA K H y ds ∧ (∀ d ∈ ds, d.ok m) ∧ m ≤ 1000 ∧ DoneOk B1 B2 (unitM m) ds ∧ ∀ H' v, Same H H' → TabA K H' v m (acts ds (unitM m)) → Q v H'
theorem ok_deeds_table (M : Blt mg) (F : Fun K "deeds_table" "deeds_table" st_deeds_table f fd) (hm : mg "deeds_table" = some (.ref f)) (C_done : Cal P w K mg base 5 "done" ["table", "deeds"] (sp_done K)) (C_unit : Cal P w K mg base 2 "unit" ["n"] (sp_unit K)) : Cal P w K mg base 6 "deeds_table" ["many", "deeds"] (sp_deeds_table K) := by
  refine ⟨f, fd, F.ok sc_deeds_table (fun vs H Q E h => ?_) (fun cdv A outer s H vs Q E hr h => ?_), hm, F.kp, F.binds fun _ _ _ _ _ _ us hl => match us, hl with | [_, _], _ => rfl⟩
  · obtain ⟨_, _, _, _, _, rfl, _⟩ := h
    rfl
  · obtain ⟨m, y, ds, B1, B2, rfl, hd, ok, hm', hdn, q⟩ := h
    refine ⟨_, (pss_one (ps_ret (pe_cal C_done (hr.mono (by decide)) (by rfl) (pa_cons (pe_cal C_unit (hr.mono (by decide)) (by rfl) (pa_cons (pv 0) pa_nil)) (pa_cons (pv 1) pa_nil))))), ?_⟩
    exact ⟨_, rfl, m, rfl, hm', fun H1 v1 s1 h1 => ⟨_, rfl, v1, y, m, m, _, ds, B1, B2, rfl, h1, hd.tk s1.tk, unitM_shape m, ok, small1000 hm', hdn, fun H2 v2 s2 h2 => q _ _ (s1.trans s2) h2⟩⟩
end
end SF
end
section
set_option maxHeartbeats 4000000
namespace SF
open PySem PySem.Spec PyProof.Rows L2
theorem map_getD (F : List (List Int)) : (List.range F.length).map (fun i => F.getD i []) = F := by
  apply List.ext_getElem?
  intro i
  by_cases h : i < F.length
  · rw [List.getElem?_map, List.getElem?_range h, getD_row h]; rfl
  · rw [List.getElem?_eq_none (by simp; omega), List.getElem?_eq_none (by omega)]
theorem filt_len (p : List Int → Bool) (F : List (List Int)) : ((List.range F.length).filter fun i => p (F.getD i [])).length = (F.filter p).length := by
  have h := map_getD F
  rw [show (F.filter p) = (((List.range F.length).map (fun i => F.getD i [])).filter p) by rw [h], List.filter_map, List.length_map]
  rfl
theorem map_vg (r : List Int) : (List.range r.length).map (vg r) = r := by
  have := range_vg (f := fun x => x) r
  simpa using this
theorem filt_vg (p : Int → Bool) (r : List Int) : ((List.range r.length).filter fun k => p (vg r k)).map (vg r) = r.filter p := by
  have h := map_vg r
  rw [show (r.filter p) = (((List.range r.length).map (vg r)).filter p) by rw [h], List.filter_map]
  rfl
theorem ne0 (z : Int) : (!decide (V.int z = V.int 0)) = (z != 0) := by
  by_cases h : z = 0 <;> simp [h]
theorem filt_nz (r : List Int) : (!(dI (r.filter fun x => x != 0)).isEmpty) = nz r := by
  unfold nz dI
  induction r with
  | nil => rfl
  | cons x r ih =>
    rw [List.filter_cons, List.any_cons]
    by_cases h : (x != 0) = true
    · rw [if_pos h, h]; rfl
    · rw [if_neg h, Bool.eq_false_iff.mpr h, Bool.false_or]; exact ih
section
variable {P : Program} {w : World} {K : PySem.W.Frag} {mg : Str → Option Value} {base : Heap} {f : Addr} {fd : FuncData}
/-! ### free_rows: paper 0 word 1 one 2 form 3 there 4 back 5 ahead 6 row 7 number 8; cells - -/
abbrev st_free_rows : Stmt := topS 17
abbrev sl_free_rows : List Str := ["paper", "word", "one", "form", "there", "back", "ahead", "row", "number"]
theorem sc_free_rows : FnScope sl_free_rows ["paper"] (defScope st_free_rows) := ⟨rfl, rfl, rfl, by decide +kernel, rfl, by decide +kernel, by decide +kernel⟩
-- calls ; built-ins len; level 1
def sp_free_rows (K : PySem.W.Frag) : Sp := fun vs H Q _ => ∃ (x : V) (one : List Int) (n m : Nat) (F A B : List (List Int)), vs = [x] ∧ PapA K H x one n m F A B ∧ F.length < sizeLine ∧ (∀ r ∈ F, r.length < sizeLine) ∧
  ∀ H' v, Same H H' → TabA K H' v m (A.drop (aheadOf F)) → Q v H'
theorem ok_free_rows (M : Blt mg) (F : Fun K "free_rows" "free_rows" st_free_rows f fd) (hm : mg "free_rows" = some (.ref f)) : Cal P w K mg base 1 "free_rows" ["paper"] (sp_free_rows K) := by
  refine ⟨f, fd, F.ok sc_free_rows (fun vs H Q E h => ?_) (fun cdv A outer s H vs Q E hr h => ?_), hm, F.kp, F.binds fun _ _ _ _ _ _ us hl => match us, hl with | [_], _ => rfl⟩
  · obtain ⟨_, _, _, _, _, _, _, rfl, _⟩ := h
    rfl
  · obtain ⟨x, one, n, m, Fm, Am, Bm, rfl, ⟨a, o, fo, t, b, rfl, ha, _, ⟨af, xf, rfl, hf, af1, vf, rfl, hf1, hpf⟩, ⟨at_, xt, rfl, ht, at1, vt, rfl, ht1, hpt⟩, _⟩, hFl, hFw, q⟩ := h
    refine ⟨_, (pss_cons (ps_asg (pv 0) (pg_tupK (K := K) (n := 5) rfl rfl (pgs_cons (pg_name (i := 1) sc_free_rows.nd rfl (.inl rfl)) (pgs_cons (pg_name (i := 2) sc_free_rows.nd rfl (.inl rfl)) (pgs_cons (pg_name (i := 3) sc_free_rows.nd rfl (.inl rfl)) (pgs_cons (pg_name (i := 4) sc_free_rows.nd rfl (.inl rfl)) (pgs_cons (pg_name (i := 5) sc_free_rows.nd rfl (.inl rfl)) pgs_nil)))))))
      (pss_cons (ps_set (i := 6) sc_free_rows.nd rfl (Or.inl rfl) (pe_callB (id := "len") (r := rLenS K) call_lenS (by rfl) M.len (by decide +kernel) (pa_cons (pe_lc (own := [("row", 7)]) rfl sc_free_rows.nd (pi_tupK (K := K) rfl (pe_ix (r := rIxT K) ix_tup (pv 3) pe_int (fun _ _ => rfl))) (blkOk_by (N := sl_free_rows) (sc := defScope st_free_rows) (by decide +kernel)) (fun _ _ _ _ _ => (pg_name (i := 7) sc_free_rows.nd rfl (.inl rfl) (.inr rfl))) (fun _ _ _ _ _ => (pts_one (pt_cmpR (r := rNeD K) (op_neD hr.units) (pe_lc (own := [("number", 8)]) rfl sc_free_rows.nd (pi_tupK (K := K) rfl (pv 7)) (blkOk_by (N := sl_free_rows) (sc := { kind := .function, names := [(".0", .local), ("row", .local)], isGenerator := false, isCoroutine := false }) (by decide +kernel)) (fun _ _ _ _ _ => (pg_name (i := 8) sc_free_rows.nd rfl (.inl rfl) (.inr rfl))) (fun _ _ _ _ _ => (pts_one (pt_cmpR op_ne (pv 8) pe_int (nomark _)))) (fun _ _ _ _ _ => (pv 8))) (pe_lst pa_nil) (nomark _)))) (fun _ _ _ _ _ => (pv 7))) pa_nil)))
      (pss_one (ps_ret (pe_tup (pa_cons (pe_ix (r := rIxT K) ix_tup (pv 4) pe_int (fun _ _ => rfl)) (pa_cons (pe_slice (r := rSlA K) sl_tupA (pe_ix (r := rIxT K) ix_tup (pv 4) pe_int (fun _ _ => rfl)) (po_some (pv 6)) po_none) pa_nil))))))), ?_⟩
    refine ⟨_, rfl, a, _, rfl, ha, rfl, _, _, rfl, _, _, rfl, _, _, rfl, _, _, rfl, _, _, rfl, rfl, ?_⟩
    refine ⟨_, rfl, af, _, 1, _, rfl, rfl, hf, rfl, af1, rfl, ⟨_, hf1⟩, fun D hD => ?_⟩
    have hlen : vf.length = Fm.length := Paired.length hpf
    refine lc_flt walk_tup hD (fun _ _ _ => True) (fun i => nz (Fm.getD i [])) (fun _ _ _ _ _ _ h => h) (fun H' s => seqT_same s hf1) (by rw [hlen]; exact hFl) (fun i x H1 H' C N hi sm hx hy k kn => ?_) (fun H1 ys sm e hp2 => ?_)
    · obtain ⟨rfl, ex⟩ := hy
      obtain ⟨r, er, ar, rfl, har⟩ := Paired.get hpf ex
      have hiF : i < Fm.length := by omega
      rw [getD_row hiF] at er
      cases er
      refine ⟨rfl, _, rfl, ar, rfl, ⟨_, seqT_same sm har⟩, fun D2 hD2 => ?_⟩
      refine lc_flt walk_tup hD2 (RInt (vg (Fm.getD i []))) (fun k => vg (Fm.getD i []) k != 0) (rInt_keep _) (fun H'' s => seqT_same (sm.trans s) har) (by rw [List.length_map]; exact hFw _ (mem_getD hiF)) (fun j x H2 H2' C2 N2 hj sm2 hx2 hy2 k2 kn2 => ?_) (fun H2 ys sm2 e2 hp3 => ?_)
      · obtain ⟨rfl, ex2⟩ := hy2
        obtain ⟨z, ez, rfl⟩ := mapInt_get ex2
        have hj' : j < (Fm.getD i []).length := by rwa [List.length_map] at hj
        rw [getD_at hj'] at ez
        cases ez
        refine ⟨rfl, _, rfl, rfl, _, rfl, ite2 (fun h1 => ⟨_, rfl, k2 _ _ (Same.refl _) rfl ?_⟩) fun h1 => kn2 _ (Same.refl _) ?_⟩
        · exact (ne0 _).symm.trans h1
        · exact Bool.eq_false_iff.mpr fun z => h1 ((ne0 _).trans z)
      · have e3 := ints_of hp3
        rw [List.length_map, filt_vg (fun z => z != 0)] at e3
        rw [e3] at e2
        refine ⟨Nat.zero_le _, fun p np => ?_⟩
        refine ⟨_, _, dp_lst (same1 np _ _ e2), dp_nil upd_same, sh_l _, sh_nil, _, rfl, ?_⟩
        rw [eqv_nil, filt_nz]
        have s3 : Same H' (upd H2 p (.lst [])) := sm2.push np
        refine ite2 (fun h1 => ⟨_, rfl, k _ _ s3 True.intro h1⟩) fun h1 => kn _ s3 (by simpa using h1)
    · have hl : ys.length = aheadOf Fm := by
        have h3 := Paired.length hp2
        rw [hlen, filt_len] at h3
        exact h3
      refine ⟨D, ys, rfl, .inl (SqL.of e), ?_⟩
      rw [hl]
      have fin : ∀ p H2, Same H1 H2 → SqT K H2 p (vt.drop (aheadOf Fm)) → ∀ t, H2 t = none → Q (.ref t) (upd H2 t (.tup [.int (m : Nat), .ref p])) := fun p H2 s2 hp2 t nt =>
        q _ _ ((sm.trans s2).push nt) ⟨t, _, rfl, SqT.of upd_same, p, _, rfl, seqT_same (same1 nt) hp2, Paired.imp (fun _ _ z => RowA.tk ((sm.trans s2).push nt).tk z) (Paired.drop' _ hpt)⟩
      refine ⟨_, rfl, at_, _, 0, _, rfl, rfl, seqT_same sm ht, rfl, _, rfl, at_, _, 1, _, rfl, rfl, seqT_same sm ht, rfl, _, rfl, _, rfl, at1, vt, rfl, seqT_same sm ht1, fun z => ?_, fun _ p np => ?_⟩
      · exact ⟨by show 2 ≤ sizeLine; decide, fun t nt => fin _ _ (Same.refl _) (by rw [whole_drop z]; exact seqT_same sm ht1) t nt⟩
      · refine ⟨by show 2 ≤ sizeLine; decide, fun t nt => fin _ _ (same1 np) (by rw [cut_drop]; exact SqT.of upd_same) t nt⟩
end
end SF
end
section
set_option maxHeartbeats 4000000
namespace SF
open PySem PySem.Spec PyProof.Rows L2
theorem row_len {r s : List Int} (h : r.length = s.length) : min r.length s.length = r.length := by omega
theorem vals_take {r : List Int} {n : Nat} : (r.map V.int).take n = (r.take n).map V.int := by rw [List.map_take]
theorem vals_drop {r : List Int} {n : Nat} : (r.map V.int).drop n = (r.drop n).map V.int := by rw [List.map_drop]
section
variable {P : Program} {w : World} {K : PySem.W.Frag} {mg : Str → Option Value} {base : Heap} {f : Addr} {fd : FuncData}
/-! ### answer_at: paper 0 numbers 1 more 2 number 3 other 4; cells - -/
abbrev st_answer_at : Stmt := topS 18
abbrev sl_answer_at : List Str := ["paper", "numbers", "more", "number", "other"]
theorem sc_answer_at : FnScope sl_answer_at ["paper", "numbers"] (defScope st_answer_at) := ⟨rfl, rfl, rfl, by decide +kernel, rfl, by decide +kernel, by decide +kernel⟩
-- calls free_rows row_times; built-ins tuple zip; level 2
def sp_answer_at (K : PySem.W.Frag) : Sp := fun vs H Q _ => ∃ (x y : V) (one : List Int) (n m L B1 : Nat) (F A B : List (List Int)) (r : List Int), vs = [x, y] ∧ PapA K H x one n m F A B ∧ PapOk L one n m F A B ∧ RowA K H y r ∧ (∀ z ∈ r, Bt B1 z) ∧ B1 + L ≤ 134217728 ∧
  ∀ H' v, Same H H' → RowA K H' v (answerAt one m (A.drop (aheadOf F)) r) → Q v H'
theorem ok_answer_at (M : Blt mg) (F : Fun K "answer_at" "answer_at" st_answer_at f fd) (hm : mg "answer_at" = some (.ref f)) (C_free_rows : Cal P w K mg base 1 "free_rows" ["paper"] (sp_free_rows K)) (C_row_times : Cal P w K mg base 1 "row_times" ["row", "table"] (sp_row_times K)) : Cal P w K mg base 2 "answer_at" ["paper", "numbers"] (sp_answer_at K) := by
  refine ⟨f, fd, F.ok sc_answer_at (fun vs H Q E h => ?_) (fun cdv A outer s H vs Q E hr h => ?_), hm, F.kp, F.binds fun _ _ _ _ _ _ us hl => match us, hl with | [_, _], _ => rfl⟩
  · obtain ⟨_, _, _, _, _, _, _, _, _, _, _, rfl, _⟩ := h
    rfl
  · obtain ⟨x, y, one, n, m, L, B1, Fm, Am, Bm, r, rfl, hx, ok, hy, hb, hL, q⟩ := h
    refine ⟨_, (pss_cons (ps_set (i := 2) sc_answer_at.nd rfl (Or.inl rfl) (pe_cal C_row_times (hr.mono (by decide)) (by rfl) (pa_cons (pv 1) (pa_cons (pe_cal C_free_rows (hr.mono (by decide)) (by rfl) (pa_cons (pv 0) pa_nil)) pa_nil))))
      (pss_one (ps_ret (pe_callTy (T := "tuple") (r := rTupOf K) call_tup (by rfl) M.tuple (by decide +kernel) (pa_cons (pe_lc (own := [("number", 3), ("other", 4)]) rfl sc_answer_at.nd (RZ.pi_zipA (by rfl) M.zip (pa_cons (pe_ix (r := rIxT K) ix_tup (pv 0) pe_int (fun _ _ => rfl)) (pa_cons (pv 2) pa_nil))) (blkOk_by (N := sl_answer_at) (sc := defScope st_answer_at) (by decide +kernel)) (fun _ _ _ _ _ => (pg_tupK (K := K) (n := 2) rfl rfl (pgs_cons (pg_name (i := 3) sc_answer_at.nd rfl (.inl rfl) (.inr rfl)) (pgs_cons (pg_name (i := 4) sc_answer_at.nd rfl (.inl rfl) (.inr rfl)) pgs_nil)))) (fun _ _ _ _ _ => pts_nil) (fun _ _ _ _ _ => (pe_op op_add (pv 3) (pv 4)))) pa_nil))))), ?_⟩
    have hmz : m < sizeLine := small1000 ok.m_
    refine ⟨_, rfl, _, rfl, x, one, n, m, Fm, Am, Bm, rfl, hx, by rw [ok.F_.1]; exact hmz, fun l hl => by rw [ok.F_.2 l hl]; exact small1000 ok.n_, fun H1 v1 s1 h1 => ?_⟩
    refine ⟨y, v1, r, m, _, B1, L, rfl, hy.tk s1.tk, h1, ok.m_, fun l hl => ok.A_.2 l (List.mem_of_mem_drop hl), hb, fun l hl => ok.bA l (List.mem_of_mem_drop hl), hL, fun H2 v2 s2 ⟨a2, e2, h2⟩ => ?_⟩
    subst e2
    obtain ⟨a, o, fo, t, b, rfl, ha, ⟨ao, rfl, ho⟩, _⟩ := hx.tk (s1.trans s2).tk
    refine ⟨_, rfl, a, _, 1, _, rfl, rfl, ha, rfl, _, rfl, ao, a2, _, _, rfl, .inr ⟨ho, h2, fun D hD => ?_⟩⟩
    have hl1 : (one.map V.int).length = m := by rw [List.length_map]; exact ok.one_
    have hl2 : ((rowTimes r m (Am.drop (aheadOf Fm))).map V.int).length = m := by rw [List.length_map]; exact rowTimes_length _ _ _
    refine lc_all (walk_zipTT rfl) hD (RInt fun k => vg one k + vg (rowTimes r m (Am.drop (aheadOf Fm))) k) (rInt_keep _) (fun H' s => ⟨seqT_same s ho, seqT_same s h2⟩) (by rw [hl1, hl2, Nat.min_self]; exact hmz) (fun k x H3 H' C hk sm hx' hy kk => ?_) (fun H3 ys sm e hp2 => ?_) g_pair
    · obtain ⟨Tp, u, v, rfl, nT, rfl, eu, ev⟩ := hy
      rw [hl1, hl2, Nat.min_self] at hk
      obtain ⟨z1, ez1, rfl⟩ := mapInt_get eu
      obtain ⟨z2, ez2, rfl⟩ := mapInt_get ev
      rw [getD_at (by rw [ok.one_]; exact hk)] at ez1
      rw [getD_at (by rw [rowTimes_length]; exact hk)] at ez2
      cases ez1
      cases ez2
      exact pair_in ⟨rfl, _, rfl, _, rfl, _, _, rfl, rfl, kk _ _ (same1 nT) rfl⟩
    · have e2 := ints_of hp2
      rw [List.length_map, List.length_map, range_vg2 (f := fun x y => x + y)] at e2
      rw [e2] at e
      refine ⟨D, _, rfl, .inl ⟨SqL.of e, fun l nl => ?_⟩⟩
      exact q _ _ (((s1.trans s2).trans sm).push nl) ⟨l, rfl, SqT.of upd_same⟩
/-! ### numbers_of: paper 0 row 1 apart 2 found 3 ahead 4 number 5 one 6; cells - -/
abbrev st_numbers_of : Stmt := topS 19
abbrev sl_numbers_of : List Str := ["paper", "row", "apart", "found", "ahead", "number", "one"]
theorem sc_numbers_of : FnScope sl_numbers_of ["paper", "row"] (defScope st_numbers_of) := ⟨rfl, rfl, rfl, by decide +kernel, rfl, by decide +kernel, by decide +kernel⟩
-- calls free_rows row_times; built-ins len tuple zip; level 2
def numV (K : PySem.W.Frag) (H : Hp) (v : V) : Option (List Int) → Prop
  | none => v = .non
  | some r => ∃ a, v = .ref a ∧ H a = some (.tup (r.map V.int))
theorem rd_dropT {K : PySem.W.Frag} {H : Hp} {a : Addr} {xs : List V} {n : Nat} {R : VK} (h : H a = some (.tup xs)) (q : ∀ p H', Same H H' → H' p = some (.tup (xs.drop n)) → R (.ref p) H') : rSlA K (.ref a) (some (n : Int)) none H R :=
  ⟨a, xs, rfl, SqT.of h, fun z => q a H (Same.refl H) (by rw [whole_drop z]; exact h), fun _ p np => q p _ (same1 np) (by rw [cut_drop]; exact upd_same)⟩
def sp_numbers_of (K : PySem.W.Frag) : Sp := fun vs H Q _ => ∃ (x y : V) (one : List Int) (n m L B1 : Nat) (F A B : List (List Int)) (r : List Int), vs = [x, y] ∧ PapA K H x one n m F A B ∧ PapOk L one n m F A B ∧ RowA K H y r ∧ r.length = m ∧ (∀ z ∈ r, Bt B1 z) ∧ B1 ≤ L ∧ L + 1 + L ≤ 134217728 ∧
  ∀ H' v, Same H H' → numV K H' v (numbersOf one m (A.drop (aheadOf F)).length B r) → Q v H'
theorem ok_numbers_of (M : Blt mg) (F : Fun K "numbers_of" "numbers_of" st_numbers_of f fd) (hm : mg "numbers_of" = some (.ref f)) (C_free_rows : Cal P w K mg base 1 "free_rows" ["paper"] (sp_free_rows K)) (C_row_times : Cal P w K mg base 1 "row_times" ["row", "table"] (sp_row_timesT K)) : Cal P w K mg base 2 "numbers_of" ["paper", "row"] (sp_numbers_of K) := by
  refine ⟨f, fd, F.ok sc_numbers_of (fun vs H Q E h => ?_) (fun cdv A outer s H vs Q E hr h => ?_), hm, F.kp, F.binds fun _ _ _ _ _ _ us hl => match us, hl with | [_, _], _ => rfl⟩
  · obtain ⟨_, _, _, _, _, _, _, _, _, _, _, rfl, _⟩ := h
    rfl
  · obtain ⟨x, y, one, n, m, L, B1, Fm, Am, Bm, r, rfl, hx, ok, ⟨ay, rfl, hy⟩, hrl, hb, hB1, hL, q⟩ := h
    refine ⟨_, (pss_cons (ps_set (i := 2) sc_numbers_of.nd rfl (Or.inl rfl) (pe_callTy (T := "tuple") (r := rTupOf K) call_tup (by rfl) M.tuple (by decide +kernel) (pa_cons (pe_lc (own := [("number", 5), ("one", 6)]) rfl sc_numbers_of.nd (RZ.pi_zipA (by rfl) M.zip (pa_cons (pv 1) (pa_cons (pe_ix (r := rIxT K) ix_tup (pv 0) pe_int (fun _ _ => rfl)) pa_nil))) (blkOk_by (N := sl_numbers_of) (sc := defScope st_numbers_of) (by decide +kernel)) (fun _ _ _ _ _ => (pg_tupK (K := K) (n := 2) rfl rfl (pgs_cons (pg_name (i := 5) sc_numbers_of.nd rfl (.inl rfl) (.inr rfl)) (pgs_cons (pg_name (i := 6) sc_numbers_of.nd rfl (.inl rfl) (.inr rfl)) pgs_nil)))) (fun _ _ _ _ _ => pts_nil) (fun _ _ _ _ _ => (pe_op op_sub (pv 5) (pv 6)))) pa_nil)))
      (pss_cons (ps_set (i := 3) sc_numbers_of.nd rfl (Or.inl rfl) (pe_cal C_row_times (hr.mono (by decide)) (by rfl) (pa_cons (pv 2) (pa_cons (pe_ix (r := rIxT K) ix_tup (pv 0) pe_int (fun _ _ => rfl)) pa_nil))))
      (pss_cons (ps_set (i := 4) sc_numbers_of.nd rfl (Or.inl rfl) (pe_op op_sub (pe_callB (id := "len") (r := rLenS K) call_lenS (by rfl) M.len (by decide +kernel) (pa_cons (pv 3) pa_nil)) (pe_callB (id := "len") (r := rLenS K) call_lenS (by rfl) M.len (by decide +kernel) (pa_cons (pe_ix (r := rIxT K) ix_tup (pe_cal C_free_rows (hr.mono (by decide)) (by rfl) (pa_cons (pv 0) pa_nil)) pe_int (fun _ _ => rfl)) pa_nil))))
      (pss_cons (ps_if (pt_cmpR (r := rNeD K) (op_neD hr.units) (pe_lc (own := [("number", 5)]) rfl sc_numbers_of.nd (pi_tupK (K := K) rfl (pe_slice (r := rSlA K) sl_tupA (pv 3) po_none (po_some (pv 4)))) (blkOk_by (N := sl_numbers_of) (sc := defScope st_numbers_of) (by decide +kernel)) (fun _ _ _ _ _ => (pg_name (i := 5) sc_numbers_of.nd rfl (.inl rfl) (.inr rfl))) (fun _ _ _ _ _ => (pts_one (pt_cmpR op_ne (pv 5) pe_int (nomark _)))) (fun _ _ _ _ _ => (pv 5))) (pe_lst pa_nil) (nomark _))
        (pss_one (ps_ret pe_non))
        pss_nil)
      (pss_one (ps_ret (pe_slice (r := rSlA K) sl_tupA (pv 3) (po_some (pv 4)) po_none))))))), ?_⟩
    have hmz : m < sizeLine := small1000 ok.m_
    obtain ⟨a, o, fo, t, b, rfl, ha, ⟨ao, rfl, ho⟩, h2, h3, h4⟩ := id hx
    have hl1 : (one.map V.int).length = m := by rw [List.length_map]; exact ok.one_
    have hl2 : (r.map V.int).length = m := by rw [List.length_map]; exact hrl
    refine ⟨_, rfl, _, rfl, a, _, 1, _, rfl, rfl, ha, rfl, ay, ao, _, _, rfl, .inr ⟨hy, ho, fun D hD => ?_⟩⟩
    refine lc_all (walk_zipTT rfl) hD (RInt fun k => vg r k - vg one k) (rInt_keep _) (fun H' s => ⟨seqT_same s hy, seqT_same s ho⟩) (by rw [hl1, hl2, Nat.min_self]; exact hmz) (fun k x H3 H' C hk sm hx' hy kk => ?_) (fun H1 ys s1 e hp2 => ?_) g_pair
    · obtain ⟨Tp, u, v, rfl, nT, rfl, eu, ev⟩ := hy
      rw [hl1, hl2, Nat.min_self] at hk
      obtain ⟨z1, ez1, rfl⟩ := mapInt_get eu
      obtain ⟨z2, ez2, rfl⟩ := mapInt_get ev
      rw [getD_at (by rw [hrl]; exact hk)] at ez1
      rw [getD_at (by rw [ok.one_]; exact hk)] at ez2
      cases ez1
      cases ez2
      exact pair_in ⟨rfl, _, rfl, _, rfl, _, _, rfl, rfl, kk _ _ (same1 nT) rfl⟩
    · have e2 := ints_of hp2
      rw [List.length_map, List.length_map, range_vg2 (f := fun x y => x - y)] at e2
      rw [e2] at e
      refine ⟨D, _, rfl, .inl ⟨SqL.of e, fun l nl => ?_⟩⟩
      have s2 := s1.push (o := .tup ((List.zipWith (fun x y => x - y) r one).map V.int)) nl
      have bap : ∀ z ∈ List.zipWith (fun x y => x - y) r one, Bt (L + 1) z := fun z hz => by
        obtain ⟨i, hi, rfl⟩ := List.mem_iff_getElem.mp hz
        rw [List.getElem_zipWith]
        rw [List.length_zipWith] at hi
        exact ((hb _ (List.getElem_mem (by omega))).mono hB1).sub (ok.bone _ (List.getElem_mem (by omega)))
      refine ⟨_, rfl, _, rfl, a, _, 4, _, rfl, rfl, seqT_same s2 ha, rfl, .ref l, b, _, m, Bm, L + 1, L, rfl, ⟨l, rfl, SqT.of upd_same⟩, h4.tk s2.tk, ok.m_, ok.B_.2, bap, ok.bB, hL, fun H3 a3 s3 hT3 => ?_⟩
      have hf := SqT.of (K := K) hT3
      have s4 := s2.trans s3
      refine ⟨_, rfl, a3, _, rfl, .inr hf, ?_⟩
      rw [List.length_map, rowTimes_length]
      refine ⟨_, rfl, _, one, n, m, Fm, Am, Bm, rfl, hx.tk s4.tk, by rw [ok.F_.1]; exact hmz, fun l hl => by rw [ok.F_.2 l hl]; exact small1000 ok.n_, fun H5 v5 s5 h5 => ?_⟩
      obtain ⟨a5, x5, rfl, h5a, a6, v6, rfl, h6, hp6⟩ := h5
      refine ⟨a5, _, 1, _, rfl, rfl, h5a, rfl, a6, v6, rfl, .inr h6, _, _, rfl, rfl, ?_⟩
      have hl6 : v6.length = (Am.drop (aheadOf Fm)).length := Paired.length hp6
      have hle : (Am.drop (aheadOf Fm)).length ≤ m := by rw [List.length_drop, ok.A_.1]; omega
      rw [hl6]
      show gName 4 (.int (((m : Nat) : Int) - (((Am.drop (aheadOf Fm)).length : Nat) : Int))) _ H5 _
      rw [show ((m : Nat) : Int) - (((Am.drop (aheadOf Fm)).length : Nat) : Int) = ((m - (Am.drop (aheadOf Fm)).length : Nat) : Int) by omega]
      have hT5 : H5 a3 = some (.tup ((rowTimes (List.zipWith (fun x y => x - y) r one) m Bm).map V.int)) := s5 _ _ hT3
      have hf5 : SqT K H5 a3 ((rowTimes (List.zipWith (fun x y => x - y) r one) m Bm).map V.int) := seqT_same s5 hf
      have numE : numbersOf one m (Am.drop (aheadOf Fm)).length Bm r = if nz ((rowTimes (List.zipWith (fun x y => x - y) r one) m Bm).take (m - (Am.drop (aheadOf Fm)).length)) then none else some ((rowTimes (List.zipWith (fun x y => x - y) r one) m Bm).drop (m - (Am.drop (aheadOf Fm)).length)) := by
        unfold numbersOf
        simp only [rowTimes_length]
      rw [numE] at q
      have s6 := s4.trans s5
      have hfz : (rowTimes (List.zipWith (fun x y => x - y) r one) m Bm).length < sizeLine := by rw [rowTimes_length]; exact hmz
      generalize rowTimes (List.zipWith (fun x y => x - y) r one) m Bm = fnd at hf5 hT5 q hfz
      generalize m - (Am.drop (aheadOf Fm)).length = ah at q
      have hfl : ∀ n, (fnd.take n).length ≤ fnd.length := fun n => by rw [List.length_take]; exact Nat.min_le_right _ _
      refine ⟨_, rfl, _, rfl, (ah : Nat), rfl, rd_take hf5 fun p H7 s7 hp7 => ⟨p, rfl, ⟨_, hp7⟩, fun D2 hD2 => ?_⟩⟩
      rw [vals_take] at hp7
      refine lc_flt walk_tup hD2 (RInt (vg (fnd.take ah))) (fun k => vg (fnd.take ah) k != 0) (rInt_keep _) (fun H'' s => seqT_same s hp7) (by rw [List.length_map]; exact Nat.lt_of_le_of_lt (hfl ah) hfz) (fun j x H8 H8' C2 N2 hj sm2 hx2 hy2 k2 kn2 => ?_) (fun H8 ys8 sm2 e8 hp8 => ?_)
      · obtain ⟨rfl, ex2⟩ := hy2
        obtain ⟨z, ez, rfl⟩ := mapInt_get ex2
        have hj' : j < (fnd.take ah).length := by rwa [List.length_map] at hj
        rw [getD_at hj'] at ez
        cases ez
        refine ⟨rfl, _, rfl, rfl, _, rfl, ite2 (fun h1 => ⟨_, rfl, k2 _ _ (Same.refl _) rfl ?_⟩) fun h1 => kn2 _ (Same.refl _) ?_⟩
        · exact (ne0 _).symm.trans h1
        · exact Bool.eq_false_iff.mpr fun z => h1 ((ne0 _).trans z)
      · have e3 := ints_of hp8
        rw [List.length_map, filt_vg (fun z => z != 0)] at e3
        rw [e3] at e8
        refine ⟨Nat.zero_le _, fun p2 np2 => ?_⟩
        refine ⟨_, _, dp_lst (same1 np2 _ _ e8), dp_nil upd_same, sh_l _, sh_nil, _, rfl, ?_⟩
        rw [eqv_nil, filt_nz]
        have s8 : Same H5 (upd H8 p2 (.lst [])) := (s7.trans sm2).push np2
        refine ite2 (fun h1 => ?_) fun h1 => ?_
        · rw [if_pos h1] at q
          exact q _ _ (s6.trans s8) rfl
        · rw [if_neg h1] at q
          refine ⟨_, rfl, _, rfl, (ah : Nat), rfl, rd_dropT (s8 _ _ hT5) fun p9 H9 s9 hp9 => ?_⟩
          rw [vals_drop] at hp9
          exact q _ _ ((s6.trans s8).trans s9) ⟨p9, rfl, hp9⟩
end
end SF
end
section
set_option maxHeartbeats 4000000
namespace SF
open PySem PySem.Spec PyProof.Rows L2
theorem seq_join {t u : TS} {D : Ends} {σ σ' : L2.St} {H : Hp} (I : Hp → Prop) (after : ∀ H', I H' → u D σ' H') (h : ∀ nx : L2.St → Hp → Prop, (∀ H', I H' → nx σ' H') → t { D with nx := nx } σ H) : tSeq t u D σ H := h (u D) after
theorem rd_rep {K : PySem.W.Frag} {H : Hp} {l : Addr} {v : V} {k : Nat} {R : VK} (h : SqT K H l [v]) (hk : k ≤ 1000) (q : ∀ p H', Same H H' → SqT K H' p (List.replicate k v) → R (.ref p) H') : rRepA K (.ref l) (.int (k : Nat)) H R :=
  ⟨l, v, k, rfl, rfl, h, hk, fun e => q l H (Same.refl H) (by rw [e]; exact h), fun _ p np => q p _ (same1 np) (SqT.of upd_same)⟩
theorem rd_cat {K : PySem.W.Frag} {H : Hp} {a b : Addr} {xs ys : List V} {R : VK} (ha : SqT K H a xs) (hb : SqT K H b ys) (hz : xs.length + ys.length ≤ sizeLine) (q : ∀ p H', Same H H' → SqT K H' p (xs ++ ys) → R (.ref p) H') : rCatA K (.ref a) (.ref b) H R :=
  ⟨a, b, xs, ys, rfl, rfl, ha, hb, hz, fun e => q b H (Same.refl H) (by rw [e]; exact hb), fun _ e => q a H (Same.refl H) (by rw [e, List.append_nil]; exact ha), fun _ _ p np => q p _ (same1 np) (SqT.of upd_same)⟩
/-! ### the feed of drawn numbers -/
def FeedA (H : Hp) (fa ca : Addr) (N : Nat) : Prop := ∃ (cells : List Int) (t : Nat) (rest : Int), H fa = some (.lst [.ref ca, .int (t : Nat), .int rest]) ∧ ca ≠ fa ∧ H ca = some (.lst (cells.map V.int)) ∧ t ≤ N ∧ 0 ≤ rest
theorem FeedA.mono {H : Hp} {fa ca : Addr} {N N' : Nat} (h : FeedA H fa ca N) (hN : N ≤ N') : FeedA H fa ca N' := let ⟨cells, t, rest, e, n, e2, ht, hr⟩ := h; ⟨cells, t, rest, e, n, e2, by omega, hr⟩
theorem FeedA.same {H H' : Hp} {fa ca : Addr} {N : Nat} (h : FeedA H fa ca N) (s : Same H H') : FeedA H' fa ca N := let ⟨cells, t, rest, e, n, e2, ht, hr⟩ := h; ⟨cells, t, rest, s _ _ e, n, s _ _ e2, ht, hr⟩
theorem FeedA.lst {H : Hp} {fa ca : Addr} {N : Nat} (h : FeedA H fa ca N) : ∀ b ∈ [fa], ∃ xs, H b = some (.lst xs) := fun b hb => by
  obtain ⟨cells, t, rest, e, _⟩ := h
  rw [List.mem_singleton.mp hb]
  exact ⟨_, e⟩
/-- a list that is neither of the feed's is written -/
theorem FeedA.put {H : Hp} {fa ca D : Addr} {N : Nat} {o : HO} (h : FeedA H fa ca N) (h1 : D ≠ fa) (h2 : D ≠ ca) : FeedA (upd H D o) fa ca N := let ⟨cells, t, rest, e, n, e2, ht, hr⟩ := h; ⟨cells, t, rest, by rw [upd_ne (Ne.symm h1)]; exact e, n, by rw [upd_ne (Ne.symm h2)]; exact e2, ht, hr⟩
theorem FeedA.away {H : Hp} {fa ca D : Addr} {N : Nat} (h : FeedA H fa ca N) (hD : H D = none) : D ≠ fa ∧ D ≠ ca := let ⟨cells, t, rest, e, n, e2, ht, hr⟩ := h; ⟨(ne_of_none e hD).symm, (ne_of_none e2 hD).symm⟩
theorem fmod_nat {z : Int} {m : Nat} (h : 1 ≤ m) : ∃ r : Nat, z.fmod (m : Int) = (r : Int) ∧ r < m := by
  have hm : (0 : Int) < (m : Int) := by omega
  have h1 := Int.fmod_nonneg_of_pos z hm
  have h2 := Int.fmod_lt_of_pos z hm
  exact ⟨(z.fmod (m : Int)).toNat, by omega, by omega⟩
theorem fdiv_nonneg {z : Int} {m : Nat} (h : 0 ≤ z) : 0 ≤ z.fdiv (m : Int) := by
  rw [Int.fdiv_eq_ediv_of_nonneg _ (by omega)]
  exact Int.ediv_nonneg h (by omega)
theorem log2_small (m : Nat) (h1 : 1 ≤ m) (h : m ≤ 1000) : ((m : Nat) : Int).natAbs.log2 < 9000 := by
  rw [Int.natAbs_natCast]
  have : m.log2 < 10 := (Nat.log2_lt (by omega)).mpr (by omega)
  omega
/-- a drawn row: n numbers of at most 99 -/
def SmR (n : Nat) (r : List Int) : Prop := r.length = n ∧ ∀ z ∈ r, z.natAbs ≤ 99
section
variable {P : Program} {w : World} {K : PySem.W.Frag} {mg : Str → Option Value} {base : Heap} {f : Addr} {fd : FuncData}
/-! ### _law_feed: _law_script 0; cells - -/
abbrev st_law_feed : Stmt := topS 44
abbrev sl_law_feed : List Str := ["_law_script"]
theorem sc_law_feed : FnScope sl_law_feed ["_law_script"] (defScope st_law_feed) := ⟨rfl, rfl, rfl, by decide +kernel, rfl, by decide +kernel, by decide +kernel⟩
-- calls ; built-ins list; level 1
def sp_law_feed (K : PySem.W.Frag) : Sp := fun vs H Q _ => ∃ (a : Addr) (ns : List Int), vs = [.ref a] ∧ SqL K H a (ns.map V.int) ∧ ∀ H' fa ca, Same H H' → H fa = none → FeedA H' fa ca 0 → Q (.ref fa) H'
theorem ok_law_feed (M : Blt mg) (F : Fun K "_law_feed" "_law_feed" st_law_feed f fd) (hm : mg "_law_feed" = some (.ref f)) : Cal P w K mg base 1 "_law_feed" ["_law_script"] (sp_law_feed K) := by
  refine ⟨f, fd, F.ok sc_law_feed (fun vs H Q E h => ?_) (fun cdv A outer s H vs Q E hr h => ?_), hm, F.kp, F.binds fun _ _ _ _ _ _ us hl => match us, hl with | [_], _ => rfl⟩
  · obtain ⟨_, _, rfl, _⟩ := h
    rfl
  · obtain ⟨a, ns, rfl, hS, q⟩ := h
    refine ⟨_, (pss_one (ps_ret (pe_lst (pa_cons (pe_callTy (T := "list") (r := rListOf K) call_lst (by rfl) M.list (by decide +kernel) (pa_cons (pe_slice (r := rSlL K) sl_list (pv 0) po_none (po_some pe_int)) pa_nil)) (pa_cons pe_int (pa_cons pe_int pa_nil)))))), ?_⟩
    refine ⟨_, rfl, 63, rfl, a, _, rfl, hS, fun p np => ⟨p, _, rfl, .inl (SqL.of upd_same), fun l nl => ⟨by show 3 ≤ sizeLine; decide, fun fa nf => ?_⟩⟩⟩
    have e1 : cutV (ns.map V.int) none (some 63) = (ns.take 63).map V.int := by
      rw [show (some (63 : Int)) = some ((63 : Nat) : Int) from rfl, cut_take, vals_take]
    rw [e1] at nl nf ⊢
    have s1 := same1 (o := .lst ((ns.take 63).map V.int)) np
    have s2 := s1.push (o := .lst ((ns.take 63).map V.int)) nl
    refine q _ fa l (s2.push nf) (s2.free nf) ⟨ns.take 63, 0, 0, upd_same, fun z => ?_, ?_, Nat.le_refl _, Int.le_refl _⟩
    · rw [← z, upd_same] at nf
      cases nf
    · exact same1 nf _ _ upd_same
/-! ### _law_draw: _law_feed_here 0 _law_many 1 _law_at 2 _law_cell 3 _law_mixed 4 _law_found 5; cells - -/
abbrev st_law_draw : Stmt := topS 45
abbrev sl_law_draw : List Str := ["_law_feed_here", "_law_many", "_law_at", "_law_cell", "_law_mixed", "_law_found"]
theorem sc_law_draw : FnScope sl_law_draw ["_law_feed_here", "_law_many"] (defScope st_law_draw) := ⟨rfl, rfl, rfl, by decide +kernel, rfl, by decide +kernel, by decide +kernel⟩
-- calls ; built-ins len; level 1
def sp_law_draw (K : PySem.W.Frag) : Sp := fun vs H Q _ => ∃ (fa ca : Addr) (m N : Nat), vs = [.ref fa, .int (m : Nat)] ∧ FeedA H fa ca N ∧ 1 ≤ m ∧ m ≤ 1000 ∧ N ≤ 1000000 ∧ ∀ H' (r : Nat), But [fa] H H' → FeedA H' fa ca (N + 1) → r < m → Q (.int (r : Nat)) H'
theorem ok_law_draw (M : Blt mg) (F : Fun K "_law_draw" "_law_draw" st_law_draw f fd) (hm : mg "_law_draw" = some (.ref f)) : Cal P w K mg base 1 "_law_draw" ["_law_feed_here", "_law_many"] (sp_law_draw K) := by
  refine ⟨f, fd, F.ok sc_law_draw (fun vs H Q E h => ?_) (fun cdv A outer s H vs Q E hr h => ?_), hm, F.kp, F.binds fun _ _ _ _ _ _ us hl => match us, hl with | [_, _], _ => rfl⟩
  · obtain ⟨_, _, _, _, rfl, _⟩ := h
    rfl
  · obtain ⟨fa, ca, m, N, rfl, ⟨cells, t, rest, ef, nca, ec, htN, hrest⟩, hm1, hmx, hN, q⟩ := h
    refine ⟨_, (pss_cons (ps_if (pt_cmpR op_gt (pe_ix (r := rIxL K) ix_list (pv 0) pe_int (fun _ _ => rfl)) pe_int (nomark _))
        (pss_cons (ps_set (i := 5) sc_law_draw.nd rfl (Or.inl rfl) (pe_op op_modN (pe_ix (r := rIxL K) ix_list (pv 0) pe_int (fun _ _ => rfl)) (pv 1)))
        (pss_cons (ps_asg (pe_op op_fdivZ (pe_ix (r := rIxL K) ix_list (pv 0) pe_int (fun _ _ => rfl)) (pv 1)) (pg_sub (pv 0) pe_int set_list))
        (pss_one (ps_ret (pv 5)))))
        pss_nil)
      (pss_cons (ps_set (i := 2) sc_law_draw.nd rfl (Or.inl rfl) (pe_ix (r := rIxL K) ix_list (pv 0) pe_int (fun _ _ => rfl)))
      (pss_cons (ps_asg (pe_op op_add (pv 2) pe_int) (pg_sub (pv 0) pe_int set_list))
      (pss_cons (ps_set (i := 3) sc_law_draw.nd rfl (Or.inl rfl) (pe_ifExp (pt_cmpR (r := rNeD K) (op_neD hr.units) (pe_ix (r := rIxL K) ix_list (pv 0) pe_int (fun _ _ => rfl)) (pe_lst pa_nil) (nomark _)) (pe_ix (r := rIxL K) ix_list (pe_ix (r := rIxL K) ix_list (pv 0) pe_int (fun _ _ => rfl)) (pe_op op_modN (pv 2) (pe_callB (id := "len") (r := rLenS K) call_lenS (by rfl) M.len (by decide +kernel) (pa_cons (pe_ix (r := rIxL K) ix_list (pv 0) pe_int (fun _ _ => rfl)) pa_nil))) (fun _ _ => rfl)) pe_int))
      (pss_cons (ps_if (PW.pt (pw_and (pt_cmpR op_ge (pv 3) (pe_op op_pow pe_int pe_int) (nomark _)) (pw_and1 (pt_cmpR op_lt (pv 2) (pe_callB (id := "len") (r := rLenS K) call_lenS (by rfl) M.len (by decide +kernel) (pa_cons (pe_ix (r := rIxL K) ix_list (pv 0) pe_int (fun _ _ => rfl)) pa_nil)) (nomark _)))))
        (pss_cons (ps_asg (pe_op op_fdivZ (pv 3) (pv 1)) (pg_sub (pv 0) pe_int set_list))
        (pss_one (ps_ret (pe_op op_modN (pv 3) (pv 1)))))
        pss_nil)
      (pss_cons (ps_set (i := 4) sc_law_draw.nd rfl (Or.inl rfl) (pe_op op_modN (pe_op op_pow (pe_op op_add (pe_op op_add (pe_op op_modN (pv 3) pe_int) (pe_op op_mulX pe_int (pv 2))) pe_int) pe_int) pe_int))
      (pss_one (ps_ret (pe_op op_modN (pe_op op_fdivZ (pe_op op_modN (pe_op op_mulX (pv 4) (pe_op op_add (pe_op op_mulX pe_int (pv 2)) pe_int)) pe_int) pe_int) (pv 1)))))))))), ?_⟩
    have hm0 : ((m : Nat) : Int) ≠ 0 := by omega
    have dm : ∀ {z : Int}, CDivZ z ((m : Nat) : Int) := fun {z} => ⟨hm0, log2_small m hm1 hmx⟩
    have k0 : atI [V.ref ca, .int (t : Nat), .int rest] 0 = some (.ref ca) := rfl
    have k1 : atI [V.ref ca, .int (t : Nat), .int rest] 1 = some (.int (t : Nat)) := rfl
    have k2 : atI [V.ref ca, .int (t : Nat), .int rest] 2 = some (.int rest) := rfl
    refine ⟨_, rfl, fa, _, 2, _, rfl, rfl, SqL.of ef, k2, _, _, rfl, rfl, _, rfl, ite2 (fun h1 => ?_) fun h1 => ?_⟩
    · -- a rest is left
      obtain ⟨r, er, hr'⟩ := fmod_nat (z := rest) hm1
      refine ⟨_, rfl, fa, _, 2, _, rfl, rfl, SqL.of ef, k2, _, rfl, _, _, rfl, rfl, hm0, ?_⟩
      refine ⟨_, rfl, fa, _, 2, _, rfl, rfl, SqL.of ef, k2, _, rfl, _, _, rfl, rfl, dm, _, rfl, fa, _, 2, 2, rfl, rfl, ef, rfl, _, rfl, ?_⟩
      have b1 : But [fa] H (upd H fa (.lst ([V.ref ca, .int (t : Nat), .int rest].set 2 (.int (rest.fdiv (m : Nat)))))) := (But.refl _ _).write (by simp)
      have := q _ r b1 ⟨cells, t, rest.fdiv (m : Nat), upd_same, nca, by rw [upd_ne nca]; exact ec, by omega, fdiv_nonneg hrest⟩ hr'
      rw [← er] at this
      exact this
    · refine ⟨_, rfl, fa, _, 1, _, rfl, rfl, SqL.of ef, k1, _, rfl, _, _, rfl, rfl, _, rfl, fa, _, 1, 1, rfl, rfl, ef, rfl, ?_⟩
      have b1 : But [fa] H (upd H fa (.lst [V.ref ca, .int ((t + 1 : Nat) : Int), .int rest])) := (But.refl _ _).write (by simp)
      have ef1 : upd H fa (.lst [V.ref ca, .int ((t + 1 : Nat) : Int), .int rest]) fa = some (.lst [V.ref ca, .int ((t + 1 : Nat) : Int), .int rest]) := upd_same
      have ec1 : upd H fa (.lst [V.ref ca, .int ((t + 1 : Nat) : Int), .int rest]) ca = some (.lst (cells.map V.int)) := by rw [upd_ne nca]; exact ec
      show tSeq _ _ _ _ (upd H fa (.lst [V.ref ca, .int ((t + 1 : Nat) : Int), .int rest]))
      generalize upd H fa (.lst [V.ref ca, .int ((t + 1 : Nat) : Int), .int rest]) = H1 at b1 ef1 ec1
      have j0 : atI [V.ref ca, .int ((t + 1 : Nat) : Int), .int rest] 0 = some (.ref ca) := rfl
      -- from the cell on
      have after : ∀ (cell : Int) (H2 : Hp), Same H1 H2 → tSeq (tIfS (tAnd (tTest (tOp (rI0 fun i j => V.bl (decide (j ≤ i))) (tVar 3) (tOp (rI CPow fun i j => V.int (i ^ j.toNat)) (tC (.int 10)) (tC (.int 18)))))
            (tTest (tOp (rI0 fun i j => V.bl (decide (i < j))) (tVar 2) (tCB (rLenS K) (tCons (tOp (rIxL K) (tVar 0) (tC (.int 0))) tNil)))))
          (tSeq (tAsg (tOp (rI CDivZ fun i j => V.int (i.fdiv j)) (tVar 3) (tVar 1)) (gSub (tVar 0) (tC (.int 2)) rSetL)) (tRet (tOp (rI (fun _ j => j ≠ 0) fun i j => V.int (i.fmod j)) (tVar 3) (tVar 1)))) tNext)
          (tSeq (tAsg (tOp (rI (fun _ j => j ≠ 0) fun i j => V.int (i.fmod j)) (tOp (rI CPow fun i j => V.int (i ^ j.toNat)) (tOp (rI0 fun i j => V.int (i + j)) (tOp (rI0 fun i j => V.int (i + j)) (tOp (rI (fun _ j => j ≠ 0) fun i j => V.int (i.fmod j)) (tVar 3) (tC (.int 1000003))) (tOp (rI CMulX fun i j => V.int (i * j)) (tC (.int 7919)) (tVar 2))) (tC (.int 17))) (tC (.int 5))) (tC (.int 2147483647))) (gName 4))
            (tRet (tOp (rI (fun _ j => j ≠ 0) fun i j => V.int (i.fmod j)) (tOp (rI CDivZ fun i j => V.int (i.fdiv j)) (tOp (rI (fun _ j => j ≠ 0) fun i j => V.int (i.fmod j)) (tOp (rI CMulX fun i j => V.int (i * j)) (tVar 4) (tOp (rI0 fun i j => V.int (i + j)) (tOp (rI CMulX fun i j => V.int (i * j)) (tC (.int 2)) (tVar 2)) (tC (.int 3)))) (tC (.int 2147483629))) (tC (.int 64))) (tVar 1))))
          { nx := fun _ H' => Q .non H', rt := Q } [some (.ref fa), some (.int (m : Nat)), some (.int (t : Nat)), some (.int cell), none, none] H2 := by
        intro cell H2 s2
        have ef2 := s2 _ _ ef1
        have ec2 := s2 _ _ ec1
        have ht6 : t ≤ 1000000 := by omega
        have fin : ∀ (r : Nat) (H3 : Hp) (rest' : Int), But [fa] H1 H3 → H3 fa = some (.lst [V.ref ca, .int ((t + 1 : Nat) : Int), .int rest']) → 0 ≤ rest' → r < m → Q (.int (r : Nat)) H3 := fun r H3 rest' b e h0 hr' =>
          q _ r (b1.trans b) ⟨cells, t + 1, rest', e, nca, b _ _ (by simp [nca]) ec1, by omega, h0⟩ hr'
        have hre : 0 ≤ rest := hrest
        refine seq_join (σ' := [some (.ref fa), some (.int (m : Nat)), some (.int (t : Nat)), some (.int cell), none, none]) (fun H' => H' = H2) (fun H' e => ?_) fun nx knx => ?_
        · subst e
          obtain ⟨z1, ez1, hz1⟩ := fmod_nat (z := cell) (m := 1000003) (by decide)
          have hb1 : (cell.fmod 1000003 + 7919 * (t : Int) + 17).natAbs < 2 ^ 64 := by
            rw [show (1000003 : Int) = ((1000003 : Nat) : Int) from rfl, ez1]
            omega
          refine ⟨_, rfl, _, _, rfl, rfl, (by show (1000003 : Int) ≠ 0; decide), _, rfl, _, _, rfl, rfl, mulx_bt (a := 13) (b := 20) (by unfold Bt; decide) (by unfold Bt; rw [Int.natAbs_natCast]; omega) (by decide), _, _, rfl, rfl, _, _, rfl, rfl, _, _, rfl, rfl, ⟨by decide, by decide, hb1⟩, _, _, rfl, rfl, (by show (2147483647 : Int) ≠ 0; decide), ?_⟩
          obtain ⟨z2, ez2, hz2⟩ := fmod_nat (z := (cell.fmod 1000003 + 7919 * (t : Int) + 17) ^ (5 : Int).toNat) (m := 2147483647) (by decide)
          have hb2 : Bt 31 (((cell.fmod 1000003 + 7919 * (t : Int) + 17) ^ (5 : Int).toNat).fmod 2147483647) := by
            unfold Bt
            rw [show (2147483647 : Int) = ((2147483647 : Nat) : Int) from rfl, ez2, Int.natAbs_natCast]
            omega
          refine ⟨_, rfl, _, rfl, _, _, rfl, rfl, mulx_bt (a := 2) (b := 20) (by unfold Bt; decide) (by unfold Bt; rw [Int.natAbs_natCast]; omega) (by decide), _, _, rfl, rfl, _, _, rfl, rfl, mulx_bt (a := 31) (b := 22) hb2 (by unfold Bt; omega) (by decide), _, _, rfl, rfl, (by show (2147483629 : Int) ≠ 0; decide), _, _, rfl, rfl, ⟨by decide, by decide⟩, _, rfl, _, _, rfl, rfl, hm0, ?_⟩
          obtain ⟨r, er, hr'⟩ := fmod_nat (z := (((((cell.fmod 1000003 + 7919 * (t : Int) + 17) ^ (5 : Int).toNat).fmod 2147483647) * (2 * (t : Int) + 3)).fmod 2147483629).fdiv 64) hm1
          have := fin r _ rest (But.of s2) ef2 hre hr'
          rw [← er] at this
          exact this
        · refine ⟨_, rfl, _, _, rfl, rfl, ⟨by decide, by decide, by decide⟩, _, _, rfl, rfl, _, rfl, ite2 (fun g1 => ?_) fun g1 => iteF (knx _ rfl)⟩
          refine ⟨_, rfl, _, rfl, fa, _, 0, _, rfl, rfl, SqL.of ef2, j0, ca, _, rfl, .inl (SqL.of ec2), _, _, rfl, rfl, _, rfl, ite2 (fun g2 => ?_) fun g2 => knx _ rfl⟩
          have hcell : 0 ≤ cell := Int.le_trans (by decide) (of_decide_eq_true g1)
          refine ⟨_, rfl, _, rfl, _, _, rfl, rfl, dm, _, rfl, fa, _, 2, 2, rfl, rfl, ef2, rfl, _, rfl, _, rfl, _, _, rfl, rfl, hm0, ?_⟩
          obtain ⟨r, er, hr'⟩ := fmod_nat (z := cell) hm1
          have := fin r (upd H2 fa (.lst ([V.ref ca, .int ((t + 1 : Nat) : Int), .int rest].set 2 (.int (cell.fdiv (m : Nat)))))) (cell.fdiv (m : Nat)) ((But.of s2).write (by simp)) upd_same (fdiv_nonneg hcell) hr'
          rw [← er] at this
          exact this
      refine ⟨_, rfl, fa, _, 0, _, rfl, rfl, SqL.of ef1, j0, Nat.zero_le _, fun p np => ⟨_, _, dp_lst (same1 np _ _ ec1), dp_nil upd_same, sh_l _, sh_nil, _, rfl, ?_⟩⟩
      rw [eqv_nil]
      have s2 := same1 (o := .lst []) np
      have ef2 := s2 _ _ ef1
      have ec2 := s2 _ _ ec1
      refine ite2 (fun h2 => ?_) fun h2 => ?_
      · have hne : 1 ≤ cells.length := by
          cases cells with
          | nil => cases h2
          | cons x l => simp
        obtain ⟨r, er, hr'⟩ := fmod_nat (z := (t : Int)) hne
        refine ⟨_, rfl, fa, _, 0, _, rfl, rfl, SqL.of ef2, j0, _, rfl, _, rfl, fa, _, 0, _, rfl, rfl, SqL.of ef2, j0, ca, _, rfl, .inl (SqL.of ec2), _, _, rfl, rfl, by rw [List.length_map]; omega, ca, _, _, .int (vg cells r), rfl, rfl, SqL.of ec2, ?_, ?_⟩
        · rw [List.length_map, er]
          exact at_vg hr'
        · exact after _ _ s2
      · exact after _ _ s2
end
end SF
end
section
set_option maxHeartbeats 4000000
namespace SF
open PySem PySem.Spec PyProof.Rows L2
section
variable {P : Program} {w : World} {K : PySem.W.Frag} {mg : Str → Option Value} {base : Heap} {f : Addr} {fd : FuncData}
/-! ### _law_number: _law_feed_here 0 _law_way 1; cells - -/
abbrev st_law_number : Stmt := topS 46
abbrev sl_law_number : List Str := ["_law_feed_here", "_law_way"]
theorem sc_law_number : FnScope sl_law_number ["_law_feed_here"] (defScope st_law_number) := ⟨rfl, rfl, rfl, by decide +kernel, rfl, by decide +kernel, by decide +kernel⟩
-- calls _law_draw; built-ins ; level 2
def sp_law_number (K : PySem.W.Frag) : Sp := fun vs H Q _ => ∃ (fa ca : Addr) (N : Nat), vs = [.ref fa] ∧ FeedA H fa ca N ∧ N + 2 ≤ 1000000 ∧ ∀ H' (z : Int), But [fa] H H' → FeedA H' fa ca (N + 2) → z.natAbs ≤ 99 → Q (.int z) H'
theorem ok_law_number (M : Blt mg) (F : Fun K "_law_number" "_law_number" st_law_number f fd) (hm : mg "_law_number" = some (.ref f)) (C__law_draw : Cal P w K mg base 1 "_law_draw" ["_law_feed_here", "_law_many"] (sp_law_draw K)) : Cal P w K mg base 2 "_law_number" ["_law_feed_here"] (sp_law_number K) := by
  refine ⟨f, fd, F.ok sc_law_number (fun vs H Q E h => ?_) (fun cdv A outer s H vs Q E hr h => ?_), hm, F.kp, F.binds fun _ _ _ _ _ _ us hl => match us, hl with | [_], _ => rfl⟩
  · obtain ⟨_, _, _, rfl, _⟩ := h
    rfl
  · obtain ⟨fa, ca, N, rfl, hf, hN, q⟩ := h
    refine ⟨_, (pss_cons (ps_set (i := 1) sc_law_number.nd rfl (Or.inl rfl) (pe_cal C__law_draw (hr.mono (by decide)) (by rfl) (pa_cons (pv 0) (pa_cons pe_int pa_nil))))
      (pss_cons (ps_if (pt_cmpR op_lt (pv 1) pe_int (nomark _))
        (pss_one (ps_ret (pe_op op_sub (pe_cal C__law_draw (hr.mono (by decide)) (by rfl) (pa_cons (pv 0) (pa_cons pe_int pa_nil))) pe_int)))
        pss_nil)
      (pss_one (ps_ret (pe_op op_sub (pe_cal C__law_draw (hr.mono (by decide)) (by rfl) (pa_cons (pv 0) (pa_cons (pe_ix (r := rIxL K) ix_list (pe_lst (pa_cons pe_int (pa_cons pe_int (pa_cons pe_int pa_nil)))) (pe_op op_sub (pv 1) pe_int) (fun _ _ => rfl)) pa_nil))) (pe_ix (r := rIxL K) ix_list (pe_lst (pa_cons pe_int (pa_cons pe_int (pa_cons pe_int pa_nil)))) (pe_op op_sub (pv 1) pe_int) (fun _ _ => rfl))))))), ?_⟩
    refine ⟨_, rfl, fa, ca, 8, N, rfl, hf, by decide, by decide, by omega, fun H1 r b1 f1 hr1 => ?_⟩
    refine ⟨_, rfl, _, _, rfl, rfl, _, rfl, ite2 (fun h1 => ?_) fun h1 => ?_⟩
    · exact ⟨_, rfl, fa, ca, 9, N + 1, rfl, f1, by decide, by decide, by omega, fun H2 r2 b2 f2 hr2 => ⟨_, _, rfl, rfl, q _ _ (b1.trans b2) f2 (by omega)⟩⟩
    · have h5 : ¬ ((r : Nat) : Int) < 5 := fun z => h1 (decide_eq_true z)
      have hr5 : r = 5 ∨ r = 6 ∨ r = 7 := by omega
      have two : ∀ (i : Nat) (x y : Int), r = 5 + i → i < 3 → atI [V.int 19, .int 19, .int 199] ((r : Nat) - 5 : Int) = some (.int x) → atI [V.int 9, .int 9, .int 99] ((r : Nat) - 5 : Int) = some (.int y) → (x = 19 ∧ y = 9 ∨ x = 199 ∧ y = 99) →
          ∃ m : Nat, x = (m : Int) ∧ 1 ≤ m ∧ m ≤ 1000 ∧ ∀ r2 : Nat, r2 < m → ((r2 : Int) - y).natAbs ≤ 99 := fun i x y _ _ _ _ h => by
        rcases h with ⟨rfl, rfl⟩ | ⟨rfl, rfl⟩
        · exact ⟨19, rfl, by decide, by decide, fun r2 h => by omega⟩
        · exact ⟨199, rfl, by decide, by decide, fun r2 h => by omega⟩
      have key : ∃ x y : Int, atI [V.int 19, .int 19, .int 199] ((r : Nat) - 5 : Int) = some (.int x) ∧ atI [V.int 9, .int 9, .int 99] ((r : Nat) - 5 : Int) = some (.int y) ∧ (x = 19 ∧ y = 9 ∨ x = 199 ∧ y = 99) := by
        rcases hr5 with e | e | e
        · subst e; exact ⟨19, 9, rfl, rfl, .inl ⟨rfl, rfl⟩⟩
        · subst e; exact ⟨19, 9, rfl, rfl, .inl ⟨rfl, rfl⟩⟩
        · subst e; exact ⟨199, 99, rfl, rfl, .inr ⟨rfl, rfl⟩⟩
      obtain ⟨x, y, kx, ky, hxy⟩ := key
      obtain ⟨m, rfl, m1, m2, m3⟩ := two (r - 5) x y (by omega) (by omega) kx ky hxy
      refine ⟨_, rfl, by show 3 ≤ sizeLine; decide, fun p np => ⟨_, rfl, _, _, rfl, rfl, p, _, _, _, rfl, rfl, SqL.of upd_same, kx, ?_⟩⟩
      have s1 := same1 (o := .lst [V.int 19, .int 19, .int 199]) np
      refine ⟨fa, ca, m, N + 1, rfl, f1.same s1, m1, m2, by omega, fun H2 r2 b2 f2 hr2 => ⟨by show 3 ≤ sizeLine; decide, fun p2 np2 => ⟨_, rfl, _, _, rfl, rfl, p2, _, _, _, rfl, rfl, SqL.of upd_same, ky, _, _, rfl, rfl, ?_⟩⟩⟩
      have s2 := same1 (o := .lst [V.int 9, .int 9, .int 99]) np2
      exact q _ _ (b1.trans ((But.of s1).trans (b2.same s2))) (f2.same s2) (m3 r2 hr2)
/-! ### _law_row: _law_feed_here 0 _law_wide 1 _law_k 2; cells _law_feed_here -/
abbrev st_law_row : Stmt := topS 47
abbrev sl_law_row : List Str := ["_law_feed_here", "_law_wide", "_law_k"]
theorem sc_law_row : FnScope sl_law_row ["_law_feed_here", "_law_wide"] (defScope st_law_row) := ⟨rfl, rfl, rfl, by decide +kernel, rfl, by decide +kernel, by decide +kernel⟩
-- calls _law_number; built-ins range tuple; level 3
def sp_law_row (K : PySem.W.Frag) : Sp := fun vs H Q _ => ∃ (fa ca : Addr) (n N : Nat), vs = [.ref fa, .int (n : Nat)] ∧ FeedA H fa ca N ∧ n ≤ 3 ∧ N + 10 ≤ 1000000 ∧ ∀ H' v r, But [fa] H H' → FeedA H' fa ca (N + 6) → RowA K H' v r → SmR n r → Q v H'
theorem ok_law_row (M : Blt mg) (F : Fun K "_law_row" "_law_row" st_law_row f fd) (hm : mg "_law_row" = some (.ref f)) (C__law_number : Cal P w K mg base 2 "_law_number" ["_law_feed_here"] (sp_law_number K)) : Cal P w K mg base 3 "_law_row" ["_law_feed_here", "_law_wide"] (sp_law_row K) := by
  refine ⟨f, fd, F.ok sc_law_row (fun vs H Q E h => ?_) (fun cdv A outer s H vs Q E hr h => ?_), hm, F.kp, F.binds fun _ _ _ _ _ _ us hl => match us, hl with | [_, _], _ => rfl⟩
  · obtain ⟨_, _, _, _, rfl, _⟩ := h
    rfl
  · obtain ⟨fa, ca, n, N, rfl, hf, hn, hN, q⟩ := h
    refine ⟨_, (pss_one (ps_ret (pe_callTy (T := "tuple") (r := rTupOf K) call_tup (by rfl) M.tuple (by decide +kernel) (pa_cons (pe_lc (own := [("_law_k", 2)]) rfl sc_law_row.nd (pi_range1 (by rfl) M.range (pa_cons (pv 1) pa_nil)) (blkOk_by (N := sl_law_row) (sc := defScope st_law_row) (by decide +kernel)) (fun _ _ _ _ _ => (pg_name (i := 2) sc_law_row.nd rfl (.inl rfl) (.inr rfl))) (fun _ _ _ _ _ => pts_nil) (fun _ _ _ _ _ => (pe_cal C__law_number (hr.mono (by decide)) (by rfl) (pa_cons (pv 0) pa_nil)))) pa_nil)))), ?_⟩
    refine ⟨_, rfl, (n : Nat), rfl, by omega, by omega, fun D hD => ?_⟩
    obtain ⟨nDf, nDc⟩ := hf.away hD
    refine lc_it walk_rg (fun i H2 => But [fa] H H2 ∧ FeedA H2 fa ca (N + 2 * i) ∧ ∃ r : List Int, H2 D = some (.lst (r.map V.int)) ∧ SmR i r) ⟨But.of (same1 hD), hf.same (same1 hD), [], upd_same, rfl, fun z hz => by simp at hz⟩ (fun _ _ _ _ => True.intro) ?_ ?_
    · rintro i x H2 H2' hi ⟨b2, f2, r, er, hr2⟩ ⟨rfl, rfl⟩
      refine ⟨rfl, ?_⟩
      dsimp only [tYes]
      rw [if_pos rfl]
      refine ⟨_, rfl, fa, ca, N + 2 * i, rfl, f2, by omega, fun H3 z b3 f3 hz => ⟨r.map V.int, b3 _ _ (by simp [nDf]) er, by rw [List.length_map, hr2.1]; exact small1000 (by omega), ?_, f3.put nDf nDc, r ++ [z], by rw [upd_same, List.map_append]; rfl, by rw [List.length_append, hr2.1]; rfl, fun y hy => ?_⟩⟩
      · intro b o nb eb
        rw [upd_ne (ne_of_none eb hD)]
        exact (b2.trans b3) b o nb eb
      · rcases List.mem_append.mp hy with hy | hy
        · exact hr2.2 y hy
        · rw [List.mem_singleton.mp hy]; exact hz
    · rintro H2 ⟨b2, f2, r, er, hr2⟩
      refine ⟨D, _, rfl, .inl ⟨SqL.of er, fun l nl => ?_⟩⟩
      exact q _ _ r (b2.push nl) ((f2.same (same1 nl)).mono (by omega)) ⟨l, rfl, SqT.of upd_same⟩ hr2
end
end SF
end
section
set_option maxHeartbeats 4000000
namespace SF
open PySem PySem.Spec PyProof.Rows L2
theorem seq_joinS {t u : TS} {D : Ends} {σ : L2.St} {H : Hp} (I : L2.St → Hp → Prop) (after : ∀ σ' H', I σ' H' → u D σ' H') (h : ∀ nx : L2.St → Hp → Prop, (∀ σ' H', I σ' H' → nx σ' H') → t { D with nx := nx } σ H) : tSeq t u D σ H := h (u D) after
theorem gseq_joinS {i : Nat} {v : V} {t u : TS} {D : Ends} {σ : L2.St} {H : Hp} (I : L2.St → Hp → Prop) (after : ∀ σ' H', I σ' H' → u D σ' H') (h : ∀ nx : L2.St → Hp → Prop, (∀ σ' H', I σ' H' → nx σ' H') → t { D with nx := nx } (σ.set i (some v)) H) : gName i v σ H (tSeq t u D) := h (u D) after
theorem atI_neg {xs : List V} {j : Nat} {v : V} (h1 : 1 ≤ j) (h2 : j ≤ xs.length) (e : xs[xs.length - j]? = some v) : atI xs (-(j : Int)) = some v := by
  unfold atI ixN
  rw [if_neg (by omega), if_pos (by omega), show (-(j : Int) + (xs.length : Nat)).toNat = xs.length - j by omega]
  exact e
theorem sm_bt {n : Nat} {r : List Int} (h : SmR n r) : ∀ z ∈ r, Bt 7 z := fun z hz => by
  have := h.2 z hz
  unfold Bt
  have : (2 : Nat) ^ 7 = 128 := by decide
  omega
/-- the rows that were drawn -/
def RowsS (K : PySem.W.Frag) (H : Hp) (rl : Addr) (n k : Nat) : Prop := ∃ vs rows, H rl = some (.lst vs) ∧ Paired (RowA K H) vs rows ∧ rows.length = k ∧ ∀ r ∈ rows, SmR n r
theorem RowsS.but {K : PySem.W.Frag} {H H' : Hp} {rl fa : Addr} {n k : Nat} (h : RowsS K H rl n k) (b : But [fa] H H') (hf : ∃ xs, H fa = some (.lst xs)) (hr : rl ≠ fa) : RowsS K H' rl n k := by
  obtain ⟨vs, rows, e, p, h1, h2⟩ := h
  exact ⟨vs, rows, b _ _ (by simp [hr]) e, Paired.imp (fun _ _ z => z.tk (b.tk fun a m => by rw [List.mem_singleton.mp m]; exact hf)) p, h1, h2⟩
theorem RowsS.same {K : PySem.W.Frag} {H H' : Hp} {rl : Addr} {n k : Nat} (h : RowsS K H rl n k) (s : Same H H') : RowsS K H' rl n k := by
  obtain ⟨vs, rows, e, p, h1, h2⟩ := h
  exact ⟨vs, rows, s _ _ e, Paired.imp (fun _ _ z => z.tk s.tk) p, h1, h2⟩
section
variable {P : Program} {w : World} {K : PySem.W.Frag} {mg : Str → Option Value} {base : Heap} {f : Addr} {fd : FuncData}
/-! ### _law_table: _law_feed_here 0 _law_most 1 _law_wide 2 _law_rows 3 _law_k 4 _law_way 5 _law_row_here 6 _law_sign 7 _law_both 8 _law_number_here 9 _law_one 10 _law_other 11; cells _law_sign -/
abbrev st_law_table : Stmt := topS 48
abbrev sl_law_table : List Str := ["_law_feed_here", "_law_most", "_law_wide", "_law_rows", "_law_k", "_law_way", "_law_row_here", "_law_sign", "_law_both", "_law_number_here", "_law_one", "_law_other"]
theorem sc_law_table : FnScope sl_law_table ["_law_feed_here", "_law_most", "_law_wide"] (defScope st_law_table) := ⟨rfl, rfl, rfl, by decide +kernel, rfl, by decide +kernel, by decide +kernel⟩
-- calls _law_draw _law_row; built-ins abs len max range tuple zip; level 4
def sp_law_table (K : PySem.W.Frag) : Sp := fun vs H Q _ => ∃ (fa ca : Addr) (n N : Nat), vs = [.ref fa, .int 3, .int (n : Nat)] ∧ FeedA H fa ca N ∧ 1 ≤ n ∧ n ≤ 3 ∧ N + 100 ≤ 1000000 ∧
  ∀ H' v rows, But [fa] H H' → FeedA H' fa ca (N + 60) → TabA K H' v n rows → rows.length ≤ 3 → (∀ r ∈ rows, SmR n r) → Q v H'
theorem ok_law_table (M : Blt mg) (F : Fun K "_law_table" "_law_table" st_law_table f fd) (hm : mg "_law_table" = some (.ref f)) (C__law_draw : Cal P w K mg base 1 "_law_draw" ["_law_feed_here", "_law_many"] (sp_law_draw K)) (C__law_row : Cal P w K mg base 3 "_law_row" ["_law_feed_here", "_law_wide"] (sp_law_row K)) : Cal P w K mg base 4 "_law_table" ["_law_feed_here", "_law_most", "_law_wide"] (sp_law_table K) := by
  refine ⟨f, fd, F.ok sc_law_table (fun vs H Q E h => ?_) (fun cdv A outer s H vs Q E hr h => ?_), hm, F.kp, F.binds fun _ _ _ _ _ _ us hl => match us, hl with | [_, _, _], _ => rfl⟩
  · obtain ⟨_, _, _, _, rfl, _⟩ := h
    rfl
  · obtain ⟨fa, ca, n, N, rfl, hf, hn1, hn3, hN, q⟩ := h
    refine ⟨_, (pss_cons (ps_set (i := 3) sc_law_table.nd rfl (Or.inl rfl) (pe_lst pa_nil))
      (pss_cons (ps_for PassesOwn.never rfl (pi_range1 (by rfl) M.range (pa_cons (pe_cal C__law_draw (hr.mono (by decide)) (by rfl) (pa_cons (pv 0) (pa_cons (pe_op op_add (pv 1) pe_int) pa_nil))) pa_nil)) (pg_name (i := 4) sc_law_table.nd rfl (.inl rfl))
        (pss_cons (ps_set (i := 5) sc_law_table.nd rfl (Or.inl rfl) (pe_cal C__law_draw (hr.mono (by decide)) (by rfl) (pa_cons (pv 0) (pa_cons pe_int pa_nil))))
        (pss_cons (ps_set (i := 6) sc_law_table.nd rfl (Or.inl rfl) (pe_ifExp (pt_cmpR op_gt (pv 5) pe_int (nomark _)) (pe_cal C__law_row (hr.mono (by decide)) (by rfl) (pa_cons (pv 0) (pa_cons (pv 2) pa_nil))) (pe_op (r := rRepA K) op_repA (pe_tup (pa_cons pe_int pa_nil)) (pv 2))))
        (pss_cons (ps_if (PW.pt (pw_and (pt_cmpR op_eq (pv 5) pe_int (nomark _)) (pw_and1 (pt_cmpR (r := rNeD K) (op_neD hr.units) (pv 3) (pe_lst pa_nil) (nomark _)))))
          (pss_cons (ps_set (i := 7) sc_law_table.nd rfl (Or.inr rfl) (pe_op op_sub pe_int (pe_op op_mulX pe_int (pe_cal C__law_draw (hr.mono (by decide)) (by rfl) (pa_cons (pv 0) (pa_cons pe_int pa_nil))))))
          (pss_one (ps_set (i := 6) sc_law_table.nd rfl (Or.inl rfl) (pe_callTy (T := "tuple") (r := rTupOf K) call_tup (by rfl) M.tuple (by decide +kernel) (pa_cons (pe_lc (own := [("_law_number_here", 9)]) rfl sc_law_table.nd (pi_tupK (K := K) rfl (pe_ix (r := rIxL K) ix_list (pv 3) (pe_cal C__law_draw (hr.mono (by decide)) (by rfl) (pa_cons (pv 0) (pa_cons (pe_callB (id := "len") (r := rLenS K) call_lenS (by rfl) M.len (by decide +kernel) (pa_cons (pv 3) pa_nil)) pa_nil))) (fun _ _ => rfl))) (blkOk_by (N := sl_law_table) (sc := defScope st_law_table) (by decide +kernel)) (fun _ _ _ _ _ => (pg_name (i := 9) sc_law_table.nd rfl (.inl rfl) (.inr rfl))) (fun _ _ _ _ _ => pts_nil) (fun _ _ _ _ _ => (pe_op op_mulX (pv 7) (pv 9)))) pa_nil)))))
          pss_nil)
        (pss_cons (ps_if (PW.pt (pw_and (pt_cmpR op_eq (pv 5) pe_int (nomark _)) (pw_and1 (pt_cmpR op_gt (pe_callB (id := "len") (r := rLenS K) call_lenS (by rfl) M.len (by decide +kernel) (pa_cons (pv 3) pa_nil)) pe_int (nomark _)))))
          (pss_cons (ps_set (i := 8) sc_law_table.nd rfl (Or.inl rfl) (pe_callTy (T := "tuple") (r := rTupOf K) call_tup (by rfl) M.tuple (by decide +kernel) (pa_cons (pe_lc (own := [("_law_one", 10), ("_law_other", 11)]) rfl sc_law_table.nd (RZ.pi_zipA (by rfl) M.zip (pa_cons (pe_ix (r := rIxL K) ix_list (pv 3) (pe_un un_neg pe_int) (fun _ _ => rfl)) (pa_cons (pe_ix (r := rIxL K) ix_list (pv 3) (pe_un un_neg pe_int) (fun _ _ => rfl)) pa_nil))) (blkOk_by (N := sl_law_table) (sc := defScope st_law_table) (by decide +kernel)) (fun _ _ _ _ _ => (pg_tupK (K := K) (n := 2) rfl rfl (pgs_cons (pg_name (i := 10) sc_law_table.nd rfl (.inl rfl) (.inr rfl)) (pgs_cons (pg_name (i := 11) sc_law_table.nd rfl (.inl rfl) (.inr rfl)) pgs_nil)))) (fun _ _ _ _ _ => pts_nil) (fun _ _ _ _ _ => (pe_op op_add (pv 10) (pv 11)))) pa_nil)))
          (pss_one (ps_set (i := 6) sc_law_table.nd rfl (Or.inl rfl) (pe_ifExp (pt_cmpR op_lt (pe_callB (id := "max") (r := rMax K) (cr_max rfl) (by rfl) M.max (by decide +kernel) (pa_cons (pe_lc (own := [("_law_number_here", 9)]) rfl sc_law_table.nd (pi_tupK (K := K) rfl (pv 8)) (blkOk_by (N := sl_law_table) (sc := defScope st_law_table) (by decide +kernel)) (fun _ _ _ _ _ => (pg_name (i := 9) sc_law_table.nd rfl (.inl rfl) (.inr rfl))) (fun _ _ _ _ _ => pts_nil) (fun _ _ _ _ _ => (pe_callB (id := "abs") call_abs (by rfl) M.abs (by decide +kernel) (pa_cons (pv 9) pa_nil)))) pa_nil)) pe_int (nomark _)) (pv 8) (pv 6)))))
          pss_nil)
        (pss_one (ps_expr (pe_bm PySem.F.plainAttrs_list PySem.F.slot_list_append PySem.F.type_list_append mt_append (pv 3) (pa_cons (pv 6) pa_nil)))))))))
      (pss_one (ps_ret (pe_tup (pa_cons (pv 2) (pa_cons (pe_callTy (T := "tuple") (r := rTupOf K) call_tup (by rfl) M.tuple (by decide +kernel) (pa_cons (pv 3) pa_nil)) pa_nil))))))), ?_⟩
    refine ⟨Nat.zero_le _, fun rl nrl => ?_⟩
    obtain ⟨nrf, nrc⟩ := hf.away nrl
    have s1 := same1 (o := .lst []) nrl
    have f1 := hf.same s1
    refine ⟨_, rfl, _, rfl, _, _, rfl, rfl, fa, ca, 4, N, rfl, f1, by decide, by decide, by omega, fun H2 cnt b2 f2 hcnt => ?_⟩
    refine ⟨(cnt : Nat), rfl, by omega, by omega, ?_⟩
    have bH2 : But [fa] H H2 := (But.of s1).trans b2
    refine for_it walk_rg (fun k σ H3 => ∃ x4 x5 x6 x7 x8 x9 x10 x11, σ = [some (.ref fa), some (.int 3), some (.int (n : Nat)), some (.ref rl), x4, x5, x6, x7, x8, x9, x10, x11] ∧ But [fa] H H3 ∧ FeedA H3 fa ca (N + 1 + 10 * k) ∧ RowsS K H3 rl n k)
      ⟨none, none, none, none, none, none, none, none, rfl, bH2, f2, [], [], b2 _ _ (by simp [nrf]) upd_same, .nil, rfl, fun r hr => by simp at hr⟩ (fun _ _ _ _ _ => True.intro) ?_ ?_
    · rintro k x σ H3 H3' hk ⟨x4, x5, x6, x7, x8, x9, x10, x11, rfl, b3, f3, R3⟩ ⟨rfl, rfl⟩
      have hk4 : k < 4 := by omega
      -- the way
      refine ⟨_, rfl, fa, ca, 6, N + 1 + 10 * k, rfl, f3, by decide, by decide, by omega, fun H4 way b4 f4 hway => ?_⟩
      have R4 := R3.but b4 (f3.lst fa (by simp)) nrf
      have b4' := b3.trans b4
      -- the row
      dsimp only
      refine gseq_joinS (fun σ' H5 => ∃ v6 r0, σ' = [some (.ref fa), some (.int 3), some (.int (n : Nat)), some (.ref rl), some (.int (k : Nat)), some (.int (way : Nat)), some v6, x7, x8, x9, x10, x11] ∧ But [fa] H H5 ∧ FeedA H5 fa ca (N + 8 + 10 * k) ∧ RowsS K H5 rl n k ∧ RowA K H5 v6 r0 ∧ SmR n r0) ?_ fun nx knx => ?_
      · rintro σ' H5 ⟨v6, r0, rfl, b5, f5, R5, hv6, hr0⟩
        refine seq_joinS (fun σ' H5 => ∃ v6 r0 y7, σ' = [some (.ref fa), some (.int 3), some (.int (n : Nat)), some (.ref rl), some (.int (k : Nat)), some (.int (way : Nat)), some v6, y7, x8, x9, x10, x11] ∧ But [fa] H H5 ∧ FeedA H5 fa ca (N + 10 + 10 * k) ∧ RowsS K H5 rl n k ∧ RowA K H5 v6 r0 ∧ SmR n r0) ?_ fun nx knx => ?_
        · rintro σ' H5 ⟨v6, r0, y7, rfl, b5, f5, R5, hv6, hr0⟩
          refine seq_joinS (fun σ' H5 => ∃ v6 r0 y7 y8, σ' = [some (.ref fa), some (.int 3), some (.int (n : Nat)), some (.ref rl), some (.int (k : Nat)), some (.int (way : Nat)), some v6, y7, y8, x9, x10, x11] ∧ But [fa] H H5 ∧ FeedA H5 fa ca (N + 10 + 10 * k) ∧ RowsS K H5 rl n k ∧ RowA K H5 v6 r0 ∧ SmR n r0) ?_ fun nx knx => ?_
          · rintro σ' H5 ⟨v6, r0, y7, y8, rfl, b5, f5, ⟨vs, rows, er, hp, hl, hsm⟩, hv6, hr0⟩
            refine ⟨_, rfl, .inl ⟨rfl, _, SqL.of er⟩, _, rfl, rl, vs, v6, rfl, rfl, er, by rw [Paired.length hp, hl]; exact small1000 (by omega), _, _, _, _, _, _, _, _, rfl, fun b o nb eb => ?_, (f5.put nrf nrc).mono (by omega), vs ++ [v6], rows ++ [r0], upd_same, ?_, by rw [List.length_append, hl]; rfl, fun r hr => ?_⟩
            · rw [upd_ne (ne_of_none eb nrl)]
              exact b5 b o nb eb
            · exact Paired.app (Paired.imp (fun _ _ z => z.tk (lst_tk er)) hp) (.cons (hv6.tk (lst_tk er)) .nil)
            · rcases List.mem_append.mp hr with hr | hr
              · exact hsm r hr
              · rw [List.mem_singleton.mp hr]; exact hr0
          · -- if way == 2 and len(rows) > 1
            obtain ⟨vs, rows, er, hp, hl, hsm⟩ := id R5
            have hvl : vs.length = k := (Paired.length hp).trans hl
            refine ⟨_, rfl, rfl, _, rfl, ite2 (fun g1 => ⟨_, rfl, rl, vs, rfl, .inl (SqL.of er), _, _, rfl, rfl, _, rfl, ite2 (fun g2 => ?_) fun g2 => knx _ _ ⟨v6, r0, y7, x8, rfl, b5, f5, R5, hv6, hr0⟩⟩) fun g1 => iteF (knx _ _ ⟨v6, r0, y7, x8, rfl, b5, f5, R5, hv6, hr0⟩)⟩
            have hk2 : 2 ≤ k := by
              have := of_decide_eq_true g2
              rw [hvl] at this
              omega
            obtain ⟨u1, e1⟩ : ∃ u, vs[vs.length - 1]? = some u := ⟨_, List.getElem?_eq_getElem (by omega)⟩
            obtain ⟨u2, e2⟩ : ∃ u, vs[vs.length - 2]? = some u := ⟨_, List.getElem?_eq_getElem (by omega)⟩
            obtain ⟨r1, er1, a1, rfl, h1⟩ := Paired.get hp e1
            obtain ⟨r2, er2, a2, rfl, h2⟩ := Paired.get hp e2
            have sm1 := hsm r1 (List.mem_of_getElem? er1)
            have sm2 := hsm r2 (List.mem_of_getElem? er2)
            have hl1 : (r1.map V.int).length = n := by rw [List.length_map]; exact sm1.1
            have hl2 : (r2.map V.int).length = n := by rw [List.length_map]; exact sm2.1
            refine ⟨_, rfl, 1, rfl, rl, vs, -1, _, rfl, rfl, SqL.of er, atI_neg (j := 1) (by decide) (by omega) e1, _, rfl, 2, rfl, rl, vs, -2, _, rfl, rfl, SqL.of er, atI_neg (j := 2) (by decide) (by omega) e2, a1, a2, _, _, rfl, .inr ⟨h1, h2, fun D hD => ?_⟩⟩
            refine lc_all (walk_zipTT rfl) hD (RInt fun k => vg r1 k + vg r2 k) (rInt_keep _) (fun H' s => ⟨seqT_same s h1, seqT_same s h2⟩) (by rw [hl1, hl2, Nat.min_self]; exact small1000 (by omega)) (fun j x H6 H6' C hj sm hx' hy kk => ?_) (fun H6 ys sm e hp2 => ?_) g_pair
            · obtain ⟨Tp, u, v, rfl, nT, rfl, eu, ev⟩ := hy
              rw [hl1, hl2, Nat.min_self] at hj
              obtain ⟨z1, ez1, rfl⟩ := mapInt_get eu
              obtain ⟨z2, ez2, rfl⟩ := mapInt_get ev
              rw [getD_at (by rw [sm1.1]; exact hj)] at ez1
              rw [getD_at (by rw [sm2.1]; exact hj)] at ez2
              cases ez1
              cases ez2
              exact pair_in ⟨rfl, _, rfl, _, rfl, _, _, rfl, rfl, kk _ _ (same1 nT) rfl⟩
            · have e3 := ints_of hp2
              rw [List.length_map, List.length_map, range_vg2 (f := fun x y => x + y)] at e3
              rw [e3] at e
              have hbl : (List.zipWith (fun x y => x + y) r1 r2).length = n := by rw [List.length_zipWith, sm1.1, sm2.1, Nat.min_self]
              generalize List.zipWith (fun x y => x + y) r1 r2 = both at e hbl
              refine ⟨D, _, rfl, .inl ⟨SqL.of e, fun l nl => ?_⟩⟩
              have s7 := sm.push (o := .tup (both.map V.int)) nl
              have hb7 : SqT K (upd H6 l (.tup (both.map V.int))) l (both.map V.int) := SqT.of upd_same
              generalize upd H6 l (.tup (both.map V.int)) = H7 at s7 hb7
              have hbl2 : (both.map V.int).length = n := by rw [List.length_map]; exact hbl
              refine ⟨_, rfl, l, rfl, ⟨_, hb7⟩, fun D2 hD2 => ?_⟩
              refine lc_all walk_tup hD2 (RInt fun k => ((vg both k).natAbs : Int)) (rInt_keep _) (fun H' s => seqT_same s hb7) (by rw [hbl2]; exact small1000 (by omega)) (fun j x H8 H8' C hj sm8 hx' hy kk => ?_) (fun H8 ys8 sm8 e8 hp8 => ?_) g_name
              · obtain ⟨rfl, ex⟩ := hy
                obtain ⟨z, ez, rfl⟩ := mapInt_get ex
                have hj' : j < both.length := by rwa [List.length_map] at hj
                rw [getD_at hj'] at ez
                cases ez
                refine ⟨rfl, _, rfl, _, rfl, kk _ _ (Same.refl _) ?_⟩
                show V.int (if vg both j < 0 then -(vg both j) else vg both j) = V.int ((vg both j).natAbs : Int)
                congr 1
                by_cases hneg : vg both j < 0
                · rw [if_pos hneg]; omega
                · rw [if_neg hneg]; omega
              · have e9 := ints_of hp8
                rw [List.length_map, range_vg (f := fun x => (x.natAbs : Int))] at e9
                rw [e9] at e8
                refine ⟨D2, _, rfl, SqL.of e8, by rw [List.length_map, hbl]; omega, fun mx hmx hmax => ?_⟩
                have s78 := s7.trans sm8
                refine ⟨_, _, rfl, rfl, _, rfl, ite2 (fun g3 => ?_) fun g3 => ?_⟩
                · have hlt : mx < 100 := of_decide_eq_true g3
                  refine ⟨_, rfl, knx _ _ ⟨.ref l, both, y7, some (.ref l), rfl, b5.same s78, f5.same s78, R5.same s78, ⟨l, rfl, seqT_same sm8 hb7⟩, hbl, fun z hz => ?_⟩⟩
                  have := hmax (z.natAbs : Int) (List.mem_map.mpr ⟨z, hz, rfl⟩)
                  omega
                · exact ⟨_, rfl, knx _ _ ⟨v6, r0, y7, some (.ref l), rfl, b5.same s78, f5.same s78, R5.same s78, hv6.tk s78.tk, hr0⟩⟩
        · -- if way == 1 and rows != []
          obtain ⟨vs, rows, er, hp, hl, hsm⟩ := id R5
          have hvl : vs.length = k := (Paired.length hp).trans hl
          refine ⟨_, rfl, rfl, _, rfl, ite2 (fun g1 => ⟨_, rfl, Nat.zero_le _, fun p np => ⟨_, _, .lst (SqL.of (same1 np _ _ er)) (dp_rows (Paired.imp (fun _ _ z => z.tk (same1 np).tk) hp)), dp_nil upd_same, sh_ls _, sh_nil, _, rfl, ?_⟩⟩) fun g1 => iteF (knx _ _ ⟨v6, r0, x7, rfl, b5, f5.mono (by omega), R5, hv6, hr0⟩)⟩
          rw [eqv_nil]
          have sp := same1 (o := .lst []) np
          have b6 := b5.same sp
          have f6 := f5.same sp
          have R6 := R5.same sp
          have hv7 := hv6.tk sp.tk (K := K)
          have er6 := sp _ _ er
          have hp6 := Paired.imp (fun _ _ z => RowA.tk sp.tk z) hp
          generalize upd H5 p (.lst []) = H6 at sp b6 f6 R6 hv7 er6 hp6
          refine ite2 (fun g2 => ?_) fun g2 => knx _ _ ⟨v6, r0, x7, rfl, b6, f6.mono (by omega), R6, hv7, hr0⟩
          have hk1 : 1 ≤ k := by
            cases rows with
            | nil => simp [dR] at g2
            | cons r l => rw [← hl]; simp
          refine ⟨_, rfl, fa, ca, 2, _, rfl, f6, by decide, by decide, by omega, fun H7 sg b7 f7 hsg => ⟨_, _, rfl, rfl, mulx_bt (a := 2) (b := 2) (by unfold Bt; decide) (by unfold Bt; rw [Int.natAbs_natCast]; omega) (by decide), _, _, rfl, rfl, ?_⟩⟩
          have hl6 := f6.lst
          have er7 := b7 rl _ (by simp [nrf]) er6
          refine ⟨_, rfl, _, rfl, _, rfl, rl, vs, rfl, .inl (SqL.of er7), fa, ca, vs.length, _, rfl, f7, by omega, by omega, by omega, fun H8 ix b8 f8 hix => ?_⟩
          have er8 := b8 rl _ (by simp [nrf]) er7
          obtain ⟨u, eu⟩ : ∃ u, vs[ix]? = some u := ⟨_, List.getElem?_eq_getElem hix⟩
          have tk8 : TK K H6 H8 := (b7.tk hl6).trans (b8.tk f7.lst)
          obtain ⟨r1, er1, a1, rfl, h1⟩ := Paired.get (Paired.imp (fun _ _ z => RowA.tk tk8 z) hp6) eu
          have sm1 := hsm r1 (List.mem_of_getElem? er1)
          have hl1 : (r1.map V.int).length = n := by rw [List.length_map]; exact sm1.1
          refine ⟨rl, vs, _, _, rfl, rfl, SqL.of er8, atI_nat eu, a1, rfl, ⟨_, h1⟩, fun D hD => ?_⟩
          refine lc_all walk_tup hD (RInt fun k => (1 - 2 * (sg : Int)) * vg r1 k) (rInt_keep _) (fun H' s => seqT_same s h1) (by rw [hl1]; exact small1000 (by omega)) (fun j x H9 H9' C hj sm hx' hy kk => ?_) (fun H9 ys sm e hp2 => ?_) g_name
          · obtain ⟨rfl, ex⟩ := hy
            obtain ⟨z, ez, rfl⟩ := mapInt_get ex
            have hj' : j < r1.length := by rwa [List.length_map] at hj
            rw [getD_at hj'] at ez
            cases ez
            exact ⟨rfl, _, rfl, _, rfl, _, _, rfl, rfl, mulx_bt (a := 3) (b := 7) (by unfold Bt; omega) (sm_bt sm1 _ (mem_vg hj')) (by decide), kk _ _ (Same.refl _) rfl⟩
          · have e3 := ints_of hp2
            rw [List.length_map, range_vg (f := fun x => (1 - 2 * (sg : Int)) * x)] at e3
            rw [e3] at e
            refine ⟨D, _, rfl, .inl ⟨SqL.of e, fun l nl => ?_⟩⟩
            have s9 := sm.push (o := .tup ((r1.map fun x => (1 - 2 * (sg : Int)) * x).map V.int)) nl
            refine knx _ _ ⟨.ref l, r1.map fun x => (1 - 2 * (sg : Int)) * x, _, rfl, (b6.trans (b7.trans b8)).same s9, (f8.same s9).mono (by omega), ((R6.but b7 (f6.lst fa (by simp)) nrf).but b8 (f7.lst fa (by simp)) nrf).same s9, ⟨l, rfl, SqT.of upd_same⟩, by rw [List.length_map]; exact sm1.1, fun z hz => ?_⟩
            obtain ⟨y, hy, rfl⟩ := List.mem_map.mp hz
            have h99 := sm1.2 y hy
            have hs : sg = 0 ∨ sg = 1 := by omega
            rcases hs with rfl | rfl
            · rw [show (1 - 2 * ((0 : Nat) : Int)) * y = y by omega]; exact h99
            · rw [show (1 - 2 * ((1 : Nat) : Int)) * y = -y by omega, Int.natAbs_neg]; exact h99
      · -- row_here = law_row(..) if way > 0 else (0,) * wide
        refine ⟨_, rfl, _, _, rfl, rfl, _, rfl, ite2 (fun g1 => ?_) fun g1 => ?_⟩
        · exact ⟨_, rfl, _, rfl, fa, ca, n, _, rfl, f4, hn3, by omega, fun H5 v r b5 f5 hv hr => knx _ _ ⟨v, r, rfl, b4'.trans b5, f5.mono (by omega), R4.but b5 (f4.lst fa (by simp)) nrf, hv, hr⟩⟩
        · refine ⟨by show 1 ≤ sizeLine; decide, fun p np => ⟨_, rfl, rd_rep (SqT.of upd_same) (by omega) fun p2 H5 s5 h5 => ?_⟩⟩
          have s6 := (same1 (o := .tup [.int 0]) np).trans s5
          refine knx _ _ ⟨.ref p2, List.replicate n 0, rfl, b4'.same s6, (f4.same s6).mono (by omega), R4.same s6, ⟨p2, rfl, by rw [List.map_replicate]; exact h5⟩, by simp, fun z hz => ?_⟩
          rw [(List.mem_replicate.mp hz).2]
          decide
    · rintro σ H3 ⟨x4, x5, x6, x7, x8, x9, x10, x11, rfl, b3, f3, vs, rows, er, hp, hl, hsm⟩
      have hc : ((cnt : Nat) : Int).toNat = cnt := rfl
      rw [hc] at hl f3
      refine ⟨_, rfl, _, rfl, rl, vs, rfl, .inl ⟨SqL.of er, fun l nl => ⟨by show 2 ≤ sizeLine; decide, fun t nt => ?_⟩⟩⟩
      have s4 := same1 (o := .tup vs) nl
      have s5 := same1 (o := .tup [.int (n : Nat), .ref l]) nt
      exact q _ _ rows (b3.same (s4.trans s5)) ((f3.same (s4.trans s5)).mono (by omega)) ⟨t, _, rfl, SqT.of upd_same, l, vs, rfl, seqT_same s5 (SqT.of upd_same), Paired.imp (fun _ _ z => z.tk (s4.trans s5).tk) hp⟩ (by omega) hsm
end
end SF
end
section
set_option maxHeartbeats 4000000
namespace SF
open PySem PySem.Spec PyProof.Rows L2
theorem unit_parts {m k : Nat} (h : k < m) : List.replicate k (V.int 0) ++ [.int 1] ++ List.replicate (m - 1 - k) (V.int 0) = (unitRow m k).map V.int := by
  apply List.ext_getElem?
  intro i
  unfold unitRow
  rw [List.map_map, List.getElem?_map]
  by_cases h1 : i < k
  · rw [List.getElem?_append_left (by simp; omega), List.getElem?_append_left (by simp; omega), List.getElem?_range (by omega)]
    simp [h1, show i ≠ k by omega]
  · by_cases h2 : i = k
    · subst h2
      rw [List.getElem?_append_left (by simp), List.getElem?_append_right (by simp), List.getElem?_range (by omega)]
      simp
    · by_cases h3 : i < m
      · rw [List.getElem?_append_right (by simp; omega), List.getElem?_range h3]
        simp
        rw [List.getElem?_replicate, if_pos (by omega)]
        simp [h2]
      · rw [List.getElem?_eq_none (by simp; omega), List.getElem?_eq_none (by simp; omega)]
        rfl
section
variable {P : Program} {w : World} {K : PySem.W.Frag} {mg : Str → Option Value} {base : Heap} {f : Addr} {fd : FuncData}
/-! ### _law_unit: _law_many 0 _law_k 1; cells - -/
abbrev st_law_unit : Stmt := topS 50
abbrev sl_law_unit : List Str := ["_law_many", "_law_k"]
theorem sc_law_unit : FnScope sl_law_unit ["_law_many", "_law_k"] (defScope st_law_unit) := ⟨rfl, rfl, rfl, by decide +kernel, rfl, by decide +kernel, by decide +kernel⟩
-- calls ; built-ins ; level 1
def sp_law_unit (K : PySem.W.Frag) : Sp := fun vs H Q _ => ∃ (m k : Nat), vs = [.int (m : Nat), .int (k : Nat)] ∧ k < m ∧ m ≤ 1000 ∧ ∀ H' v, Same H H' → RowA K H' v (unitRow m k) → Q v H'
theorem ok_law_unit (M : Blt mg) (F : Fun K "_law_unit" "_law_unit" st_law_unit f fd) (hm : mg "_law_unit" = some (.ref f)) : Cal P w K mg base 1 "_law_unit" ["_law_many", "_law_k"] (sp_law_unit K) := by
  refine ⟨f, fd, F.ok sc_law_unit (fun vs H Q E h => ?_) (fun cdv A outer s H vs Q E hr h => ?_), hm, F.kp, F.binds fun _ _ _ _ _ _ us hl => match us, hl with | [_, _], _ => rfl⟩
  · obtain ⟨_, _, rfl, _⟩ := h
    rfl
  · obtain ⟨m, k, rfl, hk, hm', q⟩ := h
    refine ⟨_, (pss_one (ps_ret (pe_op (r := rCatA K) op_catA (pe_op (r := rCatA K) op_catA (pe_op (r := rRepA K) op_repA (pe_tup (pa_cons pe_int pa_nil)) (pv 1)) (pe_tup (pa_cons pe_int pa_nil))) (pe_op (r := rRepA K) op_repA (pe_tup (pa_cons pe_int pa_nil)) (pe_op op_sub (pe_op op_sub (pv 0) pe_int) (pv 1)))))), ?_⟩
    have hz : (2000 : Nat) ≤ sizeLine := by decide
    refine ⟨by show 1 ≤ sizeLine; decide, fun p1 n1 => ⟨_, rfl, rd_rep (SqT.of upd_same) (by omega) fun p2 H2 s2 h2 => ?_⟩⟩
    refine ⟨by show 1 ≤ sizeLine; decide, fun p3 n3 => ?_⟩
    have s3 := same1 (o := .tup [.int 1]) n3
    refine rd_cat (seqT_same s3 h2) (SqT.of upd_same) (by simp; omega) fun p4 H4 s4 h4 => ?_
    refine ⟨by show 1 ≤ sizeLine; decide, fun p5 n5 => ?_⟩
    have s5 := same1 (o := .tup [.int 0]) n5
    refine ⟨_, rfl, _, _, rfl, rfl, _, rfl, _, _, rfl, rfl, ?_⟩
    show rRepA K _ (.int (((m : Nat) : Int) - 1 - ((k : Nat) : Int))) _ _
    rw [show ((m : Nat) : Int) - 1 - ((k : Nat) : Int) = ((m - 1 - k : Nat) : Int) by omega]
    refine rd_rep (SqT.of upd_same) (by omega) fun p6 H6 s6 h6 => ?_
    refine rd_cat (seqT_same (s5.trans s6) h4) h6 (by simp; omega) fun p7 H7 s7 h7 => ?_
    rw [unit_parts hk] at h7
    exact q _ _ ((((same1 n1).trans s2).trans (s3.trans s4)).trans ((s5.trans s6).trans s7)) ⟨p7, rfl, h7⟩
/-! ### _law_row_times: _law_row_here 0 _law_table_here 1 _law_found 2 _law_number_here 3 _law_one 4 _law_here 5 _law_there 6; cells _law_number_here -/
abbrev st_law_row_times : Stmt := topS 49
abbrev sl_law_row_times : List Str := ["_law_row_here", "_law_table_here", "_law_found", "_law_number_here", "_law_one", "_law_here", "_law_there"]
theorem sc_law_row_times : FnScope sl_law_row_times ["_law_row_here", "_law_table_here"] (defScope st_law_row_times) := ⟨rfl, rfl, rfl, by decide +kernel, rfl, by decide +kernel, by decide +kernel⟩
-- calls ; built-ins tuple zip; level 1
theorem ok_law_row_times (M : Blt mg) (F : Fun K "_law_row_times" "_law_row_times" st_law_row_times f fd) (hm : mg "_law_row_times" = some (.ref f)) : Cal P w K mg base 1 "_law_row_times" ["_law_row_here", "_law_table_here"] (sp_row_times K) := by
  refine ⟨f, fd, F.ok sc_law_row_times (fun vs H Q E h => ?_) (fun cdv A outer s H vs Q E hr h => ?_), hm, F.kp, F.binds fun _ _ _ _ _ _ us hl => match us, hl with | [_, _], _ => rfl⟩
  · obtain ⟨x, y, _, _, _, _, _, rfl, _⟩ := h
    rfl
  · obtain ⟨x, y, r, m, T, B1, B2, rfl, ⟨ax, rfl, hx⟩, ⟨ay, y1, rfl, hy, ay1, ys, rfl, hy1, hp⟩, hm', hl, b1, b2, b12, q⟩ := h
    refine ⟨_, (pss_cons (ps_set (i := 2) sc_law_row_times.nd rfl (Or.inl rfl) (pe_op op_rep (pe_lst (pa_cons pe_int pa_nil)) (pe_ix (r := rIxT K) ix_tup (pv 1) pe_int (fun _ _ => rfl))))
      (pss_cons (ps_for PassesOwn.never rfl (RZ.pi_zipA (by rfl) M.zip (pa_cons (pv 0) (pa_cons (pe_ix (r := rIxT K) ix_tup (pv 1) pe_int (fun _ _ => rfl)) pa_nil))) (pg_tupK (K := K) (n := 2) rfl rfl (pgs_cons (pg_name (i := 3) sc_law_row_times.nd rfl (.inr rfl)) (pgs_cons (pg_name (i := 4) sc_law_row_times.nd rfl (.inl rfl)) pgs_nil)))
        (pss_one (ps_setLc (i := 2) (own := [("_law_here", 5), ("_law_there", 6)]) rfl sc_law_row_times.nd rfl rfl (sw_true rfl rfl rfl (by decide +kernel)) (pi_zipM (by rfl) M.zip (pa_cons (pv 2) (pa_cons (pv 4) pa_nil))) (blkOk_by (N := sl_law_row_times) (sc := defScope st_law_row_times) (by decide +kernel)) (fun _ _ _ _ _ => (pg_tupK (K := K) (n := 2) rfl rfl (pgs_cons (pg_name (i := 5) sc_law_row_times.nd rfl (.inl rfl) (.inr rfl)) (pgs_cons (pg_name (i := 6) sc_law_row_times.nd rfl (.inl rfl) (.inr rfl)) pgs_nil)))) (fun _ _ _ _ _ => pts_nil) (fun _ _ _ _ _ => (pe_op op_add (pv 5) (pe_op op_mulX (pv 3) (pv 6)))))))
      (pss_one (ps_ret (pe_callTy (T := "tuple") (r := rTupOf K) call_tup (by rfl) M.tuple (by decide +kernel) (pa_cons (pv 2) pa_nil)))))), ?_⟩
    have hlen : ys.length = T.length := Paired.length hp
    refine ⟨(by decide : 1 ≤ sizeLine), fun l nl => ⟨_, rfl, ay, _, 0, .int m, rfl, rfl, seqT_same (same1 nl) hy, rfl, l, m, [.int 0], rfl, rfl, upd_same, by omega, by omega, ?_, fun o no => ?_⟩⟩
    · show 1 * ((m : Nat) : Int).toNat ≤ sizeLine
      rw [Nat.one_mul, Int.toNat_natCast]
      exact len1000 hm'
    have e0 : (List.replicate ((m : Nat) : Int).toNat [V.int 0]).flatten = (((List.range m).map fun k => S 0 (fun j => vg r j * mg2 T j k)).map V.int) := by
      rw [Int.toNat_natCast]
      clear hm' hl b1 b2 b12 q hx hy hy1 hp no nl
      apply List.ext_getElem?
      intro i
      rw [show List.replicate m [V.int 0] = (List.replicate m (V.int 0)).map fun v => [v] by simp]
      rw [← List.flatMap_def, List.flatMap_singleton']
      by_cases h : i < m
      · simp [h, S]
      · rw [List.getElem?_eq_none (by simp; omega), List.getElem?_eq_none (by simp; omega)]
    rw [e0]
    have s0 := (same1 (o := .lst [.int 0]) nl).push (o := .lst (((List.range m).map fun k => S 0 (fun j => vg r j * mg2 T j k)).map V.int)) no
    refine ⟨_, rfl, _, rfl, ay, _, 1, _, rfl, rfl, seqT_same s0 hy, rfl, ax, ay1, _, _, rfl, .inr ⟨seqT_same s0 hx, seqT_same s0 hy1, ?_⟩⟩
    have hn : min (r.map V.int).length ys.length = min r.length T.length := by rw [List.length_map, hlen]
    refine for_it (walk_zipTT rfl) (fun i σ H2 => ∃ o x3 x4 x5 x6, σ = [some (.ref ax), some (.ref ay), some (.ref o), x3, x4, x5, x6] ∧ Same H H2 ∧ H2 o = some (.lst (((List.range m).map fun k => S i (fun j => vg r j * mg2 T j k)).map V.int)))
      ⟨o, none, none, none, none, rfl, s0, upd_same⟩ (fun i σ H2 _ ⟨_, _, _, _, _, _, s, _⟩ => ⟨seqT_same s hx, seqT_same s hy1⟩) ?_ ?_
    · rintro i x σ H2 H2' hi ⟨o, x3, x4, x5, x6, rfl, s2, e2⟩ ⟨Tp, u, v, rfl, nT, rfl, eu, ev⟩
      rw [hn] at hi
      have hir : i < r.length := by omega
      have hiT : i < T.length := by omega
      obtain ⟨z, ez, rfl⟩ := mapInt_get eu
      obtain rfl : z = vg r i := by
        rw [getD_at hir] at ez
        exact (Option.some.inj ez).symm
      obtain ⟨lr, elr, al, rfl, hal⟩ := Paired.get hp ev
      rw [getD_row hiT] at elr
      cases elr
      have hll : (T.getD i []).length = m := hl _ (mem_getD hiT)
      refine pair_in ?_
      have s3 : Same H (upd H2 Tp (.tup [.int (vg r i), .ref al])) := s2.push nT
      have e3 := same1 (o := .tup [.int (vg r i), .ref al]) nT _ _ e2
      generalize upd H2 Tp (.tup [.int (vg r i), .ref al]) = H3 at s3 e3
      refine ⟨_, rfl, _, rfl, o, al, _, _, rfl, SqL.of e3, seqT_same s3 hal, fun D hD => ?_⟩
      have hl1 : (((List.range m).map fun k => S i (fun j => vg r j * mg2 T j k)).map V.int).length = m := by simp
      have hl2 : ((T.getD i []).map V.int).length = m := by rw [List.length_map]; exact hll
      refine lc_all (walk_zipM rfl) hD (RInt fun k => S (i + 1) (fun j => vg r j * mg2 T j k)) (rInt_keep _) (fun H' s => ⟨s.seq (SqL.of e3), seqT_same (s3.trans s) hal⟩) (by rw [hl1, hl2, Nat.min_self]; exact small1000 hm') (fun k x H4 H4' C hk sm hx' hy' kk => ?_) (fun H4 ys4 sm e hp2 => ?_) g_pair
      · obtain ⟨Tq, u, v, rfl, nq, rfl, eu, ev⟩ := hy'
        rw [hl1, hl2, Nat.min_self] at hk
        obtain ⟨z1, ez1, rfl⟩ := mapInt_get eu
        obtain ⟨z2, ez2, rfl⟩ := mapInt_get ev
        rw [getD_at (by simpa using hk), show ((List.range m).map fun k => S i (fun j => vg r j * mg2 T j k)).getD k 0 = S i (fun j => vg r j * mg2 T j k) from map_range_getD hk] at ez1
        rw [getD_at (by rw [hll]; exact hk)] at ez2
        cases ez1
        cases ez2
        refine pair_in ⟨rfl, _, rfl, _, rfl, _, rfl, _, _, rfl, rfl, mulx_bt (b1 _ (mem_vg hir)) (b2 _ (mem_getD hiT) _ (mem_vg (by rw [hll]; exact hk))) b12, _, _, rfl, rfl, kk _ _ (same1 nq) rfl⟩
      · have e5 := ints_of hp2
        rw [hl1, hl2, Nat.min_self] at e5
        rw [e5] at e
        exact ⟨D, _, _, _, _, rfl, s3.trans sm, e⟩
    · rintro σ H2 ⟨o, x3, x4, x5, x6, rfl, s2, e2⟩
      refine ⟨_, rfl, o, _, rfl, .inl ⟨SqL.of e2, fun l nl => ?_⟩⟩
      refine q _ _ (s2.push nl) ⟨l, rfl, ?_⟩
      rw [hn]
      exact SqT.of upd_same
end
end SF
end
section
set_option maxHeartbeats 4000000
namespace SF
open PySem PySem.Spec PyProof.Rows L2
def freeL (n : Nat) (F A : List (List Int)) : List (List Int) := ((List.range F.length).filter fun i => decide (F.getD i [] = List.replicate n 0)).map fun i => A.getD i []
def boxStep (found : List (List Int)) (i : Nat) : List (List Int) := (List.range i).flatMap fun (j : Nat) => found.map fun r => r ++ [-2 + (j : Int)]
def boxN : Nat → List (List Int)
  | 0 => [[]]
  | k + 1 => boxStep (boxN k) 5
theorem boxStep_succ (found : List (List Int)) (i : Nat) : boxStep found (i + 1) = boxStep found i ++ found.map fun r => r ++ [-2 + (i : Int)] := by
  unfold boxStep
  rw [List.range_succ, List.flatMap_append]
  simp
theorem boxStep_length (found : List (List Int)) (i : Nat) : (boxStep found i).length = i * found.length := by
  induction i with
  | zero => simp [boxStep]
  | succ i ih => rw [boxStep_succ, List.length_append, ih, List.length_map, Nat.add_mul, Nat.one_mul]
theorem boxN_length (k : Nat) : (boxN k).length = 5 ^ k := by
  induction k with
  | zero => rfl
  | succ k ih => show (boxStep (boxN k) 5).length = _; rw [boxStep_length, ih, Nat.pow_succ, Nat.mul_comm]
theorem box_small {k i : Nat} (hk : k < 3) (hi : i ≤ 5) : i * (boxN k).length ≤ 125 := by
  rw [boxN_length]
  have : 5 ^ k ≤ 25 := by
    match k, hk with
    | 0, _ => decide
    | 1, _ => decide
    | 2, _ => decide
  have := Nat.mul_le_mul hi this
  omega
theorem mem_boxStep {found : List (List Int)} {i : Nat} {x : List Int} : x ∈ boxStep found i ↔ ∃ j, j < i ∧ ∃ r, r ∈ found ∧ x = r ++ [-2 + (j : Int)] := by
  unfold boxStep
  rw [List.mem_flatMap]
  constructor
  · rintro ⟨j, hj, hx⟩
    obtain ⟨r, hr, rfl⟩ := List.mem_map.mp hx
    exact ⟨j, List.mem_range.mp hj, r, hr, rfl⟩
  · rintro ⟨j, hj, r, hr, rfl⟩
    exact ⟨j, List.mem_range.mpr hj, List.mem_map.mpr ⟨r, hr, rfl⟩⟩
theorem boxN_len {k : Nat} : ∀ r ∈ boxN k, r.length = k := by
  induction k with
  | zero => intro r hr; have : r = [] := by simpa [boxN] using hr
            rw [this]; rfl
  | succ k ih =>
    intro r hr
    obtain ⟨j, _, r', hr', rfl⟩ := mem_boxStep.mp hr
    rw [List.length_append, ih r' hr']; rfl
theorem boxN_bt {k : Nat} : ∀ r ∈ boxN k, ∀ z ∈ r, Bt 2 z := by
  induction k with
  | zero => intro r hr z hz; have : r = [] := by simpa [boxN] using hr
            rw [this] at hz; simp at hz
  | succ k ih =>
    intro r hr z hz
    obtain ⟨j, hj, r', hr', rfl⟩ := mem_boxStep.mp hr
    rcases List.mem_append.mp hz with hz | hz
    · exact ih r' hr' z hz
    · rw [List.mem_singleton.mp hz]
      unfold Bt
      omega
theorem box_row_len {k : Nat} (hk : k < 3) (j : Nat) : ((boxN k).getD j []).length ≤ 900 := by
  by_cases h : j < (boxN k).length
  · rw [boxN_len _ (mem_getD h)]; omega
  · rw [List.getD_eq_getElem?_getD, List.getElem?_eq_none (by omega)]; simp
section
variable {P : Program} {w : World} {K : PySem.W.Frag} {mg : Str → Option Value} {base : Heap} {f : Addr} {fd : FuncData}
/-! ### _law_free: _law_paper 0 _law_row_here 1 _law_here 2; cells _law_paper -/
abbrev st_law_free : Stmt := topS 54
abbrev sl_law_free : List Str := ["_law_paper", "_law_row_here", "_law_here"]
theorem sc_law_free : FnScope sl_law_free ["_law_paper"] (defScope st_law_free) := ⟨rfl, rfl, rfl, by decide +kernel, rfl, by decide +kernel, by decide +kernel⟩
-- calls ; built-ins zip; level 1
def sp_law_free (K : PySem.W.Frag) : Sp := fun vs H Q _ => ∃ (x : V) (one : List Int) (n m : Nat) (F A B : List (List Int)), vs = [x] ∧ PapA K H x one n m F A B ∧ Shape m n F ∧ A.length = m ∧ m ≤ 1000 ∧ n ≤ 1000 ∧ ∀ H' v, Same H H' → RowsLT K H' v (freeL n F A) → Q v H'
theorem ok_law_free (M : Blt mg) (F : Fun K "_law_free" "_law_free" st_law_free f fd) (hm : mg "_law_free" = some (.ref f)) : Cal P w K mg base 1 "_law_free" ["_law_paper"] (sp_law_free K) := by
  refine ⟨f, fd, F.ok sc_law_free (fun vs H Q E h => ?_) (fun cdv A outer s H vs Q E hr h => ?_), hm, F.kp, F.binds fun _ _ _ _ _ _ us hl => match us, hl with | [_], _ => rfl⟩
  · obtain ⟨_, _, _, _, _, _, _, rfl, _⟩ := h
    rfl
  · obtain ⟨x, one, n, m, Fm, Am, Bm, rfl, ⟨a, o, fo, t, b, rfl, ha, _, ⟨af, xf, rfl, hf, af1, vf, rfl, hf1, hpf⟩, ⟨at_, xt, rfl, ht, at1, vt, rfl, ht1, hpt⟩, _⟩, sh, hA, hm', hn, q⟩ := h
    refine ⟨_, (pss_one (ps_ret (pe_lc (own := [("_law_row_here", 1), ("_law_here", 2)]) rfl sc_law_free.nd (RZ.pi_zipA (by rfl) M.zip (pa_cons (pe_ix (r := rIxT K) ix_tup (pe_ix (r := rIxT K) ix_tup (pv 0) pe_int (fun _ _ => rfl)) pe_int (fun _ _ => rfl)) (pa_cons (pe_ix (r := rIxT K) ix_tup (pe_ix (r := rIxT K) ix_tup (pv 0) pe_int (fun _ _ => rfl)) pe_int (fun _ _ => rfl)) pa_nil))) (blkOk_by (N := sl_law_free) (sc := defScope st_law_free) (by decide +kernel)) (fun _ _ _ _ _ => (pg_tupK (K := K) (n := 2) rfl rfl (pgs_cons (pg_name (i := 1) sc_law_free.nd rfl (.inl rfl) (.inr rfl)) (pgs_cons (pg_name (i := 2) sc_law_free.nd rfl (.inl rfl) (.inr rfl)) pgs_nil)))) (fun _ _ _ _ _ => (pts_one (pt_cmpR (r := rEqD K) (op_eqD hr.units) (pv 2) (pe_op (r := rRepA K) op_repA (pe_tup (pa_cons pe_int pa_nil)) (pe_ix (r := rIxT K) ix_tup (pe_ix (r := rIxT K) ix_tup (pv 0) pe_int (fun _ _ => rfl)) pe_int (fun _ _ => rfl))) (nomark _)))) (fun _ _ _ _ _ => (pv 1))))), ?_⟩
    refine ⟨_, rfl, a, _, 3, _, rfl, rfl, ha, rfl, at_, _, 1, _, rfl, rfl, ht, rfl, _, rfl, a, _, 2, _, rfl, rfl, ha, rfl, af, _, 1, _, rfl, rfl, hf, rfl, at1, af1, _, _, rfl, .inr ⟨ht1, hf1, fun D hD => ?_⟩⟩
    have l1 : vt.length = m := (Paired.length hpt).trans hA
    have l2 : vf.length = m := (Paired.length hpf).trans sh.1
    refine lc_flt (walk_zipTT rfl) hD (RRow K fun i => Am.getD i []) (fun i => decide (Fm.getD i [] = List.replicate n 0)) (rRow_keep K _) (fun H' s => ⟨seqT_same s ht1, seqT_same s hf1⟩) (by rw [l1, l2, Nat.min_self]; exact small1000 hm') (fun i x H1 H' C N hi sm hx hy k kn => ?_) (fun H1 ys sm e hp2 => ?_)
    · obtain ⟨Tp, u, v, rfl, nT, rfl, eu, ev⟩ := hy
      rw [l1, l2, Nat.min_self] at hi
      obtain ⟨ra, era, hra⟩ := Paired.get hpt eu
      obtain ⟨rf, erf, af2, rfl, hrf⟩ := Paired.get hpf ev
      obtain rfl : ra = Am.getD i [] := by
        rw [getD_row (by rw [hA]; exact hi)] at era
        exact (Option.some.inj era).symm
      obtain rfl : rf = Fm.getD i [] := by
        rw [getD_row (by rw [sh.1]; exact hi)] at erf
        exact (Option.some.inj erf).symm
      have sT := same1 (o := .tup [u, .ref af2]) nT
      refine pair_in ⟨rfl, _, rfl, by show 1 ≤ sizeLine; decide, fun p np => ?_⟩
      have s2 := sT.push (o := .tup [.int 0]) np
      refine ⟨_, rfl, a, _, 2, _, rfl, rfl, seqT_same (sm.trans s2) ha, rfl, af, _, 0, _, rfl, rfl, seqT_same (sm.trans s2) hf, rfl, rd_rep (SqT.of upd_same) hn fun p2 H2 s3 h3 => ?_⟩
      rw [← List.map_replicate] at h3
      have s4 := s2.trans s3
      refine ⟨_, _, dp_row ⟨af2, rfl, seqT_same (sm.trans s4) hrf⟩, dp_row ⟨p2, rfl, h3⟩, sh_t _, sh_t _, _, rfl, ?_⟩
      rw [eqv_tup]
      exact ite2 (fun h1 => ⟨_, rfl, k _ _ s4 (hra.tk (sm.trans s4).tk) h1⟩) fun h1 => kn _ s4 (Bool.eq_false_iff.mpr h1)
    · refine q _ _ sm ⟨D, ys, rfl, e, ?_⟩
      have := rows_of hp2
      rw [l1, l2, Nat.min_self] at this
      unfold freeL
      rw [sh.1]
      exact this
/-! ### _law_box: _law_many 0 _law_found 1 _law_k 2 _law_some 3 _law_number_here 4 _law_row_here 5; cells _law_number_here -/
abbrev st_law_box : Stmt := topS 56
abbrev sl_law_box : List Str := ["_law_many", "_law_found", "_law_k", "_law_some", "_law_number_here", "_law_row_here"]
theorem sc_law_box : FnScope sl_law_box ["_law_many"] (defScope st_law_box) := ⟨rfl, rfl, rfl, by decide +kernel, rfl, by decide +kernel, by decide +kernel⟩
-- calls ; built-ins range; level 1
def sp_law_box (K : PySem.W.Frag) : Sp := fun vs H Q _ => ∃ (m : Nat), vs = [.int (m : Nat)] ∧ m ≤ 3 ∧ ∀ H' v, Same H H' → RowsLT K H' v (boxN m) → Q v H'
theorem ok_law_box (M : Blt mg) (F : Fun K "_law_box" "_law_box" st_law_box f fd) (hm : mg "_law_box" = some (.ref f)) : Cal P w K mg base 1 "_law_box" ["_law_many"] (sp_law_box K) := by
  refine ⟨f, fd, F.ok sc_law_box (fun vs H Q E h => ?_) (fun cdv A outer s H vs Q E hr h => ?_), hm, F.kp, F.binds fun _ _ _ _ _ _ us hl => match us, hl with | [_], _ => rfl⟩
  · obtain ⟨_, rfl, _⟩ := h
    rfl
  · obtain ⟨m, rfl, hm3, q⟩ := h
    refine ⟨_, (pss_cons (ps_set (i := 1) sc_law_box.nd rfl (Or.inl rfl) (pe_lst (pa_cons (pe_tup pa_nil) pa_nil)))
      (pss_cons (ps_for PassesOwn.never rfl (pi_range1 (by rfl) M.range (pa_cons (pv 0) pa_nil)) (pg_name (i := 2) sc_law_box.nd rfl (.inl rfl))
        (pss_cons (ps_set (i := 3) sc_law_box.nd rfl (Or.inl rfl) (pe_lst pa_nil))
        (pss_cons (ps_for PassesOwn.never rfl (pi_range2 (by rfl) M.range (pa_cons (pe_un un_neg pe_int) (pa_cons pe_int pa_nil))) (pg_name (i := 4) sc_law_box.nd rfl (.inr rfl))
          (pss_one (ps_set (i := 3) sc_law_box.nd rfl (Or.inl rfl) (pe_op op_cat (pv 3) (pe_lc (own := [("_law_row_here", 5)]) rfl sc_law_box.nd (pi_listK (K := K) rfl (pv 1)) (blkOk_by (N := sl_law_box) (sc := defScope st_law_box) (by decide +kernel)) (fun _ _ _ _ _ => (pg_name (i := 5) sc_law_box.nd rfl (.inl rfl) (.inr rfl))) (fun _ _ _ _ _ => pts_nil) (fun _ _ _ _ _ => (pe_op (r := rCatA K) op_catA (pv 5) (pe_tup (pa_cons (pv 4) pa_nil)))))))))
        (pss_one (ps_set (i := 1) sc_law_box.nd rfl (Or.inl rfl) (pv 3))))))
      (pss_one (ps_ret (pv 1))))), ?_⟩
    have hSz : (1000 : Nat) ≤ sizeLine := by decide
    refine ⟨Nat.zero_le _, fun p np => ⟨by show 1 ≤ sizeLine; decide, fun l nl => ?_⟩⟩
    have s1 := (same1 (o := .tup []) np).push (o := .lst [.ref p]) nl
    refine ⟨_, rfl, (m : Nat), rfl, by omega, by omega, ?_⟩
    refine for_it walk_rg (fun k σ H2 => ∃ l x2 x3 x4 x5, σ = [some (.int (m : Nat)), some (.ref l), x2, x3, x4, x5] ∧ Same H H2 ∧ RowsLT K H2 (.ref l) (boxN k))
      ⟨l, none, none, none, none, rfl, s1, l, [.ref p], rfl, upd_same, .cons ⟨p, rfl, seqT_same (same1 nl) (SqT.of upd_same)⟩ .nil⟩ (fun _ _ _ _ _ => True.intro) ?_ ?_
    · rintro k x σ H2 H2' hk ⟨l, x2, x3, x4, x5, rfl, s2, l0, us, e0, el, hpl⟩ ⟨rfl, rfl⟩
      cases e0
      have hk3 : k < 3 := by omega
      refine ⟨Nat.zero_le _, fun sl nsl => ?_⟩
      have s3 := s2.push (o := .lst []) nsl
      refine ⟨1 + 1, rfl, -2, 3, rfl, ⟨by decide, by decide, by decide, by decide⟩, ?_⟩
      refine for_it (walk_range (lo := -2) (n := 5)) (fun i σ H3 => ∃ sl x4 x5, σ = [some (.int (m : Nat)), some (.ref l), some (.int (k : Nat)), some (.ref sl), x4, x5] ∧ Same H H3 ∧ RowsLT K H3 (.ref l) (boxN k) ∧ RowsLT K H3 (.ref sl) (boxStep (boxN k) i))
        ⟨sl, x4, x5, rfl, s3, ⟨l, us, rfl, same1 nsl _ _ el, Paired.imp (fun _ _ z => z.tk (same1 nsl).tk) hpl⟩, ⟨sl, [], rfl, upd_same, .nil⟩⟩ (fun _ _ _ _ _ => True.intro) ?_ ?_
      · rintro i x σ H3 H3' hi ⟨sl, x4, x5, rfl, s3, ⟨l0, us, e0, el, hpl⟩, ⟨sl0, ws, e1, es, hps⟩⟩ ⟨rfl, rfl⟩
        cases e0
        cases e1
        have hbs := box_small hk3 (show i ≤ 5 by omega)
        have hb1 := box_small hk3 (show 1 ≤ 5 by decide)
        have hul : us.length = (boxN k).length := Paired.length hpl
        refine ⟨_, rfl, _, rfl, l, rfl, ⟨_, SqL.of el⟩, fun D hD => ?_⟩
        refine lc_all walk_list hD (RRow K fun j => (boxN k).getD j [] ++ [-2 + (i : Int)]) (rRow_keep K _) (fun H' s => s.seq (SqL.of el)) (by omega) (fun j x H4 H4' C hj sm hx' hy kk => ?_) (fun H4 ys sm e hp2 => ?_) g_name
        · obtain ⟨rfl, ex⟩ := hy
          obtain ⟨r, er, ar, rfl, har⟩ := Paired.get hpl ex
          obtain rfl : r = (boxN k).getD j [] := by
            rw [getD_row (by omega)] at er
            exact (Option.some.inj er).symm
          refine ⟨rfl, _, rfl, _, rfl, by show 1 ≤ sizeLine; decide, fun t nt => ?_⟩
          have st := same1 (o := .tup [.int (-2 + (i : Int))]) nt
          have hrl : ((boxN k).getD j []).length ≤ sizeLine := by
            have := box_row_len hk3 j
            omega
          refine rd_cat (seqT_same (sm.trans st) har) (SqT.of upd_same) ?_ fun p H5 s5 h5 => ?_
          · rw [List.length_map]
            have := box_row_len hk3 j
            show _ + 1 ≤ _
            omega
          · exact kk _ _ (st.trans s5) ⟨p, rfl, by rw [List.map_append]; exact h5⟩
        · have hpr := rows_of hp2
          rw [hul] at hpr
          have e2 : (List.range (boxN k).length).map (fun j => (boxN k).getD j [] ++ [-2 + (i : Int)]) = (boxN k).map fun r => r ++ [-2 + (i : Int)] := by
            have h := congrArg (List.map fun r => r ++ [-2 + (i : Int)]) (map_getD' (boxN k))
            rw [List.map_map] at h
            exact h
          rw [e2] at hpr
          have es4 := sm _ _ es
          have hwl : ws.length = i * (boxN k).length := (Paired.length hps).trans (boxStep_length _ _)
          have hyl : ys.length = (boxN k).length := (Paired.length hpr).trans (by rw [List.length_map])
          refine ⟨sl, D, _, _, rfl, rfl, es4, e, by omega, fun p np => ?_⟩
          have s5 := sm.push (o := .lst (ws ++ ys)) np
          refine ⟨p, _, _, rfl, s3.trans s5, ⟨l, us, rfl, s5 _ _ el, Paired.imp (fun _ _ z => z.tk s5.tk) hpl⟩, ⟨p, _, rfl, upd_same, ?_⟩⟩
          rw [boxStep_succ]
          exact Paired.app (Paired.imp (fun _ _ z => z.tk s5.tk) hps) (Paired.imp (fun _ _ z => z.tk (same1 np).tk) hpr)
      · rintro σ H3 ⟨sl, x4, x5, rfl, s3, _, hsl⟩
        exact ⟨_, rfl, sl, _, _, _, _, rfl, s3, hsl⟩
    · rintro σ H2 ⟨l, x2, x3, x4, x5, rfl, s2, hl⟩
      exact ⟨_, rfl, q _ _ s2 hl⟩
end
end SF
end
section
set_option maxHeartbeats 4000000
namespace SF
open PySem PySem.Spec PyProof.Rows L2
/-- a row of its own: a list of ints at an address that is neither a nor d -/
def RowL (H : Hp) (a d : Addr) (v : V) (r : List Int) : Prop := ∃ p, v = .ref p ∧ p ≠ a ∧ p ≠ d ∧ H p = some (.lst (r.map V.int))
def RowsLL (H : Hp) (a d : Addr) (rs : List (List Int)) : Prop := ∃ vs, H a = some (.lst vs) ∧ Paired (RowL H a d) vs rs
theorem RowL.but {H H' : Hp} {a d : Addr} {v : V} {r : List Int} (b : But [a, d] H H') (h : RowL H a d v r) : RowL H' a d v r := let ⟨p, e, h1, h2, h3⟩ := h; ⟨p, e, h1, h2, b _ _ (by simp [h1, h2]) h3⟩
structure Led (K : PySem.W.Frag) (H : Hp) (a d : Addr) (rs : List (List Int)) (ds : List Deed) : Prop where
  ne : a ≠ d
  rows : RowsLL H a d rs
  deeds : ∃ us, H d = some (.lst us) ∧ Paired (DeedA K H) us ds
theorem Led.lists {K : PySem.W.Frag} {H : Hp} {a d : Addr} {rs : List (List Int)} {ds : List Deed} (h : Led K H a d rs ds) : ∀ b ∈ [a, d], ∃ xs, H b = some (.lst xs) := fun b hb => by
  obtain ⟨vs, e, _⟩ := h.rows
  obtain ⟨us, e2, _⟩ := h.deeds
  rcases List.mem_cons.mp hb with z | z
  · rw [z]; exact ⟨_, e⟩
  · rw [List.mem_singleton.mp z]; exact ⟨_, e2⟩
theorem Led.same {K : PySem.W.Frag} {H H' : Hp} {a d : Addr} {rs : List (List Int)} {ds : List Deed} (s : Same H H') (h : Led K H a d rs ds) : Led K H' a d rs ds := by
  obtain ⟨ne, ⟨vs, e, p⟩, us, e2, p2⟩ := h
  exact ⟨ne, ⟨vs, s _ _ e, Paired.imp (fun _ _ z => z.but (But.of s)) p⟩, us, s _ _ e2, Paired.imp (fun _ _ z => z.tk s.tk) p2⟩
theorem walk_lst {K : PySem.W.Frag} {a : Addr} {xs : List V} : Walk (Itl K a) xs.length (fun H => SqL K H a xs) (YAt xs) := walk_list
section
variable {P : Program} {w : World} {K : PySem.W.Frag} {mg : Str → Option Value} {base : Heap} {f : Addr} {fd : FuncData}
/-! ### lead_on: rows 0 deeds 1 deed 2 at 3 number 4 other 5; cells deed -/
abbrev st_lead_on : Stmt := topS 31
abbrev sl_lead_on : List Str := ["rows", "deeds", "deed", "at", "number", "other"]
theorem sc_lead_on : FnScope sl_lead_on ["rows", "deeds", "deed"] (defScope st_lead_on) := ⟨rfl, rfl, rfl, by decide +kernel, rfl, by decide +kernel, by decide +kernel⟩
-- calls ; built-ins zip; level 1
def sp_lead_on (K : PySem.W.Frag) : Sp := fun vs H Q _ => ∃ (a d : Addr) (v : V) (rs : List (List Int)) (ds : List Deed) (dd : Deed) (m n B1 B2 : Nat), vs = [.ref a, .ref d, v] ∧ Led K H a d rs ds ∧ DeedA K H v dd ∧ Shape m n rs ∧ dd.ok m ∧ n < sizeLine ∧ ds.length < sizeLine ∧
  dd.bt B1 ∧ (∀ l ∈ rs, ∀ z ∈ l, Bt B2 z) ∧ B1 + B2 ≤ 134217728 ∧ ∀ H', But [a, d] H H' → Led K H' a d (dd.app rs) (ds ++ [dd]) → Q .non H'
theorem ok_lead_on (M : Blt mg) (F : Fun K "lead_on" "lead_on" st_lead_on f fd) (hm : mg "lead_on" = some (.ref f)) : Cal P w K mg base 1 "lead_on" ["rows", "deeds", "deed"] (sp_lead_on K) := by
  refine ⟨f, fd, F.ok sc_lead_on (fun vs H Q E h => ?_) (fun cdv A outer s H vs Q E hr h => ?_), hm, F.kp, F.binds fun _ _ _ _ _ _ us hl => match us, hl with | [_, _, _], _ => rfl⟩
  · obtain ⟨_, _, _, _, _, _, _, _, _, _, rfl, _⟩ := h
    rfl
  · obtain ⟨a, d, v, rs, ds, dd, m, n, B1, B2, rfl, ⟨ne, ⟨vs, ea, hp⟩, us, ed, hpd⟩, ⟨ad, rfl, hd⟩, sh, ok, hn, hds, hb1, hb2, hb, q⟩ := h
    refine ⟨_, (pss_cons (ps_expr (pe_bm PySem.F.plainAttrs_list PySem.F.slot_list_append PySem.F.type_list_append mt_append (pv 1) (pa_cons (pv 2) pa_nil)))
      (pss_cons (ps_set (i := 3) sc_lead_on.nd rfl (Or.inl rfl) (pe_ix (r := rIxT K) ix_tup (pv 2) pe_int (fun _ _ => rfl)))
      (pss_one (ps_if (pt_cmpR op_eq (pe_ix (r := rIxT K) ix_tup (pv 2) pe_int (fun _ _ => rfl)) pe_str (nomark _))
        (pss_one (ps_asg (pe_tup (pa_cons (pe_ix (r := rIxL K) ix_list (pv 0) (pe_ix (r := rIxT K) ix_tup (pv 2) pe_int (fun _ _ => rfl)) (fun _ _ => rfl)) (pa_cons (pe_ix (r := rIxL K) ix_list (pv 0) (pv 3) (fun _ _ => rfl)) pa_nil))) (pg_tupK (K := K) (n := 2) rfl rfl (pgs_cons (pg_sub (pv 0) (pv 3) set_list) (pgs_cons (pg_sub (pv 0) (pe_ix (r := rIxT K) ix_tup (pv 2) pe_int (fun _ _ => rfl)) set_list) pgs_nil)))))
        (pss_one (ps_if (pt_cmpR op_eq (pe_ix (r := rIxT K) ix_tup (pv 2) pe_int (fun _ _ => rfl)) pe_str (nomark _))
          (pss_one (ps_asg (pe_lc (own := [("number", 4)]) rfl sc_lead_on.nd (pi_listK (K := K) rfl (pe_ix (r := rIxL K) ix_list (pv 0) (pv 3) (fun _ _ => rfl))) (blkOk_by (N := sl_lead_on) (sc := defScope st_lead_on) (by decide +kernel)) (fun _ _ _ _ _ => (pg_name (i := 4) sc_lead_on.nd rfl (.inl rfl) (.inr rfl))) (fun _ _ _ _ _ => pts_nil) (fun _ _ _ _ _ => (pe_op op_sub pe_int (pv 4)))) (pg_sub (pv 0) (pv 3) set_list)))
          (pss_one (ps_asg (pe_lc (own := [("number", 4), ("other", 5)]) rfl sc_lead_on.nd (pi_zip (by rfl) M.zip (pa_cons (pe_ix (r := rIxL K) ix_list (pv 0) (pv 3) (fun _ _ => rfl)) (pa_cons (pe_ix (r := rIxL K) ix_list (pv 0) (pe_ix (r := rIxT K) ix_tup (pv 2) pe_int (fun _ _ => rfl)) (fun _ _ => rfl)) pa_nil))) (blkOk_by (N := sl_lead_on) (sc := defScope st_lead_on) (by decide +kernel)) (fun _ _ _ _ _ => (pg_tupK (K := K) (n := 2) rfl rfl (pgs_cons (pg_name (i := 4) sc_lead_on.nd rfl (.inl rfl) (.inr rfl)) (pgs_cons (pg_name (i := 5) sc_lead_on.nd rfl (.inl rfl) (.inr rfl)) pgs_nil)))) (fun _ _ _ _ _ => pts_nil) (fun _ _ _ _ _ => (pe_op op_add (pv 4) (pe_op op_mulX (pe_ix (r := rIxT K) ix_tup (pv 2) pe_int (fun _ _ => rfl)) (pv 5))))) (pg_sub (pv 0) (pv 3) set_list))))))))), ?_⟩
    have hlen : vs.length = m := (Paired.length hp).trans sh.1
    have hlu : us.length < sizeLine := by rw [Paired.length hpd]; exact hds
    refine ⟨_, rfl, .inl ⟨rfl, _, SqL.of ed⟩, _, rfl, d, us, _, rfl, rfl, ed, hlu, ?_⟩
    -- the deed is written
    have b1 : But [a, d] H (upd H d (.lst (us ++ [.ref ad]))) := (But.refl [a, d] H).write (by simp)
    have hd1 : SqT K (upd H d (.lst (us ++ [.ref ad]))) ad dd.vals := lst_tk ed _ _ hd
    have ea1 : upd H d (.lst (us ++ [.ref ad])) a = some (.lst vs) := by rw [upd_ne ne]; exact ea
    have ed1 : upd H d (.lst (us ++ [.ref ad])) d = some (.lst (us ++ [.ref ad])) := upd_same
    have hp1 : Paired (RowL (upd H d (.lst (us ++ [.ref ad]))) a d) vs rs := Paired.imp (fun _ _ z => z.but b1) hp
    have hpd1 : Paired (DeedA K (upd H d (.lst (us ++ [.ref ad])))) (us ++ [.ref ad]) (ds ++ [dd]) := Paired.app (Paired.imp (fun _ _ z => z.tk (lst_tk ed)) hpd) (.cons ⟨ad, rfl, hd1⟩ .nil)
    generalize upd H d (.lst (us ++ [.ref ad])) = H1 at *
    have rowAt : ∀ i, i < m → ∃ p, vs[i]? = some (.ref p) ∧ p ≠ a ∧ p ≠ d ∧ H1 p = some (.lst ((rs.getD i []).map V.int)) := fun i hi => by
      obtain ⟨v, ev, p, rfl, h⟩ := Paired.get2 hp1 (getD_row (by rw [sh.1]; exact hi))
      exact ⟨p, ev, h⟩
    have fin : ∀ (H2 : Hp) (vs2 : List V), But [a, d] H1 H2 → H2 a = some (.lst vs2) → H2 d = some (.lst (us ++ [.ref ad])) → Paired (RowL H2 a d) vs2 (dd.app rs) → Q .non H2 := fun H2 vs2 b e e2 p =>
      q H2 (b1.trans b) ⟨ne, ⟨vs2, e, p⟩, _, e2, Paired.imp (fun _ _ z => z.tk (b.tk fun c hc => by
        rcases List.mem_cons.mp hc with z | z
        · rw [z]; exact ⟨_, ea1⟩
        · rw [List.mem_singleton.mp z]; exact ⟨_, ed1⟩)) hpd1⟩
    -- a new row is put at i
    have put : ∀ (H2 : Hp) (D : Addr) (i : Nat) (r : List Int), Same H1 H2 → H1 D = none → H2 D = some (.lst (r.map V.int)) → i < m → rs.set i r = dd.app rs → Q .non (upd H2 a (.lst (vs.set i (.ref D)))) := fun H2 D i r s2 hD eD hi er => by
      have b2 : But [a, d] H1 (upd H2 a (.lst (vs.set i (.ref D)))) := ((But.refl [a, d] H1).same s2).write (by simp)
      have nDa : D ≠ a := (ne_of_none ea1 hD).symm
      have nDd : D ≠ d := (ne_of_none ed1 hD).symm
      refine fin _ _ b2 upd_same (by rw [upd_ne (Ne.symm ne)]; exact s2 _ _ ed1) ?_
      rw [← er]
      exact Paired.set ⟨D, rfl, nDa, nDd, by rw [upd_ne nDa]; exact eD⟩ i (Paired.imp (fun _ _ z => z.but b2) hp1)
    have ix1 : atI dd.vals 1 = some (.int ((match dd with | .turn i => i | .swap i _ => i | .add i _ _ => i : Nat) : Int)) := by cases dd <;> rfl
    cases dd with
    | turn i =>
      obtain ⟨p, ep, p1, p2, hp3⟩ := rowAt i ok
      refine ⟨_, rfl, ad, _, 1, _, rfl, rfl, hd1, ix1, _, rfl, ad, _, 0, _, rfl, rfl, hd1, rfl, rfl, _, rfl, iteN (by decide +kernel) ?_⟩
      refine ⟨_, rfl, ad, _, 0, _, rfl, rfl, hd1, rfl, rfl, _, rfl, iteP (by decide +kernel) ?_⟩
      refine ⟨_, rfl, _, rfl, a, vs, (i : Nat), _, rfl, rfl, SqL.of ea1, atI_nat ep, p, rfl, ⟨_, SqL.of hp3⟩, fun D hD => ?_⟩
      have hll : ((rs.getD i []).map V.int).length = n := by rw [List.length_map]; exact sh.row ok
      refine lc_all walk_lst hD (RInt fun k => 0 - vg (rs.getD i []) k) (rInt_keep _) (fun H' s => s.seq (SqL.of hp3)) (by rw [hll]; exact hn) (fun j x H3 H' C hj sm hx' hy k => ?_) (fun H3 ys sm e hp2 => ?_) g_name
      · obtain ⟨rfl, ex⟩ := hy
        obtain ⟨z, ez, rfl⟩ := mapInt_get ex
        have hj' : j < (rs.getD i []).length := by rwa [List.length_map] at hj
        rw [getD_at hj'] at ez
        cases ez
        exact ⟨rfl, _, rfl, _, _, rfl, rfl, k _ _ (Same.refl _) rfl⟩
      · have e2 := ints_of hp2
        rw [List.length_map, range_vg (f := fun x => 0 - x)] at e2
        rw [e2] at e
        refine ⟨_, rfl, _, rfl, a, vs, (i : Nat), i, rfl, rfl, sm _ _ ea1, ixN_n (by rw [hlen]; exact ok), ?_⟩
        exact put H3 D i _ sm hD e ok (by
          show _ = rs.set i (rowNeg (rs.getD i []))
          congr 1
          unfold rowNeg
          exact List.map_congr_left fun x _ => Int.zero_sub x)
    | swap i j =>
      obtain ⟨p, ep, p1, p2, hp3⟩ := rowAt i ok.1
      obtain ⟨r, er, r1, r2, hr3⟩ := rowAt j ok.2.1
      refine ⟨_, rfl, ad, _, 1, _, rfl, rfl, hd1, ix1, _, rfl, ad, _, 0, _, rfl, rfl, hd1, rfl, rfl, _, rfl, iteP (by decide +kernel) ?_⟩
      refine ⟨_, rfl, _, rfl, ad, _, 2, _, rfl, rfl, hd1, rfl, a, vs, (j : Nat), _, rfl, rfl, SqL.of ea1, atI_nat er, _, rfl, _, rfl, a, vs, (i : Nat), _, rfl, rfl, SqL.of ea1, atI_nat ep, by show 2 ≤ sizeLine; decide, fun t nt => ?_⟩
      have st : Same H1 (upd H1 t (.tup [.ref r, .ref p])) := same1 nt
      refine ⟨t, _, rfl, SqT.of upd_same, rfl, _, _, rfl, _, rfl, _, rfl, a, vs, (i : Nat), i, rfl, rfl, st _ _ ea1, ixN_n (by rw [hlen]; exact ok.1), ?_⟩
      have b2 : But [a, d] H1 (upd (upd H1 t (.tup [.ref r, .ref p])) a (.lst (vs.set i (.ref r)))) := ((But.refl [a, d] H1).same st).write (by simp)
      have hd2 : SqT K (upd (upd H1 t (.tup [.ref r, .ref p])) a (.lst (vs.set i (.ref r)))) ad (Deed.swap i j).vals := lst_tk (st _ _ ea1) _ _ (seqT_same st hd1)
      refine ⟨_, _, rfl, _, rfl, _, rfl, ad, _, 2, _, rfl, rfl, hd2, rfl, a, _, (j : Nat), j, rfl, rfl, upd_same, ixN_n (by rw [List.length_set, hlen]; exact ok.2.1), rfl, ?_⟩
      have b3 := b2.write (p := a) (o := .lst ((vs.set i (.ref r)).set j (.ref p))) (by simp)
      refine fin _ _ b3 upd_same (by rw [upd_ne (Ne.symm ne), upd_ne (Ne.symm ne)]; exact st _ _ ed1) ?_
      exact Paired.set ⟨p, rfl, p1, p2, b3 _ _ (by simp [p1, p2]) hp3⟩ j (Paired.set ⟨r, rfl, r1, r2, b3 _ _ (by simp [r1, r2]) hr3⟩ i (Paired.imp (fun _ _ z => z.but b3) hp1))
    | add i j z =>
      obtain ⟨p, ep, p1, p2, hp3⟩ := rowAt i ok.1
      obtain ⟨r, er, r1, r2, hr3⟩ := rowAt j ok.2.1
      refine ⟨_, rfl, ad, _, 1, _, rfl, rfl, hd1, ix1, _, rfl, ad, _, 0, _, rfl, rfl, hd1, rfl, rfl, _, rfl, iteN (by decide +kernel) ?_⟩
      refine ⟨_, rfl, ad, _, 0, _, rfl, rfl, hd1, rfl, rfl, _, rfl, iteN (by decide +kernel) ?_⟩
      refine ⟨_, rfl, _, rfl, a, vs, (i : Nat), _, rfl, rfl, SqL.of ea1, atI_nat ep, _, rfl, _, rfl, ad, _, 2, _, rfl, rfl, hd1, rfl, a, vs, (j : Nat), _, rfl, rfl, SqL.of ea1, atI_nat er, p, r, _, _, rfl, SqL.of hp3, SqL.of hr3, fun D hD => ?_⟩
      have hli : ((rs.getD i []).map V.int).length = n := by rw [List.length_map]; exact sh.row ok.1
      have hlj : ((rs.getD j []).map V.int).length = n := by rw [List.length_map]; exact sh.row ok.2.1
      refine lc_all (walk_zip rfl) hD (RInt fun k => vg (rs.getD i []) k + z * vg (rs.getD j []) k) (rInt_keep _) (fun H' s => ⟨s.seq (SqL.of hp3), s.seq (SqL.of hr3)⟩) (by rw [hli, hlj, Nat.min_self]; exact hn) (fun k x H3 H' C hk sm hx' hy kk => ?_) (fun H3 ys sm e hp2 => ?_) g_pair
      · obtain ⟨Tp, u, v, rfl, nT, rfl, eu, ev⟩ := hy
        rw [hli, hlj, Nat.min_self] at hk
        obtain ⟨z1, ez1, rfl⟩ := mapInt_get eu
        obtain ⟨z2, ez2, rfl⟩ := mapInt_get ev
        have hki : k < (rs.getD i []).length := by rw [sh.row ok.1]; exact hk
        have hkj : k < (rs.getD j []).length := by rw [sh.row ok.2.1]; exact hk
        rw [getD_at hki] at ez1
        rw [getD_at hkj] at ez2
        cases ez1
        cases ez2
        have sT : Same H3 (upd H3 Tp (.tup [.int (vg (rs.getD i []) k), .int (vg (rs.getD j []) k)])) := same1 nT
        exact pair_in ⟨rfl, _, rfl, _, rfl, ad, _, 3, _, rfl, rfl, seqT_same (sm.trans sT) hd1, rfl, _, rfl, _, _, rfl, rfl, mulx_bt hb1 (hb2 _ (mem_getD (by rw [sh.1]; exact ok.2.1)) _ (mem_vg hkj)) hb, _, _, rfl, rfl, kk _ _ sT rfl⟩
      · have e2 := ints_of hp2
        rw [List.length_map, List.length_map, range_vg2 (f := fun x y => x + z * y)] at e2
        rw [e2] at e
        refine ⟨_, rfl, _, rfl, a, vs, (i : Nat), i, rfl, rfl, sm _ _ ea1, ixN_n (by rw [hlen]; exact ok.1), ?_⟩
        exact put H3 D i _ sm hD e ok.1 rfl
end
end SF
end
section
set_option maxHeartbeats 4000000
namespace SF
open PySem PySem.Spec PyProof.Rows L2
theorem Led.row {K : PySem.W.Frag} {H : Hp} {a d : Addr} {rs : List (List Int)} {ds : List Deed} (h : Led K H a d rs ds) {i : Nat} (hi : i < rs.length) : ∃ vs p, H a = some (.lst vs) ∧ vs[i]? = some (.ref p) ∧ H p = some (.lst ((rs.getD i []).map V.int)) := by
  obtain ⟨_, ⟨vs, e, hp⟩, _⟩ := h
  obtain ⟨v, ev, p, rfl, _, _, h3⟩ := Paired.get2 hp (getD_row hi)
  exact ⟨vs, p, e, ev, h3⟩
theorem log2_lt {z : Int} {n : Nat} (h0 : z ≠ 0) (h : z.natAbs < 2 ^ n) : z.natAbs.log2 < n := (Nat.log2_lt (by omega)).mpr h
theorem rd_ij {K : PySem.W.Frag} {H : Hp} {a d : Addr} {rs : List (List Int)} {ds : List Deed} {m n i k : Nat} (h : Led K H a d rs ds) (sh : Shape m n rs) (hi : i < m) (hk : k < n) :
    ∃ vs p, SqL K H a vs ∧ atI vs (i : Int) = some (.ref p) ∧ SqL K H p ((rs.getD i []).map V.int) ∧ atI ((rs.getD i []).map V.int) (k : Int) = some (.int (mg2 rs i k)) := by
  obtain ⟨vs, p, e, ev, h3⟩ := h.row (show i < rs.length by rw [sh.1]; exact hi)
  exact ⟨vs, p, SqL.of e, atI_nat ev, SqL.of h3, at_vg (by rw [sh.row hi]; exact hk)⟩
section
variable {P : Program} {w : World} {K : PySem.W.Frag} {mg : Str → Option Value} {base : Heap} {f : Addr} {fd : FuncData}
/-! ### clear_above: rows 0 deeds 1 top 2 column 3 at 4 many 5; cells - -/
abbrev st_clear_above : Stmt := topS 33
abbrev sl_clear_above : List Str := ["rows", "deeds", "top", "column", "at", "many"]
theorem sc_clear_above : FnScope sl_clear_above ["rows", "deeds", "top", "column"] (defScope st_clear_above) := ⟨rfl, rfl, rfl, by decide +kernel, rfl, by decide +kernel, by decide +kernel⟩
-- calls lead_on; built-ins range; level 2
def sp_clear_above (K : PySem.W.Frag) : Sp := fun vs H Q _ => ∃ (a d : Addr) (rs : List (List Int)) (ds : List Deed) (t col m n e : Nat), vs = [.ref a, .ref d, .int (t : Nat), .int (col : Nat)] ∧ Led K H a d rs ds ∧ Shape m n rs ∧ t < m ∧ col < n ∧ m ≤ 1000 ∧ n < sizeLine ∧ ds.length + 1000 < sizeLine ∧
  mg2 rs t col ≠ 0 ∧ Le (2 ^ e) (mg2 rs) ∧ Bt 9000 (mg2 rs t col) ∧ e ≤ 1000000 ∧
  ∀ H' es2, But [a, d] H H' → PassI t col (2 ^ e + 1) (Dfs (tuD t col (mg2 rs)) (mg2 rs)) (List.range t) es2 → Led K H' a d (acts (tuD t col (mg2 rs) ++ es2) rs) (ds ++ (tuD t col (mg2 rs) ++ es2)) → Q .non H'
theorem ok_clear_above (M : Blt mg) (F : Fun K "clear_above" "clear_above" st_clear_above f fd) (hm : mg "clear_above" = some (.ref f)) (C_lead_on : Cal P w K mg base 1 "lead_on" ["rows", "deeds", "deed"] (sp_lead_on K)) : Cal P w K mg base 2 "clear_above" ["rows", "deeds", "top", "column"] (sp_clear_above K) := by
  refine ⟨f, fd, F.ok sc_clear_above (fun vs H Q E h => ?_) (fun cdv A outer s H vs Q E hr h => ?_), hm, F.kp, F.binds fun _ _ _ _ _ _ us hl => match us, hl with | [_, _, _, _], _ => rfl⟩
  · obtain ⟨_, _, _, _, _, _, _, _, _, rfl, _⟩ := h
    rfl
  · obtain ⟨a, d, rs, ds, t, col, m, n, e, rfl, L, sh, ht, hcol, hm3, hn, hds, hp, hle, h9, he, q⟩ := h
    refine ⟨_, (pss_cons (ps_if (pt_cmpR op_lt (pe_ix (r := rIxL K) ix_list (pe_ix (r := rIxL K) ix_list (pv 0) (pv 2) (fun _ _ => rfl)) (pv 3) (fun _ _ => rfl)) pe_int (nomark _))
        (pss_one (ps_expr (pe_cal C_lead_on (hr.mono (by decide)) (by rfl) (pa_cons (pv 0) (pa_cons (pv 1) (pa_cons (pe_tup (pa_cons pe_str (pa_cons (pv 2) pa_nil))) pa_nil))))))
        pss_nil)
      (pss_one (ps_for PassesOwn.never rfl (pi_range1 (by rfl) M.range (pa_cons (pv 2) pa_nil)) (pg_name (i := 4) sc_clear_above.nd rfl (.inl rfl))
        (pss_cons (ps_set (i := 5) sc_clear_above.nd rfl (Or.inl rfl) (pe_op op_fdivZ (pe_ix (r := rIxL K) ix_list (pe_ix (r := rIxL K) ix_list (pv 0) (pv 4) (fun _ _ => rfl)) (pv 3) (fun _ _ => rfl)) (pe_ix (r := rIxL K) ix_list (pe_ix (r := rIxL K) ix_list (pv 0) (pv 2) (fun _ _ => rfl)) (pv 3) (fun _ _ => rfl))))
        (pss_one (ps_if (pt_cmpR op_ne (pv 5) pe_int (nomark _))
          (pss_one (ps_expr (pe_cal C_lead_on (hr.mono (by decide)) (by rfl) (pa_cons (pv 0) (pa_cons (pv 1) (pa_cons (pe_tup (pa_cons pe_str (pa_cons (pv 4) (pa_cons (pv 2) (pa_cons (pe_op op_sub pe_int (pv 5)) pa_nil))))) pa_nil))))))
          pss_nil)))))), ?_⟩
    have F1le : Le (2 ^ e) (Dfs (tuD t col (mg2 rs)) (mg2 rs)) := Le_tuD hle
    have F1t : (Dfs (tuD t col (mg2 rs)) (mg2 rs) t col) ≠ 0 := by rw [tuD_col]; omega
    have F1s : Bt 9000 (Dfs (tuD t col (mg2 rs)) (mg2 rs) t col) := by rw [tuD_col]; unfold Bt at *; rw [Int.natAbs_natCast]; exact h9
    have btR : ∀ (M : List (List Int)), Le (2 ^ e * (1 + (2 ^ e + 1))) (mg2 M) → ∀ l ∈ M, ∀ z ∈ l, Bt (2 * e + 2) z := fun M h => bt_of_Le h (pow_sq2 e)
    have loop : ∀ (H1 : Hp), But [a, d] H H1 → Led K H1 a d (acts (tuD t col (mg2 rs)) rs) (ds ++ tuD t col (mg2 rs)) → tFor (iRng1 (tCons (tVar 2) tNil)) (gName 4)
        (tSeq (tAsg (tOp (rI CDivZ fun i j => V.int (i.fdiv j)) (tOp (rIxL K) (tOp (rIxL K) (tVar 0) (tVar 4)) (tVar 3)) (tOp (rIxL K) (tOp (rIxL K) (tVar 0) (tVar 2)) (tVar 3))) (gName 5))
          (tIfS (tTest (tOp rNe (tVar 5) (tC (.int 0)))) (tDrop (tCall (sp_lead_on K) [] E0 (tCons (tVar 0) (tCons (tVar 1) (tCons (tTup (tCons (tC (.str "add")) (tCons (tVar 4) (tCons (tVar 2) (tCons (tOp (rI0 fun i j => V.int (i - j)) (tC (.int 0)) (tVar 5)) tNil))))) tNil))))) tNext))
        { nx := fun _ H' => Q .non H', rt := Q } [some (.ref a), some (.ref d), some (.int (t : Nat)), some (.int (col : Nat)), none, none] H1 := by
      intro H1 b1 L1
      refine ⟨_, rfl, (t : Nat), rfl, by omega, by omega, ?_⟩
      refine for_it walk_rg (fun i σ H2 => ∃ x4 x5 es2, σ = [some (.ref a), some (.ref d), some (.int (t : Nat)), some (.int (col : Nat)), x4, x5] ∧ But [a, d] H H2 ∧ PassI t col (2 ^ e + 1) (Dfs (tuD t col (mg2 rs)) (mg2 rs)) (List.range i) es2 ∧
          Led K H2 a d (acts (tuD t col (mg2 rs) ++ es2) rs) (ds ++ (tuD t col (mg2 rs) ++ es2)))
        ⟨none, none, [], rfl, b1, PassI.nil _ _ _ _, by rw [List.append_nil]; exact L1⟩ (fun _ _ _ _ _ => True.intro) ?_ ?_
      · rintro i x σ H2 H2' hi ⟨x4, x5, es2, rfl, b2, pI, L2⟩ ⟨rfl, rfl⟩
        have okA : ∀ dd ∈ tuD t col (mg2 rs) ++ es2, dd.ok m := fun dd hd => by
          rcases List.mem_append.mp hd with hd | hd
          · exact tuD_ok ht dd hd
          · obtain ⟨j, z, rfl, hj⟩ := pI.am dd hd
            have := List.mem_range.mp hj
            exact ⟨by omega, ht, by omega⟩
        have sh2 := acts_shape sh okA
        have eM : mg2 (acts (tuD t col (mg2 rs) ++ es2) rs) = passF t col (List.range i) (Dfs (tuD t col (mg2 rs)) (mg2 rs)) := by rw [mg2_acts sh okA, Dfs_append, pI.eq]
        have ei : mg2 (acts (tuD t col (mg2 rs) ++ es2) rs) i col = Dfs (tuD t col (mg2 rs)) (mg2 rs) i col := by rw [eM, passF_out _ (by simp)]
        have et : mg2 (acts (tuD t col (mg2 rs) ++ es2) rs) t col = Dfs (tuD t col (mg2 rs)) (mg2 rs) t col := by rw [eM, passF_out _ (by simp; omega)]
        obtain ⟨vs, p, k1, k2, k3, k4⟩ := rd_ij L2 sh2 (show i < m by omega) hcol
        obtain ⟨vs', p', k1', k2', k3', k4'⟩ := rd_ij L2 sh2 ht hcol
        rw [ei] at k4
        rw [et] at k4'
        have hq : ∀ j, j < t → ((Dfs (tuD t col (mg2 rs)) (mg2 rs) j col).fdiv (Dfs (tuD t col (mg2 rs)) (mg2 rs) t col)).natAbs ≤ 2 ^ e + 1 := fun j _ => fdiv_le2 (F1le j col) F1t
        have pI' := pI.step (i := i) (by simp; omega) (by simp) (by omega) (hq i hi)
        rw [range_succ'] at pI'
        refine ⟨_, rfl, _, rfl, a, vs, _, _, rfl, rfl, k1, k2, _, rfl, p, _, _, _, rfl, rfl, k3, k4, _, rfl, _, rfl, a, vs', _, _, rfl, rfl, k1', k2', _, rfl, p', _, _, _, rfl, rfl, k3', k4', _, _, rfl, rfl, ⟨F1t, log2_lt F1t F1s⟩, ?_⟩
        refine ⟨_, rfl, rfl, _, rfl, ite2 (fun h1 => ?_) fun h1 => ?_⟩
        · have hz : (Dfs (tuD t col (mg2 rs)) (mg2 rs) i col).fdiv (Dfs (tuD t col (mg2 rs)) (mg2 rs) t col) ≠ 0 := by
            have := (ne0 _).symm.trans h1
            simpa using this
          have eS : stepD i t ((Dfs (tuD t col (mg2 rs)) (mg2 rs) i col).fdiv (Dfs (tuD t col (mg2 rs)) (mg2 rs) t col)) = [.add i t (0 - (Dfs (tuD t col (mg2 rs)) (mg2 rs) i col).fdiv (Dfs (tuD t col (mg2 rs)) (mg2 rs) t col))] := if_neg hz
          refine ⟨_, rfl, _, rfl, _, rfl, _, rfl, _, rfl, 0, _, rfl, rfl, by show 4 ≤ sizeLine; decide, fun tp ntp => ?_⟩
          have stp : Same H2' (upd H2' tp (.tup [.str "add", .int (i : Nat), .int (t : Nat), .int (0 - (Dfs (tuD t col (mg2 rs)) (mg2 rs) i col).fdiv (Dfs (tuD t col (mg2 rs)) (mg2 rs) t col))])) := same1 ntp
          refine ⟨a, d, .ref tp, _, _, .add i t (0 - (Dfs (tuD t col (mg2 rs)) (mg2 rs) i col).fdiv (Dfs (tuD t col (mg2 rs)) (mg2 rs) t col)), m, n, e + 2, 2 * e + 2, rfl, L2.same stp, ⟨tp, rfl, SqT.of upd_same⟩, sh2, ⟨by omega, ht, by omega⟩, hn, ?_, ?_, btR _ ?_, by omega, fun H3 b3 L3 => ?_⟩
          · rw [List.length_append, List.length_append]
            have l1 := tuD_len t col (mg2 rs)
            have l2 := pI.len
            rw [List.length_range] at l2
            omega
          · show Bt (e + 2) (0 - _)
            refine bt_of_le2 ?_
            rw [Int.zero_sub, Int.natAbs_neg]
            exact hq i hi
          · rw [eM]
            exact Le_pass F1le fun j hj => hq j (by have := List.mem_range.mp hj; omega)
          · refine ⟨_, _, es2 ++ stepD i t _, rfl, b2.trans ((But.of stp).trans b3), pI', ?_⟩
            rw [eS]
            have e1 : acts (tuD t col (mg2 rs) ++ (es2 ++ [.add i t (0 - (Dfs (tuD t col (mg2 rs)) (mg2 rs) i col).fdiv (Dfs (tuD t col (mg2 rs)) (mg2 rs) t col))])) rs = (Deed.add i t (0 - (Dfs (tuD t col (mg2 rs)) (mg2 rs) i col).fdiv (Dfs (tuD t col (mg2 rs)) (mg2 rs) t col))).app (acts (tuD t col (mg2 rs) ++ es2) rs) := by
              rw [← List.append_assoc, acts_append]; rfl
            rw [e1, ← List.append_assoc (tuD t col (mg2 rs)), ← List.append_assoc ds]
            exact L3
        · have hz : (Dfs (tuD t col (mg2 rs)) (mg2 rs) i col).fdiv (Dfs (tuD t col (mg2 rs)) (mg2 rs) t col) = 0 := by
            have := Bool.eq_false_iff.mpr fun z => h1 ((ne0 _).trans z)
            simpa using this
          have eS : stepD i t ((Dfs (tuD t col (mg2 rs)) (mg2 rs) i col).fdiv (Dfs (tuD t col (mg2 rs)) (mg2 rs) t col)) = [] := if_pos hz
          rw [eS, List.append_nil] at pI'
          exact ⟨_, _, es2, rfl, b2, pI', L2⟩
      · rintro σ H2 ⟨x4, x5, es2, rfl, b2, pI, L2⟩
        exact q H2 es2 b2 pI L2
    obtain ⟨vs, p, k1, k2, k3, k4⟩ := rd_ij L sh ht hcol
    refine ⟨_, rfl, _, rfl, a, vs, _, _, rfl, rfl, k1, k2, _, rfl, p, _, _, _, rfl, rfl, k3, k4, _, _, rfl, rfl, _, rfl, ite2 (fun h1 => ?_) fun h1 => ?_⟩
    · have hneg : mg2 rs t col < 0 := of_decide_eq_true h1
      have eD : tuD t col (mg2 rs) = [.turn t] := if_pos hneg
      refine ⟨_, rfl, _, rfl, _, rfl, by show 2 ≤ sizeLine; decide, fun tp ntp => ?_⟩
      have stp : Same H (upd H tp (.tup [.str "turn", .int (t : Nat)])) := same1 ntp
      refine ⟨a, d, .ref tp, rs, ds, .turn t, m, n, 0, 2 * e + 2, rfl, L.same stp, ⟨tp, rfl, SqT.of upd_same⟩, sh, ht, hn, by omega, True.intro, btR _ (hle.mono (Nat.le_mul_of_pos_right _ (Nat.lt_of_lt_of_le (by decide) (Nat.le_add_right 1 _)))), by omega, fun H3 b3 L3 => ?_⟩
      exact loop H3 ((But.of stp).trans b3) (by rw [eD]; exact L3)
    · have hneg : ¬ mg2 rs t col < 0 := fun z => h1 (decide_eq_true z)
      have eD : tuD t col (mg2 rs) = [] := if_neg hneg
      exact loop H (But.refl _ _) (by rw [eD, List.append_nil]; exact L)
end
end SF
end
section
set_option maxHeartbeats 4000000
namespace SF
open PySem PySem.Spec PyProof.Rows L2
open LamX (Tabs TabS ExtN TabB CodeO)
/-- all but what stands at S and the tables is as it was -/
def ButN (S : List Addr) (H H' : Hp) : Prop := ∀ b o, b ∉ S → H b = some o → (∀ ps, o ≠ .tbl ps) → H' b = some o
theorem ButN.refl (S : List Addr) (H : Hp) : ButN S H H := fun _ _ _ h _ => h
theorem ButN.trans {S : List Addr} {H H1 H2 : Hp} (a : ButN S H H1) (b : ButN S H1 H2) : ButN S H H2 := fun c o n h t => b c o n (a c o n h t) t
theorem ButN.of {S : List Addr} {H H' : Hp} (h : But S H H') : ButN S H H' := fun b o n e _ => h b o n e
theorem ButN.ofS {S : List Addr} {H H' : Hp} (h : Same H H') : ButN S H H' := ButN.of (But.of h)
theorem ButN.ofE {S : List Addr} {H H' : Hp} (h : ExtN H H') : ButN S H H' := fun b o _ e t => h b o e t
theorem ExtN.tk {K : PySem.W.Frag} {H H' : Hp} (e : ExtN H H') : TK K H H' := fun a xs h => by
  rcases h with (h | ⟨o, h⟩) | h
  · exact .inl (.inl (e _ _ h fun ps z => by cases z))
  · exact .inl (.inr ⟨o, e _ _ h fun ps z => by cases z⟩)
  · exact .inr h
theorem ButN.tk {K : PySem.W.Frag} {S : List Addr} {H H' : Hp} (e : ButN S H H') (hS : ∀ a ∈ S, ∃ xs, H a = some (.lst xs)) : TK K H H' := fun a xs h => by
  rcases h with (h | ⟨o, h⟩) | h
  · exact .inl (.inl (e _ _ (fun z => by obtain ⟨ys, q⟩ := hS a z; rw [q] at h; cases h) h fun ps z => by cases z))
  · exact .inl (.inr ⟨o, e _ _ (fun z => by obtain ⟨ys, q⟩ := hS a z; rw [q] at h; cases h) h fun ps z => by cases z⟩)
  · exact .inr h
theorem tabs_but {T : List (Addr × Str)} {S : List Addr} {H H' : Hp} (t : Tabs T H) (b : But S H H') (hS : ∀ a ∈ S, ∃ xs, H a = some (.lst xs)) : Tabs T H' := fun p hp => by
  obtain ⟨ps, h1, h2, h3⟩ := t p hp
  refine ⟨ps, b _ _ (fun z => by obtain ⟨ys, q⟩ := hS _ z; rw [q] at h1; cases h1) h1, h2, fun pos cv hc => ?_⟩
  obtain ⟨c, e1, e2⟩ := h3 pos cv hc
  exact ⟨c, e1, b _ _ (fun z => by obtain ⟨ys, q⟩ := hS _ z; rw [q] at e2; unfold CodeO at e2; cases e2) e2⟩
theorem tabs_same {T : List (Addr × Str)} {H H' : Hp} (t : Tabs T H) (b : Same H H') : Tabs T H' := t.ext b
theorem Led.ext {K : PySem.W.Frag} {H H' : Hp} {a d : Addr} {rs : List (List Int)} {ds : List Deed} (s : ExtN H H') (h : Led K H a d rs ds) : Led K H' a d rs ds := by
  obtain ⟨ne, ⟨vs, e, p⟩, us, e2, p2⟩ := h
  refine ⟨ne, ⟨vs, s _ _ e fun ps z => (by cases z), Paired.imp (fun _ _ z => ?_) p⟩, us, s _ _ e2 fun ps z => (by cases z), Paired.imp (fun _ _ z => z.tk (ExtN.tk s)) p2⟩
  obtain ⟨p, e1, n1, n2, e3⟩ := z
  exact ⟨p, e1, n1, n2, s _ _ e3 fun ps z => (by cases z)⟩
/-- a statement and what follows it, joined where the slots are σ' and the heap keeps I -/
theorem gseq_join {i : Nat} {v : V} {t u : TS} {D : Ends} {σ : L2.St} {H : Hp} (I : Hp → Prop) (after : ∀ H', I H' → u D (σ.set i (some v)) H') (h : ∀ nx : L2.St → Hp → Prop, (∀ H', I H' → nx (σ.set i (some v)) H') → t { D with nx := nx } (σ.set i (some v)) H) : gName i v σ H (tSeq t u D) := h (u D) after
def someN (F : Mat) (col lo n : Nat) : List Nat := ((List.range n).filter fun i => F (lo + i) col != 0).map fun i => lo + i
theorem mem_someN {F : Mat} {col lo n j : Nat} : j ∈ someN F col lo n ↔ lo ≤ j ∧ j < lo + n ∧ F j col ≠ 0 := by
  unfold someN
  rw [List.mem_map]
  constructor
  · rintro ⟨i, hi, rfl⟩
    rw [List.mem_filter] at hi
    have := List.mem_range.mp hi.1
    exact ⟨by omega, by omega, by simpa using hi.2⟩
  · rintro ⟨h1, h2, h3⟩
    refine ⟨j - lo, List.mem_filter.mpr ⟨List.mem_range.mpr (by omega), ?_⟩, by omega⟩
    rw [show lo + (j - lo) = j by omega]
    simpa using h3
def iN (l : List Nat) : List Int := l.map fun (j : Nat) => (j : Int)
theorem iN_nil {l : List Nat} : (dI (iN l)).isEmpty = l.isEmpty := by cases l <;> rfl
theorem some_lc {K : PySem.W.Frag} {H : Hp} {a d : Addr} {rs : List (List Int)} {ds : List Deed} {m n col lo n0 t : Nat} {x4 x5 x6 x7 : Option V} (L : Led K H a d rs ds) (sh : Shape m n rs) (hcol : col < n) (hlo : lo + n0 ≤ m) (hm : m ≤ 1000) {D : Addr} (hD : H D = none) {Qd : Hp → Prop}
    (hq : ∀ H', Same H H' → H' D = some (.lst ((iN (someN (mg2 rs) col lo n0)).map V.int)) → Qd H') :
    ∃ W : Nat → Nat → Hp → Prop, (∃ m, W 0 m (upd H D (.lst []))) ∧ ∀ i m H, W i m H →
      ((Itr ((lo : Nat) : Int) n0).stop i H ∧ Qd H) ∨ ((Itr ((lo : Nat) : Int) n0).go i H ∧ ∃ Nx : Hp → Prop, (∀ H', Nx H' → ∃ m', m' < m ∧ W (i + 1) m' H') ∧ ∀ x H', (Itr ((lo : Nat) : Int) n0).yld i H x H' → gName 6 x (wipe [some (.ref a), some (.ref d), some (.int (t : Nat)), some (.int (col : Nat)), x4, x5, x6, x7] [6]) H' fun σ2 H2 =>
        wipe σ2 [6] = wipe [some (.ref a), some (.ref d), some (.int (t : Nat)), some (.int (col : Nat)), x4, x5, x6, x7] [6] ∧ (tTest (tOp rNe (tOp (rIxL K) (tOp (rIxL K) (tVar 0) (tVar 6)) (tVar 3)) (tC (.int 0)))) σ2 H2 fun b H3 =>
        if b = true then tVar 6 σ2 H3 fun y H4 => ∃ acc, H4 D = some (.lst acc) ∧ acc.length < sizeLine ∧ Nx (upd H4 D (.lst (acc ++ [y]))) else Nx H3) := by
  refine lc_flt walk_rg2 hD (fun i v _ => v = .int ((lo + i : Nat) : Int)) (fun i => mg2 rs (lo + i) col != 0) (fun _ _ _ _ _ _ h => h) (fun _ _ => True.intro) (small1000 (by omega)) (fun i x H1 H' C N hi sm hx hy k kn => ?_) (fun H1 ys sm e hp2 => ?_)
  · obtain ⟨rfl, rfl⟩ := hy
    obtain ⟨vs, p, k1, k2, k3, k4⟩ := rd_ij (L.same sm) sh (show lo + i < m by omega) hcol
    refine ⟨rfl, _, rfl, _, rfl, a, vs, _, _, rfl, rfl, k1, k2, _, rfl, p, _, _, _, rfl, rfl, k3, k4, rfl, _, rfl, ite2 (fun h1 => ⟨_, rfl, k _ _ (Same.refl _) rfl ?_⟩) fun h1 => kn _ (Same.refl _) ?_⟩
    · exact (ne0 _).symm.trans h1
    · exact Bool.eq_false_iff.mpr fun z => h1 ((ne0 _).trans z)
  · refine hq H1 sm ?_
    rw [e]
    congr 2
    have key : ∀ {ys : List V} {l : List Nat}, Paired (fun y i => y = V.int ((lo + i : Nat) : Int)) ys l → ys = (iN (l.map fun i => lo + i)).map V.int := by
      intro ys l p
      induction p with
      | nil => rfl
      | cons r _ ih => rw [r, ih]; rfl
    exact key hp2
end SF
end
section
set_option maxHeartbeats 4000000
namespace SF
open PySem PySem.Spec PyProof.Rows L2
open LamX (Tabs TabS ExtN TabB CodeO)
theorem iN_mem {l : List Nat} {z : Int} (h : z ∈ iN l) : ∃ j : Nat, z = (j : Int) ∧ j ∈ l := by
  unfold iN at h
  obtain ⟨j, hj, rfl⟩ := List.mem_map.mp h
  exact ⟨j, rfl, hj⟩
theorem blw_mem {t i j : Nat} : j ∈ (List.range i).map (fun k => t + 1 + k) ↔ t < j ∧ j < t + 1 + i := by
  rw [List.mem_map]
  constructor
  · rintro ⟨k, hk, rfl⟩
    have := List.mem_range.mp hk
    omega
  · rintro ⟨h1, h2⟩
    exact ⟨j - (t + 1), List.mem_range.mpr (by omega), by omega⟩
theorem blw_succ (t i : Nat) : (List.range i).map (fun k => t + 1 + k) ++ [t + 1 + i] = (List.range (i + 1)).map (fun k => t + 1 + k) := by
  rw [List.range_succ, List.map_append]; rfl
def tlBelow (qn : Str) : Str := (qn ++ (".<locals>." : Str)) ++ ("<lambda>" : Str)
section
variable {P : Program} {w : World} {K : PySem.W.Frag} {mg : Str → Option Value} {base : Heap} {f : Addr} {fd : FuncData}
/-! ### clear_below: rows 0 deeds 1 top 2 column 3 some 4 least 5 at 6 many 7; cells rows column -/
abbrev st_clear_below : Stmt := topS 32
abbrev sl_clear_below : List Str := ["rows", "deeds", "top", "column", "some", "least", "at", "many"]
theorem sc_clear_below : FnScope sl_clear_below ["rows", "deeds", "top", "column"] (defScope st_clear_below) := ⟨rfl, rfl, rfl, by decide +kernel, rfl, by decide +kernel, by decide +kernel⟩
-- calls lead_on; built-ins len range; level 3
def sp_clear_below (TT : List (Addr × Str)) (K : PySem.W.Frag) : Sp := fun vs H Q _ => ∃ (a d : Addr) (rs : List (List Int)) (ds : List Deed) (t col m n c : Nat), vs = [.ref a, .ref d, .int (t : Nat), .int (col : Nat)] ∧ Led K H a d rs ds ∧ Shape m n rs ∧ t ≤ m ∧ col < n ∧ m ≤ 3 ∧ n < sizeLine ∧ ds.length + 1000000 < sizeLine ∧
  Le (2 ^ c) (mg2 rs) ∧ (t < m → c ≤ 8999) ∧ Tabs TT H ∧
  (∀ H', ButN [a, d] H H' → Tabs TT H' → Led K H' a d rs ds → (∀ j, t ≤ j → j < m → mg2 rs j col = 0) → Q (.bl false) H') ∧
  (∀ H' es, ButN [a, d] H H' → Tabs TT H' → t < m → BelR c t col m (mg2 rs) es → Led K H' a d (acts es rs) (ds ++ es) → Q (.bl true) H')
theorem ok_clear_below (M : Blt mg) {cc PP : Addr} {TT : List (Addr × Str)} (F : FunC K "clear_below" "clear_below" st_clear_below f fd cc) (hm : mg "clear_below" = some (.ref f)) (TB : TabB base mg cc PP) (hmT : (PP, tlBelow "clear_below") ∈ TT) (hu : ∀ p ∈ TT, p.1 = PP → p.2 = tlBelow "clear_below") (C_lead_on : Cal P w K mg base 1 "lead_on" ["rows", "deeds", "deed"] (sp_lead_on K)) : Cal P w K mg base 3 "clear_below" ["rows", "deeds", "top", "column"] (sp_clear_below TT K) := by
  refine ⟨f, fd, F.ok sc_clear_below (fun vs H Q E h => ?_) (fun A outer s H vs Q E hr h => ?_), hm, F.kp, F.fun.binds fun _ _ _ _ _ _ us hl => match us, hl with | [_, _, _, _], _ => rfl⟩
  · obtain ⟨_, _, _, _, _, _, _, _, _, rfl, _⟩ := h
    rfl
  · obtain ⟨a, d, rs, ds, t, col, m, n, c, rfl, L, sh, htm, hcol, hm3, hn, hds, hle, hc, hT, q0, q1⟩ := h
    refine ⟨_, (pss_cons (ps_setLc (i := 4) (own := [("at", 6)]) rfl sc_clear_below.nd rfl rfl (sw_true rfl rfl rfl (by decide +kernel)) (pi_range2 (by rfl) M.range (pa_cons (pv 2) (pa_cons (pe_callB (id := "len") (r := rLenS K) call_lenS (by rfl) M.len (by decide +kernel) (pa_cons (pv 0) pa_nil)) pa_nil))) (blkOk_by (N := sl_clear_below) (sc := defScope st_clear_below) (by decide +kernel)) (fun _ _ _ _ _ => (pg_name (i := 6) sc_clear_below.nd rfl (.inl rfl) (.inr rfl))) (fun _ _ _ _ _ => (pts_one (pt_cmpR op_ne (pe_ix (r := rIxL K) ix_list (pe_ix (r := rIxL K) ix_list (pv 0) (pv 6) (fun _ _ => rfl)) (pv 3) (fun _ _ => rfl)) pe_int (nomark _)))) (fun _ _ _ _ _ => (pv 6)))
      (pss_cons (ps_if (pt_cmpR (r := rEqD K) (op_eqD hr.units) (pv 4) (pe_lst pa_nil) (nomark _))
        (pss_one (ps_ret pe_bl))
        pss_nil)
      (pss_cons (ps_while PassesOwn.never (pt_cmpR (r := rNeD K) (op_neD hr.units) (pv 4) (pe_lst pa_nil) (nomark _))
        (pss_cons (ps_set (i := 5) sc_clear_below.nd rfl (Or.inl rfl) (pe_minK (i := 6) (c := cc) (P := PP) (T := TT) (by rfl) M.min (pv 4) TB rfl hmT hu (hr.mono (by decide : 0 + 2 ≤ 2)) rfl (lamS1_by (sc := defScope st_clear_below) (by decide +kernel)) sc_clear_below.nd rfl (by rfl) (fun _ _ _ _ _ _ => rfl) (fun _ _ _ _ _ _ _ => (pe_callB (id := "abs") call_abs (by rfl) M.abs (by decide +kernel) (pa_cons (pe_ix (r := rIxL K) ix_list (pe_ix (r := rIxL K) ix_list (pv 0) (pv 6) (fun _ _ => rfl)) (pv 3) (fun _ _ => rfl)) pa_nil)))))
        (pss_cons (ps_if (pt_cmpR op_ne (pv 5) (pv 2) (nomark _))
          (pss_one (ps_expr (pe_cal C_lead_on (hr.mono (by decide)) (by rfl) (pa_cons (pv 0) (pa_cons (pv 1) (pa_cons (pe_tup (pa_cons pe_str (pa_cons (pv 2) (pa_cons (pv 5) pa_nil)))) pa_nil))))))
          pss_nil)
        (pss_cons (ps_for PassesOwn.never rfl (pi_range2 (by rfl) M.range (pa_cons (pe_op op_add (pv 2) pe_int) (pa_cons (pe_callB (id := "len") (r := rLenS K) call_lenS (by rfl) M.len (by decide +kernel) (pa_cons (pv 0) pa_nil)) pa_nil))) (pg_name (i := 6) sc_clear_below.nd rfl (.inl rfl))
          (pss_cons (ps_set (i := 7) sc_clear_below.nd rfl (Or.inl rfl) (pe_op op_fdivZ (pe_ix (r := rIxL K) ix_list (pe_ix (r := rIxL K) ix_list (pv 0) (pv 6) (fun _ _ => rfl)) (pv 3) (fun _ _ => rfl)) (pe_ix (r := rIxL K) ix_list (pe_ix (r := rIxL K) ix_list (pv 0) (pv 2) (fun _ _ => rfl)) (pv 3) (fun _ _ => rfl))))
          (pss_one (ps_if (pt_cmpR op_ne (pv 7) pe_int (nomark _))
            (pss_one (ps_expr (pe_cal C_lead_on (hr.mono (by decide)) (by rfl) (pa_cons (pv 0) (pa_cons (pv 1) (pa_cons (pe_tup (pa_cons pe_str (pa_cons (pv 6) (pa_cons (pv 2) (pa_cons (pe_op op_sub pe_int (pv 7)) pa_nil))))) pa_nil))))))
            pss_nil))))
        (pss_one (ps_setLc (i := 4) (own := [("at", 6)]) rfl sc_clear_below.nd rfl rfl (sw_true rfl rfl rfl (by decide +kernel)) (pi_range2 (by rfl) M.range (pa_cons (pe_op op_add (pv 2) pe_int) (pa_cons (pe_callB (id := "len") (r := rLenS K) call_lenS (by rfl) M.len (by decide +kernel) (pa_cons (pv 0) pa_nil)) pa_nil))) (blkOk_by (N := sl_clear_below) (sc := defScope st_clear_below) (by decide +kernel)) (fun _ _ _ _ _ => (pg_name (i := 6) sc_clear_below.nd rfl (.inl rfl) (.inr rfl))) (fun _ _ _ _ _ => (pts_one (pt_cmpR op_ne (pe_ix (r := rIxL K) ix_list (pe_ix (r := rIxL K) ix_list (pv 0) (pv 6) (fun _ _ => rfl)) (pv 3) (fun _ _ => rfl)) pe_int (nomark _)))) (fun _ _ _ _ _ => (pv 6))))))))
      (pss_one (ps_ret pe_bl))))), ?_⟩
    have hLl := L.lists
    obtain ⟨vs, ea, hpv⟩ := L.rows
    have hlen : vs.length = m := (Paired.length hpv).trans sh.1
    -- some = [..]
    refine ⟨_, rfl, _, rfl, a, vs, rfl, .inl (SqL.of ea), (t : Nat), (vs.length : Nat), rfl, ⟨by omega, by omega, by omega, by omega⟩, fun D hD => ?_⟩
    have n0 : (((vs.length : Nat) : Int) - ((t : Nat) : Int)).toNat = m - t := by omega
    refine some_lc (t := t) (x4 := none) (x5 := none) (x6 := none) (x7 := none) L sh hcol (by rw [n0]; omega) (by omega) hD fun H1 s1 e1 => ?_
    rw [n0] at e1
    -- if some == []
    refine ⟨_, rfl, Nat.zero_le _, fun p np => ⟨_, _, dp_lst (same1 np _ _ e1), dp_nil upd_same, sh_l _, sh_nil, _, rfl, ?_⟩⟩
    rw [eqv_nil, iN_nil]
    have s2 : Same H (upd H1 p (.lst [])) := s1.push np
    refine ite2 (fun h1 => ?_) fun h1 => ?_
    · refine q0 _ (ButN.ofS s2) (tabs_same hT s2) (L.same s2) fun j j1 j2 => ?_
      by_cases z : mg2 rs j col = 0
      · exact z
      · have := mem_someN.mpr ⟨j1, show j < t + (m - t) by omega, z⟩
        rw [List.isEmpty_iff] at h1
        rw [h1] at this
        simp at this
    have e1 : upd H1 p (.lst []) D = some (.lst ((iN (someN (mg2 rs) col t (m - t))).map V.int)) := same1 np _ _ e1
    -- the while
    refine ⟨fun mu σ H2 => ∃ (fst : Bool) (es : List Deed) (s : Addr) (x5 x6 x7 : Option V) (Hb : Hp), σ = [some (.ref a), some (.ref d), some (.int (t : Nat)), some (.int (col : Nat)), some (.ref s), x5, x6, x7] ∧ ButN [a, d] H Hb ∧ Tabs TT Hb ∧ BelI c t col m (mg2 rs) fst es mu ∧
        Led K Hb a d (acts es rs) (ds ++ es) ∧ Hb s = none ∧ Same Hb H2 ∧ (fst = true → ∃ j, j ∈ someN (Dfs es (mg2 rs)) col (if fst then t else t + 1) (m - (if fst then t else t + 1))) ∧
        H2 s = some (.lst ((iN (someN (Dfs es (mg2 rs)) col (if fst then t else t + 1) (m - (if fst then t else t + 1)))).map V.int)),
      ⟨_, true, [], D, none, none, none, H, rfl, ButN.refl _ _, hT, BelI.start hle, by rw [List.append_nil]; exact L, hD, s2, fun _ => ?_, e1⟩, ?_⟩
    · have : someN (mg2 rs) col t (m - t) ≠ [] := fun z => h1 (by rw [z]; rfl)
      obtain ⟨j, hj⟩ := List.exists_mem_of_ne_nil _ this
      exact ⟨j, hj⟩
    rintro mu σ H2 ⟨fst, es, s, x5, x6, x7, Hb, rfl, bb, Tb, B, Lb, nsb, sb2, hfst, es2⟩
    have lofst : (if fst = true then t else t + 1) = t ∨ (if fst = true then t else t + 1) = t + 1 := by cases fst <;> simp
    have sh2 : Shape m n (acts es rs) := acts_shape sh B.ok
    have eM : mg2 (acts es rs) = Dfs es (mg2 rs) := mg2_acts sh B.ok
    refine ⟨_, rfl, Nat.zero_le _, fun p2 np2 => ⟨_, _, dp_lst (same1 np2 _ _ es2), dp_nil upd_same, sh_l _, sh_nil, _, rfl, ?_⟩⟩
    rw [eqv_nil, iN_nil]
    have s3 : Same Hb (upd H2 p2 (.lst [])) := sb2.push np2
    have es3 := (same1 (o := .lst []) np2) _ _ es2
    generalize upd H2 p2 (.lst []) = H3 at s3 es3
    refine ite2 (fun h2 => ?_) fun h2 => ?_
    · -- the body
      have hne : someN (Dfs es (mg2 rs)) col (if fst = true then t else t + 1) (m - (if fst = true then t else t + 1)) ≠ [] := fun z => by rw [z] at h2; cases h2
      refine ⟨fun σ' H' => ∃ mu', mu' < mu ∧ ∃ (fst : Bool) (es : List Deed) (s : Addr) (x5 x6 x7 : Option V) (Hb : Hp), σ' = [some (.ref a), some (.ref d), some (.int (t : Nat)), some (.int (col : Nat)), some (.ref s), x5, x6, x7] ∧ ButN [a, d] H Hb ∧ Tabs TT Hb ∧ BelI c t col m (mg2 rs) fst es mu' ∧
        Led K Hb a d (acts es rs) (ds ++ es) ∧ Hb s = none ∧ Same Hb H' ∧ (fst = true → ∃ j, j ∈ someN (Dfs es (mg2 rs)) col (if fst then t else t + 1) (m - (if fst then t else t + 1))) ∧
        H' s = some (.lst ((iN (someN (Dfs es (mg2 rs)) col (if fst then t else t + 1) (m - (if fst then t else t + 1)))).map V.int)), fun σ' H' h => h, ?_⟩
      have Ld3 := Lb.same s3
      have T3 := tabs_same Tb s3
      refine ⟨_, rfl, s, iN (someN (Dfs es (mg2 rs)) col (if fst = true then t else t + 1) (m - (if fst = true then t else t + 1))), rfl, es3, fun z => hne (by cases hx : someN (Dfs es (mg2 rs)) col (if fst = true then t else t + 1) (m - (if fst = true then t else t + 1)) with | nil => rfl | cons x l => rw [hx] at z; cases z), T3, fun H4 e34 T4 => ?_⟩
      have L4 := Ld3.ext e34
      refine ⟨fun z => ((Dfs es (mg2 rs) z.toNat col).natAbs : Int), fun z hz o => ?_, fun z hz hmin => ?_⟩
      · obtain ⟨j, rfl, hj⟩ := iN_mem hz
        have hj3 := mem_someN.mp hj
        have hjm : j < m := by omega
        obtain ⟨vs4, ea4, hp4⟩ := L4.rows
        obtain ⟨vsb, eab, hpb⟩ := Lb.rows
        obtain ⟨v, ev, pr, rfl, _, _, h3⟩ := Paired.get2 hpb (getD_row (show j < (acts es rs).length by rw [sh2.1]; exact hjm))
        have nps : pr ≠ s := ne_of_none h3 nsb
        have nas : a ≠ s := ne_of_none eab nsb
        have k1 : upd H4 s (.frz o (.lst ((iN (someN (Dfs es (mg2 rs)) col (if fst = true then t else t + 1) (m - (if fst = true then t else t + 1)))).map V.int))) a = some (.lst vsb) := by
          rw [upd_ne nas]; exact e34 _ _ (s3 _ _ eab) fun ps z => by cases z
        have k3 : upd H4 s (.frz o (.lst ((iN (someN (Dfs es (mg2 rs)) col (if fst = true then t else t + 1) (m - (if fst = true then t else t + 1)))).map V.int))) pr = some (.lst (((acts es rs).getD j []).map V.int)) := by
          rw [upd_ne nps]; exact e34 _ _ (s3 _ _ h3) fun ps z => by cases z
        refine ⟨_, rfl, _, rfl, a, vsb, (j : Nat), _, rfl, rfl, SqL.of k1, atI_nat ev, _, rfl, pr, _, (col : Nat), _, rfl, rfl, SqL.of k3, at_vg (by rw [sh2.row hjm]; exact hcol), _, rfl, ?_, rfl⟩
        show V.int (if mg2 (acts es rs) j col < 0 then -(mg2 (acts es rs) j col) else mg2 (acts es rs) j col) = V.int ((Dfs es (mg2 rs) ((j : Nat) : Int).toNat col).natAbs : Int)
        rw [eM, Int.toNat_natCast]
        congr 1
        by_cases hneg : Dfs es (mg2 rs) j col < 0
        · rw [if_pos hneg]; omega
        · rw [if_neg hneg]; omega
      · obtain ⟨b, rfl, hb⟩ := iN_mem hz
        obtain ⟨hb1, hb2, hb3⟩ := mem_someN.mp hb
        have hbm : b < m := by omega
        have tb : t ≤ b := by omega
        have hbt : fst = false → b ≠ t := fun z => by subst z; simp at hb1; omega
        have hmin' : ∀ j, t ≤ j → j < m → Dfs es (mg2 rs) j col ≠ 0 → (Dfs es (mg2 rs) b col).natAbs ≤ (Dfs es (mg2 rs) j col).natAbs := fun j j1 j2 jz => by
          by_cases hj : (if fst = true then t else t + 1) ≤ j
          · have := hmin (j : Int) (List.mem_map.mpr ⟨j, mem_someN.mpr ⟨hj, by omega, jz⟩, rfl⟩)
            simp only [Int.toNat_natCast] at this
            omega
          · have hf : fst = false := by cases fst with | true => simp at hj; omega | false => rfl
            have ejt : j = t := by subst hf; simp at hj; omega
            subst ejt
            rcases B.st with ⟨z, _⟩ | ⟨_, G, k, P1, _⟩
            · rw [hf] at z; cases z
            · have := P1.lt b tb hbm (hbt hf)
              rw [P1.hp]
              exact Nat.le_of_lt this
        obtain ⟨qm, hq1, hp0, hpC, hqL, hwt, hnext⟩ := B.turn hm3 tb hbm hb3 hmin' hbt
        have htm' : t < m := by omega
        have hc := hc htm'
        have okS : ∀ dd ∈ es ++ swD t b, dd.ok m := fun dd hd => (List.mem_append.mp hd).elim (B.ok dd) (swD_ok htm' hbm dd)
        -- all that is led here is within the line
        have btE : ∀ (ds' : List Deed), (∀ dd ∈ ds', dd.ok m) → Wt ds' ≤ (L3 c) ^ 2 → ∀ l ∈ acts ds' rs, ∀ z ∈ l, Bt (7 * c + 5) z := fun ds' ok hw => by
          refine bt_of_Le (E := 2 ^ (7 * c + 4)) ?_ (Nat.pow_lt_pow_right (by decide) (by omega))
          rw [mg2_acts sh ok]
          exact BelR.le (t := t) (col := col) (m := m) hle hw
        -- if least != top
        have b4 : ButN [a, d] H H4 := bb.trans ((ButN.ofS s3).trans (ButN.ofE e34))
        dsimp only
        refine gseq_join (fun H5 => ButN [a, d] H H5 ∧ Tabs TT H5 ∧ Led K H5 a d (acts (es ++ swD t b) rs) (ds ++ (es ++ swD t b))) (fun H5 ⟨b5, T5, L5⟩ => ?_) fun nx knx => ?_
        · -- for at in range(top + 1, len(rows))
          obtain ⟨vs5, ea5, hp5⟩ := L5.rows
          have sh5 := acts_shape sh okS
          have hlen5 : vs5.length = m := (Paired.length hp5).trans sh5.1
          have eF1 : mg2 (acts (es ++ swD t b) rs) = Dfs (es ++ swD t b) (mg2 rs) := mg2_acts sh okS
          have n5 : (((vs5.length : Nat) : Int) - ((t + 1 : Nat) : Int)).toNat = m - (t + 1) := by omega
          refine ⟨_, rfl, _, _, rfl, rfl, _, rfl, a, vs5, rfl, .inl (SqL.of ea5), ((t + 1 : Nat) : Int), (vs5.length : Nat), rfl, ⟨by omega, by omega, by omega, by omega⟩, ?_⟩
          refine for_it (walk_rg2 (lo := t + 1)) (fun i σ H6 => ∃ x6 x7 es2, σ = [some (.ref a), some (.ref d), some (.int (t : Nat)), some (.int (col : Nat)), some (.ref s), some (.int (b : Nat)), x6, x7] ∧ ButN [a, d] H H6 ∧ Tabs TT H6 ∧
              PassI t col qm (Dfs (es ++ swD t b) (mg2 rs)) ((List.range i).map fun k => t + 1 + k) es2 ∧ Led K H6 a d (acts (es ++ swD t b ++ es2) rs) (ds ++ (es ++ swD t b ++ es2)))
            ⟨x6, x7, [], rfl, b5, T5, PassI.nil _ _ _ _, by rw [List.append_nil]; exact L5⟩ (fun _ _ _ _ _ => True.intro) ?_ ?_
          · rintro i x σ H6 H6' hi ⟨y6, y7, es2, rfl, b6, T6, pI, L6⟩ ⟨rfl, rfl⟩
            rw [n5] at hi
            have okA : ∀ dd ∈ es ++ swD t b ++ es2, dd.ok m := fun dd hd => by
              rcases List.mem_append.mp hd with hd | hd
              · exact okS dd hd
              · obtain ⟨j, z, rfl, hj⟩ := pI.am dd hd
                have := blw_mem.mp hj
                exact ⟨by omega, htm', by omega⟩
            have sh6 := acts_shape sh okA
            have eM6 : mg2 (acts (es ++ swD t b ++ es2) rs) = passF t col ((List.range i).map fun k => t + 1 + k) (Dfs (es ++ swD t b) (mg2 rs)) := by rw [mg2_acts sh okA, Dfs_append (es ++ swD t b), pI.eq]
            have ei : mg2 (acts (es ++ swD t b ++ es2) rs) (t + 1 + i) col = Dfs (es ++ swD t b) (mg2 rs) (t + 1 + i) col := by rw [eM6, passF_out _ (fun z => by have := blw_mem.mp z; omega)]
            have et : mg2 (acts (es ++ swD t b ++ es2) rs) t col = Dfs (es ++ swD t b) (mg2 rs) t col := by rw [eM6, passF_out _ (fun z => by have := blw_mem.mp z; omega)]
            obtain ⟨us, p', k1, k2, k3, k4⟩ := rd_ij L6 sh6 (show t + 1 + i < m by omega) hcol
            obtain ⟨us', p'', k1', k2', k3', k4'⟩ := rd_ij L6 sh6 htm' hcol
            rw [ei] at k4
            rw [et] at k4'
            have hwt6 : Wt (es ++ swD t b ++ es2) ≤ (L3 c) ^ 2 := hwt _ es2 pI (by simp; omega)
            have pI' := pI.step (i := t + 1 + i) (fun z => by have := blw_mem.mp z; omega) (fun z => by have := blw_mem.mp z; omega) (by omega) (hq1 (t + 1 + i) (by omega) (by omega))
            rw [blw_succ] at pI'
            have F9 : Bt 9000 (Dfs (es ++ swD t b) (mg2 rs) t col) := by
              unfold Bt
              exact Nat.lt_of_le_of_lt hpC (Nat.pow_lt_pow_right (by decide) (by omega))
            refine ⟨_, rfl, _, rfl, a, us, _, _, rfl, rfl, k1, k2, _, rfl, p', _, _, _, rfl, rfl, k3, k4, _, rfl, _, rfl, a, us', _, _, rfl, rfl, k1', k2', _, rfl, p'', _, _, _, rfl, rfl, k3', k4', _, _, rfl, rfl, ⟨hp0, log2_lt hp0 F9⟩, ?_⟩
            have hla6 := L6.lists
            refine ⟨_, rfl, rfl, _, rfl, ite2 (fun h1 => ?_) fun h1 => ?_⟩
            · have hz : (Dfs (es ++ swD t b) (mg2 rs) (t + 1 + i) col).fdiv (Dfs (es ++ swD t b) (mg2 rs) t col) ≠ 0 := by
                have := (ne0 _).symm.trans h1
                simpa using this
              have eS : stepD (t + 1 + i) t ((Dfs (es ++ swD t b) (mg2 rs) (t + 1 + i) col).fdiv (Dfs (es ++ swD t b) (mg2 rs) t col)) = [.add (t + 1 + i) t (0 - (Dfs (es ++ swD t b) (mg2 rs) (t + 1 + i) col).fdiv (Dfs (es ++ swD t b) (mg2 rs) t col))] := if_neg hz
              refine ⟨_, rfl, _, rfl, _, rfl, _, rfl, _, rfl, 0, _, rfl, rfl, by show 4 ≤ sizeLine; decide, fun tp ntp => ?_⟩
              have stp : Same H6' (upd H6' tp (.tup [.str "add", .int ((t + 1 + i : Nat) : Int), .int (t : Nat), .int (0 - (Dfs (es ++ swD t b) (mg2 rs) (t + 1 + i) col).fdiv (Dfs (es ++ swD t b) (mg2 rs) t col))])) := same1 ntp
              refine ⟨a, d, .ref tp, _, _, .add (t + 1 + i) t (0 - (Dfs (es ++ swD t b) (mg2 rs) (t + 1 + i) col).fdiv (Dfs (es ++ swD t b) (mg2 rs) t col)), m, n, 3 * c + 2, 7 * c + 5, rfl, L6.same stp, ⟨tp, rfl, SqT.of upd_same⟩, sh6, ⟨by omega, htm', by omega⟩, hn, ?_, ?_, btE _ okA hwt6, by omega, fun H7 b7 L7 => ?_⟩
              · have l1 := B.len
                have l2 := swD_len t b
                have l3 := pI.len
                simp only [List.length_append, List.length_map, List.length_range] at l3 ⊢
                omega
              · show Bt (3 * c + 2) (0 - _)
                unfold Bt
                rw [Int.zero_sub, Int.natAbs_neg]
                have := hq1 (t + 1 + i) (by omega) (by omega)
                have h3 := L3_lt c
                omega
              · refine ⟨_, _, es2 ++ stepD (t + 1 + i) t _, rfl, b6.trans ((ButN.ofS stp).trans (ButN.of b7)), tabs_but (tabs_same T6 stp) b7 (fun x hx => by obtain ⟨xs, ex⟩ := hla6 x hx; exact ⟨xs, stp _ _ ex⟩), pI', ?_⟩
                rw [eS]
                have e1 : acts (es ++ swD t b ++ (es2 ++ [.add (t + 1 + i) t (0 - (Dfs (es ++ swD t b) (mg2 rs) (t + 1 + i) col).fdiv (Dfs (es ++ swD t b) (mg2 rs) t col))])) rs = (Deed.add (t + 1 + i) t (0 - (Dfs (es ++ swD t b) (mg2 rs) (t + 1 + i) col).fdiv (Dfs (es ++ swD t b) (mg2 rs) t col))).app (acts (es ++ swD t b ++ es2) rs) := by
                  rw [← List.append_assoc, acts_append]; rfl
                rw [e1, ← List.append_assoc (es ++ swD t b), ← List.append_assoc ds]
                exact L7
            · have hz : (Dfs (es ++ swD t b) (mg2 rs) (t + 1 + i) col).fdiv (Dfs (es ++ swD t b) (mg2 rs) t col) = 0 := by
                have := Bool.eq_false_iff.mpr fun z => h1 ((ne0 _).trans z)
                simpa using this
              have eS : stepD (t + 1 + i) t ((Dfs (es ++ swD t b) (mg2 rs) (t + 1 + i) col).fdiv (Dfs (es ++ swD t b) (mg2 rs) t col)) = [] := if_pos hz
              rw [eS, List.append_nil] at pI'
              exact ⟨_, _, es2, rfl, b6, T6, pI', L6⟩
          · rintro σ H6 ⟨y6, y7, es2, rfl, b6, T6, pI, L6⟩
            rw [n5] at pI
            have okA : ∀ dd ∈ es ++ swD t b ++ es2, dd.ok m := fun dd hd => by
              rcases List.mem_append.mp hd with hd | hd
              · exact okS dd hd
              · obtain ⟨j, z, rfl, hj⟩ := pI.am dd hd
                have := blw_mem.mp hj
                exact ⟨by omega, htm', by omega⟩
            have sh6 := acts_shape sh okA
            obtain ⟨mu', hmu', B'⟩ := hnext es2 pI
            obtain ⟨vs6, ea6, hp6⟩ := L6.rows
            have hlen6 : vs6.length = m := (Paired.length hp6).trans sh6.1
            have n6 : (((vs6.length : Nat) : Int) - ((t + 1 : Nat) : Int)).toNat = m - (t + 1) := by omega
            refine ⟨_, rfl, _, _, rfl, rfl, _, rfl, a, vs6, rfl, .inl (SqL.of ea6), ((t + 1 : Nat) : Int), (vs6.length : Nat), rfl, ⟨by omega, by omega, by omega, by omega⟩, fun D6 hD6 => ?_⟩
            refine some_lc (t := t) (x4 := some (.ref s)) (x5 := some (.int (b : Nat))) (x6 := y6) (x7 := y7) L6 sh6 hcol (by rw [n6]; omega) (by omega) hD6 fun H8 s8 e8 => ?_
            rw [n6, mg2_acts sh okA] at e8
            exact ⟨mu', hmu', false, _, D6, _, _, _, H6, rfl, b6, T6, B', L6, hD6, s8, fun z => (by cases z), e8⟩
        · -- the swap
          refine ⟨_, rfl, _, rfl, rfl, _, rfl, ite2 (fun h1 => ?_) fun h1 => ?_⟩
          · have hbt' : b ≠ t := fun z => by subst z; simp at h1
            have eD : swD t b = [.swap t b] := if_neg hbt'
            refine ⟨_, rfl, _, rfl, _, rfl, _, rfl, by show 3 ≤ sizeLine; decide, fun tp ntp => ?_⟩
            have stp : Same H4 (upd H4 tp (.tup [.str "swap", .int (t : Nat), .int (b : Nat)])) := same1 ntp
            refine ⟨a, d, .ref tp, _, _, .swap t b, m, n, 0, 7 * c + 5, rfl, L4.same stp, ⟨tp, rfl, SqT.of upd_same⟩, sh2, ⟨htm', hbm, fun z => hbt' z.symm⟩, hn, ?_, True.intro, btE _ B.ok B.wt, by omega, fun H5 b5 L5 => knx H5 ⟨b4.trans ((ButN.ofS stp).trans (ButN.of b5)), tabs_but (tabs_same T4 stp) b5 (fun x hx => by obtain ⟨xs, ex⟩ := L4.lists x hx; exact ⟨xs, stp _ _ ex⟩), ?_⟩⟩
            · have l1 := B.len
              rw [List.length_append]
              omega
            · rw [eD, acts_append, ← List.append_assoc]
              exact L5
          · have hbt' : b = t := by
              by_cases z : b = t
              · exact z
              · exact absurd (show (!decide (V.int (b : Nat) = V.int (t : Nat))) = true by simp; omega) h1
            have eD : swD t b = [] := if_pos hbt'
            exact knx H4 ⟨b4, T4, by rw [eD, List.append_nil]; exact L4⟩
    · -- behind the while
      have hem : someN (Dfs es (mg2 rs)) col (if fst = true then t else t + 1) (m - (if fst = true then t else t + 1)) = [] := by
        cases hx : someN (Dfs es (mg2 rs)) col (if fst = true then t else t + 1) (m - (if fst = true then t else t + 1)) with
        | nil => rfl
        | cons x l => exact absurd (by rw [hx]; rfl) h2
      cases fst with
      | true =>
        obtain ⟨j, hj⟩ := hfst rfl
        rw [hem] at hj
        simp at hj
      | false =>
        have htm' : t < m := by
          rcases B.st with ⟨z, _⟩ | ⟨_, G, k, P1, _⟩
          · cases z
          · exact P1.h2
        refine q1 _ es (bb.trans (ButN.ofS s3)) (tabs_same Tb s3) htm' (B.stop fun j j1 j2 => ?_) (Lb.same s3)
        by_cases z : Dfs es (mg2 rs) j col = 0
        · exact z
        · have := mem_someN.mpr ⟨show t + 1 ≤ j from j1, show j < t + 1 + (m - (t + 1)) by omega, z⟩
          have hem : someN (Dfs es (mg2 rs)) col (t + 1) (m - (t + 1)) = [] := hem
          rw [hem] at this
          simp at this
end
end SF
end
section
set_option maxHeartbeats 4000000
namespace SF
open PySem PySem.Spec PyProof.Rows L2
open LamX (Tabs TabS ExtN TabB CodeO)
theorem doneOk_of {ds : List Deed} {M : List (List Int)} {m n b e : Nat} (sh : Shape m n M) (ok : ∀ d ∈ ds, d.ok m) (hw : Wt ds ≤ 2 ^ b) (hM : Le (2 ^ e) (mg2 M)) (hs : b + (e + b + 1) ≤ 134217728) : DoneOk b (e + b + 1) M ds := by
  refine ⟨fun d hd => ?_, fun i => ?_, hs⟩
  · cases d with
    | turn i => exact True.intro
    | swap i j => exact True.intro
    | add i j q => exact DoneOk.num' hw hd
  · refine bt_of_Le (E := 2 ^ (e + b)) ?_ (Nat.pow_lt_pow_right (by decide) (by omega))
    rw [mg2_acts sh fun d hd => ok d (List.mem_of_mem_take hd), Nat.pow_add]
    exact (Le_Dfs hM).mono (Nat.mul_le_mul_left _ (Nat.le_trans (Wt_take ds i) hw))
theorem Le_unit (m : Nat) : Le (2 ^ 1) (mg2 (unitM m)) := fun i k => by
  rw [mg2_unit]
  by_cases h : i < m ∧ k < m ∧ k = i
  · rw [if_pos h]; decide
  · rw [if_neg h]; decide
theorem _root_.LamX.ExtN.but {H H1 H2 : Hp} {S : List Addr} (e : ExtN H H1) (b : ButN S H1 H2) (hS : ∀ a ∈ S, H a = none) : ExtN H H2 := fun c o h t => b c o (fun z => by rw [hS c z] at h; cases h) (e c o h t) t
theorem DeedsA.lst {K : PySem.W.Frag} {H H' : Hp} {l : Addr} {us : List V} {ds : List Deed} (h : Paired (DeedA K H) us ds) (e : H' = upd H l (.tup us)) (n : H l = none) : DeedsA K H' (.ref l) ds := by
  subst e
  exact ⟨l, us, rfl, SqT.of upd_same, Paired.imp (fun _ _ z => z.tk (same1 n).tk) h⟩
section
variable {P : Program} {w : World} {K : PySem.W.Frag} {mg : Str → Option Value} {base : Heap} {f : Addr} {fd : FuncData}
/-! ### steps_deeds: table 0 rows 1 deeds 2 top 3 column 4 row 5; cells - -/
abbrev st_steps_deeds : Stmt := topS 34
abbrev sl_steps_deeds : List Str := ["table", "rows", "deeds", "top", "column", "row"]
theorem sc_steps_deeds : FnScope sl_steps_deeds ["table"] (defScope st_steps_deeds) := ⟨rfl, rfl, rfl, by decide +kernel, rfl, by decide +kernel, by decide +kernel⟩
-- calls clear_above clear_below; built-ins list range tuple; level 4
def sp_steps_deeds (TT : List (Addr × Str)) (K : PySem.W.Frag) : Sp := fun vs H Q _ => ∃ (x : V) (n m : Nat) (T : List (List Int)), vs = [x] ∧ TabA K H x n T ∧ Shape m n T ∧ m ≤ 3 ∧ n ≤ 1000 ∧ Le (2 ^ 7) (mg2 T) ∧ Tabs TT H ∧
  ∀ H' v t ds lead, ExtN H H' → Tabs TT H' → DeedsA K H' v ds → t ≤ m → TI m (mg2 T) t n ds lead → Q v H'
theorem ok_steps_deeds (M : Blt mg) {TT : List (Addr × Str)} (F : Fun K "steps_deeds" "steps_deeds" st_steps_deeds f fd) (hm : mg "steps_deeds" = some (.ref f)) (C_clear_above : Cal P w K mg base 2 "clear_above" ["rows", "deeds", "top", "column"] (sp_clear_above K)) (C_clear_below : Cal P w K mg base 3 "clear_below" ["rows", "deeds", "top", "column"] (sp_clear_below TT K)) : Cal P w K mg base 4 "steps_deeds" ["table"] (sp_steps_deeds TT K) := by
  refine ⟨f, fd, F.ok sc_steps_deeds (fun vs H Q E h => ?_) (fun cdv A outer s H vs Q E hr h => ?_), hm, F.kp, F.binds fun _ _ _ _ _ _ us hl => match us, hl with | [_], _ => rfl⟩
  · obtain ⟨_, _, _, _, rfl, _⟩ := h
    rfl
  · obtain ⟨x, n, m, T, rfl, ⟨at_, tx, rfl, ht, ar, us, rfl, hu, hpu⟩, sh, hm3, hn, hle, hT, q⟩ := h
    refine ⟨_, (pss_cons (ps_setLc (i := 1) (own := [("row", 5)]) rfl sc_steps_deeds.nd rfl rfl (sw_true rfl rfl rfl (by decide +kernel)) (pi_tupK (K := K) rfl (pe_ix (r := rIxT K) ix_tup (pv 0) pe_int (fun _ _ => rfl))) (blkOk_by (N := sl_steps_deeds) (sc := defScope st_steps_deeds) (by decide +kernel)) (fun _ _ _ _ _ => (pg_name (i := 5) sc_steps_deeds.nd rfl (.inl rfl) (.inr rfl))) (fun _ _ _ _ _ => pts_nil) (fun _ _ _ _ _ => (pe_callTy (T := "list") (r := rListOf K) call_lst (by rfl) M.list (by decide +kernel) (pa_cons (pv 5) pa_nil))))
      (pss_cons (ps_set (i := 2) sc_steps_deeds.nd rfl (Or.inl rfl) (pe_lst pa_nil))
      (pss_cons (ps_set (i := 3) sc_steps_deeds.nd rfl (Or.inl rfl) pe_int)
      (pss_cons (ps_for PassesOwn.never rfl (pi_range1 (by rfl) M.range (pa_cons (pe_ix (r := rIxT K) ix_tup (pv 0) pe_int (fun _ _ => rfl)) pa_nil)) (pg_name (i := 4) sc_steps_deeds.nd rfl (.inl rfl))
        (pss_one (ps_if (pt_val (pe_cal C_clear_below (hr.mono (by decide)) (by rfl) (pa_cons (pv 1) (pa_cons (pv 2) (pa_cons (pv 3) (pa_cons (pv 4) pa_nil))))))
          (pss_cons (ps_expr (pe_cal C_clear_above (hr.mono (by decide)) (by rfl) (pa_cons (pv 1) (pa_cons (pv 2) (pa_cons (pv 3) (pa_cons (pv 4) pa_nil))))))
          (pss_one (ps_set (i := 3) sc_steps_deeds.nd rfl (Or.inl rfl) (pe_op op_add (pv 3) pe_int))))
          pss_nil)))
      (pss_one (ps_ret (pe_callTy (T := "tuple") (r := rTupOf K) call_tup (by rfl) M.tuple (by decide +kernel) (pa_cons (pv 2) pa_nil)))))))), ?_⟩
    have hlen : us.length = m := (Paired.length hpu).trans sh.1
    have hnz : n < sizeLine := small1000 hn
    -- rows = [list(row) ..]
    refine ⟨_, rfl, at_, _, 1, _, rfl, rfl, ht, rfl, ar, rfl, ⟨_, hu⟩, fun a hD => ?_⟩
    refine lc_all walk_tup hD (fun i v H' => ∃ p, v = .ref p ∧ p ≠ a ∧ H' p = some (.lst ((T.getD i []).map V.int))) (fun i v H1 H2 h b ⟨p, e, n1, z⟩ => ⟨p, e, n1, b _ _ (by simp [n1]) z⟩) (fun H' s => seqT_same s hu) (small1000 (by omega)) (fun i x H1 H' C hi sm hx' hy k => ?_) (fun H1 ys sm e hp2 => ?_) g_name
    · obtain ⟨rfl, ex⟩ := hy
      obtain ⟨r, er, b, rfl, hb⟩ := Paired.get hpu ex
      have hiT : i < T.length := by rw [sh.1]; omega
      rw [getD_row hiT] at er
      cases er
      refine ⟨rfl, _, rfl, b, _, rfl, .inr (seqT_same sm hb), fun l nl => k _ _ (same1 nl) ⟨l, rfl, ?_, upd_same⟩⟩
      obtain ⟨xs, ex⟩ := hx'
      exact (ne_of_none ex nl).symm
    · have hly : ys.length = m := by
        have := Paired.length hp2
        rw [List.length_range] at this
        omega
      -- deeds = []
      refine ⟨Nat.zero_le _, fun d nd => ?_⟩
      have s2 : Same H (upd H1 d (.lst [])) := sm.push nd
      have nad : a ≠ d := ne_of_none e nd
      have L0 : Led K (upd H1 d (.lst [])) a d T [] := by
        refine ⟨nad, ⟨ys, same1 nd _ _ e, paired_of (by rw [hly, sh.1]) fun i y r ey er => ?_⟩, [], upd_same, .nil⟩
        obtain ⟨hi, p, rfl, n1, e1⟩ := paired_range hp2 ey
        have hiT : i < T.length := by rw [sh.1]; omega
        rw [getD_row hiT] at er
        cases er
        exact ⟨p, rfl, n1, ne_of_none e1 nd, same1 nd _ _ e1⟩
      have hda : ∀ b ∈ [a, d], H b = none := fun b hb => by
        rcases List.mem_cons.mp hb with z | z
        · rw [z]; exact hD
        · rw [List.mem_singleton.mp z]; exact sm.free nd
      refine ⟨_, rfl, at_, _, 0, .int (n : Nat), rfl, rfl, seqT_same s2 ht, rfl, (n : Nat), rfl, by omega, by omega, ?_⟩
      refine for_it walk_rg (fun col σ H2 => ∃ t ds lead x4 x5, σ = [some (.ref at_), some (.ref a), some (.ref d), some (.int ((t : Nat) : Int)), x4, x5] ∧ ExtN H H2 ∧ Tabs TT H2 ∧ t ≤ m ∧ TI m (mg2 T) t col ds lead ∧ Led K H2 a d (acts ds T) ds)
        ⟨0, [], fun _ => 0, none, none, rfl, ExtN.of s2, tabs_same hT s2, Nat.zero_le _, TI.start m _, L0⟩ (fun _ _ _ _ _ => True.intro) ?_ ?_
      · rintro col x σ H2 H2' hcol ⟨t, ds, lead, x4, x5, rfl, eN, T2, htm, I, L2⟩ ⟨rfl, rfl⟩
        have sh2 := acts_shape sh I.ok
        have eM : mg2 (acts ds T) = Dfs ds (mg2 T) := mg2_acts sh I.ok
        have hcle := I.le hle
        have hl40 := I.len
        have hSz : (1200000 : Nat) < sizeLine := by decide
        refine ⟨_, rfl, _, rfl, _, rfl, _, rfl, a, d, _, ds, t, col, m, n, 7 + bb t, rfl, L2, sh2, htm, hcol, hm3, hnz, by omega, by rw [eM]; exact hcle, fun h => by have := bb_le (show t ≤ 2 by omega); omega, T2, ?_, ?_⟩
        · intro H3 b3 T3 L3' hz
          rw [eM] at hz
          exact ⟨false, rfl, iteF ⟨t, ds, lead, _, _, rfl, eN.but b3 hda, T3, htm, I.skip hz, L3'⟩⟩
        · intro H3 es b3 T3 htm' R Ld3
          refine ⟨true, rfl, iteT ?_⟩
          rw [eM] at R
          have okE : ∀ dd ∈ ds ++ es, dd.ok m := fun dd hd => (List.mem_append.mp hd).elim (I.ok dd) (R.ok dd)
          have sh3 := acts_shape sh okE
          have eM3 : mg2 (acts (ds ++ es) T) = Dfs (ds ++ es) (mg2 T) := mg2_acts sh okE
          have hb2 := bb_le (show t ≤ 2 by omega)
          have hlE := R.len
          have ap : acts es (acts ds T) = acts (ds ++ es) T := (acts_append ds es T).symm
          rw [ap] at Ld3
          have hle3 : Le (2 ^ (7 * (7 + bb t) + 4)) (Dfs (ds ++ es) (mg2 T)) := by rw [Dfs_append]; exact BelR.le (t := t) (col := col) (m := m) hcle R.wt
          refine ⟨_, rfl, _, rfl, _, rfl, _, rfl, a, d, _, ds ++ es, t, col, m, n, 7 * (7 + bb t) + 4, rfl, Ld3, sh3, htm', hcol, by omega, hnz, by rw [List.length_append]; omega, by rw [eM3, Dfs_append]; exact R.piv, by rw [eM3]; exact hle3, ?_, by omega, fun H4 es2 b4 pI L4 => ?_⟩
          · rw [eM3, Dfs_append]
            unfold Bt
            exact Nat.lt_of_le_of_lt R.size (Nat.pow_lt_pow_right (by decide) (by omega))
          · rw [eM3] at pI L4
            have I' := I.step hle hm3 htm' R pI
            have ap4 : acts (tuD t col (Dfs (ds ++ es) (mg2 T)) ++ es2) (acts (ds ++ es) T) = acts (ds ++ es ++ (tuD t col (Dfs (ds ++ es) (mg2 T)) ++ es2)) T := (acts_append _ _ _).symm
            rw [ap4] at L4
            refine ⟨_, rfl, _, _, rfl, rfl, t + 1, _, _, _, _, rfl, (eN.but b3 hda).but (ButN.of b4) hda, tabs_but T3 b4 Ld3.lists, htm', I', L4⟩
      · rintro σ H2 ⟨t, ds, lead, x4, x5, rfl, eN, T2, htm, I, L2⟩
        obtain ⟨_, _, us2, e2, p2⟩ := L2
        refine ⟨_, rfl, d, us2, rfl, .inl ⟨SqL.of e2, fun l nl => ?_⟩⟩
        exact q _ _ t ds lead (eN.trans (ExtN.of (same1 nl))) (tabs_same T2 (same1 nl)) (DeedsA.lst p2 rfl nl) htm I
/-! ### steps_paper: table 0 deeds 1 many 2; cells - -/
abbrev st_steps_paper : Stmt := topS 35
abbrev sl_steps_paper : List Str := ["table", "deeds", "many"]
theorem sc_steps_paper : FnScope sl_steps_paper ["table"] (defScope st_steps_paper) := ⟨rfl, rfl, rfl, by decide +kernel, rfl, by decide +kernel, by decide +kernel⟩
-- calls deeds_table done led_back steps_deeds; built-ins len; level 7
/-- the told steps: form, there, back -/
def StepA (K : PySem.W.Frag) (H : Hp) (v : V) (n m : Nat) (F A B : List (List Int)) : Prop := ∃ a f t b, v = .ref a ∧ SqT K H a [.str "steps", f, t, b] ∧ TabA K H f n F ∧ TabA K H t m A ∧ TabA K H b m B
def sp_steps_paper (TT : List (Addr × Str)) (K : PySem.W.Frag) : Sp := fun vs H Q _ => ∃ (x : V) (n m : Nat) (T : List (List Int)), vs = [x] ∧ TabA K H x n T ∧ Shape m n T ∧ m ≤ 3 ∧ n ≤ 1000 ∧ Le (2 ^ 7) (mg2 T) ∧ Tabs TT H ∧
  ∀ H' v t ds lead, ExtN H H' → Tabs TT H' → t ≤ m → TI m (mg2 T) t n ds lead → StepA K H' v n m (acts ds T) (acts ds (unitM m)) (acts (ledBack ds) (unitM m)) → Q v H'
theorem ok_steps_paper (M : Blt mg) {TT : List (Addr × Str)} (F : Fun K "steps_paper" "steps_paper" st_steps_paper f fd) (hm : mg "steps_paper" = some (.ref f)) (C_steps_deeds : Cal P w K mg base 4 "steps_deeds" ["table"] (sp_steps_deeds TT K)) (C_done : Cal P w K mg base 5 "done" ["table", "deeds"] (sp_done K)) (C_deeds_table : Cal P w K mg base 6 "deeds_table" ["many", "deeds"] (sp_deeds_table K)) (C_led_back : Cal P w K mg base 2 "led_back" ["deeds"] (sp_led_back K)) : Cal P w K mg base 7 "steps_paper" ["table"] (sp_steps_paper TT K) := by
  refine ⟨f, fd, F.ok sc_steps_paper (fun vs H Q E h => ?_) (fun cdv A outer s H vs Q E hr h => ?_), hm, F.kp, F.binds fun _ _ _ _ _ _ us hl => match us, hl with | [_], _ => rfl⟩
  · obtain ⟨_, _, _, _, rfl, _⟩ := h
    rfl
  · obtain ⟨x, n, m, T, rfl, hx, sh, hm3, hn, hle, hT, q⟩ := h
    refine ⟨_, (pss_cons (ps_set (i := 1) sc_steps_paper.nd rfl (Or.inl rfl) (pe_cal C_steps_deeds (hr.mono (by decide)) (by rfl) (pa_cons (pv 0) pa_nil)))
      (pss_cons (ps_set (i := 2) sc_steps_paper.nd rfl (Or.inl rfl) (pe_callB (id := "len") (r := rLenS K) call_lenS (by rfl) M.len (by decide +kernel) (pa_cons (pe_ix (r := rIxT K) ix_tup (pv 0) pe_int (fun _ _ => rfl)) pa_nil)))
      (pss_one (ps_ret (pe_tup (pa_cons pe_str (pa_cons (pe_cal C_done (hr.mono (by decide)) (by rfl) (pa_cons (pv 0) (pa_cons (pv 1) pa_nil))) (pa_cons (pe_cal C_deeds_table (hr.mono (by decide)) (by rfl) (pa_cons (pv 2) (pa_cons (pv 1) pa_nil))) (pa_cons (pe_cal C_deeds_table (hr.mono (by decide)) (by rfl) (pa_cons (pv 2) (pa_cons (pe_cal C_led_back (hr.mono (by decide)) (by rfl) (pa_cons (pv 1) pa_nil)) pa_nil))) pa_nil))))))))), ?_⟩
    refine ⟨_, rfl, x, n, m, T, rfl, hx, sh, hm3, hn, hle, hT, fun H1 dv t ds lead e1 T1 hdv htm I => ?_⟩
    obtain ⟨at_, tx, rfl, ht, ar, us, rfl, hu, hpu⟩ := id hx
    have hlen : us.length = m := (Paired.length hpu).trans sh.1
    have tk1 := ExtN.tk (K := K) e1
    have hw : Wt ds ≤ 2 ^ 72228 := Nat.le_trans I.wt (Nat.pow_le_pow_right (by decide) (bb3 (by omega)))
    have hw2 : Wt (ledBack ds) ≤ 2 ^ 72228 := by rw [Wt_ledBack]; exact hw
    have hl := I.len
    have hSz : (1200000 : Nat) < sizeLine := by decide
    refine ⟨_, rfl, at_, _, 1, _, rfl, rfl, tk1 _ _ ht, rfl, ar, us, rfl, .inr (tk1 _ _ hu), ?_⟩
    show gName 2 (.int ((us.length : Nat) : Int)) _ H1 _
    rw [hlen]
    refine ⟨_, rfl, _, rfl, .ref at_, dv, n, m, T, ds, 72228, 7 + 72228 + 1, rfl, hx.tk tk1, hdv, sh, I.ok, small1000 hn, doneOk_of sh I.ok hw hle (by decide), fun H2 v2 s2 h2 => ?_⟩
    refine ⟨_, rfl, _, rfl, m, dv, ds, 72228, 1 + 72228 + 1, rfl, hdv.tk s2.tk, I.ok, by omega, doneOk_of (unitM_shape m) I.ok hw (Le_unit m) (by decide), fun H3 v3 s3 h3 => ?_⟩
    refine ⟨_, rfl, _, rfl, dv, ds, rfl, hdv.tk (s2.trans s3).tk, by omega, fun H4 v4 s4 h4 => ?_⟩
    refine ⟨m, v4, ledBack ds, 72228, 1 + 72228 + 1, rfl, h4, ledBack_ok I.ok, by omega, doneOk_of (unitM_shape m) (ledBack_ok I.ok) hw2 (Le_unit m) (by decide), fun H5 v5 s5 h5 => ?_⟩
    refine ⟨by show 4 ≤ sizeLine; decide, fun p np => ?_⟩
    have sp := same1 (o := .tup [.str "steps", v2, v3, v5]) np
    exact q _ _ t ds lead (e1.trans (ExtN.of ((s2.trans s3).trans ((s4.trans s5).trans sp)))) (tabs_same T1 ((s2.trans s3).trans ((s4.trans s5).trans sp))) htm I ⟨p, v2, v3, v5, rfl, SqT.of upd_same, h2.tk (s3.trans ((s4.trans s5).trans sp)).tk, h3.tk ((s4.trans s5).trans sp).tk, h5.tk sp.tk⟩
end
end SF
end
section
set_option maxHeartbeats 4000000
namespace SF
/-- how often each row of the form is taken -/
def oft (m rk : Nat) (c : Nat → Int) : List Int := (List.range m).map fun j => if j < rk then c j else 0
theorem oft_length (m rk : Nat) (c : Nat → Int) : (oft m rk c).length = m := by simp [oft]
theorem vg_oft {m rk j : Nat} {c : Nat → Int} (h : j < m) : vg (oft m rk c) j = if j < rk then c j else 0 := map_range_getD h
theorem oft_mul {m n rk j k : Nat} {F : Mat} {lead : Nat → Nat} {c : Nat → Int} (e : Ech m n F rk lead) (hj : j < m) (hk : k < n) : vg (oft m rk c) j * F j k = c j * F j k := by
  rw [vg_oft hj]
  by_cases h : j < rk
  · rw [if_pos h]
  · rw [if_neg h, e.zero j (by omega) hj k hk, Int.mul_zero, Int.mul_zero]
/-- what is left of the point behind i rows -/
def leftN (n : Nat) (p : List Int) (m rk : Nat) (c : Nat → Int) (F : Mat) (i : Nat) : List Int := (List.range n).map fun k => vg p k - S i (fun j => vg (oft m rk c) j * F j k)
theorem leftN_length (n : Nat) (p : List Int) (m rk : Nat) (c : Nat → Int) (F : Mat) (i : Nat) : (leftN n p m rk c F i).length = n := by simp [leftN]
theorem vg_leftN {n i k : Nat} {p : List Int} {m rk : Nat} {c : Nat → Int} {F : Mat} (h : k < n) : vg (leftN n p m rk c F i) k = vg p k - S i (fun j => vg (oft m rk c) j * F j k) := map_range_getD h
section
variable {m n rk : Nat} {F : Mat} {lead : Nat → Nat} {c : Nat → Int} {p : List Int}
theorem left_lead (e : Ech m n F rk lead) (hp : ∀ k, k < n → vg p k = S m fun j => c j * F j k) {i : Nat} (hi : i < rk) : vg (leftN n p m rk c F i) (lead i) = c i * F i (lead i) := by
  obtain ⟨l1, l2, l3⟩ := e.lead_ i hi
  have him : i < m := Nat.lt_of_lt_of_le hi e.le
  rw [vg_leftN l1, hp _ l1]
  have e1 : S i (fun j => vg (oft m rk c) j * F j (lead i)) = S i (fun j => c j * F j (lead i)) := S_congr fun j hj => oft_mul e (by omega) l1
  have e2 : S m (fun j => c j * F j (lead i)) = S i (fun j => c j * F j (lead i)) + S (m - i) (fun j => c (i + j) * F (i + j) (lead i)) := by
    rw [← S_split, show i + (m - i) = m by omega]
  have e3 : S (m - i) (fun j => c (i + j) * F (i + j) (lead i)) = c i * F i (lead i) := by
    have h0 : 0 < m - i := by omega
    refine Eq.trans (S_congr fun j hj => ?_) (S_one h0 (fun j => c (i + j) * F (i + j) (lead i)))
    by_cases ej : j = 0
    · rw [if_pos ej]
    · rw [if_neg ej]
      by_cases hr : i + j < rk
      · rw [(e.lead_ (i + j) hr).2.2 _ (e.up i (i + j) (by omega) hr), Int.mul_zero]
      · rw [e.zero (i + j) (by omega) (by omega) _ l1, Int.mul_zero]
  rw [e1, e2, e3]
  omega
theorem left_end (e : Ech m n F rk lead) (hp : ∀ k, k < n → vg p k = S m fun j => c j * F j k) : leftN n p m rk c F m = List.replicate n 0 := by
  refine row_ext (n := n) (leftN_length _ _ _ _ _ _ _) (by simp) fun k hk => ?_
  rw [vg_leftN hk, hp k hk, S_congr (fun j hj => oft_mul (c := c) e hj hk)]
  unfold vg
  rw [List.getD_eq_getElem?_getD]
  simp [hk]
end
theorem lead_of_row {m n rk i : Nat} {F : List (List Int)} {lead : Nat → Nat} (s : Shape m n F) (e : Ech m n (mg2 F) rk lead) (hi : i < m) : leadIn (F.getD i []) = if i < rk then some (lead i) else none := by
  by_cases h : i < rk
  · rw [if_pos h]
    obtain ⟨l1, l2, l3⟩ := e.lead_ i h
    exact leadIn_of (by rw [s.row hi]; exact l1) l2 l3
  · rw [if_neg h]
    exact leadIn_of_none fun k hk => e.zero i (by omega) hi k (by rw [s.row hi] at hk; exact hk)
/-- the told paper's coefficients -/
def cof (m : Nat) (x0 : List Int) (B : List (List Int)) : Nat → Int := fun j => S m fun i => vg x0 i * mg2 B i j
theorem S_bound {n : Nat} {f : Nat → Int} {E : Nat} (h : ∀ i, i < n → (f i).natAbs ≤ E) : (S n f).natAbs ≤ n * E := by
  induction n with
  | zero => simp [S]
  | succ n ih =>
    have h1 := ih fun i hi => h i (by omega)
    have h2 := h n (by omega)
    have h3 := Int.natAbs_add_le (S n f) (f n)
    show (S n f + f n).natAbs ≤ (n + 1) * E
    rw [Nat.add_mul, Nat.one_mul]
    omega
theorem S3_bt {n : Nat} {f : Nat → Int} {b : Nat} (hn : n ≤ 3) (h : ∀ i, i < n → Bt b (f i)) : Bt (b + 2) (S n f) := by
  have h1 := S_bound (E := 2 ^ b) fun i hi => Nat.le_of_lt (h i hi)
  unfold Bt
  have h2 : n * 2 ^ b ≤ 3 * 2 ^ b := Nat.mul_le_mul_right _ hn
  have h3 : 2 ^ (b + 2) = 4 * 2 ^ b := by rw [Nat.pow_succ, Nat.pow_succ]; omega
  have h4 : 0 < 2 ^ b := Nat.pow_pos (by decide)
  omega
theorem vg_bt {r : List Int} {b : Nat} (h : ∀ z ∈ r, Bt b z) (k : Nat) : Bt b (vg r k) := by
  by_cases hk : k < r.length
  · exact h _ (mem_vg hk)
  · rw [vg_out (by omega)]; exact Nat.pow_pos (by decide)
theorem mg2_bt {M : List (List Int)} {b : Nat} (h : ∀ l ∈ M, ∀ z ∈ l, Bt b z) (i k : Nat) : Bt b (mg2 M i k) := by
  by_cases hi : i < M.length
  · exact vg_bt (h _ (mem_getD hi)) k
  · rw [mg2_out (by omega)]; exact Nat.pow_pos (by decide)
theorem bt_list {r : List Int} {b : Nat} (h : ∀ k, k < r.length → Bt b (vg r k)) : ∀ z ∈ r, Bt b z := fun z hz => by
  obtain ⟨i, hi, rfl⟩ := List.mem_iff_getElem.mp hz
  have := h i hi
  unfold vg at this
  rw [List.getD_eq_getElem?_getD, List.getElem?_eq_getElem hi] at this
  exact this
theorem Bt.mono' {a b : Nat} {z : Int} (hab : a ≤ b) (h : Bt a z) : Bt b z := h.mono hab
section
variable {m n t : Nat} {T : List (List Int)} {x0 p : List Int} {ds : List Deed} {lead : Nat → Nat}
theorem told_bt {M : List (List Int)} {es : List Deed} {e : Nat} (sh : Shape m n M) (ok : ∀ d ∈ es, d.ok m) (hw : Wt es ≤ 2 ^ 72228) (hM : Le (2 ^ e) (mg2 M)) : ∀ l ∈ acts es M, ∀ z ∈ l, Bt (e + 72229) z := by
  refine bt_of_Le (E := 2 ^ (e + 72228)) ?_ (Nat.pow_lt_pow_right (by decide) (by omega))
  rw [mg2_acts sh ok, Nat.pow_add]
  exact (Le_Dfs hM).mono (Nat.mul_le_mul_left _ hw)
theorem told_point (sh : Shape m n T) (hx : x0.length = m) (hp : p = rowTimes x0 n T) (ok : ∀ d ∈ ds, d.ok m) : ∀ k, k < n → vg p k = S m fun j => cof m x0 (acts (ledBack ds) (unitM m)) j * mg2 (acts ds T) j k := by
  intro k hk
  rw [hp, vg_rowTimes hk, rsum_eq hx sh.1]
  have hu := unit_mul (T := unitM m) (m := m) (unitM_shape m).1
  have eB : mg2 (acts (ledBack ds) (unitM m)) = Dfs (ledBack ds) (mg2 (unitM m)) := mg2_acts (unitM_shape m) (ledBack_ok ok)
  have eF : mg2 (acts ds T) = Dfs ds (mg2 T) := mg2_acts sh ok
  have bf : mul m (mg2 (acts (ledBack ds) (unitM m))) (mg2 (acts ds T)) = mg2 T := by
    have h1 : mul m (mg2 (unitM m)) (Dfs ds (mg2 T)) = Dfs ds (mg2 T) := by
      have := unit_mul (T := acts ds T) (m := m) (acts_shape sh ok).1
      rwa [eF] at this
    rw [eB, eF, ← Dfs_mul, h1, Dfs_ledBack ok]
  have e1 : S m (fun j => vg x0 j * mg2 T j k) = S m fun j => S m fun l => vg x0 j * (mg2 (acts (ledBack ds) (unitM m)) j l * mg2 (acts ds T) l k) := S_congr fun j hj => by
    rw [S_mul]
    congr 1
    exact (congrFun (congrFun bf j) k).symm
  rw [e1, S_swap]
  refine S_congr fun l hl => ?_
  unfold cof
  rw [← S_mulr]
  exact S_congr fun j _ => by rw [Int.mul_assoc]
theorem told_good (sh : Shape m n T) (hm : m ≤ 3) (hn : n ≤ 1000) (hT : Le (2 ^ 7) (mg2 T)) (hx : x0.length = m) (hxb : ∀ z ∈ x0, Bt 3 z) (hp : p = rowTimes x0 n T) (ht : t ≤ 3) (I : TI m (mg2 T) t n ds lead) :
    (∀ j, Bt 72300 (cof m x0 (acts (ledBack ds) (unitM m)) j)) ∧
    GoodL 300000 n m T p (rowTimes (oft m t (cof m x0 (acts (ledBack ds) (unitM m)))) m (acts ds (unitM m))) (acts ds T) (acts ds (unitM m)) (acts (ledBack ds) (unitM m)) := by
  have hw : Wt ds ≤ 2 ^ 72228 := Nat.le_trans I.wt (Nat.pow_le_pow_right (by decide) (bb3 ht))
  have hw2 : Wt (ledBack ds) ≤ 2 ^ 72228 := by rw [Wt_ledBack]; exact hw
  have ok := I.ok
  have okL := ledBack_ok ok
  have leU : Le (2 ^ 1) (mg2 (unitM m)) := fun i k => by
    rw [mg2_unit]
    by_cases h : i < m ∧ k < m ∧ k = i
    · rw [if_pos h]; decide
    · rw [if_neg h]; decide
  have bF := told_bt sh ok hw hT
  have bA := told_bt (unitM_shape m) ok hw leU
  have bB := told_bt (unitM_shape m) okL hw2 leU
  have eB : mg2 (acts (ledBack ds) (unitM m)) = Dfs (ledBack ds) (mg2 (unitM m)) := mg2_acts (unitM_shape m) okL
  have eA : mg2 (acts ds (unitM m)) = Dfs ds (mg2 (unitM m)) := mg2_acts (unitM_shape m) ok
  have eF : mg2 (acts ds T) = Dfs ds (mg2 T) := mg2_acts sh ok
  have ech : Ech m n (mg2 (acts ds T)) t lead := by rw [eF]; exact I.herm.ech
  have bC : ∀ j, Bt 72300 (cof m x0 (acts (ledBack ds) (unitM m)) j) := fun j => by
    refine (S3_bt hm fun i hi => ?_ : Bt (3 + (1 + 72229) + 2) _).mono (by decide)
    exact (vg_bt hxb i).mul (mg2_bt bB i j)
  have fat : mg2 (acts ds T) = mul m (mg2 (acts ds (unitM m))) (mg2 T) := by rw [eF, eA, ← Dfs_mul, unit_mul sh.1]
  refine ⟨bC, ⟨⟨rowTimes_length _ _ _, acts_shape sh ok, acts_shape (unitM_shape m) ok, acts_shape (unitM_shape m) okL, hn, by omega, ?_, fun l hl z hz => (bF l hl z hz).mono (by decide), fun l hl z hz => (bA l hl z hz).mono (by decide), fun l hl z hz => (bB l hl z hz).mono (by decide)⟩, sh, by rw [hp]; exact rowTimes_length _ _ _, ⟨fun k hk => ?_, fun i hi k hk => congrFun (congrFun fat i) k, fun i hi k hk => ?_, t, lead, ech⟩⟩⟩
  · refine bt_list fun k hk => ?_
    rw [rowTimes_length] at hk
    rw [vg_rowTimes hk, rsum_eq (oft_length _ _ _) (acts_shape (unitM_shape m) ok).1]
    refine (S3_bt hm fun i hi => ?_ : Bt (72300 + (1 + 72229) + 2) _).mono (by decide)
    refine Bt.mul ?_ (mg2_bt bA i k)
    rw [vg_oft hi]
    by_cases h : i < t
    · rw [if_pos h]; exact bC i
    · rw [if_neg h]; exact Nat.pow_pos (by decide)
  · rw [told_point sh hx hp ok k hk]
    have e1 : S m (fun j => vg (rowTimes (oft m t (cof m x0 (acts (ledBack ds) (unitM m)))) m (acts ds (unitM m))) j * mg2 T j k) = S m fun j => S m fun l => vg (oft m t (cof m x0 (acts (ledBack ds) (unitM m)))) l * (mg2 (acts ds (unitM m)) l j * mg2 T j k) := S_congr fun j hj => by
      rw [vg_rowTimes hj, rsum_eq (oft_length _ _ _) (acts_shape (unitM_shape m) ok).1, ← S_mulr]
      exact S_congr fun l _ => Int.mul_assoc _ _ _
    rw [e1, S_swap]
    refine S_congr fun l hl => ?_
    rw [S_mul, ← oft_mul (c := cof m x0 (acts (ledBack ds) (unitM m))) ech hl hk]
    congr 1
    exact (congrFun (congrFun fat l) k).symm
  · have h1 : mul m (mg2 (acts (ledBack ds) (unitM m))) (mg2 (acts ds (unitM m))) = mg2 (unitM m) := by
      have h2 : mul m (mg2 (unitM m)) (Dfs ds (mg2 (unitM m))) = Dfs ds (mg2 (unitM m)) := by
        have := unit_mul (T := acts ds (unitM m)) (m := m) (acts_shape (unitM_shape m) ok).1
        rwa [eA] at this
      rw [eB, eA, ← Dfs_mul, h2, Dfs_ledBack ok]
    rw [h1, mg2_unit]
    by_cases e : i = k
    · subst e; simp [hi]
    · rw [if_neg e, if_neg (fun z => e z.2.2.symm)]
end
end SF
end
section
set_option maxHeartbeats 4000000
namespace SF
open PySem PySem.Spec PyProof.Rows L2
open LamX (Tabs TabS ExtN TabB CodeO)
section
variable {P : Program} {w : World} {K : PySem.W.Frag} {mg : Str → Option Value} {base : Heap} {f : Addr} {fd : FuncData}
/-! ### taken: form 0 point 1 left 2 often 3 row 4 lead 5 count 6 number 7 one 8; cells count -/
abbrev st_taken : Stmt := topS 38
abbrev sl_taken : List Str := ["form", "point", "left", "often", "row", "lead", "count", "number", "one"]
theorem sc_taken : FnScope sl_taken ["form", "point"] (defScope st_taken) := ⟨rfl, rfl, rfl, by decide +kernel, rfl, by decide +kernel, by decide +kernel⟩
-- calls lead_in; built-ins list tuple zip; level 2
def sp_taken (K : PySem.W.Frag) : Sp := fun vs H Q _ => ∃ (x y : V) (n m rk B1 B2 : Nat) (F : List (List Int)) (p : List Int) (c : Nat → Int) (lead : Nat → Nat), vs = [x, y] ∧ TabA K H x n F ∧ RowA K H y p ∧ Shape m n F ∧ p.length = n ∧ n ≤ 1000 ∧ m ≤ 1000 ∧ Ech m n (mg2 F) rk lead ∧
  (∀ k, k < n → vg p k = S m fun j => c j * mg2 F j k) ∧ (∀ j, Bt B1 (c j)) ∧ (∀ l ∈ F, ∀ z ∈ l, Bt B2 z) ∧ B1 + B2 ≤ 134217728 ∧ (∀ i, i < rk → Bt 9000 (mg2 F i (lead i))) ∧
  ∀ H' a l o, Same H H' → SqT K H' a [l, o] → RowA K H' l (List.replicate n 0) → RowA K H' o (oft m rk c) → Q (.ref a) H'
theorem ok_taken (M : Blt mg) (F : Fun K "taken" "taken" st_taken f fd) (hm : mg "taken" = some (.ref f)) (C_lead_in : Cal P w K mg base 1 "lead_in" ["row"] (sp_lead_in K)) : Cal P w K mg base 2 "taken" ["form", "point"] (sp_taken K) := by
  refine ⟨f, fd, F.ok sc_taken (fun vs H Q E h => ?_) (fun cdv A outer s H vs Q E hr h => ?_), hm, F.kp, F.binds fun _ _ _ _ _ _ us hl => match us, hl with | [_, _], _ => rfl⟩
  · obtain ⟨_, _, _, _, _, _, _, _, _, _, _, rfl, _⟩ := h
    rfl
  · obtain ⟨x, y, n, m, rk, B1, B2, Fm, p, c, lead, rfl, ⟨af, xf, rfl, hf, ar, us, rfl, hu, hpu⟩, ⟨ap, rfl, hp⟩, sh, hpl, hn, hm', ech, hpc, bc, bF, hB, b9, q⟩ := h
    refine ⟨_, (pss_cons (ps_set (i := 2) sc_taken.nd rfl (Or.inl rfl) (pe_callTy (T := "list") (r := rListOf K) call_lst (by rfl) M.list (by decide +kernel) (pa_cons (pv 1) pa_nil)))
      (pss_cons (ps_set (i := 3) sc_taken.nd rfl (Or.inl rfl) (pe_lst pa_nil))
      (pss_cons (ps_for PassesOwn.never rfl (pi_tupK (K := K) rfl (pe_ix (r := rIxT K) ix_tup (pv 0) pe_int (fun _ _ => rfl))) (pg_name (i := 4) sc_taken.nd rfl (.inl rfl))
        (pss_cons (ps_set (i := 5) sc_taken.nd rfl (Or.inl rfl) (pe_cal C_lead_in (hr.mono (by decide)) (by rfl) (pa_cons (pv 4) pa_nil)))
        (pss_cons (ps_set (i := 6) sc_taken.nd rfl (Or.inr rfl) (pe_ifExp (pt_cmpR op_isN (pv 5) pe_non (nomark _)) pe_int (pe_op op_fdivZ (pe_ix (r := rIxL K) ix_list (pv 2) (pv 5) (fun _ _ => rfl)) (pe_ix (r := rIxT K) ix_tup (pv 4) (pv 5) (fun _ _ => rfl)))))
        (pss_cons (ps_setLc (i := 2) (own := [("number", 7), ("one", 8)]) rfl sc_taken.nd rfl rfl (sw_true rfl rfl rfl (by decide +kernel)) (pi_zipM (by rfl) M.zip (pa_cons (pv 2) (pa_cons (pv 4) pa_nil))) (blkOk_by (N := sl_taken) (sc := defScope st_taken) (by decide +kernel)) (fun _ _ _ _ _ => (pg_tupK (K := K) (n := 2) rfl rfl (pgs_cons (pg_name (i := 7) sc_taken.nd rfl (.inl rfl) (.inr rfl)) (pgs_cons (pg_name (i := 8) sc_taken.nd rfl (.inl rfl) (.inr rfl)) pgs_nil)))) (fun _ _ _ _ _ => pts_nil) (fun _ _ _ _ _ => (pe_op op_sub (pv 7) (pe_op op_mulX (pv 6) (pv 8)))))
        (pss_one (ps_expr (pe_bm PySem.F.plainAttrs_list PySem.F.slot_list_append PySem.F.type_list_append mt_append (pv 3) (pa_cons (pv 6) pa_nil))))))))
      (pss_one (ps_ret (pe_tup (pa_cons (pe_callTy (T := "tuple") (r := rTupOf K) call_tup (by rfl) M.tuple (by decide +kernel) (pa_cons (pv 2) pa_nil)) (pa_cons (pe_callTy (T := "tuple") (r := rTupOf K) call_tup (by rfl) M.tuple (by decide +kernel) (pa_cons (pv 3) pa_nil)) pa_nil)))))))), ?_⟩
    have hlen : us.length = m := (Paired.length hpu).trans sh.1
    refine ⟨_, rfl, ap, _, rfl, .inr hp, fun l nl => ⟨Nat.zero_le _, fun o no => ?_⟩⟩
    have s1 : Same H (upd H l (.lst (p.map V.int))) := same1 nl
    have s2 := s1.push (o := .lst []) no
    have nlo : l ≠ o := fun z => by
      rw [← z, upd_same] at no
      cases no
    have noH : H o = none := s1.free no
    have e0 : leftN n p m rk c (mg2 Fm) 0 = p := by
      refine row_ext (n := n) (leftN_length _ _ _ _ _ _ _) hpl fun k hk => ?_
      rw [vg_leftN hk]
      show vg p k - 0 = vg p k
      omega
    refine ⟨_, rfl, af, _, 1, _, rfl, rfl, seqT_same s2 hf, rfl, ar, rfl, ⟨_, seqT_same s2 hu⟩, ?_⟩
    refine for_it walk_tup (fun i σ H2 => ∃ l' x4 x5 x6 x7 x8, σ = [some (.ref af), some (.ref ap), some (.ref l'), some (.ref o), x4, x5, x6, x7, x8] ∧ Same H H2 ∧ H2 l' = some (.lst ((leftN n p m rk c (mg2 Fm) i).map V.int)) ∧ l' ≠ o ∧ H2 o = some (.lst (((oft m rk c).take i).map V.int)))
      ⟨l, none, none, none, none, none, rfl, s2, by rw [upd_ne nlo, upd_same, e0], nlo, upd_same⟩ (fun i σ H2 _ ⟨_, _, _, _, _, _, _, s, _⟩ => seqT_same s hu) ?_ ?_
    · rintro i x σ H2 H2' hi ⟨l', x4, x5, x6, x7, x8, rfl, s3, el, nlo', eo⟩ ⟨rfl, ex⟩
      have him : i < m := by omega
      obtain ⟨r, er, arr, rfl, har⟩ := Paired.get hpu ex
      rw [getD_row (by rw [sh.1]; exact him)] at er
      cases er
      have hrl : (Fm.getD i []).length = n := sh.row him
      refine ⟨_, rfl, _, _, rfl, ⟨arr, rfl, seqT_same s3 har⟩, fun H4 s4 => ?_⟩
      have s34 := s3.trans s4
      have el4 := s4 _ _ el
      have eo4 := s4 _ _ eo
      -- from the count on
      have after : ∀ (lv : V), vg (oft m rk c) i = vg (oft m rk c) i → tSeq (tAsg (tLc (iZipM K (tCons (tVar 2) (tCons (tVar 4) tNil))) (gTup K 2 (gCons (gName 7) (gCons (gName 8) gNil))) tYes (tOp (rI0 fun i j => V.int (i - j)) (tVar 7) (tOp (rI CMulX fun i j => V.int (i * j)) (tVar 6) (tVar 8))) [7, 8]) (gName 2))
          (tDrop (tBM K "list" rAppend (tVar 3) (tCons (tVar 6) tNil)))
          { nx := fun σ H2 => ∃ l' x4 x5 x6 x7 x8, σ = [some (.ref af), some (.ref ap), some (.ref l'), some (.ref o), x4, x5, x6, x7, x8] ∧ Same H H2 ∧ H2 l' = some (.lst ((leftN n p m rk c (mg2 Fm) (i + 1)).map V.int)) ∧ l' ≠ o ∧ H2 o = some (.lst (((oft m rk c).take (i + 1)).map V.int)), rt := Q }
          [some (.ref af), some (.ref ap), some (.ref l'), some (.ref o), some (.ref arr), some lv, some (.int (vg (oft m rk c) i)), x7, x8] H4 := by
        intro lv _
        refine ⟨_, rfl, _, rfl, l', arr, _, _, rfl, SqL.of el4, seqT_same s34 har, fun D hD => ?_⟩
        have hl1 : ((leftN n p m rk c (mg2 Fm) i).map V.int).length = n := by rw [List.length_map]; exact leftN_length _ _ _ _ _ _ _
        have hl2 : ((Fm.getD i []).map V.int).length = n := by rw [List.length_map]; exact hrl
        refine lc_all (walk_zipM rfl) hD (RInt fun k => vg (leftN n p m rk c (mg2 Fm) i) k - vg (oft m rk c) i * vg (Fm.getD i []) k) (rInt_keep _) (fun H' s => ⟨s.seq (SqL.of el4), seqT_same (s34.trans s) har⟩) (by rw [hl1, hl2, Nat.min_self]; exact small1000 hn) (fun k x H5 H5' C hk sm hx' hy kk => ?_) (fun H5 ys sm e hp2 => ?_) g_pair
        · obtain ⟨Tp, u, v, rfl, nT, rfl, eu, ev⟩ := hy
          rw [hl1, hl2, Nat.min_self] at hk
          obtain ⟨z1, ez1, rfl⟩ := mapInt_get eu
          obtain ⟨z2, ez2, rfl⟩ := mapInt_get ev
          rw [getD_at (by rw [leftN_length]; exact hk)] at ez1
          rw [getD_at (by rw [hrl]; exact hk)] at ez2
          cases ez1
          cases ez2
          have bo : Bt B1 (vg (oft m rk c) i) := by
            rw [vg_oft him]
            by_cases h : i < rk
            · rw [if_pos h]; exact bc i
            · rw [if_neg h]; exact Nat.pow_pos (by decide)
          exact pair_in ⟨rfl, _, rfl, _, rfl, _, rfl, _, _, rfl, rfl, mulx_bt bo (bF _ (mem_getD (by rw [sh.1]; exact him)) _ (mem_vg (by rw [hrl]; exact hk))) hB, _, _, rfl, rfl, kk _ _ (same1 nT) rfl⟩
        · have e2 := ints_of hp2
          rw [hl1, hl2, Nat.min_self] at e2
          have e3 : (List.range n).map (fun k => vg (leftN n p m rk c (mg2 Fm) i) k - vg (oft m rk c) i * vg (Fm.getD i []) k) = leftN n p m rk c (mg2 Fm) (i + 1) := by
            unfold leftN
            refine List.map_congr_left fun k hk => ?_
            have hk := List.mem_range.mp hk
            rw [show (List.range n).map (fun k => vg p k - S i fun j => vg (oft m rk c) j * mg2 Fm j k) = leftN n p m rk c (mg2 Fm) i from rfl, vg_leftN hk]
            show vg p k - S i _ - vg (oft m rk c) i * mg2 Fm i k = vg p k - (S i _ + vg (oft m rk c) i * mg2 Fm i k)
            omega
          rw [e3] at e2
          rw [e2] at e
          have eo5 := sm _ _ eo4
          have nDo : D ≠ o := (ne_of_none eo4 hD).symm
          refine ⟨_, rfl, .inl ⟨rfl, _, SqL.of eo5⟩, _, rfl, o, _, _, rfl, rfl, eo5, ?_, ?_⟩
          · rw [List.length_map, List.length_take]
            exact Nat.lt_of_le_of_lt (Nat.min_le_left _ _) (small1000 (by omega))
          · refine ⟨D, _, _, _, _, _, rfl, (s34.trans sm).new noH, by rw [upd_ne nDo]; exact e, nDo, ?_⟩
            rw [upd_same, List.take_add_one, getD_at (show i < (oft m rk c).length by rw [oft_length]; exact him), List.map_append]
            rfl
      have hle := lead_of_row sh ech him
      by_cases hr : i < rk
      · rw [if_pos hr] at hle
        have elv : leadV (Fm.getD i []) = .int ((lead i : Nat) : Int) := by unfold leadV; rw [hle]
        obtain ⟨l1, l2, l3⟩ := ech.lead_ i hr
        have eC : vg (oft m rk c) i = (vg (leftN n p m rk c (mg2 Fm) i) (lead i)).fdiv (mg2 Fm i (lead i)) := by
          rw [left_lead ech hpc hr, vg_oft him, if_pos hr, Int.mul_fdiv_cancel _ l2]
        rw [elv]
        refine ⟨_, rfl, rfl, _, rfl, iteN (by simp) ?_⟩
        refine ⟨_, rfl, _, rfl, l', _, _, _, rfl, rfl, SqL.of el4, at_vg (by rw [leftN_length]; exact l1), _, rfl, _, rfl, arr, _, _, .int (mg2 Fm i (lead i)), rfl, rfl, seqT_same s34 har, at_vg (by rw [hrl]; exact l1), _, _, rfl, rfl, ⟨l2, log2_lt l2 (b9 i hr)⟩, ?_⟩
        have h6 := after (.int ((lead i : Nat) : Int)) rfl
        rw [eC] at h6
        exact h6
      · rw [if_neg hr] at hle
        have elv : leadV (Fm.getD i []) = .non := by unfold leadV; rw [hle]
        have eC : vg (oft m rk c) i = 0 := by rw [vg_oft him, if_neg hr]
        rw [elv]
        refine ⟨_, rfl, rfl, _, rfl, iteP (by decide) ?_⟩
        have := after .non rfl
        rw [eC] at this
        exact this
    · rintro σ H2 ⟨l', x4, x5, x6, x7, x8, rfl, s3, el, nlo', eo⟩
      rw [hlen, left_end ech hpc] at el
      rw [hlen, List.take_of_length_le (by rw [oft_length]; exact Nat.le_refl _)] at eo
      refine ⟨_, rfl, l', _, rfl, .inl ⟨SqL.of el, fun u nu => ⟨_, rfl, o, _, rfl, .inl ⟨SqL.of (same1 nu _ _ eo), fun u2 nu2 => ⟨by show 2 ≤ sizeLine; decide, fun u3 nu3 => ?_⟩⟩⟩⟩⟩
      have k1 := same1 (o := .tup ((oft m rk c).map V.int)) nu2
      have k2 := same1 (o := .tup [.ref u, .ref u2]) nu3
      exact q _ u3 _ _ ((s3.push nu).trans (k1.trans k2)) (SqT.of upd_same) ⟨u, rfl, seqT_same (k1.trans k2) (SqT.of upd_same)⟩ ⟨u2, rfl, seqT_same k2 (SqT.of upd_same)⟩
/-! ### answers_paper: table 0 point 1 word 2 form 3 there 4 back 5 left 6 often 7; cells - -/
abbrev st_answers_paper : Stmt := topS 42
abbrev sl_answers_paper : List Str := ["table", "point", "word", "form", "there", "back", "left", "often"]
theorem sc_answers_paper : FnScope sl_answers_paper ["table", "point"] (defScope st_answers_paper) := ⟨rfl, rfl, rfl, by decide +kernel, rfl, by decide +kernel, by decide +kernel⟩
-- calls lead_in row_times steps_paper taken; built-ins ; level 8
def sp_answers_paper (TT : List (Addr × Str)) (K : PySem.W.Frag) : Sp := fun vs H Q _ => ∃ (x y : V) (n m : Nat) (T : List (List Int)) (p x0 : List Int), vs = [x, y] ∧ TabA K H x n T ∧ RowA K H y p ∧ Shape m n T ∧ m ≤ 3 ∧ n ≤ 1000 ∧ Le (2 ^ 7) (mg2 T) ∧ p = rowTimes x0 n T ∧ x0.length = m ∧ (∀ z ∈ x0, Bt 3 z) ∧ Tabs TT H ∧
  ∀ H' v one F A B, ExtN H H' → Tabs TT H' → PapA K H' v one n m F A B → GoodL 300000 n m T p one F A B → Q v H'
theorem ok_answers_paper (M : Blt mg) {TT : List (Addr × Str)} (F : Fun K "answers_paper" "answers_paper" st_answers_paper f fd) (hm : mg "answers_paper" = some (.ref f)) (C_steps_paper : Cal P w K mg base 7 "steps_paper" ["table"] (sp_steps_paper TT K)) (C_taken : Cal P w K mg base 2 "taken" ["form", "point"] (sp_taken K)) (C_lead_in : Cal P w K mg base 1 "lead_in" ["row"] (sp_lead_in K)) (C_row_times : Cal P w K mg base 1 "row_times" ["row", "table"] (sp_row_times K)) : Cal P w K mg base 8 "answers_paper" ["table", "point"] (sp_answers_paper TT K) := by
  refine ⟨f, fd, F.ok sc_answers_paper (fun vs H Q E h => ?_) (fun cdv A outer s H vs Q E hr h => ?_), hm, F.kp, F.binds fun _ _ _ _ _ _ us hl => match us, hl with | [_, _], _ => rfl⟩
  · obtain ⟨_, _, _, _, _, _, _, rfl, _⟩ := h
    rfl
  · obtain ⟨x, y, n, m, T, p, x0, rfl, hx, hy, sh, hm3, hn, hle, hp, hxl, hxb, hT, q⟩ := h
    refine ⟨_, (pss_cons (ps_asg (pe_cal C_steps_paper (hr.mono (by decide)) (by rfl) (pa_cons (pv 0) pa_nil)) (pg_tupK (K := K) (n := 4) rfl rfl (pgs_cons (pg_name (i := 2) sc_answers_paper.nd rfl (.inl rfl)) (pgs_cons (pg_name (i := 3) sc_answers_paper.nd rfl (.inl rfl)) (pgs_cons (pg_name (i := 4) sc_answers_paper.nd rfl (.inl rfl)) (pgs_cons (pg_name (i := 5) sc_answers_paper.nd rfl (.inl rfl)) pgs_nil))))))
      (pss_cons (ps_asg (pe_cal C_taken (hr.mono (by decide)) (by rfl) (pa_cons (pv 3) (pa_cons (pv 1) pa_nil))) (pg_tupK (K := K) (n := 2) rfl rfl (pgs_cons (pg_name (i := 6) sc_answers_paper.nd rfl (.inl rfl)) (pgs_cons (pg_name (i := 7) sc_answers_paper.nd rfl (.inl rfl)) pgs_nil))))
      (pss_cons (ps_if (pt_cmpR op_notN (pe_cal C_lead_in (hr.mono (by decide)) (by rfl) (pa_cons (pv 6) pa_nil)) pe_non (nomark _))
        (pss_one ps_never)
        pss_nil)
      (pss_one (ps_ret (pe_tup (pa_cons pe_str (pa_cons (pe_cal C_row_times (hr.mono (by decide)) (by rfl) (pa_cons (pv 7) (pa_cons (pv 4) pa_nil))) (pa_cons (pv 3) (pa_cons (pv 4) (pa_cons (pv 5) pa_nil))))))))))), ?_⟩
    refine ⟨_, rfl, x, n, m, T, rfl, hx, sh, hm3, hn, hle, hT, fun H1 v1 t ds lead e1 T1 htm I hS => ?_⟩
    obtain ⟨a, fo, th, ba, rfl, ha, h2, h3, h4⟩ := hS
    obtain ⟨bC, g⟩ := told_good sh hm3 hn hle hxl hxb hp (by omega) I
    have ok := g.ok
    have ech : Ech m n (mg2 (acts ds T)) t lead := by rw [mg2_acts sh I.ok]; exact I.herm.ech
    refine ⟨a, _, rfl, ha, rfl, _, _, rfl, _, _, rfl, _, _, rfl, _, _, rfl, rfl, ?_⟩
    refine ⟨_, rfl, _, rfl, fo, y, n, m, t, 72300, 300000, acts ds T, p, cof m x0 (acts (ledBack ds) (unitM m)), lead, rfl, h2, hy.tk (ExtN.tk e1), ok.F_, g.p_, hn, by omega, ech, told_point sh hxl hp I.ok, bC, ok.bF, by decide, fun i hi => ?_, fun H2 a2 l o s2 ha2 hl ho => ?_⟩
    · rw [mg2_acts sh I.ok]
      unfold Bt
      exact Nat.lt_of_le_of_lt (I.piv i hi) (Nat.pow_lt_pow_right (by decide) (by decide))
    · refine ⟨a2, _, rfl, ha2, rfl, _, _, rfl, _, _, rfl, rfl, ?_⟩
      refine ⟨_, rfl, l, _, rfl, hl, fun H3 s3 => ?_⟩
      have ez : leadV (List.replicate n 0) = .non := by
        unfold leadV
        rw [leadIn_of_none fun k hk => by unfold vg; rw [List.getD_eq_getElem?_getD]; simp at hk; simp [hk]]
      rw [ez]
      refine ⟨rfl, _, rfl, iteN (by decide) ?_⟩
      have tk3 := (s2.trans s3).tk (K := K)
      refine ⟨_, rfl, _, rfl, o, th, _, m, _, 72300, 300000, rfl, ho.tk s3.tk, h3.tk tk3, ok.m_, ok.A_.2, ?_, ok.bA, by decide, fun H4 v4 s4 h5 => ?_⟩
      · refine bt_list fun k hk => ?_
        rw [oft_length] at hk
        rw [vg_oft hk]
        by_cases h : k < t
        · rw [if_pos h]; exact bC k
        · rw [if_neg h]; exact Nat.pow_pos (by decide)
      · refine ⟨_, rfl, _, rfl, _, rfl, by show 5 ≤ sizeLine; decide, fun u nu => ?_⟩
        have k1 := same1 (o := .tup [.str "answers", v4, fo, th, ba]) nu
        have tk4 := ((s2.trans s3).trans (s4.trans k1)).tk (K := K)
        exact q _ _ _ _ _ _ (e1.trans (ExtN.of ((s2.trans s3).trans (s4.trans k1)))) (tabs_same T1 ((s2.trans s3).trans (s4.trans k1))) ⟨u, v4, fo, th, ba, rfl, SqT.of upd_same, h5.tk k1.tk, h2.tk tk4, h3.tk tk4, h4.tk tk4⟩ g
end
end SF
end
section
set_option maxHeartbeats 4000000
namespace SF
/-! ### what row steps keep -/
def Lin (P : (Nat → Int) → Prop) : Prop := ∀ (r s : Nat → Int) (a : Int), P r → P s → P fun k => r k + a * s k
theorem Lin.neg {P : (Nat → Int) → Prop} (L : Lin P) {r : Nat → Int} (h : P r) : P fun k => -(r k) := by
  have h0 := L r r (-1) h h
  have h1 := L _ r (-1) h0 h
  have e : (fun k => (r k + -1 * r k) + -1 * r k) = fun k => -(r k) := by funext k; omega
  rw [← e]
  exact h1
theorem Df_lin {P : (Nat → Int) → Prop} (L : Lin P) {m : Nat} {d : Deed} (ok : d.ok m) {F : Mat} (h : ∀ i, i < m → P (F i)) : ∀ i, i < m → P (Df d F i) := fun i hi => by
  cases d with
  | turn a =>
    by_cases e : i = a
    · subst e
      have : Df (.turn i) F i = fun k => -(F i k) := by funext k; exact if_pos rfl
      rw [this]; exact L.neg (h i hi)
    · have : Df (.turn a) F i = F i := by funext k; exact if_neg e
      rw [this]; exact h i hi
  | swap a b =>
    obtain ⟨ha, hb, _⟩ := (show a < m ∧ b < m ∧ a ≠ b from ok)
    by_cases e : i = b
    · subst e
      have : Df (.swap a i) F i = F a := by funext k; exact if_pos rfl
      rw [this]; exact h a ha
    · by_cases e2 : i = a
      · subst e2
        have : Df (.swap i b) F i = F b := by funext k; show (if i = b then _ else if i = i then F b k else _) = _; rw [if_neg e, if_pos rfl]
        rw [this]; exact h b hb
      · have : Df (.swap a b) F i = F i := by funext k; show (if i = b then _ else if i = a then _ else F i k) = _; rw [if_neg e, if_neg e2]
        rw [this]; exact h i hi
  | add a b q =>
    obtain ⟨ha, hb, _⟩ := (show a < m ∧ b < m ∧ a ≠ b from ok)
    by_cases e : i = a
    · subst e
      have : Df (.add i b q) F i = fun k => F i k + q * F b k := by funext k; exact if_pos rfl
      rw [this]; exact L _ _ q (h i hi) (h b hb)
    · have : Df (.add a b q) F i = F i := by funext k; exact if_neg e
      rw [this]; exact h i hi
theorem Dfs_lin {P : (Nat → Int) → Prop} (L : Lin P) {m : Nat} : ∀ {ds : List Deed} {F : Mat}, (∀ d ∈ ds, d.ok m) → (∀ i, i < m → P (F i)) → ∀ i, i < m → P (Dfs ds F i)
  | [], F, _, h => h
  | d :: ds, F, ok, h => Dfs_lin L (ds := ds) (fun d' hd => ok d' (by simp [hd])) (Df_lin L (ok d (by simp)) h)
theorem Dfs_lin_back {P : (Nat → Int) → Prop} (L : Lin P) {m : Nat} {ds : List Deed} {F : Mat} (ok : ∀ d ∈ ds, d.ok m) (h : ∀ i, i < m → P (Dfs ds F i)) : ∀ i, i < m → P (F i) := by
  have := Dfs_lin L (ledBack_ok ok) h
  rw [Dfs_ledBack ok] at this
  exact this
/-! ### the own steps: a column is cleared among the rows from t on, the pivot where it stands -/
structure BelO (c t col m : Nat) (F0 F : Mat) (fst : Bool) (G mu j0 : Nat) : Prop where
  lt : ∀ i, i < t → ∀ k, F i k = F0 i k
  zer : ∀ k, (∀ i, t ≤ i → i < m → F0 i k = 0) → ∀ i, t ≤ i → i < m → F i k = 0
  ent : ∀ i, t ≤ i → i < m → ∀ k, (F i k).natAbs ≤ 2 ^ c * G
  st : (fst = true ∧ F = F0 ∧ G = 1 ∧ Pot0 (2 ^ c) t m (fun j => F j col) ∧ mu = 2 ^ c + 1) ∨ (fst = false ∧ t + 1 < m ∧ Pot1 (2 ^ c) t m (fun j => F j col) G mu j0)
theorem BelO.start {c t col m : Nat} {F : Mat} (h : ∀ i, t ≤ i → i < m → ∀ k, (F i k).natAbs ≤ 2 ^ c) : BelO c t col m F F true 1 (2 ^ c + 1) 0 :=
  ⟨fun _ _ _ => rfl, fun _ h => h, fun i h1 h2 k => by rw [Nat.mul_one]; exact h i h1 h2 k, .inl ⟨rfl, rfl, rfl, ⟨fun j h1 h2 => h j h1 h2 col⟩, rfl⟩⟩
theorem L3_pos (c : Nat) : 1 ≤ L3 c := by
  unfold L3
  have : 0 < 2 ^ c := Nat.pow_pos (by decide)
  exact Nat.mul_pos (by decide) (Nat.mul_pos this (Nat.mul_pos this this))
theorem BelO.G_le {c t col m G mu j0 : Nat} {F0 F : Mat} {fst : Bool} (B : BelO c t col m F0 F fst G mu j0) : G ≤ L3 c := by
  rcases B.st with ⟨_, _, e, _⟩ | ⟨_, _, h⟩
  · rw [e]; exact L3_pos c
  · exact h.bound
theorem BelO.turn {c t col m G mu j0 b : Nat} {F0 F : Mat} {fst : Bool} (B : BelO c t col m F0 F fst G mu j0) {L : List Nat} (tb : t ≤ b) (bm : b < m) (hb : F b col ≠ 0) (hmin : ∀ j, t ≤ j → j < m → F j col ≠ 0 → (F b col).natAbs ≤ (F j col).natAbs)
    (hL : ∀ j, j ∈ L ↔ (t ≤ j ∧ j < m ∧ F j col ≠ 0 ∧ j ≠ b)) {x : Nat} (hx : x ∈ L) :
    ∃ q G' mu', (F b col).natAbs ≤ 2 ^ c ∧ 1 + q ≤ L3 c ∧ (∀ j, j ∈ L → ((F j col).fdiv (F b col)).natAbs ≤ q) ∧ mu' < mu ∧ BelO c t col m F0 (passF b col L F) false G' mu' b := by
  obtain ⟨x1, x2, x3, x4⟩ := (hL x).mp hx
  have htm : t + 1 < m := by omega
  have bL : b ∉ L := fun z => ((hL b).mp z).2.2.2 rfl
  have key : ∃ q G', 1 ≤ q ∧ G' = G * (1 + q) ∧ (∀ j, t ≤ j → j < m → j ≠ b → ((F j col).fdiv (F b col)).natAbs ≤ q) ∧ Pot1 (2 ^ c) t m (passC b fun j => F j col) G' (F b col).natAbs b ∧ (F b col).natAbs < mu ∧ (F b col).natAbs ≤ 2 ^ c := by
    rcases B.st with ⟨_, _, hG, h0, hmu⟩ | ⟨_, _, h1⟩
    · obtain ⟨q, hq1, hq, hp⟩ := h0.pass tb bm hb
      have hle := h0.le b tb bm
      refine ⟨q, 1 + q, hq1, by rw [hG, Nat.one_mul], hq, hp, ?_, hle⟩
      rw [hmu]
      exact Nat.lt_succ_of_le hle
    · have hne : b ≠ j0 := fun z => by
        subst z
        have h2 := h1.lt x x1 x2 x4
        have h3 := hmin x x1 x2 x3
        rw [← h1.hp] at h2
        exact absurd h2 (Nat.not_lt.mpr h3)
      obtain ⟨q, hq1, hq, hp⟩ := h1.pass tb bm hb hne hmin
      have hlt := h1.lt b tb bm hne
      exact ⟨q, _, hq1, rfl, hq, hp, hlt, Nat.le_trans (Nat.le_of_lt hlt) h1.pC⟩
  obtain ⟨q, G', hq1, hG', hq, hp, hmu, hC⟩ := key
  have hG1 : 1 ≤ G := by
    rcases Nat.eq_zero_or_pos G with z | z
    · rcases B.st with ⟨_, _, hG, _⟩ | ⟨_, _, h1⟩
      · omega
      · have h2 := B.ent b tb bm col
        rw [z, Nat.mul_zero] at h2
        omega
    · exact z
  refine ⟨q, G', (F b col).natAbs, hC, Nat.le_trans (by rw [hG']; exact Nat.le_mul_of_pos_left _ hG1) hp.bound, fun j hj => by obtain ⟨j1, j2, j3, j4⟩ := (hL j).mp hj; exact hq j j1 j2 j4, hmu, ⟨fun i hi k => ?_, fun k hk i i1 i2 => ?_, fun i i1 i2 k => ?_, .inr ⟨rfl, htm, ?_⟩⟩⟩
  · rw [passF_out F (fun z => by have := (hL i).mp z; omega)]
    exact B.lt i hi k
  · have hz := B.zer k hk
    by_cases hi : i ∈ L
    · rw [passF_in F hi, hz i i1 i2, hz b tb bm, Int.mul_zero]; rfl
    · rw [passF_out F hi]; exact hz i i1 i2
  · have hb1 := B.ent i i1 i2 k
    have hb2 := B.ent b tb bm k
    by_cases hi : i ∈ L
    · rw [passF_in F hi, hG', ← Nat.mul_assoc]
      have h1 := natAbs_add_mul (q := -((F i col).fdiv (F b col))) hb1 hb2
      rw [Int.natAbs_neg] at h1
      rw [show F i k - (F i col).fdiv (F b col) * F b k = F i k + -((F i col).fdiv (F b col)) * F b k by rw [Int.neg_mul]; omega]
      obtain ⟨j1, j2, j3, j4⟩ := (hL i).mp hi
      exact Nat.le_trans h1 (Nat.mul_le_mul_left _ (Nat.add_le_add_left (hq i j1 j2 j4) 1))
    · rw [passF_out F hi, hG', ← Nat.mul_assoc]
      exact Nat.le_trans hb1 (Nat.le_mul_of_pos_right _ (by omega))
  · have e2 : ∀ j, t ≤ j → j < m → passF b col L F j col = passC b (fun j => F j col) j := fun j j1 j2 => by
      by_cases e : j = b
      · subst e
        rw [passF_out F bL, passC_self]
      · rw [passC_ne _ e]
        by_cases hj : j ∈ L
        · rw [passF_in F hj]
        · rw [passF_out F hj]
          have hz : F j col = 0 := by
            by_cases z : F j col = 0
            · exact z
            · exact absurd ((hL j).mpr ⟨j1, j2, z, e⟩) hj
          rw [hz]
          simp
    refine ⟨hp.h1, hp.h2, by rw [e2 b tb bm]; exact hp.hp, hp.p1, hp.pC, fun j j1 j2 j3 => by rw [e2 j j1 j2]; exact hp.lt j j1 j2 j3, ?_, fun u hu hl => hp.pot u hu fun j j1 j2 jz => ?_⟩
    · rcases hp.sg with z | z
      · exact .inl fun j j1 j2 => by rw [e2 j j1 j2]; exact z j j1 j2
      · exact .inr fun j j1 j2 => by rw [e2 j j1 j2]; exact z j j1 j2
    · have := hl j j1 j2
      rw [e2 j j1 j2] at this
      exact this jz
/-! ### bounds by pivots -/
def lf (m c0 : Nat) : Nat → Nat
  | 0 => c0
  | t + 1 => if t + 1 < m then 4 * lf m c0 t + 2 else lf m c0 t
def af (m c0 : Nat) : Nat → Nat
  | 0 => c0
  | t + 1 => af m c0 t + lf m c0 (t + 1) + 2
theorem lf_le {m c0 t : Nat} (hm : m ≤ 3) : lf m c0 t ≤ 16 * c0 + 10 := by
  have h1 : ∀ t, lf m c0 t ≤ lf m c0 t := fun _ => Nat.le_refl _
  have h2 : lf m c0 1 ≤ 4 * c0 + 2 := by show (if 0 + 1 < m then 4 * c0 + 2 else c0) ≤ _; split <;> omega
  have h3 : lf m c0 2 ≤ 16 * c0 + 10 := by
    show (if 1 + 1 < m then 4 * lf m c0 1 + 2 else lf m c0 1) ≤ _
    split <;> omega
  have h4 : ∀ t, lf m c0 (t + 2) ≤ 16 * c0 + 10 := by
    intro t
    induction t with
    | zero => exact h3
    | succ t ih => show (if t + 2 + 1 < m then 4 * lf m c0 (t + 2) + 2 else lf m c0 (t + 2)) ≤ _; rw [if_neg (by omega)]; exact ih
  match t with
  | 0 => show c0 ≤ _; omega
  | 1 => omega
  | t + 2 => exact h4 t
theorem lf1 (m c0 : Nat) : lf m c0 1 ≤ 4 * c0 + 2 := by show (if 0 + 1 < m then 4 * c0 + 2 else c0) ≤ _; split <;> omega
theorem af_le {m c0 t : Nat} (hm : m ≤ 3) (ht : t ≤ 3) : af m c0 t ≤ 37 * c0 + 28 := by
  have h1 := lf1 m c0
  have h2 := lf_le (c0 := c0) (t := 2) hm
  have h3 := lf_le (c0 := c0) (t := 3) hm
  have e1 : af m c0 1 = c0 + lf m c0 1 + 2 := rfl
  have e2 : af m c0 2 = af m c0 1 + lf m c0 2 + 2 := rfl
  have e3 : af m c0 3 = af m c0 2 + lf m c0 3 + 2 := rfl
  match t, ht with
  | 0, _ => show c0 ≤ _; omega
  | 1, _ => omega
  | 2, _ => omega
  | 3, _ => omega
theorem lf_af (m c0 t : Nat) : lf m c0 t ≤ af m c0 t := by
  cases t with
  | zero => exact Nat.le_refl _
  | succ t => show lf m c0 (t + 1) ≤ af m c0 t + lf m c0 (t + 1) + 2; omega
structure OI (m c0 : Nat) (F : Mat) (t col : Nat) (lead : Nat → Nat) : Prop where
  herm : HermI t col m F lead
  entL : ∀ i, t ≤ i → i < m → ∀ k, (F i k).natAbs ≤ 2 ^ lf m c0 t
  entA : ∀ i, i < m → ∀ k, (F i k).natAbs ≤ 2 ^ af m c0 t
theorem OI.start {m c0 : Nat} {F : Mat} (h : Le (2 ^ c0) F) (lead : Nat → Nat) : OI m c0 F 0 0 lead := ⟨HermI.start m F lead, fun i _ _ k => h i k, fun i _ k => h i k⟩
theorem OI.skip {m c0 t col : Nat} {F : Mat} {lead : Nat → Nat} (h : OI m c0 F t col lead) (hz : ∀ i, t ≤ i → i < m → F i col = 0) : OI m c0 F t (col + 1) lead := ⟨h.herm.skip hz, h.entL, h.entA⟩
def swF (t b : Nat) (F : Mat) : Mat := Dfs (swD t b) F
theorem swF_t (t b k : Nat) (F : Mat) : swF t b F t k = F b k := by
  unfold swF swD
  by_cases e : b = t
  · rw [if_pos e, e]; rfl
  · rw [if_neg e]
    show (if t = b then F t k else if t = t then F b k else F t k) = F b k
    rw [if_neg (Ne.symm e), if_pos rfl]
theorem swF_other {t b j k : Nat} {F : Mat} (h1 : j ≠ t) (h2 : j ≠ b) : swF t b F j k = F j k := by
  unfold swF swD
  by_cases e : b = t
  · rw [if_pos e]; rfl
  · rw [if_neg e]
    show (if j = b then F t k else if j = t then F b k else F j k) = F j k
    rw [if_neg h2, if_neg h1]
theorem swF_b {t b k : Nat} {F : Mat} (h : b ≠ t) : swF t b F b k = F t k := by
  unfold swF swD
  rw [if_neg h]
  show (if b = b then F t k else _) = F t k
  rw [if_pos rfl]
/-- the column done: its pivot (at b) is led to t, the rows above are reduced -/
theorem OI.step {m c0 t col G mu j0 b : Nat} {F0 F : Mat} {fst : Bool} {lead : Nat → Nat} (h : OI m c0 F0 t col lead) (B : BelO (lf m c0 t) t col m F0 F fst G mu j0) (tb : t ≤ b) (bm : b < m) (hb : F b col ≠ 0) (hz : ∀ j, t ≤ j → j < m → j ≠ b → F j col = 0) :
    OI m c0 (upF t col (swF t b F)) (t + 1) (col + 1) (fun i => if i = t then col else lead i) ∧ (swF t b F t col).natAbs ≤ 2 ^ lf m c0 t ∧ swF t b F t col ≠ 0 ∧ (∀ i, i < m → ∀ k, (swF t b F i k).natAbs ≤ 2 ^ (af m c0 t + lf m c0 (t + 1))) := by
  have ht : t < m := by omega
  -- what stands from t on is below the next bound
  have hl : ∀ i, t ≤ i → i < m → ∀ k, (F i k).natAbs ≤ 2 ^ lf m c0 (t + 1) := fun i i1 i2 k => by
    have h1 := B.ent i i1 i2 k
    rcases B.st with ⟨_, _, hG, _, _⟩ | ⟨_, htm, h1p⟩
    · rw [hG, Nat.mul_one] at h1
      refine Nat.le_trans h1 (Nat.pow_le_pow_right (by decide) ?_)
      show lf m c0 t ≤ (if t + 1 < m then 4 * lf m c0 t + 2 else lf m c0 t)
      split <;> omega
    · refine Nat.le_trans h1 ?_
      have e : lf m c0 (t + 1) = lf m c0 t + (3 * lf m c0 t + 2) := by
        show (if t + 1 < m then 4 * lf m c0 t + 2 else lf m c0 t) = _
        rw [if_pos htm]; omega
      rw [e, Nat.pow_add]
      exact Nat.mul_le_mul_left _ (Nat.le_trans h1p.bound (Nat.le_of_lt (L3_lt _)))
  have lt0 : ∀ i, i < t → ∀ k, swF t b F i k = F0 i k := fun i hi k => by rw [swF_other (by omega) (by omega)]; exact B.lt i hi k
  have sw : ∀ i, t ≤ i → i < m → ∃ j, t ≤ j ∧ j < m ∧ ∀ k, swF t b F i k = F j k := fun i i1 i2 => by
    by_cases e : i = t
    · subst e; exact ⟨b, tb, bm, fun k => swF_t _ _ _ _⟩
    · by_cases e2 : i = b
      · subst e2; exact ⟨t, Nat.le_refl _, ht, fun k => swF_b e⟩
      · exact ⟨i, i1, i2, fun k => swF_other e e2⟩
  have slt : ∀ i, t ≤ i → i < m → ∀ k, (swF t b F i k).natAbs ≤ 2 ^ lf m c0 (t + 1) := fun i i1 i2 k => by
    obtain ⟨j, j1, j2, e⟩ := sw i i1 i2
    rw [e]; exact hl j j1 j2 k
  have hpiv : (F b col).natAbs ≤ 2 ^ lf m c0 t := by
    rcases B.st with ⟨_, _, _, h0, _⟩ | ⟨_, _, h1⟩
    · exact h0.le b tb bm
    · by_cases e : b = j0
      · have := h1.pC
        rw [← h1.hp, ← e] at this
        exact this
      · exact Nat.le_trans (Nat.le_of_lt (h1.lt b tb bm e)) h1.pC
  have hst : swF t b F t col ≠ 0 := by rw [swF_t]; exact hb
  obtain ⟨g1, g2, g3⟩ := h.herm.step (F := swF t b F) ht lt0 (fun i i1 i2 k hk => by
    obtain ⟨j, j1, j2, e⟩ := sw i i1 i2
    rw [e]
    exact B.zer k (fun i' a1 a2 => h.herm.zero i' a1 a2 k hk) j j1 j2) hst (fun j j1 j2 => by
    by_cases e2 : j = b
    · subst e2
      rw [swF_b (by omega)]
      exact hz t (Nat.le_refl _) ht (by omega)
    · rw [swF_other (by omega) e2]
      exact hz j (by omega) j2 e2)
  have allA : ∀ i, i < m → ∀ k, (swF t b F i k).natAbs ≤ 2 ^ (af m c0 t + lf m c0 (t + 1)) := fun i hi k => by
    by_cases e : i < t
    · rw [lt0 i e]
      exact Nat.le_trans (h.entA i hi k) (Nat.pow_le_pow_right (by decide) (Nat.le_add_right _ _))
    · exact Nat.le_trans (slt i (by omega) hi k) (Nat.pow_le_pow_right (by decide) (Nat.le_add_left _ _))
  have tuE : ∀ i, t ≤ i → i < m → ∀ k, (Dfs (tuD t col (swF t b F)) (swF t b F) i k).natAbs ≤ 2 ^ lf m c0 (t + 1) := fun i i1 i2 k => by
    by_cases e : i = t
    · unfold tuD
      by_cases e2 : swF t b F t col < 0
      · rw [if_pos e2]
        show (if i = t then -(swF t b F t k) else swF t b F i k).natAbs ≤ _
        rw [if_pos e, Int.natAbs_neg]
        exact slt t (Nat.le_refl _) ht k
      · rw [if_neg e2]; exact slt i i1 i2 k
    · rw [tuD_ne e]; exact slt i i1 i2 k
  refine ⟨⟨g1, fun i i1 i2 k => ?_, fun i hi k => ?_⟩, by rw [swF_t]; exact hpiv, hst, allA⟩
  · rw [upF_ge _ (by omega)]
    exact tuE i (by omega) i2 k
  · by_cases e : i < t
    · rw [upF_lt _ e]
      have hq : ((swF t b F i col).fdiv (Dfs (tuD t col (swF t b F)) (swF t b F) t col)).natAbs ≤ 2 ^ af m c0 t + 1 := by
        refine fdiv_le2 ?_ (by rw [tuD_col]; omega)
        rw [lt0 i e]; exact h.entA i hi col
      have h1 : (swF t b F i k).natAbs ≤ 2 ^ af m c0 t := by rw [lt0 i e]; exact h.entA i hi k
      have h2 := tuE t (Nat.le_refl _) ht k
      have h3 := Int.natAbs_sub_le (swF t b F i k) ((swF t b F i col).fdiv (Dfs (tuD t col (swF t b F)) (swF t b F) t col) * Dfs (tuD t col (swF t b F)) (swF t b F) t k)
      rw [Int.natAbs_mul] at h3
      have h4 := Nat.mul_le_mul hq h2
      have h5 : (2 ^ af m c0 t + 1) * 2 ^ lf m c0 (t + 1) = 2 ^ (af m c0 t + lf m c0 (t + 1)) + 2 ^ lf m c0 (t + 1) := by rw [Nat.add_mul, Nat.one_mul, ← Nat.pow_add]
      have h6 : 2 ^ af m c0 t ≤ 2 ^ (af m c0 t + lf m c0 (t + 1)) := Nat.pow_le_pow_right (by decide) (Nat.le_add_right _ _)
      have h7 : 2 ^ lf m c0 (t + 1) ≤ 2 ^ (af m c0 t + lf m c0 (t + 1)) := Nat.pow_le_pow_right (by decide) (Nat.le_add_left _ _)
      have h8 : 2 ^ af m c0 (t + 1) = 4 * 2 ^ (af m c0 t + lf m c0 (t + 1)) := by
        show 2 ^ (af m c0 t + lf m c0 (t + 1) + 2) = _
        rw [Nat.pow_succ, Nat.pow_succ]; omega
      omega
    · rw [upF_ge _ (by omega)]
      refine Nat.le_trans (tuE i (by omega) hi k) (Nat.pow_le_pow_right (by decide) ?_)
      show lf m c0 (t + 1) ≤ af m c0 t + lf m c0 (t + 1) + 2
      omega
end SF
end
section
set_option maxHeartbeats 4000000
namespace SF
open PySem PySem.Spec PyProof.Rows L2
theorem RowsLL.put {H : Hp} {a : Addr} {vs : List V} {rs : List (List Int)} {i : Nat} {D : Addr} {r : List Int} (hp : Paired (RowL H a a) vs rs) (hD : H D = some (.lst (r.map V.int))) (nD : D ≠ a) : RowsLL (upd H a (.lst (vs.set i (.ref D)))) a a (rs.set i r) :=
  ⟨_, upd_same, Paired.set ⟨D, rfl, nD, nD, by rw [upd_ne nD]; exact hD⟩ i (Paired.imp (fun _ _ ⟨p, e, n1, n2, h⟩ => ⟨p, e, n1, n2, by rw [upd_ne n1]; exact h⟩) hp)⟩
theorem RowsLL.same {H H' : Hp} {a : Addr} {rs : List (List Int)} (s : Same H H') (h : RowsLL H a a rs) : RowsLL H' a a rs := let ⟨vs, e, p⟩ := h; ⟨vs, s _ _ e, Paired.imp (fun _ _ ⟨q, e, n1, n2, z⟩ => ⟨q, e, n1, n2, s _ _ z⟩) p⟩
theorem RowsLL.row {H : Hp} {a : Addr} {rs : List (List Int)} {m n i : Nat} (h : RowsLL H a a rs) (sh : Shape m n rs) (hi : i < m) : ∃ vs p, H a = some (.lst vs) ∧ vs.length = m ∧ Paired (RowL H a a) vs rs ∧ vs[i]? = some (.ref p) ∧ p ≠ a ∧ H p = some (.lst ((rs.getD i []).map V.int)) := by
  obtain ⟨vs, e, hp⟩ := h
  obtain ⟨v, ev, p, rfl, n1, _, h3⟩ := Paired.get2 hp (getD_row (show i < rs.length by rw [sh.1]; exact hi))
  exact ⟨vs, p, e, (Paired.length hp).trans sh.1, hp, ev, n1, h3⟩
theorem rdL {K : PySem.W.Frag} {H : Hp} {a : Addr} {rs : List (List Int)} {m n i k : Nat} (h : RowsLL H a a rs) (sh : Shape m n rs) (hi : i < m) (hk : k < n) :
    ∃ vs p, SqL K H a vs ∧ atI vs (i : Int) = some (.ref p) ∧ SqL K H p ((rs.getD i []).map V.int) ∧ atI ((rs.getD i []).map V.int) (k : Int) = some (.int (mg2 rs i k)) := by
  obtain ⟨vs, p, e, _, _, ev, _, h3⟩ := h.row sh hi
  exact ⟨vs, p, SqL.of e, atI_nat ev, SqL.of h3, at_vg (by rw [sh.row hi]; exact hk)⟩
theorem someN_nodup (F : Mat) (col lo n : Nat) : (someN F col lo n).Nodup := by
  unfold someN
  refine List.Pairwise.map _ (fun a b h => ?_) (List.Pairwise.filter _ List.nodup_range)
  omega
theorem filtN (p : Nat → Bool) (l : List Nat) : ((List.range l.length).filter fun i => p (l.getD i 0)).map (fun i => ((l.getD i 0 : Nat) : Int)) = iN (l.filter p) := by
  have h : (List.range l.length).map (fun i => l.getD i 0) = l := by
    apply List.ext_getElem?
    intro i
    by_cases h : i < l.length
    · rw [List.getElem?_map, List.getElem?_range h]
      show some (l.getD i 0) = l[i]?
      rw [List.getD_eq_getElem?_getD, List.getElem?_eq_getElem h]; rfl
    · rw [List.getElem?_eq_none (by simp; omega), List.getElem?_eq_none (by omega)]
  rw [show l.filter p = (((List.range l.length).map (fun i => l.getD i 0)).filter p) by rw [h], List.filter_map]
  unfold iN
  rw [List.map_map]
  rfl
theorem someN_pass {F F' : Mat} {col lo n : Nat} (h : ∀ j, lo ≤ j → j < lo + n → F j col = 0 → F' j col = 0) : (someN F col lo n).filter (fun j => F' j col != 0) = someN F' col lo n := by
  unfold someN
  rw [List.filter_map, List.filter_filter]
  congr 1
  apply List.filter_congr
  intro i hi
  have hi := List.mem_range.mp hi
  show ((F' (lo + i) col != 0) && (F (lo + i) col != 0)) = (F' (lo + i) col != 0)
  by_cases z : F (lo + i) col = 0
  · rw [z, h (lo + i) (by omega) (by omega) z]; rfl
  · have : (F (lo + i) col != 0) = true := by simpa using z
    rw [this, Bool.and_true]
theorem mapInt_nat {l : List Nat} {i : Nat} {x : V} (h : ((iN l).map V.int)[i]? = some x) : ∃ j, l[i]? = some j ∧ l.getD i 0 = j ∧ x = .int ((j : Nat) : Int) := by
  obtain ⟨z, ez, rfl⟩ := mapInt_get h
  unfold iN at ez
  rw [List.getElem?_map] at ez
  cases e : l[i]? with
  | none => rw [e] at ez; cases ez
  | some j =>
    rw [e] at ez
    refine ⟨j, rfl, by rw [List.getD_eq_getElem?_getD, e]; rfl, ?_⟩
    rw [← Option.some.inj ez]
theorem iN_len (l : List Nat) : ((iN l).map V.int).length = l.length := by unfold iN; simp
theorem set_self {M : List (List Int)} {i : Nat} (h : i < M.length) : M.set i (M.getD i []) = M := by
  apply List.ext_getElem?
  intro j
  by_cases e : i = j
  · subst e; rw [List.getElem?_set_self h, getD_row h]
  · rw [List.getElem?_set_ne e]
theorem swap_app {M : List (List Int)} {t b : Nat} (ht : t < M.length) : (M.set t (M.getD b [])).set b (M.getD t []) = acts (swD t b) M := by
  unfold swD
  by_cases e : b = t
  · subst e; rw [if_pos rfl, List.set_set, set_self ht]; rfl
  · rw [if_neg e]; rfl
theorem sub_row (q : Int) (r s : List Int) : List.zipWith (fun x y => x - q * y) r s = rowAdd (0 - q) r s := by
  unfold rowAdd
  congr 1
  funext x y
  rw [Int.zero_sub, Int.neg_mul]
  omega
section
variable {P : Program} {w : World} {K : PySem.W.Frag} {mg : Str → Option Value} {base : Heap} {f : Addr} {fd : FuncData}
/-! ### _law_stepped: _law_rows 0 _law_columns 1 _law_ahead 2 _law_column 3 _law_some 4 _law_best 5 _law_k 6 _law_often 7 _law_row_here 8 _law_one 9 _law_other 10 _law_number_here 11; cells _law_rows _law_column _law_best _law_often -/
abbrev st_law_stepped : Stmt := topS 51
abbrev sl_law_stepped : List Str := ["_law_rows", "_law_columns", "_law_ahead", "_law_column", "_law_some", "_law_best", "_law_k", "_law_often", "_law_row_here", "_law_one", "_law_other", "_law_number_here"]
theorem sc_law_stepped : FnScope sl_law_stepped ["_law_rows", "_law_columns"] (defScope st_law_stepped) := ⟨rfl, rfl, rfl, by decide +kernel, rfl, by decide +kernel, by decide +kernel⟩
-- calls ; built-ins abs len list min range tuple zip; level 1
def sp_law_stepped (K : PySem.W.Frag) : Sp := fun vs H Q _ => ∃ (x : V) (cols n m c0 : Nat) (M0 : List (List Int)), vs = [x, .int (cols : Nat)] ∧ RowsLT K H x M0 ∧ Shape m n M0 ∧ cols ≤ n ∧ m ≤ 3 ∧ n ≤ 1000 ∧ Le (2 ^ c0) (mg2 M0) ∧ 16 * c0 + 10 ≤ 8998 ∧
  ∀ H' v es t lead, Same H H' → RowsA K H' v (acts es M0) → (∀ d ∈ es, d.ok m) → HermI t cols m (mg2 (acts es M0)) lead → Le (2 ^ (37 * c0 + 28)) (mg2 (acts es M0)) → Q v H'
theorem ok_law_stepped (M : Blt mg) (F : Fun K "_law_stepped" "_law_stepped" st_law_stepped f fd) (hm : mg "_law_stepped" = some (.ref f)) : Cal P w K mg base 1 "_law_stepped" ["_law_rows", "_law_columns"] (sp_law_stepped K) := by
  refine ⟨f, fd, F.ok sc_law_stepped (fun vs H Q E h => ?_) (fun cdv A outer s H vs Q E hr h => ?_), hm, F.kp, F.binds fun _ _ _ _ _ _ us hl => match us, hl with | [_, _], _ => rfl⟩
  · obtain ⟨_, _, _, _, _, _, rfl, _⟩ := h
    rfl
  · obtain ⟨x, cols, n, m, c0, M0, rfl, ⟨a0, us, rfl, e0, hpu⟩, sh, hcn, hm3, hn, hle, hc0, q⟩ := h
    refine ⟨_, (pss_cons (ps_set (i := 0) sc_law_stepped.nd rfl (Or.inr rfl) (pe_lc (own := [("_law_row_here", 8)]) rfl sc_law_stepped.nd (pi_listK (K := K) rfl (pv 0)) (blkOk_by (N := sl_law_stepped) (sc := defScope st_law_stepped) (by decide +kernel)) (fun _ _ _ _ _ => (pg_name (i := 8) sc_law_stepped.nd rfl (.inl rfl) (.inr rfl))) (fun _ _ _ _ _ => pts_nil) (fun _ _ _ _ _ => (pe_callTy (T := "list") (r := rListOf K) call_lst (by rfl) M.list (by decide +kernel) (pa_cons (pv 8) pa_nil)))))
      (pss_cons (ps_set (i := 2) sc_law_stepped.nd rfl (Or.inl rfl) pe_int)
      (pss_cons (ps_for PassesOwn.never rfl (pi_range1 (by rfl) M.range (pa_cons (pv 1) pa_nil)) (pg_name (i := 3) sc_law_stepped.nd rfl (.inr rfl))
        (pss_cons (ps_setLc (i := 4) (own := [("_law_k", 6)]) rfl sc_law_stepped.nd rfl rfl (sw_true rfl rfl rfl (by decide +kernel)) (pi_range2 (by rfl) M.range (pa_cons (pv 2) (pa_cons (pe_callB (id := "len") (r := rLenS K) call_lenS (by rfl) M.len (by decide +kernel) (pa_cons (pv 0) pa_nil)) pa_nil))) (blkOk_by (N := sl_law_stepped) (sc := defScope st_law_stepped) (by decide +kernel)) (fun _ _ _ _ _ => (pg_name (i := 6) sc_law_stepped.nd rfl (.inl rfl) (.inr rfl))) (fun _ _ _ _ _ => (pts_one (pt_cmpR op_ne (pe_ix (r := rIxL K) ix_list (pe_ix (r := rIxL K) ix_list (pv 0) (pv 6) (fun _ _ => rfl)) (pv 3) (fun _ _ => rfl)) pe_int (nomark _)))) (fun _ _ _ _ _ => (pv 6)))
        (pss_cons (ps_while PassesOwn.never (pt_cmpR op_gt (pe_callB (id := "len") (r := rLenS K) call_lenS (by rfl) M.len (by decide +kernel) (pa_cons (pv 4) pa_nil)) pe_int (nomark _))
          (pss_cons (ps_set (i := 5) sc_law_stepped.nd rfl (Or.inr rfl) (pe_ix (r := rIxT K) ix_tup (pe_callB (id := "min") (r := rMinP K) (cr_minP rfl hr.units) (by rfl) M.min (by decide +kernel) (pa_cons (pe_lc (own := [("_law_k", 6)]) rfl sc_law_stepped.nd (pi_listK (K := K) rfl (pv 4)) (blkOk_by (N := sl_law_stepped) (sc := defScope st_law_stepped) (by decide +kernel)) (fun _ _ _ _ _ => (pg_name (i := 6) sc_law_stepped.nd rfl (.inl rfl) (.inr rfl))) (fun _ _ _ _ _ => pts_nil) (fun _ _ _ _ _ => (pe_tup (pa_cons (pe_callB (id := "abs") call_abs (by rfl) M.abs (by decide +kernel) (pa_cons (pe_ix (r := rIxL K) ix_list (pe_ix (r := rIxL K) ix_list (pv 0) (pv 6) (fun _ _ => rfl)) (pv 3) (fun _ _ => rfl)) pa_nil)) (pa_cons (pv 6) pa_nil))))) pa_nil)) pe_int (fun _ _ => rfl)))
          (pss_cons (ps_for PassesOwn.never rfl (pi_listK (K := K) rfl (pe_lc (own := [("_law_k", 6)]) rfl sc_law_stepped.nd (pi_listK (K := K) rfl (pv 4)) (blkOk_by (N := sl_law_stepped) (sc := defScope st_law_stepped) (by decide +kernel)) (fun _ _ _ _ _ => (pg_name (i := 6) sc_law_stepped.nd rfl (.inl rfl) (.inr rfl))) (fun _ _ _ _ _ => (pts_one (pt_cmpR op_ne (pv 6) (pv 5) (nomark _)))) (fun _ _ _ _ _ => (pv 6)))) (pg_name (i := 6) sc_law_stepped.nd rfl (.inl rfl))
            (pss_cons (ps_set (i := 7) sc_law_stepped.nd rfl (Or.inr rfl) (pe_op op_fdivZ (pe_ix (r := rIxL K) ix_list (pe_ix (r := rIxL K) ix_list (pv 0) (pv 6) (fun _ _ => rfl)) (pv 3) (fun _ _ => rfl)) (pe_ix (r := rIxL K) ix_list (pe_ix (r := rIxL K) ix_list (pv 0) (pv 5) (fun _ _ => rfl)) (pv 3) (fun _ _ => rfl))))
            (pss_one (ps_asg (pe_lc (own := [("_law_one", 9), ("_law_other", 10)]) rfl sc_law_stepped.nd (pi_zip (by rfl) M.zip (pa_cons (pe_ix (r := rIxL K) ix_list (pv 0) (pv 6) (fun _ _ => rfl)) (pa_cons (pe_ix (r := rIxL K) ix_list (pv 0) (pv 5) (fun _ _ => rfl)) pa_nil))) (blkOk_by (N := sl_law_stepped) (sc := defScope st_law_stepped) (by decide +kernel)) (fun _ _ _ _ _ => (pg_tupK (K := K) (n := 2) rfl rfl (pgs_cons (pg_name (i := 9) sc_law_stepped.nd rfl (.inl rfl) (.inr rfl)) (pgs_cons (pg_name (i := 10) sc_law_stepped.nd rfl (.inl rfl) (.inr rfl)) pgs_nil)))) (fun _ _ _ _ _ => pts_nil) (fun _ _ _ _ _ => (pe_op op_sub (pv 9) (pe_op op_mulX (pv 7) (pv 10))))) (pg_sub (pv 0) (pv 6) set_list)))))
          (pss_one (ps_setLc (i := 4) (own := [("_law_k", 6)]) rfl sc_law_stepped.nd rfl rfl (sw_true rfl rfl rfl (by decide +kernel)) (pi_listK (K := K) rfl (pv 4)) (blkOk_by (N := sl_law_stepped) (sc := defScope st_law_stepped) (by decide +kernel)) (fun _ _ _ _ _ => (pg_name (i := 6) sc_law_stepped.nd rfl (.inl rfl) (.inr rfl))) (fun _ _ _ _ _ => (pts_one (pt_cmpR op_ne (pe_ix (r := rIxL K) ix_list (pe_ix (r := rIxL K) ix_list (pv 0) (pv 6) (fun _ _ => rfl)) (pv 3) (fun _ _ => rfl)) pe_int (nomark _)))) (fun _ _ _ _ _ => (pv 6)))))))
        (pss_one (ps_if (pt_cmpR (r := rNeD K) (op_neD hr.units) (pv 4) (pe_lst pa_nil) (nomark _))
          (pss_cons (ps_asg (pe_tup (pa_cons (pe_ix (r := rIxL K) ix_list (pv 0) (pe_ix (r := rIxL K) ix_list (pv 4) pe_int (fun _ _ => rfl)) (fun _ _ => rfl)) (pa_cons (pe_ix (r := rIxL K) ix_list (pv 0) (pv 2) (fun _ _ => rfl)) pa_nil))) (pg_tupK (K := K) (n := 2) rfl rfl (pgs_cons (pg_sub (pv 0) (pv 2) set_list) (pgs_cons (pg_sub (pv 0) (pe_ix (r := rIxL K) ix_list (pv 4) pe_int (fun _ _ => rfl)) set_list) pgs_nil))))
          (pss_cons (ps_if (pt_cmpR op_lt (pe_ix (r := rIxL K) ix_list (pe_ix (r := rIxL K) ix_list (pv 0) (pv 2) (fun _ _ => rfl)) (pv 3) (fun _ _ => rfl)) pe_int (nomark _))
            (pss_one (ps_asg (pe_lc (own := [("_law_number_here", 11)]) rfl sc_law_stepped.nd (pi_listK (K := K) rfl (pe_ix (r := rIxL K) ix_list (pv 0) (pv 2) (fun _ _ => rfl))) (blkOk_by (N := sl_law_stepped) (sc := defScope st_law_stepped) (by decide +kernel)) (fun _ _ _ _ _ => (pg_name (i := 11) sc_law_stepped.nd rfl (.inl rfl) (.inr rfl))) (fun _ _ _ _ _ => pts_nil) (fun _ _ _ _ _ => (pe_op op_sub pe_int (pv 11)))) (pg_sub (pv 0) (pv 2) set_list)))
            pss_nil)
          (pss_cons (ps_for PassesOwn.never rfl (pi_range1 (by rfl) M.range (pa_cons (pv 2) pa_nil)) (pg_name (i := 6) sc_law_stepped.nd rfl (.inl rfl))
            (pss_cons (ps_set (i := 7) sc_law_stepped.nd rfl (Or.inr rfl) (pe_op op_fdivZ (pe_ix (r := rIxL K) ix_list (pe_ix (r := rIxL K) ix_list (pv 0) (pv 6) (fun _ _ => rfl)) (pv 3) (fun _ _ => rfl)) (pe_ix (r := rIxL K) ix_list (pe_ix (r := rIxL K) ix_list (pv 0) (pv 2) (fun _ _ => rfl)) (pv 3) (fun _ _ => rfl))))
            (pss_one (ps_asg (pe_lc (own := [("_law_one", 9), ("_law_other", 10)]) rfl sc_law_stepped.nd (pi_zip (by rfl) M.zip (pa_cons (pe_ix (r := rIxL K) ix_list (pv 0) (pv 6) (fun _ _ => rfl)) (pa_cons (pe_ix (r := rIxL K) ix_list (pv 0) (pv 2) (fun _ _ => rfl)) pa_nil))) (blkOk_by (N := sl_law_stepped) (sc := defScope st_law_stepped) (by decide +kernel)) (fun _ _ _ _ _ => (pg_tupK (K := K) (n := 2) rfl rfl (pgs_cons (pg_name (i := 9) sc_law_stepped.nd rfl (.inl rfl) (.inr rfl)) (pgs_cons (pg_name (i := 10) sc_law_stepped.nd rfl (.inl rfl) (.inr rfl)) pgs_nil)))) (fun _ _ _ _ _ => pts_nil) (fun _ _ _ _ _ => (pe_op op_sub (pv 9) (pe_op op_mulX (pv 7) (pv 10))))) (pg_sub (pv 0) (pv 6) set_list)))))
          (pss_one (ps_set (i := 2) sc_law_stepped.nd rfl (Or.inl rfl) (pe_op op_add (pv 2) pe_int))))))
          pss_nil)))))
      (pss_one (ps_ret (pe_callTy (T := "tuple") (r := rTupOf K) call_tup (by rfl) M.tuple (by decide +kernel) (pa_cons (pe_lc (own := [("_law_row_here", 8)]) rfl sc_law_stepped.nd (pi_listK (K := K) rfl (pv 0)) (blkOk_by (N := sl_law_stepped) (sc := defScope st_law_stepped) (by decide +kernel)) (fun _ _ _ _ _ => (pg_name (i := 8) sc_law_stepped.nd rfl (.inl rfl) (.inr rfl))) (fun _ _ _ _ _ => pts_nil) (fun _ _ _ _ _ => (pe_callTy (T := "tuple") (r := rTupOf K) call_tup (by rfl) M.tuple (by decide +kernel) (pa_cons (pv 8) pa_nil)))) pa_nil))))))), ?_⟩
    have hlen : us.length = m := (Paired.length hpu).trans sh.1
    have hnz : n < sizeLine := small1000 hn
    -- rows = [list(row) ..]
    refine ⟨_, rfl, a0, rfl, ⟨_, SqL.of e0⟩, fun a hD => ?_⟩
    refine lc_all walk_list hD (fun i v H' => ∃ p, v = .ref p ∧ p ≠ a ∧ H' p = some (.lst ((M0.getD i []).map V.int))) (fun i v H1 H2 h b ⟨p, e, n1, z⟩ => ⟨p, e, n1, b _ _ (by simp [n1]) z⟩) (fun H' s => s.seq (SqL.of e0)) (small1000 (by omega)) (fun i x H1 H' C hi sm hx' hy k => ?_) (fun H1 ys sm e hp2 => ?_) g_name
    · obtain ⟨rfl, ex⟩ := hy
      obtain ⟨r, er, b, rfl, hb⟩ := Paired.get hpu ex
      have hiT : i < M0.length := by rw [sh.1]; omega
      obtain rfl : r = M0.getD i [] := by
        rw [getD_row hiT] at er
        exact (Option.some.inj er).symm
      refine ⟨rfl, _, rfl, b, _, rfl, .inr (seqT_same sm hb), fun l nl => k _ _ (same1 nl) ⟨l, rfl, ?_, upd_same⟩⟩
      obtain ⟨xs, ex⟩ := hx'
      exact (ne_of_none ex nl).symm
    · have hly : ys.length = m := by
        have := Paired.length hp2
        rw [List.length_range] at this
        omega
      have R0 : RowsLL H1 a a M0 := ⟨ys, e, paired_of (by rw [hly, sh.1]) fun i y r ey er => by
        obtain ⟨hi, p, rfl, n1, e1⟩ := paired_range hp2 ey
        have hiT : i < M0.length := by rw [sh.1]; omega
        rw [getD_row hiT] at er
        cases er
        exact ⟨p, rfl, n1, n1, e1⟩⟩
      refine ⟨_, rfl, (cols : Nat), rfl, by omega, by omega, ?_⟩
      refine for_it walk_rg (fun col σ H2 => ∃ t lead rs es x3 x4 x5 x6 x7 x8 x9 x10 x11, σ = [some (.ref a), some (.int (cols : Nat)), some (.int ((t : Nat) : Int)), x3, x4, x5, x6, x7, x8, x9, x10, x11] ∧ Same H H2 ∧ RowsLL H2 a a rs ∧ (∀ d ∈ es, Deed.ok m d) ∧ rs = acts es M0 ∧ OI m c0 (mg2 rs) t col lead)
        ⟨0, fun _ => 0, M0, [], none, none, none, none, none, none, none, none, none, rfl, sm, R0, fun d h => by simp at h, rfl, OI.start hle _⟩ (fun _ _ _ _ _ => True.intro) ?_ ?_
      · rintro col x σ H2 H2' hcol ⟨t, lead, rs, es, x3, x4, x5, x6, x7, x8, x9, x10, x11, rfl, s2, R2, ok, rfl, O⟩ ⟨rfl, rfl⟩
        have hcol : col < cols := hcol
        have hcoln : col < n := by omega
        have htm := O.herm.tm
        have sh2 := acts_shape sh ok
        obtain ⟨vs2, ea2, hpv2⟩ := id R2
        have hl2 : vs2.length = m := (Paired.length hpv2).trans sh2.1
        -- some
        refine ⟨_, rfl, _, rfl, a, vs2, rfl, .inl (SqL.of ea2), (t : Nat), (vs2.length : Nat), rfl, ⟨by omega, by omega, by omega, by omega⟩, fun D hD => ?_⟩
        have n0 : (((vs2.length : Nat) : Int) - ((t : Nat) : Int)).toNat = m - t := by omega
        refine lc_flt walk_rg2 hD (fun i v _ => v = .int ((t + i : Nat) : Int)) (fun i => mg2 (acts es M0) (t + i) col != 0) (fun _ _ _ _ _ _ h => h) (fun _ _ => True.intro) (small1000 (by omega)) (fun i x H3 H' C N hi sm hx hy k kn => ?_) (fun H3 ys3 sm3 e3 hp3 => ?_)
        · obtain ⟨rfl, rfl⟩ := hy
          obtain ⟨vs, p, k1, k2, k3, k4⟩ := rdL (K := K) (R2.same sm) sh2 (show t + i < m by omega) hcoln
          refine ⟨rfl, _, rfl, _, rfl, a, vs, _, _, rfl, rfl, k1, k2, _, rfl, p, _, _, _, rfl, rfl, k3, k4, rfl, _, rfl, ite2 (fun h1 => ⟨_, rfl, k _ _ (Same.refl _) rfl ?_⟩) fun h1 => kn _ (Same.refl _) ?_⟩
          · exact (ne0 _).symm.trans h1
          · exact Bool.eq_false_iff.mpr fun z => h1 ((ne0 _).trans z)
        · have e4 : H3 D = some (.lst ((iN (someN (mg2 (acts es M0)) col t (m - t))).map V.int)) := by
            rw [e3]
            congr 2
            have key : ∀ {ys : List V} {l : List Nat}, Paired (fun y i => y = V.int ((t + i : Nat) : Int)) ys l → ys = (iN (l.map fun i => t + i)).map V.int := by
              intro ys l p
              induction p with
              | nil => rfl
              | cons r _ ih => rw [r, ih]; rfl
            have := key hp3
            rw [n0] at this
            exact this
          have nDa : D ≠ a := (ne_of_none ea2 hD).symm
          have bc : lf m c0 t ≤ 8998 := Nat.le_trans (lf_le hm3) hc0
          -- the while
          obtain ⟨W, hW⟩ : ∃ W : Nat → L2.St → Hp → Prop, W = fun mu σ H4 => ∃ (fst : Bool) (G j0 s : Nat) (es' : List Deed) (x5 x6 x7 x8 x9 x10 x11 : Option V), σ = [some (.ref a), some (.int (cols : Nat)), some (.int (t : Nat)), some (.int (col : Nat)), some (.ref s), x5, x6, x7, x8, x9, x10, x11] ∧ Same H H4 ∧ RowsLL H4 a a (acts es' M0) ∧ (∀ d ∈ es', Deed.ok m d) ∧
              BelO (lf m c0 t) t col m (mg2 (acts es M0)) (mg2 (acts es' M0)) fst G mu j0 ∧ s ≠ a ∧ H4 s = some (.lst ((iN (someN (mg2 (acts es' M0)) col t (m - t))).map V.int)) := ⟨_, rfl⟩
          refine ⟨W, ⟨2 ^ lf m c0 t + 1, ?_⟩, fun mu σ H4 hw => ?_⟩
          · rw [hW]
            exact ⟨true, 1, 0, D, es, x5, x6, x7, x8, x9, x10, x11, rfl, s2.trans sm3, R2.same sm3, ok, BelO.start O.entL, nDa, e4⟩
          clear e4 e3 hp3 nDa sm3
          rw [hW] at hw
          obtain ⟨fst, G, j0, s, es', x5, x6, x7, x8, x9, x10, x11, rfl, s4, R4, ok', B, nsa, es4⟩ := hw
          have sh4 := acts_shape sh ok'
          have haN : H a = none := by assumption
          refine ⟨_, rfl, s, _, rfl, .inl (SqL.of es4), _, _, rfl, rfl, _, rfl, ite2 (fun h1 => ?_) fun h1 => ?_⟩
          · -- the body
            have hlen2 : 2 ≤ (someN (mg2 (acts es' M0)) col t (m - t)).length := by
              have h1 : (1 : Int) < ((((iN (someN (mg2 (acts es' M0)) col t (m - t))).map V.int).length : Nat) : Int) := of_decide_eq_true h1
              rw [iN_len] at h1
              omega
            have hsl : (someN (mg2 (acts es' M0)) col t (m - t)).length ≤ 3 := by
              unfold someN
              rw [List.length_map]
              have := List.length_filter_le (fun i => mg2 (acts es' M0) (t + i) col != 0) (List.range (m - t))
              rw [List.length_range] at this
              omega
            have hnd := someN_nodup (mg2 (acts es' M0)) col t (m - t)
            have hmem : ∀ j, j ∈ someN (mg2 (acts es' M0)) col t (m - t) ↔ t ≤ j ∧ j < t + (m - t) ∧ mg2 (acts es' M0) j col ≠ 0 := fun j => mem_someN
            generalize hsn : someN (mg2 (acts es' M0)) col t (m - t) = sl at *
            refine ⟨fun σ' H' => ∃ mu', mu' < mu ∧ W mu' σ' H', fun σ' H' h => h, ?_⟩
            -- best
            refine ⟨_, rfl, s, rfl, ⟨_, SqL.of es4⟩, fun D hD => ?_⟩
            refine lc_all walk_list hD (fun i v H' => ∃ tt j, sl[i]? = some j ∧ v = .ref tt ∧ SqT K H' tt [.int ((mg2 (acts es' M0) j col).natAbs : Int), .int ((j : Nat) : Int)]) (fun i v H5 H6 h b ⟨tt, j, ej, e, z⟩ => ⟨tt, j, ej, e, (b.tk fun x m => by rw [List.mem_singleton.mp m]; exact h) _ _ z⟩) (fun H' s' => s'.seq (SqL.of es4)) (by rw [iN_len]; exact small1000 (by omega)) (fun i x H5 H' C hi sm hx' hy k => ?_) (fun H5 ys5 sm5 e5 hp5 => ?_) g_name
            · obtain ⟨rfl, ex⟩ := hy
              obtain ⟨j, ej, _, rfl⟩ := mapInt_nat ex
              have hj := (hmem j).mp (List.mem_of_getElem? ej)
              obtain ⟨vs, p, k1, k2, k3, k4⟩ := rdL (K := K) (R4.same sm) sh4 (show j < m by omega) hcoln
              refine ⟨rfl, _, rfl, _, rfl, a, vs, _, _, rfl, rfl, k1, k2, _, rfl, p, _, _, _, rfl, rfl, k3, k4, _, rfl, _, rfl, by show 2 ≤ sizeLine; decide, fun tt ntt => k _ _ (same1 ntt) ⟨tt, j, ej, rfl, ?_⟩⟩
              have eabs : (if mg2 (acts es' M0) j col < 0 then -(mg2 (acts es' M0) j col) else mg2 (acts es' M0) j col) = ((mg2 (acts es' M0) j col).natAbs : Int) := by
                by_cases hneg : mg2 (acts es' M0) j col < 0
                · rw [if_pos hneg]; omega
                · rw [if_neg hneg]; omega
              rw [← eabs]
              exact SqT.of upd_same
            · have hly5 : ys5.length = sl.length := by
                have := Paired.length hp5
                rw [List.length_range, iN_len] at this
                exact this
              have hpp : Paired (fun v (p : Int × Int) => ∃ t, v = V.ref t ∧ SqT K H5 t [.int p.1, .int p.2]) ys5 (sl.map fun (j : Nat) => (((mg2 (acts es' M0) j col).natAbs : Int), (j : Int))) := paired_of (by rw [hly5, List.length_map]) fun i y pp ey epp => by
                obtain ⟨_, tt, j, ej, rfl, h⟩ := paired_range hp5 ey
                rw [List.getElem?_map, ej] at epp
                cases epp
                exact ⟨tt, rfl, h⟩
              refine ⟨D, ys5, _, rfl, SqL.of e5, fun z => ?_, hpp, fun i v pp ev epp hmin => ?_⟩
              · have : sl.length = 0 := by rw [← List.length_map (as := sl) (f := fun (j : Nat) => (((mg2 (acts es' M0) j col).natAbs : Int), (j : Int))), z]; rfl
                omega
              obtain ⟨_, tt, b, eb, rfl, hbt⟩ := paired_range hp5 ev
              rw [List.getElem?_map, eb] at epp
              cases epp
              have hbs := List.mem_of_getElem? eb
              obtain ⟨tb, bm', hb⟩ := (hmem b).mp hbs
              have bm : b < m := by omega
              have hmin' : ∀ j, t ≤ j → j < m → mg2 (acts es' M0) j col ≠ 0 → (mg2 (acts es' M0) b col).natAbs ≤ (mg2 (acts es' M0) j col).natAbs := fun j j1 j2 jz => by
                have := hmin _ (List.mem_map.mpr ⟨j, (hmem j).mpr ⟨j1, by omega, jz⟩, rfl⟩)
                have this : ((mg2 (acts es' M0) b col).natAbs : Int) ≤ ((mg2 (acts es' M0) j col).natAbs : Int) := this
                omega
              refine ⟨tt, _, 1, _, rfl, rfl, hbt, rfl, ?_⟩
              -- the others
              have es5 := sm5 _ _ es4
              refine ⟨_, rfl, s, rfl, ⟨_, SqL.of es5⟩, fun D2 hD2 => ?_⟩
              refine lc_flt walk_list hD2 (RInt fun i => ((sl.getD i 0 : Nat) : Int)) (fun i => sl.getD i 0 != b) (rInt_keep _) (fun H' s' => s'.seq (SqL.of es5)) (by rw [iN_len]; exact small1000 (by omega)) (fun i x H6 H' C N hi sm hx hy k kn => ?_) (fun H6 ys6 sm6 e6 hp6 => ?_)
              · obtain ⟨rfl, ex⟩ := hy
                obtain ⟨j, ej, ejd, rfl⟩ := mapInt_nat ex
                have ebq : (!decide (V.int ((j : Nat) : Int) = V.int ((b : Nat) : Int))) = (sl.getD i 0 != b) := by
                  rw [ejd]
                  by_cases z : j = b
                  · subst z; simp
                  · have : ¬ ((j : Nat) : Int) = ((b : Nat) : Int) := by omega
                    simp [z, this]
                refine ⟨rfl, _, rfl, _, rfl, rfl, _, rfl, ite2 (fun g1 => ⟨_, rfl, k _ _ (Same.refl _) (by show V.int ((j : Nat) : Int) = V.int ((sl.getD i 0 : Nat) : Int); rw [ejd]) (ebq.symm.trans g1)⟩) fun g1 => kn _ (Same.refl _) (Bool.eq_false_iff.mpr fun z => g1 (ebq.trans z))⟩
              · have e7 := ints_of hp6
                rw [iN_len, filtN (fun j => j != b)] at e7
                rw [e7] at e6
                have hLm : ∀ j, j ∈ sl.filter (fun j => j != b) ↔ (t ≤ j ∧ j < m ∧ mg2 (acts es' M0) j col ≠ 0 ∧ j ≠ b) := fun j => by
                  rw [List.mem_filter, hmem]
                  constructor
                  · rintro ⟨⟨a1, a2, a3⟩, a4⟩
                    exact ⟨a1, by omega, a3, by simpa using a4⟩
                  · rintro ⟨a1, a2, a3, a4⟩
                    exact ⟨⟨a1, by omega, a3⟩, by simpa using a4⟩
                have hLn : (sl.filter (fun j => j != b)).Nodup := List.Pairwise.filter _ hnd
                have hLx : ∃ x, x ∈ sl.filter (fun j => j != b) := by
                  have h0 : sl[0]? = some (sl[0]'(by omega)) := List.getElem?_eq_getElem _
                  have h1 : sl[1]? = some (sl[1]'(by omega)) := List.getElem?_eq_getElem _
                  by_cases z : sl[0]'(by omega) = b
                  · refine ⟨sl[1]'(by omega), List.mem_filter.mpr ⟨List.getElem_mem _, ?_⟩⟩
                    have : sl[0]'(by omega) ≠ sl[1]'(by omega) := fun w => by
                      have := (List.getElem_inj hnd).mp w
                      omega
                    simp only [bne_iff_ne, ne_eq]
                    intro w
                    exact this (z.trans w.symm)
                  · exact ⟨sl[0]'(by omega), List.mem_filter.mpr ⟨List.getElem_mem _, by simpa using z⟩⟩
                obtain ⟨x0, hx0⟩ := hLx
                generalize sl.filter (fun j => j != b) = L at e6 hLm hLn hx0
                obtain ⟨qm, G', mu', hC, hq1, hqL, hmu, B'⟩ := B.turn tb bm hb hmin' hLm hx0
                have bL : b ∉ L := fun z => ((hLm b).mp z).2.2.2 rfl
                have F9 : Bt 9000 (mg2 (acts es' M0) b col) := by
                  unfold Bt
                  exact Nat.lt_of_le_of_lt hC (Nat.pow_lt_pow_right (by decide) (by omega))
                have rowB : ∀ k, Bt (4 * lf m c0 t + 3) (mg2 (acts es' M0) b k) := fun k => by
                  have h1 := B.ent b tb bm k
                  have h2 := Nat.mul_le_mul_left (2 ^ lf m c0 t) (Nat.le_trans B.G_le (Nat.le_of_lt (L3_lt (lf m c0 t))))
                  rw [← Nat.pow_add] at h2
                  unfold Bt
                  refine Nat.lt_of_le_of_lt (Nat.le_trans h1 h2) (Nat.pow_lt_pow_right (by decide) (by omega))
                have nD2a : D2 ≠ a := by
                  obtain ⟨vs, ea, _⟩ := R4
                  exact (ne_of_none (sm5 _ _ ea) hD2).symm
                refine ⟨D2, rfl, ⟨_, SqL.of e6⟩, ?_⟩
                have s56 := sm5.trans sm6
                refine for_it walk_list (fun i σ H7 => ∃ es2 y6 y7 y8 y9 y10 y11, σ = [some (.ref a), some (.int (cols : Nat)), some (.int (t : Nat)), some (.int (col : Nat)), some (.ref s), some (.int (b : Nat)), y6, y7, y8, y9, y10, y11] ∧ Same H H7 ∧ RowsLL H7 a a (acts es2 M0) ∧ (∀ d ∈ es2, Deed.ok m d) ∧
                    mg2 (acts es2 M0) = passF b col (L.take i) (mg2 (acts es' M0)) ∧ H7 s = some (.lst ((iN sl).map V.int)) ∧ H7 D2 = some (.lst ((iN L).map V.int)))
                  ⟨es', x6, x7, x8, x9, x10, x11, rfl, s4.trans s56, R4.same s56, ok', by rw [List.take_zero, passF_nil], sm6 _ _ es5, e6⟩ (fun i σ H7 _ ⟨_, _, _, _, _, _, _, _, _, _, _, _, _, z⟩ => SqL.of z) ?_ ?_
                · rintro i x σ H7 H7' hi ⟨es2, y6, y7, y8, y9, y10, y11, rfl, s7, R7, ok7, eM7, es7, eD7⟩ ⟨rfl, ex⟩
                  obtain ⟨k, ek, _, rfl⟩ := mapInt_nat ex
                  have hkL := List.mem_of_getElem? ek
                  obtain ⟨k1', km, kz, kb⟩ := (hLm k).mp hkL
                  have hi' := (List.getElem?_eq_some_iff.mp ek).1
                  have hknt : k ∉ L.take i := fun z => by
                    obtain ⟨i', hi1, hi2⟩ := List.mem_iff_getElem.mp z
                    rw [List.getElem_take] at hi2
                    rw [List.length_take] at hi1
                    have e2 := (List.getElem?_eq_some_iff.mp ek).2
                    have := (List.getElem_inj hLn).mp (hi2.trans e2.symm)
                    omega
                  have hbnt : b ∉ L.take i := fun z => bL (List.mem_of_mem_take z)
                  have sh7 := acts_shape sh ok7
                  have eMk : mg2 (acts es2 M0) k col = mg2 (acts es' M0) k col := by rw [eM7, passF_out _ hknt]
                  have eMb : ∀ c, mg2 (acts es2 M0) b c = mg2 (acts es' M0) b c := fun c => by rw [eM7, passF_out _ hbnt]
                  obtain ⟨us1, p1, a1, a2, a3, a4⟩ := rdL (K := K) R7 sh7 km hcoln
                  obtain ⟨us2, p2, b1, b2, b3, b4⟩ := rdL (K := K) R7 sh7 bm hcoln
                  rw [eMk] at a4
                  rw [eMb] at b4
                  refine ⟨_, rfl, _, rfl, a, us1, _, _, rfl, rfl, a1, a2, _, rfl, p1, _, _, _, rfl, rfl, a3, a4, _, rfl, _, rfl, a, us2, _, _, rfl, rfl, b1, b2, _, rfl, p2, _, _, _, rfl, rfl, b3, b4, _, _, rfl, rfl, ⟨hb, log2_lt hb F9⟩, ?_⟩
                  have bq : Bt (3 * lf m c0 t + 2) ((mg2 (acts es' M0) k col).fdiv (mg2 (acts es' M0) b col)) := by
                    unfold Bt
                    have h1 := hqL k hkL
                    have h2 := L3_lt (lf m c0 t)
                    omega
                  have hpass : Df (.add k b (0 - (mg2 (acts es' M0) k col).fdiv (mg2 (acts es' M0) b col))) (mg2 (acts es2 M0)) = passF b col (L.take (i + 1)) (mg2 (acts es' M0)) := by
                    rw [eM7, passF_snoc hbnt hknt kb]
                    congr 1
                    rw [List.take_add_one, ek]; rfl
                  have hlk : (((acts es2 M0).getD k []).map V.int).length = n := by rw [List.length_map]; exact sh7.row km
                  have hlb : (((acts es2 M0).getD b []).map V.int).length = n := by rw [List.length_map]; exact sh7.row bm
                  refine ⟨_, rfl, _, rfl, a, us1, _, _, rfl, rfl, a1, a2, _, rfl, _, rfl, a, us2, _, _, rfl, rfl, b1, b2, p1, p2, _, _, rfl, a3, b3, fun D3 hD3 => ?_⟩
                  refine lc_all (walk_zip rfl) hD3 (RInt fun c => vg ((acts es2 M0).getD k []) c - (mg2 (acts es' M0) k col).fdiv (mg2 (acts es' M0) b col) * vg ((acts es2 M0).getD b []) c) (rInt_keep _) (fun H' s' => ⟨s'.seq a3, s'.seq b3⟩) (by rw [hlk, hlb, Nat.min_self]; exact hnz) (fun c x H8 H8' C hc sm hx' hy kk => ?_) (fun H8 ys8 sm8 e8 hp8 => ?_) g_pair
                  · obtain ⟨Tp, u, v, rfl, nT, rfl, eu, ev⟩ := hy
                    rw [hlk, hlb, Nat.min_self] at hc
                    obtain ⟨z1, ez1, rfl⟩ := mapInt_get eu
                    obtain ⟨z2, ez2, rfl⟩ := mapInt_get ev
                    obtain rfl : z1 = vg ((acts es2 M0).getD k []) c := by
                      rw [getD_at (by rw [sh7.row km]; exact hc)] at ez1
                      exact (Option.some.inj ez1).symm
                    obtain rfl : z2 = vg ((acts es2 M0).getD b []) c := by
                      rw [getD_at (by rw [sh7.row bm]; exact hc)] at ez2
                      exact (Option.some.inj ez2).symm
                    have hbc : Bt (4 * lf m c0 t + 3) (vg ((acts es2 M0).getD b []) c) := by
                      have := rowB c
                      rw [← eMb c] at this
                      exact this
                    exact pair_in ⟨rfl, _, rfl, _, rfl, _, rfl, _, _, rfl, rfl, mulx_bt bq hbc (by omega), _, _, rfl, rfl, kk _ _ (same1 nT) rfl⟩
                  · have e9 := ints_of hp8
                    rw [List.length_map, List.length_map, range_vg2 (f := fun x y => x - (mg2 (acts es' M0) k col).fdiv (mg2 (acts es' M0) b col) * y), sub_row] at e9
                    rw [e9] at e8
                    obtain ⟨vs7, ea7, hpv7⟩ := R7.same sm8
                    have hl7 : vs7.length = m := (Paired.length hpv7).trans sh7.1
                    have nD3a : D3 ≠ a := by
                      obtain ⟨vs, ea, _⟩ := R7
                      exact (ne_of_none ea hD3).symm
                    refine ⟨_, rfl, _, rfl, a, vs7, (k : Nat), k, rfl, rfl, ea7, ixN_n (by rw [hl7]; exact km), ?_⟩
                    have okN : ∀ d ∈ es2 ++ [Deed.add k b (0 - (mg2 (acts es' M0) k col).fdiv (mg2 (acts es' M0) b col))], Deed.ok m d := fun d hd => by
                      rcases List.mem_append.mp hd with hd | hd
                      · exact ok7 d hd
                      · rw [List.mem_singleton.mp hd]; exact ⟨km, bm, kb⟩
                    have eA : acts (es2 ++ [Deed.add k b (0 - (mg2 (acts es' M0) k col).fdiv (mg2 (acts es' M0) b col))]) M0 = (acts es2 M0).set k (rowAdd (0 - (mg2 (acts es' M0) k col).fdiv (mg2 (acts es' M0) b col)) ((acts es2 M0).getD k []) ((acts es2 M0).getD b [])) := by rw [acts_append]; rfl
                    refine ⟨es2 ++ [Deed.add k b (0 - (mg2 (acts es' M0) k col).fdiv (mg2 (acts es' M0) b col))], _, _, _, _, _, _, rfl, (s7.trans sm8).new haN, by rw [eA]; exact RowsLL.put hpv7 e8 nD3a, okN, ?_, ?_, ?_⟩
                    · rw [mg2_acts sh okN, Dfs_append, ← mg2_acts sh ok7]
                      exact hpass
                    · rw [upd_ne nsa]; exact sm8 _ _ es7
                    · rw [upd_ne nD2a]; exact sm8 _ _ eD7
                · rintro σ H7 ⟨es2, y6, y7, y8, y9, y10, y11, rfl, s7, R7, ok7, eM7, es7, eD7⟩
                  rw [iN_len, List.take_of_length_le (Nat.le_refl _)] at eM7
                  have sh7 := acts_shape sh ok7
                  refine ⟨_, rfl, s, rfl, ⟨_, SqL.of es7⟩, fun D3 hD3 => ?_⟩
                  refine lc_flt walk_list hD3 (RInt fun i => ((sl.getD i 0 : Nat) : Int)) (fun i => mg2 (acts es2 M0) (sl.getD i 0) col != 0) (rInt_keep _) (fun H' s' => s'.seq (SqL.of es7)) (by rw [iN_len]; exact small1000 (by omega)) (fun i x H8 H' C N hi sm hx hy k kn => ?_) (fun H8 ys8 sm8 e8 hp8 => ?_)
                  · obtain ⟨rfl, ex⟩ := hy
                    obtain ⟨j, ej, ejd, rfl⟩ := mapInt_nat ex
                    have hj := (hmem j).mp (List.mem_of_getElem? ej)
                    obtain ⟨us1, p1, a1, a2, a3, a4⟩ := rdL (K := K) (R7.same sm) sh7 (show j < m by omega) hcoln
                    refine ⟨rfl, _, rfl, _, rfl, a, us1, _, _, rfl, rfl, a1, a2, _, rfl, p1, _, _, _, rfl, rfl, a3, a4, rfl, _, rfl, ite2 (fun g1 => ⟨_, rfl, k _ _ (Same.refl _) (by show V.int ((j : Nat) : Int) = V.int ((sl.getD i 0 : Nat) : Int); rw [ejd]) ?_⟩) fun g1 => kn _ (Same.refl _) ?_⟩
                    · rw [ejd]; exact (ne0 _).symm.trans g1
                    · rw [ejd]; exact Bool.eq_false_iff.mpr fun z => g1 ((ne0 _).trans z)
                  · have e9 := ints_of hp8
                    rw [iN_len, filtN (fun j => mg2 (acts es2 M0) j col != 0)] at e9
                    rw [e9] at e8
                    have nD3a : D3 ≠ a := by
                      obtain ⟨vs, ea, _⟩ := R7
                      exact (ne_of_none ea hD3).symm
                    have hsp : sl.filter (fun j => mg2 (acts es2 M0) j col != 0) = someN (mg2 (acts es2 M0)) col t (m - t) := by
                      rw [← hsn]
                      refine someN_pass fun j j1 j2 jz => ?_
                      rw [eM7, passF_out _ (fun z => ((hLm j).mp z).2.2.1 jz)]
                      exact jz
                    rw [hsp] at e8
                    refine ⟨mu', hmu, ?_⟩
                    rw [hW]
                    exact ⟨false, G', b, D3, es2, _, _, _, _, _, _, _, rfl, s7.trans sm8, R7.same sm8, ok7, by rw [eM7]; exact B', nD3a, e8⟩
          · -- behind the while
            have hlen1 : (someN (mg2 (acts es' M0)) col t (m - t)).length ≤ 1 := by
              by_cases z : (someN (mg2 (acts es' M0)) col t (m - t)).length ≤ 1
              · exact z
              · refine absurd (decide_eq_true ?_) h1
                show (1 : Int) < ((((iN (someN (mg2 (acts es' M0)) col t (m - t))).map V.int).length : Nat) : Int)
                rw [iN_len]
                omega
            have hmem : ∀ j, j ∈ someN (mg2 (acts es' M0)) col t (m - t) ↔ t ≤ j ∧ j < t + (m - t) ∧ mg2 (acts es' M0) j col ≠ 0 := fun j => mem_someN
            generalize someN (mg2 (acts es' M0)) col t (m - t) = sl at *
            refine ⟨_, rfl, Nat.zero_le _, fun p np => ⟨_, _, dp_lst (same1 np _ _ es4), dp_nil upd_same, sh_l _, sh_nil, _, rfl, ?_⟩⟩
            rw [eqv_nil, iN_nil]
            have sp := same1 (o := .lst []) np
            have s5 := s4.trans sp
            have R5 := R4.same sp
            have es5 := sp _ _ es4
            generalize upd H4 p (.lst []) = H5 at s5 R5 es5
            refine ite2 (fun g1 => ?_) fun g1 => ?_
            · obtain ⟨b, rfl⟩ : ∃ b, sl = [b] := by
                match sl, hlen1, g1 with
                | [], _, g => cases g
                | [b], _, _ => exact ⟨b, rfl⟩
              obtain ⟨tb, bm', hb⟩ := (hmem b).mp (by simp)
              have bm : b < m := by omega
              have ht : t < m := by omega
              have hzz : ∀ j, t ≤ j → j < m → j ≠ b → mg2 (acts es' M0) j col = 0 := fun j j1 j2 j3 => by
                by_cases z : mg2 (acts es' M0) j col = 0
                · exact z
                · have := (hmem j).mpr ⟨j1, by omega, z⟩
                  exact absurd (List.mem_singleton.mp this) j3
              obtain ⟨O', hpC, hp0, allA⟩ := O.step B tb bm hb hzz
              obtain ⟨vs5, rb, ea5, hl5, hpv5, erb, nrb, hrb⟩ := R5.row sh4 bm
              obtain ⟨vs5', rt, ea5', _, _, ert, nrt, hrt⟩ := R5.row sh4 ht
              rw [ea5] at ea5'
              cases ea5'
              have nsa5 := nsa
              refine ⟨_, rfl, _, rfl, s, _, 0, _, rfl, rfl, SqL.of es5, rfl, a, vs5, (b : Nat), _, rfl, rfl, SqL.of ea5, atI_nat erb, _, rfl, _, rfl, a, vs5, (t : Nat), _, rfl, rfl, SqL.of ea5, atI_nat ert, by show 2 ≤ sizeLine; decide, fun tt ntt => ?_⟩
              have st := same1 (o := .tup [.ref rb, .ref rt]) ntt
              have ea6 := st _ _ ea5
              refine ⟨tt, _, rfl, SqT.of upd_same, rfl, _, _, rfl, _, rfl, _, rfl, a, vs5, (t : Nat), t, rfl, rfl, ea6, ixN_n (by rw [hl5]; exact ht), _, _, rfl, _, rfl, _, rfl, s, _, 0, _, rfl, rfl, SqL.of (by rw [upd_ne nsa]; exact st _ _ es5), rfl, a, _, (b : Nat), b, rfl, rfl, upd_same, ixN_n (by rw [List.length_set, hl5]; exact bm), rfl, ?_⟩
              have okS : ∀ d ∈ es' ++ swD t b, Deed.ok m d := fun d hd => (List.mem_append.mp hd).elim (ok' d) (swD_ok ht bm d)
              have shS := acts_shape sh okS
              have eS : acts (es' ++ swD t b) M0 = ((acts es' M0).set t ((acts es' M0).getD b [])).set b ((acts es' M0).getD t []) := by
                rw [acts_append, swap_app (by rw [sh4.1]; exact ht)]
              have eFs : mg2 (acts (es' ++ swD t b) M0) = swF t b (mg2 (acts es' M0)) := by
                rw [mg2_acts sh okS, Dfs_append, ← mg2_acts sh ok']; rfl
              have R8 : RowsLL (upd (upd (upd H5 tt (.tup [.ref rb, .ref rt])) a (.lst (vs5.set t (.ref rb)))) a (.lst ((vs5.set t (.ref rb)).set b (.ref rt)))) a a (acts (es' ++ swD t b) M0) := by
                rw [eS]
                have p1 : Paired (RowL (upd (upd H5 tt (.tup [.ref rb, .ref rt])) a (.lst (vs5.set t (.ref rb)))) a a) (vs5.set t (.ref rb)) ((acts es' M0).set t ((acts es' M0).getD b [])) :=
                  Paired.set ⟨rb, rfl, nrb, nrb, by rw [upd_ne nrb]; exact st _ _ hrb⟩ t (Paired.imp (fun _ _ ⟨q, e, n1, n2, h⟩ => ⟨q, e, n1, n2, by rw [upd_ne n1]; exact st _ _ h⟩) hpv5)
                exact RowsLL.put p1 (by rw [upd_ne nrt]; exact st _ _ hrt) nrt
              have s8 : Same H (upd (upd (upd H5 tt (.tup [.ref rb, .ref rt])) a (.lst (vs5.set t (.ref rb)))) a (.lst ((vs5.set t (.ref rb)).set b (.ref rt)))) := ((s5.trans st).new haN).new haN
              generalize upd (upd (upd H5 tt (.tup [.ref rb, .ref rt])) a (.lst (vs5.set t (.ref rb)))) a (.lst ((vs5.set t (.ref rb)).set b (.ref rt))) = H8 at R8 s8
              have haf : af m c0 t ≤ 37 * c0 + 28 := af_le hm3 (by omega)
              have hlf : lf m c0 (t + 1) ≤ 16 * c0 + 10 := lf_le hm3
              have hc561 : c0 ≤ 561 := by omega
              obtain ⟨ee, hee⟩ : ∃ ee, ee = af m c0 t + lf m c0 (t + 1) := ⟨_, rfl⟩
              have hee2 : ee ≤ 40000 := by omega
              rw [← hee] at allA
              have FsE : ∀ i, i < m → ∀ k, (Dfs (tuD t col (swF t b (mg2 (acts es' M0)))) (swF t b (mg2 (acts es' M0))) i k).natAbs ≤ 2 ^ ee := fun i hi k => by
                by_cases z : i = t
                · unfold tuD
                  by_cases z2 : swF t b (mg2 (acts es' M0)) t col < 0
                  · rw [if_pos z2]
                    show (if i = t then -(swF t b (mg2 (acts es' M0)) t k) else swF t b (mg2 (acts es' M0)) i k).natAbs ≤ _
                    rw [if_pos z, Int.natAbs_neg]
                    exact allA t ht k
                  · rw [if_neg z2]; exact allA i hi k
                · rw [tuD_ne z]; exact allA i hi k
              have Ft0 : Dfs (tuD t col (swF t b (mg2 (acts es' M0)))) (swF t b (mg2 (acts es' M0))) t col ≠ 0 := by rw [tuD_col]; omega
              have F9 : Bt 9000 (Dfs (tuD t col (swF t b (mg2 (acts es' M0)))) (swF t b (mg2 (acts es' M0))) t col) := by
                rw [tuD_col]
                unfold Bt
                rw [Int.natAbs_natCast]
                exact Nat.lt_of_le_of_lt hpC (Nat.pow_lt_pow_right (by decide) (by omega))
              -- if rows[ahead][column] < 0
              dsimp only
              refine seq_join (σ' := [some (.ref a), some (.int (cols : Nat)), some (.int (t : Nat)), some (.int (col : Nat)), some (.ref s), x5, x6, x7, x8, x9, x10, x11]) (fun H9 => Same H H9 ∧ RowsLL H9 a a (acts (es' ++ swD t b ++ tuD t col (swF t b (mg2 (acts es' M0)))) M0)) (fun H9 ⟨s9, R9⟩ => ?_) fun nx knx => ?_
              · have okT : ∀ d ∈ es' ++ swD t b ++ tuD t col (swF t b (mg2 (acts es' M0))), Deed.ok m d := fun d hd => (List.mem_append.mp hd).elim (okS d) (tuD_ok ht d)
                have eF1 : mg2 (acts (es' ++ swD t b ++ tuD t col (swF t b (mg2 (acts es' M0)))) M0) = Dfs (tuD t col (swF t b (mg2 (acts es' M0)))) (swF t b (mg2 (acts es' M0))) := by
                  rw [mg2_acts sh okT, Dfs_append, ← mg2_acts sh okS, eFs]
                generalize es' ++ swD t b ++ tuD t col (swF t b (mg2 (acts es' M0))) = esT at R9 okT eF1
                generalize hF1 : Dfs (tuD t col (swF t b (mg2 (acts es' M0)))) (swF t b (mg2 (acts es' M0))) = F1 at eF1 FsE Ft0 F9
                refine ⟨_, rfl, (t : Nat), rfl, by omega, by omega, ?_⟩
                refine for_it walk_rg (fun i σ H10 => ∃ es2 y6 y7 y8 y9 y10 y11, σ = [some (.ref a), some (.int (cols : Nat)), some (.int (t : Nat)), some (.int (col : Nat)), some (.ref s), x5, y6, y7, y8, y9, y10, y11] ∧ Same H H10 ∧ RowsLL H10 a a (acts es2 M0) ∧ (∀ d ∈ es2, Deed.ok m d) ∧ mg2 (acts es2 M0) = passF t col (List.range i) F1)
                  ⟨esT, x6, x7, x8, x9, x10, x11, rfl, s9, R9, okT, by rw [List.range_zero, passF_nil]; exact eF1⟩ (fun _ _ _ _ _ => True.intro) ?_ ?_
                · rintro k x σ H10 H10' hk ⟨es2, y6, y7, y8, y9, y10, y11, rfl, s10, R10, ok10, eM10⟩ ⟨rfl, rfl⟩
                  have hkt : k < t := by omega
                  have km : k < m := by omega
                  have kb : k ≠ t := by omega
                  have hknt : k ∉ List.range k := by simp
                  have hbnt : t ∉ List.range k := by simp; omega
                  have sh10 := acts_shape sh ok10
                  have eMk : mg2 (acts es2 M0) k col = F1 k col := by rw [eM10, passF_out _ hknt]
                  have eMb : ∀ c, mg2 (acts es2 M0) t c = F1 t c := fun c => by rw [eM10, passF_out _ hbnt]
                  obtain ⟨us1, p1, a1, a2, a3, a4⟩ := rdL (K := K) R10 sh10 km hcoln
                  obtain ⟨us2, p2, b1, b2, b3, b4⟩ := rdL (K := K) R10 sh10 ht hcoln
                  rw [eMk] at a4
                  rw [eMb] at b4
                  refine ⟨_, rfl, _, rfl, a, us1, _, _, rfl, rfl, a1, a2, _, rfl, p1, _, _, _, rfl, rfl, a3, a4, _, rfl, _, rfl, a, us2, _, _, rfl, rfl, b1, b2, _, rfl, p2, _, _, _, rfl, rfl, b3, b4, _, _, rfl, rfl, ⟨Ft0, log2_lt Ft0 F9⟩, ?_⟩
                  have bq : Bt (ee + 2) ((F1 k col).fdiv (F1 t col)) := bt_of_le2 (fdiv_le2 (FsE k km col) Ft0)
                  have hpass : Df (.add k t (0 - (F1 k col).fdiv (F1 t col))) (mg2 (acts es2 M0)) = passF t col (List.range (k + 1)) F1 := by
                    rw [eM10, passF_snoc hbnt hknt kb, range_succ']
                  have hlk : (((acts es2 M0).getD k []).map V.int).length = n := by rw [List.length_map]; exact sh10.row km
                  have hlb : (((acts es2 M0).getD t []).map V.int).length = n := by rw [List.length_map]; exact sh10.row ht
                  refine ⟨_, rfl, _, rfl, a, us1, _, _, rfl, rfl, a1, a2, _, rfl, _, rfl, a, us2, _, _, rfl, rfl, b1, b2, p1, p2, _, _, rfl, a3, b3, fun D3 hD3 => ?_⟩
                  refine lc_all (walk_zip rfl) hD3 (RInt fun c => vg ((acts es2 M0).getD k []) c - (F1 k col).fdiv (F1 t col) * vg ((acts es2 M0).getD t []) c) (rInt_keep _) (fun H' s' => ⟨s'.seq a3, s'.seq b3⟩) (by rw [hlk, hlb, Nat.min_self]; exact hnz) (fun c x H11 H11' C hc sm hx' hy kk => ?_) (fun H11 ys11 sm11 e11 hp11 => ?_) g_pair
                  · obtain ⟨Tp, u, v, rfl, nT, rfl, eu, ev⟩ := hy
                    rw [hlk, hlb, Nat.min_self] at hc
                    obtain ⟨z1, ez1, rfl⟩ := mapInt_get eu
                    obtain ⟨z2, ez2, rfl⟩ := mapInt_get ev
                    obtain rfl : z1 = vg ((acts es2 M0).getD k []) c := by
                      rw [getD_at (by rw [sh10.row km]; exact hc)] at ez1
                      exact (Option.some.inj ez1).symm
                    obtain rfl : z2 = vg ((acts es2 M0).getD t []) c := by
                      rw [getD_at (by rw [sh10.row ht]; exact hc)] at ez2
                      exact (Option.some.inj ez2).symm
                    have hbc : Bt (ee + 1) (vg ((acts es2 M0).getD t []) c) := by
                      have h1 := FsE t ht c
                      rw [← eMb c] at h1
                      unfold Bt
                      exact Nat.lt_of_le_of_lt h1 (Nat.pow_lt_pow_right (by decide) (Nat.lt_succ_self _))
                    exact pair_in ⟨rfl, _, rfl, _, rfl, _, rfl, _, _, rfl, rfl, mulx_bt bq hbc (by omega), _, _, rfl, rfl, kk _ _ (same1 nT) rfl⟩
                  · have e9 := ints_of hp11
                    rw [List.length_map, List.length_map, range_vg2 (f := fun x y => x - (F1 k col).fdiv (F1 t col) * y), sub_row] at e9
                    rw [e9] at e11
                    obtain ⟨vs7, ea7, hpv7⟩ := R10.same sm11
                    have hl7 : vs7.length = m := (Paired.length hpv7).trans sh10.1
                    have nD3a : D3 ≠ a := by
                      obtain ⟨vs, ea, _⟩ := R10
                      exact (ne_of_none ea hD3).symm
                    refine ⟨_, rfl, _, rfl, a, vs7, (k : Nat), k, rfl, rfl, ea7, ixN_n (by rw [hl7]; exact km), ?_⟩
                    have okN : ∀ d ∈ es2 ++ [Deed.add k t (0 - (F1 k col).fdiv (F1 t col))], Deed.ok m d := fun d hd => by
                      rcases List.mem_append.mp hd with hd | hd
                      · exact ok10 d hd
                      · rw [List.mem_singleton.mp hd]; exact ⟨km, ht, kb⟩
                    have eA : acts (es2 ++ [Deed.add k t (0 - (F1 k col).fdiv (F1 t col))]) M0 = (acts es2 M0).set k (rowAdd (0 - (F1 k col).fdiv (F1 t col)) ((acts es2 M0).getD k []) ((acts es2 M0).getD t [])) := by rw [acts_append]; rfl
                    refine ⟨es2 ++ [Deed.add k t (0 - (F1 k col).fdiv (F1 t col))], _, _, _, _, _, _, rfl, (s10.trans sm11).new haN, by rw [eA]; exact RowsLL.put hpv7 e11 nD3a, okN, ?_⟩
                    rw [mg2_acts sh okN, Dfs_append, ← mg2_acts sh ok10]
                    exact hpass
                · rintro σ H10 ⟨es2, y6, y7, y8, y9, y10, y11, rfl, s10, R10, ok10, eM10⟩
                  have eU : mg2 (acts es2 M0) = upF t col (swF t b (mg2 (acts es' M0))) := by
                    rw [eM10, ← hF1]; rfl
                  exact ⟨_, rfl, _, _, rfl, rfl, t + 1, _, _, es2, _, _, _, _, _, _, _, _, _, rfl, s10, R10, ok10, rfl, by rw [eU]; exact O'⟩
              · -- the turn
                obtain ⟨us1, p1, a1, a2, a3, a4⟩ := rdL (K := K) R8 shS ht hcoln
                rw [eFs] at a4
                refine ⟨_, rfl, _, rfl, a, us1, _, _, rfl, rfl, a1, a2, _, rfl, p1, _, _, _, rfl, rfl, a3, a4, _, _, rfl, rfl, _, rfl, ite2 (fun g2 => ?_) fun g2 => ?_⟩
                · have hneg : swF t b (mg2 (acts es' M0)) t col < 0 := of_decide_eq_true g2
                  have eD : tuD t col (swF t b (mg2 (acts es' M0))) = [.turn t] := if_pos hneg
                  have hll : (((acts (es' ++ swD t b) M0).getD t []).map V.int).length = n := by rw [List.length_map]; exact shS.row ht
                  refine ⟨_, rfl, _, rfl, a, us1, _, _, rfl, rfl, a1, a2, p1, rfl, ⟨_, a3⟩, fun D3 hD3 => ?_⟩
                  refine lc_all walk_list hD3 (RInt fun k => 0 - vg ((acts (es' ++ swD t b) M0).getD t []) k) (rInt_keep _) (fun H' s' => s'.seq a3) (by rw [hll]; exact hnz) (fun j x H9 H9' C hj sm hx' hy k => ?_) (fun H9 ys9 sm9 e9 hp9 => ?_) g_name
                  · obtain ⟨rfl, ex⟩ := hy
                    obtain ⟨z, ez, rfl⟩ := mapInt_get ex
                    have hj' : j < ((acts (es' ++ swD t b) M0).getD t []).length := by rwa [List.length_map] at hj
                    rw [getD_at hj'] at ez
                    cases ez
                    exact ⟨rfl, _, rfl, _, _, rfl, rfl, k _ _ (Same.refl _) rfl⟩
                  · have e10 := ints_of hp9
                    rw [List.length_map, range_vg (f := fun x => 0 - x)] at e10
                    rw [e10] at e9
                    obtain ⟨vs7, ea7, hpv7⟩ := R8.same sm9
                    have hl7 : vs7.length = m := (Paired.length hpv7).trans shS.1
                    have nD3a : D3 ≠ a := by
                      obtain ⟨vs, ea, _⟩ := R8
                      exact (ne_of_none ea hD3).symm
                    refine ⟨_, rfl, _, rfl, a, vs7, (t : Nat), t, rfl, rfl, ea7, ixN_n (by rw [hl7]; exact ht), ?_⟩
                    have hrow : List.map (fun x => 0 - x) ((acts (es' ++ swD t b) M0).getD t []) = rowNeg ((acts (es' ++ swD t b) M0).getD t []) := by
                      unfold rowNeg
                      exact List.map_congr_left fun x _ => Int.zero_sub x
                    rw [hrow] at e9
                    refine knx _ ⟨(s8.trans sm9).new haN, ?_⟩
                    rw [eD, acts_append]
                    exact RowsLL.put hpv7 e9 nD3a
                · have hneg : ¬ swF t b (mg2 (acts es' M0)) t col < 0 := fun z => g2 (decide_eq_true z)
                  have eD : tuD t col (swF t b (mg2 (acts es' M0))) = [] := if_neg hneg
                  exact knx _ ⟨s8, by rw [eD, List.append_nil]; exact R8⟩
            · have hnil : sl = [] := by
                match sl, g1 with
                | [], _ => rfl
                | x :: l, g => exact absurd rfl g
              subst hnil
              rcases B.st with ⟨_, eF, _⟩ | ⟨_, _, P1⟩
              · refine ⟨t, lead, _, es', _, _, _, _, _, _, _, _, _, rfl, s5, R5, ok', rfl, ?_⟩
                rw [eF]
                refine O.skip fun i i1 i2 => ?_
                by_cases z : mg2 (acts es M0) i col = 0
                · exact z
                · have := (hmem i).mpr ⟨i1, by omega, by rw [eF]; exact z⟩
                  simp at this
              · have h2 := P1.p1
                rw [← P1.hp] at h2
                have h2 : 1 ≤ (mg2 (acts es' M0) j0 col).natAbs := h2
                have h3 := P1.h2
                have := (hmem j0).mpr ⟨P1.h1, by omega, fun z => by rw [z] at h2; exact absurd h2 (by decide)⟩
                simp at this
      · rintro σ H2 ⟨t, lead, rs, es, x3, x4, x5, x6, x7, x8, x9, x10, x11, rfl, s2, R2, ok, rfl, O⟩
        have sh2 := acts_shape sh ok
        obtain ⟨vs2, ea2, hpv2⟩ := id R2
        have hl2 : vs2.length = m := (Paired.length hpv2).trans sh2.1
        refine ⟨_, rfl, a, rfl, ⟨_, SqL.of ea2⟩, fun D hD => ?_⟩
        refine lc_all walk_list hD (RRow K fun i => (acts es M0).getD i []) (rRow_keep K _) (fun H' s => s.seq (SqL.of ea2)) (small1000 (by omega)) (fun i x H3 H' C hi sm3 hx' hy k => ?_) (fun H3 ys3 sm3 e3 hp3 => ?_) g_name
        · obtain ⟨rfl, ex⟩ := hy
          obtain ⟨r, er, p, rfl, n1, _, h3⟩ := Paired.get hpv2 ex
          obtain rfl : r = (acts es M0).getD i [] := by
            rw [getD_row (by rw [sh2.1]; omega)] at er
            exact (Option.some.inj er).symm
          refine ⟨rfl, _, rfl, p, _, rfl, .inl ⟨SqL.of (sm3 _ _ h3), fun l nl => k _ _ (same1 nl) ⟨l, rfl, SqT.of upd_same⟩⟩⟩
        · have hpr := rows_of hp3
          rw [hl2, ← sh2.1, map_getD'] at hpr
          refine ⟨D, ys3, rfl, .inl ⟨SqL.of e3, fun l nl => ?_⟩⟩
          have s4 := same1 (o := .tup ys3) nl
          refine q _ _ es t lead (s2.trans (sm3.trans s4)) ⟨l, ys3, rfl, SqT.of upd_same, Paired.imp (fun _ _ z => z.tk s4.tk) hpr⟩ ok O.herm ?_
          intro i k
          by_cases hi : i < m
          · exact Nat.le_trans (O.entA i hi k) (Nat.pow_le_pow_right (by decide) (af_le hm3 (by have := O.herm.tm; omega)))
          · rw [mg2_out (by rw [sh2.1]; omega)]
            exact Nat.zero_le _
end
end SF
end
section
set_option maxHeartbeats 4000000
namespace SF
/-! ### the own paper -/
theorem getD_map0 {f : List Int → List Int} (h0 : f [] = []) (M : List (List Int)) (i : Nat) : (M.map f).getD i [] = f (M.getD i []) := by
  rw [List.getD_eq_getElem?_getD, List.getD_eq_getElem?_getD, List.getElem?_map]
  cases M[i]? with
  | none => exact h0.symm
  | some r => rfl
theorem app_map {f : List Int → List Int} (h0 : f [] = []) (hn : ∀ r, rowNeg (f r) = f (rowNeg r)) (ha : ∀ q r s, rowAdd q (f r) (f s) = f (rowAdd q r s)) (d : Deed) (M : List (List Int)) : (d.app M).map f = d.app (M.map f) := by
  cases d with
  | turn i => show (M.set i _).map f = (M.map f).set i _; rw [List.map_set, getD_map0 h0, hn]
  | swap i j => show ((M.set i _).set j _).map f = ((M.map f).set i _).set j _; rw [List.map_set, List.map_set, getD_map0 h0, getD_map0 h0]
  | add i j q => show (M.set i _).map f = (M.map f).set i _; rw [List.map_set, getD_map0 h0, getD_map0 h0, ha]
theorem acts_map {f : List Int → List Int} (h0 : f [] = []) (hn : ∀ r, rowNeg (f r) = f (rowNeg r)) (ha : ∀ q r s, rowAdd q (f r) (f s) = f (rowAdd q r s)) : ∀ (ds : List Deed) (M : List (List Int)), (acts ds M).map f = acts ds (M.map f)
  | [], _ => rfl
  | d :: ds, M => by
    show (acts ds (d.app M)).map f = acts ds (d.app (M.map f))
    rw [acts_map h0 hn ha ds, app_map h0 hn ha]
theorem acts_take (a : Nat) (ds : List Deed) (M : List (List Int)) : (acts ds M).map (fun r => r.take a) = acts ds (M.map fun r => r.take a) :=
  acts_map (f := fun r => r.take a) (by simp) (fun r => by simp [rowNeg, List.map_take]) (fun q r s => by simp [rowAdd, List.take_zipWith]) ds M
theorem acts_drop (a : Nat) (ds : List Deed) (M : List (List Int)) : (acts ds M).map (fun r => r.drop a) = acts ds (M.map fun r => r.drop a) :=
  acts_map (f := fun r => r.drop a) (by simp) (fun r => by simp [rowNeg, List.map_drop]) (fun q r s => by simp [rowAdd, List.drop_zipWith]) ds M
/-- the rows, each with a row of the unit table behind it -/
def laidM (m : Nat) (M : List (List Int)) : List (List Int) := (List.range m).map fun i => M.getD i [] ++ unitRow m i
theorem laidM_shape {m w : Nat} {M : List (List Int)} (s : Shape m w M) : Shape m (w + m) (laidM m M) := ⟨by simp [laidM], fun r h => by
  obtain ⟨i, hi, rfl⟩ := List.mem_map.mp h
  rw [List.length_append, s.row (List.mem_range.mp hi), unitRow_length]⟩
theorem laidM_take {m w : Nat} {M : List (List Int)} (s : Shape m w M) : (laidM m M).map (fun r => r.take w) = M := by
  unfold laidM
  rw [List.map_map]
  have e := map_getD' M
  rw [s.1] at e
  refine Eq.trans (List.map_congr_left fun i hi => ?_) e
  show (M.getD i [] ++ unitRow m i).take w = _
  exact List.take_left' (s.row (List.mem_range.mp hi))
theorem laidM_drop {m w : Nat} {M : List (List Int)} (s : Shape m w M) : (laidM m M).map (fun r => r.drop w) = unitM m := by
  unfold laidM unitM
  rw [List.map_map]
  refine List.map_congr_left fun i hi => ?_
  show (M.getD i [] ++ unitRow m i).drop w = _
  exact List.drop_left' (s.row (List.mem_range.mp hi))
theorem mg2_take {M : List (List Int)} {w k : Nat} (i : Nat) (h : k < w) : mg2 (M.map fun r => r.take w) i k = mg2 M i k := by
  unfold mg2
  rw [getD_map0 (by simp)]
  exact vg_take h
theorem mg2_dropc {M : List (List Int)} {w : Nat} (i k : Nat) : mg2 (M.map fun r => r.drop w) i k = mg2 M i (w + k) := by
  unfold mg2
  rw [getD_map0 (by simp)]
  exact vg_drop _ _ _
/-- a Hermite form with a left inverse is the unit table -/
theorem herm_one {m t : Nat} {H X : Mat} {lead : Nat → Nat} (h : HermI t m m H lead) (hX : ∀ i, i < m → ∀ k, k < m → mul m X H i k = if i = k then 1 else 0) :
    ∀ c, c ≤ m → c ≤ t ∧ (∀ i, i < c → lead i = i) ∧ ∀ k, k < c → ∀ j, j < m → H j k = if j = k then 1 else 0 := by
  intro c
  induction c with
  | zero => intro _; exact ⟨Nat.zero_le _, fun i hi => by omega, fun k hk => by omega⟩
  | succ c ih =>
    intro hc
    obtain ⟨ct, hl, hcol⟩ := ih (by omega)
    have hcm : c < m := by omega
    have x0 : ∀ l, l < c → X c l = 0 := fun l hl' => by
      have q := hX c hcm l (by omega)
      rw [if_neg (by omega)] at q
      have e : mul m X H c l = S m fun j => if j = l then X c j else 0 := S_congr fun j hj => by
        rw [hcol l hl' j hj]
        by_cases e : j = l
        · rw [if_pos e, if_pos e, Int.mul_one]
        · rw [if_neg e, if_neg e, Int.mul_zero]
      rw [e, S_one (by omega)] at q
      exact q
    have leadge : c < t → c ≤ lead c := fun hct => by
      by_cases z : c = 0
      · omega
      · have h1 := h.up (c - 1) c (by omega) hct
        have h2 := hl (c - 1) (by omega)
        omega
    have low : ∀ j, c < j → j < m → H j c = 0 := fun j hj hjm => by
      by_cases hjt : j < t
      · refine (h.lead_ j hjt).2.2 c ?_
        have h1 := h.up c j hj hjt
        have h2 := leadge (by omega)
        omega
      · exact h.zero j (by omega) hjm c hcm
    have q := hX c hcm c hcm
    rw [if_pos rfl] at q
    have e : mul m X H c c = S m fun j => if j = c then X c j * H j c else 0 := S_congr fun j hj => by
      by_cases e : j = c
      · rw [if_pos e]
      · rw [if_neg e]
        by_cases hlt : j < c
        · rw [x0 j hlt, Int.zero_mul]
        · rw [low j (by omega) hj, Int.mul_zero]
    rw [e, S_one hcm] at q
    have hne : H c c ≠ 0 := fun z => by rw [z, Int.mul_zero] at q; omega
    have hct : c < t := by
      by_cases z : c < t
      · exact z
      · exact absurd (h.zero c (by omega) hcm c hcm) hne
    have hlc : lead c = c := by
      have h1 := leadge hct
      by_cases z : c < lead c
      · exact absurd ((h.lead_ c hct).2.2 c z) hne
      · omega
    have hpos : 0 < H c c := by have := (h.lead_ c hct).2.1; rwa [hlc] at this
    have hone : H c c = 1 := by
      have : (H c c) ∣ 1 := ⟨X c c, by rw [Int.mul_comm]; exact q.symm⟩
      have := Int.le_of_dvd (by decide) this
      omega
    refine ⟨by omega, fun i hi => ?_, fun k hk j hj => ?_⟩
    · by_cases z : i = c
      · rw [z]; exact hlc
      · exact hl i (by omega)
    · by_cases z : k = c
      · subst z
        by_cases e : j = k
        · rw [if_pos e, e]; exact hone
        · rw [if_neg e]
          by_cases hjc : j < k
          · have := h.red j k hjc hct
            rw [hlc, hone] at this
            omega
          · exact low j (by omega) hj
      · exact hcol k (by omega) j hj
theorem HermI.congr {t c m : Nat} {F F' : Mat} {lead : Nat → Nat} (h : HermI t c m F lead) (e : ∀ i k, k < c → F' i k = F i k) : HermI t c m F' lead := by
  refine ⟨h.tm, fun i hi => ?_, h.up, fun i h1 h2 k hk => by rw [e i k hk]; exact h.zero i h1 h2 k hk, fun i j h1 h2 => ?_⟩
  · obtain ⟨a, b, c'⟩ := h.lead_ i hi
    exact ⟨a, by rw [e i _ a]; exact b, fun k hk => by rw [e i k (by omega)]; exact c' k hk⟩
  · have a := (h.lead_ j h2).1
    rw [e i _ a, e j _ a]
    exact h.red i j h1 h2
theorem Le_laid {c m w : Nat} {M : List (List Int)} (s : Shape m w M) (hc : 1 ≤ c) (h : Le (2 ^ c) (mg2 M)) : Le (2 ^ c) (mg2 (laidM m M)) := fun i k => by
  by_cases hk : k < w
  · rw [← mg2_take i hk, laidM_take s]; exact h i k
  · have e : k = w + (k - w) := by omega
    rw [e, ← mg2_dropc, laidM_drop s, mg2_unit]
    have : 1 ≤ 2 ^ c := Nat.one_le_two_pow
    by_cases z : i < m ∧ k - w < m ∧ k - w = i
    · rw [if_pos z]; exact this
    · rw [if_neg z]; simp
theorem btM_of_Le {c : Nat} {M : List (List Int)} (h : Le (2 ^ c) (mg2 M)) : ∀ l ∈ M, ∀ z ∈ l, Bt (c + 1) z := fun l hl z hz => by
  obtain ⟨i, hi, rfl⟩ := List.mem_iff_getElem.mp hl
  obtain ⟨k, hk, rfl⟩ := List.mem_iff_getElem.mp hz
  have q := h i k
  unfold mg2 vg at q
  rw [List.getD_eq_getElem?_getD, List.getD_eq_getElem?_getD, List.getElem?_eq_getElem hi] at q
  simp only [Option.getD_some] at q
  rw [List.getElem?_eq_getElem hk] at q
  simp only [Option.getD_some] at q
  unfold Bt
  have : 0 < 2 ^ c := Nat.two_pow_pos c
  rw [Nat.pow_succ]
  omega
theorem Le_drop {c w : Nat} {M : List (List Int)} (h : Le (2 ^ c) (mg2 M)) : Le (2 ^ c) (mg2 (M.map fun r => r.drop w)) := fun i k => by rw [mg2_dropc]; exact h i _
theorem Le_take {c w : Nat} {M : List (List Int)} (h : Le (2 ^ c) (mg2 M)) : Le (2 ^ c) (mg2 (M.map fun r => r.take w)) := fun i k => by
  by_cases hk : k < w
  · rw [mg2_take i hk]; exact h i k
  · have : mg2 (M.map fun r => r.take w) i k = 0 := by
      unfold mg2
      rw [getD_map0 (by simp)]
      exact vg_out (by rw [List.length_take]; omega)
    rw [this]; simp
theorem map_shape {m w v : Nat} {f : List Int → List Int} {M : List (List Int)} (s : Shape m w M) (h : ∀ r, r.length = w → (f r).length = v) : Shape m v (M.map f) := ⟨by rw [List.length_map]; exact s.1, fun r hr => by
  obtain ⟨x, hx, rfl⟩ := List.mem_map.mp hr
  exact h x (s.2 x hx)⟩
/-- the own paper is right -/
theorem own_good {m n t t2 c1 c2 : Nat} {T : List (List Int)} {p one : List Int} {es es2 : List Deed} {lead lead2 : Nat → Nat} (sh : Shape m n T) (hm : m ≤ 1000) (hn : n ≤ 1000) (h1 : one.length = m) (b1 : ∀ z ∈ one, Bt (c2 + 1) z) (hp : p = rowTimes one n T)
    (ok : ∀ d ∈ es, d.ok m) (ok2 : ∀ d ∈ es2, d.ok m) (c12 : c1 ≤ c2)
    (hH : HermI t n m (mg2 (acts es (laidM m T))) lead) (hL : Le (2 ^ c1) (mg2 (acts es (laidM m T))))
    (hH2 : HermI t2 m m (mg2 (acts es2 (laidM m ((acts es (laidM m T)).map fun r => r.drop n)))) lead2) (hL2 : Le (2 ^ c2) (mg2 (acts es2 (laidM m ((acts es (laidM m T)).map fun r => r.drop n))))) :
    GoodL (c2 + 1) n m T p one ((acts es (laidM m T)).map fun r => r.take n) ((acts es (laidM m T)).map fun r => r.drop n) ((acts es2 (laidM m ((acts es (laidM m T)).map fun r => r.drop n))).map fun r => r.drop m) := by
  have eF : (acts es (laidM m T)).map (fun r => r.take n) = acts es T := by rw [acts_take, laidM_take sh]
  have eA : (acts es (laidM m T)).map (fun r => r.drop n) = acts es (unitM m) := by rw [acts_drop, laidM_drop sh]
  have sA : Shape m m (acts es (unitM m)) := acts_shape (unitM_shape m) ok
  have lF := Le_take (w := n) hL
  have lA := Le_drop (w := n) hL
  have lB := Le_drop (w := m) hL2
  have hHF : HermI t n m (mg2 ((acts es (laidM m T)).map fun r => r.take n)) lead := hH.congr fun i k hk => mg2_take i hk
  have hHH : HermI t2 m m (mg2 ((acts es2 (laidM m ((acts es (laidM m T)).map fun r => r.drop n))).map fun r => r.take m)) lead2 := hH2.congr fun i k hk => mg2_take i hk
  have bF := btM_of_Le lF
  have bA := btM_of_Le lA
  have bB := btM_of_Le lB
  rw [eF] at bF hHF
  rw [eA] at bA hHH bB
  rw [eF, eA]
  have eH : (acts es2 (laidM m (acts es (unitM m)))).map (fun r => r.take m) = acts es2 (acts es (unitM m)) := by rw [acts_take, laidM_take sA]
  have eB : (acts es2 (laidM m (acts es (unitM m)))).map (fun r => r.drop m) = acts es2 (unitM m) := by rw [acts_drop, laidM_drop sA]
  rw [eH] at hHH
  rw [eB] at bB ⊢
  have mA : mg2 (acts es (unitM m)) = Dfs es (mg2 (unitM m)) := mg2_acts (unitM_shape m) ok
  have mF : mg2 (acts es T) = Dfs es (mg2 T) := mg2_acts sh ok
  have mB : mg2 (acts es2 (unitM m)) = Dfs es2 (mg2 (unitM m)) := mg2_acts (unitM_shape m) ok2
  have mH : mg2 (acts es2 (acts es (unitM m))) = Dfs es2 (mg2 (acts es (unitM m))) := mg2_acts sA ok2
  have fat : mg2 (acts es T) = mul m (mg2 (acts es (unitM m))) (mg2 T) := by rw [mF, mA, ← Dfs_mul, unit_mul sh.1]
  have hba : mg2 (acts es2 (acts es (unitM m))) = mul m (mg2 (acts es2 (unitM m))) (mg2 (acts es (unitM m))) := by rw [mH, mB, ← Dfs_mul, unit_mul sA.1]
  -- a left inverse
  have hX : mul m (mul m (Dfs (ledBack es) (mg2 (unitM m))) (Dfs (ledBack es2) (mg2 (unitM m)))) (mg2 (acts es2 (acts es (unitM m)))) = mg2 (unitM m) := by
    have sH : (acts es2 (acts es (unitM m))).length = m := (acts_shape sA ok2).1
    rw [mul_assoc, ← Dfs_mul (ledBack es2), unit_mul sH, mH, Dfs_ledBack ok2, ← Dfs_mul, unit_mul sA.1, mA, Dfs_ledBack ok]
  have hU := (herm_one hHH (X := mul m (Dfs (ledBack es) (mg2 (unitM m))) (Dfs (ledBack es2) (mg2 (unitM m)))) (fun i hi k hk => by
    rw [hX, mg2_unit]
    by_cases e : i = k
    · rw [if_pos ⟨hi, hk, e.symm⟩, if_pos e]
    · rw [if_neg (fun z => e z.2.2.symm), if_neg e]) m (Nat.le_refl m)).2.2
  refine ⟨⟨h1, acts_shape sh ok, sA, acts_shape (unitM_shape m) ok2, hn, hm, b1, fun l hl z hz => (bF l hl z hz).mono (by omega), fun l hl z hz => (bA l hl z hz).mono (by omega), bB⟩, sh, by rw [hp]; exact rowTimes_length _ _ _, ⟨fun k hk => ?_, fun i _ k _ => congrFun (congrFun fat i) k, fun i hi k hk => ?_, t, lead, hHF.ech⟩⟩
  · rw [hp, vg_rowTimes hk, rsum_eq h1 sh.1]
  · rw [← hba, hU k hk i hi]
/-! ### the own paper put otherwise -/
theorem drop_free {m n rk : Nat} {F A : List (List Int)} {lead : Nat → Nat} (s : Shape m n F) (hA : A.length = m) (e : Ech m n (mg2 F) rk lead) :
    ((List.range F.length).filter fun i => decide (F.getD i [] = List.replicate n 0)).map (fun i => A.getD i []) = A.drop rk := by
  have hr : ∀ i, i < m → (F.getD i [] = List.replicate n 0 ↔ rk ≤ i) := fun i hi => by
    constructor
    · intro z
      by_cases h : i < rk
      · obtain ⟨h1, h2, _⟩ := e.lead_ i h
        exfalso
        apply h2
        unfold mg2
        rw [z]
        unfold vg
        rw [List.getD_eq_getElem?_getD, List.getElem?_replicate, if_pos h1]; rfl
      · omega
    · intro h
      refine row_ext (n := n) (s.row hi) (by simp) fun k hk => ?_
      have := e.zero i h hi k hk
      unfold mg2 at this
      rw [this]
      unfold vg
      rw [List.getD_eq_getElem?_getD, List.getElem?_replicate, if_pos hk]; rfl
  have hf : (List.range F.length).filter (fun i => decide (F.getD i [] = List.replicate n 0)) = (List.range m).filter fun i => decide (rk ≤ i) := by
    rw [s.1]
    refine List.filter_congr fun i hi => ?_
    exact decide_eq_decide.mpr (hr i (List.mem_range.mp hi))
  rw [hf]
  have h2 : (List.range m).filter (fun i => decide (rk ≤ i)) = (List.range m).drop rk := by
    have e2 : m = rk + (m - rk) := by have := e.le; omega
    rw [e2, List.range_add, List.filter_append, List.drop_left' (by simp)]
    rw [List.filter_eq_nil_iff.mpr (fun i hi => by have := List.mem_range.mp hi; simp; omega), List.nil_append]
    refine List.filter_eq_self.mpr fun i hi => ?_
    obtain ⟨j, _, rfl⟩ := List.mem_map.mp hi
    simp
  rw [h2, List.map_drop]
  congr 1
  have := map_getD' A
  rwa [hA] at this
/-- the back table's row otherwise -/
def othB (m i : Nat) (q : Int) (r : List Int) : List Int := r.take (m - 1) ++ [vg r (m - 1) - q * vg r i]
theorem othB_length {m i : Nat} {q : Int} {r : List Int} (hm : 1 ≤ m) (h : r.length = m) : (othB m i q r).length = m := by
  unfold othB; rw [List.length_append, List.length_take, h, List.length_singleton]; omega
theorem vg_othB {m i k : Nat} {q : Int} {r : List Int} (h : r.length = m) (hk : k < m) : vg (othB m i q r) k = vg r k - (if k = m - 1 then q * vg r i else 0) := by
  unfold othB
  by_cases e : k = m - 1
  · rw [if_pos e]
    unfold vg
    rw [List.getD_eq_getElem?_getD, List.getElem?_append_right (by rw [List.length_take]; omega), List.length_take, h, e, Nat.min_eq_left (by omega), Nat.sub_self]
    rfl
  · rw [if_neg e]
    have : vg (r.take (m - 1) ++ [vg r (m - 1) - q * vg r i]) k = vg (r.take (m - 1)) k := by
      unfold vg
      rw [List.getD_eq_getElem?_getD, List.getElem?_append_left (by rw [List.length_take]; omega), ← List.getD_eq_getElem?_getD]
    rw [this, vg_take (by omega)]; omega
theorem rowAdd_bt {L : Nat} {q : Int} {r s : List Int} (hq : Bt 2 q) (hr : ∀ z ∈ r, Bt L z) (hs : ∀ z ∈ s, Bt L z) : ∀ z ∈ rowAdd q r s, Bt (L + 3) z := fun z hz => by
  unfold rowAdd at hz
  obtain ⟨k, hk, rfl⟩ := List.mem_iff_getElem.mp hz
  rw [List.getElem_zipWith]
  have h1 := hr _ (List.getElem_mem (by rw [List.length_zipWith] at hk; omega : k < r.length))
  have h2 := hq.mul (hs _ (List.getElem_mem (by rw [List.length_zipWith] at hk; omega : k < s.length)))
  have := (h1.mono (show L ≤ L + 2 by omega)).add (h2.mono (show 2 + L ≤ L + 2 by omega))
  exact this
theorem last_zero {m n rk : Nat} {F : Mat} {lead : Nat → Nat} (e : Ech m n F rk lead) (hlt : rk < m) {k : Nat} (hk : k < n) : F (m - 1) k = 0 := e.zero (m - 1) (by omega) (by omega) k hk
theorem oth_one {L n m : Nat} {T : List (List Int)} {p one : List Int} {F A B : List (List Int)} (g : GoodL L n m T p one F A B) (hf : aheadOf F < m) {q : Int} (hq : Bt 2 q) : GoodL (L + 3) n m T p (rowAdd q one (A.getD (m - 1) [])) F A B := by
  obtain ⟨rk, lead, e⟩ := g.good.ech
  have ha := ahead_rk g.ok.F_ e
  rw [ha] at hf
  have hl := g.ok.A_.row (show m - 1 < m by omega)
  have o := g.ok
  refine ⟨⟨by unfold rowAdd; rw [List.length_zipWith, o.one_, hl, Nat.min_self], o.F_, o.A_, o.B_, o.n_, o.m_, rowAdd_bt hq o.bone (o.bA _ (mem_getD (by rw [o.A_.1]; omega))), fun l h z hz => (o.bF l h z hz).mono (by omega), fun l h z hz => (o.bA l h z hz).mono (by omega), fun l h z hz => (o.bB l h z hz).mono (by omega)⟩, g.T_, g.p_, ⟨fun k hk => ?_, g.good.form, g.good.back, g.good.ech⟩⟩
  rw [← g.good.one_ k hk]
  have h1 : S m (fun j => vg (rowAdd q one (A.getD (m - 1) [])) j * mg2 T j k) = S m (fun j => vg one j * mg2 T j k + q * (mg2 A (m - 1) j * mg2 T j k)) := S_congr fun j _ => by
    rw [vg_add (by rw [o.one_, hl])]
    show (vg one j + q * mg2 A (m - 1) j) * mg2 T j k = _
    rw [Int.add_mul, Int.mul_assoc]
  rw [h1, S_add, S_mul]
  have h2 := g.good.form (m - 1) (by omega) k hk
  rw [last_zero e hf hk] at h2
  have h2 : (0 : Int) = S m (fun j => mg2 A (m - 1) j * mg2 T j k) := h2
  rw [← h2, Int.mul_zero, Int.add_zero]
theorem oth_all {L n m : Nat} {T : List (List Int)} {p one : List Int} {F A B : List (List Int)} (g : GoodL L n m T p one F A B) (hf : aheadOf F < m) {q : Int} (hq : Bt 2 q) {i : Nat} (hi : i < m - 1) :
    GoodL (L + 3) n m T p one F (A.set i (rowAdd q (A.getD i []) (A.getD (m - 1) []))) (B.map (othB m i q)) := by
  obtain ⟨rk, lead, e⟩ := g.good.ech
  have ha := ahead_rk g.ok.F_ e
  rw [ha] at hf
  have o := g.ok
  have hl := o.A_.row (show m - 1 < m by omega)
  have hli := o.A_.row (show i < m by omega)
  have hiA : i < A.length := by rw [o.A_.1]; omega
  have hlr : (rowAdd q (A.getD i []) (A.getD (m - 1) [])).length = m := by unfold rowAdd; rw [List.length_zipWith, hl, hli, Nat.min_self]
  have hset : ∀ j k, mg2 (A.set i (rowAdd q (A.getD i []) (A.getD (m - 1) []))) j k = mg2 A j k + if j = i then q * mg2 A (m - 1) k else 0 := fun j k => by
    rw [mg2_set hiA, vg_add (by rw [hl, hli])]
    by_cases z : j = i
    · rw [if_pos z, if_pos z, z]; rfl
    · rw [if_neg z, if_neg z, Int.add_zero]
  have hback : ∀ l j, l < m → j < m → mg2 (B.map (othB m i q)) l j = mg2 B l j - if j = m - 1 then q * mg2 B l i else 0 := fun l j hlm hj => by
    unfold mg2
    have e1 : (B.map (othB m i q)).getD l [] = othB m i q (B.getD l []) := by
      rw [List.getD_eq_getElem?_getD, List.getD_eq_getElem?_getD, List.getElem?_map, List.getElem?_eq_getElem (by rw [o.B_.1]; exact hlm)]; rfl
    rw [e1, vg_othB (o.B_.row hlm) hj]
  refine ⟨⟨o.one_, o.F_, o.A_.set hlr, map_shape o.B_ fun r hr => othB_length (by omega) hr, o.n_, o.m_, fun z hz => (o.bone z hz).mono (by omega), fun l h z hz => (o.bF l h z hz).mono (by omega), fun l h z hz => ?_, fun l h z hz => ?_⟩, g.T_, g.p_, ⟨g.good.one_, fun j hj k hk => ?_, fun l hlm k hk => ?_, g.good.ech⟩⟩
  · rcases List.mem_or_eq_of_mem_set h with h | h
    · exact (o.bA l h z hz).mono (by omega)
    · rw [h] at hz
      exact rowAdd_bt hq (o.bA _ (mem_getD hiA)) (o.bA _ (mem_getD (by rw [o.A_.1]; omega))) z hz
  · obtain ⟨r, hr, rfl⟩ := List.mem_map.mp h
    unfold othB at hz
    rcases List.mem_append.mp hz with hz | hz
    · exact (o.bB r hr z (List.mem_of_mem_take hz)).mono (by omega)
    · rw [List.mem_singleton.mp hz]
      have h1 := vg_bt (o.bB r hr) (m - 1)
      have h2 := hq.mul (vg_bt (o.bB r hr) i)
      exact ((h1.mono (show L ≤ L + 2 by omega)).sub (h2.mono (show 2 + L ≤ L + 2 by omega)))
  · rw [g.good.form j hj k hk]
    show S m (fun l => mg2 A j l * mg2 T l k) = S m (fun l => mg2 (A.set i (rowAdd q (A.getD i []) (A.getD (m - 1) []))) j l * mg2 T l k)
    by_cases z : j = i
    · subst z
      have h1 : S m (fun l => mg2 (A.set j (rowAdd q (A.getD j []) (A.getD (m - 1) []))) j l * mg2 T l k) = S m (fun l => mg2 A j l * mg2 T l k + q * (mg2 A (m - 1) l * mg2 T l k)) := S_congr fun l _ => by
        rw [hset, if_pos rfl, Int.add_mul, Int.mul_assoc]
      rw [h1, S_add, S_mul]
      have h2 := g.good.form (m - 1) (by omega) k hk
      rw [last_zero e hf hk] at h2
      have h2 : (0 : Int) = S m (fun l => mg2 A (m - 1) l * mg2 T l k) := h2
      rw [← h2, Int.mul_zero, Int.add_zero]
    · exact S_congr fun l _ => by rw [hset, if_neg z, Int.add_zero]
  · have gb := g.good.back l hlm k hk
    rw [← gb]
    show S m (fun j => mg2 (B.map (othB m i q)) l j * mg2 (A.set i (rowAdd q (A.getD i []) (A.getD (m - 1) []))) j k) = S m (fun j => mg2 B l j * mg2 A j k)
    have h1 : S m (fun j => mg2 (B.map (othB m i q)) l j * mg2 (A.set i (rowAdd q (A.getD i []) (A.getD (m - 1) []))) j k)
        = S m (fun j => (mg2 B l j * mg2 A j k + if j = i then q * mg2 B l j * mg2 A (m - 1) k else 0) - if j = m - 1 then q * mg2 B l i * mg2 A j k else 0) := S_congr fun j hj => by
      rw [hset, hback l j hlm hj]
      by_cases z : j = i
      · have z2 : ¬ j = m - 1 := by omega
        rw [if_pos z, if_pos z, if_neg z2, if_neg z2]
        grind
      · rw [if_neg z, if_neg z]
        by_cases z2 : j = m - 1
        · rw [if_pos z2, if_pos z2]; grind
        · rw [if_neg z2, if_neg z2]; grind
    rw [h1, S_sub, S_add, S_one (show i < m by omega) (fun j => q * mg2 B l j * mg2 A (m - 1) k), S_one (show m - 1 < m by omega) (fun j => q * mg2 B l i * mg2 A j k)]
    omega
theorem GoodL.mono {L L' n m : Nat} {T : List (List Int)} {p one : List Int} {F A B : List (List Int)} (g : GoodL L n m T p one F A B) (h : L ≤ L') : GoodL L' n m T p one F A B := by
  have o := g.ok
  exact ⟨⟨o.one_, o.F_, o.A_, o.B_, o.n_, o.m_, fun z hz => (o.bone z hz).mono h, fun l hl z hz => (o.bF l hl z hz).mono h, fun l hl z hz => (o.bA l hl z hz).mono h, fun l hl z hz => (o.bB l hl z hz).mono h⟩, g.T_, g.p_, g.good⟩
end SF
end
section
set_option maxHeartbeats 4000000
namespace SF
open PySem PySem.Spec PyProof.Rows L2
theorem map_getDf {G : List (List Int)} {n : Nat} (h : G.length = n) (g : List Int → List Int) : (List.range n).map (fun i => g (G.getD i [])) = G.map g := by
  rw [← h]
  have := congrArg (List.map g) (map_getD' G)
  rw [List.map_map] at this
  exact this
section
variable {P : Program} {w : World} {K : PySem.W.Frag} {mg : Str → Option Value} {base : Heap} {f : Addr} {fd : FuncData}
/-! ### _law_laid: _law_rows 0 _law_columns 1 _law_k 2 _law_row_here 3; cells _law_rows -/
abbrev st_law_laid : Stmt := topS 52
abbrev sl_law_laid : List Str := ["_law_rows", "_law_columns", "_law_k", "_law_row_here"]
theorem sc_law_laid : FnScope sl_law_laid ["_law_rows", "_law_columns"] (defScope st_law_laid) := ⟨rfl, rfl, rfl, by decide +kernel, rfl, by decide +kernel, by decide +kernel⟩
-- calls _law_stepped _law_unit; built-ins enumerate len; level 2
def sp_law_laid (K : PySem.W.Frag) : Sp := fun vs H Q _ => ∃ (x : V) (cols n m c0 : Nat) (M0 : List (List Int)), vs = [x, .int (cols : Nat)] ∧ RowsA K H x M0 ∧ Shape m n M0 ∧ cols ≤ n ∧ m ≤ 3 ∧ n + m ≤ 1000 ∧ Le (2 ^ c0) (mg2 M0) ∧ 1 ≤ c0 ∧ 16 * c0 + 10 ≤ 8998 ∧
  ∀ H' v es t lead, Same H H' → RowsA K H' v (acts es (laidM m M0)) → (∀ d ∈ es, d.ok m) → HermI t cols m (mg2 (acts es (laidM m M0))) lead → Le (2 ^ (37 * c0 + 28)) (mg2 (acts es (laidM m M0))) → Q v H'
theorem ok_law_laid (M : Blt mg) (C__law_stepped : Cal P w K mg base 1 "_law_stepped" ["_law_rows", "_law_columns"] (sp_law_stepped K)) (C__law_unit : Cal P w K mg base 1 "_law_unit" ["_law_many", "_law_k"] (sp_law_unit K)) (F : Fun K "_law_laid" "_law_laid" st_law_laid f fd) (hm : mg "_law_laid" = some (.ref f)) : Cal P w K mg base 2 "_law_laid" ["_law_rows", "_law_columns"] (sp_law_laid K) := by
  refine ⟨f, fd, F.ok sc_law_laid (fun vs H Q E h => ?_) (fun cdv A outer s H vs Q E hr h => ?_), hm, F.kp, F.binds fun _ _ _ _ _ _ us hl => match us, hl with | [_, _], _ => rfl⟩
  · obtain ⟨_, _, _, _, _, _, rfl, _⟩ := h
    rfl
  · obtain ⟨x, cols, n, m, c0, M0, rfl, ⟨a0, us, rfl, e0, hpu⟩, sh, hcn, hm3, hn, hle, hc1, hc0, q⟩ := h
    refine ⟨_, (pss_one (ps_ret (pe_cal C__law_stepped (hr.mono (by decide)) (by rfl) (pa_cons (pe_lc (own := [("_law_k", 2), ("_law_row_here", 3)]) rfl sc_law_laid.nd (pi_enumT (by rfl) M.enumerate (pa_cons (pv 0) pa_nil)) (blkOk_by (N := sl_law_laid) (sc := defScope st_law_laid) (by decide +kernel)) (fun _ _ _ _ _ => (pg_tupK (K := K) (n := 2) rfl rfl (pgs_cons (pg_name (i := 2) sc_law_laid.nd rfl (.inl rfl) (.inr rfl)) (pgs_cons (pg_name (i := 3) sc_law_laid.nd rfl (.inl rfl) (.inr rfl)) pgs_nil)))) (fun _ _ _ _ _ => pts_nil) (fun _ _ _ _ _ => (pe_op (r := rCatA K) op_catA (pv 3) (pe_cal C__law_unit (hr.mono (by decide)) (by rfl) (pa_cons (pe_callB (id := "len") (r := rLenS K) call_lenS (by rfl) M.len (by decide +kernel) (pa_cons (pv 0) pa_nil)) (pa_cons (pv 2) pa_nil)))))) (pa_cons (pv 1) pa_nil))))), ?_⟩
    have hlen : us.length = m := (Paired.length hpu).trans sh.1
    refine ⟨_, rfl, a0, us, rfl, e0, fun D hD => ?_⟩
    refine lc_all walk_enumT hD (RRow K fun i => M0.getD i [] ++ unitRow m i) (rRow_keep K _) (fun H' s => seqT_same s e0) (by rw [hlen]; exact small1000 (by omega)) (fun i x H1 H' C hi sm hx hy k => ?_) (fun H1 ys sm e hp2 => ?_) g_pair
    · obtain ⟨Tp, u, v, rfl, nT, rfl, eu, ev⟩ := hy
      cases Option.some.inj eu
      obtain ⟨r, er, hr'⟩ := Paired.get hpu ev
      obtain rfl : r = M0.getD i [] := by
        rw [getD_row (by rw [sh.1]; omega)] at er
        exact (Option.some.inj er).symm
      have sT := same1 (o := .tup [.int (i : Nat), v]) nT
      refine pair_in ⟨rfl, ?_⟩
      have h0 := seqT_same (sm.trans sT) e0
      obtain ⟨a1, rfl, h1⟩ := hr'
      refine ⟨_, rfl, _, rfl, a0, us, rfl, .inr h0, _, rfl, us.length, i, rfl, hi, by omega, fun H5 v5 s5 ⟨a5, e5, h5⟩ => ?_⟩
      subst e5
      have hil : (M0.getD i []).length = n := sh.row (by omega)
      refine rd_cat (seqT_same (sm.trans (sT.trans s5)) h1) h5 ?_ fun p H6 s6 h6 => ?_
      · rw [List.length_map, List.length_map, hil, unitRow_length, hlen]
        exact len1000 hn
      · rw [hlen, ← List.map_append] at h6
        exact k _ _ (sT.trans (s5.trans s6)) ⟨p, rfl, h6⟩
    · have hpr := rows_of hp2
      rw [hlen] at hpr
      exact ⟨_, rfl, _, cols, n + m, m, c0, laidM m M0, rfl, ⟨D, ys, rfl, e, hpr⟩, laidM_shape sh, by omega, hm3, hn, Le_laid sh hc1 hle, hc0, fun H' v es t lead s2 => q _ _ _ _ _ (sm.trans s2)⟩
/-! ### _law_own_paper: _law_table_here 0 _law_one 1 _law_wide 2 _law_rows 3 _law_found 4 _law_there 5 _law_back 6 _law_form 7 _law_row_here 8; cells _law_wide _law_rows -/
abbrev st_law_own_paper : Stmt := topS 53
abbrev sl_law_own_paper : List Str := ["_law_table_here", "_law_one", "_law_wide", "_law_rows", "_law_found", "_law_there", "_law_back", "_law_form", "_law_row_here"]
theorem sc_law_own_paper : FnScope sl_law_own_paper ["_law_table_here", "_law_one"] (defScope st_law_own_paper) := ⟨rfl, rfl, rfl, by decide +kernel, rfl, by decide +kernel, by decide +kernel⟩
-- calls _law_laid; built-ins len tuple; level 3
def sp_law_own_paper (K : PySem.W.Frag) : Sp := fun vs H Q _ => ∃ (x y : V) (n m : Nat) (T : List (List Int)) (p one : List Int), vs = [x, y] ∧ TabA K H x n T ∧ RowA K H y one ∧ Shape m n T ∧ m ≤ 3 ∧ n ≤ 900 ∧ Le (2 ^ 7) (mg2 T) ∧ p = rowTimes one n T ∧ one.length = m ∧ (∀ z ∈ one, Bt 7 z) ∧
  ∀ H' v F A B, Same H H' → PapA K H' v one n m F A B → GoodL 20000 n m T p one F A B → Q v H'
theorem ok_law_own_paper (M : Blt mg) (C__law_laid : Cal P w K mg base 2 "_law_laid" ["_law_rows", "_law_columns"] (sp_law_laid K)) (F : Fun K "_law_own_paper" "_law_own_paper" st_law_own_paper f fd) (hm : mg "_law_own_paper" = some (.ref f)) : Cal P w K mg base 3 "_law_own_paper" ["_law_table_here", "_law_one"] (sp_law_own_paper K) := by
  refine ⟨f, fd, F.ok sc_law_own_paper (fun vs H Q E h => ?_) (fun cdv A outer s H vs Q E hr h => ?_), hm, F.kp, F.binds fun _ _ _ _ _ _ us hl => match us, hl with | [_, _], _ => rfl⟩
  · obtain ⟨_, _, _, _, _, _, _, rfl, _⟩ := h
    rfl
  · obtain ⟨x, y, n, m, T, p, one, rfl, ⟨a, y1, rfl, ha, ay1, us, rfl, hy1, hpu⟩, hone, sh, hm3, hn, hle, hp, h1, b1, q⟩ := h
    refine ⟨_, (pss_cons (ps_asg (pv 0) (pg_tupK (K := K) (n := 2) rfl rfl (pgs_cons (pg_name (i := 2) sc_law_own_paper.nd rfl (.inr rfl)) (pgs_cons (pg_name (i := 3) sc_law_own_paper.nd rfl (.inr rfl)) pgs_nil))))
      (pss_cons (ps_set (i := 4) sc_law_own_paper.nd rfl (Or.inl rfl) (pe_cal C__law_laid (hr.mono (by decide)) (by rfl) (pa_cons (pv 3) (pa_cons (pv 2) pa_nil))))
      (pss_cons (ps_set (i := 5) sc_law_own_paper.nd rfl (Or.inl rfl) (pe_callTy (T := "tuple") (r := rTupOf K) call_tup (by rfl) M.tuple (by decide +kernel) (pa_cons (pe_lc (own := [("_law_row_here", 8)]) rfl sc_law_own_paper.nd (pi_tupK (K := K) rfl (pv 4)) (blkOk_by (N := sl_law_own_paper) (sc := defScope st_law_own_paper) (by decide +kernel)) (fun _ _ _ _ _ => (pg_name (i := 8) sc_law_own_paper.nd rfl (.inl rfl) (.inr rfl))) (fun _ _ _ _ _ => pts_nil) (fun _ _ _ _ _ => (pe_slice (r := rSlA K) sl_tupA (pv 8) (po_some (pv 2)) po_none))) pa_nil)))
      (pss_cons (ps_set (i := 6) sc_law_own_paper.nd rfl (Or.inl rfl) (pe_callTy (T := "tuple") (r := rTupOf K) call_tup (by rfl) M.tuple (by decide +kernel) (pa_cons (pe_lc (own := [("_law_row_here", 8)]) rfl sc_law_own_paper.nd (pi_tupK (K := K) rfl (pe_cal C__law_laid (hr.mono (by decide)) (by rfl) (pa_cons (pv 5) (pa_cons (pe_callB (id := "len") (r := rLenS K) call_lenS (by rfl) M.len (by decide +kernel) (pa_cons (pv 3) pa_nil)) pa_nil)))) (blkOk_by (N := sl_law_own_paper) (sc := defScope st_law_own_paper) (by decide +kernel)) (fun _ _ _ _ _ => (pg_name (i := 8) sc_law_own_paper.nd rfl (.inl rfl) (.inr rfl))) (fun _ _ _ _ _ => pts_nil) (fun _ _ _ _ _ => (pe_slice (r := rSlA K) sl_tupA (pv 8) (po_some (pe_callB (id := "len") (r := rLenS K) call_lenS (by rfl) M.len (by decide +kernel) (pa_cons (pv 3) pa_nil))) po_none))) pa_nil)))
      (pss_cons (ps_set (i := 7) sc_law_own_paper.nd rfl (Or.inl rfl) (pe_tup (pa_cons (pv 2) (pa_cons (pe_callTy (T := "tuple") (r := rTupOf K) call_tup (by rfl) M.tuple (by decide +kernel) (pa_cons (pe_lc (own := [("_law_row_here", 8)]) rfl sc_law_own_paper.nd (pi_tupK (K := K) rfl (pv 4)) (blkOk_by (N := sl_law_own_paper) (sc := defScope st_law_own_paper) (by decide +kernel)) (fun _ _ _ _ _ => (pg_name (i := 8) sc_law_own_paper.nd rfl (.inl rfl) (.inr rfl))) (fun _ _ _ _ _ => pts_nil) (fun _ _ _ _ _ => (pe_slice (r := rSlA K) sl_tupA (pv 8) po_none (po_some (pv 2))))) pa_nil)) pa_nil))))
      (pss_one (ps_ret (pe_tup (pa_cons pe_str (pa_cons (pv 1) (pa_cons (pv 7) (pa_cons (pe_tup (pa_cons (pe_callB (id := "len") (r := rLenS K) call_lenS (by rfl) M.len (by decide +kernel) (pa_cons (pv 3) pa_nil)) (pa_cons (pv 5) pa_nil))) (pa_cons (pe_tup (pa_cons (pe_callB (id := "len") (r := rLenS K) call_lenS (by rfl) M.len (by decide +kernel) (pa_cons (pv 3) pa_nil)) (pa_cons (pv 6) pa_nil))) pa_nil))))))))))))), ?_⟩
    have hlen : us.length = m := (Paired.length hpu).trans sh.1
    refine ⟨_, rfl, a, _, rfl, ha, rfl, .int (n : Nat), _, rfl, .ref ay1, _, rfl, rfl, ?_⟩
    refine ⟨_, rfl, _, rfl, .ref ay1, n, n, m, 7, T, rfl, ⟨ay1, us, rfl, hy1, hpu⟩, sh, Nat.le_refl n, hm3, by omega, hle, by decide, by decide, fun H1 v1 es t lead s1 ⟨f1, fs, e1, hf, hpf⟩ ok herm le1 => ?_⟩
    subst e1
    have hl1 := acts_shape (laidM_shape sh) ok
    have hfl : fs.length = m := (Paired.length hpf).trans hl1.1
    -- there
    refine ⟨_, rfl, f1, rfl, ⟨fs, hf⟩, fun D2 hD2 => ?_⟩
    refine lc_all walk_tup hD2 (RRow K fun i => ((acts es (laidM m T)).getD i []).drop n) (rRow_keep K _) (fun H' s => seqT_same s hf) (by rw [hfl]; exact small1000 (by omega)) (fun i x H2 H' C hi sm hx hy k => ?_) (fun H2 ys2 sm2 e2 hp2 => ?_) g_name
    · obtain ⟨rfl, ex⟩ := hy
      obtain ⟨r, er, ar, rfl, har⟩ := Paired.get hpf ex
      obtain rfl : r = (acts es (laidM m T)).getD i [] := by
        rw [getD_row (by rw [hl1.1]; omega)] at er
        exact (Option.some.inj er).symm
      exact ⟨rfl, _, rfl, _, rfl, _, rfl, rd_drop (seqT_same sm har) fun p H3 s3 h3 => k _ _ s3 ⟨p, rfl, by rw [List.map_drop]; exact h3⟩⟩
    have hpA := rows_of hp2
    rw [hfl, map_getDf hl1.1 (fun r => r.drop n)] at hpA
    refine ⟨D2, ys2, rfl, .inl ⟨SqL.of e2, fun l2 nl2 => ?_⟩⟩
    have t2 := same1 (o := .tup ys2) nl2
    have sA : Shape m m ((acts es (laidM m T)).map fun r => r.drop n) := map_shape hl1 fun r hr => by rw [List.length_drop, hr]; omega
    have hpA2 : Paired (RowA K (upd H2 l2 (.tup ys2))) ys2 ((acts es (laidM m T)).map fun r => r.drop n) := Paired.imp (fun _ _ z => z.tk t2.tk) hpA
    have s2 := sm2.trans t2
    -- back
    refine ⟨_, rfl, _, rfl, ay1, us, rfl, .inr (seqT_same (s1.trans s2) hy1), ?_⟩
    rw [hlen]
    refine ⟨.ref l2, m, m, m, 287, (acts es (laidM m T)).map fun r => r.drop n, rfl, ⟨l2, ys2, rfl, SqT.of upd_same, hpA2⟩, sA, Nat.le_refl m, hm3, by omega, Le_drop (by exact le1), by decide, by decide, fun H3 v3 es2 t2 lead2 s3 ⟨f3, gs, e3, hg, hpg⟩ ok2 herm2 le2 => ?_⟩
    subst e3
    have hl2 := acts_shape (laidM_shape sA) ok2
    have hgl : gs.length = m := (Paired.length hpg).trans hl2.1
    refine ⟨f3, rfl, ⟨gs, hg⟩, fun D3 hD3 => ?_⟩
    refine lc_all walk_tup hD3 (RRow K fun i => ((acts es2 (laidM m ((acts es (laidM m T)).map fun r => r.drop n))).getD i []).drop m) (rRow_keep K _) (fun H' s => seqT_same s hg) (by rw [hgl]; exact small1000 (by omega)) (fun i x H4 H' C hi sm hx hy k => ?_) (fun H4 ys4 sm4 e4 hp4 => ?_) g_name
    · obtain ⟨rfl, ex⟩ := hy
      obtain ⟨r, er, ar, rfl, har⟩ := Paired.get hpg ex
      obtain rfl : r = (acts es2 (laidM m ((acts es (laidM m T)).map fun r => r.drop n))).getD i [] := by
        rw [getD_row (by rw [hl2.1]; omega)] at er
        exact (Option.some.inj er).symm
      refine ⟨rfl, _, rfl, _, rfl, ay1, us, rfl, .inr (seqT_same (s1.trans (s2.trans (s3.trans sm))) hy1), ?_⟩
      rw [hlen]
      refine ⟨_, rfl, ?_⟩
      exact rd_drop (seqT_same sm har) fun p H3 s3 h3 => k _ _ s3 ⟨p, rfl, by rw [List.map_drop]; exact h3⟩
    have hpB := rows_of hp4
    rw [hgl, map_getDf hl2.1 (fun r => r.drop m)] at hpB
    refine ⟨D3, ys4, rfl, .inl ⟨SqL.of e4, fun l4 nl4 => ?_⟩⟩
    have t4 := same1 (o := .tup ys4) nl4
    have s4 := s3.trans (sm4.trans t4)
    -- form
    refine ⟨_, rfl, _, rfl, f1, rfl, ⟨fs, seqT_same (s2.trans s4) hf⟩, fun D5 hD5 => ?_⟩
    refine lc_all walk_tup hD5 (RRow K fun i => ((acts es (laidM m T)).getD i []).take n) (rRow_keep K _) (fun H' s => seqT_same (s2.trans (s4.trans s)) hf) (by rw [hfl]; exact small1000 (by omega)) (fun i x H5 H' C hi sm hx hy k => ?_) (fun H5 ys5 sm5 e5 hp5 => ?_) g_name
    · obtain ⟨rfl, ex⟩ := hy
      obtain ⟨r, er, ar, rfl, har⟩ := Paired.get hpf ex
      obtain rfl : r = (acts es (laidM m T)).getD i [] := by
        rw [getD_row (by rw [hl1.1]; omega)] at er
        exact (Option.some.inj er).symm
      exact ⟨rfl, _, rfl, _, rfl, _, rfl, rd_take (seqT_same (s2.trans (s4.trans sm)) har) fun p H3 s3 h3 => k _ _ s3 ⟨p, rfl, by rw [List.map_take]; exact h3⟩⟩
    have hpF := rows_of hp5
    rw [hfl, map_getDf hl1.1 (fun r => r.take n)] at hpF
    refine ⟨D5, ys5, rfl, .inl ⟨SqL.of e5, fun l5 nl5 => ?_⟩⟩
    have t5 := same1 (o := .tup ys5) nl5
    have s5 := sm5.trans t5
    refine ⟨by show 2 ≤ sizeLine; decide, fun p7 n7 => ?_⟩
    have t7 := same1 (o := .tup [.int (n : Nat), .ref l5]) n7
    refine ⟨_, rfl, _, rfl, _, rfl, ay1, us, rfl, .inr (seqT_same (s1.trans (s2.trans (s4.trans (s5.trans t7)))) hy1), _, rfl, by show 2 ≤ sizeLine; decide, fun p8 n8 => ?_⟩
    have t8 := same1 (o := .tup [.int us.length, .ref l2]) n8
    refine ⟨_, rfl, ay1, us, rfl, .inr (seqT_same (s1.trans (s2.trans (s4.trans (s5.trans (t7.trans t8))))) hy1), _, rfl, by show 2 ≤ sizeLine; decide, fun p9 n9 => ?_⟩
    have t9 := same1 (o := .tup [.int us.length, .ref l4]) n9
    refine ⟨by show 5 ≤ sizeLine; decide, fun pp np => ?_⟩
    have tp := same1 (o := .tup [.str "answers", y, .ref p7, .ref p8, .ref p9]) np
    have u9 := t9.trans tp
    have u8 := t8.trans u9
    have u7 := t7.trans u8
    have u5 := s5.trans u7
    have u4 := s4.trans u5
    refine q _ _ _ _ _ (s1.trans (s2.trans u4)) ⟨pp, y, .ref p7, .ref p8, .ref p9, rfl, SqT.of upd_same, hone.tk (s1.trans (s2.trans u4)).tk, ⟨p7, .ref l5, rfl, seqT_same u8 (SqT.of upd_same), ⟨l5, ys5, rfl, seqT_same u7 (SqT.of upd_same), Paired.imp (fun _ _ z => z.tk (t5.trans u7).tk) hpF⟩⟩, ⟨p8, .ref l2, rfl, by rw [hlen] at u9 ⊢; exact seqT_same u9 (SqT.of upd_same), ⟨l2, ys2, rfl, seqT_same u4 (SqT.of upd_same), Paired.imp (fun _ _ z => z.tk u4.tk) hpA2⟩⟩, ⟨p9, .ref l4, rfl, by rw [hlen] at tp ⊢; exact seqT_same tp (SqT.of upd_same), ⟨l4, ys4, rfl, seqT_same u5 (SqT.of upd_same), Paired.imp (fun _ _ z => z.tk (t4.trans u5).tk) hpB⟩⟩⟩ ?_
    exact (own_good (c1 := 37 * 7 + 28) (c2 := 37 * 287 + 28) sh (by omega) (by omega) h1 (fun z hz => (b1 z hz).mono (by decide)) hp ok ok2 (by decide) herm le1 herm2 le2).mono (by decide)
end
end SF
end
section
set_option maxHeartbeats 4000000
namespace SF
open PySem PySem.Spec PyProof.Rows L2
theorem sIx_m1 (n d : Nat) : HT.sIx n d (some (-1)) = n - 1 := by
  show (if (-1 : Int) < 0 then ((-1 : Int) + (n : Int)).toNat else min (-1 : Int).toNat n) = n - 1
  rw [if_pos (by decide)]; omega
theorem cut_but {xs : List V} : cutV xs none (some (-1)) = xs.take (xs.length - 1) := by
  unfold cutV
  rw [HT.sIx_none, List.drop_zero, Nat.sub_zero, sIx_m1]
theorem rd_but {K : PySem.W.Frag} {H : Hp} {a : Addr} {xs : List V} {R : VK} (h : SqT K H a xs) (q : ∀ p H', Same H H' → SqT K H' p (xs.take (xs.length - 1)) → R (.ref p) H') : rSlA K (.ref a) none (some (-1)) H R :=
  ⟨a, xs, rfl, h, fun z => q a H (Same.refl H) (by
    have := z.2
    rw [sIx_m1] at this
    rw [List.take_of_length_le (by omega)]; exact h), fun _ p np => q p _ (same1 np) (by rw [cut_but]; exact SqT.of upd_same)⟩
section
variable {P : Program} {w : World} {K : PySem.W.Frag} {mg : Str → Option Value} {base : Heap} {f : Addr} {fd : FuncData}
/-! ### _law_otherwise: _law_feed_here 0 _law_paper 1 _law_free_here 2 _law_many 3 _law_often 4 _law_one 5 _law_i 6 _law_there 7 _law_back 8 _law_row_here 9 _law_number_here 10 _law_more 11; cells _law_often -/
abbrev st_law_otherwise : Stmt := topS 55
abbrev sl_law_otherwise : List Str := ["_law_feed_here", "_law_paper", "_law_free_here", "_law_many", "_law_often", "_law_one", "_law_i", "_law_there", "_law_back", "_law_row_here", "_law_number_here", "_law_more"]
theorem sc_law_otherwise : FnScope sl_law_otherwise ["_law_feed_here", "_law_paper"] (defScope st_law_otherwise) := ⟨rfl, rfl, rfl, by decide +kernel, rfl, by decide +kernel, by decide +kernel⟩
-- calls _law_draw _law_free; built-ins len list tuple zip; level 2
def sp_law_otherwise (K : PySem.W.Frag) : Sp := fun vs H Q _ => ∃ (fa ca : Addr) (x : V) (N n m L : Nat) (T : List (List Int)) (p one : List Int) (F A B : List (List Int)), vs = [.ref fa, x] ∧ FeedA H fa ca N ∧ N + 10 ≤ 1000000 ∧ PapA K H x one n m F A B ∧ GoodL L n m T p one F A B ∧ L ≤ 20000 ∧
  ∀ H' v one' A' B', But [fa] H H' → FeedA H' fa ca (N + 2) → PapA K H' v one' n m F A' B' → GoodL (L + 6) n m T p one' F A' B' → Q v H'
theorem ok_law_otherwise (M : Blt mg) (C__law_draw : Cal P w K mg base 1 "_law_draw" ["_law_feed_here", "_law_many"] (sp_law_draw K)) (C__law_free : Cal P w K mg base 1 "_law_free" ["_law_paper"] (sp_law_free K)) (F : Fun K "_law_otherwise" "_law_otherwise" st_law_otherwise f fd) (hm : mg "_law_otherwise" = some (.ref f)) : Cal P w K mg base 2 "_law_otherwise" ["_law_feed_here", "_law_paper"] (sp_law_otherwise K) := by
  refine ⟨f, fd, F.ok sc_law_otherwise (fun vs H Q E h => ?_) (fun cdv A outer s H vs Q E hr h => ?_), hm, F.kp, F.binds fun _ _ _ _ _ _ us hl => match us, hl with | [_, _], _ => rfl⟩
  · obtain ⟨_, _, _, _, _, _, _, _, _, _, _, _, _, rfl, _⟩ := h
    rfl
  · obtain ⟨fa, ca, x, N, n, m, L, T, p, one, Fm, Am, Bm, rfl, hf, hN, hx, g, hL, q⟩ := h
    refine ⟨_, (pss_cons (ps_set (i := 2) sc_law_otherwise.nd rfl (Or.inl rfl) (pe_cal C__law_free (hr.mono (by decide)) (by rfl) (pa_cons (pv 1) pa_nil)))
      (pss_cons (ps_set (i := 3) sc_law_otherwise.nd rfl (Or.inl rfl) (pe_callB (id := "len") (r := rLenS K) call_lenS (by rfl) M.len (by decide +kernel) (pa_cons (pe_ix (r := rIxT K) ix_tup (pv 1) pe_int (fun _ _ => rfl)) pa_nil)))
      (pss_cons (ps_if (pt_cmpR (r := rEqD K) (op_eqD hr.units) (pv 2) (pe_lst pa_nil) (nomark _))
        (pss_one (ps_ret (pv 1)))
        pss_nil)
      (pss_cons (ps_set (i := 4) sc_law_otherwise.nd rfl (Or.inr rfl) (pe_op op_sub (pe_cal C__law_draw (hr.mono (by decide)) (by rfl) (pa_cons (pv 0) (pa_cons pe_int pa_nil))) pe_int))
      (pss_cons (ps_set (i := 5) sc_law_otherwise.nd rfl (Or.inl rfl) (pe_callTy (T := "tuple") (r := rTupOf K) call_tup (by rfl) M.tuple (by decide +kernel) (pa_cons (pe_lc (own := [("_law_number_here", 10), ("_law_more", 11)]) rfl sc_law_otherwise.nd (RZ.pi_zipA (by rfl) M.zip (pa_cons (pe_ix (r := rIxT K) ix_tup (pv 1) pe_int (fun _ _ => rfl)) (pa_cons (pe_ix (r := rIxL K) ix_list (pv 2) (pe_un un_neg pe_int) (fun _ _ => rfl)) pa_nil))) (blkOk_by (N := sl_law_otherwise) (sc := defScope st_law_otherwise) (by decide +kernel)) (fun _ _ _ _ _ => (pg_tupK (K := K) (n := 2) rfl rfl (pgs_cons (pg_name (i := 10) sc_law_otherwise.nd rfl (.inl rfl) (.inr rfl)) (pgs_cons (pg_name (i := 11) sc_law_otherwise.nd rfl (.inl rfl) (.inr rfl)) pgs_nil)))) (fun _ _ _ _ _ => pts_nil) (fun _ _ _ _ _ => (pe_op op_add (pv 10) (pe_op op_mulX (pv 4) (pv 11))))) pa_nil)))
      (pss_cons (ps_if (pt_cmpR op_lt (pv 3) pe_int (nomark _))
        (pss_one (ps_ret (pe_op (r := rCatA K) op_catA (pe_op (r := rCatA K) op_catA (pe_slice (r := rSlA K) sl_tupA (pv 1) po_none (po_some pe_int)) (pe_tup (pa_cons (pv 5) pa_nil))) (pe_slice (r := rSlA K) sl_tupA (pv 1) (po_some pe_int) po_none))))
        pss_nil)
      (pss_cons (ps_set (i := 6) sc_law_otherwise.nd rfl (Or.inl rfl) (pe_cal C__law_draw (hr.mono (by decide)) (by rfl) (pa_cons (pv 0) (pa_cons (pe_op op_sub (pv 3) pe_int) pa_nil))))
      (pss_cons (ps_par (i := 7) (j := 8) (by rfl) sc_law_otherwise.nd rfl rfl (by decide) rfl rfl (pa_cons (pe_callTy (T := "list") (r := rListOf K) call_lst (by rfl) M.list (by decide +kernel) (pa_cons (pe_ix (r := rIxT K) ix_tup (pe_ix (r := rIxT K) ix_tup (pv 1) pe_int (fun _ _ => rfl)) pe_int (fun _ _ => rfl)) pa_nil)) (pa_cons (pe_lst pa_nil) pa_nil)) (by rfl))
      (pss_cons (ps_asg (pe_callTy (T := "tuple") (r := rTupOf K) call_tup (by rfl) M.tuple (by decide +kernel) (pa_cons (pe_lc (own := [("_law_number_here", 10), ("_law_more", 11)]) rfl sc_law_otherwise.nd (RZ.pi_zipA (by rfl) M.zip (pa_cons (pe_ix (r := rIxL K) ix_list (pv 7) (pv 6) (fun _ _ => rfl)) (pa_cons (pe_ix (r := rIxL K) ix_list (pv 7) (pe_un un_neg pe_int) (fun _ _ => rfl)) pa_nil))) (blkOk_by (N := sl_law_otherwise) (sc := defScope st_law_otherwise) (by decide +kernel)) (fun _ _ _ _ _ => (pg_tupK (K := K) (n := 2) rfl rfl (pgs_cons (pg_name (i := 10) sc_law_otherwise.nd rfl (.inl rfl) (.inr rfl)) (pgs_cons (pg_name (i := 11) sc_law_otherwise.nd rfl (.inl rfl) (.inr rfl)) pgs_nil)))) (fun _ _ _ _ _ => pts_nil) (fun _ _ _ _ _ => (pe_op op_add (pv 10) (pe_op op_mulX (pv 4) (pv 11))))) pa_nil)) (pg_sub (pv 7) (pv 6) set_list))
      (pss_cons (ps_for PassesOwn.never rfl (pi_tupK (K := K) rfl (pe_ix (r := rIxT K) ix_tup (pe_ix (r := rIxT K) ix_tup (pv 1) pe_int (fun _ _ => rfl)) pe_int (fun _ _ => rfl))) (pg_name (i := 9) sc_law_otherwise.nd rfl (.inl rfl))
        (pss_one (ps_expr (pe_bm PySem.F.plainAttrs_list PySem.F.slot_list_append PySem.F.type_list_append mt_append (pv 8) (pa_cons (pe_op (r := rCatA K) op_catA (pe_slice (r := rSlA K) sl_tupA (pv 9) po_none (po_some (pe_un un_neg pe_int))) (pe_tup (pa_cons (pe_op op_sub (pe_ix (r := rIxT K) ix_tup (pv 9) (pe_un un_neg pe_int) (fun _ _ => rfl)) (pe_op op_mulX (pv 4) (pe_ix (r := rIxT K) ix_tup (pv 9) (pv 6) (fun _ _ => rfl)))) pa_nil))) pa_nil)))))
      (pss_one (ps_ret (pe_tup (pa_cons pe_str (pa_cons (pv 5) (pa_cons (pe_ix (r := rIxT K) ix_tup (pv 1) pe_int (fun _ _ => rfl)) (pa_cons (pe_tup (pa_cons (pv 3) (pa_cons (pe_callTy (T := "tuple") (r := rTupOf K) call_tup (by rfl) M.tuple (by decide +kernel) (pa_cons (pv 7) pa_nil)) pa_nil))) (pa_cons (pe_tup (pa_cons (pv 3) (pa_cons (pe_callTy (T := "tuple") (r := rTupOf K) call_tup (by rfl) M.tuple (by decide +kernel) (pa_cons (pv 8) pa_nil)) pa_nil))) pa_nil)))))))))))))))))), ?_⟩
    have ok := g.ok
    obtain ⟨rk, lead, ech⟩ := g.good.ech
    have hrk := ahead_rk ok.F_ ech
    have hfree : freeL n Fm Am = Am.drop rk := drop_free ok.F_ ok.A_.1 ech
    have hmz : m < sizeLine := small1000 ok.m_
    refine ⟨_, rfl, x, one, n, m, Fm, Am, Bm, rfl, hx, ok.F_, ok.A_.1, ok.m_, ok.n_, fun H1 v1 s1 ⟨l0, vs, e0, hl0, hpv⟩ => ?_⟩
    subst e0
    rw [hfree] at hpv
    have hvl : vs.length = m - rk := by rw [Paired.length hpv, List.length_drop, ok.A_.1]
    obtain ⟨a, o, fo, t, b, rfl, ha, ⟨ao, rfl, ho⟩, h2, h3, h4⟩ := id (hx.tk s1.tk)
    have hx1 := hx.tk s1.tk
    have f1 := hf.same s1
    refine ⟨_, rfl, a, _, 1, _, rfl, rfl, ha, rfl, ao, _, rfl, .inr ho, ?_⟩
    rw [List.length_map, ok.one_]
    refine ⟨_, rfl, Nat.zero_le _, fun p2 n2 => ?_⟩
    have t2 := same1 (o := .lst []) n2
    refine ⟨_, _, .lst (SqL.of (t2 _ _ hl0)) (dp_rows (Paired.imp (fun _ _ z => z.tk t2.tk) hpv)), dp_nil upd_same, sh_ls _, sh_nil, _, rfl, ?_⟩
    rw [eqv_nil]
    refine ite2 (fun g1 => ?_) fun g1 => ?_
    · refine ⟨_, rfl, ?_⟩
      exact q _ _ one Am Bm (But.of (s1.trans t2)) ((f1.same t2).mono (by omega)) (hx1.tk t2.tk) (g.mono (by omega))
    have hlt : rk < m := by
      by_cases z : rk < m
      · exact z
      · exfalso
        apply g1
        have : Am.drop rk = [] := List.drop_eq_nil_of_le (by rw [ok.A_.1]; omega)
        rw [this]; rfl
    have hm1 : 1 ≤ m := by omega
    have f2 := f1.same t2
    have ha2 := seqT_same t2 ha
    have ho2 := seqT_same t2 ho
    -- the last free row
    have hl2 := t2 _ _ hl0
    have hpv2 := Paired.imp (fun _ _ z => RowA.tk t2.tk z) hpv
    obtain ⟨u1, e1⟩ : ∃ u, vs[vs.length - 1]? = some u := ⟨_, List.getElem?_eq_getElem (by omega)⟩
    obtain ⟨r1, er1, a1, rfl, h1⟩ := Paired.get hpv2 e1
    obtain rfl : r1 = Am.getD (m - 1) [] := by
      rw [List.getElem?_drop, hvl, show rk + (m - rk - 1) = m - 1 by omega, getD_row (by rw [ok.A_.1]; omega)] at er1
      exact (Option.some.inj er1).symm
    refine ⟨_, rfl, fa, ca, 7, N, rfl, f2, by decide, by decide, by omega, fun H3 dr b3 f3 hdr => ?_⟩
    have k3 : TK K _ H3 := b3.tk f2.lst
    have hq : Bt 2 ((dr : Int) - 3) := by unfold Bt; omega
    refine ⟨_, _, rfl, rfl, ?_⟩
    show gName 4 (.int ((dr : Int) - 3)) _ H3 _
    generalize (dr : Int) - 3 = qq at hq ⊢
    have nlf : l0 ≠ fa := by
      intro z
      obtain ⟨cells, t, rest, ef, _⟩ := f2
      rw [z, ef] at hl2
      have hv := HO.lst.inj (Option.some.inj hl2)
      have ev : vs[1]? = some (.int (t : Nat)) := by rw [← hv]; rfl
      obtain ⟨_, _, _, eq, _⟩ := Paired.get hpv2 ev
      cases eq
    have hl3 := b3 _ _ (by simp [nlf]) hl2
    have ha3 := k3 _ _ ha2
    have ho3 := k3 _ _ ho2
    have h13 := k3 _ _ h1
    have hl1 : (one.map V.int).length = m := by rw [List.length_map]; exact ok.one_
    have hlA : (Am.getD (m - 1) []).length = m := ok.A_.row (by omega)
    have hlA2 : ((Am.getD (m - 1) []).map V.int).length = m := by rw [List.length_map]; exact hlA
    have bA : ∀ z ∈ Am.getD (m - 1) [], Bt L z := ok.bA _ (mem_getD (by rw [ok.A_.1]; omega))
    refine ⟨_, rfl, a, _, 1, _, rfl, rfl, ha3, rfl, _, rfl, 1, rfl, l0, vs, -1, _, rfl, rfl, SqL.of hl3, atI_neg (j := 1) (by decide) (by omega) e1, ao, a1, _, _, rfl, .inr ⟨ho3, h13, fun D hD => ?_⟩⟩
    refine lc_all (walk_zipTT rfl) hD (RInt fun k => vg one k + qq * vg (Am.getD (m - 1) []) k) (rInt_keep _) (fun H' s => ⟨seqT_same s ho3, seqT_same s h13⟩) (by rw [hl1, hlA2, Nat.min_self]; exact hmz) (fun k x H4 H' C hk sm hx' hy kk => ?_) (fun H4 ys sm e hp2 => ?_) g_pair
    · obtain ⟨Tp, u, v, rfl, nT, rfl, eu, ev⟩ := hy
      rw [hl1, hlA2, Nat.min_self] at hk
      obtain ⟨z1, ez1, rfl⟩ := mapInt_get eu
      obtain ⟨z2, ez2, rfl⟩ := mapInt_get ev
      rw [getD_at (by rw [ok.one_]; exact hk)] at ez1
      rw [getD_at (by rw [hlA]; exact hk)] at ez2
      cases ez1
      cases ez2
      have hkA : k < (Am.getD (m - 1) []).length := by rw [hlA]; exact hk
      exact pair_in ⟨rfl, _, rfl, _, rfl, _, rfl, _, _, rfl, rfl, mulx_bt hq (bA _ (mem_vg hkA)) (by omega), _, _, rfl, rfl, kk _ _ (same1 nT) rfl⟩
    have e3 := ints_of hp2
    rw [List.length_map, List.length_map, range_vg2 (f := fun x y => x + qq * y)] at e3
    rw [e3] at e
    refine ⟨D, _, rfl, .inl ⟨SqL.of e, fun l nl => ?_⟩⟩
    have s4 := sm.push (o := .tup ((rowAdd qq one (Am.getD (m - 1) [])).map V.int)) nl
    have hone : RowA K (upd H4 l (.tup ((rowAdd qq one (Am.getD (m - 1) [])).map V.int))) (.ref l) (rowAdd qq one (Am.getD (m - 1) [])) := ⟨l, rfl, SqT.of upd_same⟩
    have g4 := oth_one g (by rw [hrk]; exact hlt) hq
    have bA3 : But [fa] H (upd H4 l (.tup ((rowAdd qq one (Am.getD (m - 1) [])).map V.int))) := ((But.of (s1.trans t2)).trans b3).same s4
    have hxs := (hx1.tk t2.tk).tk k3
    have f4 := f3.same s4
    refine ⟨_, rfl, _, _, rfl, rfl, _, rfl, ite2 (fun g2 => ?_) fun g2 => ?_⟩
    · obtain ⟨a', o', fo', t', b', ea', hA', _, w2, w3, w4⟩ := hxs.tk s4.tk
      cases ea'
      refine ⟨_, rfl, ((1 : Nat) : Int), rfl, rd_take (n := 1) hA' fun p5 H5 s5 h5 => ?_⟩
      refine ⟨_, rfl, by show 1 ≤ sizeLine; decide, fun p6 n6 => ?_⟩
      have s6 := same1 (o := .tup [.ref l]) n6
      refine rd_cat (seqT_same s6 h5) (SqT.of upd_same) (by show 1 + 1 ≤ sizeLine; decide) fun p7 H7 s7 h7 => ?_
      have s67 := s6.trans s7
      refine ⟨_, rfl, ((2 : Nat) : Int), rfl, ?_⟩
      dsimp only [tNoPart]
      refine rd_drop (n := 2) (seqT_same (s5.trans s67) hA') fun p8 H8 s8 h8 => ?_
      refine rd_cat (seqT_same s8 h7) h8 (by show 2 + 3 ≤ sizeLine; decide) fun p9 H9 s9 h9 => ?_
      have sz := s5.trans (s67.trans (s8.trans s9))
      exact q _ _ _ Am Bm (bA3.same sz) ((f4.same sz).mono (by omega)) ⟨p9, _, _, _, _, rfl, h9, hone.tk sz.tk, w2.tk sz.tk, w3.tk sz.tk, w4.tk sz.tk⟩ (g4.mono (by omega))
    have hm2 : 2 ≤ m := by
      have : ¬ ((m : Int) < 2) := fun z => g2 (decide_eq_true z)
      omega
    refine ⟨_, rfl, _, rfl, _, _, rfl, rfl, fa, ca, m - 1, N + 1, ?_, f4, by omega, by have := ok.m_; omega, by omega, fun H6 ii b6 f6 hii => ?_⟩
    · show [V.ref fa, V.int ((m : Int) - 1)] = [V.ref fa, V.int ((m - 1 : Nat) : Int)]
      rw [show ((m - 1 : Nat) : Int) = (m : Int) - 1 by omega]
    have k6 : TK K _ H6 := b6.tk f4.lst
    have b6A := bA3.trans b6
    obtain ⟨a', o', fo', t', b', ea', hA', _, w2, ⟨at_, xt, rfl, ht, at1, vt, rfl, ht1, hpt⟩, ⟨ab, xb, rfl, hb, ab1, vb, rfl, hb1, hpb⟩⟩ := (hxs.tk s4.tk).tk k6
    cases ea'
    have hone6 := hone.tk k6
    have hvt : vt.length = m := (Paired.length hpt).trans ok.A_.1
    have hvb : vb.length = m := (Paired.length hpb).trans ok.B_.1
    refine ⟨_, rfl, a, _, 3, _, rfl, rfl, hA', rfl, at_, _, 1, _, rfl, rfl, ht, rfl, at1, vt, rfl, .inr ht1, fun th nth => ⟨Nat.zero_le _, fun bk nbk => ⟨_, _, rfl, ?_⟩⟩⟩
    have u1 := same1 (o := .lst vt) nth
    have u2 := u1.push (o := .lst []) nbk
    have nbk0 : H6 bk = none := by
      by_cases z : bk = th
      · rw [z, upd_same] at nbk; cases nbk
      · rwa [upd_ne z] at nbk
    have nbt : bk ≠ th := fun z => by rw [z, upd_same] at nbk; cases nbk
    have eth := same1 (o := .lst []) nbk _ _ (upd_same (H := H6) (a := th) (o := .lst vt))
    obtain ⟨ui, ei⟩ : ∃ u, vt[ii]? = some u := ⟨_, List.getElem?_eq_getElem (by omega)⟩
    obtain ⟨ul, el⟩ : ∃ u, vt[vt.length - 1]? = some u := ⟨_, List.getElem?_eq_getElem (by omega)⟩
    obtain ⟨ri, eri, ai, rfl, hi⟩ := Paired.get hpt ei
    obtain ⟨rl, erl, al, rfl, hal⟩ := Paired.get hpt el
    obtain rfl : ri = Am.getD ii [] := by
      rw [getD_row (by rw [ok.A_.1]; omega)] at eri
      exact (Option.some.inj eri).symm
    obtain rfl : rl = Am.getD (m - 1) [] := by
      rw [hvt, getD_row (by rw [ok.A_.1]; omega)] at erl
      exact (Option.some.inj erl).symm
    have hi2 := seqT_same u2 hi
    have hal2 := seqT_same u2 hal
    have hlI : (Am.getD ii []).length = m := ok.A_.row (by omega)
    have hlI2 : ((Am.getD ii []).map V.int).length = m := by rw [List.length_map]; exact hlI
    refine ⟨_, rfl, _, rfl, th, vt, (ii : Nat), _, rfl, rfl, SqL.of eth, atI_nat ei, _, rfl, 1, rfl, th, vt, -1, _, rfl, rfl, SqL.of eth, atI_neg (j := 1) (by decide) (by omega) el, ai, al, _, _, rfl, .inr ⟨hi2, hal2, fun D2 hD2 => ?_⟩⟩
    refine lc_all (walk_zipTT rfl) hD2 (RInt fun k => vg (Am.getD ii []) k + qq * vg (Am.getD (m - 1) []) k) (rInt_keep _) (fun H' s => ⟨seqT_same s hi2, seqT_same s hal2⟩) (by rw [hlI2, hlA2, Nat.min_self]; exact hmz) (fun k x H7 H' C hk sm hx' hy kk => ?_) (fun H7 ys7 sm7 e7 hp7 => ?_) g_pair
    · obtain ⟨Tp, u, v, rfl, nT, rfl, eu, ev⟩ := hy
      rw [hlI2, hlA2, Nat.min_self] at hk
      obtain ⟨z1, ez1, rfl⟩ := mapInt_get eu
      obtain ⟨z2, ez2, rfl⟩ := mapInt_get ev
      rw [getD_at (by rw [hlI]; exact hk)] at ez1
      rw [getD_at (by rw [hlA]; exact hk)] at ez2
      cases ez1
      cases ez2
      have hkA : k < (Am.getD (m - 1) []).length := by rw [hlA]; exact hk
      exact pair_in ⟨rfl, _, rfl, _, rfl, _, rfl, _, _, rfl, rfl, mulx_bt hq (bA _ (mem_vg hkA)) (by omega), _, _, rfl, rfl, kk _ _ (same1 nT) rfl⟩
    have e8 := ints_of hp7
    rw [List.length_map, List.length_map, range_vg2 (f := fun x y => x + qq * y)] at e8
    rw [e8] at e7
    refine ⟨D2, _, rfl, .inl ⟨SqL.of e7, fun l8 nl8 => ?_⟩⟩
    have u8 := sm7.push (o := .tup ((rowAdd qq (Am.getD ii []) (Am.getD (m - 1) [])).map V.int)) nl8
    have eth8 := u8 _ _ eth
    refine ⟨_, rfl, _, rfl, th, vt, (ii : Nat), ii, rfl, rfl, eth8, ixN_n (by omega), ?_⟩
    have g9 := oth_all g4 (by rw [hrk]; exact hlt) hq hii
    have nth8 : H6 th = none := nth
    have u9 := (u2.trans u8).new (o := .lst (vt.set ii (.ref l8))) nth8
    have ebk9 : upd (upd H7 l8 (.tup ((rowAdd qq (Am.getD ii []) (Am.getD (m - 1) [])).map V.int))) th (.lst (vt.set ii (.ref l8))) bk = some (.lst []) := by
      rw [upd_ne nbt]
      exact u8 _ _ upd_same
    have R9 := rows_set (i := ii) eth8 (Paired.imp (fun _ _ z => RowA.tk (u2.trans u8).tk z) hpt) (⟨l8, rfl, SqT.of upd_same⟩ : RowA K _ (.ref l8) (rowAdd qq (Am.getD ii []) (Am.getD (m - 1) [])))
    refine ⟨_, rfl, a, _, 4, _, rfl, rfl, seqT_same u9 hA', rfl, ab, _, 1, _, rfl, rfl, seqT_same u9 hb, rfl, ab1, rfl, ⟨vb, seqT_same u9 hb1⟩, ?_⟩
    refine for_it walk_tup (fun k σ H9 => ∃ x9, σ = [some (.ref fa), some (.ref a), some (.ref l0), some (.int (m : Nat)), some (.int qq), some (.ref l), some (.int (ii : Nat)), some (.ref th), some (.ref bk), x9, none, none] ∧ Same H6 H9 ∧ RowsLT K H9 (.ref th) (Am.set ii (rowAdd qq (Am.getD ii []) (Am.getD (m - 1) []))) ∧ RowsLT K H9 (.ref bk) ((Bm.take k).map (othB m ii qq)))
      ⟨none, rfl, u9, ⟨th, _, rfl, upd_same, R9⟩, ⟨bk, [], rfl, ebk9, .nil⟩⟩ (fun _ _ H' _ ⟨_, _, s', _⟩ => seqT_same s' hb1) ?_ ?_
    · rintro k x σ H9 H9' hk ⟨x9, rfl, s9, ⟨th0, vt', eth0, et, hpt'⟩, ⟨bk0, bs, ebk0, eb, hpb'⟩⟩ ⟨rfl, ex⟩
      cases eth0
      cases ebk0
      obtain ⟨r, er, ar, rfl, har⟩ := Paired.get hpb ex
      obtain rfl : r = Bm.getD k [] := by
        rw [getD_row (by rw [ok.B_.1]; omega)] at er
        exact (Option.some.inj er).symm
      have har9 := seqT_same s9 har
      have hrl : (Bm.getD k []).length = m := ok.B_.row (by omega)
      have bB : ∀ z ∈ Bm.getD k [], Bt L z := ok.bB _ (mem_getD (by rw [ok.B_.1]; omega))
      refine ⟨_, rfl, .inl ⟨rfl, _, SqL.of eb⟩, _, rfl, 1, rfl, -1, rfl, ?_⟩
      refine rd_but har9 fun p5 H5 s5 h5 => ?_
      have hll : ((Bm.getD k []).map V.int).length = m := by rw [List.length_map]; exact hrl
      have har5 := seqT_same s5 har9
      have elst : ((Bm.getD k []).map V.int)[((Bm.getD k []).map V.int).length - 1]? = some (.int (vg (Bm.getD k []) (m - 1))) := by
        rw [hll]
        exact mapInt_at (getD_at (by omega))
      refine ⟨_, rfl, 1, rfl, ar, _, -1, _, rfl, rfl, har5, atI_neg (j := 1) (by decide) (by omega) elst, _, rfl, _, rfl, _, rfl, ar, _, (ii : Nat), _, rfl, rfl, har5, at_vg (by omega), _, _, rfl, rfl, mulx_bt hq (bB _ (mem_vg (by omega))) (by omega), _, _, rfl, rfl, by show 1 ≤ sizeLine; decide, fun p6 n6 => ?_⟩
      have s6 := same1 (o := .tup [.int (vg (Bm.getD k []) (m - 1) - qq * vg (Bm.getD k []) ii)]) n6
      refine rd_cat (seqT_same s6 h5) (SqT.of upd_same) ?_ fun p7 H7b s7 h7 => ?_
      · rw [List.length_take, hll]
        show min (m - 1) m + 1 ≤ _
        have := hmz
        omega
      have e7b : (List.take (((Bm.getD k []).map V.int).length - 1) ((Bm.getD k []).map V.int) ++ [V.int (vg (Bm.getD k []) (m - 1) - qq * vg (Bm.getD k []) ii)]) = (othB m ii qq (Bm.getD k [])).map V.int := by
        unfold othB
        rw [hll, List.map_append, List.map_take]; rfl
      rw [e7b] at h7
      have sB := s5.trans (s6.trans s7)
      have eb7 := sB _ _ eb
      have hbl : bs.length = k := by
        rw [Paired.length hpb', List.length_map, List.length_take, ok.B_.1]; omega
      refine ⟨bk, bs, .ref p7, rfl, rfl, eb7, by omega, _, rfl, (s9.trans sB).new nbk0, ⟨th, vt', rfl, ?_, Paired.imp (fun _ _ z => (RowA.tk sB.tk z).tk (lst_tk eb7)) hpt'⟩, ⟨bk, _, rfl, upd_same, ?_⟩⟩
      · rw [upd_ne (Ne.symm nbt)]
        exact sB _ _ et
      · have e9 : (Bm.take (k + 1)).map (othB m ii qq) = (Bm.take k).map (othB m ii qq) ++ [othB m ii qq (Bm.getD k [])] := by
          rw [List.take_succ, getD_row (by rw [ok.B_.1]; omega : k < Bm.length), List.map_append]; rfl
        rw [e9]
        exact Paired.app (Paired.imp (fun _ _ z => (RowA.tk sB.tk z).tk (lst_tk eb7)) hpb') (.cons (RowA.tk (lst_tk eb7) ⟨p7, rfl, h7⟩) .nil)
    · rintro σ H9 ⟨x9, rfl, s9, ⟨th0, vt', eth0, et, hpt'⟩, ⟨bk0, bs, ebk0, eb, hpb'⟩⟩
      cases eth0
      cases ebk0
      rw [hvb, List.take_of_length_le (by rw [ok.B_.1]; exact Nat.le_refl _)] at hpb'
      refine ⟨_, rfl, _, rfl, a, _, 2, _, rfl, rfl, seqT_same s9 hA', rfl, _, rfl, _, rfl, th, vt', rfl, .inl ⟨SqL.of et, fun q1 nq1 => ⟨by show 2 ≤ sizeLine; decide, fun p1 n1 => ?_⟩⟩⟩
      have w1 := same1 (o := .tup vt') nq1
      have w2' := w1.push (o := .tup [.int (m : Nat), .ref q1]) n1
      refine ⟨_, rfl, _, rfl, bk, bs, rfl, .inl ⟨SqL.of (w2' _ _ eb), fun q2 nq2 => ⟨by show 2 ≤ sizeLine; decide, fun p2 n2 => ⟨by show 5 ≤ sizeLine; decide, fun pp npp => ?_⟩⟩⟩⟩
      have w3 := same1 (o := .tup bs) nq2
      have w4 := w3.push (o := .tup [.int (m : Nat), .ref q2]) n2
      have w5 := w4.push (o := .tup [.str "answers", .ref l, fo', .ref p1, .ref p2]) npp
      have s10 := s9.trans (w2'.trans w5)
      have wn1 : Same _ _ := (same1 (o := .tup [.int (m : Nat), .ref q1]) n1).trans w5
      have wp2 := same1 (o := .tup [.str "answers", .ref l, fo', .ref p1, .ref p2]) npp
      have wp1 := (same1 (o := .tup [.int (m : Nat), .ref q2]) n2).trans wp2
      refine q _ _ _ _ _ (b6A.same s10) ((f6.same s10).mono (by omega)) ⟨pp, _, _, _, _, rfl, SqT.of upd_same, hone6.tk s10.tk, w2.tk s10.tk, ⟨p1, .ref q1, rfl, seqT_same w5 (SqT.of upd_same), ⟨q1, vt', rfl, seqT_same wn1 (SqT.of upd_same), Paired.imp (fun _ _ z => z.tk (w2'.trans w5).tk) hpt'⟩⟩, ⟨p2, .ref q2, rfl, seqT_same wp2 (SqT.of upd_same), ⟨q2, bs, rfl, seqT_same wp1 (SqT.of upd_same), Paired.imp (fun _ _ z => z.tk (w2'.trans w5).tk) hpb'⟩⟩⟩ g9
end
end SF
end
section
set_option maxHeartbeats 4000000
namespace SF
open PySem PySem.Spec PyProof.Rows L2
theorem boxN_nodup {m : Nat} (h : m ≤ 3) : (boxN m).Nodup := by
  match m, h with
  | 0, _ => decide +kernel
  | 1, _ => decide +kernel
  | 2, _ => decide +kernel
  | 3, _ => decide +kernel
def showOk (d : PyData) : Bool := d.showable && !d.hasDict && decide (d.depth ≤ 4) && decide (d.shown.length ≤ 1000)
theorem box_show {m : Nat} (h : m ≤ 3) : ∀ x ∈ boxN m, showOk (.tuple (dI x)) = true := by
  match m, h with
  | 0, _ => decide +kernel
  | 1, _ => decide +kernel
  | 2, _ => decide +kernel
  | 3, _ => decide +kernel
theorem valV_none {κ : Type} [DecidableEq κ] {kvs : List (κ × V)} {k : κ} (h : ∀ kv ∈ kvs, kv.1 ≠ k) : valV kvs k = none := by
  unfold valV
  rw [List.find?_eq_none.mpr fun kv hk => by simpa using h kv hk]; rfl
theorem putK_new {κ : Type} [DecidableEq κ] {kvs : List (κ × V)} {k : κ} {v : V} (h : valV kvs k = none) : putK kvs k v = kvs ++ [(k, v)] := by
  unfold putK
  rw [valV_any, h]; rfl
/-- the keys that are met -/
def keyV (r : List Int) : List Key × V := (r.map Sum.inl, .bl true)
theorem key_vals (r : List Int) : (r.map (Sum.inl : Int → Key)).map kV = r.map V.int := by rw [List.map_map]; rfl
theorem key_inj {r s : List Int} (h : r.map (Sum.inl : Int → Key) = s.map Sum.inl) : r = s := by
  have e : ∀ l : List Int, (l.map (Sum.inl : Int → Key)).map (fun k : Key => match k with | .inl i => i | .inr _ => 0) = l := fun l => by
    rw [List.map_map]
    exact (List.map_congr_left fun _ _ => rfl).trans (List.map_id l)
  rw [← e r, ← e s, h]
/-- what the box's first rows told -/
def metN (m : Nat) (one : List Int) (A B : List (List Int)) (rk i : Nat) : List (List Int) := ((boxN m).take i).filterMap fun x => numbersOf one m (A.drop rk).length B x
theorem metN_succ {m : Nat} {one : List Int} {A B : List (List Int)} {rk i : Nat} (h : i < (boxN m).length) : metN m one A B rk (i + 1) = metN m one A B rk i ++ (numbersOf one m (A.drop rk).length B ((boxN m).getD i [])).toList := by
  unfold metN
  rw [List.take_succ, getD_row h, List.filterMap_append]
  congr 1
/-- what is told of a row of the box is told of no row ahead of it -/
theorem metN_new {L n m : Nat} {T : List (List Int)} {p one : List Int} {F A B : List (List Int)} (g : GoodL L n m T p one F A B) (hm : m ≤ 3) {i : Nat} (h : i < (boxN m).length) {r : List Int}
    (e : numbersOf one m (A.drop (aheadOf F)).length B ((boxN m).getD i []) = some r) : r ∉ metN m one A B (aheadOf F) i := fun z => by
  unfold metN at z
  obtain ⟨x, hx, ex⟩ := List.mem_filterMap.mp z
  obtain ⟨j, hj, rfl⟩ := List.mem_iff_getElem.mp hx
  rw [List.length_take] at hj
  rw [List.getElem_take] at ex
  have h1 := g.tells (boxN_len _ (List.getElem_mem (by omega))) ex
  have h2 := g.tells (boxN_len _ (mem_getD h)) e
  rw [h1] at h2
  rw [List.getD_eq_getElem?_getD, List.getElem?_eq_getElem h] at h2
  exact List.pairwise_iff_getElem.mp (boxN_nodup hm) j i (by omega) h (by omega) h2
theorem metN_len {m : Nat} {one : List Int} {A B : List (List Int)} {rk i : Nat} : (metN m one A B rk i).length ≤ 125 ∨ 3 < m := by
  by_cases h : m ≤ 3
  · refine .inl (Nat.le_trans (List.length_filterMap_le _ _) ?_)
    have h1 : ((boxN m).take i).length ≤ (boxN m).length := by rw [List.length_take]; exact Nat.min_le_right _ _
    refine Nat.le_trans h1 ?_
    rw [boxN_length]
    exact Nat.le_trans (Nat.pow_le_pow_right (by decide) h) (by decide)
  · exact .inr (by omega)
theorem metN_one {L n m : Nat} {T : List (List Int)} {p one : List Int} {F A B : List (List Int)} (g : GoodL L n m T p one F A B) (hm : m ≤ 3) (h0 : (A.drop (aheadOf F)).length = 0) : ∀ i, i ≤ (boxN m).length → (metN m one A B (aheadOf F) i).length < 2 := by
  intro i
  have hnil : ∀ x r, x.length = m → numbersOf one m (A.drop (aheadOf F)).length B x = some r → r = [] := fun x r hx e => by
    rw [g.numbers hx] at e
    by_cases z : nz ((fnd m one B x).take (aheadOf F)) = true
    · rw [if_pos z] at e; cases e
    · rw [if_neg z] at e
      cases e
      refine List.drop_eq_nil_of_le ?_
      rw [fnd_length]
      rw [List.length_drop, g.ok.A_.1] at h0
      omega
  induction i with
  | zero => intro _; simp [metN]
  | succ i ih =>
    intro hi
    have q := ih (by omega)
    rw [metN_succ (by omega)]
    cases e : numbersOf one m (A.drop (aheadOf F)).length B ((boxN m).getD i []) with
    | none => simpa using q
    | some r =>
      have hr := hnil _ _ (boxN_len _ (mem_getD (by omega))) e
      have hn := metN_new g hm (by omega) e
      rw [hr] at hn
      have : metN m one A B (aheadOf F) i = [] := by
        cases em : metN m one A B (aheadOf F) i with
        | nil => rfl
        | cons s l =>
          exfalso
          have hs : s ∈ metN m one A B (aheadOf F) i := by rw [em]; simp
          have hs' := hs
          unfold metN at hs'
          obtain ⟨x, hx, ex⟩ := List.mem_filterMap.mp hs'
          have := hnil _ _ (boxN_len _ (List.mem_of_mem_take hx)) ex
          rw [this] at hs
          exact hn hs
      rw [this]; simp
theorem fnd_bt {L n m : Nat} {T : List (List Int)} {p one : List Int} {F A B : List (List Int)} (g : GoodL L n m T p one F A B) (hm : m ≤ 3) {x : List Int} (hx : x.length = m) (hb : ∀ z ∈ x, Bt L z) : ∀ z ∈ fnd m one B x, Bt (2 * L + 3) z := by
  refine bt_list fun k hk => ?_
  rw [fnd_length] at hk
  unfold fnd
  rw [vg_rowTimes hk, rsum_eq (m := m) (by rw [List.length_zipWith, hx, g.ok.one_, Nat.min_self]) g.ok.B_.1]
  refine (S3_bt hm fun j hj => ?_ : Bt ((L + 1) + L + 2) _).mono (by omega)
  rw [vg_zip hx g.ok.one_ hj]
  exact ((vg_bt hb j).sub (vg_bt g.ok.bone j)).mul (mg2_bt g.ok.bB j k)
theorem num_bt {L n m : Nat} {T : List (List Int)} {p one : List Int} {F A B : List (List Int)} (g : GoodL L n m T p one F A B) (hm : m ≤ 3) {x r : List Int} (hx : x.length = m) (hb : ∀ z ∈ x, Bt L z)
    (e : numbersOf one m (A.drop (aheadOf F)).length B x = some r) : ∀ z ∈ r, Bt (2 * L + 3) z := fun z hz => by
  rw [g.numbers hx] at e
  by_cases h : nz ((fnd m one B x).take (aheadOf F)) = true
  · rw [if_pos h] at e; cases e
  · rw [if_neg h] at e
    cases e
    exact fnd_bt g hm hx hb z (List.mem_of_mem_drop hz)
/-- a def that wants to be called at a place where nothing is shown -/
structure CalG (P : Program) (w : World) (K : PySem.W.Frag) (mg : Str → Option Value) (base : Heap) (k : Nat) (x : Str) (ps : List Str) (sp : Sp) : Prop where
  ex : ∃ f fd, FnG P w K mg base CX0 k f fd ps sp ∧ mg x = some (.ref f) ∧ PySem.W.keepIn K (.ref f) = true ∧ Binds K fd ps []
theorem pe_calG {X : Cx} {k : Nat} {x : Str} {ps : List Str} {sp : Sp} {e : Expr} {es : List Expr} {t : TA} {p pos : Pos} (C : CalG X.prog X.w X.K X.mg X.base k x ps sp) (hgd : X.A.guards = some []) (hr : Room k X.A) (hg : Gl X x) (ha : PA X (e :: es) t)
    (hdb : (x == ("__debug__" : Str)) = false := by decide) (he : starEach (e :: es) X.env = (false, eval e X.env) :: starEach es X.env := by rfl) (hpl : (backTo pos (starEach es X.env)).any (·.1) = false := by rfl) :
    PE X (.Call (.Name x p) (e :: es) [] pos) (tCall sp [] E0 t) := by
  obtain ⟨f, fd, F, hm, hk, hb⟩ := C.ex
  exact pe_callG' F hgd hr hg hm hk hb .nil pass0 ha hdb he hpl
section
variable {P : Program} {w : World} {K : PySem.W.Frag} {mg : Str → Option Value} {base : Heap} {f : Addr} {fd : FuncData}
/-! ### _law_box_right: _law_table_here 0 _law_point 1 _law_paper 2 _law_met 3 _law_row_here 4 _law_numbers 5; cells - -/
abbrev st_law_box_right : Stmt := topS 57
abbrev sl_law_box_right : List Str := ["_law_table_here", "_law_point", "_law_paper", "_law_met", "_law_row_here", "_law_numbers"]
theorem sc_law_box_right : FnScope sl_law_box_right ["_law_table_here", "_law_point", "_law_paper"] (defScope st_law_box_right) := ⟨rfl, rfl, rfl, by decide +kernel, rfl, by decide +kernel, by decide +kernel⟩
-- calls _law_box _law_row_times answer_at free_rows numbers_of; built-ins len repr; level 3
def sp_law_box_right (K : PySem.W.Frag) : Sp := fun vs H Q _ => ∃ (x y z : V) (n m : Nat) (T : List (List Int)) (p one : List Int) (F A B : List (List Int)), vs = [x, y, z] ∧ TabA K H x n T ∧ RowA K H y p ∧ PapA K H z one n m F A B ∧ GoodL 300000 n m T p one F A B ∧ m ≤ 3 ∧ n ≤ 3 ∧ (∀ l ∈ T, ∀ z ∈ l, Bt 8 z) ∧
  ∀ H', Same H H' → Q (.bl true) H'
theorem ok_law_box_right (M : Blt mg) (C__law_box : Cal P w K mg base 1 "_law_box" ["_law_many"] (sp_law_box K)) (C__law_row_times : Cal P w K mg base 1 "_law_row_times" ["_law_row_here", "_law_table_here"] (sp_row_times K)) (C_answer_at : Cal P w K mg base 2 "answer_at" ["paper", "numbers"] (sp_answer_at K)) (C_free_rows : Cal P w K mg base 1 "free_rows" ["paper"] (sp_free_rows K)) (C_numbers_of : Cal P w K mg base 2 "numbers_of" ["paper", "row"] (sp_numbers_of K)) (F : Fun K "_law_box_right" "_law_box_right" st_law_box_right f fd) (hm : mg "_law_box_right" = some (.ref f)) : CalG P w K mg base 3 "_law_box_right" ["_law_table_here", "_law_point", "_law_paper"] (sp_law_box_right K) := by
  refine ⟨f, fd, F.okG sc_law_box_right (fun vs H Q E h => ?_) (fun cdv A outer s H vs Q E hgd0 hr h => ?_), hm, F.kp, F.binds fun _ _ _ _ _ _ us hl => match us, hl with | [_, _, _], _ => rfl⟩
  · obtain ⟨_, _, _, _, _, _, _, _, _, _, _, rfl, _⟩ := h
    rfl
  · obtain ⟨x, y, z, n, m, T, p, one, Fm, Am, Bm, rfl, hx, hy, hz, g, hm3, hn3, bT, q⟩ := h
    have hgd : (A.deeper (envOfC "_law_box_right" (defScope st_law_box_right) s.heap.objs.size f cdv)).guards = some [] := guards_deeper hgd0
    refine ⟨_, (pss_cons (ps_set (i := 3) sc_law_box_right.nd rfl (Or.inl rfl) pe_dnewT)
      (pss_cons (ps_for PassesOwn.never rfl (pi_listK (K := K) rfl (pe_cal C__law_box (hr.mono (by decide)) (by rfl) (pa_cons (pe_callB (id := "len") (r := rLenS K) call_lenS (by rfl) M.len (by decide +kernel) (pa_cons (pe_ix (r := rIxT K) ix_tup (pv 0) pe_int (fun _ _ => rfl)) pa_nil)) pa_nil))) (pg_name (i := 4) sc_law_box_right.nd rfl (.inl rfl))
        (pss_cons (ps_set (i := 5) sc_law_box_right.nd rfl (Or.inl rfl) (pe_cal C_numbers_of (hr.mono (by decide)) (by rfl) (pa_cons (pv 2) (pa_cons (pv 4) pa_nil))))
        (pss_cons (ps_if (pt_cmpR op_ne (pe_cmpR op_isN (pv 5) pe_non (nomark _)) (pe_cmpR (r := rNeD K) (op_neD hr.units) (pe_cal C__law_row_times (hr.mono (by decide)) (by rfl) (pa_cons (pv 4) (pa_cons (pv 0) pa_nil))) (pv 1) (nomark _)) (nomark _))
          (pss_one (ps_ret pe_bl))
          pss_nil)
        (pss_one (ps_if (pt_cmpR op_notN (pv 5) pe_non (nomark _))
          (pss_cons (ps_if (PW.pt (pw_or (pt_cmp (pc_din (hu_of hr) (pv 5) (pv 3))) (pw_or1 (pt_cmpR op_ne (pe_callB (id := "repr") (r := rRepr K) (cr_repr hgd hr.units) (by rfl) M.repr (by decide +kernel) (pa_cons (pe_cal C_answer_at (hr.mono (by decide)) (by rfl) (pa_cons (pv 2) (pa_cons (pv 5) pa_nil))) pa_nil)) (pe_callB (id := "repr") (r := rRepr K) (cr_repr hgd hr.units) (by rfl) M.repr (by decide +kernel) (pa_cons (pv 4) pa_nil)) (nomark _)))))
            (pss_one (ps_ret pe_bl))
            pss_nil)
          (pss_one (ps_dput (hu_of hr) (pv 3) (pv 5) pe_bl rfl)))
          pss_nil)))))
      (pss_one (ps_ret (pe_or (pe_cmpR op_gt (pe_callB (id := "len") (r := rLenS K) call_lenS (by rfl) M.len (by decide +kernel) (pa_cons (pe_ix (r := rIxT K) ix_tup (pe_cal C_free_rows (hr.mono (by decide)) (by rfl) (pa_cons (pv 2) pa_nil)) pe_int (fun _ _ => rfl)) pa_nil)) pe_int (nomark _)) (pe_one (pe_cmpR op_lt (pe_callB (id := "len") call_len_dT (by rfl) M.len (by decide +kernel) (pa_cons (pv 3) pa_nil)) pe_int (nomark _)))))))), ?_⟩
    refine fun d nd => ?_
    obtain ⟨ax, x1, rfl, hxa, ax1, us, rfl, hx1, hpu⟩ := id hx
    have hlen : us.length = m := (Paired.length hpu).trans g.T_.1
    have s1 := same1 (o := .dT []) nd
    refine ⟨_, rfl, ax, _, 1, _, rfl, rfl, seqT_same s1 hxa, rfl, ax1, us, rfl, .inr (seqT_same s1 hx1), ?_⟩
    rw [hlen]
    refine ⟨m, rfl, hm3, fun H2 v2 s2 ⟨bl, bs, e2, hb2, hpb⟩ => ?_⟩
    subst e2
    have hbl : bs.length = (boxN m).length := Paired.length hpb
    refine ⟨bl, rfl, ⟨_, SqL.of hb2⟩, ?_⟩
    have ok := g.ok
    have hm125 : ∀ i, (metN m one Am Bm (aheadOf Fm) i).length ≤ 125 := fun i => by
      rcases metN_len (m := m) (one := one) (A := Am) (B := Bm) (rk := aheadOf Fm) (i := i) with h | h
      · exact h
      · omega
    refine for_it walk_list (fun i σ H3 => ∃ x4 x5, σ = [some (.ref ax), some y, some z, some (.ref d), x4, x5] ∧ Same H H3 ∧ H3 bl = some (.lst bs) ∧ Paired (RowA K H3) bs (boxN m) ∧ H3 d = some (.dT ((metN m one Am Bm (aheadOf Fm) i).map keyV)))
      ⟨none, none, rfl, s1.trans s2, hb2, hpb, by rw [show metN m one Am Bm (aheadOf Fm) 0 = [] by simp [metN]]; exact s2 _ _ upd_same⟩ (fun _ _ H' _ ⟨_, _, _, _, e, _⟩ => SqL.of e) ?_ ?_
    · rintro i x σ H3 H3' hi ⟨x4, x5, rfl, s3, eb3, hpb3, ed3⟩ ⟨rfl, ex⟩
      rw [hbl] at hi
      obtain ⟨r, er, hr3⟩ := Paired.get hpb3 ex
      obtain rfl : r = (boxN m).getD i [] := by
        rw [getD_row hi] at er
        exact (Option.some.inj er).symm
      have hmem := mem_getD hi
      have hxl := boxN_len _ hmem
      refine ⟨_, rfl, _, rfl, z, x, one, n, m, 300000, 2, Fm, Am, Bm, (boxN m).getD i [], rfl, hz.tk s3.tk, ok, hr3, hxl, boxN_bt _ hmem, by decide, by decide, fun H4 v4 s4 hv4 => ?_⟩
      have hni := g.none_iff hxl
      have hms := metN_succ (one := one) (A := Am) (B := Bm) (rk := aheadOf Fm) hi
      have hx4 := hx.tk (s3.trans s4).tk
      have hr4 := hr3.tk s4.tk
      have hy4 := hy.tk (s3.trans s4).tk
      cases en : numbersOf one m (Am.drop (aheadOf Fm)).length Bm ((boxN m).getD i []) with
      | none =>
        rw [en] at hv4 hms
        obtain rfl : v4 = .non := hv4
        refine ⟨_, rfl, rfl, _, rfl, _, rfl, x, .ref ax, (boxN m).getD i [], n, T, 2, 8, rfl, hr4, hx4, by omega, g.T_.2, boxN_bt _ hmem, bT, by decide, fun H5 v5 s5 hv5 => ?_⟩
        refine ⟨_, rfl, _, _, dp_row hv5, dp_row (hy4.tk s5.tk), sh_t _, sh_t _, ?_⟩
        rw [eqv_tup, decide_eq_false (hni.mp en)]
        refine ⟨rfl, _, rfl, iteN (by decide +kernel) ⟨_, rfl, rfl, _, rfl, iteN (by decide +kernel) ?_⟩⟩
        have s45 := s4.trans s5
        exact ⟨_, _, rfl, s3.trans s45, s45 _ _ eb3, Paired.imp (fun _ _ z => z.tk s45.tk) hpb3, by rw [hms]; simpa using s45 _ _ ed3⟩
      | some r =>
        rw [en] at hv4 hms
        obtain ⟨a4, rfl, e4⟩ := hv4
        have hrt : rowTimes ((boxN m).getD i []) n T = p := by
          by_cases z : rowTimes ((boxN m).getD i []) n T = p
          · exact z
          · have := hni.mpr z
            rw [en] at this
            cases this
        refine ⟨_, rfl, rfl, _, rfl, _, rfl, x, .ref ax, (boxN m).getD i [], n, T, 2, 8, rfl, hr4, hx4, by omega, g.T_.2, boxN_bt _ hmem, bT, by decide, fun H5 v5 s5 hv5 => ?_⟩
        refine ⟨_, rfl, _, _, dp_row hv5, dp_row (hy4.tk s5.tk), sh_t _, sh_t _, ?_⟩
        rw [eqv_tup, decide_eq_true hrt]
        refine ⟨rfl, _, rfl, iteN (by simp) ⟨_, rfl, rfl, _, rfl, iteP (by simp) ?_⟩⟩
        have s45 := s4.trans s5
        have e5 := s5 _ _ e4
        have ed5 := s45 _ _ ed3
        have hnew := metN_new g hm3 hi en
        have hvn : valV ((metN m one Am Bm (aheadOf Fm) i).map keyV) (r.map Sum.inl) = none := valV_none fun kv hk => by
          obtain ⟨s, hs, rfl⟩ := List.mem_map.mp hk
          intro z
          exact hnew (key_inj z ▸ hs)
        have htl := g.tells hxl en
        refine ⟨_, rfl, _, rfl, d, _, rfl, .inr ⟨_, r.map Sum.inl, a4, .inl ed5, rfl, by rw [key_vals]; exact e5, hvn.symm⟩, _, rfl, iteN (by simp) ?_⟩
        have hrb := num_bt g hm3 hxl (fun z hz => (boxN_bt _ hmem z hz).mono (by decide)) en
        refine ⟨_, rfl, _, rfl, z, .ref a4, one, n, m, 300000, 600003, Fm, Am, Bm, r, rfl, hz.tk (s3.trans s45).tk, ok, ⟨a4, rfl, SqT.of e5⟩, hrb, by decide, fun H6 v6 s6 hv6 => ?_⟩
        rw [htl] at hv6
        obtain ⟨a6, rfl, h6⟩ := hv6
        obtain ⟨ar, rfl, har⟩ := hr3
        have s456 := s45.trans s6
        have hsh := box_show hm3 _ hmem
        unfold showOk at hsh
        simp only [Bool.and_eq_true, Bool.not_eq_true', decide_eq_true_eq] at hsh
        obtain ⟨⟨⟨sh1, sh2⟩, sh3⟩, sh4⟩ := hsh
        have sh4' : (PyData.tuple (dI ((boxN m).getD i []))).shown.length ≤ sizeLine := Nat.le_trans sh4 (by decide)
        refine ⟨a6, _, rfl, dp_row ⟨a6, rfl, h6⟩, sh1, sh2, sh3, sh4', ?_⟩
        refine ⟨_, rfl, ar, _, rfl, dp_row ⟨ar, rfl, seqT_same s456 har⟩, sh1, sh2, sh3, sh4', rfl, _, rfl, iteN (by simp) ?_⟩
        have ed6 := s456 _ _ ed3
        have hlk : ((metN m one Am Bm (aheadOf Fm) i).map keyV).length < sizeLine := by
          rw [List.length_map]
          exact Nat.lt_of_le_of_lt (hm125 i) (by decide)
        refine ⟨_, rfl, _, rfl, d, _, rfl, .inr ⟨_, r.map Sum.inl, a4, ed6, rfl, by rw [key_vals]; exact s6 _ _ e5, hlk, rfl⟩, ?_⟩
        have nbd : bl ≠ d := fun z => by rw [z, ed3] at eb3; cases eb3
        have tk7 : TK K H6 (upd H6 d (.dT (putK ((metN m one Am Bm (aheadOf Fm) i).map keyV) (r.map Sum.inl) (.bl true)))) := fun a xs h => by
          by_cases z : a = d
          · subst z
            rcases h with (h | ⟨o, h⟩) | h
            · rw [ed6] at h; cases h
            · rw [ed6] at h; cases h
            · exact .inr h
          · rcases h with (h | ⟨o, h⟩) | h
            · exact .inl (.inl (by rw [upd_ne z]; exact h))
            · exact .inl (.inr ⟨o, by rw [upd_ne z]; exact h⟩)
            · exact .inr h
        refine ⟨_, _, rfl, (s3.trans s456).new nd, by rw [upd_ne nbd]; exact s456 _ _ eb3, Paired.imp (fun _ _ z => RowA.tk tk7 (RowA.tk s456.tk z)) hpb3, ?_⟩
        rw [upd_same, putK_new hvn, hms, List.map_append]; rfl
    · rintro σ H3 ⟨x4, x5, rfl, s3, eb3, hpb3, ed3⟩
      rw [hbl] at ed3
      refine ⟨_, rfl, z, one, n, m, Fm, Am, Bm, rfl, hz.tk s3.tk, by rw [ok.F_.1]; exact small1000 ok.m_, fun l hl => by rw [ok.F_.2 l hl]; exact small1000 ok.n_, fun H4 v4 s4 ⟨a4, x4', e4, h4, a5, v5, e5, h5, hp5⟩ => ?_⟩
      subst e4 e5
      refine ⟨a4, _, 1, _, rfl, rfl, h4, rfl, a5, v5, rfl, .inr h5, _, _, rfl, rfl, _, rfl, ite2 (fun h => q _ (s3.trans s4)) fun h => ?_⟩
      refine ⟨_, rfl, d, _, rfl, s4 _ _ ed3, _, _, rfl, rfl, ?_⟩
      have hv5 : v5.length = 0 := by
        have : ¬ ((0 : Int) < (v5.length : Int)) := fun z => h (decide_eq_true z)
        omega
      have hl := metN_one g hm3 (by rw [← Paired.length hp5]; exact hv5) _ (Nat.le_refl _)
      rw [List.length_map]
      have : decide (((metN m one Am Bm (aheadOf Fm) (boxN m).length).length : Int) < 2) = true := decide_eq_true (by omega)
      show Q (.bl (decide (((metN m one Am Bm (aheadOf Fm) (boxN m).length).length : Int) < 2))) H4
      rw [this]
      exact q _ (s3.trans s4)
end
end SF
end
section
set_option maxHeartbeats 4000000
namespace SF
open PySem PySem.Spec PyProof.Rows L2
open LamX (Tabs TabS ExtN TabB CodeO)
theorem ExtN.free {H H' : Hp} {a : Addr} {o : HO} (e : ExtN H H') (h : H a = some o) (t : ∀ ps, o ≠ .tbl ps) : H' a = some o := e _ _ h t
theorem FeedA.ext {H H' : Hp} {fa ca : Addr} {N : Nat} (e : ExtN H H') (h : FeedA H fa ca N) : FeedA H' fa ca N := by
  obtain ⟨cells, t, rest, e1, n, e2, ht, hr⟩ := h
  exact ⟨cells, t, rest, e _ _ e1 (fun ps z => by cases z), n, e _ _ e2 (fun ps z => by cases z), ht, hr⟩
/-- so many numbers, drawn one after the other -/
def DrawnL (m b : Nat) (r : List Int) : Prop := r.length = m ∧ ∀ z ∈ r, Bt b z
theorem sm_shape {n : Nat} {rows : List (List Int)} (h : ∀ r ∈ rows, SmR n r) : Shape rows.length n rows := ⟨rfl, fun r hr => (h r hr).1⟩
theorem sm_le {n : Nat} {rows : List (List Int)} (h : ∀ r ∈ rows, SmR n r) : Le (2 ^ 7) (mg2 rows) := fun i k => by
  have := mg2_bt (M := rows) (b := 7) (fun l hl z hz => sm_bt (h l hl) z hz) i k
  exact Nat.le_of_lt this
theorem ans_bt {L n m : Nat} {T : List (List Int)} {p one r : List Int} {F A B : List (List Int)} (g : GoodL L n m T p one F A B) (hm : m ≤ 3) (hr : r.length = (A.drop (aheadOf F)).length) (hb : ∀ z ∈ r, Bt 7 z) : ∀ z ∈ answerAt one m (A.drop (aheadOf F)) r, Bt (L + 10) z := by
  have hle : (A.drop (aheadOf F)).length ≤ m := by rw [List.length_drop, g.ok.A_.1]; omega
  refine bt_list fun k hk => ?_
  unfold answerAt at hk ⊢
  rw [List.length_zipWith, rowTimes_length, g.ok.one_, Nat.min_self] at hk
  rw [vg_zip g.ok.one_ (rowTimes_length _ _ _) hk, vg_rowTimes hk, rsum_eq hr rfl]
  have h1 : Bt (L + 9) (S (A.drop (aheadOf F)).length fun j => vg r j * mg2 (A.drop (aheadOf F)) j k) := by
    refine (S3_bt (by omega) fun j hj => ?_ : Bt (7 + L + 2) _).mono (by omega)
    exact (vg_bt hb j).mul (mg2_bt (fun l hl => g.ok.bA l (List.mem_of_mem_drop hl)) j k)
  exact ((vg_bt g.ok.bone k).mono (show L ≤ L + 9 by omega)).add h1
/-- a right paper stands at v -/
def GP (K : PySem.W.Frag) (H : Hp) (v : V) (n m : Nat) (T : List (List Int)) (p : List Int) : Prop := ∃ one F A B, PapA K H v one n m F A B ∧ GoodL 300000 n m T p one F A B
theorem GP.tk {K : PySem.W.Frag} {H H' : Hp} {v : V} {n m : Nat} {T : List (List Int)} {p : List Int} (t : TK K H H') (h : GP K H v n m T p) : GP K H' v n m T p :=
  let ⟨one, F, A, B, h1, h2⟩ := h; ⟨one, F, A, B, h1.tk t, h2⟩
section
variable {P : Program} {w : World} {K : PySem.W.Frag} {mg : Str → Option Value} {base : Heap} {f : Addr} {fd : FuncData}
/-! ### law: _law_script 0 _law_feed_here 1 _law_turn 2 _law_table_here 3 _law_numbers 4 _law_point 5 _law_told 6 _law_own 7 _law_paper 8 _law_some 9 _law_row_here 10; cells _law_feed_here -/
abbrev st_law : Stmt := topS 58
abbrev sl_law : List Str := ["_law_script", "_law_feed_here", "_law_turn", "_law_table_here", "_law_numbers", "_law_point", "_law_told", "_law_own", "_law_paper", "_law_some", "_law_row_here"]
theorem sc_law : FnScope sl_law ["_law_script"] (defScope st_law) := ⟨rfl, rfl, rfl, by decide +kernel, rfl, by decide +kernel, by decide +kernel⟩
-- calls _law_box_right _law_draw _law_feed _law_otherwise _law_own_paper _law_row_times _law_table answer_at answers_paper free_rows; built-ins range tuple; level 9
def sp_law (TT : List (Addr × Str)) (K : PySem.W.Frag) : Sp := fun vs H Q _ => ∃ (a : Addr) (ns : List Int), vs = [.ref a] ∧ SqL K H a (ns.map V.int) ∧ Tabs TT H ∧ ∀ H', Q (.bl true) H'
theorem ok_law (M : Blt mg) {TT : List (Addr × Str)} (C__law_feed : Cal P w K mg base 1 "_law_feed" ["_law_script"] (sp_law_feed K)) (C__law_draw : Cal P w K mg base 1 "_law_draw" ["_law_feed_here", "_law_many"] (sp_law_draw K)) (C__law_table : Cal P w K mg base 4 "_law_table" ["_law_feed_here", "_law_most", "_law_wide"] (sp_law_table K)) (C__law_row_times : Cal P w K mg base 1 "_law_row_times" ["_law_row_here", "_law_table_here"] (sp_row_times K)) (C_answers_paper : Cal P w K mg base 8 "answers_paper" ["table", "point"] (sp_answers_paper TT K)) (C__law_own_paper : Cal P w K mg base 3 "_law_own_paper" ["_law_table_here", "_law_one"] (sp_law_own_paper K)) (C__law_otherwise : Cal P w K mg base 2 "_law_otherwise" ["_law_feed_here", "_law_paper"] (sp_law_otherwise K)) (C__law_box_right : CalG P w K mg base 3 "_law_box_right" ["_law_table_here", "_law_point", "_law_paper"] (sp_law_box_right K)) (C_free_rows : Cal P w K mg base 1 "free_rows" ["paper"] (sp_free_rows K)) (C_answer_at : Cal P w K mg base 2 "answer_at" ["paper", "numbers"] (sp_answer_at K))
    (F : Fun K "law" "law" st_law f fd) : FnG P w K mg base CX0 9 f fd ["_law_script"] (sp_law TT K) := by
  refine F.okG sc_law (fun vs H Q E h => ?_) (fun cdv A outer s H vs Q E hgd0 hr h => ?_)
  · obtain ⟨_, _, rfl, _⟩ := h
    rfl
  · obtain ⟨a, ns, rfl, ha, hT, q⟩ := h
    have hgd : (A.deeper (envOfC "law" (defScope st_law) s.heap.objs.size f cdv)).guards = some [] := guards_deeper hgd0
    refine ⟨_, (pss_cons (ps_set (i := 1) sc_law.nd rfl (Or.inr rfl) (pe_cal C__law_feed (hr.mono (by decide)) (by rfl) (pa_cons (pv 0) pa_nil)))
      (pss_cons (ps_for PassesOwn.never rfl (pi_range1 (by rfl) M.range (pa_cons pe_int pa_nil)) (pg_name (i := 2) sc_law.nd rfl (.inl rfl))
        (pss_cons (ps_set (i := 3) sc_law.nd rfl (Or.inl rfl) (pe_cal C__law_table (hr.mono (by decide)) (by rfl) (pa_cons (pv 1) (pa_cons pe_int (pa_cons (pe_op op_add pe_int (pe_cal C__law_draw (hr.mono (by decide)) (by rfl) (pa_cons (pv 1) (pa_cons pe_int pa_nil)))) pa_nil)))))
        (pss_cons (ps_set (i := 4) sc_law.nd rfl (Or.inl rfl) (pe_callTy (T := "tuple") (r := rTupOf K) call_tup (by rfl) M.tuple (by decide +kernel) (pa_cons (pe_lc (own := [("_law_row_here", 10)]) rfl sc_law.nd (pi_tupK (K := K) rfl (pe_ix (r := rIxT K) ix_tup (pv 3) pe_int (fun _ _ => rfl))) (blkOk_by (N := sl_law) (sc := defScope st_law) (by decide +kernel)) (fun _ _ _ _ _ => (pg_name (i := 10) sc_law.nd rfl (.inl rfl) (.inr rfl))) (fun _ _ _ _ _ => pts_nil) (fun _ _ _ _ _ => (pe_op op_sub (pe_cal C__law_draw (hr.mono (by decide)) (by rfl) (pa_cons (pv 1) (pa_cons pe_int pa_nil))) pe_int))) pa_nil)))
        (pss_cons (ps_set (i := 5) sc_law.nd rfl (Or.inl rfl) (pe_cal C__law_row_times (hr.mono (by decide)) (by rfl) (pa_cons (pv 4) (pa_cons (pv 3) pa_nil))))
        (pss_cons (ps_set (i := 6) sc_law.nd rfl (Or.inl rfl) (pe_cal C_answers_paper (hr.mono (by decide)) (by rfl) (pa_cons (pv 3) (pa_cons (pv 5) pa_nil))))
        (pss_cons (ps_set (i := 7) sc_law.nd rfl (Or.inl rfl) (pe_cal C__law_otherwise (hr.mono (by decide)) (by rfl) (pa_cons (pv 1) (pa_cons (pe_cal C__law_own_paper (hr.mono (by decide)) (by rfl) (pa_cons (pv 3) (pa_cons (pv 4) pa_nil))) pa_nil))))
        (pss_cons (ps_set (i := 8) sc_law.nd rfl (Or.inl rfl) (pe_ix (r := rIxL K) ix_list (pe_lst (pa_cons (pv 6) (pa_cons (pv 7) pa_nil))) (pe_cal C__law_draw (hr.mono (by decide)) (by rfl) (pa_cons (pv 1) (pa_cons pe_int pa_nil))) (fun _ _ => rfl)))
        (pss_cons (ps_if (PW.pt (pw_or (pt_cmpR op_ne (pe_ix (r := rIxT K) ix_tup (pv 6) pe_int (fun _ _ => rfl)) pe_str (nomark _)) (pw_or1 (pt_not (pt_val (pe_calG C__law_box_right hgd (hr.mono (by decide)) (by rfl) (pa_cons (pv 3) (pa_cons (pv 5) (pa_cons (pv 8) pa_nil)))))))))
          (pss_one (ps_ret pe_bl))
          pss_nil)
        (pss_one (ps_for PassesOwn.never rfl (pi_tupK (K := K) rfl (pe_tup (pa_cons (pv 6) (pa_cons (pv 7) pa_nil)))) (pg_name (i := 8) sc_law.nd rfl (.inl rfl))
          (pss_cons (ps_set (i := 9) sc_law.nd rfl (Or.inl rfl) (pe_callTy (T := "tuple") (r := rTupOf K) call_tup (by rfl) M.tuple (by decide +kernel) (pa_cons (pe_lc (own := [("_law_row_here", 10)]) rfl sc_law.nd (pi_tupK (K := K) rfl (pe_ix (r := rIxT K) ix_tup (pe_cal C_free_rows (hr.mono (by decide)) (by rfl) (pa_cons (pv 8) pa_nil)) pe_int (fun _ _ => rfl))) (blkOk_by (N := sl_law) (sc := defScope st_law) (by decide +kernel)) (fun _ _ _ _ _ => (pg_name (i := 10) sc_law.nd rfl (.inl rfl) (.inr rfl))) (fun _ _ _ _ _ => pts_nil) (fun _ _ _ _ _ => (pe_op op_sub (pe_cal C__law_draw (hr.mono (by decide)) (by rfl) (pa_cons (pv 1) (pa_cons pe_int pa_nil))) pe_int))) pa_nil)))
          (pss_one (ps_if (pt_cmpR (r := rNeD K) (op_neD hr.units) (pe_cal C__law_row_times (hr.mono (by decide)) (by rfl) (pa_cons (pe_cal C_answer_at (hr.mono (by decide)) (by rfl) (pa_cons (pv 8) (pa_cons (pv 9) pa_nil))) (pa_cons (pv 3) pa_nil))) (pv 5) (nomark _))
            (pss_one (ps_ret pe_bl))
            pss_nil)))))))))))))
      (pss_one (ps_ret pe_bl)))), ?_⟩
    refine ⟨_, rfl, a, ns, rfl, ha, fun H1 fa ca s1 nfa f1 => ?_⟩
    refine ⟨2, rfl, by decide, by decide, ?_⟩
    refine for_it (walk_rg (n := 2)) (fun k σ H2 => ∃ x2 x3 x4 x5 x6 x7 x8 x9, σ = [some (.ref a), some (.ref fa), x2, x3, x4, x5, x6, x7, x8, x9, none] ∧ FeedA H2 fa ca (300 * k) ∧ Tabs TT H2)
      ⟨none, none, none, none, none, none, none, none, rfl, f1, tabs_same hT s1⟩ (fun _ _ _ _ _ => True.intro) ?_ ?_
    · rintro k x σ H2 H2' hk ⟨x2, x3, x4, x5, x6, x7, x8, x9, rfl, f2, T2⟩ ⟨rfl, rfl⟩
      refine ⟨_, rfl, _, rfl, fa, ca, 3, 300 * k, rfl, f2, by decide, by decide, by omega, fun H3 dn b3 f3 hdn => ?_⟩
      have T3 := tabs_but T2 b3 f2.lst
      refine ⟨_, _, rfl, rfl, fa, ca, 1 + dn, 300 * k + 1, ?_, f3, by omega, by omega, by omega, fun H4 vt rows b4 f4 hvt hl3 hsm => ?_⟩
      · show [V.ref fa, V.int 3, V.int (1 + (dn : Int))] = [V.ref fa, V.int 3, V.int ((1 + dn : Nat) : Int)]
        rw [Int.natCast_add]; rfl
      have T4 := tabs_but T3 b4 f3.lst
      obtain ⟨n, hn⟩ : ∃ n, n = 1 + dn := ⟨_, rfl⟩
      rw [← hn] at hvt hsm
      have sh := sm_shape hsm
      have hle := sm_le hsm
      obtain ⟨m, hm⟩ : ∃ m, m = rows.length := ⟨_, rfl⟩
      rw [← hm] at sh hl3
      obtain ⟨at_, xt, rfl, ht, ar, us, rfl, hr1, hpu⟩ := id hvt
      have hul : us.length = m := by rw [Paired.length hpu, hm]
      -- the numbers
      refine ⟨_, rfl, at_, _, 1, _, rfl, rfl, ht, rfl, ar, rfl, ⟨us, hr1⟩, fun D hD => ?_⟩
      obtain ⟨nDf, nDc⟩ := f4.away hD
      refine lc_it walk_tup (fun i H5 => But [fa] H4 H5 ∧ FeedA H5 fa ca (300 * k + 61 + i) ∧ ∃ r : List Int, H5 D = some (.lst (r.map V.int)) ∧ DrawnL i 3 r) ⟨But.of (same1 hD), f4.same (same1 hD), [], upd_same, rfl, fun z hz => by simp at hz⟩ (fun i H' _ ⟨b, _⟩ => b.tk f4.lst _ _ hr1) ?_ ?_
      · rintro i x H5 H5' hi ⟨b5, f5, r, er, hr2⟩ ⟨rfl, ex⟩
        refine ⟨rfl, ?_⟩
        dsimp only [tYes]
        rw [if_pos rfl]
        refine ⟨_, rfl, fa, ca, 5, 300 * k + 61 + i, rfl, f5, by decide, by decide, by omega, fun H6 dr b6 f6 hdr => ⟨_, _, rfl, rfl, r.map V.int, b6 _ _ (by simp [nDf]) er, by rw [List.length_map, hr2.1]; exact small1000 (by omega), ?_, f6.put nDf nDc, r ++ [(dr : Int) - 2], by rw [upd_same, List.map_append]; rfl, by rw [List.length_append, hr2.1]; rfl, fun y hy => ?_⟩⟩
        · intro b o nb eb
          rw [upd_ne (ne_of_none eb hD)]
          exact (b5.trans b6) b o nb eb
        · rcases List.mem_append.mp hy with hy | hy
          · exact hr2.2 y hy
          · rw [List.mem_singleton.mp hy]; unfold Bt; omega
      rintro H5 ⟨b5, f5, r, er, hr2⟩
      rw [hul] at f5 hr2
      refine ⟨D, _, rfl, .inl ⟨SqL.of er, fun l nl => ?_⟩⟩
      have t5 := same1 (o := .tup (r.map V.int)) nl
      have b5' := b5.same t5
      have T5 := tabs_but T4 b5' f4.lst
      have f5' := f5.same t5
      have k5 : TK K H4 _ := b5'.tk f4.lst
      have hvt5 := hvt.tk k5
      have hnum5 : RowA K (upd H5 l (.tup (r.map V.int))) (.ref l) r := ⟨l, rfl, SqT.of upd_same⟩
      have br7 : ∀ l ∈ rows, ∀ z ∈ l, Bt 7 z := fun l hl z hz => sm_bt (hsm l hl) z hz
      -- the point
      refine ⟨_, rfl, _, rfl, .ref l, .ref at_, r, n, rows, 3, 7, rfl, hnum5, hvt5, by omega, sh.2, hr2.2, br7, by decide, fun H6 vp s6 hvp => ?_⟩
      have T6 := tabs_same T5 s6
      -- the told paper
      refine ⟨_, rfl, _, rfl, .ref at_, vp, n, m, rows, rowTimes r n rows, r, rfl, hvt5.tk s6.tk, hvp, sh, hl3, by omega, hle, rfl, hr2.1, hr2.2, T6, fun H7 vtold one1 F1 A1 B1 e7 T7 P7 g7 => ?_⟩
      have f7 := (f5'.same s6).ext e7
      have k7 : TK K H4 H7 := (k5.trans s6.tk).trans (ExtN.tk e7)
      -- the own paper
      refine ⟨_, rfl, _, rfl, _, rfl, .ref at_, .ref l, n, m, rows, rowTimes r n rows, r, rfl, hvt.tk k7, (hnum5.tk s6.tk).tk (ExtN.tk e7), sh, hl3, by omega, hle, rfl, hr2.1, fun z hz => (hr2.2 z hz).mono (by decide), fun H8 vown F2 A2 B2 s8 P8 g8 => ?_⟩
      have f8 := f7.same s8
      refine ⟨fa, ca, vown, 300 * k + 61 + m, n, m, 20000, rows, rowTimes r n rows, r, F2, A2, B2, rfl, f8, by omega, P8, g8, by decide, fun H9 vo one2 A3 B3 b9 f9 P9 g9 => ?_⟩
      have T9 := tabs_but (tabs_same T7 s8) b9 f8.lst
      have k79 : TK K H7 H9 := s8.tk.trans (b9.tk f8.lst)
      have Q7 := P7.tk k79
      have g9' := g9.mono (show 20000 + 6 ≤ 300000 by decide)
      -- one of them
      refine ⟨_, rfl, _, rfl, by show 2 ≤ sizeLine; decide, fun pl npl => ?_⟩
      have u9 := same1 (o := .lst [vtold, vo]) npl
      obtain ⟨npf, npc⟩ := f9.away npl
      have G9 : GP K H9 vtold n m rows (rowTimes r n rows) := ⟨_, _, _, _, Q7, g7⟩
      have G9' : GP K H9 vo n m rows (rowTimes r n rows) := ⟨_, _, _, _, P9, g9'⟩
      refine ⟨_, rfl, fa, ca, 2, 300 * k + 61 + m + 2, rfl, f9.same u9, by decide, by decide, by omega, fun H10 dr b10 f10 hdr => ?_⟩
      have k10 : TK K H9 H10 := u9.tk.trans (b10.tk (f9.same u9).lst)
      have T10 := tabs_but (tabs_same T9 u9) b10 (f9.same u9).lst
      obtain ⟨v, hv, one, Fv, Av, Bv, Pv, gv⟩ : ∃ v, atI [vtold, vo] (dr : Int) = some v ∧ GP K H10 v n m rows (rowTimes r n rows) := by
        match dr, hdr with
        | 0, _ => exact ⟨vtold, rfl, G9.tk k10⟩
        | 1, _ => exact ⟨vo, rfl, G9'.tk k10⟩
      have k410 : TK K H4 H10 := (k7.trans k79).trans k10
      have vt10 := hvt.tk k410
      have vp10 := hvp.tk (((ExtN.tk e7).trans k79).trans k10)
      obtain ⟨a7, o7, fo7, t7, b7, rfl, h7, _⟩ := id (Q7.tk k10)
      refine ⟨pl, _, (dr : Nat), v, rfl, rfl, SqL.of (b10 _ _ (by simp [npf]) upd_same), hv, ?_⟩
      refine ⟨_, rfl, a7, _, 0, _, rfl, rfl, h7, rfl, rfl, _, rfl, iteN (by decide +kernel) ?_⟩
      refine ⟨_, rfl, _, rfl, _, rfl, .ref at_, vp, v, n, m, rows, rowTimes r n rows, one, Fv, Av, Bv, rfl, vt10, vp10, Pv, gv, hl3, by omega, fun l hl z hz => (br7 l hl z hz).mono (by decide), fun H11 s11 => ⟨_, rfl, iteN (by decide +kernel) ?_⟩⟩
      -- any numbers tell an answer
      refine ⟨_, rfl, _, rfl, by show 2 ≤ sizeLine; decide, fun pt npt => ⟨pt, rfl, ⟨_, SqT.of upd_same⟩, ?_⟩⟩
      have u11 := s11.push (o := .tup [.ref a7, vo]) npt
      have f11 := f10.same u11
      have k11 : TK K H9 _ := k10.trans u11.tk
      have vt11 := vt10.tk u11.tk
      have vp11 := vp10.tk u11.tk
      refine for_it walk_tup (fun i σ H12 => ∃ x8 x9, σ = [some (.ref a), some (.ref fa), some (.int (k : Nat)), some (.ref at_), some (.ref l), some vp, some (.ref a7), some vo, x8, x9, none] ∧ But [fa] (upd H11 pt (.tup [.ref a7, vo])) H12 ∧ FeedA H12 fa ca (300 * k + 61 + m + 3 + 5 * i))
        ⟨_, _, rfl, But.refl _ _, f11⟩ (fun i σ H12 _ ⟨_, _, _, b, _⟩ => b.tk f11.lst _ _ (SqT.of upd_same)) ?_ ?_
      · rintro i x σ H12 H12' hi ⟨x8, x9, rfl, b12, f12⟩ ⟨rfl, ex⟩
        have hi2 : i < 2 := hi
        have k12 : TK K _ H12' := b12.tk f11.lst
        obtain ⟨onex, Fx, Ax, Bx, Px, gx⟩ : GP K H12' x n m rows (rowTimes r n rows) := by
          match i, hi2 with
          | 0, _ => cases Option.some.inj ex; exact G9.tk (k11.trans k12)
          | 1, _ => cases Option.some.inj ex; exact G9'.tk (k11.trans k12)
        have okx := gx.ok
        refine ⟨_, rfl, x, onex, n, m, Fx, Ax, Bx, rfl, Px, by rw [okx.F_.1]; exact small1000 okx.m_, fun l hl => by rw [okx.F_.2 l hl]; exact small1000 okx.n_, fun H13 v13 s13 ⟨a13, x13, e13, h13, ar13, us13, e13', h13', hp13⟩ => ?_⟩
        subst e13 e13'
        have f13 := f12.same s13
        refine ⟨a13, _, 1, _, rfl, rfl, h13, rfl, ar13, rfl, ⟨us13, h13'⟩, fun D2 hD2 => ?_⟩
        obtain ⟨nDf, nDc⟩ := f13.away hD2
        have hul2 : us13.length = (Ax.drop (aheadOf Fx)).length := Paired.length hp13
        have hle3 : (Ax.drop (aheadOf Fx)).length ≤ m := by rw [List.length_drop, okx.A_.1]; omega
        refine lc_it walk_tup (fun j H5 => But [fa] H13 H5 ∧ FeedA H5 fa ca (300 * k + 61 + m + 3 + 5 * i + j) ∧ ∃ r : List Int, H5 D2 = some (.lst (r.map V.int)) ∧ DrawnL j 7 r) ⟨But.of (same1 hD2), f13.same (same1 hD2), [], upd_same, rfl, fun z hz => by simp at hz⟩ (fun i H' _ ⟨b, _⟩ => b.tk f13.lst _ _ h13') ?_ ?_
        · rintro j x' H5 H5' hj ⟨b5, f5, r2, er2, hr22⟩ ⟨rfl, ex2⟩
          refine ⟨rfl, ?_⟩
          dsimp only [tYes]
          rw [if_pos rfl]
          refine ⟨_, rfl, fa, ca, 199, 300 * k + 61 + m + 3 + 5 * i + j, rfl, f5, by decide, by decide, by omega, fun H6 dr b6 f6 hdr => ⟨_, _, rfl, rfl, r2.map V.int, b6 _ _ (by simp [nDf]) er2, by rw [List.length_map, hr22.1]; exact small1000 (by omega), ?_, f6.put nDf nDc, r2 ++ [(dr : Int) - 99], by rw [upd_same, List.map_append]; rfl, by rw [List.length_append, hr22.1]; rfl, fun y hy => ?_⟩⟩
          · intro b o nb eb
            rw [upd_ne (ne_of_none eb hD2)]
            exact (b5.trans b6) b o nb eb
          · rcases List.mem_append.mp hy with hy | hy
            · exact hr22.2 y hy
            · rw [List.mem_singleton.mp hy]; unfold Bt; omega
        rintro H14 ⟨b14, f14, r2, er2, hr22⟩
        rw [hul2] at f14 hr22
        refine ⟨D2, _, rfl, .inl ⟨SqL.of er2, fun l2 nl2 => ?_⟩⟩
        have t14 := same1 (o := .tup (r2.map V.int)) nl2
        have b15 := b14.same t14
        have f15 := f14.same t14
        have k15 : TK K H12' _ := s13.tk.trans (b15.tk f13.lst)
        refine ⟨_, rfl, _, rfl, x, .ref l2, onex, n, m, 300000, 7, Fx, Ax, Bx, r2, rfl, Px.tk k15, okx, ⟨l2, rfl, SqT.of upd_same⟩, hr22.2, by decide, fun H16 v16 s16 hv16 => ?_⟩
        refine ⟨_, rfl, v16, .ref at_, _, n, rows, 300010, 7, rfl, hv16, vt11.tk ((k12.trans k15).trans s16.tk), by omega, sh.2, ans_bt gx hl3 hr22.1 hr22.2, br7, by decide, fun H17 v17 s17 hv17 => ?_⟩
        refine ⟨_, rfl, _, _, dp_row hv17, dp_row (vp11.tk (((k12.trans k15).trans s16.tk).trans s17.tk)), sh_t _, sh_t _, _, rfl, ?_⟩
        rw [eqv_tup, gx.any hr22.1, decide_eq_true rfl]
        refine iteN (by decide) ⟨_, _, rfl, ?_, ?_⟩
        · exact (b12.trans ((But.of s13).trans b15)).same (s16.trans s17)
        · exact (f15.same (s16.trans s17)).mono (by omega)
      · rintro σ H12 ⟨x8, x9, rfl, b12, f12⟩
        exact ⟨_, _, _, _, _, _, _, _, rfl, f12.mono (by show 300 * k + 61 + m + 3 + 5 * 2 ≤ _; omega), tabs_but (tabs_same T10 u11) b12 f11.lst⟩
    · rintro σ H2 ⟨x2, x3, x4, x5, x6, x7, x8, x9, rfl, f2, T2⟩
      exact q _
end
end SF
end
section
set_option maxHeartbeats 4000000
namespace SF
open PySem PySem.Spec PyProof.Rows L2
open LamX (Tabs TabS ExtN TabB CodeO)
/-! ### the end: the law's def is called with a fresh script, one code table is empty -/
section
variable {P : Program} {w : World} {K : PySem.W.Frag} {mg mb : Str → Option Value} {k : Nat} {fa a c t : Addr} {fd : FuncData} {x : Str} {sp : Sp} {s₁ : Shared} {vs : List Value} {ns : List Int}
/-- what is tracked at the start: the table, the script (if the view does not hold it) -/
def startH (K : PySem.W.Frag) (a t : Addr) (oA : Obj) (ns : List Int) : Hp := fun b => if b = t then some (.tbl #[]) else if b = a ∧ K.lookup a = none then some (.frz oA (.lst (ns.map V.int))) else none
theorem startH_cases {oA : Obj} {b : Addr} {u : HO} (h : startH K a t oA ns b = some u) : (b = t ∧ u = .tbl #[]) ∨ (b = a ∧ K.lookup a = none ∧ u = .frz oA (.lst (ns.map V.int))) := by
  unfold startH at h
  by_cases h1 : b = t
  · rw [if_pos h1] at h; exact .inl ⟨h1, (Option.some.inj h).symm⟩
  · rw [if_neg h1] at h
    by_cases h2 : b = a ∧ K.lookup a = none
    · rw [if_pos h2] at h; exact .inr ⟨h2.1, h2.2, (Option.some.inj h).symm⟩
    · rw [if_neg h2] at h; cases h
theorem startH_t {oA : Obj} : startH K a t oA ns t = some (.tbl #[]) := if_pos rfl
theorem startH_a {oA : Obj} (h1 : a ≠ t) (h2 : K.lookup a = none) : startH K a t oA ns a = some (.frz oA (.lst (ns.map V.int))) := by
  unfold startH; rw [if_neg h1, if_pos ⟨rfl, h2⟩]
theorem startH_none {oA : Obj} {b : Addr} (h1 : b ≠ t) (h2 : b ≠ a) : startH K a t oA ns b = none := by
  unfold startH; rw [if_neg h1, if_neg fun z => h2 z.1]
theorem law_end (KX : K.In s₁.heap) (hns : s₁.heap.Ns mainGlobals mg) (hb : s₁.heap.Ns builtinsNs mb) (hbb : ∀ x : Str, x ≠ "__name__" → mb x = bootBuiltins x) (hlim : s₁.heap.NoLimit) (hg : s₁.gens = #[])
    (hT : s₁.heap.get? t = some { cls := .none, data := .fields #[] }) (nT : K.lookup t = none) (C : PySem.W.CodeHd s₁.heap c t)
    (hbm : ∃ (bm : Addr) (ob : Obj), mg "__builtins__" = some (.ref bm) ∧ bm ≠ builtinsNs ∧ s₁.heap.get? bm = some ob ∧ ob.cls = .type "module" ∧ ob.dict = some builtinsNs ∧ ob.data = .plain)
    (ha : s₁.heap.get? a = some { cls := .type "list", data := .seq vs.toArray }) (hi : IntsAre vs ns) (hl : ns.length ≤ sizeLine) (hr : Room k callerA)
    (F : ∀ base : Heap, K.In base → base.Ns mainGlobals mg → TabB base mg c t → FnG P w K mg base CX0 k fa fd [x] sp) (hbind : ∀ (s : Shared) (u : Value), BindsTo s fd ⟨[u], []⟩ [(x, u)])
    (hsp : ∀ H : Hp, H t = some (.tbl #[]) → SqL K H a (ns.map V.int) → sp [.ref a] H (fun v _ => v = .bl true) fun _ _ _ => False) :
    codeAny (model P w) callerA (.call (.ref fa) ⟨[.ref a], []⟩) (fun r s' => r = .ok (.ret (.bool true)) ∧ OldK s₁.heap s'.heap ∧ s'.os = s₁.os ∧ AllBare s'.gens) s₁ := by
  have rv := vals_ints hi
  have lenV := hi.length
  have nat : a ≠ t := fun z => by rw [z, hT] at ha; cases ha
  -- an object that is neither the table nor a list is not tracked
  have off : ∀ {b : Addr} {o : Obj}, s₁.heap.get? b = some o → (∀ xs n, o.data ≠ .seq xs n) → o.data ≠ .fields #[] → startH K a t { cls := .type "list", data := .seq vs.toArray } ns b = none := fun {b o} e h1 h2 =>
    startH_none (fun z => by rw [z, hT] at e; cases e; exact h2 rfl) fun z => by rw [z, ha] at e; cases e; exact h1 _ _ rfl
  generalize hH : startH K a t { cls := .type "list", data := .seq vs.toArray } ns = H at off
  have cs : ∀ {b u}, H b = some u → (b = t ∧ u = .tbl #[]) ∨ (b = a ∧ K.lookup a = none ∧ u = .frz { cls := .type "list", data := .seq vs.toArray } (.lst (ns.map V.int))) := fun {b u} e => startH_cases (by rw [hH]; exact e)
  have Ht : H t = some (.tbl #[]) := by rw [← hH]; exact startH_t
  have hok : HOk P w H s₁.heap := fun b u e => by
    rcases cs e with ⟨rfl, rfl⟩ | ⟨rfl, _, rfl⟩
    · exact hT
    · exact ⟨ha, by rw [List.length_map]; exact hl, vs, _, rv, ha⟩
  have hS : SqL K H a (ns.map V.int) := by
    cases q : K.lookup a with
    | none => exact .inl (.inr ⟨_, by rw [← hH]; exact startH_a nat q⟩)
    | some o =>
      have e := KX a o q
      rw [ha] at e
      cases e
      exact .inr ⟨_, vs.toArray, _, q, rfl, rfl, rfl, by rw [List.size_toArray, lenV]; exact hl, by simpa using rv⟩
  have kget : ∀ {b : Addr} {o : Obj}, s₁.heap.get? b = some o → H b = none → (hidT s₁.heap H).get? b = some o := fun e n => hidT_get e n
  have kns : ∀ {b : Addr} {m : Str → Option Value}, s₁.heap.Ns b m → (hidT s₁.heap H).Ns b m := fun {b m} ⟨o, es, ep, e, d, r⟩ => ⟨o, es, ep, kget e (off e (fun xs n z => by rw [d] at z; cases z) (fun z => by rw [d] at z; cases z)), d, r⟩
  have KB : K.In (hidT s₁.heap H) := fun b o e => kget (KX b o e) (by
    cases q : H b with
    | none => rfl
    | some u =>
      rcases cs q with ⟨rfl, _⟩ | ⟨rfl, n, _⟩
      · rw [nT] at e; cases e
      · rw [n] at e; cases e)
  have TB : TabB (hidT s₁.heap H) mg c t := by
    refine ⟨?_, ?_, fun z => ?_⟩
    · obtain ⟨o, us, file, tf, flags, tg, inF, text, tt, e1, r1, r2, r3, r4⟩ := C
      refine ⟨o, us, file, tf, flags, tg, inF, text, tt, kget e1 (off e1 (fun xs n z => by rw [r2] at z; cases z) fun z => ?_), r1, r2, r3, r4⟩
      rw [r2] at z
      cases z
      simp at r3
    · obtain ⟨bm, ob, b1, b2, b3, b4, b5, b6⟩ := hbm
      refine ⟨bm, ob, b1, b2, fun q => ?_, fun q => ?_, kget b3 (off b3 (fun xs n z => by rw [b6] at z; cases z) (fun z => by rw [b6] at z; cases z)), b4, b5, b6⟩
      · obtain ⟨o, es, ep, e, hd, _⟩ := hns
        rw [q, e] at b3
        cases b3
        rw [hd] at b6
        cases b6
      · rw [q, hT] at b3
        cases b3
        cases b6
    · obtain ⟨o, es, ep, e, hd, _⟩ := hns
      rw [z, hT] at e
      cases e
      cases hd
  have e0 : Env0 P w K mg (hidT s₁.heap H) callerA [] s₁ H := ⟨rfl, ⟨KB, kns hns, ⟨mb, kns hb, hbb⟩, let ⟨mc, h1, h2⟩ := hlim; ⟨mc, kns h1, h2⟩⟩, fun b o e => of_hidT e, Nat.le_of_eq (hidT_size _ _), trivial, fun b hb => absurd (show b ∈ ([] : List Addr) from hb) (by simp), hok, .of_eq hg⟩
  refine codeAny_mono ((F _ KB (kns hns) TB).run callerA [] s₁ H ⟨[.ref a], []⟩ [.ref a] [.ref a] _ _ rfl hr e0 (hbind s₁ (.ref a)) (.cons rfl .nil) (hsp H Ht hS)) fun r s' h => ?_
  match r, h with
  | .ok (.ret u), h =>
    obtain ⟨v, H', os, bare, un, hok', r', q⟩ := h
    obtain rfl : v = .bl true := q
    obtain rfl : u = Value.bool true := r'
    have keep : ∀ b o, b ≠ t → s₁.heap.get? b = some o → s'.heap.get? b = some o := fun b o nb e => by
      cases q : H b with
      | none => exact un.keep b o e q (by intro z; exact absurd (show b ∈ ([] : List Addr) from z) (by simp)) (by simp)
      | some u =>
        rcases cs q with ⟨z, _⟩ | ⟨_, _, rfl⟩
        · exact absurd z nb
        · obtain ⟨e2, _⟩ := hok' b _ (un.frzs b _ _ q)
          obtain ⟨e1, _⟩ := hok b _ q
          rw [e] at e1
          cases e1
          exact e2
    obtain ⟨more, hm⟩ := un.tbls t #[] Ht
    have et : s'.heap.get? t = some { cls := .none, data := .fields (#[] ++ more) } := hok' t _ hm
    refine ⟨rfl, ⟨fun b o e => ?_, fun b o e => ?_⟩, os, bare⟩
    · by_cases hbt : b = t
      · subst hbt
        rw [hT] at e
        cases e
        exact .inr (.inl ⟨(C.tab hT).isCodeTable, rfl, #[], more, rfl, et⟩)
      · exact .inl (keep b o hbt e)
    · by_cases hbt : b = t
      · subst hbt
        exact ⟨_, et⟩
      · exact ⟨o, keep b o hbt e⟩
end
end SF
end
section
set_option maxHeartbeats 4000000
namespace SF
open PySem PySem.Spec PyProof.Rows L2
open LamX (Tabs TabS ExtN TabB CodeO)
/-! ### the head's facts, def by def -/
abbrev sayA (w : World) (h : Heap) (K : PySem.W.Frag) : Prop := He.SaysX faA fnA tsA tfA exA w h K
theorem fun_of {K : PySem.W.Frag} {x : Str} {st : Stmt} {f : Addr} {fd : FuncData} (F : FunD K x x (defArgs st) (defBody st) (defScope st) [] [] f fd) : Fun K x x st f fd := by
  obtain ⟨oc, od, dV, kV, doc, pm, an, cdv, ct, osl, rfl, lk, hcd, hdv, _⟩ := F.ex
  rcases hdv with ⟨_, rfl⟩ | ⟨n, _⟩
  · exact ⟨⟨oc, od, kV, doc, pm, an, cdv, ct, osl, rfl, lk, hcd⟩, F.kp⟩
  · exact absurd rfl n
theorem funC_of {K : PySem.W.Frag} {x : Str} {st : Stmt} {fd : FuncData} (F : FunD K x x (defArgs st) (defBody st) (defScope st) [] [] (He.fAd K (x, none)) fd) : FunC K x x st (He.ga K x) fd (He.codeOf K (x, none)) := by
  obtain ⟨oc, od, dV, kV, doc, pm, an, cdv, ct, osl, rfl, lk, hcd, hdv, _⟩ := F.ex
  obtain ⟨c, rfl⟩ := He.codeIn_ref hcd
  have e : He.codeOf K (x, none) = c := He.codeOf_eq lk rfl
  rw [e]
  rcases hdv with ⟨_, rfl⟩ | ⟨n, _⟩
  · exact ⟨⟨oc, od, kV, doc, pm, an, ct, osl, rfl, lk, hcd⟩, F.kp⟩
  · exact absurd rfl n
section
variable {P : Program} {w : World} {K : PySem.W.Frag} {h : Heap} {mg : Str → Option Value}
theorem defAt (c : sayA w h K) (i : Nat) {n : Nat} {x : Str} (e : (fnN ++ fnM)[i]? = some (n, x)) : ∃ fd, FunD K x x (defArgs (topS n)) (defBody (topS n)) (defScope (topS n)) [] [] (He.fAd K (x, none)) fd :=
  c.t.d.def_ i (d := mkD (n, x)) (by unfold fnA; rw [List.getElem?_map, e]; rfl)
theorem funAt (c : sayA w h K) (X : K.In h) (G : h.Ns mainGlobals mg) (i : Nat) {n : Nat} {x : Str} (e : (fnN ++ fnM)[i]? = some (n, x)) (e2 : faA[i]? = some (He.Fa.glo x)) : ∃ fd, Fun K x x (topS n) (He.ga K x) fd ∧ mg x = some (.ref (He.ga K x)) := by
  obtain ⟨fd, F⟩ := defAt c i e
  exact ⟨fd, fun_of F, He.glo_ok X G (c.t.d.fact i e2)⟩
theorem bltA (c : sayA w h K) (X : K.In h) (G : h.Ns mainGlobals mg) : Blt mg := by
  have k : ∀ (i : Nat) (x : Str), faA[i]? = some (He.Fa.free x) → mg x = none := fun i x e => He.free_ok X G (c.t.d.fact i e)
  exact ⟨k 39 _ rfl, k 40 _ rfl, k 41 _ rfl, k 42 _ rfl, k 43 _ rfl, k 44 _ rfl, k 45 _ rfl, k 46 _ rfl, k 47 _ rfl, k 48 _ rfl, k 49 _ rfl, k 50 _ rfl, k 51 _ rfl, k 52 _ rfl⟩
theorem isI_ok {o : Option (Option Value)} {n : Int} (e : isI o n = true) : ∃ t, o = some (some (.int n t)) := by
  unfold isI at e
  split at e
  · rename_i i t
    exact ⟨t, by rw [of_decide_eq_true e]⟩
  · cases e
theorem lensA (c : sayA w h K) : Lens K (He.ga K "LENGTHS") := by
  have e := c.more
  unfold exA at e
  obtain ⟨e1, e2⟩ := He.ba e
  obtain ⟨e3, e4⟩ := He.ba e2
  exact ⟨isI_ok e1, isI_ok e3, isI_ok e4⟩
theorem law_ok (c : sayA w h K) (X : K.In h) (G : h.Ns mainGlobals mg) : mg "law" = some (.ref (He.ga K "law")) ∧ ∃ fd, (∀ (s : Shared) (u : Value), BindsTo s fd ⟨[u], []⟩ [("_law_script", u)]) ∧
    ∀ base : Heap, TabB base mg (He.cT K ("clear_below", none)).1 (He.cT K ("clear_below", none)).2 → FnG P w K mg base CX0 9 (He.ga K "law") fd ["_law_script"] (sp_law [((He.cT K ("clear_below", none)).2, tlBelow "clear_below")] K) := by
  have M := bltA c X G
  obtain ⟨es, nn, DK⟩ : ∃ es n, KDict K w (He.ga K "LENGTHS") es n := c.t.tab 0 (t := (fun K => He.ga K "LENGTHS", ["swap", "turn", "add"])) rfl
  have mLEN : mg "LENGTHS" = some (.ref (He.ga K "LENGTHS")) := He.glo_ok X G (c.t.d.fact 38 (f := .glo "LENGTHS") rfl)
  have LK := lensA c
  obtain ⟨_, F0, m0⟩ := funAt c X G 0 (n := 5) (x := "is_whole") rfl rfl
  obtain ⟨_, F1, m1⟩ := funAt c X G 1 (n := 13) (x := "unit_row") rfl rfl
  obtain ⟨_, F2, m2⟩ := funAt c X G 2 (n := 14) (x := "unit") rfl rfl
  obtain ⟨_, F3, m3⟩ := funAt c X G 3 (n := 15) (x := "row_times") rfl rfl
  obtain ⟨_, F4, m4⟩ := funAt c X G 4 (n := 17) (x := "free_rows") rfl rfl
  obtain ⟨_, F5, m5⟩ := funAt c X G 5 (n := 18) (x := "answer_at") rfl rfl
  obtain ⟨_, F6, m6⟩ := funAt c X G 6 (n := 19) (x := "numbers_of") rfl rfl
  obtain ⟨_, F7, m7⟩ := funAt c X G 7 (n := 22) (x := "is_place") rfl rfl
  obtain ⟨_, F8, m8⟩ := funAt c X G 8 (n := 23) (x := "is_deed") rfl rfl
  obtain ⟨_, F9, m9⟩ := funAt c X G 9 (n := 24) (x := "look_at") rfl rfl
  obtain ⟨_, F10, m10⟩ := funAt c X G 10 (n := 25) (x := "rows_behind") rfl rfl
  obtain ⟨_, F11, m11⟩ := funAt c X G 11 (n := 26) (x := "done") rfl rfl
  obtain ⟨_, F12, m12⟩ := funAt c X G 12 (n := 27) (x := "deeds_table") rfl rfl
  obtain ⟨_, F13, m13⟩ := funAt c X G 13 (n := 28) (x := "contrary_deed") rfl rfl
  obtain ⟨_, F14, m14⟩ := funAt c X G 14 (n := 29) (x := "led_back") rfl rfl
  obtain ⟨_, F15, m15⟩ := funAt c X G 15 (n := 31) (x := "lead_on") rfl rfl
  obtain ⟨_, F16, m16⟩ := funAt c X G 16 (n := 32) (x := "clear_below") rfl rfl
  obtain ⟨_, F17, m17⟩ := funAt c X G 17 (n := 33) (x := "clear_above") rfl rfl
  obtain ⟨_, F18, m18⟩ := funAt c X G 18 (n := 34) (x := "steps_deeds") rfl rfl
  obtain ⟨_, F19, m19⟩ := funAt c X G 19 (n := 35) (x := "steps_paper") rfl rfl
  obtain ⟨_, F20, m20⟩ := funAt c X G 20 (n := 37) (x := "lead_in") rfl rfl
  obtain ⟨_, F21, m21⟩ := funAt c X G 21 (n := 38) (x := "taken") rfl rfl
  obtain ⟨_, F22, m22⟩ := funAt c X G 22 (n := 42) (x := "answers_paper") rfl rfl
  obtain ⟨_, F23, m23⟩ := funAt c X G 23 (n := 44) (x := "_law_feed") rfl rfl
  obtain ⟨_, F24, m24⟩ := funAt c X G 24 (n := 45) (x := "_law_draw") rfl rfl
  obtain ⟨_, F25, m25⟩ := funAt c X G 25 (n := 46) (x := "_law_number") rfl rfl
  obtain ⟨_, F26, m26⟩ := funAt c X G 26 (n := 47) (x := "_law_row") rfl rfl
  obtain ⟨_, F27, m27⟩ := funAt c X G 27 (n := 48) (x := "_law_table") rfl rfl
  obtain ⟨_, F28, m28⟩ := funAt c X G 28 (n := 49) (x := "_law_row_times") rfl rfl
  obtain ⟨_, F29, m29⟩ := funAt c X G 29 (n := 50) (x := "_law_unit") rfl rfl
  obtain ⟨_, F30, m30⟩ := funAt c X G 30 (n := 51) (x := "_law_stepped") rfl rfl
  obtain ⟨_, F31, m31⟩ := funAt c X G 31 (n := 52) (x := "_law_laid") rfl rfl
  obtain ⟨_, F32, m32⟩ := funAt c X G 32 (n := 53) (x := "_law_own_paper") rfl rfl
  obtain ⟨_, F33, m33⟩ := funAt c X G 33 (n := 54) (x := "_law_free") rfl rfl
  obtain ⟨_, F34, m34⟩ := funAt c X G 34 (n := 55) (x := "_law_otherwise") rfl rfl
  obtain ⟨_, F35, m35⟩ := funAt c X G 35 (n := 56) (x := "_law_box") rfl rfl
  obtain ⟨_, F36, m36⟩ := funAt c X G 36 (n := 57) (x := "_law_box_right") rfl rfl
  obtain ⟨_, FD⟩ := defAt c 16 (n := 32) (x := "clear_below") rfl
  have FC := funC_of FD
  obtain ⟨fdL, FL⟩ := defAt c 37 (n := 58) (x := "law") rfl
  have bL := FunD.bindsA (ps := ["_law_script"]) FL fun _ _ _ _ _ _ us hl => match us, hl with | [_], _ => rfl
  refine ⟨He.glo_ok X G (c.t.d.fact 37 (f := .glo "law") rfl), fdL, fun s v => bL s [v] rfl, fun base TB => ?_⟩
  have Cwhole := ok_is_whole (P := P) (w := w) (base := base) M F0 m0
  have Cplace := ok_is_place M F7 m7 Cwhole
  have Curow := ok_unit_row (P := P) (w := w) (base := base) M F1 m1
  have Cunit := ok_unit M F2 m2 Curow
  have CtimesT := ok_row_timesT (P := P) (w := w) (base := base) M F3 m3
  have Ctimes := CtimesT.imp row_times_imp
  have Cleadin := ok_lead_in (P := P) (w := w) (base := base) M F20 m20
  have Ccontr := ok_contrary_deed (P := P) (w := w) (base := base) M F13 m13
  have Cback := ok_led_back M F14 m14 Ccontr
  have Cbehind := ok_rows_behind (P := P) (w := w) (base := base) M F10 m10
  have Cdeed := ok_is_deed M F8 m8 DK mLEN LK Cwhole Cplace
  have Clook := ok_look_at M F9 m9 Cdeed
  have Cdone := ok_done M F11 m11 Clook Cbehind
  have Cdtab := ok_deeds_table M F12 m12 Cdone Cunit
  have Cfree := ok_free_rows (P := P) (w := w) (base := base) M F4 m4
  have Canswer := ok_answer_at M F5 m5 Cfree Ctimes
  have Cnumbers := ok_numbers_of M F6 m6 Cfree CtimesT
  have Clead := ok_lead_on (P := P) (w := w) (base := base) M F15 m15
  have Cabove := ok_clear_above M F17 m17 Clead
  have Cbelow := ok_clear_below M FC m16 TB (List.mem_singleton.mpr rfl) (fun p hp _ => by rw [List.mem_singleton.mp hp]) Clead
  have Cdeeds := ok_steps_deeds M F18 m18 Cabove Cbelow
  have Csteps := ok_steps_paper M F19 m19 Cdeeds Cdone Cdtab Cback
  have Ctaken := ok_taken M F21 m21 Cleadin
  have Cpaper := ok_answers_paper M F22 m22 Csteps Ctaken Cleadin Ctimes
  have Lfeed := ok_law_feed (P := P) (w := w) (base := base) M F23 m23
  have Ldraw := ok_law_draw (P := P) (w := w) (base := base) M F24 m24
  have Lnumber := ok_law_number M F25 m25 Ldraw
  have Lrow := ok_law_row M F26 m26 Lnumber
  have Ltable := ok_law_table M F27 m27 Ldraw Lrow
  have Lunit := ok_law_unit (P := P) (w := w) (base := base) M F29 m29
  have Ltimes := ok_law_row_times (P := P) (w := w) (base := base) M F28 m28
  have Lfree := ok_law_free (P := P) (w := w) (base := base) M F33 m33
  have Lbox := ok_law_box (P := P) (w := w) (base := base) M F35 m35
  have Lstepped := ok_law_stepped (P := P) (w := w) (base := base) M F30 m30
  have Llaid := ok_law_laid M Lstepped Lunit F31 m31
  have Lown := ok_law_own_paper M Llaid F32 m32
  have Lother := ok_law_otherwise M Ldraw Lfree F34 m34
  have Lright := ok_law_box_right M Lbox Ltimes Canswer Cfree Cnumbers F36 m36
  exact ok_law M Lfeed Ldraw Ltable Ltimes Cpaper Lown Lother Lright Cfree Canswer (fun_of FL)
end
end SF
end
section
set_option maxHeartbeats 0
namespace SF
open PySem PySem.Spec PyProof.Rows L2
open LamX (Tabs TabS ExtN TabB CodeO)
theorem tabs_start {t : Addr} {q : Str} {H : Hp} (h : H t = some (.tbl #[])) : Tabs [(t, q)] H := fun p hp => by
  rw [List.mem_singleton.mp hp]
  exact ⟨#[], h, True.intro, fun pos cv e => by cases e⟩
abbrev dA : DefRec := HandSHeadRun.topDef (PySem.W.OpenLaw.row PySem.Challenge.rw_stepforms_k46_whole_all_answers_in_a_box).prog 58
theorem walkA : PySem.W.WalkO (PySem.W.view Rw.prog [lawI]) looseN (PySem.W.XL (PySem.W.view Rw.prog [lawI]) []) hkA.says Rw.toRowW dA [] (fun f vs => PySem.call f vs) := by
  refine Att.attach_callB (n := 63) rfl (by kernel_rfl) fun w s₀ s₁ mg mb fa o pm cd doc a vs ns G Y ho hd hcd hmg0 hobj hints hlen hbits hg => ?_
  obtain ⟨K, KX, c⟩ := Y
  have hmg : mg ("law" : PySem.Str) = some (.ref fa) := by
    have e : dA.name = ("law" : PySem.Str) := by kernel_rfl
    rw [← e]
    exact hmg0
  obtain ⟨m, fd, hb, hF⟩ := law_ok (P := PySem.Challenge.rw_stepforms_k46_whole_all_answers_in_a_box.prog) c KX G.T.g
  have ef : He.ga K "law" = fa := by
    have e := m.symm.trans hmg
    injection e with e
    injection e
  rw [ef] at hF
  have mem : (("clear_below", none) : He.Defn) ∈ tfA := List.mem_singleton.mpr rfl
  exact law_end (k := 9) KX G.T.g G.T.b G.T.builtins G.T.nolimit hg (c.empty _ mem) (c.out _ mem) (PySem.W.codeHd_of_K KX (c.hd _ mem)) G.T.bmain hobj hints (Nat.le_trans hlen (by decide)) ⟨rfl, by decide, by decide⟩
    (fun base _ _ TB => hF base TB) hb fun H hH hS => ⟨a, ns, rfl, hS, tabs_start hH, fun _ => rfl⟩
end SF
open PySem PySem.W PySem.Calls PyProof.Rows
theorem PySem.Challenge.cw_stepforms_k46_whole_all_answers_in_a_box_holds : PySem.Challenge.rw_stepforms_k46_whole_all_answers_in_a_box.Holds := by
  w_on; o_law
  refine HandSHeadRun.head_any (r := SF.Rw) (q := view SF.Rw.prog [SF.lawI]) (H := SF.hkA) (ob := SF.obA) (M := 4000) (loose := SF.looseN) (d := SF.dA) (kwd := []) SF.obA_eq
    (by kernel_rfl) (fun s => by kernel_rfl) SF.runA (by kernel_rfl) (by kernel_rfl) (by kernel_rfl) (by rfl) (by first | assumption | decide +kernel) (by decide +kernel) ⟨rfl, rfl, rfl, rfl, rfl, by decide +kernel⟩ ?hw ?hc
  case hw => w_witness2
  case hc => exact SF.walkA
end

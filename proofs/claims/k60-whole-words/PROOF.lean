import PyProof.Rows.All
import Wide.All
import OpenK.AllK
import Wide.FinOn
import HandS.ForMost
import HandS.ForExc
import HandS.HeadHook4
import PySem.Challenge.RW_samegoing_k60_whole_words_by_first_lette
import KE.KStateDown
import Lean
import HandS.Head0
import HandS.Head1
import HandS.Head2
import HandS.HeadEnd
import HandS.HeadWalk
import HandS.SortKw
import KE.SortData
import KE.DatumOrd
import HandS.Lambda
import KE.SortKeyHeap
import KE.KDictKeyed
import HandS.Walk
import HandS.Strs
import HandS.Wide
import HandS.Deep
import HandS.Codes
import HandS.HeadNt
set_option Elab.async false
set_option linter.all false
set_option maxRecDepth 100000
set_option maxHeartbeats 0
/-! Plain mathematics of simple grammars: no program in sight. -/
namespace K60
section
variable {N : Type} [DecidableEq N]
abbrev Rl (N : Type) := N → List (Nat × List N)
def stepR (R : Rl N) : List N → Nat → Option (List N)
  | [], _ => none
  | X :: r, l => ((R X).find? (fun p => p.1 == l)).map (fun p => p.2 ++ r)
def runR (R : Rl N) : Option (List N) → List Nat → Option (List N)
  | o, [] => o
  | o, l :: w => runR R (o.bind fun r => stepR R r l) w
def nus (ν : N → Nat) (row : List N) : Nat := (row.map ν).sum
theorem nus_nil {ν : N → Nat} : nus ν [] = 0 := rfl
theorem nus_cons {ν : N → Nat} {X : N} {r : List N} : nus ν (X :: r) = ν X + nus ν r := by simp [nus]
theorem nus_app {ν : N → Nat} {a b : List N} : nus ν (a ++ b) = nus ν a + nus ν b := by simp [nus]
/-- how many words of n letters end a row -/
def cnt (R : Rl N) : Nat → List N → Nat
  | 0, row => if row = [] then 1 else 0
  | _ + 1, [] => 0
  | n + 1, X :: r => ((R X).map fun p => cnt R n (p.2 ++ r)).sum
theorem cnt_nil0 {R : Rl N} : cnt R 0 [] = 1 := rfl
theorem cnt_nilS {R : Rl N} {n : Nat} : cnt R (n + 1) [] = 0 := rfl
theorem cnt_cons0 {R : Rl N} {X : N} {r : List N} : cnt R 0 (X :: r) = 0 := by simp [cnt]
theorem cnt_consS {R : Rl N} {n : Nat} {X : N} {r : List N} : cnt R (n + 1) (X :: r) = ((R X).map fun p => cnt R n (p.2 ++ r)).sum := rfl
/-- the sum over first letters' shares -/
def conv (f g : Nat → Nat) : Nat → Nat
  | 0 => f 0 * g 0
  | n + 1 => f 0 * g (n + 1) + conv (fun i => f (i + 1)) g n
theorem conv_zero (g : Nat → Nat) : ∀ n, conv (fun _ => 0) g n = 0
  | 0 => by simp [conv]
  | n + 1 => by simp [conv, conv_zero g n]
theorem conv_add (f f' g : Nat → Nat) : ∀ (n : Nat), conv (fun i => f i + f' i) g n = conv f g n + conv f' g n := by
  intro n
  induction n generalizing f f' with
  | zero => simp [conv, Nat.add_mul]
  | succ n ih => simp only [conv, Nat.add_mul]; rw [ih]; omega
theorem conv_sum {α : Type} (F : α → Nat → Nat) (g : Nat → Nat) (n : Nat) : ∀ l : List α, conv (fun i => (l.map fun a => F a i).sum) g n = (l.map fun a => conv (F a) g n).sum
  | [] => by simp [conv_zero]
  | a :: l => by simp [conv_add, conv_sum F g n l]
theorem conv_congr {f f' g g' : Nat → Nat} (hf : ∀ i, f i = f' i) (hg : ∀ i, g i = g' i) (n : Nat) : conv f g n = conv f' g' n := by
  have e1 : f = f' := funext hf
  have e2 : g = g' := funext hg
  rw [e1, e2]
theorem cnt_app {R : Rl N} (b : List N) : ∀ (n : Nat) (a : List N), cnt R n (a ++ b) = conv (fun i => cnt R i a) (fun i => cnt R i b) n := by
  intro n
  induction n with
  | zero =>
    intro a
    cases a with
    | nil => simp [conv, cnt]
    | cons X r => simp [conv, cnt]
  | succ n ih =>
    intro a
    cases a with
    | nil =>
      have e : (fun i => cnt R (i + 1) ([] : List N)) = fun _ => 0 := by funext i; rfl
      simp only [conv, List.nil_append, e, conv_zero, cnt_nil0]
      omega
    | cons X r =>
      simp only [conv, cnt_cons0, List.cons_append, cnt_consS]
      rw [conv_sum (fun p i => cnt R i (p.2 ++ r)) _ n (R X)]
      simp only [Nat.zero_mul, Nat.zero_add]
      congr 1
      apply List.map_congr_left
      intro p _
      rw [← List.append_assoc]
      exact ih (p.2 ++ r)
/-- the program's way: first = 1 .. n -/
theorem conv_range (f g : Nat → Nat) : ∀ n, conv f g n = ((List.range (n + 1)).map fun i => f i * g (n - i)).sum := by
  intro n
  induction n generalizing f with
  | zero => simp [conv]
  | succ n ih =>
    rw [List.range_succ_eq_map, List.map_cons, List.sum_cons, List.map_map]
    simp only [conv, Nat.sub_zero]
    rw [ih]
    congr 1
    congr 1
    apply List.map_congr_left
    intro i hi
    simp only [Function.comp]
    rw [Nat.succ_eq_add_one, Nat.add_sub_add_right]
theorem cnt_ways {R : Rl N} {X : N} {r : List N} (n : Nat) : cnt R n (X :: r) = ((List.range n).map fun i => cnt R (i + 1) [X] * cnt R (n - (i + 1)) r).sum := by
  have h := cnt_app (R := R) r n [X]
  rw [conv_range, List.range_succ_eq_map, List.map_cons, List.sum_cons, List.map_map, cnt_cons0, Nat.zero_mul, Nat.zero_add] at h
  exact h
theorem cnt_one {R : Rl N} {X : N} (n : Nat) : cnt R (n + 1) [X] = ((R X).map fun p => cnt R n p.2).sum := by
  simp only [cnt_consS, List.append_nil]
theorem sum_le_mul {l : List Nat} {b : Nat} (h : ∀ x ∈ l, x ≤ b) : l.sum ≤ l.length * b := by
  induction l with
  | nil => simp
  | cons x r ih =>
    have h1 := h x (by simp)
    have h2 := ih fun y hy => h y (by simp [hy])
    simp only [List.sum_cons, List.length_cons, Nat.add_mul, Nat.one_mul]
    omega
theorem le_sum_of_mem {l : List Nat} {x : Nat} (h : x ∈ l) : x ≤ l.sum := by
  induction l with
  | nil => cases h
  | cons y r ih =>
    simp only [List.sum_cons]
    rcases List.mem_cons.mp h with e | e
    · omega
    · have := ih e
      omega
theorem sum_pos_mem {l : List Nat} (h : 0 < l.sum) : ∃ x ∈ l, 0 < x := by
  induction l with
  | nil => simp at h
  | cons y r ih =>
    simp only [List.sum_cons] at h
    by_cases hy : 0 < y
    · exact ⟨y, by simp, hy⟩
    · obtain ⟨x, hx, h2⟩ := ih (by omega)
      exact ⟨x, by simp [hx], h2⟩
/-- a grammar that the law draws: names ns, rules R, norms ν, letters sg -/
structure GG (ns : List N) (R : Rl N) (ν : N → Nat) (sg : List Nat) : Prop where
  nd : ns.Nodup
  le : ns.length ≤ 5
  sgnd : sg.Nodup
  cl : ∀ X ∈ ns, ∀ p ∈ R X, p.1 ∈ sg ∧ (∀ Y ∈ p.2, Y ∈ ns) ∧ p.2.length ≤ 3
  le4 : ∀ X ∈ ns, (R X).length ≤ 4
  ndl : ∀ X ∈ ns, ((R X).map (·.1)).Nodup
  n1 : ∀ X ∈ ns, ∀ p ∈ R X, ν X ≤ 1 + nus ν p.2
  n2 : ∀ X ∈ ns, ∃ p ∈ R X, ν X = 1 + nus ν p.2
  nb : ∀ X ∈ ns, ν X ≤ 1024
section
variable {ns : List N} {R : Rl N} {ν : N → Nat} {sg : List Nat}
theorem GG.sub (G : GG ns R ν sg) {X : N} {r : List N} (h : ∀ Y ∈ X :: r, Y ∈ ns) {p : Nat × List N} (hp : p ∈ R X) : ∀ Y ∈ p.2 ++ r, Y ∈ ns := fun Y hY => by
  rcases List.mem_append.mp hY with e | e
  · exact (G.cl X (h X (by simp)) p hp).2.1 Y e
  · exact h Y (by simp [e])
theorem GG.cnt_le (G : GG ns R ν sg) : ∀ (n : Nat) (row : List N), (∀ Y ∈ row, Y ∈ ns) → cnt R n row ≤ 4 ^ n := by
  intro n
  induction n with
  | zero =>
    intro row _
    simp only [cnt]
    split <;> simp
  | succ n ih =>
    intro row h
    cases row with
    | nil => simp [cnt]
    | cons X r =>
      rw [cnt_consS]
      have h1 : ∀ x ∈ (R X).map (fun p => cnt R n (p.2 ++ r)), x ≤ 4 ^ n := fun x hx => by
        obtain ⟨p, hp, rfl⟩ := List.mem_map.mp hx
        exact ih _ (G.sub h hp)
      have h2 := sum_le_mul h1
      rw [List.length_map] at h2
      have h3 := G.le4 X (h X (by simp))
      calc _ ≤ (R X).length * 4 ^ n := h2
        _ ≤ 4 * 4 ^ n := Nat.mul_le_mul_right _ h3
        _ = 4 ^ (n + 1) := by rw [Nat.pow_succ]; omega
theorem GG.cnt_ge (G : GG ns R ν sg) : ∀ (n : Nat) (row : List N), (∀ Y ∈ row, Y ∈ ns) → 0 < cnt R n row → nus ν row ≤ n := by
  intro n
  induction n with
  | zero =>
    intro row _ h
    cases row with
    | nil => simp [nus]
    | cons X r => rw [cnt_cons0] at h; omega
  | succ n ih =>
    intro row hr h
    cases row with
    | nil => simp [nus]
    | cons X r =>
      rw [cnt_consS] at h
      obtain ⟨x, hx, h2⟩ := sum_pos_mem h
      obtain ⟨p, hp, rfl⟩ := List.mem_map.mp hx
      have h3 := ih _ (G.sub hr hp) h2
      have h4 := G.n1 X (hr X (by simp)) p hp
      rw [nus_app] at h3
      rw [nus_cons]
      omega
theorem cnt_pos_of {X : N} {r : List N} {n : Nat} {p : Nat × List N} (hp : p ∈ R X) (h : 0 < cnt R n (p.2 ++ r)) : 0 < cnt R (n + 1) (X :: r) := by
  rw [cnt_consS]
  exact Nat.lt_of_lt_of_le h (le_sum_of_mem (List.mem_map.mpr ⟨p, hp, rfl⟩))
theorem GG.cnt_norm (G : GG ns R ν sg) : ∀ (n : Nat) (row : List N), (∀ Y ∈ row, Y ∈ ns) → nus ν row = n → 0 < cnt R n row := by
  intro n
  induction n with
  | zero =>
    intro row h e
    cases row with
    | nil => simp [cnt]
    | cons X r =>
      obtain ⟨p, _, e2⟩ := G.n2 X (h X (by simp))
      rw [nus_cons] at e
      omega
  | succ n ih =>
    intro row h e
    cases row with
    | nil => simp [nus] at e
    | cons X r =>
      obtain ⟨p, hp, e2⟩ := G.n2 X (h X (by simp))
      rw [nus_cons] at e
      refine cnt_pos_of hp (ih _ (G.sub h hp) ?_)
      rw [nus_app]
      omega
theorem GG.pos (G : GG ns R ν sg) {X : N} (h : X ∈ ns) : 0 < ν X := by
  obtain ⟨p, _, e⟩ := G.n2 X h
  omega
theorem GG.nus_le (G : GG ns R ν sg) : ∀ {row : List N}, (∀ Y ∈ row, Y ∈ ns) → nus ν row ≤ 1024 * row.length
  | [], _ => by simp [nus]
  | X :: r, h => by
    have h1 := G.nb X (h X (by simp))
    have h2 := G.nus_le (row := r) fun Y hY => h Y (by simp [hY])
    rw [nus_cons, List.length_cons]
    omega
/-! ### norms: from a closed, ending grammar -/
theorem norm_ex {b : Nat} (cl : ∀ X ∈ ns, ∀ p ∈ R X, (∀ Y ∈ p.2, Y ∈ ns) ∧ p.2.length ≤ 3) (ρ : N → Nat) (hρ : ∀ X ∈ ns, ∃ p ∈ R X, ∀ Y ∈ p.2, ρ Y < ρ X) :
    ∀ (k : Nat) (X : N), X ∈ ns → ρ X < k → ∃ n, n ≤ 4 ^ k ∧ 0 < cnt R n [X] := by
  intro k
  induction k with
  | zero => intro X _ h; omega
  | succ k ih =>
    intro X hX hk
    obtain ⟨p, hp, h⟩ := hρ X hX
    have row : ∀ r : List N, (∀ Y ∈ r, Y ∈ ns ∧ ρ Y < k) → ∃ n, n ≤ r.length * 4 ^ k ∧ 0 < cnt R n r := by
      intro r
      induction r with
      | nil => intro _; exact ⟨0, by simp, by simp [cnt]⟩
      | cons Y r ihr =>
        intro hr
        obtain ⟨n1, b1, c1⟩ := ih Y (hr Y (by simp)).1 (hr Y (by simp)).2
        obtain ⟨n2, b2, c2⟩ := ihr fun Z hZ => hr Z (by simp [hZ])
        refine ⟨n1 + n2, ?_, ?_⟩
        · rw [List.length_cons, Nat.add_mul, Nat.one_mul]; omega
        · have e := cnt_app (R := R) r (n1 + n2) [Y]
          rw [conv_range] at e
          rw [show Y :: r = [Y] ++ r from rfl, e]
          have hm : cnt R n1 [Y] * cnt R (n1 + n2 - n1) r ∈ (List.range (n1 + n2 + 1)).map (fun i => cnt R i [Y] * cnt R (n1 + n2 - i) r) :=
            List.mem_map.mpr ⟨n1, List.mem_range.mpr (by omega), rfl⟩
          refine Nat.lt_of_lt_of_le ?_ (le_sum_of_mem hm)
          rw [show n1 + n2 - n1 = n2 by omega]
          exact Nat.mul_pos c1 c2
    obtain ⟨n, bn, cn⟩ := row p.2 fun Y hY => ⟨(cl X hX p hp).1 Y hY, by have := h Y hY; omega⟩
    refine ⟨n + 1, ?_, cnt_pos_of hp (by rw [List.append_nil]; exact cn)⟩
    have h3 : p.2.length * 4 ^ k ≤ 3 * 4 ^ k := Nat.mul_le_mul_right _ (cl X hX p hp).2
    have h4 : 1 ≤ 4 ^ k := Nat.one_le_pow _ _ (by omega)
    rw [Nat.pow_succ]
    omega
theorem least_of {P : Nat → Prop} : ∀ (n : Nat), P n → ∃ m, m ≤ n ∧ P m ∧ ∀ k, k < m → ¬ P k := by
  intro n
  induction n using Nat.strongRecOn with
  | ind n ih =>
    intro h
    by_cases hk : ∃ k, k < n ∧ P k
    · obtain ⟨k, h1, h2⟩ := hk
      obtain ⟨m, h3, h4, h5⟩ := ih k h1 h2
      exact ⟨m, by omega, h4, h5⟩
    · exact ⟨n, Nat.le_refl _, h, fun k h1 h2 => hk ⟨k, h1, h2⟩⟩
theorem cnt_split {r : List N} {n : Nat} {Y : N} (h : 0 < cnt R n (Y :: r)) : ∃ i j, i + j = n ∧ 0 < cnt R i [Y] ∧ 0 < cnt R j r := by
  rw [cnt_ways] at h
  obtain ⟨x, hx, h2⟩ := sum_pos_mem h
  obtain ⟨i, hi, rfl⟩ := List.mem_map.mp hx
  have hi' := List.mem_range.mp hi
  exact ⟨i + 1, n - (i + 1), by omega, Nat.pos_of_mul_pos_right h2, Nat.pos_of_mul_pos_left h2⟩
theorem GG.make (nd : ns.Nodup) (le : ns.length ≤ 5) (sgnd : sg.Nodup) (cl : ∀ X ∈ ns, ∀ p ∈ R X, p.1 ∈ sg ∧ (∀ Y ∈ p.2, Y ∈ ns) ∧ p.2.length ≤ 3) (le4 : ∀ X ∈ ns, (R X).length ≤ 4) (ndl : ∀ X ∈ ns, ((R X).map (·.1)).Nodup)
    (ρ : N → Nat) (hρ : ∀ X ∈ ns, ∃ p ∈ R X, ∀ Y ∈ p.2, ρ Y < ρ X) (hk : ∀ X ∈ ns, ρ X < 5) : ∃ ν, GG ns R ν sg := by
  have ex : ∀ X : N, ∃ m, X ∈ ns → (m ≤ 1024 ∧ 0 < cnt R m [X] ∧ ∀ k, k < m → ¬ 0 < cnt R k [X]) := fun X => by
    by_cases hX : X ∈ ns
    · obtain ⟨n, h1, h2⟩ := norm_ex (R := R) (b := 0) (fun X hX p hp => (cl X hX p hp).2) ρ hρ 5 X hX (hk X hX)
      obtain ⟨m, h3, h4, h5⟩ := least_of (P := fun n => 0 < cnt R n [X]) n h2
      exact ⟨m, fun _ => ⟨by omega, h4, h5⟩⟩
    · exact ⟨0, fun h => absurd h hX⟩
  let ν : N → Nat := fun X => Classical.choose (ex X)
  have hν : ∀ X ∈ ns, ν X ≤ 1024 ∧ 0 < cnt R (ν X) [X] ∧ ∀ k, k < ν X → ¬ 0 < cnt R k [X] := fun X hX => Classical.choose_spec (ex X) hX
  have up : ∀ r : List N, (∀ Y ∈ r, Y ∈ ns) → 0 < cnt R (nus ν r) r := by
    intro r
    induction r with
    | nil => intro _; simp [nus, cnt]
    | cons Y r ih =>
      intro h
      have h1 := (hν Y (h Y (by simp))).2.1
      have h2 := ih fun Z hZ => h Z (by simp [hZ])
      have hp := (hν Y (h Y (by simp))).2.1
      have n0 : ν Y ≠ 0 := fun e => by rw [e, cnt_cons0] at hp; omega
      rw [nus_cons, cnt_ways]
      have hm : cnt R (ν Y) [Y] * cnt R (nus ν r) r ∈ (List.range (ν Y + nus ν r)).map (fun i => cnt R (i + 1) [Y] * cnt R (ν Y + nus ν r - (i + 1)) r) :=
        List.mem_map.mpr ⟨ν Y - 1, List.mem_range.mpr (by omega), by rw [show ν Y - 1 + 1 = ν Y by omega, show ν Y + nus ν r - ν Y = nus ν r by omega]⟩
      exact Nat.lt_of_lt_of_le (Nat.mul_pos h1 h2) (le_sum_of_mem hm)
  have down : ∀ (r : List N), (∀ Y ∈ r, Y ∈ ns) → ∀ n, 0 < cnt R n r → nus ν r ≤ n := by
    intro r
    induction r with
    | nil => intro _ n _; simp [nus]
    | cons Y r ih =>
      intro h n hn
      obtain ⟨i, j, e, h1, h2⟩ := cnt_split hn
      have h3 := ih (fun Z hZ => h Z (by simp [hZ])) j h2
      have h4 : ν Y ≤ i := by
        apply Nat.le_of_not_lt
        intro hlt
        exact (hν Y (h Y (by simp))).2.2 i hlt h1
      rw [nus_cons]
      omega
  refine ⟨ν, ⟨nd, le, sgnd, cl, le4, ndl, fun X hX p hp => ?_, fun X hX => ?_, fun X hX => (hν X hX).1⟩⟩
  · have h1 := up p.2 (cl X hX p hp).2.1
    have h2 : 0 < cnt R (nus ν p.2 + 1) [X] := cnt_pos_of hp (by rw [List.append_nil]; exact h1)
    apply Nat.le_of_not_lt
    intro hlt
    exact (hν X hX).2.2 _ (by omega) h2
  · obtain ⟨_, h1, h2⟩ := hν X hX
    cases hm : ν X with
    | zero => rw [hm, cnt_cons0] at h1; omega
    | succ m =>
      rw [hm, cnt_consS] at h1
      obtain ⟨x, hx, hpos⟩ := sum_pos_mem h1
      obtain ⟨p, hp, rfl⟩ := List.mem_map.mp hx
      rw [List.append_nil] at hpos
      have h3 := down p.2 (cl X hX p hp).2.1 m hpos
      refine ⟨p, hp, ?_⟩
      have h4 := up p.2 (cl X hX p hp).2.1
      have h5 : 0 < cnt R (nus ν p.2 + 1) [X] := cnt_pos_of hp (by rw [List.append_nil]; exact h4)
      have h6 : ¬ nus ν p.2 + 1 < ν X := fun hlt => h2 _ hlt h5
      omega

/-! ### sorted rules, the word at a place -/
def rle (a b : Nat × List N) : Bool := decide (a.1 ≤ b.1)
def srt (rs : List (Nat × List N)) : List (Nat × List N) := rs.mergeSort rle
theorem srt_perm (rs : List (Nat × List N)) : (srt rs).Perm rs := List.mergeSort_perm _ _
theorem srt_sorted (rs : List (Nat × List N)) : (srt rs).Pairwise (fun a b => a.1 ≤ b.1) := by
  have h := List.pairwise_mergeSort (le := rle (N := N)) (fun a b c h1 h2 => by simp [rle] at *; omega) (fun a b => by simp [rle]; omega) rs
  exact h.imp fun h => by simpa [rle] using h
theorem nodup_key {rs : List (Nat × List N)} (nd : (rs.map (·.1)).Nodup) {a b : Nat × List N} (ha : a ∈ rs) (hb : b ∈ rs) (e : a.1 = b.1) : a = b := by
  induction rs with
  | nil => cases ha
  | cons x r ih =>
    rw [List.map_cons, List.nodup_cons] at nd
    rcases List.mem_cons.mp ha with e1 | h1
    · rcases List.mem_cons.mp hb with e2 | h2
      · rw [e1, e2]
      · exact absurd (List.mem_map.mpr ⟨b, h2, by rw [← e, e1]⟩) nd.1
    · rcases List.mem_cons.mp hb with e2 | h2
      · exact absurd (List.mem_map.mpr ⟨a, h1, by rw [e, e2]⟩) nd.1
      · exact ih nd.2 h1 h2
theorem srt_uniq {ys rs : List (Nat × List N)} (nd : (rs.map (·.1)).Nodup) (hp : ys.Perm rs) (hs : ys.Pairwise (fun a b => a.1 ≤ b.1)) : ys = srt rs := by
  refine List.Perm.eq_of_pairwise (le := fun a b => a.1 ≤ b.1) (fun a b ha hb h1 h2 => ?_) hs (srt_sorted rs) (hp.trans (srt_perm rs).symm)
  exact nodup_key nd (hp.mem_iff.mp ha) ((srt_perm rs).mem_iff.mp hb) (Nat.le_antisymm h1 h2)
/-- the first rule, by letters, with more than so many words behind it; how many are left -/
def pick (R : Rl N) (n : Nat) (r : List N) : List (Nat × List N) → Nat → Option ((Nat × List N) × Nat)
  | [], _ => none
  | p :: ps, at_ => if at_ < cnt R n (p.2 ++ r) then some (p, at_) else pick R n r ps (at_ - cnt R n (p.2 ++ r))
def wordAt (R : Rl N) : Nat → List N → Nat → List Nat
  | 0, _, _ => []
  | _ + 1, [], _ => []
  | n + 1, X :: r, at_ => match pick R n r (srt (R X)) at_ with
    | none => []
    | some (p, a) => p.1 :: wordAt R n (p.2 ++ r) a
theorem pick_some {n : Nat} {r : List N} : ∀ (ps : List (Nat × List N)) (at_ : Nat), at_ < (ps.map fun p => cnt R n (p.2 ++ r)).sum → ∃ p a, pick R n r ps at_ = some (p, a) ∧ p ∈ ps ∧ a < cnt R n (p.2 ++ r)
  | [], at_, h => by simp at h
  | p :: ps, at_, h => by
    simp only [List.map_cons, List.sum_cons] at h
    unfold pick
    by_cases hl : at_ < cnt R n (p.2 ++ r)
    · rw [if_pos hl]
      exact ⟨p, at_, rfl, by simp, hl⟩
    · rw [if_neg hl]
      obtain ⟨q, a, h1, h2, h3⟩ := pick_some (n := n) (r := r) ps (at_ - cnt R n (p.2 ++ r)) (by omega)
      exact ⟨q, a, h1, by simp [h2], h3⟩
theorem sum_srt (n : Nat) (r : List N) (rs : List (Nat × List N)) : ((srt rs).map fun p => cnt R n (p.2 ++ r)).sum = (rs.map fun p => cnt R n (p.2 ++ r)).sum :=
  ((srt_perm rs).map _).sum_nat
theorem find_of_mem {rs : List (Nat × List N)} (nd : (rs.map (·.1)).Nodup) {p : Nat × List N} (hp : p ∈ rs) : rs.find? (fun q => q.1 == p.1) = some p := by
  cases h : rs.find? (fun q => q.1 == p.1) with
  | none =>
    have := List.find?_eq_none.mp h p hp
    simp at this
  | some q =>
    have h1 := List.find?_some h
    have h2 := List.mem_of_find?_eq_some h
    rw [nodup_key nd h2 hp (by simpa using h1)]
theorem GG.step (G : GG ns R ν sg) {X : N} {r : List N} (hX : X ∈ ns) {p : Nat × List N} (hp : p ∈ R X) : stepR R (X :: r) p.1 = some (p.2 ++ r) := by
  show ((R X).find? (fun q => q.1 == p.1)).map (fun p => p.2 ++ r) = _
  rw [find_of_mem (G.ndl X hX) hp]
  rfl
theorem GG.step_inv (G : GG ns R ν sg) {X : N} {r x : List N} {l : Nat} (h : stepR R (X :: r) l = some x) : ∃ p ∈ R X, p.1 = l ∧ x = p.2 ++ r := by
  have h : ((R X).find? (fun p => p.1 == l)).map (fun p => p.2 ++ r) = some x := h
  cases hf : (R X).find? (fun p => p.1 == l) with
  | none => rw [hf] at h; cases h
  | some p =>
    rw [hf] at h
    have h1 := List.find?_some hf
    exact ⟨p, List.mem_of_find?_eq_some hf, by simpa using h1, (Option.some.inj h).symm⟩
/-- a word at a place ends the row and has so many letters -/
theorem GG.wordAt_ok (G : GG ns R ν sg) : ∀ (n : Nat) (row : List N) (at_ : Nat), (∀ Y ∈ row, Y ∈ ns) → at_ < cnt R n row → (wordAt R n row at_).length = n ∧ runR R (some row) (wordAt R n row at_) = some [] ∧ ∀ l ∈ wordAt R n row at_, l ∈ sg := by
  intro n
  induction n with
  | zero =>
    intro row at_ _ h
    cases row with
    | nil => simp [wordAt, runR]
    | cons X r => rw [cnt_cons0] at h; omega
  | succ n ih =>
    intro row at_ hr h
    cases row with
    | nil => simp [cnt] at h
    | cons X r =>
      rw [cnt_consS, ← sum_srt] at h
      obtain ⟨p, a, e, hp, ha⟩ := pick_some _ _ h
      have hp' : p ∈ R X := (srt_perm _).mem_iff.mp hp
      obtain ⟨h1, h2, h3⟩ := ih (p.2 ++ r) a (G.sub hr hp') ha
      unfold wordAt
      rw [e]
      refine ⟨by simp [h1], ?_, fun l hl => ?_⟩
      · show runR R ((some (X :: r)).bind fun r => stepR R r p.1) _ = _
        rw [show ((some (X :: r)).bind fun r => stepR R r p.1) = stepR R (X :: r) p.1 from rfl, G.step (hr X (by simp)) hp']
        exact h2
      · rcases List.mem_cons.mp hl with z | z
        · rw [z]; exact (G.cl X (hr X (by simp)) p hp').1
        · exact h3 l z
/-! ### the least end -/
def lst (R : Rl N) (ν : N → Nat) (row : List N) : List Nat := wordAt R (nus ν row) row 0
theorem pick_zero {n : Nat} {r : List N} : ∀ (ps : List (Nat × List N)), pick R n r ps 0 = (ps.find? fun p => decide (0 < cnt R n (p.2 ++ r))).map fun p => (p, 0)
  | [] => rfl
  | p :: ps => by
    unfold pick
    rw [List.find?_cons]
    by_cases h : 0 < cnt R n (p.2 ++ r)
    · rw [if_pos h, decide_eq_true h]; rfl
    · have e : cnt R n (p.2 ++ r) = 0 := by omega
      rw [if_neg h, decide_eq_false h, e]
      exact pick_zero ps
theorem GG.pos_iff (G : GG ns R ν sg) {X : N} {r : List N} (hr : ∀ Y ∈ X :: r, Y ∈ ns) {p : Nat × List N} (hp : p ∈ R X) {n : Nat} (hn : n + 1 = ν X + nus ν r) : (0 < cnt R n (p.2 ++ r)) ↔ ν X = 1 + nus ν p.2 := by
  have h1 := G.n1 X (hr X (by simp)) p hp
  constructor
  · intro h
    have h2 := G.cnt_ge n _ (G.sub hr hp) h
    rw [nus_app] at h2
    omega
  · intro h
    refine G.cnt_norm n _ (G.sub hr hp) ?_
    rw [nus_app]
    omega
/-- the lessening rule with the least letter -/
def best (R : Rl N) (ν : N → Nat) (X : N) : Option (Nat × List N) := (srt (R X)).find? fun p => decide (ν X = 1 + nus ν p.2)
theorem GG.best_some (G : GG ns R ν sg) {X : N} (hX : X ∈ ns) : ∃ p ∈ R X, best R ν X = some p ∧ ν X = 1 + nus ν p.2 ∧ ∀ q ∈ R X, ν X = 1 + nus ν q.2 → p.1 ≤ q.1 := by
  obtain ⟨q, hq, eq⟩ := G.n2 X hX
  unfold best
  cases h : (srt (R X)).find? (fun p => decide (ν X = 1 + nus ν p.2)) with
  | none =>
    have := List.find?_eq_none.mp h q ((srt_perm _).mem_iff.mpr hq)
    simp [eq] at this
  | some p =>
    have h1 : ν X = 1 + nus ν p.2 := by simpa using List.find?_some h
    refine ⟨p, (srt_perm _).mem_iff.mp (List.mem_of_find?_eq_some h), rfl, h1, fun q' hq' e' => ?_⟩
    obtain ⟨as, bs, e, hno⟩ := (List.find?_eq_some_iff_append.mp h).2
    have hs := srt_sorted (R X)
    rw [e] at hs
    have hm : q' ∈ srt (R X) := (srt_perm _).mem_iff.mpr hq'
    rw [e] at hm
    rcases List.mem_append.mp hm with z | z
    · have := hno q' z
      simp [e'] at this
    · rcases List.mem_cons.mp z with z | z
      · rw [z]; exact Nat.le_refl _
      · exact (List.pairwise_cons.mp (List.pairwise_append.mp hs).2.1).1 q' z
theorem find_congr {α : Type} {f g : α → Bool} {l : List α} (h : ∀ a ∈ l, f a = g a) : l.find? f = l.find? g := by
  induction l with
  | nil => rfl
  | cons a r ih =>
    rw [List.find?_cons, List.find?_cons, h a (by simp), ih fun b hb => h b (by simp [hb])]
theorem GG.lst_cons (G : GG ns R ν sg) {X : N} {r : List N} (hr : ∀ Y ∈ X :: r, Y ∈ ns) {p : Nat × List N} (hb : best R ν X = some p) (e : ν X = 1 + nus ν p.2) : lst R ν (X :: r) = p.1 :: lst R ν (p.2 ++ r) := by
  have hn : nus ν (X :: r) = nus ν (p.2 ++ r) + 1 := by rw [nus_cons, nus_app]; omega
  unfold lst
  rw [hn]
  show (match pick R (nus ν (p.2 ++ r)) r (srt (R X)) 0 with
    | none => []
    | some (p, a) => p.1 :: wordAt R _ (p.2 ++ r) a) = _
  rw [pick_zero]
  have ef : ((srt (R X)).find? fun p' => decide (0 < cnt R (nus ν (p.2 ++ r)) (p'.2 ++ r))) = some p := by
    rw [← hb]
    unfold best
    refine find_congr fun q hq => ?_
    have hq' : q ∈ R X := (srt_perm _).mem_iff.mp hq
    rw [decide_eq_decide]
    exact G.pos_iff hr hq' (by rw [nus_cons] at hn; omega)
  rw [ef]
  rfl
theorem GG.lst_app (G : GG ns R ν sg) : ∀ (n : Nat) (a b : List N), (∀ Y ∈ a ++ b, Y ∈ ns) → nus ν a = n → lst R ν (a ++ b) = lst R ν a ++ lst R ν b := by
  intro n
  induction n using Nat.strongRecOn with
  | ind n ih =>
    intro a b h e
    cases a with
    | nil => rfl
    | cons X r =>
      have hX : X ∈ ns := h X (by simp)
      obtain ⟨p, hp, hb, e1, _⟩ := G.best_some hX
      have h1 : ∀ Y ∈ X :: r, Y ∈ ns := fun Y hY => h Y (by rw [List.cons_append]; rcases List.mem_cons.mp hY with z | z <;> simp [z])
      have h2 : ∀ Y ∈ X :: (r ++ b), Y ∈ ns := fun Y hY => h Y (by rw [List.cons_append]; exact hY)
      rw [List.cons_append, G.lst_cons h2 hb e1, G.lst_cons h1 hb e1, ← List.append_assoc]
      rw [ih (nus ν (p.2 ++ r)) (by rw [nus_cons] at e; rw [nus_app]; omega) (p.2 ++ r) b (fun Y hY => ?_) rfl]
      · rfl
      · rw [List.append_assoc] at hY
        exact G.sub h2 hp Y hY
theorem GG.lst_flat (G : GG ns R ν sg) : ∀ row : List N, (∀ Y ∈ row, Y ∈ ns) → lst R ν row = (row.map fun X => lst R ν [X]).flatten
  | [], _ => rfl
  | X :: r, h => by
    rw [show X :: r = [X] ++ r from rfl, G.lst_app _ [X] r h rfl, G.lst_flat r fun Y hY => h Y (by simp [hY])]
    rfl
/-- the least end of a name, from those of lesser names: what min takes -/
theorem GG.lst_one (G : GG ns R ν sg) {X : N} (hX : X ∈ ns) : ∃ p ∈ R X, ν X = 1 + nus ν p.2 ∧ lst R ν [X] = p.1 :: lst R ν p.2 ∧ ∀ q ∈ R X, ν X = 1 + nus ν q.2 → p.1 ≤ q.1 ∧ (p.1 = q.1 → p = q) := by
  obtain ⟨p, hp, hb, e1, hl⟩ := G.best_some hX
  have h1 : ∀ Y ∈ [X], Y ∈ ns := fun Y hY => by rw [List.mem_singleton.mp hY]; exact hX
  refine ⟨p, hp, e1, ?_, fun q hq e => ⟨hl q hq e, fun z => nodup_key (G.ndl X hX) hp hq z⟩⟩
  have := G.lst_cons h1 hb e1
  rw [List.append_nil] at this
  exact this
theorem GG.lst_len (G : GG ns R ν sg) {row : List N} (h : ∀ Y ∈ row, Y ∈ ns) : (lst R ν row).length = nus ν row :=
  (G.wordAt_ok _ _ 0 h (G.cnt_norm _ _ h rfl)).1
theorem GG.lst_run (G : GG ns R ν sg) {row : List N} (h : ∀ Y ∈ row, Y ∈ ns) : runR R (some row) (lst R ν row) = some [] :=
  (G.wordAt_ok _ _ 0 h (G.cnt_norm _ _ h rfl)).2.1
/-! ### words of at most so many letters -/
def wle (R : Rl N) : Nat → List N → List (List Nat)
  | _, [] => [[]]
  | 0, _ :: _ => []
  | m + 1, X :: r => (R X).flatMap fun p => (wle R m (p.2 ++ r)).map (p.1 :: ·)
abbrev Ly (N : Type) := List (List Nat × List N)
def ended (L : Ly N) : List (List Nat) := (L.filter fun q => decide (q.2 = [])).map (·.1)
def nextOf (R : Rl N) (q : List Nat × List N) : Ly N := match q.2 with
  | [] => []
  | X :: r => (srt (R X)).map fun p => (q.1 ++ [p.1], p.2 ++ r)
def next (R : Rl N) (L : Ly N) : Ly N := L.flatMap (nextOf R)
def bfs (R : Rl N) : Nat → Ly N → List (List Nat)
  | 0, L => ended L
  | m + 1, L => ended L ++ bfs R m (next R L)
def within (R : Rl N) (m : Nat) (row : List N) : List (List Nat) := bfs R m [([], row)]
theorem perm_flatMap {α β : Type} {l l' : List α} (h : l.Perm l') (f : α → List β) : (l.flatMap f).Perm (l'.flatMap f) := by
  induction h with
  | nil => exact .nil
  | cons x _ ih => simp only [List.flatMap_cons]; exact ih.append_left _
  | swap x y l =>
    simp only [List.flatMap_cons, ← List.append_assoc]
    exact List.Perm.append_right _ List.perm_append_comm
  | trans _ _ h1 h2 => exact h1.trans h2
theorem flatMap_perm {α β : Type} {f g : α → List β} : ∀ {l : List α}, (∀ a ∈ l, (f a).Perm (g a)) → (l.flatMap f).Perm (l.flatMap g)
  | [], _ => .nil
  | a :: l, h => by
    simp only [List.flatMap_cons]
    exact (h a (by simp)).append (flatMap_perm fun b hb => h b (by simp [hb]))
theorem bfs_perm (m : Nat) : ∀ L : Ly N, (bfs R m L).Perm (L.flatMap fun q => (wle R m q.2).map (q.1 ++ ·)) := by
  induction m with
  | zero =>
    intro L
    induction L with
    | nil => exact .nil
    | cons q L ih =>
      obtain ⟨w, x⟩ := q
      show (ended ((w, x) :: L)).Perm _
      rw [List.flatMap_cons]
      cases x with
      | nil => simpa [ended, wle, bfs] using ih
      | cons X r => simpa [ended, wle, bfs] using ih
  | succ m ihm =>
    intro L
    refine ((ihm (next R L)).append_left (ended L)).trans ?_
    induction L with
    | nil => exact .nil
    | cons q L ih =>
      obtain ⟨w, x⟩ := q
      rw [List.flatMap_cons]
      cases x with
      | nil =>
        have e1 : ended ((w, ([] : List N)) :: L) = w :: ended L := by simp [ended]
        have e2 : next R ((w, ([] : List N)) :: L) = next R L := by simp [next, nextOf]
        rw [e1, e2]
        simpa [wle] using ih
      | cons X r =>
        have e1 : ended ((w, X :: r) :: L) = ended L := by simp [ended]
        have e2 : next R ((w, X :: r) :: L) = ((srt (R X)).map fun p => (w ++ [p.1], p.2 ++ r)) ++ next R L := by simp [next, nextOf]
        rw [e1, e2, List.flatMap_append]
        refine (List.Perm.trans ?_ (ih.append_left _))
        rw [← List.append_assoc, ← List.append_assoc]
        refine List.Perm.append_right _ (List.perm_append_comm.trans (List.Perm.append_right _ ?_))
        rw [List.flatMap_map]
        refine (perm_flatMap (srt_perm (R X)) _).trans (List.Perm.of_eq ?_)
        simp only [wle, List.map_flatMap, List.map_map]
        congr 1
        funext p
        apply List.map_congr_left
        intro v _
        simp
theorem within_perm (m : Nat) (row : List N) : (within R m row).Perm (wle R m row) := by
  have h := bfs_perm (R := R) m [([], row)]
  simpa [within] using h
theorem runR_app (o : Option (List N)) : ∀ u v : List Nat, runR R o (u ++ v) = runR R (runR R o u) v := by
  intro u v
  induction u generalizing o with
  | nil => rfl
  | cons l u ih => exact ih _
theorem runR_none : ∀ w : List Nat, runR R none w = none
  | [] => rfl
  | _ :: w => runR_none w
theorem runR_nil {l : Nat} {w : List Nat} : runR R (some []) (l :: w) = none := by
  show runR R ((some []).bind fun r => stepR R r l) w = none
  rw [show ((some ([] : List N)).bind fun r => stepR R r l) = none from rfl]
  exact runR_none w
theorem runR_cons {row : List N} {l : Nat} {w : List Nat} : runR R (some row) (l :: w) = runR R (stepR R row l) w := rfl
theorem GG.wle_ok (G : GG ns R ν sg) : ∀ (m : Nat) (row : List N), (∀ Y ∈ row, Y ∈ ns) → ∀ w ∈ wle R m row, w.length ≤ m ∧ runR R (some row) w = some [] ∧ ∀ l ∈ w, l ∈ sg := by
  intro m
  induction m with
  | zero =>
    intro row _ w hw
    cases row with
    | nil => simp [wle] at hw; subst hw; simp [runR]
    | cons X r => simp [wle] at hw
  | succ m ih =>
    intro row h w hw
    cases row with
    | nil => simp [wle] at hw; subst hw; simp [runR]
    | cons X r =>
      simp only [wle, List.mem_flatMap, List.mem_map] at hw
      obtain ⟨p, hp, v, hv, rfl⟩ := hw
      obtain ⟨h1, h2, h3⟩ := ih _ (G.sub h hp) v hv
      refine ⟨by simp; exact h1, ?_, fun l hl => ?_⟩
      · rw [runR_cons, G.step (h X (by simp)) hp]
        exact h2
      · rcases List.mem_cons.mp hl with z | z
        · rw [z]; exact (G.cl X (h X (by simp)) p hp).1
        · exact h3 l z
theorem GG.run_sub (G : GG ns R ν sg) : ∀ (w : List Nat) {row x : List N}, (∀ Y ∈ row, Y ∈ ns) → runR R (some row) w = some x → (∀ Y ∈ x, Y ∈ ns) ∧ x.length ≤ row.length + 3 * w.length
  | [], row, x, h, e => by
    cases e
    exact ⟨h, by simp⟩
  | l :: w, row, x, h, e => by
    rw [runR_cons] at e
    cases row with
    | nil => rw [show stepR R [] l = none from rfl, runR_none] at e; cases e
    | cons X r =>
      cases hs : stepR R (X :: r) l with
      | none => rw [hs, runR_none] at e; cases e
      | some y =>
        rw [hs] at e
        obtain ⟨p, hp, _, ey⟩ := G.step_inv hs
        have hy : ∀ Y ∈ y, Y ∈ ns := by rw [ey]; exact G.sub h hp
        obtain ⟨h1, h2⟩ := G.run_sub w hy e
        refine ⟨h1, ?_⟩
        have h3 := (G.cl X (h X (by simp)) p hp).2.2
        rw [ey, List.length_append] at h2
        rw [List.length_cons, List.length_cons]
        omega
theorem word_mid {row : List N} {w : List Nat} (h : runR R (some row) w = some []) {k : Nat} (hk : k < w.length) : ∃ X r, runR R (some row) (w.take k) = some (X :: r) ∧ runR R (some (X :: r)) (w.drop k) = some [] := by
  have e := runR_app (R := R) (some row) (w.take k) (w.drop k)
  rw [List.take_append_drop, h] at e
  cases hx : runR R (some row) (w.take k) with
  | none => rw [hx, runR_none] at e; cases e
  | some x =>
    rw [hx] at e
    cases x with
    | nil =>
      rw [List.drop_eq_getElem_cons hk, runR_nil] at e
      cases e
    | cons X r => exact ⟨X, r, rfl, e.symm⟩
/-! ### first letters -/
theorem fl_perm {X : N} {sg' : List Nat} (nd : sg'.Nodup) (ndl : ((R X).map (·.1)).Nodup) (hm : ∀ p ∈ R X, p.1 ∈ sg') : (sg'.filterMap fun l => (R X).find? fun p => p.1 == l).Perm (R X) := by
  have n1 : (R X).Nodup := by
    have : ∀ rs : List (Nat × List N), (rs.map (·.1)).Nodup → rs.Nodup := by
      intro rs
      induction rs with
      | nil => intro _; exact List.nodup_nil
      | cons a r ih =>
        intro h
        rw [List.map_cons, List.nodup_cons] at h
        exact List.nodup_cons.mpr ⟨fun hm => h.1 (List.mem_map.mpr ⟨a, hm, rfl⟩), ih h.2⟩
    exact this _ ndl
  have n2 : ∀ sg' : List Nat, sg'.Nodup → (sg'.filterMap fun l => (R X).find? fun p => p.1 == l).Nodup := by
    intro sg'
    induction sg' with
    | nil => intro _; exact List.nodup_nil
    | cons l sg' ih =>
      intro h
      rw [List.nodup_cons] at h
      rw [List.filterMap_cons]
      cases hf : (R X).find? (fun p => p.1 == l) with
      | none => exact ih h.2
      | some p =>
        refine List.nodup_cons.mpr ⟨fun hm => ?_, ih h.2⟩
        obtain ⟨l', hl', e⟩ := List.mem_filterMap.mp hm
        have a1 : p.1 = l := by simpa using List.find?_some hf
        have a2 : p.1 = l' := by simpa using List.find?_some e
        rw [← a1, a2] at h
        exact h.1 hl'
  rw [List.perm_ext_iff_of_nodup (n2 sg' nd) n1]
  intro p
  constructor
  · intro h
    obtain ⟨l, _, e⟩ := List.mem_filterMap.mp h
    exact List.mem_of_find?_eq_some e
  · intro h
    exact List.mem_filterMap.mpr ⟨p.1, hm p h, find_of_mem ndl h⟩
theorem fl_sum {X : N} {r : List N} (f : List N → Nat) (sg' : List Nat) : (sg'.map fun l => match stepR R (X :: r) l with | none => 0 | some x => f x).sum = ((sg'.filterMap fun l => (R X).find? fun p => p.1 == l).map fun p => f (p.2 ++ r)).sum := by
  induction sg' with
  | nil => rfl
  | cons l sg' ih =>
    rw [List.map_cons, List.sum_cons, List.filterMap_cons]
    have e : stepR R (X :: r) l = ((R X).find? (fun p => p.1 == l)).map (fun p => p.2 ++ r) := rfl
    rw [e]
    cases hf : (R X).find? (fun p => p.1 == l) with
    | none => simp only [Option.map_none, Nat.zero_add]; exact ih
    | some p => simp only [Option.map_some, List.map_cons, List.sum_cons]; rw [ih]
theorem GG.cnt_first (G : GG ns R ν sg) {X : N} {r : List N} (hX : X ∈ ns) {sg' : List Nat} (hp : sg'.Perm sg) (k : Nat) :
    (sg'.map fun l => match stepR R (X :: r) l with | none => 0 | some x => cnt R k x).sum = cnt R (k + 1) (X :: r) := by
  rw [fl_sum, cnt_consS]
  exact ((fl_perm (hp.nodup_iff.mpr G.sgnd) (G.ndl X hX) fun p h => hp.mem_iff.mpr (G.cl X hX p h).1).map _).sum_nat
def firstWords (R : Rl N) (m : Nat) (row : List N) (sg' : List Nat) : List (List Nat) := sg'.flatMap fun l => match stepR R row l with | none => [] | some x => (within R m x).map (l :: ·)
theorem GG.words_first (G : GG ns R ν sg) {X : N} {r : List N} (hX : X ∈ ns) {sg' : List Nat} (hp : sg'.Perm sg) (m : Nat) : (within R (m + 1) (X :: r)).Perm (firstWords R m (X :: r) sg') := by
  refine (within_perm (m + 1) (X :: r)).trans ?_
  show ((R X).flatMap fun p => (wle R m (p.2 ++ r)).map (p.1 :: ·)).Perm _
  refine (perm_flatMap (fl_perm (hp.nodup_iff.mpr G.sgnd) (G.ndl X hX) fun p h => hp.mem_iff.mpr (G.cl X hX p h).1).symm _).trans ?_
  unfold firstWords
  clear hp
  induction sg' with
  | nil => exact .nil
  | cons l sg' ih =>
    rw [List.filterMap_cons, List.flatMap_cons]
    have e : stepR R (X :: r) l = ((R X).find? (fun p => p.1 == l)).map (fun p => p.2 ++ r) := rfl
    rw [e]
    cases hf : (R X).find? (fun p => p.1 == l) with
    | none => simpa using ih
    | some p =>
      have a1 : p.1 = l := by simpa using List.find?_some hf
      simp only [Option.map_some, List.flatMap_cons]
      rw [a1]
      exact ((within_perm m (p.2 ++ r)).symm.map _).append ih
/-! ### the norms' rounds -/
def added (f : N → Option Nat) : List N → Option Nat
  | [] => some 0
  | X :: r => match f X, added f r with
    | some a, some b => some (a + b)
    | _, _ => none
def foundN (f : N → Option Nat) (ns : List N) : Nat := (ns.filter fun X => (f X).isSome).length
def meas (f : N → Option Nat) (ns : List N) : Nat := (ns.map fun X => (f X).getD 5000).sum
def putN (f : N → Option Nat) (X : N) (v : Nat) : N → Option Nat := fun Y => if Y = X then some v else f Y
structure NInv (ns : List N) (ν : N → Nat) (f : N → Option Nat) : Prop where
  ge : ∀ X ∈ ns, ∀ v, f X = some v → ν X ≤ v
  le : ∀ X ∈ ns, ∀ v, f X = some v → v ≤ 4 ^ foundN f ns
theorem added_some {f : N → Option Nat} : ∀ {row : List N} {s : Nat}, added f row = some s → ∀ Y ∈ row, ∃ v, f Y = some v
  | [], _, _, Y, hY => by cases hY
  | X :: r, s, h, Y, hY => by
    unfold added at h
    split at h
    · rename_i a b e1 e2
      rcases List.mem_cons.mp hY with z | z
      · exact ⟨a, by rw [z]; exact e1⟩
      · exact added_some e2 Y z
    · cases h
theorem added_ge {f : N → Option Nat} (h : ∀ X ∈ ns, ∀ v, f X = some v → ν X ≤ v) : ∀ {row : List N} {s : Nat}, (∀ Y ∈ row, Y ∈ ns) → added f row = some s → nus ν row ≤ s
  | [], _, _, e => by simp [nus]
  | X :: r, s, hr, e => by
    unfold added at e
    split at e
    · rename_i a b e1 e2
      have h1 := h X (hr X (by simp)) a e1
      have h2 := added_ge h (fun Y hY => hr Y (by simp [hY])) e2
      have e3 := Option.some.inj e
      rw [nus_cons]
      omega
    · cases e
theorem added_le {f : N → Option Nat} {b : Nat} (h : ∀ X ∈ ns, ∀ v, f X = some v → v ≤ b) : ∀ {row : List N} {s : Nat}, (∀ Y ∈ row, Y ∈ ns) → added f row = some s → s ≤ row.length * b
  | [], _, _, e => by cases e; simp
  | X :: r, s, hr, e => by
    unfold added at e
    split at e
    · rename_i a c e1 e2
      have h1 := h X (hr X (by simp)) a e1
      have h2 := added_le h (fun Y hY => hr Y (by simp [hY])) e2
      have e3 := Option.some.inj e
      rw [List.length_cons, Nat.add_mul, Nat.one_mul]
      omega
    · cases e
theorem added_all {f : N → Option Nat} : ∀ {row : List N}, (∀ Y ∈ row, f Y = some (ν Y)) → added f row = some (nus ν row)
  | [], _ => rfl
  | X :: r, h => by
    unfold added
    rw [h X (by simp), added_all fun Y hY => h Y (by simp [hY]), nus_cons]
theorem putN_same {f : N → Option Nat} {X : N} {v : Nat} : putN f X v X = some v := by simp [putN]
theorem putN_ne {f : N → Option Nat} {X Y : N} {v : Nat} (h : Y ≠ X) : putN f X v Y = f Y := by simp [putN, h]
theorem foundN_le {f : N → Option Nat} {ns : List N} : foundN f ns ≤ ns.length := List.length_filter_le _ _
theorem foundN_put_none {f : N → Option Nat} {X : N} {v : Nat} : ∀ {ns : List N}, ns.Nodup → X ∈ ns → f X = none → foundN (putN f X v) ns = foundN f ns + 1
  | [], _, h, _ => by cases h
  | Y :: ns, nd, h, e => by
    rw [List.nodup_cons] at nd
    have tail : ∀ {l : List N}, X ∉ l → foundN (putN f X v) l = foundN f l := fun {l} hl => by
      unfold foundN
      congr 1
      apply List.filter_congr
      intro Z hZ
      rw [putN_ne (fun z => hl (by rw [← z]; exact hZ))]
    by_cases hy : Y = X
    · subst hy
      have t := tail nd.1
      unfold foundN at t ⊢
      rw [List.filter_cons, List.filter_cons, putN_same, e]
      simp [t]
    · have hm : X ∈ ns := (List.mem_cons.mp h).resolve_left fun z => hy z.symm
      have ih := foundN_put_none (v := v) nd.2 hm e
      unfold foundN at ih ⊢
      rw [List.filter_cons, List.filter_cons, putN_ne hy]
      split
      · simp [ih]
      · exact ih
theorem foundN_put_some {f : N → Option Nat} {X : N} {v u : Nat} {ns : List N} (e : f X = some u) : foundN (putN f X v) ns = foundN f ns := by
  unfold foundN
  congr 1
  apply List.filter_congr
  intro Z _
  by_cases h : Z = X
  · rw [h, putN_same, e]; rfl
  · rw [putN_ne h]
theorem meas_put {f : N → Option Nat} {X : N} {v : Nat} (hv : v < (f X).getD 5000) : ∀ {ns : List N}, X ∈ ns → meas (putN f X v) ns < meas f ns := by
  have le : ∀ ns : List N, meas (putN f X v) ns ≤ meas f ns := by
    intro ns
    induction ns with
    | nil => exact Nat.le_refl _
    | cons Y ns ih =>
      unfold meas at ih ⊢
      rw [List.map_cons, List.sum_cons, List.map_cons, List.sum_cons]
      by_cases h : Y = X
      · rw [h, putN_same]
        have : (some v).getD 5000 = v := rfl
        omega
      · rw [putN_ne h]; omega
  intro ns
  induction ns with
  | nil => intro h; cases h
  | cons Y ns ih =>
    intro h
    have l := le ns
    unfold meas at l ih ⊢
    rw [List.map_cons, List.sum_cons, List.map_cons, List.sum_cons]
    by_cases hy : Y = X
    · rw [hy, putN_same]
      have : (some v).getD 5000 = v := rfl
      omega
    · rw [putN_ne hy]
      have := ih ((List.mem_cons.mp h).resolve_left fun z => hy z.symm)
      omega
theorem GG.put_ok (G : GG ns R ν sg) {f : N → Option Nat} (I : NInv ns ν f) {X : N} (hX : X ∈ ns) {p : Nat × List N} (hp : p ∈ R X) {s : Nat} (hs : added f p.2 = some s) (hn : f X = none ∨ ∃ v, f X = some v ∧ s + 1 < v) :
    NInv ns ν (putN f X (s + 1)) ∧ meas (putN f X (s + 1)) ns < meas f ns := by
  have c := G.cl X hX p hp
  have h1 := added_ge I.ge c.2.1 hs
  have h2 := added_le I.le c.2.1 hs
  have h3 := G.n1 X hX p hp
  have h4 : p.2.length * 4 ^ foundN f ns ≤ 3 * 4 ^ foundN f ns := Nat.mul_le_mul_right _ c.2.2
  have h5 : 1 ≤ 4 ^ foundN f ns := Nat.one_le_pow _ _ (by omega)
  have mono : foundN f ns ≤ foundN (putN f X (s + 1)) ns := by
    rcases hn with e | ⟨v, e, _⟩
    · rw [foundN_put_none G.nd hX e]; omega
    · rw [foundN_put_some e]; exact Nat.le_refl _
  have pm : 4 ^ foundN f ns ≤ 4 ^ foundN (putN f X (s + 1)) ns := Nat.pow_le_pow_right (by omega) mono
  refine ⟨⟨fun Y hY v e => ?_, fun Y hY v e => ?_⟩, meas_put ?_ hX⟩
  · by_cases h : Y = X
    · rw [h, putN_same] at e
      have := Option.some.inj e
      rw [h]; omega
    · rw [putN_ne h] at e
      exact I.ge Y hY v e
  · by_cases h : Y = X
    · rw [h, putN_same] at e
      have e' := Option.some.inj e
      rcases hn with z | ⟨u, z, hu⟩
      · rw [foundN_put_none G.nd hX z, Nat.pow_succ]; omega
      · have := I.le X hX u z
        omega
    · rw [putN_ne h] at e
      have := I.le Y hY v e
      omega
  · rcases hn with z | ⟨u, z, hu⟩
    · rw [z]
      show s + 1 < 5000
      have h6 : foundN f ns + 1 ≤ 5 := by
        have a1 := foundN_put_none (v := 0) G.nd hX z
        have a2 := foundN_le (f := putN f X 0) (ns := ns)
        have := G.le
        omega
      have h7 : 4 ^ foundN f ns ≤ 4 ^ 4 := Nat.pow_le_pow_right (by omega) (by omega)
      omega
    · rw [z]; exact hu
theorem GG.norm_done (G : GG ns R ν sg) {f : N → Option Nat} (I : NInv ns ν f) (hc : ∀ X ∈ ns, ∀ p ∈ R X, ∀ s, added f p.2 = some s → ∃ v, f X = some v ∧ v ≤ s + 1) : ∀ X ∈ ns, f X = some (ν X) := by
  have key : ∀ (n : Nat) (X : N), X ∈ ns → ν X = n → f X = some (ν X) := by
    intro n
    induction n using Nat.strongRecOn with
    | ind n ih =>
      intro X hX e
      obtain ⟨p, hp, h1⟩ := G.n2 X hX
      have c := G.cl X hX p hp
      have all : ∀ Y ∈ p.2, f Y = some (ν Y) := fun Y hY => by
        have : ν Y ≤ nus ν p.2 := le_sum_of_mem (List.mem_map.mpr ⟨Y, hY, rfl⟩)
        exact ih (ν Y) (by omega) Y (c.2.1 Y hY) rfl
      obtain ⟨v, e1, e2⟩ := hc X hX p hp _ (added_all all)
      have := I.ge X hX v e1
      rw [e1, show v = ν X by omega]
  exact fun X hX => key _ X hX rfl
end
end
end K60
namespace K60
open PySem PySem.Spec PyProof.Rows L2
def topS (i : Nat) : Stmt := PySem.Challenge.pw_samegoing_k60_whole_words_by_first_lette.main.body.getD i (.Pass ⟨0, 0, 0, 0⟩)
abbrev s_look_at_names : Stmt := topS 7
abbrev s_added_up : Stmt := topS 9
abbrev s_norms : Stmt := topS 10
abbrev s_norm_of : Stmt := topS 11
abbrev s_endless : Stmt := topS 12
abbrev s_lessening : Stmt := topS 13
abbrev s_shortest_end : Stmt := topS 14
abbrev s_twice_by : Stmt := topS 16
abbrev s_look_at_tongue : Stmt := topS 17
abbrev s_one_step : Stmt := topS 18
abbrev s_by_letters : Stmt := topS 19
abbrev s_runs_to : Stmt := topS 20
abbrev s_ends_by : Stmt := topS 21
abbrev s_Counts_init : Stmt := inClass (topS 22) 0
abbrev s_Counts_of_row : Stmt := inClass (topS 22) 1
abbrev s_Counts_reckoned : Stmt := inClass (topS 22) 2
abbrev s_word_counts : Stmt := topS 23
abbrev s_sorted_rules : Stmt := topS 24
abbrev s_words_within : Stmt := topS 25
abbrev s_word_at : Stmt := topS 26
abbrev s_place_of_word : Stmt := topS 27
abbrev s_is_small : Stmt := topS 33
abbrev s_is_name : Stmt := topS 34
abbrev s_is_letter : Stmt := topS 35
abbrev s_are_names : Stmt := topS 36
abbrev s_Grammar_init : Stmt := inClass (topS 37) 0
abbrev s_Grammar_lets_by : Stmt := inClass (topS 37) 1
abbrev s_Grammar_names : Stmt := inClass (topS 37) 2
abbrev s_Grammar_has : Stmt := inClass (topS 37) 3
abbrev s_Grammar_rules_of : Stmt := inClass (topS 37) 4
abbrev s_Grammar_rules : Stmt := inClass (topS 37) 5
abbrev s_law_cell_at : Stmt := topS 39
abbrev s_law_well : Stmt := topS 40
abbrev s_law_draw : Stmt := topS 41
abbrev s_law_one : Stmt := topS 42
abbrev s_law_names : Stmt := topS 43
abbrev s_law_signs : Stmt := topS 44
abbrev s_law_mixed : Stmt := topS 45
abbrev s_law_rules : Stmt := topS 46
abbrev s_law_first_right : Stmt := topS 47
abbrev s_law_word_right : Stmt := topS 48
abbrev s_law : Stmt := topS 49
def d_look_at_names : He.DefD := ⟨("look_at_names", none), "look_at_names", "look_at_names", defArgs s_look_at_names, defBody s_look_at_names, defScope s_look_at_names, [], []⟩
def d_added_up : He.DefD := ⟨("added_up", none), "added_up", "added_up", defArgs s_added_up, defBody s_added_up, defScope s_added_up, [], []⟩
def d_norms : He.DefD := ⟨("norms", none), "norms", "norms", defArgs s_norms, defBody s_norms, defScope s_norms, [], []⟩
def d_norm_of : He.DefD := ⟨("norm_of", none), "norm_of", "norm_of", defArgs s_norm_of, defBody s_norm_of, defScope s_norm_of, [], []⟩
def d_endless : He.DefD := ⟨("endless", none), "endless", "endless", defArgs s_endless, defBody s_endless, defScope s_endless, [], []⟩
def d_lessening : He.DefD := ⟨("lessening", none), "lessening", "lessening", defArgs s_lessening, defBody s_lessening, defScope s_lessening, [], []⟩
def d_shortest_end : He.DefD := ⟨("shortest_end", none), "shortest_end", "shortest_end", defArgs s_shortest_end, defBody s_shortest_end, defScope s_shortest_end, [], []⟩
def d_twice_by : He.DefD := ⟨("twice_by", none), "twice_by", "twice_by", defArgs s_twice_by, defBody s_twice_by, defScope s_twice_by, [], []⟩
def d_look_at_tongue : He.DefD := ⟨("look_at_tongue", none), "look_at_tongue", "look_at_tongue", defArgs s_look_at_tongue, defBody s_look_at_tongue, defScope s_look_at_tongue, [], []⟩
def d_one_step : He.DefD := ⟨("one_step", none), "one_step", "one_step", defArgs s_one_step, defBody s_one_step, defScope s_one_step, [], []⟩
def d_by_letters : He.DefD := ⟨("by_letters", none), "by_letters", "by_letters", defArgs s_by_letters, defBody s_by_letters, defScope s_by_letters, [], []⟩
def d_runs_to : He.DefD := ⟨("runs_to", none), "runs_to", "runs_to", defArgs s_runs_to, defBody s_runs_to, defScope s_runs_to, [], []⟩
def d_ends_by : He.DefD := ⟨("ends_by", none), "ends_by", "ends_by", defArgs s_ends_by, defBody s_ends_by, defScope s_ends_by, [], []⟩
def d_Counts_init : He.DefD := ⟨("Counts", some "__init__"), "__init__", "Counts.__init__", defArgs s_Counts_init, defBody s_Counts_init, defScope s_Counts_init, [], []⟩
def d_Counts_of_row : He.DefD := ⟨("Counts", some "of_row"), "of_row", "Counts.of_row", defArgs s_Counts_of_row, defBody s_Counts_of_row, defScope s_Counts_of_row, [], []⟩
def d_Counts_reckoned : He.DefD := ⟨("Counts", some "reckoned"), "reckoned", "Counts.reckoned", defArgs s_Counts_reckoned, defBody s_Counts_reckoned, defScope s_Counts_reckoned, [], []⟩
def d_word_counts : He.DefD := ⟨("word_counts", none), "word_counts", "word_counts", defArgs s_word_counts, defBody s_word_counts, defScope s_word_counts, [], []⟩
def d_sorted_rules : He.DefD := ⟨("sorted_rules", none), "sorted_rules", "sorted_rules", defArgs s_sorted_rules, defBody s_sorted_rules, defScope s_sorted_rules, [], []⟩
def d_words_within : He.DefD := ⟨("words_within", none), "words_within", "words_within", defArgs s_words_within, defBody s_words_within, defScope s_words_within, [], []⟩
def d_word_at : He.DefD := ⟨("word_at", none), "word_at", "word_at", defArgs s_word_at, defBody s_word_at, defScope s_word_at, [], []⟩
def d_place_of_word : He.DefD := ⟨("place_of_word", none), "place_of_word", "place_of_word", defArgs s_place_of_word, defBody s_place_of_word, defScope s_place_of_word, [], []⟩
def d_is_small : He.DefD := ⟨("is_small", none), "is_small", "is_small", defArgs s_is_small, defBody s_is_small, defScope s_is_small, [], []⟩
def d_is_name : He.DefD := ⟨("is_name", none), "is_name", "is_name", defArgs s_is_name, defBody s_is_name, defScope s_is_name, [], []⟩
def d_is_letter : He.DefD := ⟨("is_letter", none), "is_letter", "is_letter", defArgs s_is_letter, defBody s_is_letter, defScope s_is_letter, [], []⟩
def d_are_names : He.DefD := ⟨("are_names", none), "are_names", "are_names", defArgs s_are_names, defBody s_are_names, defScope s_are_names, [], []⟩
def d_Grammar_init : He.DefD := ⟨("Grammar", some "__init__"), "__init__", "Grammar.__init__", defArgs s_Grammar_init, defBody s_Grammar_init, defScope s_Grammar_init, [], []⟩
def d_Grammar_lets_by : He.DefD := ⟨("Grammar", some "lets_by"), "lets_by", "Grammar.lets_by", defArgs s_Grammar_lets_by, defBody s_Grammar_lets_by, defScope s_Grammar_lets_by, [], []⟩
def d_Grammar_names : He.DefD := ⟨("Grammar", some "names"), "names", "Grammar.names", defArgs s_Grammar_names, defBody s_Grammar_names, defScope s_Grammar_names, [], []⟩
def d_Grammar_has : He.DefD := ⟨("Grammar", some "has"), "has", "Grammar.has", defArgs s_Grammar_has, defBody s_Grammar_has, defScope s_Grammar_has, [], []⟩
def d_Grammar_rules_of : He.DefD := ⟨("Grammar", some "rules_of"), "rules_of", "Grammar.rules_of", defArgs s_Grammar_rules_of, defBody s_Grammar_rules_of, defScope s_Grammar_rules_of, [], []⟩
def d_Grammar_rules : He.DefD := ⟨("Grammar", some "rules"), "rules", "Grammar.rules", defArgs s_Grammar_rules, defBody s_Grammar_rules, defScope s_Grammar_rules, [], []⟩
def d_law_cell_at : He.DefD := ⟨("_law_cell_at", none), "_law_cell_at", "_law_cell_at", defArgs s_law_cell_at, defBody s_law_cell_at, defScope s_law_cell_at, [], []⟩
def d_law_well : He.DefD := ⟨("_law_well", none), "_law_well", "_law_well", defArgs s_law_well, defBody s_law_well, defScope s_law_well, [], []⟩
def d_law_draw : He.DefD := ⟨("_law_draw", none), "_law_draw", "_law_draw", defArgs s_law_draw, defBody s_law_draw, defScope s_law_draw, [], []⟩
def d_law_one : He.DefD := ⟨("_law_one", none), "_law_one", "_law_one", defArgs s_law_one, defBody s_law_one, defScope s_law_one, [], []⟩
def d_law_names : He.DefD := ⟨("_law_names", none), "_law_names", "_law_names", defArgs s_law_names, defBody s_law_names, defScope s_law_names, [], []⟩
def d_law_signs : He.DefD := ⟨("_law_signs", none), "_law_signs", "_law_signs", defArgs s_law_signs, defBody s_law_signs, defScope s_law_signs, [], []⟩
def d_law_mixed : He.DefD := ⟨("_law_mixed", none), "_law_mixed", "_law_mixed", defArgs s_law_mixed, defBody s_law_mixed, defScope s_law_mixed, [], []⟩
def d_law_rules : He.DefD := ⟨("_law_rules", none), "_law_rules", "_law_rules", defArgs s_law_rules, defBody s_law_rules, defScope s_law_rules, [], []⟩
def d_law_first_right : He.DefD := ⟨("_law_first_right", none), "_law_first_right", "_law_first_right", defArgs s_law_first_right, defBody s_law_first_right, defScope s_law_first_right, [], []⟩
def d_law_word_right : He.DefD := ⟨("_law_word_right", none), "_law_word_right", "_law_word_right", defArgs s_law_word_right, defBody s_law_word_right, defScope s_law_word_right, [], []⟩
def d_law : He.DefD := ⟨("law", none), "law", "law", defArgs s_law, defBody s_law, defScope s_law, [], []⟩
def fn : List He.DefD := [d_look_at_names, d_added_up, d_norms, d_norm_of, d_endless, d_lessening, d_shortest_end, d_twice_by, d_look_at_tongue, d_one_step, d_by_letters, d_runs_to, d_ends_by, d_Counts_init, d_Counts_of_row, d_Counts_reckoned, d_word_counts, d_sorted_rules, d_words_within, d_word_at, d_place_of_word, d_is_small, d_is_name, d_is_letter, d_are_names, d_Grammar_init, d_Grammar_lets_by, d_Grammar_names, d_Grammar_has, d_Grammar_rules_of, d_Grammar_rules, d_law_cell_at, d_law_well, d_law_draw, d_law_one, d_law_names, d_law_signs, d_law_mixed, d_law_rules, d_law_first_right, d_law_word_right, d_law]
def fa0 : List He.Fa := [.glo "look_at_names", .glo "added_up", .glo "norms", .glo "norm_of", .glo "endless", .glo "lessening", .glo "shortest_end", .glo "twice_by", .glo "look_at_tongue", .glo "one_step", .glo "by_letters", .glo "runs_to", .glo "ends_by", .glo "word_counts", .glo "sorted_rules", .glo "words_within", .glo "word_at", .glo "place_of_word", .glo "is_small", .glo "is_name", .glo "is_letter", .glo "are_names", .glo "_law_cell_at"]
def fa1 : List He.Fa := [.glo "_law_well", .glo "_law_draw", .glo "_law_one", .glo "_law_names", .glo "_law_signs", .glo "_law_mixed", .glo "_law_rules", .glo "_law_first_right", .glo "_law_word_right", .glo "law", .free "len", .free "set", .free "sorted", .free "sum", .free "min", .free "all", .free "dict", .free "list", .free "tuple", .free "range", .free "enumerate", .free "int", .int "MOST_NAMES" 6]
def fa2 : List He.Fa := [.int "MOST_RULES" 4, .int "MOST_ROW" 3, .str "SMALL" "abcdefghijklmnopqrstuvwxyz", .glo "Counts", .cls "Counts", .mkr "Counts", .noat "Counts" "grammar", .noat "Counts" "found", .meth "Counts" "of_row", .meth "Counts" "reckoned", .glo "Grammar", .cls "Grammar", .mkr "Grammar", .noat "Grammar" "known", .noat "Grammar" "stored", .noat "Grammar" "order", .meth "Grammar" "lets_by", .meth "Grammar" "names", .meth "Grammar" "has", .meth "Grammar" "rules_of"]
def fa : List He.Fa := fa0 ++ (fa1 ++ (fa2))
def tf : List He.Defn := [("sorted_rules", none), ("shortest_end", none)]
def loose1 : List PySem.Str := ["GoError", "NoGrammar", "NoName", "Endless", "NotSimple", "look_at_names", "added_up", "norms", "norm_of", "endless", "lessening", "shortest_end", "twice_by", "look_at_tongue", "one_step", "by_letters", "runs_to", "ends_by", "Counts", "word_counts", "sorted_rules", "words_within", "word_at", "place_of_word"]
def loose2 : List PySem.Str := ["SMALL", "MOST_NAMES", "MOST_RULES", "MOST_ROW", "is_small", "is_name", "is_letter", "are_names", "Grammar", "_law_cell_at", "_law_well", "_law_draw", "_law_one", "_law_names", "_law_signs", "_law_mixed", "_law_rules", "_law_first_right", "_law_word_right"]
def loose : List PySem.Str := loose1 ++ loose2
end K60
namespace K60
open PySem PySem.Spec PyProof.Rows L2
abbrev RR : PySem.W.OpenRow := PySem.W.OpenLaw.row PySem.Challenge.rw_samegoing_k60_whole_words_by_first_lette
abbrev ex1 : PySem.W.Frag → Bool := fun K => decide ((He.cT K ("sorted_rules", none)).2 ≠ (He.cT K ("shortest_end", none)).2)
abbrev hk : PySem.W.Hook := He.hookX 5 fa fn [] tf ex1
def ob (s : PySem.W.SharedT) : He.AlX := He.obsX 5 fa fn [] tf ex1 (HandSHeadRun.getT s)
theorem ob_eq (s : PySem.W.SharedT) : ob s = hk.obs s.abs := He.obsX_eq (HandSHeadRun.getT_eq s)
theorem run (w : World) : HandSHeadRun.RunEq RR (PySem.W.view RR.prog [49]) hk ob 4000 loose w := by
  intro os
  kernel_rfl
end K60
namespace K60
open PySem PySem.Spec PyProof.Rows L2
section
variable {X : Cx}
theorem each_of_vals {xs : List Str} : ∀ {us : List Value}, Vals (xs.map V.str) us → PySem.W.EachIs (fun v (x : Str) => RelV (.str x) v) us xs := by
  induction xs with
  | nil => intro us r; cases r; exact .nil
  | cons x xs ih =>
    intro us r
    cases r with
    | cons h t => exact .cons h (ih t)
theorem vals_of_each {xs : List Str} : ∀ {us : List Value}, PySem.W.EachIs (fun v (x : Str) => RelV (.str x) v) us xs → Vals (xs.map V.str) us := by
  induction xs with
  | nil => intro us r; cases r; exact .nil
  | cons x xs ih =>
    intro us r
    cases r with
    | cons h t => exact .cons h (ih t)
theorem reads_str {h : Heap} {x : Str} {v : Value} (r : RelV (.str x) v) : ∃ as, Reads h v (.str x) as := by
  obtain ⟨t, rfl⟩ := r
  exact ⟨[], .str x t⟩
def leS (a b : Str) : Bool := decide (a.cps.toList ≤ b.cps.toList)
/-- sorted(xs) of texts, of any number -/
def rSortedT (K : PySem.W.Frag) : List V → Hp → VK → Prop := fun vs H Q => ∃ (a : Addr) (xs : List Str), vs = [V.ref a] ∧ SqL K H a (xs.map V.str) ∧ ∀ p, H p = none → Q (.ref p) (upd H p (.lst ((xs.mergeSort leS).map V.str)))
theorem cr_sortedT (hu : X.A.units + 64 < cLine) : CallR X (.builtin "sorted") (rSortedT X.K) := by
  intro pins s σ H vs us Q I r h
  obtain ⟨a, xs, rfl, hs, q⟩ := h
  obtain ⟨its, rv, hl, hz⟩ := I.list hs
  rw [Vals.ref1 r]
  have e := each_of_vals rv
  refine PySem.W.sorted_data (enc := fun x : Str => PyData.str x) hl.isList e (e.mono fun v x r => reads_str r) (PySem.W.AllAlike.of fun b b' => by simp only [PySem.W.alike]) (PySem.W.Sortable.others fun b => ⟨(fun z => by cases z), (fun xs z => by cases z)⟩) (by rw [List.length_map] at hz; exact hz)
    (fun b _ => by simp only [PyData.depth]; omega) fun out hlen e' => ?_
  rw [PySem.W.dataLe_str (fun x => x)] at e'
  obtain ⟨ep, he'⟩ := PyProof.Rows.sortedAll_at s.heap its out.toArray
  have hlen2 : ((xs.mergeSort leS).map V.str).length ≤ sizeLine := by
    rw [List.length_map, List.length_mergeSort]
    rw [List.length_map] at hz
    exact hz
  exact ⟨.ref _, upd H (s.heap.objs.size + 1) (.lst ((xs.mergeSort leS).map V.str)), I.laid (t' := s.toks) (fun _ _ => PyProof.Rows.sortedAll_old) (Nat.le_succ _) ⟨hlen2, _, ep, vals_of_each e', he'⟩, rfl, q _ (I.hok.fresh (Nat.le_succ _))⟩
/-- min(xs) of texts: the first of the least -/
def rMinT (K : PySem.W.Frag) : List V → Hp → VK → Prop := fun vs H Q => ∃ (a : Addr) (x : Str) (xs : List Str), vs = [V.ref a] ∧ SqL K H a ((x :: xs).map V.str) ∧ Q (.str (PySem.W.minOf x xs)) H
theorem holdAll_strs {h : Heap} {xs : List Str} : ∀ {us : List Value}, Vals (xs.map V.str) us → PySem.W.HoldAll h us xs := by
  induction xs with
  | nil => intro us r; cases r; exact ⟨[], .nil⟩
  | cons x xs ih =>
    intro us r
    cases r with
    | cons h t =>
      obtain ⟨as, h1⟩ := reads_str h
      obtain ⟨bs, h2⟩ := ih t
      exact ⟨as ++ bs, .cons h1 h2⟩
theorem cr_minT (hc : X.calm = true) (hu : X.A.units + 64 < cLine) : CallR X (.builtin "min") (rMinT X.K) := by
  intro pins s σ H vs us Q I r h
  obtain ⟨a, x, xs, rfl, hs, q⟩ := h
  obtain ⟨its, rv, hl, hz⟩ := I.list hs
  rw [Vals.ref1 r]
  refine PySem.W.min_list_datum (I.ok.hd hc) hl.isList (holdAll_strs rv) (by show _ + 1 + 0 < _; omega) fun i v h' tk hi hv hk => ?_
  obtain ⟨as, hr⟩ := hv
  have hr : Reads h' v (.str (PySem.W.minOf x xs)) as := hr
  cases hr with
  | str _ t => exact ⟨.str _, H, I.kept hk, ⟨_, rfl⟩, q⟩
end
end K60
namespace K60
open PySem PySem.Spec PyProof.Rows L2 LamX
/-- a lambda of one parameter, run at the very state: all that stood is kept -/
theorem lam_run {prog : Program} {w : World} {A : Around} {s : Shared} {f c' : Addr} {q : Str} {params : Arguments} {body : Expr} {scope : Scope} {cl : List (Str × Addr)} {pm ctv v : Value} {x : Str} {d : PyData}
    (hroom : A.depth < recursionLimit) (hf : s.heap.get? f = some (PySem.W.kla_obj "<lambda>" q params body scope cl pm c' ctv)) (hcd : s.heap.CodeRec (.ref c') q) (lim : s.heap.NoLimit)
    (hbind : bindArgs (PySem.W.kla_fn "<lambda>" q params body scope cl pm (.ref c') ctv) ⟨[v], []⟩ = pure [(x, v)]) (hloc : scope.names.lookup x = some .local) (hcell : ∀ y ∈ scope.names, y.2 ≠ .cell) (hk : scope.kind = .function) (hco : scope.isCoroutine = false) (hgen : scope.isGenerator = false)
    (hbody : ∀ (h₁ : Heap) (tk : Nat), h₁.Ns s.heap.objs.size (fun y => ([(x, v)] : List (Str × Value)).reverse.lookup y) → (∀ b o, s.heap.get? b = some o → h₁.get? b = some o) →
      wpAny (model prog w) (A.deeper (PySem.W.envX q scope s.heap.objs.size f (.ref c') cl)) (eval body (PySem.W.envX q scope s.heap.objs.size f (.ref c') cl))
        (fun u s' => (∃ tk', s' = { s with heap := h₁, toks := tk' }) ∧ Reads h₁ u d []) (fun _ _ => False) { s with heap := h₁, toks := tk }) :
    wpAny (model prog w) A (call (.ref f) [v]) (PySem.W.KeyPure d s) (fun _ _ => False) s := by
  have rc : codeAny (model prog w) A (.call (.ref f) ⟨[v], []⟩) (fun r s' => match r with | .ok (.ret u) => PySem.W.KeyPure d s u s' | _ => False) s := by
    refine PySem.W.kla_callFunE hroom hf rfl hco hgen rfl hcd ?_
    rw [hbind]
    refine wpAny_pure (wpAny_newFunctionEnv hcell (fun y hy => by rw [List.mem_singleton.mp hy]; exact hloc) (fun h₁ hns hsb => ⟨lim.fresh _ hsb, ?_⟩) hk)
    show codeAny _ _ (.expr body (PySem.W.envX q scope s.heap.objs.size f (.ref c') cl)) _ _
    have hk₁ : ∀ b o, s.heap.get? b = some o → h₁.get? b = some o := fun b o e => hsb.extBut b o (Nat.ne_of_lt (Heap.lt_size e)) (Heap.get?_push_of_some _ e)
    refine PySem.W.kla_codeExpr (wpAny_mono (hbody h₁ _ hns hk₁) (fun u s' hq => ?_) fun e s' hq => hq.elim)
    obtain ⟨⟨tk', rfl⟩, hr⟩ := hq
    exact ⟨h₁, tk', rfl, hk₁, hr⟩
  refine wpAny_call (codeAny_mono rc fun r s' hq => ?_)
  cases r with
  | error e => exact hq.elim
  | ok fl =>
    cases fl with
    | ret u => exact hq
    | next => exact hq.elim
    | brk => exact hq.elim
    | cont => exact hq.elim
section
variable {X : Cx}
/-- each call of the made lambda gives the key d of the item x that r tells, whatever more stands -/
def KeyOk (X : Cx) (params : Arguments) (body : Expr) (scope : Scope) (r : L2.St → Hp → V → PyData → Prop) : Prop :=
  ∀ (pins : List (Addr × Obj)) (s : Shared) (σ : L2.St) (H : Hp) (f c' : Addr) (pm ctv : Value), Inv X pins σ H s →
    s.heap.get? f = some (PySem.W.kla_obj "<lambda>" (X.env.qual ++ "<lambda>") params body scope (cloFrom X.env.cells scope.names []) pm c' ctv) → s.heap.CodeRec (.ref c') (X.env.qual ++ "<lambda>") →
    ∀ (x : V) (v : Value) (d : PyData), RelV x v → r σ H x d → ∀ (h : Heap) (tk : Nat), (∀ b o, s.heap.get? b = some o → h.get? b = some o) →
      wpAny (model X.prog X.w) X.A.in1.in1 (call (.ref f) [v]) (PySem.W.KeyPure d { s with heap := h, toks := tk }) (fun _ _ => False) { s with heap := h, toks := tk }
def tSortKey (K : PySem.W.Frag) (T : List (Addr × Str)) (r : L2.St → Hp → V → PyData → Prop) (te : TE) : TE := fun σ H Q => te σ H fun x H1 => Tabs T H1 ∧ ∀ H2, ExtN H1 H2 → Tabs T H2 → ∃ (a : Addr) (bs : List (V × PyData)), x = .ref a ∧ SqL K H2 a (bs.map (·.1)) ∧
  (∀ b ∈ bs, r σ H2 b.1 b.2) ∧ PySem.W.AllAlike (bs.map (·.2)) ∧ PySem.W.Sortable (bs.map (·.2)) ∧ (∀ b ∈ bs, b.2.depth ≤ 1) ∧
  ∀ p, H2 p = none → Q (.ref p) (upd H2 p (.lst ((bs.mergeSort (PySem.W.dataLe false (·.2))).map (·.1))))
theorem eachV : ∀ {bs : List (V × PyData)} {us : List Value}, Vals (bs.map (·.1)) us → PySem.W.EachIs (fun v (b : V × PyData) => RelV b.1 v) us bs
  | [], us, r => by
    have r' : Vals [] us := r
    cases r'
    exact .nil
  | b :: bs, us, r => by
    have r' : Vals (b.1 :: bs.map (·.1)) us := r
    cases r' with
    | cons h t => exact .cons h (eachV t)
theorem vals_eachV : ∀ {bs : List (V × PyData)} {us : List Value}, PySem.W.EachIs (fun v (b : V × PyData) => RelV b.1 v) us bs → Vals (bs.map (·.1)) us
  | _, _, .nil => .nil
  | _, _, .cons h t => .cons h (vals_eachV t)
theorem pe_sortKey {T : List (Addr × Str)} {r : L2.St → Hp → V → PyData → Prop} {c P : Addr} {e : Expr} {te : TE} {params : Arguments} {body : Expr} {scope : Scope} {p lpos kpos pos : Pos}
    (hg : Gl X "sorted") (hm : X.mg "sorted" = none) (ha : PA X [e] (tCons te tNil)) (TB : TabB X.base X.mg c P) (hcode : X.env.code = .ref c) (hmT : (P, X.env.qual ++ "<lambda>") ∈ T) (huT : ∀ p ∈ T, p.1 = P → p.2 = X.env.qual ++ "<lambda>")
    (hdef : defaultsOf params X.env = ([], [])) (hfree : ∀ y ∈ scope.names, y.2 = .free → X.env.scope.names.lookup y.1 = some .cell ∨ X.env.scope.names.lookup y.1 = some .free) (hu : X.A.units + 64 < cLine)
    (hkey : KeyOk X params body scope r)
    (he : backTo pos (starEach [e] X.env) = (false, eval e X.env) :: backTo pos (starEach [] X.env) := by rfl) (hpl : (backTo pos (starEach [e] X.env)).any (·.1) = false := by rfl) :
    PE X (.Call (.Name "sorted" p) [e] [⟨some "key", .Lambda params body scope lpos, kpos⟩] pos) (tSortKey X.K T r te) := by
  refine ⟨fun pins s σ H Q I h => ?_⟩
  refine wpAny_Call_Name_kw (ld_blt (u := .builtin "sorted") I hg hm (by decide +kernel) ?_ (by decide) (by decide))
  let R : List V → Hp → Prop := fun vs H1 => match vs with
    | [x] => Tabs T H1 ∧ ∀ H2, ExtN H1 H2 → Tabs T H2 → ∃ (a : Addr) (bs : List (V × PyData)), x = .ref a ∧ SqL X.K H2 a (bs.map (·.1)) ∧
      (∀ b ∈ bs, r σ H2 b.1 b.2) ∧ PySem.W.AllAlike (bs.map (·.2)) ∧ PySem.W.Sortable (bs.map (·.2)) ∧ (∀ b ∈ bs, b.2.depth ≤ 1) ∧
      ∀ p, H2 p = none → Q (.ref p) (upd H2 p (.lst ((bs.mergeSort (PySem.W.dataLe false (·.2))).map (·.1))))
    | _ => False
  refine PyProof.Rows.callWith_kw (thn (ha.run pos pins s σ H R I h) fun us s1 ⟨vs, H1, I1, r1, q1⟩ => ?_) he hpl rfl rfl
  obtain ⟨x, rfl⟩ : ∃ x, vs = [x] := by
    match vs, q1 with
    | [x], _ => exact ⟨x, rfl⟩
  obtain ⟨u, rfl, r2⟩ := vals1 r1
  obtain ⟨hT, q1⟩ := q1
  show wpAny _ _ (evalAll [do let v ← eval (.Lambda params body scope lpos) X.env; standAt pos; pure v]) _ _ s1
  have hfr : ∀ y ∈ scope.names, y.2 = .free → ∃ c, X.env.cells.lookup y.1 = some c := fun y hy e => (hfree y hy e).elim (fun z => I1.ok.has _ (.inl z)) fun z => I1.ok.has _ (.inr z)
  refine wpAny_evalAll_cons (wpAny_bind (lam_make2 I1 TB hcode hmT huT hT hdef hfr fun f c' pm ctv H2 s2 I2 eN T2 hf hfn hfs hco => wpAny_bind (wpAny_standAt (wpAny_pure (wpAny_evalAll_nil ?_)))))
  obtain ⟨a, bs, rfl, hs, hr, hal, hsk, hdp, q⟩ := q1 H2 eN T2
  obtain rfl : u = Value.ref a := r2
  obtain ⟨its, rv, hl, hz⟩ := I2.list hs
  have e := eachV rv
  obtain ⟨⟨oc, vs, t, e1, e2, e3⟩, _, _⟩ := I2.hok c' _ hco
  have rec_ : s2.heap.CodeRec (.ref c') (X.env.qual ++ "<lambda>") := ⟨c', oc, vs, t, rfl, e1, e2, e3⟩
  show wpAny _ _ (call (.builtin "sorted") [.ref a] [(Str.ofString "key", .ref f)]) _ _ s2
  refine PySem.W.sorted_key_data (k := fun b : V × PyData => b.2) (b := false) hl.isList e hal hsk (by rw [List.length_map] at hz; exact hz) (fun b hb => by have := hdp b hb; omega) (PyProof.Rows.ksk_s1 _ _) (fun _ => PyProof.Rows.ksk_l1 _ _) (fun a => PyProof.Rows.ksk_t1 f a)
    (fun v b hR hb h tk hk => hkey pins s2 σ H2 f c' pm ctv I2 hf rec_ b.1 v b.2 hR (hr b hb) h tk hk) fun out cc h' tk hk hn ho hlen e' => ?_
  have hlen2 : ((bs.mergeSort (PySem.W.dataLe false (·.2))).map (·.1)).length ≤ sizeLine := by
    rw [List.length_map, List.length_mergeSort]
    rw [List.length_map] at hz
    exact hz
  exact ⟨.ref _, upd H2 (s2.heap.objs.size + 1) (.lst ((bs.mergeSort (PySem.W.dataLe false (·.2))).map (·.1))), I2.laid hk (Nat.le_succ _) ⟨hlen2, _, cc, vals_eachV e', ho⟩, rfl, q _ (I2.hok.fresh (Nat.le_succ _))⟩
end
end K60
namespace K60
open PySem PySem.Spec PyProof.Rows L2 LamX
section
variable {X : Cx} {params : Arguments} {scope : Scope} {x z : Str} {pN pC pS : Pos} {k i : Nat}
structure LamP (params : Arguments) (body : Expr) (scope : Scope) (x : Str) : Prop where
  bind : ∀ (q : Str) (cl : List (Str × Addr)) (pm cv ctv v : Value), bindArgs (PySem.W.kla_fn "<lambda>" q params body scope cl pm cv ctv) ⟨[v], []⟩ = pure [(x, v)]
  loc : scope.names.lookup x = some .local
  cell : ∀ y ∈ scope.names, y.2 ≠ .cell
  kind : scope.kind = .function
  co : scope.isCoroutine = false
  gen : scope.isGenerator = false
/-- lambda x: x[0], of tuples whose first item is a text -/
theorem keyOk_fst (L : LamP params (.Subscript (.Name x pN) (.Constant (.int 0) k pC) pS) scope x) (hr : X.A.depth + 5 < recursionLimit) (hd : (x == ("__debug__" : Str)) = false) :
    KeyOk X params (.Subscript (.Name x pN) (.Constant (.int 0) k pC) pS) scope (fun _ H y d => ∃ (t : Addr) (l : Str) (xs : List V), y = .ref t ∧ H t = some (.tup (.str l :: xs)) ∧ d = .str l) := by
  intro pins s σ H f c' pm ctv I hf hrec y v d ry hy h tk hk
  obtain ⟨t, l, xs, rfl, ht, rfl⟩ := hy
  obtain rfl : v = Value.ref t := ry
  obtain ⟨c2, oc, vs, tq, e1, e2, e3, e4⟩ := hrec
  refine lam_run (s := { s with heap := h, toks := tk }) (x := x) (by show X.A.depth < _; omega) (hk _ _ hf) ⟨c2, oc, vs, tq, e1, hk _ _ e2, e3, e4⟩ (I.nolimit.keeps hk) (L.bind _ _ _ _ _ _) L.loc L.cell L.kind L.co L.gen fun h₁ tk1 hns hk1 => ?_
  obtain ⟨hz, its, rv, ob, ho, hc, n, hdt⟩ := I.hok t _ ht
  obtain ⟨u, us, rfl, ru⟩ : ∃ u us, its = u :: us ∧ RelV (.str l) u := by
    cases rv with
    | cons h1 h2 => exact ⟨_, _, rfl, h1⟩
  obtain ⟨tu, rfl⟩ := ru
  have pl : IsTup h₁ t (Value.str l tu :: us).toArray := ⟨ob, hk1 _ _ (hk _ _ ho), hc, n, hdt⟩
  refine subD_of slot_tuple_getitem.lookup (fun _ _ => rfl) ?_
  refine wpAny_Name (wpAny_loadName_local (m := fun y => ([(x, Value.ref t)] : List (Str × Value)).reverse.lookup y) (v := .ref t) L.kind L.loc hns (by simp) ?_) hd
  refine wpAny_Constant_int ⟨pl.typeIs, ?_⟩
  exact PyProof.Rows.getItem_tuple (j := 0) pl (by decide) (by decide) (by simp [seqIndex?]) (by simp) ⟨⟨_, rfl⟩, .str l tu⟩
/-- lambda x: z[x], z a captured dict, x a text with an int there -/
theorem keyOk_get (L : LamP params (.Subscript (.Name z pC) (.Name x pN) pS) scope x) (hr : X.A.depth + 5 < recursionLimit) (hu : X.A.units + 64 < cLine) (hd : (x == ("__debug__" : Str)) = false) (hdz : (z == ("__debug__" : Str)) = false) (hcz : (z == ("__classdict__" : Str)) = false)
    (hN : X.N[i]? = some z) (hz : scope.names.lookup z = some .free) (hv : X.env.scope.names.lookup z = some .cell) :
    KeyOk X params (.Subscript (.Name z pC) (.Name x pN) pS) scope (fun σ H y d => ∃ (a : Addr) (kvs : List (Key × V)) (m : Str) (n : Int), σ[i]? = some (some (.ref a)) ∧ H a = some (.dK kvs) ∧ y = .str m ∧ valV kvs (.inr m) = some (.int n) ∧ d = .int n) := by
  intro pins s σ H f c' pm ctv I hf hrec y v d ry hy h tk hk
  obtain ⟨a, kvs, m, n, hσ, ha, rfl, hval, rfl⟩ := hy
  obtain ⟨tv, rfl⟩ := ry
  obtain ⟨c2, oc, vs, tq, e1, e2, e3, e4⟩ := hrec
  refine lam_run (s := { s with heap := h, toks := tk }) (x := x) (by show X.A.depth < _; omega) (hk _ _ hf) ⟨c2, oc, vs, tq, e1, hk _ _ e2, e3, e4⟩ (I.nolimit.keeps hk) (L.bind _ _ _ _ _ _) L.loc L.cell L.kind L.co L.gen fun h₁ tk1 hns hk1 => ?_
  -- the captured cell
  obtain ⟨m0, hn0, hl⟩ := I.loc
  obtain ⟨u, ru, lk⟩ := hl i z (.ref a) hN hσ (.inr (.inl hv))
  obtain rfl : u = Value.ref a := ru
  obtain ⟨c, hc, hcell⟩ : ∃ c, X.env.cells.lookup z = some c ∧ s.heap.IsCell c (some (.ref a)) := by
    rcases lk with ⟨hk', _⟩ | ⟨_, c, hc, hcell⟩
    · have hk' : X.env.scope.names.lookup z = some .local := hk'
      rw [hv] at hk'; cases hk'
    · exact ⟨c, hc, hcell⟩
  have hcl : (cloFrom X.env.cells scope.names []).lookup z = some c := by
    obtain ⟨c3, h3⟩ := mem_lookup (cloFrom_has (cells := X.env.cells) (acc := []) (PySem.mem_of_lookup hz))
    rcases cloFrom_mem (PySem.mem_of_lookup h3) with hm | ⟨_, h2⟩
    · cases hm
    · rw [h3, h2, hc]; rfl
  obtain ⟨oc2, hoc2, hdc2⟩ := hcell
  have hcell1 : h₁.IsCell c (some (.ref a)) := ⟨oc2, hk1 _ _ (hk _ _ hoc2), hdc2⟩
  -- the dict
  obtain ⟨z1, hsys, vs2, rel, ob, es, ep, ho, dd⟩ := I.hok a _ ha
  have dd1 : h₁.DictOf (mixKind X.prog X.w) a vs2 := ⟨ob, es, ep, hk1 _ _ (hk _ _ ho), dd⟩
  obtain ⟨w', hw, rw'⟩ := RelO.some_of (v := .int n) (o := valueAt vs2 (.inr m)) (by rw [← hval]; exact rel.val _)
  obtain ⟨tn, rfl⟩ := rw'
  refine subD_of PySem.F.slot_dict_getitem.lookup (fun _ _ => rfl) ?_
  refine wpAny_Name (wpAny_loadName_free L.kind hz hcl hcell1 ?_ hcz) hdz
  refine wpAny_Name (wpAny_loadName_local (m := fun y => ([(x, Value.str m tv)] : List (Str × Value)).reverse.lookup y) (v := .str m tv) L.kind L.loc hns (by simp) ⟨dd1.typeIs, ?_⟩) hd
  exact wpAny_getItem_of (knd := mixKind X.prog X.w) (k := .inr m) (mixKind_str _ _ _ _) dd1.mapOf hw ⟨⟨_, rfl⟩, .int n tn⟩
end
end K60
namespace K60
open PySem PySem.Spec PyProof.Rows L2
/-! a dict whose keys are (a tuple of texts, an int) -/
abbrev Ent := List (NestedKey × Addr × Value)
def EntO (P : Program) (w : World) (d : Addr) (xs : Ent) : HO := .ext fun h => xs.length ≤ sizeLine ∧ (d == sysModules) = false ∧ ∃ o es ep, h.get? d = some o ∧ o.ExactDict ∧ o.data = .dict es ep ∧ es.toList = xs.map (entryOfKey (nestedKind P w)) ∧ (xs.map (·.1)).Nodup
def keyOf (row : List Str) (n : Int) : NestedKey := .tup [.tup (row.map .text), .num n]
/-- the tuples of a key stand -/
def KeyAt (H : Hp) (row : List Str) (n : Int) (b : Addr) : Prop := ∃ r, H b = some (.tup [.ref r, .int n]) ∧ H r = some (.tup (row.map V.str))
theorem keyOf_inj {row row' : List Str} {n n' : Int} (h : keyOf row n = keyOf row' n') : row = row' ∧ n = n' := by
  unfold keyOf at h
  injection h with h
  injection h with h1 h2
  injection h1 with h1
  injection h2 with h2 _
  injection h2 with h2
  refine ⟨?_, h2⟩
  clear h2
  induction row generalizing row' with
  | nil => cases row' with
    | nil => rfl
    | cons y r => cases h1
  | cons x r ih => cases row' with
    | nil => cases h1
    | cons y r' =>
      simp only [List.map_cons, List.cons.injEq, NestedKey.text.injEq] at h1
      rw [h1.1, ih h1.2]
theorem nested_texts {h : Heap} : ∀ {row : List Str} {us : List Value}, Vals (row.map V.str) us → NestedAll h (row.map .text) us
  | [], us, r => by
    have r' : Vals [] us := r
    cases r'
    exact .nil
  | x :: row, us, r => by
    have r' : Vals (V.str x :: row.map V.str) us := r
    cases r' with
    | cons h1 t =>
      obtain ⟨tk, rfl⟩ := h1
      exact .cons (.text x tk) (nested_texts t)
theorem depth_texts : ∀ row : List Str, NestedKey.depthAll (row.map .text) ≤ 1
  | [] => by simp [NestedKey.depthAll]
  | x :: row => by
    have := depth_texts row
    simp only [List.map_cons, NestedKey.depthAll, NestedKey.depth]
    omega
theorem key_is {P : Program} {w : World} {H : Hp} {h : Heap} {row : List Str} {n : Int} {b : Addr} (ok : HOk P w H h) (k : KeyAt H row n b) : (nestedKind P w).is h (keyOf row n) b := by
  obtain ⟨r, h1, h2⟩ := k
  obtain ⟨_, its, rv, o, ho, hc, m, hd⟩ := ok b _ h1
  obtain ⟨_, its2, rv2, o2, ho2, hc2, m2, hd2⟩ := ok r _ h2
  obtain ⟨u1, u2, rfl, ra, rb⟩ := vals2 rv
  obtain rfl : u1 = Value.ref r := ra
  obtain ⟨tk, rfl⟩ := rb
  refine ⟨.tup ho hc hd (.cons (.tup ho2 hc2 hd2 (nested_texts (by simpa using rv2))) (.cons (.int n tk) .nil)), ?_⟩
  have := depth_texts row
  simp only [keyOf, NestedKey.depth, NestedKey.depthAll]
  omega
/-- every key of xs stands -/
def KeysAt (H : Hp) (xs : Ent) : Prop := ∀ x ∈ xs, ∃ row n, x.1 = keyOf row n ∧ KeyAt H row n x.2.1
section
variable {X : Cx} {pins : List (Addr × Obj)} {σ : L2.St} {H : Hp} {s : Shared} {d b : Addr} {xs : Ent} {row : List Str} {n : Int}
theorem entO_at (ok : HOk X.prog X.w H s.heap) (e : H d = some (EntO X.prog X.w d xs)) (hk : KeysAt H xs) : s.heap.DictOfH (nestedKind X.prog X.w) d xs ∧ xs.length ≤ sizeLine ∧ (d == sysModules) = false := by
  obtain ⟨⟨z, hd, o, es, ep, h1, h2, h3, h4, h5⟩, _, _⟩ := ok d _ e
  refine ⟨⟨o, es, ep, h1, h2, h3, h4, fun x hx => ?_, h5⟩, z, hd⟩
  obtain ⟨row, n, e1, k⟩ := hk x hx
  rw [e1]
  exact key_is ok k
theorem ent_ok {P : Program} {w : World} {H' : Hp} {h : Heap} {xs : Ent} (z : xs.length ≤ sizeLine) (hd : (d == sysModules) = false) (hm : h.DictOfH (nestedKind P w) d xs) : ObjOk P w H' h d (EntO P w d xs) := by
  obtain ⟨o, es, ep, h1, h2, h3, h4, _, h5⟩ := hm
  exact ⟨⟨z, hd, o, es, ep, h1, h2, h3, h4, h5⟩, ⟨o, h1⟩, fun h1' h2' ⟨z', hd', o', es', ep', a1, a2, a3, a4, a5⟩ st => ⟨z', hd', o', es', ep', st _ a1, a2, a3, a4, a5⟩⟩
end
def tENew (P : Program) (w : World) : TE := fun _ H Q => ∀ p, H p = none → Q (.ref p) (upd H p (EntO P w p []))
def tENotIn (P : Program) (w : World) (ty td : TE) : TE := fun σ H Q => ty σ H fun y H1 => td σ H1 fun x H2 => ∃ d xs b row n, x = .ref d ∧ y = .ref b ∧ H2 d = some (EntO P w d xs) ∧ KeysAt H2 xs ∧ KeyAt H2 row n b ∧ Q (.bl (!(atKey xs (keyOf row n)).isSome)) H2
def tEGet (P : Program) (w : World) (td ty : TE) : TE := fun σ H Q => td σ H fun x H1 => ty σ H1 fun y H2 => ∃ d xs b row n p v, x = .ref d ∧ y = .ref b ∧ H2 d = some (EntO P w d xs) ∧ KeysAt H2 xs ∧ KeyAt H2 row n b ∧ atKey xs (keyOf row n) = some p ∧ RelV v p.2 ∧ Q v H2
def sEPut (P : Program) (w : World) (td ty tv : TE) : TS := fun D σ H => tv σ H fun v H1 => td σ H1 fun x H2 => ty σ H2 fun y H3 => ∃ d xs b row n, x = .ref d ∧ y = .ref b ∧ H3 d = some (EntO P w d xs) ∧ KeysAt H3 xs ∧ KeyAt H3 row n b ∧ xs.length < sizeLine ∧
  ∀ u, RelV v u → D.nx σ (upd H3 d (EntO P w d (storedH xs (keyOf row n) b u)))
theorem length_storedH (xs : Ent) (k : NestedKey) (a : Addr) (v : Value) : (storedH xs k a v).length ≤ xs.length + 1 := by
  unfold storedH
  split <;> simp
section
variable {X : Cx} {i o value : Expr} {pos pos' : Pos} {td ty tv : TE}
theorem room_nested {A : Around} (hu : A.units + 64 < cLine) : (nestedKind X.prog X.w).room A.in1 := by
  show A.units + 1 + 8 < cLine
  omega
theorem pe_enew : PE X (.Dict [] [] pos) (tENew X.prog X.w) := ⟨fun pins s σ H Q I h => by
  refine wpAny_Dict_empty ?_
  have hb := Inv.big I
  have hn : (s.heap.objs.size == sysModules) = false := beq_eq_false_iff_ne.mpr (Nat.ne_of_gt hb)
  exact ⟨.ref s.heap.objs.size, upd H s.heap.objs.size (EntO X.prog X.w s.heap.objs.size []), I.laid (t' := s.toks) (fun b u e => Heap.get?_push_of_some _ e) (Nat.le_refl _) (ent_ok (Nat.zero_le _) hn (Heap.DictOfH.new s.heap)), rfl, h _ (I.hok.fresh (Nat.le_refl _))⟩⟩
theorem pc_enotin (hu : X.A.units + 64 < cLine) (hi : PE X i ty) (ho : PE X o td) : PC X .NotIn i o (tENotIn X.prog X.w ty td) := by
  refine ⟨fun pins s σ H Q I h => ?_⟩
  refine thn (hi.run pins s σ H _ I h) fun iv s1 ⟨y, H1, I1, ry, q1⟩ => thn (ho.run pins s1 σ H1 _ I1 q1) fun u s2 ⟨x, H2, I2, rx, d, xs, b, row, n, ex, ey, hd, hks, hk, q2⟩ => ?_
  subst ex ey
  obtain rfl : u = Value.ref d := rx
  obtain rfl : iv = Value.ref b := ry
  obtain ⟨hm, _, hs⟩ := entO_at I2.hok hd hks
  have hm' : s2.heap.DictKeyed (nestedKind X.prog X.w) d (pairsH xs) := ⟨xs, hm, rfl⟩
  refine notIn_keyed (room_nested hu) (key_is I2.hok hk) hs hm' ?_
  rw [valueAt_pairsH, Option.isSome_map]
  exact ⟨.bl _, H2, I2.tok _, rfl, q2⟩
theorem pe_eget (hu : X.A.units + 64 < cLine) (ho : PE X o td) (hi : PE X i ty) (hs : NoSl i) : PE X (.Subscript o i pos) (tEGet X.prog X.w td ty) := by
  refine ⟨fun pins s σ H Q I h => ?_⟩
  refine subD_of PySem.F.slot_dict_getitem.lookup hs (thn (ho.run pins s σ H _ I h) fun u s1 ⟨x, H1, I1, rx, q1⟩ => thn (hi.run pins s1 σ H1 _ I1 q1) fun iv s2 ⟨y, H2, I2, ry, d, xs, b, row, n, p, v, ex, ey, hd, hks, hk, hp, rv, q2⟩ => ?_)
  subst ex ey
  obtain rfl : u = Value.ref d := rx
  obtain rfl : iv = Value.ref b := ry
  obtain ⟨hm, _, _⟩ := entO_at I2.hok hd hks
  exact ⟨hm.typeIs, wpAny_getItem_heap (room_nested hu) (key_is I2.hok hk) hm hp ⟨v, H2, I2.tok _, rv, q2⟩⟩
theorem ps_eput (hu : X.A.units + 64 < cLine) (ho : PE X o td) (hi : PE X i ty) (hv : PE X value tv) (hs : swapsWith value (some (.Subscript o i pos')) pos.line X.env = pure false) :
    PS X (.Assign [.Subscript o i pos'] value pos) (sEPut X.prog X.w td ty tv) := by
  refine ⟨fun pins s σ H D I h => ?_⟩
  refine wpAny_Assign_Subscript (thn (hv.run pins s σ H _ I h) fun r s1 ⟨v, H1, I1, rv, q1⟩ => thn (ho.run pins s1 σ H1 _ I1 q1) fun u s2 ⟨x, H2, I2, rx, q2⟩ => thn (hi.run pins s2 σ H2 _ I2 q2) fun iv s3 ⟨y, H3, I3, ry, d, xs, b, row, n, ex, ey, hd, hks, hk, hl, q3⟩ => ?_) hs
  subst ex ey
  obtain rfl : u = Value.ref d := rx
  obtain rfl : iv = Value.ref b := ry
  obtain ⟨hm, hz, hsy⟩ := entO_at I3.hok hd hks
  refine wpAny_setItem_heap (hsz := hz) (room_nested hu) (key_is I3.hok hk) hm fun h' hm' hsb => ?_
  obtain ⟨o', _, _, ho', _⟩ := id hm'
  exact ⟨σ, _, d_write (ob := EntO X.prog X.w d (storedH xs (keyOf row n) b r)) I3 (by rw [hd]; exact True.intro) hsb ⟨o', ho'⟩ (ent_ok (Nat.le_trans (length_storedH _ _ _ _) hl) hsy hm'), q3 r rv⟩
end
end K60
namespace K60
open PySem PySem.Spec PyProof.Rows L2
/-! enumerate(text) -/
def ItE (x : Str) : It := ⟨fun i _ => i < x.cps.size, fun i H v H' => ∃ T c, v = .ref T ∧ H T = none ∧ H' = upd H T (.tup [.int (i : Nat), .str ⟨#[c]⟩]) ∧ x.cps[i]? = some c, fun i _ => x.cps.size ≤ i⟩
theorem turn_enumS {P : Program} {w : World} {K : PySem.W.Frag} {elts : List Expr} {kk : Nat} {tpos : Pos} (e it : Addr) (x : Str) (t : Tok) (ty : String) (hty : ty = "str_ascii_iterator" ∨ ty = "str_iterator") :
    Turn P w K (.Tuple elts kk tpos) (ItE x) [e, it] e (fun i h => (∃ old, IsEnum h e it ((i : Nat) : Int) old) ∧ h.IsStrIter it ty x t i ∧ e ≠ it ∧ i ≤ x.cps.size) where
  mem := by simp
  obj := fun i h st b hb => by
    obtain ⟨⟨old, he⟩, ⟨o, ho, hc, hd⟩, _⟩ := st
    have e' : b = e ∨ b = it := by simpa using hb
    rcases e' with z | z
    · rw [z]; exact ⟨_, he, fun v q => nomatch q⟩
    · rw [z]; exact ⟨o, ho, fun v q => by rw [hd] at q; cases q⟩
  keep := fun i h h' st k => let ⟨⟨old, he⟩, ⟨o, ho, r⟩, hne, hi⟩ := st; ⟨⟨old, k e (by simp) _ he⟩, ⟨o, k it (by simp) o ho, r⟩, hne, hi⟩
  item := by
    intro X hP hw hK hc i pins s σ H E I hf st hg
    subst hP hw hK
    obtain ⟨⟨old, he⟩, hit, hne, hi⟩ := st
    have hg : i < x.cps.size := hg
    have hel : e < s.heap.objs.size := Heap.lt_size he
    have hil : it < s.heap.objs.size := by obtain ⟨_, q, _⟩ := hit; exact Heap.lt_size q
    have D : Draws X.prog X.w X.A.in1 it [it] x.cps.size (fun i v => ∃ c u, x.cps[i]? = some c ∧ v = .str ⟨#[c]⟩ u) (fun i h => h.IsStrIter it ty x t i) := by
      rcases hty with z | z
      · rw [z]; exact Draws.strAscii (A := X.A.in1) (show X.A.in1.handled = none from I.ok.hd hc) it x t
      · rw [z]; exact Draws.strWide (A := X.A.in1) (show X.A.in1.handled = none from I.ok.hd hc) it x t
    refine wpAny_pyNext_enum_itemD D he hit hg hne (fun z => hne (by simpa using z)) fun v h' tk hv ho hit' hT hsz hk => ?_
    obtain ⟨c, u, hcx, rfl⟩ := hv
    refine ⟨_, rfl, wpAny_letOwnedTupleGo_enum (s := { s with heap := h', toks := tk + 1 }) ho fun h'' he' sb => ?_⟩
    have hT2 : h''.get? s.heap.objs.size = some { cls := .type "tuple", data := .seq #[.int i tk, .str ⟨#[c]⟩ u] } := (sb.2 _ (Nat.ne_of_gt hel)).trans hT
    have new : ObjOk X.prog X.w (upd H s.heap.objs.size (.tup [.int (i : Nat), .str ⟨#[c]⟩])) h'' s.heap.objs.size (.tup [.int (i : Nat), .str ⟨#[c]⟩]) :=
      ⟨by show 2 ≤ sizeLine; decide, [.int i tk, .str ⟨#[c]⟩ u], .cons ⟨_, rfl⟩ (.cons ⟨_, rfl⟩ .nil), ⟨_, hT2, rfl, _, rfl⟩⟩
    have I1 : Inv X pins σ (upd H s.heap.objs.size (.tup [.int (i : Nat), .str ⟨#[c]⟩])) { s with heap := h'', toks := tk + 1 } :=
      I.turnedNew (ch := [e, it]) (fun b ob hb q => (sb.2 b (fun z => hb (by simp [z]))).trans (hk b ob (fun z => hb (by simp [z])) (fun z => hb (by simp [z])) q)) hf (Nat.le_refl _) new
    refine ⟨.ref s.heap.objs.size, _, I1, rfl, ⟨_, c, rfl, I.hok.fresh (Nat.le_refl _), rfl, hcx⟩, ⟨⟨.str ⟨#[c]⟩ u, ?_⟩, ?_, hne, hg⟩, fun b hb => ?_⟩
    · have e1 : ((i + 1 : Nat) : Int) = (i : Int) + 1 := by omega
      rw [e1]; exact he'
    · obtain ⟨oi, hoi, r⟩ := hit'
      exact ⟨oi, (sb.2 it (Ne.symm hne)).trans hoi, r⟩
    · have hb' : b < s.heap.objs.size := by
        have e' : b = e ∨ b = it := by simpa using hb
        rcases e' with z | z
        · rw [z]; exact hel
        · rw [z]; exact hil
      rw [upd_ne (Nat.ne_of_lt hb')]
      exact (hf b hb).1
  done := by
    intro X hP hw hK hc i pins s σ H E I hf st hg
    subst hP hw hK
    obtain ⟨⟨old, he⟩, hit, hne, hi⟩ := st
    have hg : x.cps.size ≤ i := hg
    have ei : i = x.cps.size := by omega
    subst ei
    obtain ⟨f0, f1, f2, f3, f4, f5⟩ := hf it (by simp)
    have D : Draws X.prog X.w X.A.in1 it [it] x.cps.size (fun i v => ∃ c u, x.cps[i]? = some c ∧ v = .str ⟨#[c]⟩ u) (fun i h => h.IsStrIter it ty x t i) := by
      rcases hty with z | z
      · rw [z]; exact Draws.strAscii (A := X.A.in1) (show X.A.in1.handled = none from I.ok.hd hc) it x t
      · rw [z]; exact Draws.strWide (A := X.A.in1) (show X.A.in1.handled = none from I.ok.hd hc) it x t
    exact wpAny_pyNext_enum_endD D he hit fun h' eb => ⟨rfl, I.turned (t' := s.toks) (fun b o hb q => eb b o hb q) f0 f1 f3 f4 f5⟩
  self := fun A i s Q E st h => let ⟨⟨_, he⟩, _⟩ := st; wpAny_pyIter_enum he h
def iEnumS (ta : TA) : TI := fun σ H R => ta σ H fun vs H1 => ∃ x, vs = [.str x] ∧ R (ItE x) H1
theorem pi_enumS {X : Cx} {e : Expr} {ta : TA} {p pos tpos : Pos} {elts : List Expr} {kk : Nat} (hg : Gl X "enumerate") (hm : X.mg "enumerate" = none) (ha : PA X [e] ta) (hs : starEach [e] X.env = [(false, eval e X.env)] := by rfl) :
    PI X (.Tuple elts kk tpos) (.Call (.Name "enumerate" p) [e] [] pos) (iEnumS ta) := by
  refine ⟨fun pins s σ H R I h => ?_⟩
  refine Call_ (ld_blt I hg hm boot_enumerate (PyProof.Rows.callWith_type1 (thn (ha.run pos pins s σ H _ I h) fun us s1 ⟨vs, H1, I1, r1, q1⟩ => ?_) hs rfl))
  obtain ⟨x, ex, q⟩ := q1
  subst ex
  cases r1 with
  | cons r rr =>
    cases rr
    obtain ⟨t, rfl⟩ := r
    refine call_enumerate_str fun h' he hit hsz hk => wpAny_pyIter_enum he ?_
    have I2 : Inv X pins σ H1 { s1 with heap := h' } := I1.kept (t' := s1.toks) hk
    have hty : strIterType x = "str_ascii_iterator" ∨ strIterType x = "str_iterator" := by
      unfold strIterType
      split
      · exact .inl rfl
      · exact .inr rfl
    refine ⟨s1.heap.objs.size + 1, [s1.heap.objs.size + 1, s1.heap.objs.size], _, _, H1, rfl, I2, turn_enumS (s1.heap.objs.size + 1) s1.heap.objs.size x t _ hty, ⟨⟨.none, he⟩, hit, Nat.succ_ne_self _, Nat.zero_le _⟩, fun b hb => ?_, q⟩
    have e' : b = s1.heap.objs.size + 1 ∨ b = s1.heap.objs.size := by simpa using hb
    have hle : s1.heap.objs.size ≤ b := by
      rcases e' with z | z
      · rw [z]; exact Nat.le_add_right _ _
      · rw [z]; exact Nat.le_refl _
    exact I1.fpOk hle (I1.hok.fresh hle)
theorem walk_enumS {x : Str} : Walk (ItE x) x.cps.size (fun _ => True) (fun i H v H' => ∃ T c, v = .ref T ∧ H T = none ∧ H' = upd H T (.tup [.int (i : Nat), .str ⟨#[c]⟩]) ∧ x.cps[i]? = some c) :=
  ⟨fun _ _ hi _ => hi, fun _ _ => Nat.le_refl _, fun _ _ _ _ _ _ y => y⟩
end K60
namespace K60
open PySem PySem.Spec PyProof.Rows L2
/-! len(set(xs)), xs a list of unlike texts, of any number below the model's scan bound -/
section
variable {P : Program} {w : World} {A : Around}
/-- the first i of the texts, as a set's members -/
abbrev upTo (xs : List Str) (i : Nat) : Str → Bool := fun z => (xs.take i).any (· == z)
theorem upTo_step {xs : List Str} (nd : xs.Nodup) {i : Nat} (hi : i < xs.length) : upTo xs i xs[i] = false ∧ ∀ z, (upTo xs i z || decide (z = xs[i])) = upTo xs (i + 1) z := by
  constructor
  · unfold upTo
    rw [List.any_eq_false]
    intro y hy
    obtain ⟨j, hj, e⟩ := List.mem_iff_getElem.mp hy
    have hj' : j < i := by rw [List.length_take] at hj; omega
    rw [List.getElem_take] at e
    intro q
    have q' : y = xs[i] := by simpa using q
    rw [← e] at q'
    have := (List.getElem_inj nd).mp q'
    omega
  · intro z
    show _ = (xs.take (i + 1)).any (· == z)
    rw [List.take_add_one, List.getElem?_eq_getElem hi, Option.toList_some, List.any_append]
    congr 1
    simp only [List.any_cons, List.any_nil, Bool.or_false]
    by_cases e : z = xs[i]
    · rw [e]; simp
    · rw [decide_eq_false e]
      exact (beq_eq_false_iff_ne.mpr fun q => e q.symm).symm
theorem setT_loop {I S : Addr} {fp wr : List Addr} {G : Array GenState → Array GenState → Prop} {Pv : Nat → Value → Prop} {St : Nat → Shared → Prop} {R : Result → Shared → Prop} {xs : List Str} (nd : xs.Nodup) (few : xs.length + 1 < scanBound)
    (W : WalksS P w A.in1 I fp wr G xs.length Pv St) (apart : S ∉ fp) (is : ∀ i v, Pv i v → ∃ z t, xs[i]? = some z ∧ v = .str z t) :
    ∀ (m i : Nat) (s : Shared), i + m = xs.length → St i s → s.heap.SetOf (PySem.strKind P w) S (upTo xs i) i →
      (∀ s', Moved (S :: wr) G s s' → s'.heap.SetOf (PySem.strKind P w) S (upTo xs xs.length) xs.length → R (.ok (.ret .none)) s') →
      codeAny (model P w) A (.builtin "set.update.loop" ⟨[.ref S, .ref I], []⟩) R s := by
  have out : S ∉ wr := fun h => apart (W.sub _ h)
  have keep : ∀ {s s' : Shared} {f : Str → Bool} {c : Nat}, Moved wr G s s' → s.heap.SetOf (PySem.strKind P w) S f c → s'.heap.SetOf (PySem.strKind P w) S f c := fun hm ⟨o, es, ep, tb, ho, more⟩ => ⟨o, es, ep, tb, hm.heap S o out ho, more⟩
  intro m
  induction m with
  | zero =>
    intro i s him st set fin
    have ei : i = xs.length := him
    subst ei
    refine codeAny_builtin PyProof.Rows.F.entry_set_update_loop ?_
    rw [Around.under_plainId PyProof.Rows.F.plain_set_update_loop _]
    show wpAny _ A.in1 (pyNext (.ref I) >>= _) _ _ s
    exact wpAny_bind (W.done s _ _ st fun s' mv => wpAny_pure (fin s' (mv.mono fun b hb => List.mem_cons_of_mem _ hb) (keep mv set)))
  | succ m ih =>
    intro i s him st set fin
    have hi : i < xs.length := by omega
    obtain ⟨fresh, next⟩ := upTo_step nd hi
    refine codeAny_builtin PyProof.Rows.F.entry_set_update_loop ?_
    rw [Around.under_plainId PyProof.Rows.F.plain_set_update_loop _]
    show wpAny _ A.in1 (pyNext (.ref I) >>= _) _ _ s
    refine wpAny_bind (W.item i s _ _ hi st fun v s1 pv st1 mv => ?_)
    obtain ⟨z, t, hz, rfl⟩ := is i v pv
    obtain rfl : xs[i] = z := by
      rw [List.getElem?_eq_getElem hi] at hz
      exact Option.some.inj hz
    show wpAny _ A.in1 (holding [Value.str xs[i] t] (setAdd S (.str xs[i] t)) >>= _) _ _ s1
    refine wpAny_bind (wpAny_holding ?_)
    unfold setAdd
    refine wpAny_holding (wpAny_bind ((PySem.strKind P w).pyHash (k := xs[i]) (strKind_is _ _ _ _) ?_))
    refine wpAny_setAddHashed_of (knd := PySem.strKind P w) (s := { s1 with toks := s1.toks + 1 }) (strKind_is _ _ _ _) rfl (by have q := keep mv set; exact q) (by omega) fun h' sb set2 => ?_
    have set3 : h'.SetOf (PySem.strKind P w) S (upTo xs (i + 1)) (i + 1) := SetOf_congr set2 (fun k' => next k') (by rw [if_neg (by rw [fresh]; decide)])
    have kept : ∀ b o, b ≠ S → s1.heap.get? b = some o → h'.get? b = some o := fun b o hb e => (sb.2 b hb).trans e
    refine wpAny_pure ⟨plainId_quiet PyProof.Rows.F.plain_set_update_loop _, ih (i + 1) { s1 with heap := h', toks := s1.toks + 1 } (by omega) (W.frame _ s1 _ _ st1 (Nat.le_succ _) fun b hb o e => kept b o (fun q => apart (q ▸ hb)) e) set3 fun s2 mv2 set4 => ?_⟩
    exact fin s2 (Moved.trans W.gtrans ((mv.mono fun b hb => List.mem_cons_of_mem _ hb).then_heap (Nat.le_succ _) fun b o hb e => kept b o (fun q => hb (q ▸ List.mem_cons_self)) e) mv2) set4
variable {E : Value → Shared → Prop} {s : Shared}
theorem call_setT {l : Addr} {items : Array Value} {xs : List Str} {Q : Value → Shared → Prop} (hh : A.handled = none) (hl : s.heap.IsList l items) (hi : PyProof.Rows.StrsAre items.toList xs) (nd : xs.Nodup) (few : xs.length + 1 < scanBound)
    (h : ∀ (h' : Heap) (tk : Nat), h'.SetOf (PySem.strKind P w) s.heap.objs.size (upTo xs xs.length) xs.length → (∀ b o, s.heap.get? b = some o → h'.get? b = some o) → Q (.ref s.heap.objs.size) { s with heap := h', toks := tk }) :
    wpAny (model P w) A (call (.type "set") [.ref l]) Q E s := by
  have size : items.size = xs.length := by rw [← StrsAre.len_eq hi, Array.length_toList]
  have is : ∀ (i : Nat) (v : Value), items[i]? = some v → ∃ z t, xs[i]? = some z ∧ v = .str z t := fun i v hv => by
    have hlt : i < xs.length := by
      rw [← size]
      exact (Array.getElem?_eq_some_iff.mp hv).1
    obtain ⟨t, e⟩ := SS.strs_at hi i v (by rw [Array.getElem?_toList]; exact hv)
    refine ⟨xs[i], t, List.getElem?_eq_getElem hlt, ?_⟩
    rw [e, List.getD_eq_getElem?_getD, List.getElem?_eq_getElem hlt]
    rfl
  obtain ⟨c0, tl0, hmro⟩ := PySem.F.called_set.mro
  have hmade := PySem.F.called_set.made
  have hsub := PySem.F.called_set.sub
  refine wpAny_call (codeAny_of_tree ?_)
  show wpAny _ _ (callAny (.type "set") _) _ _ _
  refine wpAny_pure ⟨Code.quiet_builtin _ (by decide +kernel), codeAny_builtin PySem.F.entry_type_call ?_⟩
  rw [Around.under_plain (weight_type_call_type "set" [.ref l] []) rfl]
  have h1 := PySem.F.called_set.notType
  have h2 := PySem.F.called_set.canCreate
  have hct := PySem.F.typeCall_set_1 (.ref l)
  repeat (any_goals (first | assumption | wp_step))
  let empty : Bool → Obj := fun led => { cls := .type "set", dict := none, data := .set #[] 0 (.fresh 0 0 led) }
  refine codeAny_mono (code_set_new_1 (.ref l) (E := E) (Q₁ := fun ob s1 => ∃ led : Bool, ob = .ref s.heap.objs.size ∧ s1 = { s with heap := s.heap.push (empty led) }) fun led => ⟨led, rfl, rfl⟩) fun r s1 hr => ?_
  cases r with
  | error e => exact hr
  | ok fl =>
    cases fl with
    | ret ob =>
      obtain ⟨led, rfl, rfl⟩ := hr
      have made : (s.heap.push (empty led)).get? s.heap.objs.size = some (empty led) := Heap.get?_push_size _ rfl
      have hT : Shared.TypeIs { s with heap := s.heap.push (empty led) } (.ref s.heap.objs.size) "set" := ⟨_, made, rfl⟩
      have hli := PySem.F.called_set.init.lookup
      have hbi := PySem.F.called_set.init.bind (.ref s.heap.objs.size)
      repeat (any_goals (first | assumption | wp_step))
      refine codeAny_mono (codeAny_call_builtin (R := wants (fun r s2 => r = .none ∧ ∃ h' tk, s2 = { s with heap := h', toks := tk } ∧
          h'.SetOf (PySem.strKind P w) s.heap.objs.size (upTo xs xs.length) xs.length ∧ (∀ b o, s.heap.get? b = some o → h'.get? b = some o)) E) PySem.F.called_set.init.plain PySem.F.entry_set_init (check_set_init_1 hT ?_)) fun r2 s2 hr2 => ?_
      · obtain ⟨⟨ocls, odict, odata, oslots⟩, hol, hcl, nl, hdl⟩ := hl
        simp only at hcl hdl
        subst hcl hdl
        have hol' : (s.heap.push (empty led)).get? l = some { cls := .type "list", dict := odict, data := .seq items nl, slots := oslots } := Heap.get?_push_of_some _ hol
        have hsls := PySem.F.sub_list_set
        have hslf := PySem.F.sub_list_frozenset
        have hne : (Value.type "list" == Value.type "dict") = false := by decide
        have lst1 : (s.heap.push (empty led)).IsList l items := ⟨_, hol', rfl, nl, rfl⟩
        have lt : l < s.heap.objs.size := Heap.lt_size hol
        unfold Builtin.«set.__init__» noKeywords Builtin.Frozenset.updateFrom
        generalize hPI : pyIter = PI
        wp_walk
        subst hPI
        refine wpAny_pyIter_list lst1 (wpAny_bind (wpAny_runValue ?_))
        have sz1 : (s.heap.push (empty led)).objs.size = s.heap.objs.size + 1 := by rw [Heap.size_push]
        have hneI : l ≠ (s.heap.push (empty led)).objs.size := by rw [sz1]; exact Nat.ne_of_lt (Nat.lt_succ_of_lt lt)
        have hh3 : A.in1.in1.in1.handled = none := by simp [hh]
        have W := (Walks.list (prog := P) (w := w) (A := A.in1.in1.in1) hh3 (s.heap.push (empty led)).objs.size l hneI items).toS
        rw [size] at W
        refine setT_loop (S := s.heap.objs.size) nd few W (fun z => ?_) is xs.length 0 _ (by omega) ⟨⟨_, Heap.get?_push_size _ rfl, rfl, rfl⟩, lst1.push _⟩ ?_ fun s' mv set' => ?_
        · rcases List.mem_cons.mp z with z | z
          · rw [sz1] at z
            exact absurd z (Nat.ne_of_lt (Nat.lt_succ_self _))
          · exact absurd (List.mem_singleton.mp z) (Nat.ne_of_gt lt)
        · exact SetOf_congr ((setObjOf_fresh (knd := PySem.strKind P w) led).setOf (Heap.get?_push_of_some _ made) (by unfold scanBound; omega)) (fun _ => rfl) rfl
        · obtain ⟨h', g', d', tk', os'⟩ := s'
          have eg : g' = s.gens := mv.gens
          have ed : d' = s.drawn := mv.drawn
          have eo : os' = s.os := mv.os
          subst eg ed eo
          show wpAny _ _ _ _ _ _
          refine wpAny_pure ?_
          show wpAny _ _ (ret Value.none) _ _ _
          refine wpAny_pure ⟨rfl, h', tk', rfl, set', fun b o e => ?_⟩
          have hb := Heap.lt_size e
          refine mv.heap b o (fun z => ?_) (Heap.get?_push_of_some _ (Heap.get?_push_of_some _ e))
          rcases List.mem_cons.mp z with z | z
          · exact absurd z (Nat.ne_of_lt hb)
          · have z' : b = (s.heap.push (empty led)).objs.size := List.mem_singleton.mp z
            rw [sz1] at z'
            exact absurd z' (Nat.ne_of_lt (Nat.lt_succ_of_lt hb))
      · cases r2 with
        | error e => exact hr2
        | ok fl2 =>
          cases fl2 with
          | ret r =>
            obtain ⟨rfl, h', tk, rfl, set', kept⟩ := hr2
            repeat (any_goals (first | assumption | wp_step))
            exact h _ _ set' kept
          | _ => exact hr2.elim
    | _ => exact hr.elim
end
def tLenSetT (K : PySem.W.Frag) (ta : TE) : TE := fun σ H Q => ta σ H fun x H1 => ∃ l, ∃ xs : List Str, x = .ref l ∧ SqL K H1 l (xs.map V.str) ∧ xs.Nodup ∧ xs.length ≤ 100 ∧ Q (.int xs.length) H1
theorem pe_lenSetT {X : Cx} {a : Expr} {ta : TE} {p p2 q pos : Pos} (hc : X.calm = true) (hg : Gl X "len") (hm : X.mg "len" = none) (hg2 : Gl X "set") (hm2 : X.mg "set" = none) (ha : PE X a ta)
    (na : starEach [a] X.env = (false, eval a X.env) :: starEach [] X.env := by rfl) : PE X (.Call (.Name "len" p) [.Call (.Name "set" p2) [a] [] q] [] pos) (tLenSetT X.K ta) := by
  refine ⟨fun pins s σ H Q I h => Call_ (ld_blt I hg hm boot_len (PyProof.Rows.callWith_builtin1 (PyProof.Rows.args_cons (Call_ (ld_blt I hg2 hm2 boot_set ?_)) rfl) rfl rfl))⟩
  refine PyProof.Rows.callWith_type1 (PyProof.Rows.args_cons (thn (ha.run pins s σ H _ I h) fun v s1 ⟨x, H1, I1, r1, q1⟩ => PyProof.Rows.args_nil ?_) na) na rfl
  obtain ⟨l, xs, rfl, hq, nd, few, q1⟩ := q1
  cases r1
  obtain ⟨its, r, pl, hz⟩ := I1.list hq
  refine call_setT (I1.ok.hd hc) pl.isList (by simpa using strsAre_of r) nd (by unfold scanBound; omega) fun h' tk set' kept => PyProof.Rows.args_nil ?_
  obtain ⟨o, es, ep, t, ho, hex, hd, _, _, _, hf, hn⟩ := set'
  exact call_len_set ho hex hd hf (by rw [hn]; omega) ⟨.int xs.length, H1, (I1.kept kept).tok _, ⟨_, by rw [hn]⟩, q1⟩
end K60
namespace K60
open PySem PySem.Spec PyProof.Rows L2 LamX
/-! what is known and never changes: the part F of the heap H -/
def NT (o : HO) : Prop := ∀ ps, o ≠ .tbl ps
abbrev Tb := List (Addr × Str)
def Kn (F H : Hp) : Prop := ∀ b o, F b = some o → H b = some o ∧ NT o
theorem nt_lst (xs : List V) : NT (.lst xs) := fun _ h => by cases h
theorem nt_tup (xs : List V) : NT (.tup xs) := fun _ h => by cases h
theorem nt_dK (xs : List (Key × V)) : NT (.dK xs) := fun _ h => by cases h
theorem nt_ins (C d : Addr) (fs : List (Str × V)) : NT (.ins C d fs) := fun _ h => by cases h
theorem nt_own (d : Addr) : NT (.own d) := fun _ h => by cases h
theorem nt_ent {P : Program} {w : World} {d : Addr} {xs : Ent} : NT (EntO P w d xs) := fun _ h => by cases h
/-- a step: F grows by new things, what is not in S stays -/
structure Stp (T : Tb) (S : Addr → Prop) (F H F' H' : Hp) : Prop where
  sub : Same F F'
  kn : Kn F' H'
  new : ∀ b o, F b = none → H b = some o → NT o → F' b = none
  keep : ∀ b o, ¬ S b → F b = none → H b = some o → NT o → H' b = some o
  keepS : ∀ b o, S b → F b = none → H b = some o → NT o → ∃ o', H' b = some o' ∧ NT o'
  tab : Tabs T H → Tabs T H'
abbrev S0 : Addr → Prop := fun _ => False
/-- nothing (but a table at most) stands there -/
def Fr (H : Hp) (p : Addr) : Prop := ∀ o, H p = some o → ¬ NT o
theorem Fr.of {H : Hp} {p : Addr} (h : H p = none) : Fr H p := fun o e => by rw [h] at e; cases e
section
variable {T : Tb} {S S' : Addr → Prop} {F H F' H' F1 H1 F2 H2 F0 H0 : Hp} {p : Addr} {o o' : HO}
theorem Stp.refl (k : Kn F H) : Stp T S F H F H :=
  ⟨fun _ _ h => h, k, fun _ _ h _ _ => h, fun _ _ _ _ h _ => h, fun b o _ _ h n => ⟨o, h, n⟩, id⟩
theorem Stp.trans (a : Stp T S F H F1 H1) (b : Stp T S F1 H1 F2 H2) : Stp T S F H F2 H2 where
  sub := a.sub.trans b.sub
  kn := b.kn
  new := fun c o h1 h2 n => by
    have f1 := a.new c o h1 h2 n
    by_cases hs : S c
    · obtain ⟨o', e, n'⟩ := a.keepS c o hs h1 h2 n
      exact b.new c o' f1 e n'
    · exact b.new c o f1 (a.keep c o hs h1 h2 n) n
  keep := fun c o hs h1 h2 n => b.keep c o hs (a.new c o h1 h2 n) (a.keep c o hs h1 h2 n) n
  keepS := fun c o hs h1 h2 n => by
    obtain ⟨o', e, n'⟩ := a.keepS c o hs h1 h2 n
    exact b.keepS c o' hs (a.new c o h1 h2 n) e n'
  tab := fun t => b.tab (a.tab t)
theorem Stp.wide (a : Stp T S F H F1 H1) (h : ∀ b, S b → S' b) : Stp T S' F H F1 H1 :=
  ⟨a.sub, a.kn, a.new, fun b o hs h1 h2 n => a.keep b o (fun z => hs (h b z)) h1 h2 n, fun b o _ h1 h2 n => by
    by_cases z : S b
    · exact a.keepS b o z h1 h2 n
    · exact ⟨o, a.keep b o z h1 h2 n, n⟩, a.tab⟩
theorem Stp.of0 (a : Stp T S0 F H F1 H1) : Stp T S F H F1 H1 := a.wide fun _ h => h.elim
/-- what was made behind the start may be left out of S -/
theorem Stp.loc (a : Stp T S' F H F1 H1) (h : ∀ b, S' b → S b ∨ Fr H b) : Stp T S F H F1 H1 :=
  ⟨a.sub, a.kn, a.new, fun b o hs h1 h2 n => a.keep b o (fun z => by
    rcases h b z with q | q
    · exact hs q
    · exact q o h2 n) h1 h2 n, fun b o hs h1 h2 n => by
    by_cases z : S' b
    · exact a.keepS b o z h1 h2 n
    · exact ⟨o, a.keep b o z h1 h2 n, n⟩, a.tab⟩
theorem Kn.same (k : Kn F H) : Same F H := fun b o h => (k b o h).1
theorem Kn.off (k : Kn F H) (h : H p = none) : F p = none := by
  cases e : F p with
  | none => rfl
  | some o => rw [(k p o e).1] at h; cases h
theorem Kn.ext (k : Kn F H) (e : Same H H') : Kn F H' := fun b o h => ⟨e _ _ (k b o h).1, (k b o h).2⟩
theorem Kn.extN (k : Kn F H) (e : ExtN H H') : Kn F H' := fun b o h => ⟨e _ _ (k b o h).1 (k b o h).2, (k b o h).2⟩
theorem Kn.put (k : Kn F H) (fp : F p = none) : Kn F (upd H p o) := fun b o h => ⟨by rw [upd_ne (ne_of_none h fp)]; exact (k b o h).1, (k b o h).2⟩
theorem Kn.nil : Kn (fun _ => Option.none) H := fun _ _ h => nomatch h
theorem same_upd {H : Hp} {p : Addr} {o : HO} (h : H p = Option.none) : Same H (upd H p o) := fun b x e => by
  rw [upd_ne (ne_of_none e h)]
  exact e
theorem Stp.ext (k : Kn F H) (e : Same H H') : Stp T S F H F H' :=
  ⟨fun _ _ h => h, k.ext e, fun _ _ h _ _ => h, fun b o _ _ h _ => e b o h, fun b o _ _ h n => ⟨o, e b o h, n⟩, fun t => t.ext e⟩
theorem Stp.extN (k : Kn F H) (e : ExtN H H') (t : Tabs T H → Tabs T H') : Stp T S F H F H' :=
  ⟨fun _ _ h => h, k.extN e, fun _ _ h _ _ => h, fun b o _ _ h n => e b o h n, fun b o _ _ h n => ⟨o, e b o h n, n⟩, t⟩
/-- a new thing that never changes -/
theorem Stp.data (k : Kn F H) (hp : H p = Option.none) (n : NT o) : Stp T S F H (upd F p o) (upd H p o) :=
  ⟨same_upd (k.off hp), fun b u h => by
    by_cases e : b = p
    · subst e; rw [upd_same] at h ⊢; cases h; exact ⟨rfl, n⟩
    · rw [upd_ne e] at h ⊢; exact k b u h, fun b u h1 h2 _ => by rw [upd_ne (ne_of_none h2 hp)]; exact h1, fun b u _ _ h _ => by rw [upd_ne (ne_of_none h hp)]; exact h,
    fun b u _ _ h n' => ⟨u, by rw [upd_ne (ne_of_none h hp)]; exact h, n'⟩, fun t => t.ext (same_upd hp)⟩
/-- a new thing that may change -/
theorem Stp.mut (k : Kn F H) (hp : H p = Option.none) : Stp T S F H F (upd H p o) := .ext k (same_upd hp)
def NX (o : HO) : Prop := NT o ∧ ∀ c q, o ≠ CodeO c q
theorem nx_lst (xs : List V) : NX (.lst xs) := ⟨nt_lst xs, fun _ _ h => by cases h⟩
theorem nx_dK (xs : List (Key × V)) : NX (.dK xs) := ⟨nt_dK xs, fun _ _ h => by cases h⟩
theorem nx_ins (C d : Addr) (fs : List (Str × V)) : NX (.ins C d fs) := ⟨nt_ins C d fs, fun _ _ h => by cases h⟩
theorem nx_frz (o : Obj) (u : HO) : NX (.frz o u) := ⟨(fun _ h => by cases h), (fun _ _ h => by cases h)⟩
theorem tabs_put (t : Tabs T H) (hp : H p = some o) (n : NX o) : Tabs T (upd H p o') := fun q hq => by
  obtain ⟨ps, h1, h2, h3⟩ := t q hq
  have ne : q.1 ≠ p := fun z => by rw [z, hp] at h1; exact n.1 ps (Option.some.inj h1)
  refine ⟨ps, by rw [upd_ne ne]; exact h1, h2, fun pos cv hc => ?_⟩
  obtain ⟨c, e1, e2⟩ := h3 pos cv hc
  exact ⟨c, e1, by rw [upd_ne (fun z => by rw [z, hp] at e2; exact n.2 _ _ (Option.some.inj e2))]; exact e2⟩
/-- a thing that may change is changed -/
theorem Stp.set (k : Kn F H) (fp : F p = none) (hp : H p = some o) (n : NX o) (n' : NT o') (hs : S p) : Stp T S F H F (upd H p o') :=
  ⟨fun _ _ h => h, k.put fp, fun _ _ h _ _ => h, fun b u hb _ h _ => by rw [upd_ne (fun z => hb (by rw [z]; exact hs))]; exact h, fun b u _ _ h m => by
    by_cases e : b = p
    · exact ⟨o', by rw [e, upd_same], n'⟩
    · exact ⟨u, by rw [upd_ne e]; exact h, m⟩, fun t => tabs_put t hp n⟩
/-- from now on it never changes -/
theorem Stp.freeze (a : Stp T S F0 H0 F H) (h0 : Fr H0 p) (hp : H p = some o) (n : NT o) : Stp T S F0 H0 (upd F p o) H :=
  ⟨fun b u h => by
    have h1 := a.sub b u h
    by_cases e : b = p
    · subst e
      have h2 := (a.kn b u h1).1
      rw [hp] at h2
      rw [upd_same, h2]
    · rw [upd_ne e]; exact h1, fun b u h => by
    by_cases e : b = p
    · subst e; rw [upd_same] at h; cases h; exact ⟨hp, n⟩
    · rw [upd_ne e] at h; exact a.kn b u h, fun b u h1 h2 m => by
    have ne : b ≠ p := fun z => h0 u (by rw [← z]; exact h2) m
    rw [upd_ne ne]; exact a.new b u h1 h2 m, a.keep, a.keepS, a.tab⟩
/-- what is free was free -/
theorem Stp.fr (a : Stp T S F H F1 H1) (k : Kn F H) (h : Fr H1 p) : Fr H p := fun o e n => by
  cases f : F p with
  | some u =>
    have h1 := (k p u f).1
    rw [e] at h1
    cases h1
    exact h o (a.kn p o (a.sub p o f)).1 n
  | none =>
    by_cases z : S p
    · obtain ⟨o', e', n'⟩ := a.keepS p o z f e n
      exact h o' e' n'
    · exact h o (a.keep p o z f e n) n
/-- what was there and known to change stands -/
theorem Stp.mu (a : Stp T S F H F1 H1) (fp : F p = none) (hp : H p = some o) (n : NT o) (hs : ¬ S p) : F1 p = none ∧ H1 p = some o := ⟨a.new p o fp hp n, a.keep p o hs fp hp n⟩
theorem Stp.up (a : Stp T S F H F1 H1) (h : F p = some o) : F1 p = some o := a.sub p o h
theorem Stp.free (a : Stp T S F H F1 H1) (k : Kn F H) (hn : ∀ ps, H p ≠ some (.tbl ps)) (h : H1 p = none) : H p = none := by
  cases e : H p with
  | none => rfl
  | some u =>
    have nu : NT u := fun ps z => hn ps (by rw [e, z])
    cases f : F p with
    | some v =>
      have h1 := (a.kn p v (a.sub p v f)).1
      rw [h] at h1; cases h1
    | none =>
      by_cases z : S p
      · obtain ⟨o', e', _⟩ := a.keepS p u z f e nu
        rw [h] at e'; cases e'
      · have := a.keep p u z f e nu
        rw [h] at this; cases this
end
/-! ### data -/
abbrev HP (α : Type) := Hp → V → α → Prop
class Mo {α : Type} (P : HP α) : Prop where
  up : ∀ {F F' : Hp} {v : V} {x : α}, Same F F' → P F v x → P F' v x
def strP : HP Str := fun _ v x => v = .str x
def letP : HP Nat := fun _ v l => v = .str ⟨#[l]⟩
def wrd (w : List Nat) : Str := ⟨w.toArray⟩
def wordP : HP (List Nat) := fun _ v w => v = .str (wrd w)
def intP : HP Int := fun _ v x => v = .int x
def natP : HP Nat := fun _ v x => v = .int (x : Int)
def LstV {α : Type} (P : HP α) : HP (List α) := fun H v xs => ∃ a vs, v = .ref a ∧ H a = some (.lst vs) ∧ Paired (P H) vs xs
def tup2 {α β : Type} (P : HP α) (Q : HP β) : HP (α × β) := fun H v x => ∃ t u w, v = .ref t ∧ H t = some (.tup [u, w]) ∧ P H u x.1 ∧ Q H w x.2
def tup3 {α β γ : Type} (P : HP α) (Q : HP β) (R : HP γ) : HP (α × β × γ) := fun H v x => ∃ t u w y, v = .ref t ∧ H t = some (.tup [u, w, y]) ∧ P H u x.1 ∧ Q H w x.2.1 ∧ R H y x.2.2
def optP {α : Type} (P : HP α) : HP (Option α) := fun H v x => match x with | none => v = .non | some y => P H v y
def rowP : HP (List Str) := fun H v row => ∃ a, v = .ref a ∧ H a = some (.lst (row.map V.str))
abbrev ruleP : HP (Nat × List Str) := tup2 letP rowP
abbrev layP : HP (List Nat × List Str) := tup2 wordP rowP
instance : Mo strP := ⟨fun _ h => h⟩
instance : Mo letP := ⟨fun _ h => h⟩
instance : Mo wordP := ⟨fun _ h => h⟩
instance : Mo intP := ⟨fun _ h => h⟩
instance : Mo natP := ⟨fun _ h => h⟩
theorem paired_up {α : Type} {P : HP α} [m : Mo P] {F F' : Hp} (e : Same F F') : ∀ {vs : List V} {xs : List α}, Paired (P F) vs xs → Paired (P F') vs xs
  | _, _, .nil => .nil
  | _, _, .cons h t => .cons (m.up e h) (paired_up e t)
instance {α : Type} {P : HP α} [Mo P] : Mo (LstV P) := ⟨fun e ⟨a, vs, h1, h2, h3⟩ => ⟨a, vs, h1, e _ _ h2, paired_up e h3⟩⟩
instance {α β : Type} {P : HP α} {Q : HP β} [p : Mo P] [q : Mo Q] : Mo (tup2 P Q) := ⟨fun e ⟨t, u, w, h1, h2, h3, h4⟩ => ⟨t, u, w, h1, e _ _ h2, p.up e h3, q.up e h4⟩⟩
instance {α β γ : Type} {P : HP α} {Q : HP β} {R : HP γ} [p : Mo P] [q : Mo Q] [r : Mo R] : Mo (tup3 P Q R) := ⟨fun e ⟨t, u, w, y, h1, h2, h3, h4, h5⟩ => ⟨t, u, w, y, h1, e _ _ h2, p.up e h3, q.up e h4, r.up e h5⟩⟩
instance {α : Type} {P : HP α} [p : Mo P] : Mo (optP P) := ⟨fun {F F' v x} e h => by
  cases x with
  | none => exact h
  | some y => exact p.up e (show P F v y from h)⟩
instance : Mo rowP := ⟨fun e ⟨a, h1, h2⟩ => ⟨a, h1, e _ _ h2⟩⟩
theorem Paired.len {α β : Type} {R : α → β → Prop} : ∀ {l : List α} {m : List β}, Paired R l m → l.length = m.length
  | _, _, .nil => rfl
  | _, _, .cons _ t => by rw [List.length_cons, List.length_cons, Paired.len t]
theorem Paired.at {α β : Type} {R : α → β → Prop} : ∀ {l : List α} {m : List β} {i : Nat} {a : α}, Paired R l m → l[i]? = some a → ∃ b, m[i]? = some b ∧ R a b
  | _, _, _, _, .nil, e => by simp at e
  | _, _, 0, _, .cons r _, e => by simp at e; subst e; exact ⟨_, rfl, r⟩
  | _, _, i + 1, a, .cons _ t, e => by
    obtain ⟨b, h1, h2⟩ := Paired.at (i := i) (a := a) t (by simpa using e)
    exact ⟨b, by simpa using h1, h2⟩
theorem Paired.at' {α β : Type} {R : α → β → Prop} : ∀ {l : List α} {m : List β} {i : Nat} {b : β}, Paired R l m → m[i]? = some b → ∃ a, l[i]? = some a ∧ R a b
  | _, _, _, _, .nil, e => by simp at e
  | _, _, 0, _, .cons r _, e => by simp at e; subst e; exact ⟨_, rfl, r⟩
  | _, _, i + 1, b, .cons _ t, e => by
    obtain ⟨a, h1, h2⟩ := Paired.at' (i := i) (b := b) t (by simpa using e)
    exact ⟨a, by simpa using h1, h2⟩
theorem paired_map {α β : Type} {R : V → α → Prop} {f : β → V} {g : β → α} (h : ∀ b, R (f b) (g b)) : ∀ l : List β, Paired R (l.map f) (l.map g)
  | [] => .nil
  | b :: l => .cons (h b) (paired_map h l)
theorem paired_strs (F : Hp) : ∀ row : List Str, Paired (strP F) (row.map V.str) row
  | [] => .nil
  | x :: r => .cons rfl (paired_strs F r)
theorem strs_of {F : Hp} : ∀ {vs : List V} {row : List Str}, Paired (strP F) vs row → vs = row.map V.str
  | _, _, .nil => rfl
  | _, _, .cons h t => by rw [List.map_cons, strs_of t, show _ = V.str _ from h]
theorem words_of {F : Hp} : ∀ {vs : List V} {ws : List (List Nat)}, Paired (wordP F) vs ws → vs = (ws.map wrd).map V.str
  | _, _, .nil => rfl
  | _, _, .cons h t => by rw [List.map_cons, List.map_cons, words_of t, show _ = V.str (wrd _) from h]
theorem lets_of {F : Hp} : ∀ {vs : List V} {ws : List Nat}, Paired (letP F) vs ws → vs = (ws.map fun l => wrd [l]).map V.str
  | _, _, .nil => rfl
  | _, _, .cons h t => by rw [List.map_cons, List.map_cons, lets_of t]; exact congrArg (· :: _) h
theorem ints_of {F : Hp} : ∀ {vs : List V} {ws : List Int}, Paired (intP F) vs ws → vs = ws.map V.int
  | _, _, .nil => rfl
  | _, _, .cons h t => by rw [List.map_cons, ints_of t, show _ = V.int _ from h]
theorem nats_of {F : Hp} : ∀ {vs : List V} {ws : List Nat}, Paired (natP F) vs ws → vs = (ws.map fun n : Nat => (n : Int)).map V.int
  | _, _, .nil => rfl
  | _, _, .cons h t => by rw [List.map_cons, List.map_cons, nats_of t, show _ = V.int _ from h]
theorem row_of {F : Hp} {v : V} {row : List Str} (h : LstV strP F v row) : rowP F v row := by
  obtain ⟨a, vs, h1, h2, h3⟩ := h
  exact ⟨a, h1, by rw [h2, strs_of h3]⟩
theorem of_row {F : Hp} {v : V} {row : List Str} (h : rowP F v row) : LstV strP F v row := by
  obtain ⟨a, h1, h2⟩ := h
  exact ⟨a, _, h1, h2, paired_strs F row⟩
theorem wrd_app (a b : List Nat) : wrd a ++ wrd b = wrd (a ++ b) := by
  show (⟨a.toArray ++ b.toArray⟩ : Str) = ⟨(a ++ b).toArray⟩
  rw [List.append_toArray]
theorem wrd_len (a : List Nat) : (wrd a).length = a.length := by
  show a.toArray.size = a.length
  simp
theorem wrd_inj {a b : List Nat} (h : wrd a = wrd b) : a = b := by
  have h2 : a.toArray = b.toArray := congrArg Str.cps h
  simpa using congrArg Array.toList h2
end K60
namespace K60
open PySem PySem.Spec PyProof.Rows L2 LamX
theorem pairs_snoc {α : Type} {P : HP α} {F : Hp} {vs : List V} {xs : List α} {v : V} {x : α} (h : Paired (P F) vs xs) (q : P F v x) : Paired (P F) (vs ++ [v]) (xs ++ [x]) := PySem.Paired.snoc h q
/-- where a comprehension stands: D the list that it makes, Iv by the turn, what is known, the heap, what is made so far -/
structure Cur {α : Type} (T : Tb) (S : Addr → Prop) (P : HP α) (Iv : Nat → Hp → Hp → List α → Prop) (F0 H1 : Hp) (D : Addr) (i : Nat) (F H : Hp) (ys : List α) : Prop where
  st : Stp T (fun b => S b ∨ b = D) F0 (upd H1 D (.lst [])) F H
  fD : F D = none
  hd : ∃ us, H D = some (.lst us) ∧ Paired (P F) us ys
  iv : Iv i F H ys
def LcI {α : Type} (T : Tb) (S : Addr → Prop) (P : HP α) (Iv : Nat → Hp → Hp → List α → Prop) (F0 H1 : Hp) (D : Addr) (i : Nat) (H : Hp) : Prop := ∃ F ys, Cur T S P Iv F0 H1 D i F H ys
/-- what Iv must keep -/
structure IvOk {α : Type} (Iv : Nat → Hp → Hp → List α → Prop) (n : Nat) (S : Addr → Prop) (H1 : Hp) (D : Addr) : Prop where
  put : ∀ i F H ys o, Iv i F H ys → F D = none → Iv i F (upd H D o) ys
  len : ∀ i F H ys, Iv i F H ys → ys.length ≤ i
  sz : n ≤ sizeLine
  nS : ¬ S D
  new : H1 D = none
section
variable {T : Tb} {S : Addr → Prop} {α : Type} {P : HP α} [Mo P] {Iv : Nat → Hp → Hp → List α → Prop} {F0 H1 F H F4 H4 : Hp} {D : Addr} {i n : Nat} {ys : List α} {y : V} {z : α}
theorem Cur.kn (c : Cur T S P Iv F0 H1 D i F H ys) : Kn F H := c.st.kn
theorem Cur.sub (c : Cur T S P Iv F0 H1 D i F H ys) : Same F0 F := c.st.sub
theorem Cur.mu (c : Cur T S P Iv F0 H1 D i F H ys) (k : IvOk Iv n S H1 D) {b : Addr} {o : HO} (hs : ¬ S b) (f : F0 b = none) (h : H1 b = some o) (m : NT o) : F b = none ∧ H b = some o := by
  have nb : b ≠ D := fun z => by rw [z, k.new] at h; cases h
  have hu : upd H1 D (.lst []) b = some o := by rw [upd_ne nb]; exact h
  exact c.st.mu f hu m fun z => z.elim hs nb
theorem Cur.tab (c : Cur T S P Iv F0 H1 D i F H ys) (k : IvOk Iv n S H1 D) (t : Tabs T H1) : Tabs T H := c.st.tab (t.ext (same_upd k.new))
theorem Cur.all (c : Cur T S P Iv F0 H1 D i F H ys) (k : IvOk Iv n S H1 D) (k0 : Kn F0 H1) : Stp T (fun b => S b) F0 H1 F H :=
  ((Stp.mut k0 k.new : Stp T (fun b => S b ∨ b = D) F0 H1 F0 (upd H1 D (.lst []))).trans c.st).loc fun b hb => hb.elim .inl fun z => .inr (by rw [z]; exact .of k.new)
theorem nD (hS : ¬ S D) : ∀ {b : Addr}, S b → b ≠ D := fun h z => hS (by rw [← z]; exact h)
/-- an element is made -/
theorem Cur.put (c : Cur T S P Iv F0 H1 D i F H ys) (k : IvOk Iv n S H1 D) (hi : i < n) (st : Stp T S F H F4 H4) (hp : P F4 y z) (iv : Iv (i + 1) F4 H4 (ys ++ [z])) :
    ∃ acc, H4 D = some (.lst acc) ∧ acc.length < sizeLine ∧ LcI T S P Iv F0 H1 D (i + 1) (upd H4 D (.lst (acc ++ [y]))) := by
  obtain ⟨us, hd, pr⟩ := c.hd
  obtain ⟨f4, h4⟩ := st.mu c.fD hd (nt_lst _) k.nS
  have h1 := k.len _ _ _ _ c.iv
  have h2 := Paired.len pr
  have h3 := k.sz
  refine ⟨us, h4, by omega, F4, ys ++ [z], ?_, f4, ⟨us ++ [y], upd_same, pairs_snoc (paired_up st.sub pr) hp⟩, k.put _ _ _ _ _ iv f4⟩
  exact c.st.trans ((st.wide fun b h => .inl h).trans (.set st.kn f4 h4 (nx_lst _) (nt_lst _) (.inr rfl)))
/-- an element is left out -/
theorem Cur.skip (c : Cur T S P Iv F0 H1 D i F H ys) (k : IvOk Iv n S H1 D) (st : Stp T S F H F4 H4) (iv : Iv (i + 1) F4 H4 ys) : LcI T S P Iv F0 H1 D (i + 1) H4 := by
  obtain ⟨us, hd, pr⟩ := c.hd
  obtain ⟨f4, h4⟩ := st.mu c.fD hd (nt_lst _) k.nS
  exact ⟨F4, ys, c.st.trans (st.wide fun b h => .inl h), f4, ⟨us, h4, paired_up st.sub pr⟩, iv⟩
theorem lc_F {J : It} {G : Hp → Prop} {Y : Nat → Hp → V → Hp → Prop} {g : TG} {tt : TT} {te : TE} {vs : List Nat} {σ : L2.St} {Qd : Hp → Prop} (w : Walk J n G Y) (P : HP α) [Mo P] (Iv : Nat → Hp → Hp → List α → Prop) (k0 : Kn F0 H1) (k : IvOk Iv n S H1 D) (h0 : Iv 0 F0 H1 [])
    (hG : ∀ i F H ys, Kn F H → Same F0 F → i ≤ n → Iv i F H ys → G H)
    (turn : ∀ i x F H H' ys, i < n → Cur T S P Iv F0 H1 D i F H ys → Y i H x H' →
      g x (wipe σ vs) H' fun σ2 H2 => wipe σ2 vs = wipe σ vs ∧ tt σ2 H2 fun b H3 =>
        if b = true then te σ2 H3 fun y H4 => ∃ acc, H4 D = some (.lst acc) ∧ acc.length < sizeLine ∧ LcI T S P Iv F0 H1 D (i + 1) (upd H4 D (.lst (acc ++ [y]))) else LcI T S P Iv F0 H1 D (i + 1) H3)
    (done : ∀ F H ys us, Stp T S F0 H1 F H → F D = none → H D = some (.lst us) → Paired (P F) us ys → Iv n F H ys → Qd H) :
    ∃ W : Nat → Nat → Hp → Prop, (∃ m, W 0 m (upd H1 D (.lst []))) ∧ ∀ i m H, W i m H →
      (J.stop i H ∧ Qd H) ∨ (J.go i H ∧ ∃ Nx : Hp → Prop, (∀ H', Nx H' → ∃ m', m' < m ∧ W (i + 1) m' H') ∧ ∀ x H', J.yld i H x H' → g x (wipe σ vs) H' fun σ2 H2 => wipe σ2 vs = wipe σ vs ∧ tt σ2 H2 fun b H3 =>
        if b = true then te σ2 H3 fun y H4 => ∃ acc, H4 D = some (.lst acc) ∧ acc.length < sizeLine ∧ Nx (upd H4 D (.lst (acc ++ [y]))) else Nx H3) := by
  have f0 : F0 D = none := k0.off k.new
  refine lc_it w (LcI T S P Iv F0 H1 D) ?_ ?_ ?_ ?_
  · exact ⟨F0, [], .refl (k0.ext (same_upd k.new)), f0, ⟨[], upd_same, .nil⟩, k.put _ _ _ _ _ h0 f0⟩
  · rintro i H hi ⟨F, ys, c⟩
    exact hG i F H ys c.kn c.sub hi c.iv
  · rintro i x H H' hi ⟨F, ys, c⟩ hy
    exact turn i x F H H' ys hi c hy
  · rintro H ⟨F, ys, c⟩
    obtain ⟨us, hd, pr⟩ := c.hd
    exact done F H ys us (c.all k k0) c.fD hd pr c.iv
end
/-! the simplest invariant: what is made so far is told by the turn -/
abbrev IvE {α : Type} (pre : Nat → List α) : Nat → Hp → Hp → List α → Prop := fun i _ _ ys => ys = pre i
theorem ivE_ok {α : Type} {pre : Nat → List α} {n : Nat} {S : Addr → Prop} {H1 : Hp} {D : Addr} (hl : ∀ i, (pre i).length ≤ i) (hn : n ≤ sizeLine) (hS : ¬ S D) (hD : H1 D = none) : IvOk (IvE pre) n S H1 D :=
  ⟨fun _ _ _ _ _ h _ => h, fun i _ _ ys h => by rw [show ys = pre i from h]; exact hl i, hn, hS, hD⟩
/-! a grammar's object -/
def nm_known : Str := "known"
def gfl (kn st od : Addr) : List (Str × V) := putF "order" (.ref od) (putF "stored" (.ref st) (putF "known" (.ref kn) []))
theorem n_ks : ¬ (("known" : Str) = "stored") := by decide +kernel
theorem n_ko : ¬ (("known" : Str) = "order") := by decide +kernel
theorem n_so : ¬ (("stored" : Str) = "order") := by decide +kernel
theorem gfl_known {kn st od : Addr} : (gfl kn st od).lookup ("known" : Str) = some (.ref kn) := by
  unfold gfl
  rw [lookup_putF, if_neg n_ko, lookup_putF, if_neg n_ks, lookup_putF, if_pos rfl]
theorem gfl_stored {kn st od : Addr} : (gfl kn st od).lookup ("stored" : Str) = some (.ref st) := by
  unfold gfl
  rw [lookup_putF, if_neg n_so, lookup_putF, if_pos rfl]
theorem gfl_order {kn st od : Addr} : (gfl kn st od).lookup ("order" : Str) = some (.ref od) := by
  unfold gfl
  rw [lookup_putF, if_pos rfl]
theorem gfl_no {kn st od : Addr} {m : Str} (h1 : ¬ m = "known") (h2 : ¬ m = "stored") (h3 : ¬ m = "order") : (gfl kn st od).lookup m = none := by
  unfold gfl
  rw [lookup_putF, if_neg h3, lookup_putF, if_neg h2, lookup_putF, if_neg h1]
  all_goals rfl
abbrev Rls := Str → List (Nat × List Str)
/-- the dict at st holds each name's rules -/
def StoAt (F : Hp) (kvs : List (Key × V)) (ns : List Str) (R : Rls) : Prop := (∀ X, (valV kvs (.inr X : Key)).isSome = true ↔ X ∈ ns) ∧ ∀ X ∈ ns, ∃ v, valV kvs (.inr X : Key) = some v ∧ LstV ruleP F v (R X)
/-- a grammar of the names ns with the rules R stands at g -/
def GramAt (C : Addr) (F : Hp) (g : Addr) (ns : List Str) (R : Rls) : Prop := ∃ dx kn st od kvs, F g = some (.ins C dx (gfl kn st od)) ∧ F kn = some (.lst (ns.map V.str)) ∧ F st = some (.dK kvs) ∧ StoAt F kvs ns R
theorem GramAt.up {C : Addr} {F F' : Hp} {g : Addr} {ns : List Str} {R : Rls} (e : Same F F') (h : GramAt C F g ns R) : GramAt C F' g ns R := by
  obtain ⟨dx, kn, st, od, kvs, h1, h2, h3, h4, h5⟩ := h
  exact ⟨dx, kn, st, od, kvs, e _ _ h1, e _ _ h2, e _ _ h3, h4, fun X hX => let ⟨v, q1, q2⟩ := h5 X hX; ⟨v, q1, Mo.up e q2⟩⟩
theorem szl {n : Nat} (h : n ≤ 1000000) : n ≤ sizeLine := Nat.le_trans h (by decide)
theorem szlt {n : Nat} (h : n ≤ 1000000) : n < sizeLine := Nat.lt_of_le_of_lt h (by decide)
end K60
namespace K60
open PySem PySem.Spec PyProof.Rows L2 LamX
/-- a def of the text as it stands behind the top -/
def Dfn (K : PySem.W.Frag) (mg : Str → Option Value) (x : Str) (st : Stmt) (ps : List Str) : Prop := ∃ f fd, Fun K x x st f fd ∧ mg x = some (.ref f) ∧ Binds K fd ps []
/-- .. a method -/
def Dfm (K : PySem.W.Frag) (C : Addr) (m qual : Str) (st : Stmt) (ps : List Str) : Prop := ∃ f fd, Fun K m qual st f fd ∧ Meth K C m f ∧ Binds K fd ps []
/-- .. an __init__ -/
def Dfi (K : PySem.W.Frag) (C : Addr) (qual : Str) (st : Stmt) (ps : List Str) : Prop := ∃ f fd, Fun K "__init__" qual st f fd ∧ Mk K C f ∧ Binds K fd ps []
/-- it keeps its promise -/
def Gd (P : Program) (w : World) (K : PySem.W.Frag) (mg : Str → Option Value) (base : Heap) (k : Nat) (x : Str) (ps : List Str) (sp : Sp) : Prop := ∃ f fd, FnOk P w K mg base CX0 k f fd ps sp ∧ mg x = some (.ref f) ∧ PySem.W.keepIn K (.ref f) = true ∧ Binds K fd ps []
def Gm (P : Program) (w : World) (K : PySem.W.Frag) (mg : Str → Option Value) (base : Heap) (k : Nat) (C : Addr) (m : Str) (ps : List Str) (sp : Sp) : Prop := ∃ f fd, FnOk P w K mg base CX0 k f fd ps sp ∧ Meth K C m f ∧ Binds K fd ps []
def Gi (P : Program) (w : World) (K : PySem.W.Frag) (mg : Str → Option Value) (base : Heap) (k : Nat) (C : Addr) (ps : List Str) (sp : Sp) : Prop := ∃ f fd, FnOk P w K mg base CX0 k f fd ps sp ∧ Mk K C f ∧ Binds K fd ps []
section
variable {P : Program} {w : World} {K : PySem.W.Frag} {mg : Str → Option Value} {base : Heap} {x m qual : Str} {st : Stmt} {N ps : List Str} {k : Nat} {sp : Sp} {C : Addr}
theorem Dfn.ok (D : Dfn K mg x st ps) (S : FnScope N ps (defScope st)) (len : ∀ vs H Q E, sp vs H Q E → vs.length = ps.length)
    (hbody : ∀ (f : Addr) (cdv : Value) (A : Around) (outer : List Env) (s : Shared) (H : Hp) (vs : List V) (Q : VK) (E : XK), Room k (A.deeper (envOfC x (defScope st) s.heap.objs.size f cdv)) → sp vs H Q E →
      ∃ t, PSs (cxOf CX0 P w K mg base N x (defScope st) f cdv A outer s H E).nox (defBody st) t ∧ t { nx := fun _ H' => Q .non H', rt := Q } (start N vs) H) : Gd P w K mg base (k + 1) x ps sp := by
  obtain ⟨f, fd, F, g, b⟩ := D
  exact ⟨f, fd, F.ok S len fun cdv A outer s H vs Q E => hbody f cdv A outer s H vs Q E, g, F.kp, b⟩
theorem Dfm.ok (D : Dfm K C m qual st ps) (S : FnScope N ps (defScope st)) (len : ∀ vs H Q E, sp vs H Q E → vs.length = ps.length)
    (hbody : ∀ (f : Addr) (cdv : Value) (A : Around) (outer : List Env) (s : Shared) (H : Hp) (vs : List V) (Q : VK) (E : XK), Room k (A.deeper (envOfC qual (defScope st) s.heap.objs.size f cdv)) → sp vs H Q E →
      ∃ t, PSs (cxOf CX0 P w K mg base N qual (defScope st) f cdv A outer s H E).nox (defBody st) t ∧ t { nx := fun _ H' => Q .non H', rt := Q } (start N vs) H) : Gm P w K mg base (k + 1) C m ps sp := by
  obtain ⟨f, fd, F, g, b⟩ := D
  exact ⟨f, fd, F.ok S len fun cdv A outer s H vs Q E => hbody f cdv A outer s H vs Q E, g, b⟩
theorem Dfi.ok (D : Dfi K C qual st ps) (S : FnScope N ps (defScope st)) (len : ∀ vs H Q E, sp vs H Q E → vs.length = ps.length)
    (hbody : ∀ (f : Addr) (cdv : Value) (A : Around) (outer : List Env) (s : Shared) (H : Hp) (vs : List V) (Q : VK) (E : XK), Room k (A.deeper (envOfC qual (defScope st) s.heap.objs.size f cdv)) → sp vs H Q E →
      ∃ t, PSs (cxOf CX0 P w K mg base N qual (defScope st) f cdv A outer s H E).nox (defBody st) t ∧ t { nx := fun _ H' => Q .non H', rt := Q } (start N vs) H) : Gi P w K mg base (k + 1) C ps sp := by
  obtain ⟨f, fd, F, g, b⟩ := D
  exact ⟨f, fd, F.ok S len fun cdv A outer s H vs Q E => hbody f cdv A outer s H vs Q E, g, b⟩
theorem Gd.imp {sp' : Sp} (G : Gd P w K mg base k x ps sp) (h : ∀ vs H Q E, sp' vs H Q E → sp vs H Q E) : Gd P w K mg base k x ps sp' := let ⟨f, fd, a, b⟩ := G; ⟨f, fd, a.imp h, b⟩
theorem Gm.imp {sp' : Sp} (G : Gm P w K mg base k C m ps sp) (h : ∀ vs H Q E, sp' vs H Q E → sp vs H Q E) : Gm P w K mg base k C m ps sp' := let ⟨f, fd, a, b⟩ := G; ⟨f, fd, a.imp h, b⟩
theorem Gd.mono {j : Nat} (G : Gd P w K mg base j x ps sp) (h : j ≤ k) : Gd P w K mg base k x ps sp := let ⟨f, fd, a, b⟩ := G; ⟨f, fd, a.mono h, b⟩
theorem Gm.mono {j : Nat} (G : Gm P w K mg base j C m ps sp) (h : j ≤ k) : Gm P w K mg base k C m ps sp := let ⟨f, fd, a, b⟩ := G; ⟨f, fd, a.mono h, b⟩
end
def tG (sp : Sp) (t : TA) : TE := fun σ H Q => t σ H fun vs H1 => sp vs H1 Q E0
def tM (C : Addr) (m : Str) (sp : Sp) (ta : TE) (t : TA) : TE := fun σ H Q => ta σ H fun x H1 => ∃ a dx fs, x = .ref a ∧ H1 a = some (.ins C dx fs) ∧ fs.lookup m = none ∧ t σ H1 fun vs H2 => sp (x :: vs) H2 Q E0
def tMk (C : Addr) (sp : Sp) (t : TA) : TE := fun σ H Q => t σ H fun vs H1 => ∀ x dx, H1 x = none → H1 dx = none → dx ≠ x → sp (.ref x :: vs) (upd (upd H1 dx (.own x)) x (.ins C dx [])) (fun v H2 => v = .non ∧ Q (.ref x) H2) E0
theorem tG_eq (sp : Sp) (t : TA) : tCall sp [] E0 t = tG sp t := by
  unfold tCall tG
  simp only [List.append_nil]
theorem tM_eq (C : Addr) (m : Str) (sp : Sp) (ta : TE) (t : TA) : tMeth C m sp [] E0 ta t = tM C m sp ta t := by
  unfold tMeth tM
  simp only [List.append_nil]
theorem tMk_eq (C : Addr) (sp : Sp) (t : TA) : tMake C sp [] E0 t = tMk C sp t := by
  unfold tMake tMk
  simp only [List.append_nil]
section
variable {X : Cx} {k j : Nat} {x m : Str} {ps : List Str} {sp : Sp} {C : Addr} {p pos apos : Pos} {e o : Expr} {es : List Expr} {ta : TE} {t : TA}
theorem pe_g (G : Gd X.prog X.w X.K X.mg X.base k x ps sp) (hr : Room j X.A) (hg : Gl X x) (ha : PA X (e :: es) t) (hk : k ≤ j := by decide) (hdb : (x == ("__debug__" : Str)) = false := by decide) (he : starEach (e :: es) X.env = (false, eval e X.env) :: starEach es X.env := by rfl) (hpl : (backTo pos (starEach es X.env)).any (·.1) = false := by rfl) :
    PE X (.Call (.Name x p) (e :: es) [] pos) (tG sp t) := by
  obtain ⟨f, fd, F, g, kp, b⟩ := G
  rw [← tG_eq]
  exact pe_call F (hr.mono hk) hg g kp b .nil pass0 ha hdb he hpl
theorem pe_m {pl : Sem Bool} (G : Gm X.prog X.w X.K X.mg X.base k C m ps sp) (c : Cls X.K C) (hr : Room j X.A) (he : PE X o ta) (ha : PA X (e :: es) t) (hk : k ≤ j := by decide)
    (hst : starEach (e :: es) X.env = (false, eval e X.env) :: starEach es X.env := by rfl) (hpl : (backTo pos (starEach es X.env)).any (·.1) = false := by rfl)
    (ht : eval (.Call (.Attribute o m apos) (e :: es) [] pos) X.env = (do
      let ov ← eval o X.env
      standAt apos.atName
      let (f, first) ← holding [ov] (getMethod ov m pl)
      callWith pos f first (backTo pos (starEach (e :: es) X.env)) (backToKw pos (keywordEach [] X.env))) := by rfl) :
    PE X (.Call (.Attribute o m apos) (e :: es) [] pos) (tM C m sp ta t) := by
  obtain ⟨f, fd, F, g, b⟩ := G
  rw [← tM_eq]
  exact pe_meth he c g F (hr.mono hk) b .nil pass0 ha hst hpl ht
theorem pe_m0 {pl : Sem Bool} (G : Gm X.prog X.w X.K X.mg X.base k C m ps sp) (c : Cls X.K C) (hr : Room j X.A) (he : PE X o ta) (hk : k ≤ j := by decide)
    (ht : eval (.Call (.Attribute o m apos) [] [] pos) X.env = (do
      let ov ← eval o X.env
      standAt apos.atName
      let (f, first) ← holding [ov] (getMethod ov m pl)
      callWith pos f first (backTo pos (starEach [] X.env)) (backToKw pos (keywordEach [] X.env))) := by rfl) :
    PE X (.Call (.Attribute o m apos) [] [] pos) (tM C m sp ta tNil) := by
  obtain ⟨f, fd, F, g, b⟩ := G
  rw [← tM_eq]
  exact pe_meth0 he c g F (hr.mono hk) b .nil pass0 ht
theorem pe_mk (G : Gi X.prog X.w X.K X.mg X.base k C ps sp) (hr : Room j X.A) (hg : Gl X x) (hm : X.mg x = some (.ref C)) (ha : PA X (e :: es) t) (hk : k + 1 ≤ j := by decide) (hdb : (x == ("__debug__" : Str)) = false := by decide) (he : starEach (e :: es) X.env = (false, eval e X.env) :: starEach es X.env := by rfl) (hpl : (backTo pos (starEach es X.env)).any (·.1) = false := by rfl) :
    PE X (.Call (.Name x p) (e :: es) [] pos) (tMk C sp t) := by
  obtain ⟨f, fd, F, M, b⟩ := G
  rw [← tMk_eq]
  exact pe_make M F (hr.mono hk) hg hm b .nil pass0 ha hdb he hpl
end
/-- the built-ins' names are free -/
structure Blt (mg : Str → Option Value) : Prop where
  len : mg "len" = none
  set_ : mg "set" = none
  sorted : mg "sorted" = none
  sum : mg "sum" = none
  min : mg "min" = none
  all : mg "all" = none
  dict : mg "dict" = none
  list : mg "list" = none
  tuple : mg "tuple" = none
  range : mg "range" = none
  enum : mg "enumerate" = none
  int : mg "int" = none
/-- the class Grammar, the class Counts -/
structure GrC (K : PySem.W.Frag) (C : Addr) : Prop where
  cl : Cls K C
  nk : NoAttr K C "known"
  ns : NoAttr K C "stored"
  no : NoAttr K C "order"
structure CoC (K : PySem.W.Frag) (C : Addr) : Prop where
  cl : Cls K C
  ng : NoAttr K C "grammar"
  nf : NoAttr K C "found"
theorem hu64 {A : Around} {k : Nat} (hr : Room k A) : A.units + 64 < cLine := hr.units
end K60
namespace K60
open PySem PySem.Spec PyProof.Rows L2 LamX
/-! short names of readings -/
abbrev rAddI : R2 := rI0 fun i j => .int (i + j)
abbrev rSubI : R2 := rI0 fun i j => .int (i - j)
abbrev rMulI : R2 := rI CMul fun i j => .int (i * j)
abbrev rModI : R2 := rI (fun _ j => 0 < j) fun i j => .int (i % j)
abbrev rDivI : R2 := rI CDivW fun i j => .int (i / j)
abbrev rPowI : R2 := rI CPow fun i j => .int (i ^ j.toNat)
abbrev rAddS : R2 := fun x y H Q => ∃ i j, x = .str i ∧ y = .str j ∧ i.length + j.length ≤ sizeLine ∧ Q (.str (i ++ j)) H
abbrev rLtI : R2 := rI0 fun i j => .bl (decide (i < j))
abbrev rLeI : R2 := rI0 fun i j => .bl (decide (i ≤ j))
abbrev rGtI : R2 := rI0 fun i j => .bl (decide (j < i))
abbrev rGeI : R2 := rI0 fun i j => .bl (decide (j ≤ i))
abbrev rLtS : R2 := fun x y H Q => ∃ i j, x = .str i ∧ y = .str j ∧ Q (.bl (decide (i.cps.toList < j.cps.toList))) H
abbrev rInSgn : R2 := fun x y H Q => ∃ (c : Nat) (z : Str), x = .str ⟨#[c]⟩ ∧ y = .str z ∧ Q (.bl (decide (c ∈ z.cps.toList))) H
abbrev rIsNo : R2 := fun x y H Q => y = .non ∧ Q (.bl (decide (x = .non))) H
abbrev rIsNotNo : R2 := fun x y H Q => y = .non ∧ Q (.bl (!decide (x = .non))) H
abbrev rLenStr : List V → Hp → VK → Prop := fun xs H Q => ∃ z, xs = [.str z] ∧ z.length ≤ sizeLine ∧ Q (.int z.length) H
abbrev rLenSeq (K : PySem.W.Frag) : List V → Hp → VK → Prop := fun xs H Q => ∃ p ys, xs = [.ref p] ∧ (SqL K H p ys ∨ SqT K H p ys) ∧ Q (.int ys.length) H
abbrev rListOf (K : PySem.W.Frag) : List V → Hp → VK → Prop := fun xs H Q => ∃ p ys, xs = [.ref p] ∧ (SqL K H p ys ∨ SqT K H p ys) ∧ ∀ l, H l = none → Q (.ref l) (upd H l (.lst ys))
abbrev rInt1 : List V → Hp → VK → Prop := fun xs H Q => (∃ i, xs = [.int i] ∧ Q (.int i) H) ∨ ∃ k, xs = [.bl k] ∧ Q (.int (if k then 1 else 0)) H
abbrev rJoin (K : PySem.W.Frag) : V → List V → Hp → VK → Prop := fun x xs H Q => ∃ a p, ∃ ys : List Str, x = .str a ∧ xs = [.ref p] ∧ (SqL K H p (ys.map V.str) ∨ SqT K H p (ys.map V.str)) ∧ (ys.map (·.length)).sum + ys.length * a.length ≤ 16777216 ∧ Q (.str (Txt.join a ys)) H
theorem hu65 {A : Around} {k : Nat} (hr : Room k A) : A.units + 65 < cLine := by
  have := hr.un
  omega
/-! what all promises lean on -/
structure Cfg where
  P : Program
  w : World
  T : Tb
  CG : Addr
  CC : Addr
def onat : Option Nat → V
  | none => .non
  | some n => .int (n : Int)
/-! the promises of the grammar's methods, of names, norms -/
def sp_has (c : Cfg) : Sp := fun vs H Q _ => ∃ (F : Hp) (g : Addr) (ns : List Str) (R : Rls) (X : Str), vs = [.ref g, .str X] ∧ Kn F H ∧ GramAt c.CG F g ns R ∧ Q (.bl (decide (X ∈ ns))) H
def sp_names (c : Cfg) : Sp := fun vs H Q _ => ∃ (F : Hp) (g : Addr) (ns : List Str) (R : Rls), vs = [.ref g] ∧ Kn F H ∧ GramAt c.CG F g ns R ∧ ∀ p, H p = none → Q (.ref p) (upd H p (.lst (ns.map V.str)))
def sp_rules_of (c : Cfg) : Sp := fun vs H Q _ => ∃ (F : Hp) (g : Addr) (ns : List Str) (R : Rls) (X : Str), vs = [.ref g, .str X] ∧ Kn F H ∧ GramAt c.CG F g ns R ∧ X ∈ ns ∧ (R X).length ≤ 1000 ∧
  ∀ F' H' a us, Stp c.T S0 F H F' H' → Fr H a → F' a = none → H' a = some (.lst us) → Paired (ruleP F') us (R X) → Q (.ref a) H'
def sp_look_at_names (c : Cfg) : Sp := fun vs H Q _ => ∃ (F : Hp) (g : Addr) (ns : List Str) (R : Rls) (a : Addr) (row : List Str), vs = [.ref g, .ref a] ∧ Kn F H ∧ GramAt c.CG F g ns R ∧ H a = some (.lst (row.map V.str)) ∧ (∀ X ∈ row, X ∈ ns) ∧ Q .non H
def sp_added_up (c : Cfg) : Sp := fun vs H Q _ => ∃ (d : Addr) (kvs : List (Key × V)) (a : Addr) (row : List Str) (f : Str → Option Nat), vs = [.ref d, .ref a] ∧ H d = some (.dK kvs) ∧ H a = some (.lst (row.map V.str)) ∧ row.length ≤ 1000 ∧ (∀ X ∈ row, valV kvs (.inr X : Key) = some (onat (f X))) ∧ ∀ H', Same H H' → Q (onat (added f row)) H'
theorem V.str_inj {a b : Str} (h : V.str a = V.str b) : a = b := by injection h
theorem ref_inj {a b : Addr} (h : V.ref a = V.ref b) : a = b := by injection h
theorem Same.up {H : Hp} {p : Addr} {o : HO} (h : H p = Option.none) : Same H (upd H p o) := same_upd h
section
variable {c : Cfg} {K : PySem.W.Frag} {mg : Str → Option Value} {base : Heap}
theorem sc_Grammar_has : FnScope ["self", "name"] ["self", "name"] (defScope s_Grammar_has) := ⟨rfl, rfl, rfl, by decide +kernel, rfl, by decide +kernel, by decide +kernel⟩
theorem ok_has (D : Dfm K c.CG "has" "Grammar.has" s_Grammar_has (["self", "name"])) (Gr : GrC K c.CG) : Gm c.P c.w K mg base 1 c.CG "has" (["self", "name"]) (sp_has c) := by
  refine D.ok sc_Grammar_has (fun vs H Q E h => ?_) (fun f cdv A outer s H vs Q E hr h => ?_)
  · obtain ⟨F, g, ns, R, X, rfl, _⟩ := h
    rfl
  obtain ⟨F, g, ns, R, X, rfl, kn, ⟨dx, kn1, st, od, kvs, h1, h2, h3, h4, h5⟩, q⟩ := h
  refine ⟨_, (pss_one (ps_ret (pe_cmp (pc_din (hu_of hr) (pv 1) (pe_fld (pv 0) rfl))))), ?_⟩
  refine ⟨_, rfl, _, rfl, g, c.CG, dx, _, _, rfl, (kn _ _ h1).1, Gr.cl, Gr.ns, gfl_stored, st, _, rfl, DGet.k (k := Sum.inr X) (kn _ _ h3).1, ?_⟩
  have e : (valV kvs (Sum.inr X : Key)).isSome = decide (X ∈ ns) := by
    by_cases hX : X ∈ ns
    · rw [decide_eq_true hX]; exact (h4 X).mpr hX
    · rw [decide_eq_false hX]
      cases e : (valV kvs (Sum.inr X : Key)).isSome with
      | false => rfl
      | true => exact absurd ((h4 X).mp e) hX
  show Q (.bl (valV kvs (Sum.inr X : Key)).isSome) H
  rw [e]
  exact q
theorem sc_Grammar_names : FnScope ["self"] ["self"] (defScope s_Grammar_names) := ⟨rfl, rfl, rfl, by decide +kernel, rfl, by decide +kernel, by decide +kernel⟩
theorem ok_names (D : Dfm K c.CG "names" "Grammar.names" s_Grammar_names (["self"])) (Gr : GrC K c.CG) (B : Blt mg) : Gm c.P c.w K mg base 1 c.CG "names" (["self"]) (sp_names c) := by
  refine D.ok sc_Grammar_names (fun vs H Q E h => ?_) (fun f cdv A outer s H vs Q E hr h => ?_)
  · obtain ⟨F, g, ns, R, rfl, _⟩ := h
    rfl
  obtain ⟨F, g, ns, R, rfl, kn, ⟨dx, kn1, st, od, kvs, h1, h2, h3, h4, h5⟩, q⟩ := h
  refine ⟨_, (pss_one (ps_ret (pe_callTy call_list_of (by rfl) B.list (by decide +kernel) (pa_cons (pe_fld (pv 0) rfl) pa_nil)))), ?_⟩
  exact ⟨_, rfl, g, c.CG, dx, _, _, rfl, (kn _ _ h1).1, Gr.cl, Gr.nk, gfl_known, kn1, _, rfl, .inl (SqL.of (kn _ _ h2).1), fun l hl => q l hl⟩
theorem sc_look_at_names : FnScope ["grammar", "row", "name"] ["grammar", "row"] (defScope s_look_at_names) := ⟨rfl, rfl, rfl, by decide +kernel, rfl, by decide +kernel, by decide +kernel⟩
theorem ok_look_at_names (D : Dfn K mg "look_at_names" s_look_at_names (["grammar", "row"])) (Gr : GrC K c.CG) (M_has : Gm c.P c.w K mg base 1 c.CG "has" (["self", "name"]) (sp_has c)) :
    Gd c.P c.w K mg base 2 "look_at_names" (["grammar", "row"]) (sp_look_at_names c) := by
  refine D.ok sc_look_at_names (fun vs H Q E h => ?_) (fun f cdv A outer s H vs Q E hr h => ?_)
  · obtain ⟨F, g, ns, R, a, row, rfl, _⟩ := h
    rfl
  obtain ⟨F, g, ns, R, a, row, rfl, kn, G, ha, hsub, q⟩ := h
  obtain ⟨dx, kn1, st, od, kvs, h1, _⟩ := id G
  refine ⟨_, (pss_one (ps_for PassesOwn.never rfl (pi_list (pv 1)) (pg_name (i := 2) sc_look_at_names.nd rfl (Or.inl rfl)) (pss_one (ps_if (pt_not (pt_val (pe_m M_has Gr.cl hr (pv 0) (pa_cons (pv 2) pa_nil)))) (pss_one ps_never) pss_nil)))), ?_⟩
  refine ⟨_, rfl, a, rfl, ⟨_, SqL.of ha⟩, for_it (walk_list (K := K) (xs := row.map V.str)) (fun i σ H' => H' = H ∧ ∃ x2, σ = [some (.ref g), some (.ref a), x2]) ⟨rfl, none, rfl⟩ (fun i σ H' _ h => by rw [h.1]; exact SqL.of ha) ?_ ?_⟩
  · rintro i x σ H1 H' hi ⟨rfl, x2, rfl⟩ ⟨rfl, hx⟩
    rw [List.getElem?_map] at hx
    obtain ⟨X, hX, rfl⟩ := Option.map_eq_some_iff.mp hx
    have hm : X ∈ ns := hsub X (List.mem_of_getElem? hX)
    refine ⟨_, rfl, g, dx, _, rfl, (kn _ _ h1).1, gfl_no (by decide +kernel) (by decide +kernel) (by decide +kernel), _, rfl, F, g, ns, R, X, rfl, kn, G, _, rfl, ?_⟩
    rw [decide_eq_true hm]
    exact iteF ⟨rfl, _, rfl⟩
  · rintro σ H' ⟨rfl, x2, rfl⟩
    exact q
end
end K60
namespace K60
open PySem PySem.Spec PyProof.Rows L2 LamX
theorem take_snoc {α : Type} {l : List α} {i : Nat} {x : α} (h : l[i]? = some x) : l.take (i + 1) = l.take i ++ [x] := by
  rw [List.take_add_one, h]
  rfl
theorem len_take {α : Type} (l : List α) (i : Nat) : (l.take i).length ≤ i := by
  rw [List.length_take]
  omega
section
variable {c : Cfg} {K : PySem.W.Frag} {mg : Str → Option Value} {base : Heap}
theorem sc_Grammar_rules_of : FnScope ["self", "name", "letter", "row"] ["self", "name"] (defScope s_Grammar_rules_of) := ⟨rfl, rfl, rfl, by decide +kernel, rfl, by decide +kernel, by decide +kernel⟩
theorem ok_rules_of (D : Dfm K c.CG "rules_of" "Grammar.rules_of" s_Grammar_rules_of (["self", "name"])) (Gr : GrC K c.CG) (B : Blt mg) : Gm c.P c.w K mg base 1 c.CG "rules_of" (["self", "name"]) (sp_rules_of c) := by
  refine D.ok sc_Grammar_rules_of (fun vs H Q E h => ?_) (fun f cdv A outer s H vs Q E hr h => ?_)
  · obtain ⟨F, g, ns, R, X, rfl, _⟩ := h
    rfl
  obtain ⟨F, g, ns, R, X, rfl, kn, ⟨dx, kn1, st, od, kvs, h1, h2, h3, h4, h5⟩, hX, hlen, q⟩ := h
  obtain ⟨v, hv, a, us, rfl, ha, pr⟩ := h5 X hX
  have ls := Paired.len pr
  refine ⟨_, (pss_one (ps_ret (pe_lc (own := [("letter", 2), ("row", 3)]) (wi := (iList K (tDGet (tFld K (tVar 0) "stored") (tVar 1)))) (g := (gTup K 2 (gCons (gName 2) (gCons (gName 3) gNil)))) (tt := tYes) (te := (tTup (tCons (tVar 2) (tCons (tCB (rListOf K) (tCons (tVar 3) tNil)) tNil)))) rfl sc_Grammar_rules_of.nd (pi_list (pe_dget (hu_of hr) (pe_fld (pv 0) rfl) (pv 1) (fun _ _ => rfl))) (blkOk_by (own := [("letter", 2), ("row", 3)]) (N := ["self", "name", "letter", "row"]) (sc := defScope s_Grammar_rules_of) (by decide +kernel)) (fun _ _ _ _ _ => (pg_tup rfl (pgs_cons (pg_name (i := 2) sc_Grammar_rules_of.nd rfl (Or.inl rfl)) (pgs_cons (pg_name (i := 3) sc_Grammar_rules_of.nd rfl (Or.inl rfl)) pgs_nil)))) (fun _ _ _ _ _ => pts_nil) (fun _ _ _ _ _ => (pe_tup (pa_cons (pv 2) (pa_cons (pe_callTy call_list_of (by rfl) B.list (by decide +kernel) (pa_cons (pv 3) pa_nil)) pa_nil))))))), ?_⟩
  refine ⟨_, rfl, g, c.CG, dx, _, _, rfl, (kn _ _ h1).1, Gr.cl, Gr.ns, gfl_stored, _, rfl, st, .ref a, rfl, by rw [← hv]; exact DGet.k (k := Sum.inr X) (kn _ _ h3).1, a, rfl, ⟨_, SqL.of (kn _ _ ha).1⟩, fun D hD => ?_⟩
  have ok : IvOk (IvE fun i => (R X).take i) us.length S0 H D := ivE_ok (fun i => len_take _ i) (szl (by omega)) (fun h => h) hD
  refine lc_F (T := c.T) (S := S0) (walk_list (K := K) (a := a) (xs := us)) ruleP (IvE fun i => (R X).take i) kn ok rfl (fun i F' H' ys k' e _ _ => SqL.of (k' _ _ (e _ _ ha)).1) ?_ ?_
  · rintro i x F1 H1 H' ys hi cu ⟨rfl, hx⟩
    obtain ⟨⟨l, row⟩, hy, t, u, w, rfl, ht, hu, b, rfl, hb⟩ := Paired.at pr hx
    obtain rfl : u = V.str ⟨#[l]⟩ := hu
    have k1 := cu.kn
    refine ⟨t, _, rfl, SqT.of (k1 _ _ (cu.sub _ _ ht)).1, rfl, _, _, rfl, _, _, rfl, rfl, rfl, ?_⟩
    refine ⟨_, rfl, _, rfl, b, _, rfl, .inl (SqL.of (k1 _ _ (cu.sub _ _ hb)).1), fun p hp => ⟨by show 2 ≤ sizeLine; decide, fun q' hq' => ?_⟩⟩
    have s1 : Stp c.T S0 F1 H' (upd F1 p (.lst (row.map V.str))) (upd H' p (.lst (row.map V.str))) := .data k1 hp (nt_lst _)
    have s2 := s1.trans (.data s1.kn hq' (nt_tup [.str ⟨#[l]⟩, .ref p]))
    refine cu.put ok hi s2 (z := (l, row)) ⟨q', _, _, rfl, upd_same, rfl, p, rfl, ?_⟩ ?_
    · rw [upd_ne (ne_of_none (o := .lst (row.map V.str)) (by rw [upd_same]) hq'), upd_same]
    · show ys ++ [(l, row)] = (R X).take (i + 1)
      rw [take_snoc hy, show ys = (R X).take i from cu.iv]
  · intro F' H' ys us' st' fD hd pr' iv
    have e : ys = R X := by
      rw [show ys = (R X).take us.length from iv, List.take_of_length_le (by omega)]
    rw [e] at pr'
    exact q F' H' D us' st' (.of hD) fD hd pr'
theorem onat_flat (o : Option Nat) : flatV (onat o) = true := by cases o <;> rfl
theorem eqv_non (o : Option Nat) : eqV (onat o) .non = o.isNone := by cases o <;> rfl
theorem inV_non {f : Str → Option Nat} : ∀ row : List Str, inV .non (row.map fun X => onat (f X)) = (added f row).isNone
  | [] => rfl
  | X :: r => by
    show (eqV (onat (f X)) .non || inV .non (r.map fun X => onat (f X))) = _
    rw [eqv_non, inV_non r]
    show _ = (match f X, added f r with | some a, some b => some (a + b) | _, _ => none).isNone
    cases f X with
    | none => rfl
    | some a =>
      cases added f r with
      | none => rfl
      | some b => rfl
theorem added_sum {f : Str → Option Nat} : ∀ {row : List Str} {n : Nat}, added f row = some n → ∃ ms : List Int, row.map (fun X => onat (f X)) = ms.map V.int ∧ ms.sum = (n : Int)
  | [], n, h => by cases h; exact ⟨[], rfl, rfl⟩
  | X :: r, n, h => by
    unfold added at h
    split at h
    · rename_i a b e1 e2
      obtain ⟨ms, h1, h2⟩ := added_sum e2
      have e3 := Option.some.inj h
      refine ⟨(a : Int) :: ms, ?_, ?_⟩
      · rw [List.map_cons, List.map_cons, h1, e1]; rfl
      · rw [List.sum_cons, h2, ← e3]; omega
    · cases h
theorem sc_added_up : FnScope ["norms", "row", "some", "name"] ["norms", "row"] (defScope s_added_up) := ⟨rfl, rfl, rfl, by decide +kernel, rfl, by decide +kernel, by decide +kernel⟩
theorem ok_added_up (D : Dfn K mg "added_up" s_added_up (["norms", "row"])) (B : Blt mg) : Gd c.P c.w K mg base 1 "added_up" (["norms", "row"]) (sp_added_up c) := by
  refine D.ok sc_added_up (fun vs H Q E h => ?_) (fun f cdv A outer s H vs Q E hr h => ?_)
  · obtain ⟨d, kvs, a, row, f, rfl, _⟩ := h
    rfl
  obtain ⟨d, kvs, a, row, f, rfl, hd, ha, hl, hv, q⟩ := h
  refine ⟨_, (pss_cons (ps_setLc (i := 2) (own := [("name", 3)]) (wi := (iList K (tVar 1))) (g := (gName 3)) (tt := tYes) (te := (tDGet (tVar 0) (tVar 3))) rfl sc_added_up.nd rfl rfl (sw_true rfl rfl rfl (by decide +kernel)) (pi_list (pv 1)) (blkOk_by (own := [("name", 3)]) (N := ["norms", "row", "some", "name"]) (sc := defScope s_added_up) (by decide +kernel)) (fun _ _ _ _ _ => (pg_name (i := 3) sc_added_up.nd rfl (Or.inl rfl))) (fun _ _ _ _ _ => pts_nil) (fun _ _ _ _ _ => (pe_dget (hu_of hr) (pv 0) (pv 3) (fun _ _ => rfl)))) (pss_cons (ps_if (pt_cmpR op_in_seq pe_non (pv 2) rfl) (pss_one (ps_ret pe_non)) pss_nil) (pss_one (ps_ret (pe_callB (cr_sum rfl) (by rfl) B.sum (by decide +kernel) (pa_cons (pv 2) pa_nil)))))), ?_⟩
  refine ⟨_, rfl, a, rfl, ⟨_, SqL.of ha⟩, fun D hD => ?_⟩
  have nda : ∀ {b : Addr} {o : HO}, H b = some o → b ≠ D := fun h => ne_of_none h hD
  refine lc_it (walk_list (K := K) (a := a) (xs := row.map V.str)) (fun i H' => H' = upd H D (.lst ((row.take i).map fun X => onat (f X)))) rfl (fun i H' _ e => by rw [e]; exact SqL.of (by rw [upd_ne (nda ha)]; exact ha)) ?_ ?_
  · rintro i x H1 H' hi rfl ⟨rfl, hx⟩
    rw [List.getElem?_map] at hx
    obtain ⟨X, hX, rfl⟩ := Option.map_eq_some_iff.mp hx
    have hm := hv X (List.mem_of_getElem? hX)
    refine ⟨rfl, ?_⟩
    refine ⟨_, rfl, _, rfl, d, onat (f X), rfl, by rw [← hm]; exact DGet.k (k := Sum.inr X) (by rw [upd_ne (nda hd)]; exact hd), _, upd_same, ?_, ?_⟩
    · rw [List.length_map]
      exact szlt (Nat.le_trans (len_take _ _) (by rw [List.length_map] at hi; omega))
    · rw [upd_upd, take_snoc hX, List.map_append]
      rfl
  · rintro H' rfl
    rw [List.length_map, List.take_length]
    have hs : SqL K (upd H D (.lst (row.map fun X => onat (f X)))) D (row.map fun X => onat (f X)) := SqL.of upd_same
    refine ⟨_, rfl, D, _, rfl, .inl hs, rfl, ?_, _, rfl, ?_⟩
    · rw [List.all_eq_true]
      intro y hy
      obtain ⟨X, _, rfl⟩ := List.mem_map.mp hy
      exact onat_flat _
    · rw [if_neg Bool.false_ne_true, inV_non]
      cases e : added f row with
      | none =>
        refine iteT ?_
        have := q _ (same_upd hD (o := .lst (row.map fun X => onat (f X))))
        rw [e] at this
        exact this
      | some n =>
        refine iteF ?_
        obtain ⟨ms, h1, h2⟩ := added_sum e
        refine ⟨_, rfl, D, ms, rfl, by rw [← h1]; exact hs, ?_⟩
        have := q _ (same_upd hD (o := .lst (row.map fun X => onat (f X))))
        rw [e] at this
        rw [h2]
        exact this
end
end K60
namespace K60
open PySem PySem.Spec PyProof.Rows L2 LamX
/-! == of lists -/
theorem str_beq {a b : Str} : (a == b) = decide (a = b) := by
  by_cases h : a = b
  · subst h; rw [decide_eq_true rfl]; exact beq_self_eq_true a
  · rw [decide_eq_false h]; exact beq_eq_false_iff_ne.mpr h
def sok (X : Str) : Prop := PyData.strOk X = true
theorem sok_wrd {w : List Nat} (h : ∀ l ∈ w, l < 1114112) : sok (wrd w) := by
  show w.toArray.all (· < 0x110000) = true
  rw [Array.all_eq_true']
  intro x hx
  exact decide_eq_true (h x (by simpa using hx))
def pdS (row : List Str) : PyData := .list (row.map PyData.str)
def pdI (is : List Int) : PyData := .list (is.map PyData.int)
section
variable {K : PySem.W.Frag} {H : Hp} {a : Addr}
theorem dpAll_s : ∀ row : List Str, DpAll K H (row.map V.str) (row.map PyData.str)
  | [] => .nil
  | x :: r => .cons (.str x) (dpAll_s r)
theorem dpAll_i : ∀ row : List Int, DpAll K H (row.map V.int) (row.map PyData.int)
  | [] => .nil
  | x :: r => .cons (.int x) (dpAll_i r)
theorem dp_s {row : List Str} (h : SqL K H a (row.map V.str)) : Dp K H (.ref a) (pdS row) := .lst h (dpAll_s row)
theorem dp_i {row : List Int} (h : SqL K H a (row.map V.int)) : Dp K H (.ref a) (pdI row) := .lst h (dpAll_i row)
theorem dep_s : ∀ row : List Str, PyData.depthAll (row.map PyData.str) = 0
  | [] => rfl
  | x :: r => by
    show max (PyData.depth (.str x)) (PyData.depthAll (r.map PyData.str)) = 0
    rw [dep_s r]; rfl
theorem dep_i : ∀ row : List Int, PyData.depthAll (row.map PyData.int) = 0
  | [] => rfl
  | x :: r => by
    show max (PyData.depth (.int x)) (PyData.depthAll (r.map PyData.int)) = 0
    rw [dep_i r]; rfl
theorem lay_s : ∀ {row : List Str}, (∀ X ∈ row, sok X) → PyData.canLayAll0 (row.map PyData.str) = true
  | [], _ => rfl
  | x :: r, h => by
    show (PyData.canLay0 (.str x) && PyData.canLayAll0 (r.map PyData.str)) = true
    rw [lay_s fun Y hY => h Y (List.mem_cons_of_mem _ hY), Bool.and_true]
    exact h x (List.mem_cons_self ..)
theorem lay_i : ∀ {row : List Int}, PyData.canLayAll0 (row.map PyData.int) = true
  | [] => rfl
  | x :: r => by
    show (PyData.canLay0 (.int x) && PyData.canLayAll0 (r.map PyData.int)) = true
    rw [lay_i (row := r), Bool.and_true]
    rfl
theorem shp_s {row : List Str} (h : ∀ X ∈ row, sok X) : SeqAt.shaped (pdS row) = true := by
  unfold SeqAt.shaped
  rw [show (pdS row).canLay0 = PyData.canLayAll0 (row.map PyData.str) from rfl, lay_s h, show (pdS row).depth = PyData.depthAll (row.map PyData.str) + 1 from rfl, dep_s]
  rfl
theorem shp_i {row : List Int} : SeqAt.shaped (pdI row) = true := by
  unfold SeqAt.shaped
  rw [show (pdI row).canLay0 = PyData.canLayAll0 (row.map PyData.int) from rfl, lay_i, show (pdI row).depth = PyData.depthAll (row.map PyData.int) + 1 from rfl, dep_i]
  rfl
theorem eqv_s : ∀ r s : List Str, PyData.eqvAll (r.map PyData.str) (s.map PyData.str) = decide (r = s)
  | [], [] => rfl
  | [], y :: s => by rw [decide_eq_false (fun h => by cases h)]; rfl
  | x :: r, [] => by rw [decide_eq_false (fun h => by cases h)]; rfl
  | x :: r, y :: s => by
    show ((x == y) && PyData.eqvAll (r.map PyData.str) (s.map PyData.str)) = _
    rw [eqv_s r s, str_beq]
    by_cases h : x = y
    · by_cases h2 : r = s
      · rw [decide_eq_true h, decide_eq_true h2, decide_eq_true (by rw [h, h2])]; rfl
      · rw [decide_eq_true h, decide_eq_false h2, decide_eq_false (fun z => h2 (List.cons.inj z).2)]; rfl
    · rw [decide_eq_false h, Bool.false_and, decide_eq_false (fun z => h (List.cons.inj z).1)]
theorem eqv_i : ∀ r s : List Int, PyData.eqvAll (r.map PyData.int) (s.map PyData.int) = decide (r = s)
  | [], [] => rfl
  | [], y :: s => by rw [decide_eq_false (fun h => by cases h)]; rfl
  | x :: r, [] => by rw [decide_eq_false (fun h => by cases h)]; rfl
  | x :: r, y :: s => by
    show ((x == y) && PyData.eqvAll (r.map PyData.int) (s.map PyData.int)) = _
    rw [eqv_i r s]
    by_cases h : x = y
    · by_cases h2 : r = s
      · rw [decide_eq_true h2, decide_eq_true (by rw [h, h2]), h]; simp
      · rw [decide_eq_false h2, decide_eq_false (fun z => h2 (List.cons.inj z).2), Bool.and_false]
    · rw [decide_eq_false (fun z => h (List.cons.inj z).1), beq_eq_false_iff_ne.mpr h, Bool.false_and]
/-- == of lists of texts, of ints -/
theorem eqD_s {b : Addr} {r s : List Str} {Q : VK} (hr : ∀ X ∈ r, sok X) (hs : ∀ X ∈ s, sok X) (h1 : SqL K H a (r.map V.str)) (h2 : SqL K H b (s.map V.str)) (q : Q (.bl (decide (r = s))) H) : rEqD K (.ref a) (.ref b) H Q :=
  ⟨_, _, dp_s h1, dp_s h2, shp_s hr, shp_s hs, by rw [← eqv_s] at q; exact q⟩
theorem eqD_i {b : Addr} {r s : List Int} {Q : VK} (h1 : SqL K H a (r.map V.int)) (h2 : SqL K H b (s.map V.int)) (q : Q (.bl (decide (r = s))) H) : rEqD K (.ref a) (.ref b) H Q :=
  ⟨_, _, dp_i h1, dp_i h2, shp_i, shp_i, by rw [← eqv_i] at q; exact q⟩
theorem eqD_int {i j : Int} {Q : VK} (q : Q (.bl (decide (i = j))) H) : rEqD K (.int i) (.int j) H Q :=
  ⟨_, _, .int i, .int j, rfl, rfl, by
    have e : PyData.eqv (.int i) (.int j) = decide (i = j) := by
      show (i == j) = _
      by_cases h : i = j
      · rw [decide_eq_true h, h]; simp
      · rw [decide_eq_false h]; exact beq_eq_false_iff_ne.mpr h
    rw [e]; exact q⟩
/-- x == [] -/
theorem eqD_nil {b : Addr} {r : List Str} {Q : VK} (hr : ∀ X ∈ r, sok X) (h1 : SqL K H a (r.map V.str)) (h2 : SqL K H b []) (q : Q (.bl (decide (r = []))) H) : rEqD K (.ref a) (.ref b) H Q := eqD_s hr (s := []) (fun _ h => nomatch h) h1 h2 q
theorem eqD_non {b : Addr} {Q : VK} (h2 : SqL K H b []) (q : Q (.bl false) H) : rEqD K .non (.ref b) H Q := ⟨_, _, .non, .lst h2 .nil, rfl, rfl, q⟩
theorem neD_s {b : Addr} {r s : List Str} {Q : VK} (hr : ∀ X ∈ r, sok X) (hs : ∀ X ∈ s, sok X) (h1 : SqL K H a (r.map V.str)) (h2 : SqL K H b (s.map V.str)) (q : Q (.bl (!decide (r = s))) H) : rNeD K (.ref a) (.ref b) H Q :=
  ⟨_, _, dp_s h1, dp_s h2, shp_s hr, shp_s hs, by rw [← eqv_s] at q; exact q⟩
theorem neD_i {b : Addr} {r s : List Int} {Q : VK} (h1 : SqL K H a (r.map V.int)) (h2 : SqL K H b (s.map V.int)) (q : Q (.bl (!decide (r = s))) H) : rNeD K (.ref a) (.ref b) H Q :=
  ⟨_, _, dp_i h1, dp_i h2, shp_i, shp_i, by rw [← eqv_i] at q; exact q⟩
theorem neD_nil {b : Addr} {r : List Str} {Q : VK} (hr : ∀ X ∈ r, sok X) (h1 : SqL K H a (r.map V.str)) (h2 : SqL K H b []) (q : Q (.bl (!decide (r = []))) H) : rNeD K (.ref a) (.ref b) H Q := neD_s hr (s := []) (fun _ h => nomatch h) h1 h2 q
end
/-! places of a list -/
theorem atI_nat {α : Type} {xs : List α} {i : Nat} {x : α} (h : xs[i]? = some x) : atI xs (i : Int) = some x := by
  have hl := (List.getElem?_eq_some_iff.mp h).1
  unfold atI ixN
  rw [if_pos (Int.natCast_nonneg i), if_pos (Int.ofNat_lt.mpr hl)]
  exact h
theorem cutV_from {xs : List V} {i : Nat} (h : i ≤ xs.length) : cutV xs (some (i : Int)) none = xs.drop i := by
  unfold cutV
  rw [HT.sIx_nat, HT.sIx_none, Nat.min_eq_left h, List.take_of_length_le (by rw [List.length_drop]; exact Nat.le_refl _)]
theorem cutV_to {xs : List V} {i : Nat} : cutV xs none (some (i : Int)) = xs.take i := by
  unfold cutV
  rw [HT.sIx_none, HT.sIx_nat, List.drop_zero, Nat.sub_zero]
  by_cases h : i ≤ xs.length
  · rw [Nat.min_eq_left h]
  · rw [Nat.min_eq_right (by omega), List.take_of_length_le (by omega), List.take_of_length_le (by omega)]
end K60
namespace K60
open PySem PySem.Spec PyProof.Rows L2 LamX
/-! the norms -/
def fkv (f : Str → Option Nat) (ns : List Str) : List (Key × V) := ns.map fun X => ((.inr X : Key), onat (f X))
def nkv (ν : Str → Nat) (ns : List Str) : List (Key × V) := fkv (fun X => some (ν X)) ns
theorem fkv_val {f : Str → Option Nat} {X : Str} : ∀ {ns : List Str}, X ∈ ns → valV (fkv f ns) (.inr X : Key) = some (onat (f X))
  | Y :: r, h => by
    by_cases e : Y = X
    · subst e; exact valV_pos (p := ((.inr Y : Key), onat (f Y))) rfl
    · show valV (((.inr Y : Key), onat (f Y)) :: fkv f r) (.inr X : Key) = _
      rw [valV_neg (p := ((.inr Y : Key), onat (f Y))) (fun z => e (Sum.inr.inj z))]
      exact fkv_val ((List.mem_cons.mp h).resolve_left fun z => e z.symm)
theorem nkv_val {ν : Str → Nat} {X : Str} {ns : List Str} (h : X ∈ ns) : valV (nkv ν ns) (.inr X : Key) = some (.int (ν X : Int)) := fkv_val h
theorem fkv_congr {f f' : Str → Option Nat} {ns : List Str} (h : ∀ X ∈ ns, f X = f' X) : fkv f ns = fkv f' ns := List.map_congr_left fun X hX => by rw [h X hX]
theorem fkv_put {f : Str → Option Nat} {X : Str} {v : Nat} {ns : List Str} (h : X ∈ ns) : putK (fkv f ns) (.inr X : Key) (.int (v : Int)) = fkv (putN f X v) ns := by
  unfold putK
  have e : ((fkv f ns).any fun kv => decide (kv.1 = (.inr X : Key))) = true := by rw [valV_any, fkv_val h]; rfl
  rw [if_pos e]
  unfold fkv
  rw [List.map_map]
  refine List.map_congr_left fun Y _ => ?_
  by_cases z : Y = X
  · subst z
    show (if (Sum.inr Y : Key) = .inr Y then ((.inr Y : Key), V.int (v : Int)) else _) = _
    rw [if_pos rfl, putN_same]
    rfl
  · show (if (Sum.inr Y : Key) = .inr X then ((.inr Y : Key), V.int (v : Int)) else _) = _
    rw [if_neg (fun h => z (Sum.inr.inj h)), putN_ne z]
theorem merge_app : ∀ (ns : List Str) (acc : List (Key × V)), (∀ X ∈ ns, valV acc (.inr X : Key) = none) → ns.Nodup → mergeK acc (fkv (fun _ => none) ns) = acc ++ fkv (fun _ => none) ns
  | [], acc, _, _ => by show acc = acc ++ []; rw [List.append_nil]
  | X :: r, acc, h, nd => by
    have hX := h X (List.mem_cons_self ..)
    have e : (acc.any fun kv => decide (kv.1 = (.inr X : Key))) = false := by rw [valV_any, hX]; rfl
    have p : putK acc (.inr X : Key) V.non = acc ++ [((.inr X : Key), V.non)] := by
      unfold putK
      rw [if_neg (by rw [e]; exact Bool.false_ne_true)]
    have nd' := List.nodup_cons.mp nd
    show mergeK (putK acc (.inr X : Key) V.non) (fkv (fun _ => none) r) = _
    rw [p, merge_app r _ (fun Y hY => ?_) nd'.2, List.append_assoc]
    · rfl
    · rw [valV_snoc _ _ _ _ hX, if_neg (fun z => nd'.1 (by rw [← Sum.inr.inj z]; exact hY))]
      exact h Y (List.mem_cons_of_mem _ hY)
theorem merge_nil {ns : List Str} (nd : ns.Nodup) : mergeK [] (fkv (fun _ => none) ns) = fkv (fun _ => none) ns := by
  rw [merge_app ns [] (fun _ _ => rfl) nd]; rfl
def measK (d : Addr) (H : Hp) : Nat := match H d with
  | some (.dK kvs) => (kvs.map fun kv => match kv.2 with | .int n => n.toNat | _ => 5000).sum
  | _ => 0
theorem measK_eq {d : Addr} {H : Hp} {f : Str → Option Nat} {ns : List Str} (h : H d = some (.dK (fkv f ns))) : measK d H = meas f ns := by
  unfold measK
  rw [h]
  show ((fkv f ns).map _).sum = _
  unfold fkv meas
  rw [List.map_map]
  refine congrArg List.sum (List.map_congr_left fun X _ => ?_)
  show (match onat (f X) with | .int n => n.toNat | _ => 5000) = _
  cases f X with
  | none => rfl
  | some v => exact Int.toNat_natCast v
theorem dnon_t : decide (V.non = V.non) = true := decide_eq_true rfl
theorem dnon_f {n : Int} : decide (V.int n = V.non) = false := decide_eq_false (fun h => by cases h)
/-- a grammar that stands and is as the law draws it -/
structure GK (C : Addr) (F : Hp) (g : Addr) (ns : List Str) (R : Rls) (ν : Str → Nat) (sg : List Nat) : Prop where
  gr : GramAt C F g ns R
  gg : GG ns R ν sg
  sok : ∀ X ∈ ns, sok X
  lok : ∀ l ∈ sg, 97 ≤ l ∧ l ≤ 122
theorem GK.up {C : Addr} {F F' : Hp} {g : Addr} {ns : List Str} {R : Rls} {ν : Str → Nat} {sg : List Nat} (e : Same F F') (h : GK C F g ns R ν sg) : GK C F' g ns R ν sg := ⟨h.1.up e, h.2, h.3, h.4⟩
theorem GK.le1000 {C : Addr} {F : Hp} {g : Addr} {ns : List Str} {R : Rls} {ν : Str → Nat} {sg : List Nat} (h : GK C F g ns R ν sg) {X : Str} (hX : X ∈ ns) : (R X).length ≤ 1000 := Nat.le_trans (h.2.le4 X hX) (by decide)
/-- the method call's object -/
theorem GramAt.obj {C : Addr} {F H : Hp} {g : Addr} {ns : List Str} {R : Rls} (kn : Kn F H) (h : GramAt C F g ns R) : ∃ dx kn1 st od, H g = some (.ins C dx (gfl kn1 st od)) := by
  obtain ⟨dx, kn1, st, od, kvs, h1, _⟩ := h
  exact ⟨dx, kn1, st, od, (kn _ _ h1).1⟩
def sp_norms (c : Cfg) : Sp := fun vs H Q _ => ∃ (F : Hp) (g : Addr) (ns : List Str) (R : Rls) (ν : Str → Nat) (sg : List Nat), vs = [.ref g] ∧ Kn F H ∧ GK c.CG F g ns R ν sg ∧
  ∀ F' H' d, Stp c.T S0 F H F' H' → F' d = some (.dK (nkv ν ns)) → Q (.ref d) H'
def NB (c : Cfg) (ns : List Str) (ν : Str → Nat) (g d : Addr) (F0 H0 : Hp) (f : Str → Option Nat) (ag : Bool) (x3 : Option V) (σ : L2.St) (H : Hp) : Prop := ∃ (F : Hp) (x4 x5 x6 : Option V), Stp c.T (fun b => b = d) F0 H0 F H ∧ F d = none ∧ H d = some (.dK (fkv f ns)) ∧ σ = [some (.ref g), some (.ref d), some (.bl ag), x3, x4, x5, x6] ∧ NInv ns ν f
def NS (c : Cfg) (ns : List Str) (ν : Str → Nat) (g d : Addr) (F0 H0 : Hp) (f0 : Str → Option Nat) (C : Prop) (x3 : Option V) (σ : L2.St) (H : Hp) : Prop := ∃ (f : Str → Option Nat) (ag : Bool), NB c ns ν g d F0 H0 f ag x3 σ H ∧ (ag = false → f = f0 ∧ C) ∧ (ag = true → meas f ns < meas f0 ns)
def clsd (f : Str → Option Nat) (X : Str) (p : Nat × List Str) : Prop := ∀ s, added f p.2 = some s → ∃ v, f X = some v ∧ v ≤ s + 1
def nonP : HP Str := fun F v X => ∃ t, v = .ref t ∧ F t = some (.tup [.str X, .non])
instance : Mo nonP := ⟨fun e ⟨t, h1, h2⟩ => ⟨t, h1, e _ _ h2⟩⟩
theorem nonP_prs {K : PySem.W.Frag} {F H : Hp} (k : Kn F H) : ∀ {us : List V} {ns : List Str}, Paired (nonP F) us ns → ∃ ps : List Addr, us = ps.map V.ref ∧ Paired (fun p (kv : Key × V) => SqT K H p [kV kv.1, kv.2]) ps (fkv (fun _ => none) ns)
  | _, _, .nil => ⟨[], rfl, .nil⟩
  | _, _, .cons ⟨t, h1, h2⟩ r => by
    obtain ⟨ps, e, q⟩ := nonP_prs (K := K) k r
    exact ⟨t :: ps, by rw [e, h1]; rfl, .cons (SqT.of (k _ _ h2).1) q⟩
theorem foundN_none (ns : List Str) : foundN (fun _ : Str => (none : Option Nat)) ns = 0 := by
  unfold foundN
  rw [List.filter_eq_nil_iff.mpr (fun _ _ h => by cases h)]
  rfl
section
variable {c : Cfg} {K : PySem.W.Frag} {mg : Str → Option Value} {base : Heap}
theorem sc_norms : FnScope ["grammar", "found", "again", "name", "letter", "row", "norm"] ["grammar"] (defScope s_norms) := ⟨rfl, rfl, rfl, by decide +kernel, rfl, by decide +kernel, by decide +kernel⟩
theorem ok_norms (D : Dfn K mg "norms" s_norms (["grammar"])) (Gr : GrC K c.CG) (B : Blt mg) (M_names : Gm c.P c.w K mg base 1 c.CG "names" (["self"]) (sp_names c)) (M_rules_of : Gm c.P c.w K mg base 1 c.CG "rules_of" (["self", "name"]) (sp_rules_of c)) (G_added_up : Gd c.P c.w K mg base 1 "added_up" (["norms", "row"]) (sp_added_up c)) :
    Gd c.P c.w K mg base 2 "norms" (["grammar"]) (sp_norms c) := by
  refine D.ok sc_norms (fun vs H Q E h => ?_) (fun fa cdv A outer s H vs Q E hr h => ?_)
  · obtain ⟨F, g, ns, R, ν, sg, rfl, _⟩ := h
    rfl
  obtain ⟨F, g, ns, R, ν, sg, rfl, kn, G, q⟩ := h
  obtain ⟨dx, kn1, st, od, hg⟩ := G.1.obj kn
  have hns : ns.length ≤ 5 := G.2.le
  refine ⟨_, (pss_cons (ps_set (i := 1) sc_norms.nd rfl (Or.inl rfl) (pe_callTy (call_dictP rfl) (by rfl) B.dict (by decide +kernel) (pa_cons (pe_lc (own := [("name", 3)]) (wi := (iList K (tM c.CG "names" (sp_names c) (tVar 0) tNil))) (g := (gName 3)) (tt := tYes) (te := (tTup (tCons (tVar 3) (tCons (tC .non) tNil)))) rfl sc_norms.nd (pi_list (pe_m0 M_names Gr.cl hr (pv 0))) (blkOk_by (own := [("name", 3)]) (N := ["grammar", "found", "again", "name", "letter", "row", "norm"]) (sc := defScope s_norms) (by decide +kernel)) (fun _ _ _ _ _ => (pg_name (i := 3) sc_norms.nd rfl (Or.inl rfl))) (fun _ _ _ _ _ => pts_nil) (fun _ _ _ _ _ => (pe_tup (pa_cons (pv 3) (pa_cons pe_non pa_nil))))) pa_nil))) (pss_cons (ps_set (i := 2) sc_norms.nd rfl (Or.inl rfl) pe_bl) (pss_cons (ps_while PassesOwn.never (pt_val (pv 2)) (pss_cons (ps_set (i := 2) sc_norms.nd rfl (Or.inl rfl) pe_bl) (pss_one (ps_for PassesOwn.never rfl (pi_list (pe_m0 M_names Gr.cl hr (pv 0))) (pg_name (i := 3) sc_norms.nd rfl (Or.inl rfl)) (pss_one (ps_for PassesOwn.never rfl (pi_list (pe_m M_rules_of Gr.cl hr (pv 0) (pa_cons (pv 3) pa_nil))) (pg_tup rfl (pgs_cons (pg_name (i := 4) sc_norms.nd rfl (Or.inl rfl)) (pgs_cons (pg_name (i := 5) sc_norms.nd rfl (Or.inl rfl)) pgs_nil))) (pss_cons (ps_set (i := 6) sc_norms.nd rfl (Or.inl rfl) (pe_g G_added_up hr (by rfl) (pa_cons (pv 1) (pa_cons (pv 5) pa_nil)))) (pss_one (ps_if (PW.pt (pw_and (pt_cmpR op_notN (pv 6) pe_non (nomark _)) (pw_and1 (PW.pt (pw_or (pt_cmpR op_isN (pe_dget (hu_of hr) (pv 1) (pv 3) (fun _ _ => rfl)) pe_non (nomark _)) (pw_or1 (pt_cmpR op_lt (pe_op op_add (pv 6) pe_int) (pe_dget (hu_of hr) (pv 1) (pv 3) (fun _ _ => rfl)) (nomark _)))))))) (pss_cons (ps_dput (hu_of hr) (pv 1) (pv 3) (pe_op op_add (pv 6) pe_int) rfl) (pss_one (ps_set (i := 2) sc_norms.nd rfl (Or.inl rfl) pe_bl))) pss_nil))))))))) (pss_one (ps_ret (pv 1)))))), ?_⟩
  refine ⟨_, rfl, g, dx, _, rfl, hg, gfl_no (by decide +kernel) (by decide +kernel) (by decide +kernel), F, g, ns, R, rfl, kn, G.1, fun p hp => ⟨p, rfl, ⟨_, SqL.of upd_same⟩, fun Dl hDl => ?_⟩⟩
  have s1 : Stp c.T S0 F H (upd F p (.lst (ns.map V.str))) (upd H p (.lst (ns.map V.str))) := .data kn hp (nt_lst _)
  have okl : IvOk (IvE fun i => ns.take i) ns.length S0 (upd H p (.lst (ns.map V.str))) Dl := ivE_ok (fun i => len_take _ i) (szl (by omega)) (fun h => h) hDl
  refine lc_F (T := c.T) (S := S0) (walk_list (K := K) (a := p) (xs := ns.map V.str)) nonP (IvE fun i => ns.take i) s1.kn (by rw [List.length_map]; exact okl) rfl (fun i F' H' ys k' e _ _ => SqL.of (k' _ _ (e _ _ upd_same)).1) ?_ ?_
  · rintro i x F1 H1 H' ys hi cu ⟨rfl, hx⟩
    rw [List.getElem?_map] at hx
    obtain ⟨X, hX, rfl⟩ := Option.map_eq_some_iff.mp hx
    refine ⟨rfl, ?_⟩
    refine ⟨_, rfl, by show 2 ≤ sizeLine; decide, fun t ht => ?_⟩
    refine cu.put (by rw [List.length_map]; exact okl) hi (Stp.data cu.kn ht (nt_tup _)) (z := X) ⟨t, rfl, upd_same⟩ ?_
    show ys ++ [X] = ns.take (i + 1)
    rw [take_snoc hX, show ys = ns.take i from cu.iv]
  intro F1 H1 ys us st1 fD hd pr iv
  have e1 : ys = ns := by
    rw [show ys = ns.take (ns.map V.str).length from iv, List.take_of_length_le (by rw [List.length_map]; exact Nat.le_refl _)]
  rw [e1] at pr
  obtain ⟨ps, rfl, prs⟩ := nonP_prs (K := K) st1.kn pr
  refine ⟨Dl, ps, _, rfl, SqL.of hd, prs, fun d hd0 => ?_⟩
  rw [merge_nil G.2.nd]
  have s2 : Stp c.T S0 F H F1 H1 := s1.trans st1
  have fd1 : F1 d = none := s2.kn.off hd0
  have s3 : Stp c.T S0 F1 H1 F1 (upd H1 d (.dK (fkv (fun _ => none) ns))) := .mut st1.kn hd0
  have G1 : GK c.CG F1 g ns R ν sg := G.up s2.sub
  obtain ⟨dx1, kn11, st11, od11, hg1⟩ := G1.1.obj st1.kn
  refine while_by (fun σ H' => ∃ (f : Str → Option Nat) (ag : Bool) (x3 : Option V), NB c ns ν g d F1 H1 f ag x3 σ H' ∧ (ag = false → ∀ X ∈ ns, ∀ p ∈ R X, clsd f X p)) (fun σ H' => 2 * measK d H' + (if σ[2]? = some (some (.bl true)) then 1 else 0)) ?_ ?_ ?_
  · refine ⟨fun _ => none, true, none, ⟨F1, none, none, none, s3.of0, fd1, upd_same, rfl, ⟨fun X _ v h => (nomatch h), fun X _ v h => (nomatch h)⟩⟩, fun h => nomatch h⟩
  · rintro σ H2 ⟨f, ag, x3, ⟨F2, x4, x5, x6, st2, fd2, hd2, rfl, inv⟩, hcl⟩
    have G2 : GK c.CG F2 g ns R ν sg := G1.up st2.sub
    refine ⟨_, rfl, ag, rfl, ?_⟩
    cases ag with
    | false =>
      refine iteF ?_
      have nf := G.2.norm_done inv (fun X hX p hp s hs => hcl rfl X hX p hp s hs)
      refine ⟨_, rfl, ?_⟩
      have e2 : fkv f ns = nkv ν ns := fkv_congr nf
      rw [e2] at hd2
      have s4 : Stp c.T S0 F1 H1 (upd F2 d (.dK (nkv ν ns))) H2 := (st2.freeze (.of hd0) hd2 (nt_dK _)).loc fun b hb => .inr (by rw [show b = d from hb]; exact .of hd0)
      exact q _ _ d (s2.trans s4) upd_same
    | true =>
      refine iteT ?_
      obtain ⟨dx2, kn12, st12, od12, hg2⟩ := G2.1.obj st2.kn
      refine ⟨_, rfl, g, dx2, _, rfl, hg2, gfl_no (by decide +kernel) (by decide +kernel) (by decide +kernel), F2, g, ns, R, rfl, st2.kn, G2.1, fun p1 hp1 => ⟨p1, rfl, ⟨_, SqL.of upd_same⟩, ?_⟩⟩
      have st3 : Stp c.T (fun b => b = d) F2 H2 (upd F2 p1 (.lst (ns.map V.str))) (upd H2 p1 (.lst (ns.map V.str))) := .data st2.kn hp1 (nt_lst _)
      obtain ⟨fd3, hd3⟩ : upd F2 p1 (.lst (ns.map V.str)) d = none ∧ upd H2 p1 (.lst (ns.map V.str)) d = some (.dK (fkv f ns)) := by
        have nd : d ≠ p1 := fun z => by rw [z, hp1] at hd2; cases hd2
        rw [upd_ne nd, upd_ne nd]; exact ⟨fd2, hd2⟩
      have hp3 : upd F2 p1 (.lst (ns.map V.str)) p1 = some (.lst (ns.map V.str)) := upd_same
      generalize upd F2 p1 (.lst (ns.map V.str)) = F3 at *
      generalize upd H2 p1 (.lst (ns.map V.str)) = H3 at *
      have G3 : GK c.CG F3 g ns R ν sg := G2.up st3.sub
      have k3 := st3.kn
      refine for_it (walk_list (K := K) (a := p1) (xs := ns.map V.str)) (fun i σ H' => ∃ x3, NS c ns ν g d F3 H3 f (∀ k, k < i → ∀ X, ns[k]? = some X → ∀ p ∈ R X, clsd f X p) x3 σ H') ?_ ?_ ?_ ?_
      · exact ⟨x3, f, false, ⟨F3, x4, x5, x6, .refl k3, fd3, hd3, rfl, inv⟩, fun _ => ⟨rfl, fun k hk => absurd hk (Nat.not_lt_zero _)⟩, fun h => nomatch h⟩
      · rintro i σ H' _ ⟨x3, f', ag, ⟨F', x4, x5, x6, st, _⟩, _⟩
        exact SqL.of (st.kn _ _ (st.sub _ _ hp3)).1
      · rintro i x σ H4 H4' hi ⟨x3, f4, ag4, ⟨F4, x4, x5, x6, st4, fd4, hd4, rfl, inv4⟩, ha, hb⟩ ⟨rfl, hx⟩
        rw [List.getElem?_map] at hx
        obtain ⟨X, hX, rfl⟩ := Option.map_eq_some_iff.mp hx
        have hm : X ∈ ns := List.mem_of_getElem? hX
        have G4 := G3.up st4.sub
        obtain ⟨dx4, kn14, st14, od14, hg4⟩ := G4.1.obj st4.kn
        refine ⟨_, rfl, g, dx4, _, rfl, hg4, gfl_no (by decide +kernel) (by decide +kernel) (by decide +kernel), _, rfl, F4, g, ns, R, X, rfl, st4.kn, G4.1, hm, G4.le1000 hm, fun F5' H5 a us st5 ha0 hfa hea pr => ⟨a, rfl, ⟨_, SqL.of hea⟩, ?_⟩⟩
        have st5' : Stp c.T (fun b => b = d) F4 H4' (upd F5' a (.lst us)) H5 := (st5.freeze ha0 hea (nt_lst _)).of0
        have pr' : Paired (ruleP (upd F5' a (.lst us))) us (R X) := paired_up (same_upd hfa) pr
        have ha5 : upd F5' a (.lst us) a = some (.lst us) := upd_same
        obtain ⟨fd5, hd5⟩ : upd F5' a (.lst us) d = none ∧ H5 d = some (.dK (fkv f4 ns)) := by
          have h1 := st5.mu fd4 hd4 (nt_dK _) (fun h => h)
          have nd : d ≠ a := fun z => ha0 _ (by rw [← z]; exact hd4) (nt_dK _)
          rw [upd_ne nd]; exact h1
        generalize upd F5' a (.lst us) = F5 at *
        have G5 : GK c.CG F5 g ns R ν sg := G4.up st5'.sub
        have lus := Paired.len pr'
        refine for_it (walk_list (K := K) (a := a) (xs := us)) (fun j σ H' => NS c ns ν g d F5 H5 f ((∀ k, k < i → ∀ X, ns[k]? = some X → ∀ p ∈ R X, clsd f X p) ∧ ∀ k, k < j → ∀ p, (R X)[k]? = some p → clsd f X p) (some (.str X)) σ H') ?_ ?_ ?_ ?_
        · exact ⟨f4, ag4, ⟨F5, x4, x5, x6, .refl st5'.kn, fd5, hd5, rfl, inv4⟩, fun e => ⟨(ha e).1, (ha e).2, fun k hk => absurd hk (Nat.not_lt_zero _)⟩, hb⟩
        · rintro j σ H' _ ⟨f', ag, ⟨F', x4, x5, x6, st, _⟩, _⟩
          exact SqL.of (st.kn _ _ (st.sub _ _ ha5)).1
        · rintro j x σ H6 H6' hj ⟨f6, ag6, ⟨F6, x4', x5', x6', st6, fd6, hd6, rfl, inv6⟩, ha6, hb6⟩ ⟨rfl, hx6⟩
          obtain ⟨⟨l, row⟩, hy, t, u, w, rfl, ht, hu, b, rfl, hbw⟩ := Paired.at pr' hx6
          obtain rfl : u = V.str ⟨#[l]⟩ := hu
          have k6 := st6.kn
          have hrm : (l, row) ∈ R X := List.mem_of_getElem? hy
          have hcl := G.2.cl X hm _ hrm
          refine ⟨t, _, rfl, SqT.of (k6 _ _ (st6.sub _ _ ht)).1, rfl, _, _, rfl, _, _, rfl, rfl, ?_⟩
          refine ⟨_, rfl, _, rfl, d, fkv f6 ns, b, row, f6, rfl, hd6, (k6 _ _ (st6.sub _ _ hbw)).1, Nat.le_trans (show row.length ≤ 3 from hcl.2.2) (by decide), fun Y hY => fkv_val (hcl.2.1 Y hY), fun H7 e7 => ?_⟩
          have st7 : Stp c.T (fun b => b = d) F6 H6' F6 H7 := .ext k6 e7
          have hd7 := e7 _ _ hd6
          cases es : added f6 row with
          | none =>
            refine ⟨_, rfl, rfl, _, rfl, ?_⟩
            rw [show onat none = V.non from rfl, dnon_t]
            exact ⟨f6, ag6, ⟨F6, _, _, _, st6.trans st7, fd6, hd7, rfl, inv6⟩, fun e => ⟨(ha6 e).1, (ha6 e).2.1, fun k hk p hp => by
              rcases Nat.lt_succ_iff_lt_or_eq.mp hk with h | h
              · exact (ha6 e).2.2 k h p hp
              · subst h
                rw [hy] at hp
                cases hp
                intro s hs
                rw [← (ha6 e).1, es] at hs
                cases hs⟩, hb6⟩
          | some s =>
            refine ⟨_, rfl, rfl, _, rfl, ?_⟩
            rw [show onat (some s) = V.int (s : Int) from rfl, dnon_f]
            refine ⟨_, rfl, _, rfl, d, onat (f6 X), rfl, by rw [← fkv_val hm]; exact DGet.k (k := Sum.inr X) hd7, rfl, _, rfl, ?_⟩
            have putc : (f6 X = none ∨ ∃ v, f6 X = some v ∧ s + 1 < v) → ∀ σ', σ' = [some (.ref g), some (.ref d), some (.bl true), some (.str X), some (.str ⟨#[l]⟩), some (.ref b), some (.int (s : Int))] → NS c ns ν g d F5 H5 f ((∀ k, k < i → ∀ X, ns[k]? = some X → ∀ p ∈ R X, clsd f X p) ∧ ∀ k, k < j + 1 → ∀ p, (R X)[k]? = some p → clsd f X p) (some (.str X)) σ' (upd H7 d (.dK (putK (fkv f6 ns) (.inr X : Key) (.int ((s : Int) + 1))))) := by
              rintro hn σ' rfl
              obtain ⟨inv8, lt8⟩ := G.2.put_ok inv6 hm hrm es hn
              have e8 : putK (fkv f6 ns) (.inr X : Key) (.int ((s : Int) + 1)) = fkv (putN f6 X (s + 1)) ns := fkv_put (v := s + 1) hm
              rw [e8]
              refine ⟨putN f6 X (s + 1), true, ⟨F6, _, _, _, (st6.trans st7).trans (.set st7.kn fd6 hd7 (nx_dK _) (nt_dK _) rfl), fd6, upd_same, rfl, inv8⟩, fun e => (nomatch e), fun _ => ?_⟩
              cases ag6 with
              | false =>
                have h := (ha6 rfl).1
                rw [h] at lt8 ⊢
                exact lt8
              | true => exact Nat.lt_trans lt8 (hb6 rfl)
            cases ef : f6 X with
            | none =>
              rw [show onat none = V.non from rfl, dnon_t]
              refine ⟨_, rfl, _, _, rfl, rfl, _, rfl, _, rfl, d, _, rfl, DPut.k (k := Sum.inr X) hd7 (szlt (by rw [show (fkv f6 ns).length = ns.length from List.length_map _]; omega)), ?_⟩
              exact putc (.inl ef) _ rfl
            | some v =>
              rw [show onat (some v) = V.int (v : Int) from rfl, dnon_f]
              refine ⟨_, rfl, _, _, rfl, rfl, _, rfl, _, rfl, d, .int (v : Int), rfl, ?_, _, _, rfl, rfl, _, rfl, ?_⟩
              · rw [show some (V.int (v : Int)) = valV (fkv f6 ns) (.inr X : Key) from by rw [fkv_val hm, ef]; rfl]
                exact DGet.k (k := Sum.inr X) hd7
              by_cases hlt : s + 1 < v
              · rw [decide_eq_true (show (s : Int) + 1 < (v : Int) by omega)]
                refine ⟨_, rfl, _, _, rfl, rfl, _, rfl, _, rfl, d, _, rfl, DPut.k (k := Sum.inr X) hd7 (szlt (by rw [show (fkv f6 ns).length = ns.length from List.length_map _]; omega)), ?_⟩
                exact putc (.inr ⟨v, ef, hlt⟩) _ rfl
              · rw [decide_eq_false (show ¬ ((s : Int) + 1 < (v : Int)) by omega)]
                exact ⟨f6, ag6, ⟨F6, _, _, _, st6.trans st7, fd6, hd7, rfl, inv6⟩, fun e => ⟨(ha6 e).1, (ha6 e).2.1, fun k hk p hp => by
                  rcases Nat.lt_succ_iff_lt_or_eq.mp hk with h | h
                  · exact (ha6 e).2.2 k h p hp
                  · subst h
                    rw [hy] at hp
                    cases hp
                    intro s' hs
                    rw [← (ha6 e).1, es] at hs
                    cases hs
                    exact ⟨v, by rw [← (ha6 e).1]; exact ef, by omega⟩⟩, hb6⟩
        · rintro σ H' ⟨f', ag, ⟨F', x4, x5, x6, st, fd', hd', rfl, inv'⟩, ha', hb'⟩
          refine ⟨_, f', ag, ⟨F', x4, x5, x6, (st4.trans st5').trans st, fd', hd', rfl, inv'⟩, fun e => ⟨(ha' e).1, fun k hk Y hY p hp => ?_⟩, hb'⟩
          rcases Nat.lt_succ_iff_lt_or_eq.mp hk with h | h
          · exact (ha' e).2.1 k h Y hY p hp
          · subst h
            rw [hX] at hY
            cases hY
            obtain ⟨k2, hk2⟩ := List.getElem?_of_mem hp
            have : k2 < us.length := by
              rw [lus]
              exact (List.getElem?_eq_some_iff.mp hk2).1
            exact (ha' e).2.2 k2 this p hk2
      · rintro σ H' ⟨x3', f', ag, ⟨F', x4, x5, x6, st, fd', hd', rfl, inv'⟩, ha, hb⟩
        refine ⟨⟨f', ag, x3', ⟨F', x4, x5, x6, (st2.trans st3).trans st, fd', hd', rfl, inv'⟩, fun e X hX p hp => ?_⟩, ?_⟩
        · obtain ⟨e1, hc⟩ := ha e
          subst e1
          obtain ⟨k, hk⟩ := List.getElem?_of_mem hX
          have hkl : k < (ns.map V.str).length := by
            rw [List.length_map]
            exact (List.getElem?_eq_some_iff.mp hk).1
          exact hc k hkl X hk p hp
        · rw [measK_eq hd', measK_eq hd2]
          cases ag with
          | false =>
            rw [(ha rfl).1]
            show 2 * meas f ns + 0 < 2 * meas f ns + 1
            omega
          | true =>
            have := hb rfl
            show 2 * meas f' ns + 1 < 2 * meas f ns + 1
            omega
  · intro σ H Q Q' hQ h
    exact h.imp fun v h => ⟨h.1, h.2.imp fun k h => ⟨h.1, hQ _ _ h.2⟩⟩
end
end K60
namespace K60
open PySem PySem.Spec PyProof.Rows L2 LamX
theorem Stp.stay {T : Tb} {S : Addr → Prop} {F H F' H' : Hp} {p : Addr} {o : HO} (a : Stp T S F H F' H') (k : Kn F H) (hp : H p = some o) (n : NT o) (hs : ¬ S p) : H' p = some o := by
  cases e : F p with
  | none => exact a.keep p o hs e hp n
  | some u =>
    have h1 := (k p u e).1
    rw [hp] at h1
    cases h1
    exact (a.kn p o (a.sub p o e)).1
/-- a new list comes back -/
def RetL {α : Type} (c : Cfg) (P : HP α) (xs : List α) (F H : Hp) (Q : VK) : Prop := ∀ F' H' a us, Stp c.T S0 F H F' H' → Fr H a → F' a = none → H' a = some (.lst us) → Paired (P F') us xs → Q (.ref a) H'
def sp_norm_of (c : Cfg) : Sp := fun vs H Q _ => ∃ (F : Hp) (g : Addr) (ns : List Str) (R : Rls) (ν : Str → Nat) (sg : List Nat) (a : Addr) (row : List Str), vs = [.ref g, .ref a] ∧ Kn F H ∧ GK c.CG F g ns R ν sg ∧ F a = some (.lst (row.map V.str)) ∧ (∀ X ∈ row, X ∈ ns) ∧ row.length ≤ 1000 ∧
  ∀ F' H', Stp c.T S0 F H F' H' → Q (.int (nus ν row : Int)) H'
def sp_endless (c : Cfg) : Sp := fun vs H Q _ => ∃ (F : Hp) (g : Addr) (ns : List Str) (R : Rls) (ν : Str → Nat) (sg : List Nat), vs = [.ref g] ∧ Kn F H ∧ GK c.CG F g ns R ν sg ∧
  ∀ F' H' p, Stp c.T S0 F H F' H' → H' p = some (.lst []) → Q (.ref p) H'
def sp_twice_by (c : Cfg) : Sp := sp_endless c
def sp_lessening (c : Cfg) : Sp := fun vs H Q _ => ∃ (F : Hp) (g : Addr) (ns : List Str) (R : Rls) (ν : Str → Nat) (sg : List Nat) (d : Addr) (X : Str), vs = [.ref g, .ref d, .str X] ∧ Kn F H ∧ GK c.CG F g ns R ν sg ∧ F d = some (.dK (nkv ν ns)) ∧ X ∈ ns ∧
  RetL c ruleP ((R X).filter fun p => decide (ν X = 1 + nus ν p.2)) F H Q
def sp_look_at_tongue (c : Cfg) : Sp := fun vs H Q _ => ∃ (F : Hp) (g : Addr) (ns : List Str) (R : Rls) (ν : Str → Nat) (sg : List Nat) (a b : Addr) (row : List Str), vs = [.ref g, .ref b] ∧ Kn F H ∧ GK c.CG F g ns R ν sg ∧ H b = some (.lst [.ref a]) ∧ F a = some (.lst (row.map V.str)) ∧ (∀ X ∈ row, X ∈ ns) ∧
  ∀ F' H', Stp c.T S0 F H F' H' → Q .non H'
section
variable {c : Cfg} {K : PySem.W.Frag} {mg : Str → Option Value} {base : Heap}
theorem sc_norm_of : FnScope ["grammar", "row"] ["grammar", "row"] (defScope s_norm_of) := ⟨rfl, rfl, rfl, by decide +kernel, rfl, by decide +kernel, by decide +kernel⟩
theorem ok_norm_of (D : Dfn K mg "norm_of" s_norm_of (["grammar", "row"])) (G_look_at_names : Gd c.P c.w K mg base 2 "look_at_names" (["grammar", "row"]) (sp_look_at_names c)) (G_norms : Gd c.P c.w K mg base 2 "norms" (["grammar"]) (sp_norms c)) (G_added_up : Gd c.P c.w K mg base 1 "added_up" (["norms", "row"]) (sp_added_up c)) :
    Gd c.P c.w K mg base 3 "norm_of" (["grammar", "row"]) (sp_norm_of c) := by
  refine D.ok sc_norm_of (fun vs H Q E h => ?_) (fun fa cdv A outer s H vs Q E hr h => ?_)
  · obtain ⟨F, g, ns, R, ν, sg, a, row, rfl, _⟩ := h
    rfl
  obtain ⟨F, g, ns, R, ν, sg, a, row, rfl, kn, G, ha, hsub, hl, q⟩ := h
  refine ⟨_, (pss_cons (ps_expr (pe_g G_look_at_names hr (by rfl) (pa_cons (pv 0) (pa_cons (pv 1) pa_nil)))) (pss_one (ps_ret (pe_g G_added_up hr (by rfl) (pa_cons (pe_g G_norms hr (by rfl) (pa_cons (pv 0) pa_nil)) (pa_cons (pv 1) pa_nil)))))), ?_⟩
  refine ⟨_, rfl, _, rfl, F, g, ns, R, a, row, rfl, kn, G.gr, (kn _ _ ha).1, hsub, ?_⟩
  refine ⟨_, rfl, F, g, ns, R, ν, sg, rfl, kn, G, fun F' H' d st hd => ?_⟩
  refine ⟨_, rfl, d, nkv ν ns, a, row, fun X => some (ν X), rfl, (st.kn _ _ hd).1, (st.kn _ _ (st.sub _ _ ha)).1, hl, fun X hX => fkv_val (hsub X hX), fun H2 e2 => ?_⟩
  rw [added_all (f := fun X => some (ν X)) (ν := ν) (fun _ _ => rfl)]
  exact q F' H2 (st.trans (.ext st.kn e2))
theorem sc_endless : FnScope ["grammar", "found", "name"] ["grammar"] (defScope s_endless) := ⟨rfl, rfl, rfl, by decide +kernel, rfl, by decide +kernel, by decide +kernel⟩
theorem ok_endless (D : Dfn K mg "endless" s_endless (["grammar"])) (Gr : GrC K c.CG) (G_norms : Gd c.P c.w K mg base 2 "norms" (["grammar"]) (sp_norms c)) (M_names : Gm c.P c.w K mg base 1 c.CG "names" (["self"]) (sp_names c)) :
    Gd c.P c.w K mg base 3 "endless" (["grammar"]) (sp_endless c) := by
  refine D.ok sc_endless (fun vs H Q E h => ?_) (fun fa cdv A outer s H vs Q E hr h => ?_)
  · obtain ⟨F, g, ns, R, ν, sg, rfl, _⟩ := h
    rfl
  obtain ⟨F, g, ns, R, ν, sg, rfl, kn, G, q⟩ := h
  refine ⟨_, (pss_cons (ps_set (i := 1) sc_endless.nd rfl (Or.inr rfl) (pe_g G_norms hr (by rfl) (pa_cons (pv 0) pa_nil))) (pss_one (ps_ret (pe_lc (own := [("name", 2)]) (wi := (iList K (tM c.CG "names" (sp_names c) (tVar 0) tNil))) (g := (gName 2)) (tt := (tTest (tOp rIsNo (tDGet (tVar 1) (tVar 2)) (tC .non)))) (te := (tVar 2)) rfl sc_endless.nd (pi_list (pe_m0 M_names Gr.cl hr (pv 0))) (blkOk_by (own := [("name", 2)]) (N := ["grammar", "found", "name"]) (sc := defScope s_endless) (by decide +kernel)) (fun _ _ _ _ _ => (pg_name (i := 2) sc_endless.nd rfl (Or.inl rfl))) (fun _ _ _ _ _ => (pts_one (pt_cmpR op_isN (pe_dget (hu_of hr) (pv 1) (pv 2) (fun _ _ => rfl)) pe_non (nomark _)))) (fun _ _ _ _ _ => (pv 2)))))), ?_⟩
  refine ⟨_, rfl, F, g, ns, R, ν, sg, rfl, kn, G, fun F1 H1 d st1 hd => ?_⟩
  have G1 := G.up st1.sub
  obtain ⟨dx, kn1, st, od, hg⟩ := G1.gr.obj st1.kn
  refine ⟨_, rfl, g, dx, _, rfl, hg, gfl_no (by decide +kernel) (by decide +kernel) (by decide +kernel), F1, g, ns, R, rfl, st1.kn, G1.gr, fun p hp => ⟨p, rfl, ⟨_, SqL.of upd_same⟩, fun Dl hDl => ?_⟩⟩
  have st2 : Stp c.T S0 F1 H1 (upd F1 p (.lst (ns.map V.str))) (upd H1 p (.lst (ns.map V.str))) := .data st1.kn hp (nt_lst _)
  have okl : IvOk (IvE fun i => ([] : List Str)) (ns.map V.str).length S0 (upd H1 p (.lst (ns.map V.str))) Dl := ivE_ok (fun i => Nat.zero_le _) (szl (by rw [List.length_map]; have := G.gg.le; omega)) (fun h => h) hDl
  refine lc_F (T := c.T) (S := S0) (walk_list (K := K) (a := p) (xs := ns.map V.str)) strP (IvE fun i => ([] : List Str)) st2.kn okl rfl (fun i F' H' ys k' e _ _ => SqL.of (k' _ _ (e _ _ upd_same)).1) ?_ ?_
  · rintro i x F3 H3 H' ys hi cu ⟨rfl, hx⟩
    rw [List.getElem?_map] at hx
    obtain ⟨X, hX, rfl⟩ := Option.map_eq_some_iff.mp hx
    have hd3 := (cu.kn _ _ (cu.sub _ _ (st2.sub _ _ hd))).1
    refine ⟨rfl, ?_⟩
    refine ⟨_, rfl, _, rfl, d, .int (ν X : Int), rfl, ?_, rfl, _, rfl, ?_⟩
    · rw [← nkv_val (List.mem_of_getElem? hX)]
      exact DGet.k (k := Sum.inr X) hd3
    · rw [dnon_f]
      exact cu.skip okl (.refl cu.kn) cu.iv
  · intro F3 H3 ys us st3 fD hd' pr iv
    rw [show ys = [] from iv] at pr
    cases pr
    exact q F3 H3 Dl ((st1.trans st2).trans st3) hd'
theorem sc_lessening : FnScope ["grammar", "known", "name", "rule"] ["grammar", "known", "name"] (defScope s_lessening) := ⟨rfl, rfl, rfl, by decide +kernel, rfl, by decide +kernel, by decide +kernel⟩
theorem ok_lessening (D : Dfn K mg "lessening" s_lessening (["grammar", "known", "name"])) (Gr : GrC K c.CG) (M_rules_of : Gm c.P c.w K mg base 1 c.CG "rules_of" (["self", "name"]) (sp_rules_of c)) (G_added_up : Gd c.P c.w K mg base 1 "added_up" (["norms", "row"]) (sp_added_up c)) :
    Gd c.P c.w K mg base 2 "lessening" (["grammar", "known", "name"]) (sp_lessening c) := by
  refine D.ok sc_lessening (fun vs H Q E h => ?_) (fun fa cdv A outer s H vs Q E hr h => ?_)
  · obtain ⟨F, g, ns, R, ν, sg, d, X, rfl, _⟩ := h
    rfl
  obtain ⟨F, g, ns, R, ν, sg, d, X, rfl, kn, G, hd, hX, q⟩ := h
  obtain ⟨dx, kn1, st, od, hg⟩ := G.gr.obj kn
  refine ⟨_, (pss_one (ps_ret (pe_lc (own := [("rule", 3)]) (wi := (iList K (tM c.CG "rules_of" (sp_rules_of c) (tVar 0) (tCons (tVar 2) tNil)))) (g := (gName 3)) (tt := (tTest (tOp (rEqD K) (tG (sp_added_up c) (tCons (tVar 1) (tCons (tOp (rIxT K) (tVar 3) (tC (.int 1))) tNil))) (tOp rSubI (tDGet (tVar 1) (tVar 2)) (tC (.int 1)))))) (te := (tVar 3)) rfl sc_lessening.nd (pi_list (pe_m M_rules_of Gr.cl hr (pv 0) (pa_cons (pv 2) pa_nil))) (blkOk_by (own := [("rule", 3)]) (N := ["grammar", "known", "name", "rule"]) (sc := defScope s_lessening) (by decide +kernel)) (fun _ _ _ _ _ => (pg_name (i := 3) sc_lessening.nd rfl (Or.inl rfl))) (fun _ _ _ _ _ => (pts_one (pt_cmpR (op_eqD (hu64 hr)) (pe_g G_added_up hr (by rfl) (pa_cons (pv 1) (pa_cons (pe_ix ix_tup (pv 3) pe_int (fun _ _ => rfl)) pa_nil))) (pe_op op_sub (pe_dget (hu_of hr) (pv 1) (pv 2) (fun _ _ => rfl)) pe_int) (nomark _)))) (fun _ _ _ _ _ => (pv 3))))), ?_⟩
  refine ⟨_, rfl, g, dx, _, rfl, hg, gfl_no (by decide +kernel) (by decide +kernel) (by decide +kernel), _, rfl, F, g, ns, R, X, rfl, kn, G.gr, hX, G.le1000 hX, fun F1' H1 a us st1 ha0 hfa hea pr1 => ⟨a, rfl, ⟨_, SqL.of hea⟩, fun Dl hDl => ?_⟩⟩
  have s1 : Stp c.T S0 F H (upd F1' a (.lst us)) H1 := st1.freeze ha0 hea (nt_lst _)
  have pr : Paired (ruleP (upd F1' a (.lst us))) us (R X) := paired_up (same_upd hfa) pr1
  have ha1 : upd F1' a (.lst us) a = some (.lst us) := upd_same
  generalize upd F1' a (.lst us) = F1 at *
  have lus := Paired.len pr
  have okl : IvOk (IvE fun i => ((R X).take i).filter fun p => decide (ν X = 1 + nus ν p.2)) us.length S0 H1 Dl := ivE_ok (fun i => Nat.le_trans (List.length_filter_le _ _) (len_take _ i)) (szl (by have := G.le1000 hX; omega)) (fun h => h) hDl
  refine lc_F (T := c.T) (S := S0) (walk_list (K := K) (a := a) (xs := us)) ruleP (IvE fun i => ((R X).take i).filter fun p => decide (ν X = 1 + nus ν p.2)) s1.kn okl rfl (fun i F' H' ys k' e _ _ => SqL.of (k' _ _ (e _ _ ha1)).1) ?_ ?_
  · rintro i x F2 H2 H' ys hi cu ⟨rfl, hx⟩
    obtain ⟨⟨l, row⟩, hy, ru⟩ := Paired.at pr hx
    have ru2 := Mo.up (P := ruleP) cu.sub ru
    obtain ⟨t, u, w, rfl, ht, hu, b, rfl, hb⟩ := ru
    obtain rfl : u = V.str ⟨#[l]⟩ := hu
    have k2 := cu.kn
    have hcl := G.gg.cl X hX (l, row) (List.mem_of_getElem? hy)
    have hd2 := (k2 _ _ (cu.sub _ _ (s1.sub _ _ hd))).1
    refine ⟨rfl, ?_⟩
    refine ⟨_, rfl, _, rfl, t, _, 1, _, rfl, rfl, SqT.of (k2 _ _ (cu.sub _ _ ht)).1, atI_nat (i := 1) rfl, d, nkv ν ns, b, row, fun X => some (ν X), rfl, hd2, (k2 _ _ (cu.sub _ _ hb)).1, Nat.le_trans (show row.length ≤ 3 from hcl.2.2) (by decide), fun Y hY => fkv_val (hcl.2.1 Y hY), fun H3 e3 => ?_⟩
    rw [added_all (f := fun X => some (ν X)) (ν := ν) (fun _ _ => rfl)]
    refine ⟨_, rfl, _, rfl, d, .int (ν X : Int), rfl, ?_, _, _, rfl, rfl, ?_⟩
    · rw [← nkv_val hX]
      exact DGet.k (k := Sum.inr X) (e3 _ _ hd2)
    refine eqD_int ?_
    have st3 : Stp c.T S0 F2 H' F2 H3 := .ext k2 e3
    refine ⟨_, rfl, ?_⟩
    by_cases hn : ν X = 1 + nus ν row
    · rw [decide_eq_true (show ((nus ν row : Nat) : Int) = (ν X : Int) - 1 by omega)]
      refine ⟨_, rfl, cu.put okl hi st3 (z := (l, row)) ru2 ?_⟩
      show ys ++ [(l, row)] = ((R X).take (i + 1)).filter _
      rw [take_snoc hy, List.filter_append, show ys = _ from cu.iv]
      rw [show ([(l, row)].filter fun p => decide (ν X = 1 + nus ν p.2)) = [(l, row)] from by
        rw [List.filter_cons, decide_eq_true hn]; rfl]
    · rw [decide_eq_false (show ¬ (((nus ν row : Nat) : Int) = (ν X : Int) - 1) by omega)]
      refine cu.skip okl st3 ?_
      show ys = ((R X).take (i + 1)).filter _
      rw [take_snoc hy, List.filter_append, show ys = _ from cu.iv]
      rw [show ([(l, row)].filter fun p => decide (ν X = 1 + nus ν p.2)) = [] from by
        rw [List.filter_cons, decide_eq_false hn]; rfl, List.append_nil]
  · intro F3 H3 ys us3 st3 fD hd' pr' iv
    rw [show ys = ((R X).take us.length).filter _ from iv, List.take_of_length_le (by omega)] at pr'
    refine q F3 H3 Dl us3 (s1.trans st3) (s1.fr kn (.of hDl)) fD hd' pr'
end
end K60
namespace K60
open PySem PySem.Spec PyProof.Rows L2 LamX
def sp_one_step (c : Cfg) : Sp := fun vs H Q _ => ∃ (F : Hp) (g : Addr) (ns : List Str) (R : Rls) (ν : Str → Nat) (sg : List Nat) (v : V) (o : Option (List Str)) (l : Nat), vs = [.ref g, v, .str ⟨#[l]⟩] ∧ Kn F H ∧ GK c.CG F g ns R ν sg ∧ optP rowP F v o ∧ (∀ row, o = some row → (∀ Y ∈ row, Y ∈ ns) ∧ row.length ≤ 1000) ∧
  ∀ F' H' v', Stp c.T S0 F H F' H' → optP rowP F' v' (o.bind fun r => stepR R r l) → Q v' H'
def sp_by_letters (c : Cfg) : Sp := fun vs H Q _ => ∃ (F : Hp) (g : Addr) (ns : List Str) (R : Rls) (ν : Str → Nat) (sg : List Nat) (a : Addr) (row : List Str) (w : List Nat), vs = [.ref g, .ref a, .str (wrd w)] ∧ Kn F H ∧ GK c.CG F g ns R ν sg ∧ F a = some (.lst (row.map V.str)) ∧ (∀ Y ∈ row, Y ∈ ns) ∧ row.length + 3 * w.length ≤ 1000 ∧
  ∀ F' H' v', Stp c.T S0 F H F' H' → optP rowP F' v' (runR R (some row) w) → Q v' H'
def sp_runs_to (c : Cfg) : Sp := sp_by_letters c
def sp_ends_by (c : Cfg) : Sp := fun vs H Q _ => ∃ (F : Hp) (g : Addr) (ns : List Str) (R : Rls) (ν : Str → Nat) (sg : List Nat) (a : Addr) (row : List Str) (w : List Nat), vs = [.ref g, .ref a, .str (wrd w)] ∧ Kn F H ∧ GK c.CG F g ns R ν sg ∧ F a = some (.lst (row.map V.str)) ∧ (∀ Y ∈ row, Y ∈ ns) ∧ row.length + 3 * w.length ≤ 1000 ∧
  ∀ F' H', Stp c.T S0 F H F' H' → Q (.bl (decide (runR R (some row) w = some []))) H'
theorem nodup_wrd {ls : List Nat} (h : ls.Nodup) : (ls.map fun l => wrd [l]).Nodup := by
  refine List.Pairwise.map _ (fun a b hab e => hab ?_) h
  have := wrd_inj e
  simpa using this
theorem runR_snoc {R : Rls} {o : Option (List Str)} {w : List Nat} {l : Nat} : runR R o (w ++ [l]) = (runR R o w).bind fun r => stepR R r l := by
  rw [runR_app]
  rfl
section
variable {c : Cfg} {K : PySem.W.Frag} {mg : Str → Option Value} {base : Heap}
theorem sc_twice_by : FnScope ["grammar", "found", "name", "letters", "letter", "row"] ["grammar"] (defScope s_twice_by) := ⟨rfl, rfl, rfl, by decide +kernel, rfl, by decide +kernel, by decide +kernel⟩
theorem ok_twice_by (D : Dfn K mg "twice_by" s_twice_by (["grammar"])) (Gr : GrC K c.CG) (B : Blt mg) (M_names : Gm c.P c.w K mg base 1 c.CG "names" (["self"]) (sp_names c)) (M_rules_of : Gm c.P c.w K mg base 1 c.CG "rules_of" (["self", "name"]) (sp_rules_of c)) :
    Gd c.P c.w K mg base 2 "twice_by" (["grammar"]) (sp_twice_by c) := by
  refine D.ok sc_twice_by (fun vs H Q E h => ?_) (fun fa cdv A outer s H vs Q E hr h => ?_)
  · obtain ⟨F, g, ns, R, ν, sg, rfl, _⟩ := h
    rfl
  obtain ⟨F, g, ns, R, ν, sg, rfl, kn, G, q⟩ := h
  refine ⟨_, (pss_cons (ps_set (i := 1) sc_twice_by.nd rfl (Or.inl rfl) (pe_lst pa_nil)) (pss_cons (ps_for PassesOwn.never rfl (pi_list (pe_m0 M_names Gr.cl hr (pv 0))) (pg_name (i := 2) sc_twice_by.nd rfl (Or.inl rfl)) (pss_cons (ps_setLc (i := 3) (own := [("letter", 4), ("row", 5)]) (wi := (iList K (tM c.CG "rules_of" (sp_rules_of c) (tVar 0) (tCons (tVar 2) tNil)))) (g := (gTup K 2 (gCons (gName 4) (gCons (gName 5) gNil)))) (tt := tYes) (te := (tVar 4)) rfl sc_twice_by.nd rfl rfl (sw_true rfl rfl rfl (by decide +kernel)) (pi_list (pe_m M_rules_of Gr.cl hr (pv 0) (pa_cons (pv 2) pa_nil))) (blkOk_by (own := [("letter", 4), ("row", 5)]) (N := ["grammar", "found", "name", "letters", "letter", "row"]) (sc := defScope s_twice_by) (by decide +kernel)) (fun _ _ _ _ _ => (pg_tup rfl (pgs_cons (pg_name (i := 4) sc_twice_by.nd rfl (Or.inl rfl)) (pgs_cons (pg_name (i := 5) sc_twice_by.nd rfl (Or.inl rfl)) pgs_nil)))) (fun _ _ _ _ _ => pts_nil) (fun _ _ _ _ _ => (pv 4))) (pss_one (ps_if (pt_cmpR op_lt (pe_lenSetT rfl (by rfl) B.len (by rfl) B.set_ (pv 3)) (pe_callB call_len_seq (by rfl) B.len PySem.boot_len (pa_cons (pv 3) pa_nil)) (nomark _)) (pss_one (ps_expr (pe_bm PySem.F.plainAttrs_list PySem.F.slot_list_append PySem.F.type_list_append mt_append (pv 1) (pa_cons (pv 2) pa_nil)))) pss_nil)))) (pss_one (ps_ret (pv 1))))), ?_⟩
  refine ⟨Nat.zero_le _, fun L0 hL0 => ?_⟩
  have st0 : Stp c.T S0 F H (upd F L0 (.lst [])) (upd H L0 (.lst [])) := .data kn hL0 (nt_lst _)
  have hl0 : upd F L0 (.lst []) L0 = some (.lst []) := upd_same
  generalize upd F L0 (.lst []) = F1 at *
  generalize upd H L0 (.lst []) = H1 at *
  have G1 := G.up st0.sub
  obtain ⟨dx, kn1, st, od, hg⟩ := G1.gr.obj st0.kn
  refine ⟨_, rfl, g, dx, _, rfl, hg, gfl_no (by decide +kernel) (by decide +kernel) (by decide +kernel), F1, g, ns, R, rfl, st0.kn, G1.gr, fun p hp => ⟨p, rfl, ⟨_, SqL.of upd_same⟩, ?_⟩⟩
  have st2 : Stp c.T S0 F1 H1 (upd F1 p (.lst (ns.map V.str))) (upd H1 p (.lst (ns.map V.str))) := .data st0.kn hp (nt_lst _)
  have hp2 : upd F1 p (.lst (ns.map V.str)) p = some (.lst (ns.map V.str)) := upd_same
  generalize upd F1 p (.lst (ns.map V.str)) = F2 at *
  generalize upd H1 p (.lst (ns.map V.str)) = H2 at *
  refine for_it (walk_list (K := K) (a := p) (xs := ns.map V.str)) (fun i σ H' => ∃ F' x2 x3 x4 x5, Stp c.T S0 F2 H2 F' H' ∧ σ = [some (.ref g), some (.ref L0), x2, x3, x4, x5]) ?_ ?_ ?_ ?_
  · exact ⟨F2, _, _, _, _, .refl st2.kn, rfl⟩
  · rintro i σ H' _ ⟨F', x2, x3, x4, x5, st, _⟩
    exact SqL.of (st.kn _ _ (st.sub _ _ hp2)).1
  · rintro i x σ H3 H3' hi ⟨F3, x2, x3, x4, x5, st3, rfl⟩ ⟨rfl, hx⟩
    rw [List.getElem?_map] at hx
    obtain ⟨X, hX, rfl⟩ := Option.map_eq_some_iff.mp hx
    have hm : X ∈ ns := List.mem_of_getElem? hX
    have G3 := (G1.up st2.sub).up st3.sub
    obtain ⟨dx3, kn13, st13, od13, hg3⟩ := G3.gr.obj st3.kn
    refine ⟨_, rfl, g, dx3, _, rfl, hg3, gfl_no (by decide +kernel) (by decide +kernel) (by decide +kernel), _, rfl, F3, g, ns, R, X, rfl, st3.kn, G3.gr, hm, G3.le1000 hm, fun F4' H4 a us st4 ha0 hfa hea pr4 => ⟨a, rfl, ⟨_, SqL.of hea⟩, fun Dl hDl => ?_⟩⟩
    have s4 : Stp c.T S0 F3 H3' (upd F4' a (.lst us)) H4 := st4.freeze ha0 hea (nt_lst _)
    have pr : Paired (ruleP (upd F4' a (.lst us))) us (R X) := paired_up (same_upd hfa) pr4
    have ha4 : upd F4' a (.lst us) a = some (.lst us) := upd_same
    generalize upd F4' a (.lst us) = F4 at *
    have lus := Paired.len pr
    have okl : IvOk (IvE fun i => ((R X).take i).map (·.1)) us.length S0 H4 Dl := ivE_ok (fun i => by rw [List.length_map]; exact len_take _ i) (szl (by have := G.le1000 hm; omega)) (fun h => h) hDl
    refine lc_F (T := c.T) (S := S0) (walk_list (K := K) (a := a) (xs := us)) letP (IvE fun i => ((R X).take i).map (·.1)) s4.kn okl rfl (fun i F' H' ys k' e _ _ => SqL.of (k' _ _ (e _ _ ha4)).1) ?_ ?_
    · rintro j x F5 H5 H' ys hj cu ⟨rfl, hx⟩
      obtain ⟨⟨l, row⟩, hy, t, u, w, rfl, ht, hu, b, rfl, hb⟩ := Paired.at pr hx
      obtain rfl : u = V.str ⟨#[l]⟩ := hu
      refine ⟨t, _, rfl, SqT.of (cu.kn _ _ (cu.sub _ _ ht)).1, rfl, _, _, rfl, _, _, rfl, rfl, rfl, ?_⟩
      refine ⟨_, rfl, ?_⟩
      refine cu.put okl hj (.refl cu.kn) (z := l) rfl ?_
      show ys ++ [l] = ((R X).take (j + 1)).map (·.1)
      rw [take_snoc hy, List.map_append, show ys = _ from cu.iv]
      rfl
    · intro F5 H5 ys us5 st5 fD hd' pr' iv
      rw [show ys = ((R X).take us.length).map (·.1) from iv, List.take_of_length_le (by omega)] at pr'
      have e5 := lets_of pr'
      subst e5
      refine ⟨_, rfl, Dl, _, rfl, SqL.of hd', nodup_wrd (G.gg.ndl X hm), ?_, ?_⟩
      · rw [List.length_map, List.length_map]
        have := G.gg.le4 X hm
        omega
      refine ⟨_, rfl, Dl, _, rfl, .inl (SqL.of hd'), ?_⟩
      refine ⟨_, _, rfl, rfl, _, rfl, ?_⟩
      rw [List.length_map (f := V.str), decide_eq_false (Int.lt_irrefl _)]
      exact ⟨F5, _, _, _, _, (st3.trans s4).trans st5, rfl⟩
  · rintro σ H' ⟨F', x2, x3, x4, x5, st, rfl⟩
    refine ⟨_, rfl, ?_⟩
    have sa := (st0.trans st2).trans st
    exact q F' H' L0 sa (st.kn _ _ (st.sub _ _ (st2.sub _ _ hl0))).1
theorem sc_look_at_tongue : FnScope ["grammar", "rows", "row", "name"] ["grammar", "rows"] (defScope s_look_at_tongue) := ⟨rfl, rfl, rfl, by decide +kernel, rfl, by decide +kernel, by decide +kernel⟩
theorem ok_look_at_tongue (D : Dfn K mg "look_at_tongue" s_look_at_tongue (["grammar", "rows"])) (G_look_at_names : Gd c.P c.w K mg base 2 "look_at_names" (["grammar", "row"]) (sp_look_at_names c)) (G_endless : Gd c.P c.w K mg base 3 "endless" (["grammar"]) (sp_endless c)) (G_twice_by : Gd c.P c.w K mg base 2 "twice_by" (["grammar"]) (sp_twice_by c)) :
    Gd c.P c.w K mg base 4 "look_at_tongue" (["grammar", "rows"]) (sp_look_at_tongue c) := by
  refine D.ok sc_look_at_tongue (fun vs H Q E h => ?_) (fun fa cdv A outer s H vs Q E hr h => ?_)
  · obtain ⟨F, g, ns, R, ν, sg, a, b, row, rfl, _⟩ := h
    rfl
  obtain ⟨F, g, ns, R, ν, sg, a, b, row, rfl, kn, G, hb, ha, hsub, q⟩ := h
  refine ⟨_, (pss_cons (ps_for PassesOwn.never rfl (pi_list (pv 1)) (pg_name (i := 2) sc_look_at_tongue.nd rfl (Or.inl rfl)) (pss_one (ps_expr (pe_g G_look_at_names hr (by rfl) (pa_cons (pv 0) (pa_cons (pv 2) pa_nil)))))) (pss_cons (ps_for PassesOwn.never rfl (pi_list (pe_g G_endless hr (by rfl) (pa_cons (pv 0) pa_nil))) (pg_name (i := 3) sc_look_at_tongue.nd rfl (Or.inl rfl)) (pss_one ps_never)) (pss_one (ps_for PassesOwn.never rfl (pi_list (pe_g G_twice_by hr (by rfl) (pa_cons (pv 0) pa_nil))) (pg_name (i := 3) sc_look_at_tongue.nd rfl (Or.inl rfl)) (pss_one ps_never))))), ?_⟩
  refine ⟨_, rfl, b, rfl, ⟨_, SqL.of hb⟩, for_it (walk_list (K := K) (xs := [V.ref a])) (fun i σ H' => H' = H ∧ ∃ x2, σ = [some (.ref g), some (.ref b), x2, none]) ⟨rfl, none, rfl⟩ (fun i σ H' _ h => by rw [h.1]; exact SqL.of hb) ?_ ?_⟩
  · rintro i x σ H1 H' hi ⟨rfl, x2, rfl⟩ ⟨rfl, hx⟩
    have hi0 : i = 0 := by simp at hi; exact hi
    subst hi0
    have hx' : x = V.ref a := by simpa using hx.symm
    subst hx'
    exact ⟨_, rfl, _, rfl, F, g, ns, R, a, row, rfl, kn, G.gr, (kn _ _ ha).1, hsub, rfl, _, rfl⟩
  · rintro σ H' ⟨rfl, x2, rfl⟩
    refine ⟨_, rfl, F, g, ns, R, ν, sg, rfl, kn, G, fun F1 H1 p st1 hp => ⟨p, rfl, ⟨_, SqL.of hp⟩, ?_⟩⟩
    refine for_it (walk_list (K := K) (xs := ([] : List V))) (fun i σ H' => H' = H1 ∧ σ = [some (.ref g), some (.ref b), x2, none]) ⟨rfl, rfl⟩ (fun i σ H' _ h => by rw [h.1]; exact SqL.of hp) (fun i x σ H H' hi => absurd hi (Nat.not_lt_zero _)) ?_
    rintro σ H' ⟨rfl, rfl⟩
    refine ⟨_, rfl, F1, g, ns, R, ν, sg, rfl, st1.kn, G.up st1.sub, fun F2 H2 p2 st2 hp2 => ⟨p2, rfl, ⟨_, SqL.of hp2⟩, ?_⟩⟩
    refine for_it (walk_list (K := K) (xs := ([] : List V))) (fun i σ H' => H' = H2) rfl (fun i σ H' _ h => by rw [h]; exact SqL.of hp2) (fun i x σ H H' hi => absurd hi (Nat.not_lt_zero _)) ?_
    rintro σ H' rfl
    exact q F2 _ (st1.trans st2)
theorem sc_one_step : FnScope ["grammar", "row", "letter", "by", "more"] ["grammar", "row", "letter"] (defScope s_one_step) := ⟨rfl, rfl, rfl, by decide +kernel, rfl, by decide +kernel, by decide +kernel⟩
theorem ok_one_step (D : Dfn K mg "one_step" s_one_step (["grammar", "row", "letter"])) (Gr : GrC K c.CG) (M_rules_of : Gm c.P c.w K mg base 1 c.CG "rules_of" (["self", "name"]) (sp_rules_of c)) :
    Gd c.P c.w K mg base 2 "one_step" (["grammar", "row", "letter"]) (sp_one_step c) := by
  refine D.ok sc_one_step (fun vs H Q E h => ?_) (fun fa cdv A outer s H vs Q E hr h => ?_)
  · obtain ⟨F, g, ns, R, ν, sg, v, o, l, rfl, _⟩ := h
    rfl
  obtain ⟨F, g, ns, R, ν, sg, v, o, l, rfl, kn, G, ho, hsub, q⟩ := h
  refine ⟨_, (pss_cons (ps_if (PW.pt (pw_or (pt_cmpR op_isN (pv 1) pe_non (nomark _)) (pw_or1 (pt_cmpR (op_eqD (hu64 hr)) (pv 1) (pe_lst pa_nil) (nomark _))))) (pss_one (ps_ret pe_non)) pss_nil) (pss_cons (ps_for PassesOwn.never rfl (pi_list (pe_m M_rules_of Gr.cl hr (pv 0) (pa_cons (pe_ix ix_list (pv 1) pe_int (fun _ _ => rfl)) pa_nil))) (pg_tup rfl (pgs_cons (pg_name (i := 3) sc_one_step.nd rfl (Or.inl rfl)) (pgs_cons (pg_name (i := 4) sc_one_step.nd rfl (Or.inl rfl)) pgs_nil))) (pss_one (ps_if (pt_cmpR op_eq (pv 3) (pv 2) (nomark _)) (pss_one (ps_ret (pe_op op_cat (pv 4) (pe_slice sl_list (pv 1) (po_some pe_int) po_none)))) pss_nil))) (pss_one (ps_ret pe_non)))), ?_⟩
  cases o with
  | none =>
    obtain rfl : v = .non := ho
    refine ⟨_, rfl, rfl, _, rfl, ?_⟩
    rw [dnon_t]
    exact q F H .non (.refl kn) rfl
  | some row =>
    obtain ⟨a, rfl, ha⟩ := ho
    obtain ⟨hs, hl⟩ := hsub row rfl
    refine ⟨_, rfl, rfl, _, rfl, ?_⟩
    rw [decide_eq_false (show ¬ (V.ref a = V.non) from fun h => by cases h)]
    refine ⟨_, rfl, Nat.zero_le _, fun p hp => ?_⟩
    have st1 : Stp c.T S0 F H F (upd H p (.lst [])) := .mut kn hp
    have ha1 := (st1.kn _ _ ha).1
    have hp1 : upd H p (.lst []) p = some (.lst []) := upd_same
    refine eqD_nil (fun X hX => G.sok X (hs X hX)) (SqL.of ha1) (SqL.of hp1) ⟨_, rfl, ?_⟩
    generalize upd H p (.lst []) = H1 at *
    cases row with
    | nil =>
      rw [decide_eq_true rfl]
      exact q F H1 .non st1 rfl
    | cons X r =>
      rw [decide_eq_false (fun h => by cases h)]
      have hX : X ∈ ns := hs X (List.mem_cons_self ..)
      obtain ⟨dx, kn1, st, od, hg⟩ := G.gr.obj st1.kn
      refine ⟨_, rfl, g, dx, _, rfl, hg, gfl_no (by decide +kernel) (by decide +kernel) (by decide +kernel), _, rfl, a, _, 0, .str X, rfl, rfl, SqL.of ha1, atI_nat (i := 0) rfl, F, g, ns, R, X, rfl, st1.kn, G.gr, hX, G.le1000 hX, fun F4' H4 b us st4 hb0 hfb heb pr4 => ⟨b, rfl, ⟨_, SqL.of heb⟩, ?_⟩⟩
      have s4 : Stp c.T S0 F H1 (upd F4' b (.lst us)) H4 := st4.freeze hb0 heb (nt_lst _)
      have pr : Paired (ruleP (upd F4' b (.lst us))) us (R X) := paired_up (same_upd hfb) pr4
      have hb4 : upd F4' b (.lst us) b = some (.lst us) := upd_same
      generalize upd F4' b (.lst us) = F4 at *
      have lus := Paired.len pr
      have hb4H := (s4.kn _ _ hb4).1
      have hg4 := (s4.kn _ _ (s4.sub _ _ ha)).1
      refine for_it (walk_list (K := K) (a := b) (xs := us)) (fun i σ H' => H' = H4 ∧ (∀ j, j < i → ∀ p, (R X)[j]? = some p → p.1 ≠ l) ∧ ∃ x3 x4, σ = [some (.ref g), some (.ref a), some (.str ⟨#[l]⟩), x3, x4]) ⟨rfl, fun j hj => absurd hj (Nat.not_lt_zero _), none, none, rfl⟩ (fun i σ H' _ h => by rw [h.1]; exact SqL.of hb4H) ?_ ?_
      · rintro i x σ H5 H' hi ⟨rfl, hno, x3, x4, rfl⟩ ⟨rfl, hx⟩
        obtain ⟨⟨l', more⟩, hy, t, u, w, rfl, ht, hu, b', rfl, hb'⟩ := Paired.at pr hx
        obtain rfl : u = V.str ⟨#[l']⟩ := hu
        have hb' : F4 b' = some (.lst (more.map V.str)) := hb'
        refine ⟨t, _, rfl, SqT.of (s4.kn _ _ ht).1, rfl, _, _, rfl, _, _, rfl, rfl, ?_⟩
        refine ⟨_, rfl, _, rfl, rfl, _, rfl, ?_⟩
        by_cases hll : l' = l
        · subst hll
          rw [decide_eq_true rfl]
          refine ⟨_, rfl, _, rfl, ⟨1, rfl, a, _, rfl, SqL.of hg4, fun p2 hp2 => ?_⟩⟩
          rw [show cutV ((X :: r).map V.str) (some 1) none = r.map V.str from cutV_from (i := 1) (by simp)]
          have st6 : Stp c.T S0 F4 H' F4 (upd H' p2 (.lst (r.map V.str))) := .mut s4.kn hp2
          have hr6 : upd H' p2 (.lst (r.map V.str)) p2 = some (.lst (r.map V.str)) := upd_same
          have hcl := G.gg.cl X hX _ (List.mem_of_getElem? hy)
          refine ⟨b', p2, _, _, rfl, rfl, (st6.kn _ _ hb').1, hr6, ?_, fun p3 hp3 => ?_⟩
          · rw [List.length_map, List.length_map]
            have h1 : more.length ≤ 3 := hcl.2.2
            have h2 : r.length + 1 ≤ 1000 := hl
            exact szl (by omega)
          · generalize upd H' p2 (.lst (r.map V.str)) = H6 at *
            have st7 : Stp c.T S0 F4 H6 (upd F4 p3 (.lst (more.map V.str ++ r.map V.str))) (upd H6 p3 (.lst (more.map V.str ++ r.map V.str))) := .data st6.kn hp3 (nt_lst _)
            refine q _ _ _ (((st1.trans s4).trans st6).trans st7) ?_
            rw [show (some (X :: r)).bind (fun r => stepR R r l') = some (more ++ r) from G.gg.step hX (List.mem_of_getElem? hy)]
            exact ⟨p3, rfl, by rw [upd_same, List.map_append]⟩
        · rw [decide_eq_false (fun h => hll (by injection h with h; injection h with h; simpa using h))]
          refine ⟨rfl, fun j hj p hp => ?_, _, _, rfl⟩
          rcases Nat.lt_succ_iff_lt_or_eq.mp hj with h | h
          · exact hno j h p hp
          · subst h
            rw [hy] at hp
            cases hp
            exact hll
      · rintro σ H' ⟨rfl, hno, x3, x4, rfl⟩
        refine q F4 H' .non (st1.trans s4) ?_
        have e : (some (X :: r)).bind (fun r => stepR R r l) = none := by
          show ((R X).find? (fun p => p.1 == l)).map (fun p => p.2 ++ r) = none
          rw [List.find?_eq_none.mpr fun p hp h => ?_]
          · rfl
          · obtain ⟨j, hj⟩ := List.getElem?_of_mem hp
            exact hno j (by rw [lus]; exact (List.getElem?_eq_some_iff.mp hj).1) p hj (by simpa using h)
        rw [e]
        rfl
theorem sc_by_letters : FnScope ["grammar", "row", "word", "letter"] ["grammar", "row", "word"] (defScope s_by_letters) := ⟨rfl, rfl, rfl, by decide +kernel, rfl, by decide +kernel, by decide +kernel⟩
theorem ok_by_letters (D : Dfn K mg "by_letters" s_by_letters (["grammar", "row", "word"])) (G_one_step : Gd c.P c.w K mg base 2 "one_step" (["grammar", "row", "letter"]) (sp_one_step c)) :
    Gd c.P c.w K mg base 3 "by_letters" (["grammar", "row", "word"]) (sp_by_letters c) := by
  refine D.ok sc_by_letters (fun vs H Q E h => ?_) (fun fa cdv A outer s H vs Q E hr h => ?_)
  · obtain ⟨F, g, ns, R, ν, sg, a, row, w, rfl, _⟩ := h
    rfl
  obtain ⟨F, g, ns, R, ν, sg, a, row, w, rfl, kn, G, ha, hsub, hl, q⟩ := h
  refine ⟨_, (pss_cons (ps_for PassesOwn.never rfl (pi_str (pv 2)) (pg_name (i := 3) sc_by_letters.nd rfl (Or.inl rfl)) (pss_one (ps_set (i := 1) sc_by_letters.nd rfl (Or.inl rfl) (pe_g G_one_step hr (by rfl) (pa_cons (pv 0) (pa_cons (pv 1) (pa_cons (pv 3) pa_nil))))))) (pss_one (ps_ret (pv 1)))), ?_⟩
  refine ⟨_, rfl, _, rfl, ?_⟩
  have hw : (wrd w).cps.size = w.length := by show w.toArray.size = _; simp
  refine for_it (walk_str (z := wrd w)) (fun i σ H' => ∃ F' v x3, Stp c.T S0 F H F' H' ∧ optP rowP F' v (runR R (some row) (w.take i)) ∧ σ = [some (.ref g), some v, some (.str (wrd w)), x3]) ?_ (fun _ _ _ _ _ => trivial) ?_ ?_
  · exact ⟨F, _, _, .refl kn, ⟨a, rfl, ha⟩, rfl⟩
  · rintro i x σ H1 H' hi ⟨F1, v, x3, st1, ho, rfl⟩ ⟨rfl, l, hl', rfl⟩
    have hwi : w[i]? = some l := by
      have : w.toArray[i]? = some l := hl'
      simpa using this
    refine ⟨_, rfl, _, rfl, _, rfl, F1, g, ns, R, ν, sg, v, _, l, rfl, st1.kn, G.up st1.sub, ho, fun row' e => ?_, fun F2 H2 v' st2 ho' => ?_⟩
    · obtain ⟨h1, h2⟩ := G.gg.run_sub _ hsub e
      refine ⟨h1, ?_⟩
      have := len_take w i
      have : (w.take i).length ≤ w.length := by rw [List.length_take]; omega
      omega
    · refine ⟨F2, v', _, st1.trans st2, ?_, rfl⟩
      rw [take_snoc hwi, runR_snoc]
      exact ho'
  · rintro σ H' ⟨F1, v, x3, st1, ho, rfl⟩
    rw [hw, List.take_length] at ho
    exact ⟨_, rfl, q F1 H' v st1 ho⟩
theorem sc_runs_to : FnScope ["grammar", "row", "word"] ["grammar", "row", "word"] (defScope s_runs_to) := ⟨rfl, rfl, rfl, by decide +kernel, rfl, by decide +kernel, by decide +kernel⟩
theorem ok_runs_to (D : Dfn K mg "runs_to" s_runs_to (["grammar", "row", "word"])) (B : Blt mg) (G_look_at_tongue : Gd c.P c.w K mg base 4 "look_at_tongue" (["grammar", "rows"]) (sp_look_at_tongue c)) (G_by_letters : Gd c.P c.w K mg base 3 "by_letters" (["grammar", "row", "word"]) (sp_by_letters c)) :
    Gd c.P c.w K mg base 5 "runs_to" (["grammar", "row", "word"]) (sp_runs_to c) := by
  refine D.ok sc_runs_to (fun vs H Q E h => ?_) (fun fa cdv A outer s H vs Q E hr h => ?_)
  · obtain ⟨F, g, ns, R, ν, sg, a, row, w, rfl, _⟩ := h
    rfl
  obtain ⟨F, g, ns, R, ν, sg, a, row, w, rfl, kn, G, ha, hsub, hl, q⟩ := h
  refine ⟨_, (pss_cons (ps_expr (pe_g G_look_at_tongue hr (by rfl) (pa_cons (pv 0) (pa_cons (pe_lst (pa_cons (pv 1) pa_nil)) pa_nil)))) (pss_one (ps_ret (pe_g G_by_letters hr (by rfl) (pa_cons (pv 0) (pa_cons (pe_callTy call_list_of (by rfl) B.list (by decide +kernel) (pa_cons (pv 1) pa_nil)) (pa_cons (pv 2) pa_nil))))))), ?_⟩
  refine ⟨_, rfl, _, rfl, by show 1 ≤ sizeLine; decide, fun b hb => ?_⟩
  have st1 : Stp c.T S0 F H F (upd H b (.lst [.ref a])) := .mut kn hb
  refine ⟨F, g, ns, R, ν, sg, a, b, row, rfl, st1.kn, G, upd_same, ha, hsub, fun F2 H2 st2 => ?_⟩
  have ha2 := st2.sub _ _ ha
  refine ⟨_, rfl, _, rfl, a, _, rfl, .inl (SqL.of (st2.kn _ _ ha2).1), fun b2 hb2 => ?_⟩
  have st3 : Stp c.T S0 F2 H2 (upd F2 b2 (.lst (row.map V.str))) (upd H2 b2 (.lst (row.map V.str))) := .data st2.kn hb2 (nt_lst _)
  refine ⟨_, rfl, _, g, ns, R, ν, sg, b2, row, w, rfl, st3.kn, (G.up st2.sub).up st3.sub, upd_same, hsub, hl, fun F4 H4 v' st4 ho => ?_⟩
  exact q F4 H4 v' (((st1.trans st2).trans st3).trans st4) ho
theorem sc_ends_by : FnScope ["grammar", "row", "word"] ["grammar", "row", "word"] (defScope s_ends_by) := ⟨rfl, rfl, rfl, by decide +kernel, rfl, by decide +kernel, by decide +kernel⟩
theorem ok_ends_by (D : Dfn K mg "ends_by" s_ends_by (["grammar", "row", "word"])) (G_runs_to : Gd c.P c.w K mg base 5 "runs_to" (["grammar", "row", "word"]) (sp_runs_to c)) :
    Gd c.P c.w K mg base 6 "ends_by" (["grammar", "row", "word"]) (sp_ends_by c) := by
  refine D.ok sc_ends_by (fun vs H Q E h => ?_) (fun fa cdv A outer s H vs Q E hr h => ?_)
  · obtain ⟨F, g, ns, R, ν, sg, a, row, w, rfl, _⟩ := h
    rfl
  obtain ⟨F, g, ns, R, ν, sg, a, row, w, rfl, kn, G, ha, hsub, hl, q⟩ := h
  refine ⟨_, (pss_one (ps_ret (pe_cmpR (op_eqD (hu64 hr)) (pe_g G_runs_to hr (by rfl) (pa_cons (pv 0) (pa_cons (pv 1) (pa_cons (pv 2) pa_nil)))) (pe_lst pa_nil) (nomark _)))), ?_⟩
  refine ⟨_, rfl, _, rfl, _, rfl, F, g, ns, R, ν, sg, a, row, w, rfl, kn, G, ha, hsub, hl, fun F1 H1 v st1 ho => ?_⟩
  refine ⟨Nat.zero_le _, fun p hp => ?_⟩
  have st2 : Stp c.T S0 F1 H1 F1 (upd H1 p (.lst [])) := .mut st1.kn hp
  have hq := q F1 _ (st1.trans st2)
  have hp1 : upd H1 p (.lst []) p = some (.lst []) := upd_same
  cases e : runR R (some row) w with
  | none =>
    rw [e] at ho hq
    obtain rfl : v = .non := ho
    rw [decide_eq_false (fun h => by cases h)] at hq
    exact eqD_non (SqL.of hp1) hq
  | some x =>
    rw [e] at ho hq
    obtain ⟨b, rfl, hb⟩ := ho
    have hx := (G.gg.run_sub _ hsub e).1
    refine eqD_nil (r := x) (fun X hX => G.sok X (hx X hX)) (SqL.of (st2.kn _ _ hb).1) (SqL.of hp1) ?_
    rw [show decide (some x = some []) = decide (x = []) from by
      by_cases h : x = []
      · rw [decide_eq_true h, decide_eq_true (by rw [h])]
      · rw [decide_eq_false h, decide_eq_false (fun z => h (Option.some.inj z))]] at hq
    exact hq
end
end K60
namespace K60
open PySem PySem.Spec PyProof.Rows L2 LamX
/-! the table of counts -/
theorem nodup_le {α : Type} [DecidableEq α] : ∀ {l m : List α}, l.Nodup → (∀ x ∈ l, x ∈ m) → l.length ≤ m.length
  | [], _, _, _ => Nat.zero_le _
  | x :: l, m, nd, h => by
    have nd' := List.nodup_cons.mp nd
    have hx := h x (List.mem_cons_self ..)
    have := nodup_le (l := l) (m := m.erase x) nd'.2 fun y hy => (List.mem_erase_of_ne (fun z => nd'.1 (by rw [← z]; exact hy))).mpr (h y (List.mem_cons_of_mem _ hy))
    rw [List.length_erase_of_mem hx] at this
    have hm : 0 < m.length := List.length_pos_of_mem hx
    rw [List.length_cons]
    omega
def cfl (g d : Addr) : List (Str × V) := putF "found" (.ref d) (putF "grammar" (.ref g) [])
theorem n_gf : ¬ (("grammar" : Str) = "found") := by decide +kernel
theorem cfl_g {g d : Addr} : (cfl g d).lookup ("grammar" : Str) = some (.ref g) := by
  unfold cfl
  rw [lookup_putF, if_neg n_gf, lookup_putF, if_pos rfl]
theorem cfl_f {g d : Addr} : (cfl g d).lookup ("found" : Str) = some (.ref d) := by
  unfold cfl
  rw [lookup_putF, if_pos rfl]
theorem cfl_no {g d : Addr} {m : Str} (h1 : ¬ m = "grammar") (h2 : ¬ m = "found") : (cfl g d).lookup m = none := by
  unfold cfl
  rw [lookup_putF, if_neg h2, lookup_putF, if_neg h1]
  all_goals rfl
def EntOk (F : Hp) (R : Rls) (U : List (List Str)) (x : NestedKey × Addr × Value) : Prop := ∃ (row : List Str) (n : Nat), x.1 = keyOf row n ∧ KeyAt F row n x.2.1 ∧ row ∈ U ∧ n ≤ 24 ∧ RelV (.int (cnt R n row : Int)) x.2.2
structure CAt (c : Cfg) (F H : Hp) (p g d : Addr) (R : Rls) (U : List (List Str)) (xs : Ent) : Prop where
  obj : ∃ dx, F p = some (.ins c.CC dx (cfl g d))
  fd : F d = none
  hd : H d = some (EntO c.P c.w d xs)
  ok : ∀ x ∈ xs, EntOk F R U x
  nd : (xs.map (·.1)).Nodup
/-- U is closed -/
structure Clo (ns : List Str) (R : Rls) (U : List (List Str)) : Prop where
  one : ∀ X ∈ ns, [X] ∈ U
  rl : ∀ X ∈ ns, ∀ p ∈ R X, p.2 ∈ U
  tl : ∀ X r, X :: r ∈ U → r ∈ U
  sub : ∀ row ∈ U, ∀ Y ∈ row, Y ∈ ns
  len : ∀ row ∈ U, row.length ≤ 1000
  sz : U.length ≤ 40000
theorem KeyAt.up {F F' : Hp} {row : List Str} {n : Int} {b : Addr} (e : Same F F') (h : KeyAt F row n b) : KeyAt F' row n b := by
  obtain ⟨r, h1, h2⟩ := h
  exact ⟨r, e _ _ h1, e _ _ h2⟩
theorem EntOk.up {F F' : Hp} {R : Rls} {U : List (List Str)} {x : NestedKey × Addr × Value} (e : Same F F') (h : EntOk F R U x) : EntOk F' R U x := by
  obtain ⟨row, n, h1, h2, h3⟩ := h
  exact ⟨row, n, h1, h2.up e, h3⟩
theorem ent_ne {P : Program} {w : World} {d : Addr} {xs : Ent} (c : Addr) (q : Str) : EntO P w d xs ≠ CodeO c q := fun h => by
  have e := HO.ext.inj h
  let ob : Obj := { cls := .none, data := .fields #[.none, .str q 0] }
  let hp : Heap := { objs := Array.replicate (c + 1) ob }
  have hg : ∀ a o, hp.get? a = some o → o = ob := fun a o ho => by
    unfold Heap.get? at ho
    by_cases ha : a < c + 1
    · have e1 : hp.objs[a]? = some ob := by
        show (Array.replicate (c + 1) ob)[a]? = some ob
        rw [Array.getElem?_replicate, if_pos ha]
      rw [e1] at ho
      exact (Option.some.inj ho).symm
    · have e1 : hp.objs[a]? = none := by
        show (Array.replicate (c + 1) ob)[a]? = none
        rw [Array.getElem?_replicate, if_neg ha]
      rw [e1] at ho
      cases ho
  have hc : hp.get? c = some ob := by
    unfold Heap.get?
    have e1 : hp.objs[c]? = some ob := by
      show (Array.replicate (c + 1) ob)[c]? = some ob
      rw [Array.getElem?_replicate, if_pos (Nat.lt_succ_self c)]
    rw [e1]
  have h2 := (congrFun e hp).mpr ⟨ob, _, 0, hc, rfl, rfl⟩
  obtain ⟨_, _, o, es, ep, h3, _, h4, _⟩ := h2
  rw [hg _ _ h3] at h4
  cases h4
theorem nx_ent {P : Program} {w : World} {d : Addr} {xs : Ent} : NX (EntO P w d xs) := ⟨nt_ent, fun c q => ent_ne c q⟩
theorem find_at {xs : Ent} {k : NestedKey} {x : NestedKey × Addr × Value} (h : xs.find? (fun x => decide (x.1 = k)) = some x) : x.1 = k := of_decide_eq_true (List.find?_some (p := fun x : NestedKey × Addr × Value => decide (x.1 = k)) h)
section
variable {c : Cfg} {F H F' H' : Hp} {p g d b : Addr} {R : Rls} {U : List (List Str)} {xs : Ent} {S : Addr → Prop} {row : List Str} {n : Nat}
theorem CAt.len (C : CAt c F H p g d R U xs) : xs.length ≤ U.length * 25 := by
  have h := nodup_le (m := U.flatMap fun row => (List.range 25).map fun n : Nat => keyOf row n) C.nd fun k hk => by
    obtain ⟨x, hx, rfl⟩ := List.mem_map.mp hk
    obtain ⟨row, n, e, _, hu, hn, _⟩ := C.ok x hx
    rw [e]
    exact List.mem_flatMap.mpr ⟨row, hu, List.mem_map.mpr ⟨n, List.mem_range.mpr (by omega), rfl⟩⟩
  rw [List.length_map] at h
  refine Nat.le_trans h (Nat.le_of_eq ?_)
  rw [List.length_flatMap]
  clear h C
  induction U with
  | nil => rfl
  | cons x r ih =>
    rw [List.map_cons, List.sum_cons, ih, List.length_cons, List.length_map, List.length_range]
    omega
theorem CAt.keys (C : CAt c F H p g d R U xs) (k : Kn F H) : KeysAt H xs := fun x hx => by
  obtain ⟨row, n, e, ka, _⟩ := C.ok x hx
  exact ⟨row, n, e, ka.up k.same⟩
theorem CAt.step (C : CAt c F H p g d R U xs) (st : Stp c.T S F H F' H') (hs : ¬ S d) : CAt c F' H' p g d R U xs := by
  obtain ⟨dx, h⟩ := C.obj
  obtain ⟨h1, h2⟩ := st.mu C.fd C.hd nt_ent hs
  exact ⟨⟨dx, st.sub _ _ h⟩, h1, h2, fun x hx => (C.ok x hx).up st.sub, C.nd⟩
theorem CAt.froze {D : Addr} {o : HO} (C : CAt c F H p g d R U xs) (hD : H D = some o) (hl : ∀ ys, o ≠ EntO c.P c.w d ys) (fD : F D = none) : CAt c (upd F D o) H p g d R U xs := by
  obtain ⟨dx, h⟩ := C.obj
  have nd : d ≠ D := fun z => by
    have := C.hd
    rw [z, hD] at this
    exact hl xs (by rw [z]; exact Option.some.inj this)
  exact ⟨⟨dx, same_upd fD _ _ h⟩, by rw [upd_ne nd]; exact C.fd, C.hd, fun x hx => (C.ok x hx).up (same_upd fD), C.nd⟩
theorem CAt.got (C : CAt c F H p g d R U xs) {q : Addr × Value} (h : atKey xs (keyOf row (n : Int)) = some q) : RelV (.int (cnt R n row : Int)) q.2 := by
  unfold atKey at h
  obtain ⟨x, hx, rfl⟩ := Option.map_eq_some_iff.mp h
  have hk := find_at hx
  obtain ⟨row', n', e, _, _, _, rv⟩ := C.ok x (List.mem_of_find?_eq_some hx)
  obtain ⟨e1, e2⟩ := keyOf_inj (hk.symm.trans e)
  subst e1
  have : n = n' := by omega
  subst this
  exact rv
theorem keys_stored {xs : Ent} {k : NestedKey} {a : Addr} {v : Value} (nd : (xs.map (·.1)).Nodup) : ((storedH xs k a v).map (·.1)).Nodup := by
  cases h : atKey xs k with
  | none =>
    rw [storedH_new h, List.map_append]
    refine List.nodup_append.mpr ⟨nd, (List.pairwise_singleton _ _ : ([k] : List NestedKey).Nodup), fun x hx y hy e => ?_⟩
    subst e
    have hy : x = k := by simpa using hy
    subst hy
    obtain ⟨z, hz, rfl⟩ := List.mem_map.mp hx
    unfold atKey at h
    rw [Option.map_eq_none_iff, List.find?_eq_none] at h
    exact h z hz (decide_eq_true rfl)
  | some q =>
    rw [storedH_old h, List.map_map]
    have e : ((fun x : NestedKey × Addr × Value => x.1) ∘ putAt k v) = (·.1) := by
      funext x
      show (putAt k v x).1 = x.1
      unfold putAt
      split <;> rfl
    rw [e]
    exact nd
theorem CAt.store (C : CAt c F H p g d R U xs) (hb : KeyAt F row n b) (hu : row ∈ U) (hn : n ≤ 24) {u : Value} (rv : RelV (.int (cnt R n row : Int)) u) : CAt c F (upd H d (EntO c.P c.w d (storedH xs (keyOf row (n : Int)) b u))) p g d R U (storedH xs (keyOf row (n : Int)) b u) := by
  refine ⟨C.obj, C.fd, upd_same, fun x hx => ?_, keys_stored C.nd⟩
  cases h : atKey xs (keyOf row (n : Int)) with
  | none =>
    rw [storedH_new h] at hx
    rcases List.mem_append.mp hx with hx | hx
    · exact C.ok x hx
    · have : x = (keyOf row n, b, u) := by simpa using hx
      subst this
      exact ⟨row, n, rfl, hb, hu, hn, rv⟩
  | some q =>
    rw [storedH_old h] at hx
    obtain ⟨y, hy, rfl⟩ := List.mem_map.mp hx
    unfold putAt
    by_cases e : y.1 = keyOf row (n : Int)
    · rw [if_pos e]
      obtain ⟨row', n', e', ka, hu', hn', _⟩ := C.ok y hy
      obtain ⟨e1, e2⟩ := keyOf_inj (e.symm.trans e')
      subst e1
      have : n = n' := by omega
      subst this
      exact ⟨row, n, e', ka, hu', hn', rv⟩
    · rw [if_neg e]
      exact C.ok y hy
theorem atKey_stored {xs : Ent} {k : NestedKey} {a : Addr} {v : Value} : ∃ q, atKey (storedH xs k a v) k = some q := by
  cases h : atKey (storedH xs k a v) k with
  | some q => exact ⟨q, rfl⟩
  | none =>
    exfalso
    unfold atKey at h
    rw [Option.map_eq_none_iff, List.find?_eq_none] at h
    cases e : atKey xs k with
    | none =>
      rw [storedH_new e] at h
      exact h (k, a, v) (List.mem_append.mpr (.inr (List.mem_singleton.mpr rfl))) (decide_eq_true rfl)
    | some q =>
      rw [storedH_old e] at h
      unfold atKey at e
      obtain ⟨x, hx, _⟩ := Option.map_eq_some_iff.mp e
      have hk := find_at hx
      refine h (putAt k v x) (List.mem_map.mpr ⟨x, List.mem_of_find?_eq_some hx, rfl⟩) (decide_eq_true ?_)
      unfold putAt
      rw [if_pos hk]
      exact hk
end
def msr (row : List Str) (n : Nat) : Nat := 2 * n + (if row.length ≤ 1 then 0 else 1)
def spC (c : Cfg) (m : Nat) : Sp := fun vs H Q _ => ∃ (F : Hp) (p g d : Addr) (ns : List Str) (R : Rls) (ν : Str → Nat) (sg : List Nat) (U : List (List Str)) (xs : Ent) (a : Addr) (row : List Str) (n : Nat), vs = [.ref p, .ref a, .int (n : Int)] ∧ Kn F H ∧ GK c.CG F g ns R ν sg ∧ CAt c F H p g d R U xs ∧ Clo ns R U ∧ F a = some (.lst (row.map V.str)) ∧ row ∈ U ∧ n ≤ 24 ∧ msr row n < m ∧
  ∀ F' H' xs', Stp c.T (fun b => b = d) F H F' H' → CAt c F' H' p g d R U xs' → Q (.int (cnt R n row : Int)) H'
end K60
namespace K60
open PySem PySem.Spec PyProof.Rows L2 LamX
theorem dint_t {i j : Int} (h : i = j) : decide (V.int i = V.int j) = true := decide_eq_true (by rw [h])
theorem dint_f {i j : Int} (h : i ≠ j) : decide (V.int i = V.int j) = false := decide_eq_false (fun z => h (by injection z))
theorem dstr_t {i j : Str} (h : i = j) : decide (V.str i = V.str j) = true := decide_eq_true (by rw [h])
theorem dstr_f {i j : Str} (h : i ≠ j) : decide (V.str i = V.str j) = false := decide_eq_false (fun z => h (V.str_inj z))
theorem castsum : ∀ l : List Nat, (l.map fun n : Nat => (n : Int)).sum = ((l.sum : Nat) : Int)
  | [] => rfl
  | x :: r => by rw [List.map_cons, List.sum_cons, castsum r, List.sum_cons]; omega
abbrev wayP : HP (Nat × Nat) := tup2 natP natP
theorem sum_range_succ (f : Nat → Nat) (n : Nat) : ((List.range (n + 1)).map f).sum = ((List.range n).map f).sum + f n := by
  rw [List.range_succ, List.map_append, List.sum_append]
  simp
theorem rng_lo {i : Int} (h : 0 ≤ i) : -(2 ^ 62) ≤ i := Int.le_trans (by decide) h
theorem rng_hi {i : Int} (h : i ≤ 1000000) : i < 2 ^ 62 := Int.lt_of_le_of_lt h (by decide)
section
variable {c : Cfg} {K : PySem.W.Frag} {mg : Str → Option Value} {base : Heap} {m : Nat}
/-- what the two comprehensions keep -/
def IvC (c : Cfg) (p g d : Addr) (R : Rls) (U : List (List Str)) {α : Type} (q : Nat → List α → Prop) : Nat → Hp → Hp → List α → Prop := fun i F H ys => ys.length ≤ i ∧ q i ys ∧ ∃ xs, CAt c F H p g d R U xs
theorem ivC_ok {p g d D : Addr} {R : Rls} {U : List (List Str)} {α : Type} {q : Nat → List α → Prop} {n : Nat} {H1 : Hp} {o : HO} (hn : n ≤ sizeLine) (hd : H1 d = some o) (hD : H1 D = none) : IvOk (IvC c p g d R U q) n (fun b => b = d) H1 D := by
  have nd : d ≠ D := fun z => by rw [z, hD] at hd; cases hd
  refine ⟨fun i F H ys o' h hf => ?_, fun i F H ys h => h.1, hn, fun z => nd z.symm, hD⟩
  obtain ⟨h1, h2, xs, C⟩ := h
  exact ⟨h1, h2, xs, C.obj, C.fd, by rw [upd_ne nd]; exact C.hd, C.ok, C.nd⟩
theorem sc_Counts_reckoned : FnScope ["self", "row", "many", "ways", "first", "ahead", "rest", "letter", "more"] ["self", "row", "many"] (defScope s_Counts_reckoned) := ⟨rfl, rfl, rfl, by decide +kernel, rfl, by decide +kernel, by decide +kernel⟩
theorem ok_reckoned (D : Dfm K c.CC "reckoned" "Counts.reckoned" s_Counts_reckoned (["self", "row", "many"])) (Gr : GrC K c.CG) (Co : CoC K c.CC) (B : Blt mg) (M_rules_of : Gm c.P c.w K mg base 1 c.CG "rules_of" (["self", "name"]) (sp_rules_of c)) (M_of_row : Gm c.P c.w K mg base (2 * m + 1) c.CC "of_row" (["self", "row", "many"]) (spC c m)) :
    Gm c.P c.w K mg base (2 * m + 2) c.CC "reckoned" (["self", "row", "many"]) (spC c (m + 1)) := by
  refine D.ok sc_Counts_reckoned (fun vs H Q E h => ?_) (fun fa cdv A outer s H vs Q E hr h => ?_)
  · obtain ⟨F, p, g, d, ns, R, ν, sg, U, xs, a, row, n, rfl, _⟩ := h
    rfl
  obtain ⟨F, p, g, d, ns, R, ν, sg, U, xs, a, row, n, rfl, kn, G, C, cl, ha, hu, hn, hm, q⟩ := h
  have hk1 : 1 ≤ 2 * m + 1 := by omega
  have hkO : 2 * m + 1 ≤ 2 * m + 1 := Nat.le_refl _
  refine ⟨_, (pss_cons (ps_if (PW.pt (pw_or (pt_cmpR (op_eqD (hu64 hr)) (pv 1) (pe_lst pa_nil) (nomark _)) (pw_or1 (pt_cmpR op_eq (pv 2) pe_int (nomark _))))) (pss_one (ps_ret (pe_callTy call_int1 (by rfl) B.int (by decide +kernel) (pa_cons (pe_and (pe_cmpR (op_eqD (hu64 hr)) (pv 1) (pe_lst pa_nil) (nomark _)) (pe_one (pe_cmpR op_eq (pv 2) pe_int (nomark _)))) pa_nil)))) pss_nil) (pss_cons (ps_if (pt_cmpR op_eq (pe_callB call_len_seq (by rfl) B.len PySem.boot_len (pa_cons (pv 1) pa_nil)) pe_int (nomark _)) (pss_one (ps_ret (pe_callB (cr_sum rfl) (by rfl) B.sum (by decide +kernel) (pa_cons (pe_lc (own := [("letter", 7), ("more", 8)]) (wi := (iList K (tM c.CG "rules_of" (sp_rules_of c) (tFld K (tVar 0) "grammar") (tCons (tOp (rIxL K) (tVar 1) (tC (.int 0))) tNil)))) (g := (gTup K 2 (gCons (gName 7) (gCons (gName 8) gNil)))) (tt := tYes) (te := (tM c.CC "of_row" (spC c m) (tVar 0) (tCons (tVar 8) (tCons (tOp rSubI (tVar 2) (tC (.int 1))) tNil)))) rfl sc_Counts_reckoned.nd (pi_list (pe_m (hk := hk1) M_rules_of Gr.cl hr (pe_fld (pv 0) rfl) (pa_cons (pe_ix ix_list (pv 1) pe_int (fun _ _ => rfl)) pa_nil))) (blkOk_by (own := [("letter", 7), ("more", 8)]) (N := ["self", "row", "many", "ways", "first", "ahead", "rest", "letter", "more"]) (sc := defScope s_Counts_reckoned) (by decide +kernel)) (fun _ _ _ _ _ => (pg_tup rfl (pgs_cons (pg_name (i := 7) sc_Counts_reckoned.nd rfl (Or.inl rfl)) (pgs_cons (pg_name (i := 8) sc_Counts_reckoned.nd rfl (Or.inl rfl)) pgs_nil)))) (fun _ _ _ _ _ => pts_nil) (fun _ _ _ _ _ => (pe_m (hk := hkO) M_of_row Co.cl hr (pv 0) (pa_cons (pv 8) (pa_cons (pe_op op_sub (pv 2) pe_int) pa_nil))))) pa_nil)))) pss_nil) (pss_cons (ps_setLc (i := 3) (own := [("first", 4)]) (wi := (iRng2 (tCons (tC (.int 1)) (tCons (tOp rAddI (tVar 2) (tC (.int 1))) tNil)))) (g := (gName 4)) (tt := tYes) (te := (tTup (tCons (tM c.CC "of_row" (spC c m) (tVar 0) (tCons (tSl (rSlL K) (tVar 1) tNoPart (tPart (tC (.int 1)))) (tCons (tVar 4) tNil))) (tCons (tOp rSubI (tVar 2) (tVar 4)) tNil)))) rfl sc_Counts_reckoned.nd rfl rfl (sw_true rfl rfl rfl (by decide +kernel)) (pi_range2 (by rfl) B.range (pa_cons pe_int (pa_cons (pe_op op_add (pv 2) pe_int) pa_nil))) (blkOk_by (own := [("first", 4)]) (N := ["self", "row", "many", "ways", "first", "ahead", "rest", "letter", "more"]) (sc := defScope s_Counts_reckoned) (by decide +kernel)) (fun _ _ _ _ _ => (pg_name (i := 4) sc_Counts_reckoned.nd rfl (Or.inl rfl))) (fun _ _ _ _ _ => pts_nil) (fun _ _ _ _ _ => (pe_tup (pa_cons (pe_m (hk := hkO) M_of_row Co.cl hr (pv 0) (pa_cons (pe_slice sl_list (pv 1) po_none (po_some pe_int)) (pa_cons (pv 4) pa_nil))) (pa_cons (pe_op op_sub (pv 2) (pv 4)) pa_nil))))) (pss_one (ps_ret (pe_callB (cr_sum rfl) (by rfl) B.sum (by decide +kernel) (pa_cons (pe_lc (own := [("ahead", 5), ("rest", 6)]) (wi := (iList K (tVar 3))) (g := (gTup K 2 (gCons (gName 5) (gCons (gName 6) gNil)))) (tt := (tTest (tOp rGtI (tVar 5) (tC (.int 0))))) (te := (tOp rMulI (tVar 5) (tM c.CC "of_row" (spC c m) (tVar 0) (tCons (tSl (rSlL K) (tVar 1) (tPart (tC (.int 1))) tNoPart) (tCons (tVar 6) tNil))))) rfl sc_Counts_reckoned.nd (pi_list (pv 3)) (blkOk_by (own := [("ahead", 5), ("rest", 6)]) (N := ["self", "row", "many", "ways", "first", "ahead", "rest", "letter", "more"]) (sc := defScope s_Counts_reckoned) (by decide +kernel)) (fun _ _ _ _ _ => (pg_tup rfl (pgs_cons (pg_name (i := 5) sc_Counts_reckoned.nd rfl (Or.inl rfl)) (pgs_cons (pg_name (i := 6) sc_Counts_reckoned.nd rfl (Or.inl rfl)) pgs_nil)))) (fun _ _ _ _ _ => (pts_one (pt_cmpR op_gt (pv 5) pe_int (nomark _)))) (fun _ _ _ _ _ => (pe_op op_mul (pv 5) (pe_m (hk := hkO) M_of_row Co.cl hr (pv 0) (pa_cons (pe_slice sl_list (pv 1) (po_some pe_int) po_none) (pa_cons (pv 6) pa_nil)))))) pa_nil))))))), ?_⟩
  obtain ⟨dx, hp⟩ := C.obj
  have hsub := cl.sub row hu
  have hln := cl.len row hu
  refine ⟨_, rfl, Nat.zero_le _, fun e0 he0 => ?_⟩
  have st1 : Stp c.T (fun b => b = d) F H F (upd H e0 (.lst [])) := .mut kn he0
  have hp1 : upd H e0 (.lst []) e0 = some (.lst []) := upd_same
  have C1 : CAt c F (upd H e0 (.lst [])) p g d R U xs := C.step (S := S0) (.mut kn he0) (fun h => h)
  generalize upd H e0 (.lst []) = H1 at *
  have k1 := st1.kn
  have ha1 := (k1 _ _ ha).1
  refine eqD_nil (fun X hX => G.sok X (hsub X hX)) (SqL.of ha1) (SqL.of hp1) ⟨_, rfl, ?_⟩
  have ret0 : ∀ k : Bool, (cnt R n row : Int) = (if k = true then 1 else 0) → ∀ H2 F2, Stp c.T S0 F H1 F2 H2 → Q (.int (if k = true then 1 else 0)) H2 := fun k hk H2 F2 st2 => by
    rw [← hk]
    exact q F2 H2 xs (st1.trans (st2.wide fun b h => h.elim)) (C1.step st2 (fun h => h))
  cases row with
  | nil =>
    rw [decide_eq_true rfl]
    refine ⟨_, rfl, Nat.zero_le _, fun e1 he1 => ?_⟩
    have st2 : Stp c.T S0 F H1 F (upd H1 e1 (.lst [])) := .mut k1 he1
    refine eqD_nil (fun X hX => G.sok X (hsub X hX)) (SqL.of (st2.kn _ _ ha).1) (SqL.of upd_same) ⟨_, rfl, ?_⟩
    rw [decide_eq_true rfl]
    refine ⟨_, rfl, rfl, .inr ⟨_, rfl, ?_⟩⟩
    refine ret0 _ ?_ _ F st2
    cases n with
    | zero => rw [dint_t (i := ((0 : Nat) : Int)) (j := 0) rfl]; rfl
    | succ k => rw [dint_f (by omega)]; rfl
  | cons X r =>
    rw [decide_eq_false (fun h => by cases h)]
    refine ⟨_, rfl, rfl, _, rfl, ?_⟩
    by_cases h0 : n = 0
    · subst h0
      rw [dint_t (i := ((0 : Nat) : Int)) (j := 0) rfl]
      refine ⟨_, rfl, Nat.zero_le _, fun e1 he1 => ?_⟩
      have st2 : Stp c.T S0 F H1 F (upd H1 e1 (.lst [])) := .mut k1 he1
      refine eqD_nil (fun X hX => G.sok X (hsub X hX)) (SqL.of (st2.kn _ _ ha).1) (SqL.of upd_same) ⟨_, rfl, ?_⟩
      rw [decide_eq_false (fun h => by cases h)]
      refine .inr ⟨_, rfl, ?_⟩
      refine ret0 false ?_ _ F st2
      rw [cnt_cons0]
      rfl
    · rw [dint_f (by omega)]
      have hX : X ∈ ns := hsub X (List.mem_cons_self ..)
      have G1 := G
      obtain ⟨dg, kn1, stg, od, hg⟩ := G.gr.obj k1
      refine ⟨_, rfl, a, _, rfl, .inl (SqL.of ha1), rfl, _, rfl, ?_⟩
      obtain ⟨k, rfl⟩ : ∃ k, n = k + 1 := ⟨n - 1, by omega⟩
      by_cases hr1 : r = []
      · subst hr1
        rw [dint_t (by rfl)]
        refine ⟨_, rfl, p, c.CC, dx, _, _, rfl, (k1 _ _ hp).1, Co.cl, Co.ng, cfl_g, g, dg, _, rfl, hg, gfl_no (by decide +kernel) (by decide +kernel) (by decide +kernel), _, rfl, a, _, 0, .str X, rfl, rfl, SqL.of ha1, atI_nat (i := 0) rfl, F, g, ns, R, X, rfl, k1, G.gr, hX, G.le1000 hX, fun F4' H4 b us st4 hb0 hfb heb pr4 => ⟨b, rfl, ⟨_, SqL.of heb⟩, fun Dl hDl => ?_⟩⟩
        have s4 : Stp c.T S0 F H1 (upd F4' b (.lst us)) H4 := st4.freeze hb0 heb (nt_lst _)
        have pr : Paired (ruleP (upd F4' b (.lst us))) us (R X) := paired_up (same_upd hfb) pr4
        have hb4 : upd F4' b (.lst us) b = some (.lst us) := upd_same
        generalize upd F4' b (.lst us) = F4 at *
        have lus := Paired.len pr
        have C4 := C1.step s4 (fun h => h)
        have okl : IvOk (IvC c p g d R U fun i ys => ys = ((R X).take i).map fun p => cnt R k p.2) us.length (fun b => b = d) H4 Dl := ivC_ok (szl (by have := G.le1000 hX; omega)) C4.hd hDl
        refine lc_F (T := c.T) (S := fun b => b = d) (walk_list (K := K) (a := b) (xs := us)) natP _ s4.kn okl ⟨Nat.le_refl _, rfl, xs, C4⟩ (fun i F' H' ys k' e _ _ => SqL.of (k' _ _ (e _ _ hb4)).1) ?_ ?_
        · rintro j x F5 H5 H' ys hj cu ⟨rfl, hx⟩
          obtain ⟨⟨l, row⟩, hy, t, u, w, rfl, ht, hu', b', rfl, hb'⟩ := Paired.at pr hx
          obtain rfl : u = V.str ⟨#[l]⟩ := hu'
          have hb' : F4 b' = some (.lst (row.map V.str)) := hb'
          have k5 := cu.kn
          obtain ⟨h1, h2, xs5, C5⟩ := cu.iv
          obtain ⟨dx5, hp5⟩ := C5.obj
          have hrm : (l, row) ∈ R X := List.mem_of_getElem? hy
          refine ⟨t, _, rfl, SqT.of (k5 _ _ (cu.sub _ _ ht)).1, rfl, _, _, rfl, _, _, rfl, rfl, rfl, ?_⟩
          refine ⟨_, rfl, p, dx5, _, rfl, (k5 _ _ hp5).1, cfl_no (by decide +kernel) (by decide +kernel), _, rfl, _, rfl, _, _, rfl, rfl, F5, p, g, d, ns, R, ν, sg, U, xs5, b', row, k, ?_, k5, (G.up s4.sub).up cu.sub, C5, cl, cu.sub _ _ hb', cl.rl X hX _ hrm, by omega, ?_, fun F6 H6 xs6 st6 C6 => ?_⟩
          · exact congrArg (fun z => [V.ref p, V.ref b', V.int z]) (show ((k + 1 : Nat) : Int) - 1 = k by omega)
          · have e1 : msr row k ≤ 2 * k + 1 := by unfold msr; split <;> omega
            have e2 : msr [X] (k + 1) = 2 * (k + 1) := rfl
            omega
          · refine cu.put okl hj st6 (z := cnt R k row) rfl ⟨?_, ?_, xs6, C6⟩
            · rw [List.length_append, List.length_singleton]; omega
            · show ys ++ [cnt R k row] = ((R X).take (j + 1)).map fun p => cnt R k p.2
              rw [take_snoc hy, List.map_append, show ys = _ from h2]
              rfl
        · intro F5 H5 ys us5 st5 fD hd' pr' iv
          obtain ⟨h1, h2, xs5, C5⟩ := iv
          have e5 := nats_of pr'
          subst e5
          refine ⟨Dl, _, rfl, SqL.of hd', ?_⟩
          rw [castsum, h2, List.take_of_length_le (by omega), ← cnt_one]
          exact q F5 H5 xs5 ((st1.trans (s4.wide fun b h => h.elim)).trans st5) C5
      · have hrl : r.length ≠ 0 := fun h => hr1 (List.length_eq_zero_iff.mp h)
        have hz : (((X :: r).map V.str).length : Int) ≠ 1 := by
          rw [List.length_map, List.length_cons]
          omega
        rw [dint_f hz]
        have hr2 : ¬ (X :: r).length ≤ 1 := by
          rw [List.length_cons]
          omega
        have hms : 2 * (k + 1) + 1 < m + 1 := by
          unfold msr at hm
          rw [if_neg hr2] at hm
          exact hm
        refine ⟨_, rfl, _, _, rfl, rfl, 1, (k : Int) + 2, ?_, ⟨by decide, by decide, rng_lo (by omega), rng_hi (by omega)⟩, fun Dl hDl => ?_⟩
        · exact congrArg (fun z => [V.int 1, V.int z]) (show ((k + 1 : Nat) : Int) + 1 = (k : Int) + 2 by omega)
        have hnr : ((k : Int) + 2 - 1).toNat = k + 1 := by omega
        rw [hnr]
        have okl : IvOk (IvC c p g d R U fun i ys => ys = (List.range i).map fun j => (cnt R (j + 1) [X], k - j)) (k + 1) (fun b => b = d) H1 Dl := ivC_ok (szl (by omega)) C1.hd hDl
        refine lc_F (T := c.T) (S := fun b => b = d) (walk_range (lo := 1) (n := k + 1)) wayP _ k1 okl ⟨Nat.le_refl _, rfl, xs, C1⟩ (fun _ _ _ _ _ _ _ _ => trivial) ?_ ?_
        · rintro j x F5 H5 H' ys hj cu ⟨rfl, rfl⟩
          have k5 := cu.kn
          obtain ⟨h1, h2, xs5, C5⟩ := cu.iv
          obtain ⟨dx5, hp5⟩ := C5.obj
          have ha5 := cu.sub _ _ ha
          refine ⟨rfl, ?_⟩
          refine ⟨_, rfl, p, dx5, _, rfl, (k5 _ _ hp5).1, cfl_no (by decide +kernel) (by decide +kernel), _, rfl, 1, rfl, a, _, rfl, SqL.of (k5 _ _ ha5).1, fun p2 hp2 => ?_⟩
          rw [show cutV ((X :: r).map V.str) none (some 1) = [X].map V.str from by rw [show (1 : Int) = ((1 : Nat) : Int) from rfl, cutV_to]; rfl]
          have st6 : Stp c.T S0 F5 H' (upd F5 p2 (.lst ([X].map V.str))) (upd H' p2 (.lst ([X].map V.str))) := .data k5 hp2 (nt_lst _)
          have h6 : upd F5 p2 (.lst ([X].map V.str)) p2 = some (.lst ([X].map V.str)) := upd_same
          generalize upd F5 p2 (.lst ([X].map V.str)) = F6 at *
          generalize upd H' p2 (.lst ([X].map V.str)) = H6 at *
          have C6 := C5.step st6 (fun h => h)
          refine ⟨_, rfl, F6, p, g, d, ns, R, ν, sg, U, xs5, p2, [X], j + 1, ?_, st6.kn, (G.up cu.sub).up st6.sub, C6, cl, h6, cl.one X hX, by omega, ?_, fun F7 H7 xs7 st7 C7 => ?_⟩
          · exact congrArg (fun z => [V.ref p, V.ref p2, V.int z]) (show (1 : Int) + ((j : Nat) : Int) = ((j + 1 : Nat) : Int) by omega)
          · show 2 * (j + 1) + 0 < m
            omega
          · refine ⟨_, rfl, _, rfl, _, _, rfl, rfl, by show 2 ≤ sizeLine; decide, fun t ht => ?_⟩
            have st8 : Stp c.T S0 F7 H7 (upd F7 t (.tup [.int (cnt R (j + 1) [X] : Int), (.int (((k + 1 : Nat) : Int) - (1 + ((j : Nat) : Int))) : V)])) (upd H7 t (.tup [.int (cnt R (j + 1) [X] : Int), (.int (((k + 1 : Nat) : Int) - (1 + ((j : Nat) : Int))) : V)])) := .data st7.kn ht (nt_tup _)
            have e8 : ((k + 1 : Nat) : Int) - (1 + ((j : Nat) : Int)) = ((k - j : Nat) : Int) := by omega
            have C8 := C7.step st8 (fun h => h)
            have h8 : upd F7 t (.tup [.int (cnt R (j + 1) [X] : Int), (.int (((k + 1 : Nat) : Int) - (1 + ((j : Nat) : Int))) : V)]) t = _ := upd_same
            refine cu.put okl hj (((st6.wide fun b h => h.elim).trans st7).trans (st8.wide fun b h => h.elim)) (z := (cnt R (j + 1) [X], k - j)) ⟨t, _, _, rfl, h8, rfl, congrArg V.int e8⟩ ⟨?_, ?_, xs7, C8⟩
            · rw [List.length_append, List.length_singleton]; omega
            · show ys ++ [_] = (List.range (j + 1)).map _
              rw [List.range_succ, List.map_append, show ys = _ from h2]
              rfl
        · intro F5 H5 ys us5 st5 fD hd' pr' iv
          obtain ⟨h1, h2, xs5, C5⟩ := iv
          have s6 : Stp c.T (fun b => b = d) F H1 (upd F5 Dl (.lst us5)) H5 := st5.freeze (.of hDl) hd' (nt_lst _)
          have pr6 : Paired (wayP (upd F5 Dl (.lst us5))) us5 ys := paired_up (same_upd fD) pr'
          have C6 : CAt c (upd F5 Dl (.lst us5)) H5 p g d R U xs5 := C5.froze hd' (fun _ h => by cases h) fD
          have h6 : upd F5 Dl (.lst us5) Dl = some (.lst us5) := upd_same
          generalize upd F5 Dl (.lst us5) = F6 at *
          have lus : us5.length = k + 1 := by
            rw [Paired.len pr6, show ys = (List.range (k + 1)).map _ from h2, List.length_map, List.length_range]
          refine ⟨_, rfl, Dl, rfl, ⟨_, SqL.of hd'⟩, fun D2 hD2 => ?_⟩
          have okl2 : IvOk (IvC c p g d R U fun i (zs : List Nat) => zs.sum = ((List.range i).map fun j => cnt R (j + 1) [X] * cnt R (k - j) r).sum) us5.length (fun b => b = d) H5 D2 := ivC_ok (szl (by omega)) C6.hd hD2
          refine lc_F (T := c.T) (S := fun b => b = d) (walk_list (K := K) (a := Dl) (xs := us5)) natP _ s6.kn okl2 ⟨Nat.le_refl _, rfl, xs5, C6⟩ (fun i F' H' ys k' e _ _ => SqL.of (k' _ _ (e _ _ h6)).1) ?_ ?_
          · rintro j x F7 H7 H' zs hj cu ⟨rfl, hx⟩
            rw [lus] at hj
            obtain ⟨⟨z1, z2⟩, hy, t, u, w, rfl, ht, hu1, hu2⟩ := Paired.at pr6 hx
            rw [show ys = (List.range (k + 1)).map _ from h2, List.getElem?_map, List.getElem?_range hj] at hy
            obtain ⟨rfl, rfl⟩ := Prod.mk.inj (Option.some.inj hy)
            obtain rfl : u = V.int ((cnt R (j + 1) [X] : Nat) : Int) := hu1
            obtain rfl : w = V.int ((k - j : Nat) : Int) := hu2
            have k7 := cu.kn
            obtain ⟨g1, g2, xs7, C7⟩ := cu.iv
            obtain ⟨dx7, hp7⟩ := C7.obj
            have ha7 := cu.sub _ _ (s6.sub _ _ ha)
            refine ⟨t, _, rfl, SqT.of (k7 _ _ (cu.sub _ _ ht)).1, rfl, _, _, rfl, _, _, rfl, rfl, rfl, ?_⟩
            refine ⟨_, rfl, _, _, rfl, rfl, _, rfl, ?_⟩
            have hle := G.gg.cnt_le (j + 1) [X] (fun Y hY => by rw [List.mem_singleton.mp hY]; exact hX)
            have hpw : 4 ^ (j + 1) ≤ 4 ^ 24 := Nat.pow_le_pow_right (by decide) (by omega)
            by_cases hpos : 0 < cnt R (j + 1) [X]
            · rw [decide_eq_true (show (0 : Int) < (cnt R (j + 1) [X] : Nat) by omega)]
              refine ⟨_, rfl, _, rfl, p, dx7, _, rfl, (k7 _ _ hp7).1, cfl_no (by decide +kernel) (by decide +kernel), _, rfl, 1, rfl, a, _, rfl, SqL.of (k7 _ _ ha7).1, fun p2 hp2 => ?_⟩
              rw [show cutV ((X :: r).map V.str) (some 1) none = r.map V.str from cutV_from (i := 1) (by simp)]
              have st8 : Stp c.T S0 F7 H' (upd F7 p2 (.lst (r.map V.str))) (upd H' p2 (.lst (r.map V.str))) := .data k7 hp2 (nt_lst _)
              have h8 : upd F7 p2 (.lst (r.map V.str)) p2 = some (.lst (r.map V.str)) := upd_same
              generalize upd F7 p2 (.lst (r.map V.str)) = F8 at *
              generalize upd H' p2 (.lst (r.map V.str)) = H8 at *
              have C8 := C7.step st8 (fun h => h)
              refine ⟨_, rfl, F8, p, g, d, ns, R, ν, sg, U, xs7, p2, r, k - j, rfl, st8.kn, ((G.up s6.sub).up cu.sub).up st8.sub, C8, cl, h8, cl.tl X r hu, by omega, ?_, fun F9 H9 xs9 st9 C9 => ?_⟩
              · have e1 : msr r (k - j) ≤ 2 * (k - j) + 1 := by unfold msr; split <;> omega
                omega
              · refine ⟨_, _, rfl, rfl, .inl ⟨by omega, ?_⟩, ?_⟩
                · have : (4 : Nat) ^ 24 < 2 ^ 64 := by decide
                  have h2' : ((2 : Int) ^ 64) = ((2 ^ 64 : Nat) : Int) := by decide
                  rw [h2']
                  exact Int.ofNat_lt.mpr (by omega)
                · refine cu.put okl2 (by rw [lus]; exact hj) ((st8.wide fun b h => h.elim).trans st9) (z := cnt R (j + 1) [X] * cnt R (k - j) r) (congrArg V.int (Int.natCast_mul _ _).symm) ⟨?_, ?_, xs9, C9⟩
                  · rw [List.length_append, List.length_singleton]; omega
                  · show (zs ++ [_]).sum = ((List.range (j + 1)).map fun j => cnt R (j + 1) [X] * cnt R (k - j) r).sum
                    rw [sum_range_succ, List.sum_append, show zs.sum = _ from g2]
                    simp
            · rw [decide_eq_false (show ¬ ((0 : Int) < (cnt R (j + 1) [X] : Nat)) by omega)]
              refine cu.skip okl2 (.refl k7) ⟨by omega, ?_, xs7, C7⟩
              show zs.sum = ((List.range (j + 1)).map fun j => cnt R (j + 1) [X] * cnt R (k - j) r).sum
              rw [sum_range_succ, show cnt R (j + 1) [X] = 0 by omega, Nat.zero_mul, Nat.add_zero]
              exact g2
          · intro F7 H7 zs us7 st7 fD7 hd7 pr7 iv7
            obtain ⟨g1, g2, xs7, C7⟩ := iv7
            have e7 := nats_of pr7
            subst e7
            refine ⟨D2, _, rfl, SqL.of hd7, ?_⟩
            rw [castsum, g2, lus, show ((List.range (k + 1)).map fun j => cnt R (j + 1) [X] * cnt R (k - j) r).sum = cnt R (k + 1) (X :: r) from ?_]
            · exact q F7 H7 xs7 ((st1.trans s6).trans st7) C7
            · rw [cnt_ways]
              refine congrArg List.sum (List.map_congr_left fun j hj => ?_)
              rw [show k + 1 - (j + 1) = k - j by omega]
theorem sc_Counts_of_row : FnScope ["self", "row", "many", "key"] ["self", "row", "many"] (defScope s_Counts_of_row) := ⟨rfl, rfl, rfl, by decide +kernel, rfl, by decide +kernel, by decide +kernel⟩
theorem ok_of_row_step (D : Dfm K c.CC "of_row" "Counts.of_row" s_Counts_of_row (["self", "row", "many"])) (Co : CoC K c.CC) (B : Blt mg) (M_reckoned : Gm c.P c.w K mg base (2 * m + 2) c.CC "reckoned" (["self", "row", "many"]) (spC c (m + 1))) :
    Gm c.P c.w K mg base (2 * (m + 1) + 1) c.CC "of_row" (["self", "row", "many"]) (spC c (m + 1)) := by
  refine D.ok (k := 2 * m + 2) sc_Counts_of_row (fun vs H Q E h => ?_) (fun fa cdv A outer s H vs Q E hr h => ?_)
  · obtain ⟨F, p, g, d, ns, R, ν, sg, U, xs, a, row, n, rfl, _⟩ := h
    rfl
  obtain ⟨F, p, g, d, ns, R, ν, sg, U, xs, a, row, n, rfl, kn, G, C, cl, ha, hu, hn, hm, q⟩ := h
  have hkO : 2 * m + 2 ≤ 2 * m + 2 := Nat.le_refl _
  refine ⟨_, (pss_cons (ps_set (i := 3) sc_Counts_of_row.nd rfl (Or.inl rfl) (pe_tup (pa_cons (pe_callTy call_tuple_of (by rfl) B.tuple (by decide +kernel) (pa_cons (pv 1) pa_nil)) (pa_cons (pv 2) pa_nil)))) (pss_cons (ps_if (pt_cmp (pc_enotin (hu64 hr) (pv 3) (pe_fld (pv 0) rfl))) (pss_one (ps_eput (hu64 hr) (pe_fld (pv 0) rfl) (pv 3) (pe_m (hk := hkO) M_reckoned Co.cl hr (pv 0) (pa_cons (pv 1) (pa_cons (pv 2) pa_nil))) rfl)) pss_nil) (pss_one (ps_ret (pe_eget (hu64 hr) (pe_fld (pv 0) rfl) (pv 3) (fun _ _ => rfl)))))), ?_⟩
  obtain ⟨dx, hp⟩ := C.obj
  have hsz := C.len
  have hsz2 := cl.sz
  refine ⟨_, rfl, a, _, rfl, .inl ⟨SqL.of (kn _ _ ha).1, fun e1 he1 => ?_⟩⟩
  have st1 : Stp c.T S0 F H (upd F e1 (.tup (row.map V.str))) (upd H e1 (.tup (row.map V.str))) := .data kn he1 (nt_tup _)
  have h1 : upd F e1 (.tup (row.map V.str)) e1 = some (.tup (row.map V.str)) := upd_same
  generalize upd F e1 (.tup (row.map V.str)) = F1 at *
  generalize upd H e1 (.tup (row.map V.str)) = H1 at *
  refine ⟨_, rfl, by show 2 ≤ sizeLine; decide, fun b hb => ?_⟩
  have st2 : Stp c.T S0 F1 H1 (upd F1 b (.tup [.ref e1, .int (n : Int)])) (upd H1 b (.tup [.ref e1, .int (n : Int)])) := .data st1.kn hb (nt_tup _)
  have h2 : upd F1 b (.tup [.ref e1, .int (n : Int)]) b = some (.tup [.ref e1, .int (n : Int)]) := upd_same
  generalize upd F1 b (.tup [.ref e1, .int (n : Int)]) = F2 at *
  generalize upd H1 b (.tup [.ref e1, .int (n : Int)]) = H2 at *
  have ka : KeyAt F2 row n b := ⟨e1, h2, st2.sub _ _ h1⟩
  have s12 := st1.trans st2
  have C2 := C.step s12 (fun h => h)
  have k2 := st2.kn
  have hp2 := (k2 _ _ (s12.sub _ _ hp)).1
  refine ⟨_, rfl, _, rfl, p, c.CC, dx, _, _, rfl, hp2, Co.cl, Co.nf, cfl_f, d, xs, b, row, n, rfl, rfl, C2.hd, C2.keys k2, ka.up k2.same, _, rfl, ?_⟩
  cases e : atKey xs (keyOf row (n : Int)) with
  | some x =>
    exact ⟨_, rfl, p, c.CC, dx, _, _, rfl, hp2, Co.cl, Co.nf, cfl_f, _, rfl, d, xs, b, row, n, x, .int (cnt R n row : Int), rfl, rfl, C2.hd, C2.keys k2, ka.up k2.same, e, C2.got e, q F2 H2 xs (s12.wide fun b h => h.elim) C2⟩
  | none =>
    refine ⟨_, rfl, p, dx, _, rfl, hp2, cfl_no (by decide +kernel) (by decide +kernel), _, rfl, _, rfl, F2, p, g, d, ns, R, ν, sg, U, xs, a, row, n, rfl, k2, G.up s12.sub, C2, cl, s12.sub _ _ ha, hu, hn, hm, fun F3 H3 xs3 st3 C3 => ?_⟩
    have hp3 := (st3.kn _ _ (st3.sub _ _ (s12.sub _ _ hp))).1
    have ka3 : KeyAt F3 row n b := ka.up st3.sub
    have hl3 := C3.len
    refine ⟨_, rfl, p, c.CC, dx, _, _, rfl, hp3, Co.cl, Co.nf, cfl_f, _, rfl, d, xs3, b, row, n, rfl, rfl, C3.hd, C3.keys st3.kn, ka3.up st3.kn.same, szlt (by omega), fun u hu' => ?_⟩
    have C4 := C3.store ka3 hu hn hu'
    have st4 : Stp c.T (fun b => b = d) F3 H3 F3 (upd H3 d (EntO c.P c.w d (storedH xs3 (keyOf row (n : Int)) b u))) := .set st3.kn C3.fd C3.hd nx_ent nt_ent rfl
    have hp4 := (st4.kn _ _ (st3.sub _ _ (s12.sub _ _ hp))).1
    obtain ⟨x, hx⟩ := atKey_stored (xs := xs3) (k := keyOf row (n : Int)) (a := b) (v := u)
    exact ⟨_, rfl, p, c.CC, dx, _, _, rfl, hp4, Co.cl, Co.nf, cfl_f, _, rfl, d, _, b, row, n, x, .int (cnt R n row : Int), rfl, rfl, C4.hd, C4.keys st4.kn, ka3.up st4.kn.same, hx, C4.got hx, q F3 _ _ (((s12.wide fun b h => h.elim).trans st3).trans st4) C4⟩
theorem ok_of_row_zero (D : Dfm K c.CC "of_row" "Counts.of_row" s_Counts_of_row (["self", "row", "many"])) : Gm c.P c.w K mg base 1 c.CC "of_row" (["self", "row", "many"]) (spC c 0) := by
  refine D.ok sc_Counts_of_row (fun vs H Q E h => ?_) (fun fa cdv A outer s H vs Q E hr h => ?_)
  · obtain ⟨F, p, g, d, ns, R, ν, sg, U, xs, a, row, n, rfl, _⟩ := h
    rfl
  · obtain ⟨F, p, g, d, ns, R, ν, sg, U, xs, a, row, n, rfl, kn, G, C, cl, ha, hu, hn, hm, q⟩ := h
    exact absurd hm (Nat.not_lt_zero _)
theorem ok_of_row (D1 : Dfm K c.CC "of_row" "Counts.of_row" s_Counts_of_row (["self", "row", "many"])) (D2 : Dfm K c.CC "reckoned" "Counts.reckoned" s_Counts_reckoned (["self", "row", "many"])) (Gr : GrC K c.CG) (Co : CoC K c.CC) (B : Blt mg) (M_rules_of : Gm c.P c.w K mg base 1 c.CG "rules_of" (["self", "name"]) (sp_rules_of c)) :
    ∀ m, Gm c.P c.w K mg base (2 * m + 1) c.CC "of_row" (["self", "row", "many"]) (spC c m)
  | 0 => ok_of_row_zero D1
  | m + 1 => ok_of_row_step D1 Co B (ok_reckoned D2 Gr Co B M_rules_of (ok_of_row D1 D2 Gr Co B M_rules_of m))
end
end K60
namespace K60
open PySem PySem.Spec PyProof.Rows L2 LamX
/-! closed sets of rows -/
def tls : List Str → List (List Str)
  | [] => [[]]
  | X :: r => (X :: r) :: tls r
theorem tls_self : ∀ row : List Str, row ∈ tls row
  | [] => List.mem_singleton.mpr rfl
  | X :: r => List.mem_cons_self ..
theorem tls_tl : ∀ {row : List Str} {X : Str} {r : List Str}, X :: r ∈ tls row → r ∈ tls row
  | [], X, r, h => by cases List.mem_singleton.mp h
  | Y :: s, X, r, h => by
    rcases List.mem_cons.mp h with e | e
    · cases e
      exact List.mem_cons_of_mem _ (tls_self s)
    · exact List.mem_cons_of_mem _ (tls_tl e)
theorem tls_sub : ∀ {row u : List Str}, u ∈ tls row → (∀ Y ∈ u, Y ∈ row) ∧ u.length ≤ row.length
  | [], u, h => by cases List.mem_singleton.mp h; exact ⟨fun _ h => h, Nat.le_refl _⟩
  | Y :: s, u, h => by
    rcases List.mem_cons.mp h with e | e
    · cases e
      exact ⟨fun _ h => h, Nat.le_refl _⟩
    · obtain ⟨h1, h2⟩ := tls_sub e
      exact ⟨fun Z hZ => List.mem_cons_of_mem _ (h1 Z hZ), by rw [List.length_cons]; omega⟩
theorem tls_len : ∀ row : List Str, (tls row).length = row.length + 1
  | [] => rfl
  | X :: r => by
    show (tls r).length + 1 = _
    rw [tls_len r, List.length_cons]
def uni (ns : List Str) (R : Rls) : List (List Str) := (ns.flatMap fun X => tls [X]) ++ ns.flatMap fun X => (R X).flatMap fun p => tls p.2
theorem flatMap_le {α β : Type} {f : α → List β} {b : Nat} : ∀ {l : List α}, (∀ a ∈ l, (f a).length ≤ b) → (l.flatMap f).length ≤ l.length * b
  | [], _ => Nat.zero_le _
  | x :: r, h => by
    rw [List.flatMap_cons, List.length_append, List.length_cons, Nat.add_mul]
    have h1 := h x (List.mem_cons_self ..)
    have h2 := flatMap_le (l := r) fun a ha => h a (List.mem_cons_of_mem _ ha)
    omega
theorem uni_len {ns : List Str} {R : Rls} {ν : Str → Nat} {sg : List Nat} (G : GG ns R ν sg) : (uni ns R).length ≤ 100 := by
  unfold uni
  rw [List.length_append]
  have h1 : (ns.flatMap fun X => tls [X]).length ≤ ns.length * 2 := flatMap_le fun X _ => by rw [tls_len]; exact Nat.le_refl _
  have h2 : (ns.flatMap fun X => (R X).flatMap fun p => tls p.2).length ≤ ns.length * 16 := flatMap_le fun X hX => by
    have h3 : ((R X).flatMap fun p => tls p.2).length ≤ (R X).length * 4 := flatMap_le fun p hp => by
      rw [tls_len]
      have := (G.cl X hX p hp).2.2
      omega
    have := G.le4 X hX
    omega
  have := G.le
  omega
theorem clo_uni {ns : List Str} {R : Rls} {ν : Str → Nat} {sg : List Nat} (G : GG ns R ν sg) : Clo ns R (uni ns R) where
  one X hX := List.mem_append.mpr (.inl (List.mem_flatMap.mpr ⟨X, hX, tls_self _⟩))
  rl X hX p hp := List.mem_append.mpr (.inr (List.mem_flatMap.mpr ⟨X, hX, List.mem_flatMap.mpr ⟨p, hp, tls_self _⟩⟩))
  tl X r h := by
    rcases List.mem_append.mp h with h | h
    · obtain ⟨Y, hY, h⟩ := List.mem_flatMap.mp h
      exact List.mem_append.mpr (.inl (List.mem_flatMap.mpr ⟨Y, hY, tls_tl h⟩))
    · obtain ⟨Y, hY, h⟩ := List.mem_flatMap.mp h
      obtain ⟨p, hp, h⟩ := List.mem_flatMap.mp h
      exact List.mem_append.mpr (.inr (List.mem_flatMap.mpr ⟨Y, hY, List.mem_flatMap.mpr ⟨p, hp, tls_tl h⟩⟩))
  sub row h Z hZ := by
    rcases List.mem_append.mp h with h | h
    · obtain ⟨Y, hY, h⟩ := List.mem_flatMap.mp h
      have := (tls_sub h).1 Z hZ
      rw [List.mem_singleton.mp this]
      exact hY
    · obtain ⟨Y, hY, h⟩ := List.mem_flatMap.mp h
      obtain ⟨p, hp, h⟩ := List.mem_flatMap.mp h
      exact (G.cl Y hY p hp).2.1 Z ((tls_sub h).1 Z hZ)
  len row h := by
    rcases List.mem_append.mp h with h | h
    · obtain ⟨Y, hY, h⟩ := List.mem_flatMap.mp h
      have h1 : row.length ≤ 1 := (tls_sub h).2
      omega
    · obtain ⟨Y, hY, h⟩ := List.mem_flatMap.mp h
      obtain ⟨p, hp, h⟩ := List.mem_flatMap.mp h
      have h1 := (tls_sub h).2
      have h2 := (G.cl Y hY p hp).2.2
      omega
  sz := Nat.le_trans (uni_len G) (by decide)
theorem Clo.more {ns : List Str} {R : Rls} {U : List (List Str)} {row : List Str} (C : Clo ns R U) (hs : ∀ Y ∈ row, Y ∈ ns) (hl : row.length ≤ 1000) (hz : U.length + row.length + 1 ≤ 40000) : Clo ns R (U ++ tls row) where
  one X hX := List.mem_append.mpr (.inl (C.one X hX))
  rl X hX p hp := List.mem_append.mpr (.inl (C.rl X hX p hp))
  tl X r h := by
    rcases List.mem_append.mp h with h | h
    · exact List.mem_append.mpr (.inl (C.tl X r h))
    · exact List.mem_append.mpr (.inr (tls_tl h))
  sub u h Z hZ := by
    rcases List.mem_append.mp h with h | h
    · exact C.sub u h Z hZ
    · exact hs Z ((tls_sub h).1 Z hZ)
  len u h := by
    rcases List.mem_append.mp h with h | h
    · exact C.len u h
    · exact Nat.le_trans (tls_sub h).2 hl
  sz := by
    rw [List.length_append, tls_len]
    omega
theorem CAt.more {c : Cfg} {F H : Hp} {p g d : Addr} {R : Rls} {U V' : List (List Str)} {xs : Ent} (C : CAt c F H p g d R U xs) : CAt c F H p g d R (U ++ V') xs :=
  ⟨C.obj, C.fd, C.hd, fun x hx => let ⟨row, n, e, ka, hu, h⟩ := C.ok x hx; ⟨row, n, e, ka, List.mem_append.mpr (.inl hu), h⟩, C.nd⟩
def sp_Counts_init (c : Cfg) : Sp := fun vs H Q _ => ∃ (p g dx : Addr), vs = [.ref p, .ref g] ∧ H p = some (.ins c.CC dx []) ∧ ∀ d, H d = none → Q .non (upd (upd H d (EntO c.P c.w d [])) p (.ins c.CC dx (cfl g d)))
/-- Counts(grammar), made -/
theorem mk_counts {c : Cfg} {F H : Hp} {g x dx : Addr} {R : Rls} {U : List (List Str)} {W : VK} (kn : Kn F H) (hx : H x = none) (hdx : H dx = none) (hne : dx ≠ x) (q : ∀ F' H' d, Stp c.T S0 F H F' H' → Fr H d → CAt c F' H' x g d R U [] → W .non H') :
    sp_Counts_init c (.ref x :: [.ref g]) (upd (upd H dx (.own x)) x (.ins c.CC dx [])) W E0 := by
  refine ⟨x, g, dx, rfl, upd_same, fun d hd => ?_⟩
  have s1 : Stp c.T (fun b => b = x) F H F (upd H dx (.own x)) := .mut kn hdx
  have hx1 : upd H dx (.own x) x = none := by rw [upd_ne (fun z => hne z.symm)]; exact hx
  have s2 : Stp c.T (fun b => b = x) F (upd H dx (.own x)) F (upd (upd H dx (.own x)) x (.ins c.CC dx [])) := .mut s1.kn hx1
  have h2 : upd (upd H dx (.own x)) x (.ins c.CC dx []) x = some (.ins c.CC dx []) := upd_same
  have s12 := s1.trans s2
  have hdH : Fr H d := s12.fr kn (.of hd)
  generalize upd (upd H dx (.own x)) x (.ins c.CC dx []) = H2 at *
  have s3 : Stp c.T (fun b => b = x) F H2 F (upd H2 d (EntO c.P c.w d [])) := .mut s2.kn hd
  have ndx : d ≠ x := fun z => by rw [z, h2] at hd; cases hd
  have h3 : upd H2 d (EntO c.P c.w d []) x = some (.ins c.CC dx []) := by rw [upd_ne (fun z => ndx z.symm)]; exact h2
  have h3d : upd H2 d (EntO c.P c.w d []) d = some (EntO c.P c.w d []) := upd_same
  generalize upd H2 d (EntO c.P c.w d []) = H3 at *
  have fx : F x = none := kn.off hx
  have s4 : Stp c.T (fun b => b = x) F H3 F (upd H3 x (.ins c.CC dx (cfl g d))) := .set s3.kn fx h3 (nx_ins _ _ _) (nt_ins _ _ _) rfl
  have s5 : Stp c.T (fun b => b = x) F H (upd F x (.ins c.CC dx (cfl g d))) (upd H3 x (.ins c.CC dx (cfl g d))) := ((s12.trans s3).trans s4).freeze (.of hx) upd_same (nt_ins _ _ _)
  refine q _ _ d (s5.loc fun b hb => .inr (by rw [show b = x from hb]; exact .of hx)) hdH ⟨⟨dx, upd_same⟩, ?_, ?_, fun _ h => (nomatch h), List.nodup_nil⟩
  · rw [upd_ne ndx]
    exact s2.kn.off hd
  · rw [upd_ne ndx]
    exact h3d
section
variable {c : Cfg} {K : PySem.W.Frag} {mg : Str → Option Value} {base : Heap}
theorem sc_Counts_init : FnScope ["self", "grammar"] ["self", "grammar"] (defScope s_Counts_init) := ⟨rfl, rfl, rfl, by decide +kernel, rfl, by decide +kernel, by decide +kernel⟩
theorem ok_Counts_init (D : Dfi K c.CC "Counts.__init__" s_Counts_init (["self", "grammar"])) (Co : CoC K c.CC) : Gi c.P c.w K mg base 1 c.CC (["self", "grammar"]) (sp_Counts_init c) := by
  refine D.ok sc_Counts_init (fun vs H Q E h => ?_) (fun fa cdv A outer s H vs Q E hr h => ?_)
  · obtain ⟨p, g, dx, rfl, _⟩ := h
    rfl
  obtain ⟨p, g, dx, rfl, hp, q⟩ := h
  refine ⟨_, (pss_cons (ps_fld (pv 0) (pv 1) rfl) (pss_one (ps_fld (pv 0) pe_enew rfl))), ?_⟩
  refine ⟨_, rfl, _, rfl, p, c.CC, dx, [], rfl, hp, Co.cl, Co.ng, by decide, fun d hd => ?_⟩
  have ndp : d ≠ p := fun z => by rw [z, upd_same] at hd; cases hd
  have hd0 : H d = none := by rw [upd_ne ndp] at hd; exact hd
  refine ⟨_, rfl, p, c.CC, dx, _, rfl, by rw [upd_ne (fun z => ndp z.symm), upd_same], Co.cl, Co.nf, by show 1 < 1000; decide, ?_⟩
  have e : upd (upd (upd H p (.ins c.CC dx (putF "grammar" (.ref g) []))) d (EntO c.P c.w d [])) p (.ins c.CC dx (cfl g d)) = upd (upd H d (EntO c.P c.w d [])) p (.ins c.CC dx (cfl g d)) := by
    funext b
    by_cases h1 : b = p
    · rw [h1, upd_same, upd_same]
    · by_cases h2 : b = d
      · rw [h2, upd_ne ndp, upd_same, upd_ne ndp, upd_same]
      · rw [upd_ne h1, upd_ne h2, upd_ne h1, upd_ne h1, upd_ne h2]
  have := q d hd0
  rw [← e] at this
  exact this
end
end K60
namespace K60
open PySem PySem.Spec PyProof.Rows L2 LamX
abbrev sp_of_row0 (c : Cfg) : Sp := spC c 50
@[irreducible] def sp_of_row (c : Cfg) : Sp := spC c 50
theorem sp_of_row_of {c : Cfg} {vs : List V} {H : Hp} {Q : VK} {E : XK} (h : spC c 50 vs H Q E) : sp_of_row c vs H Q E := by
  unfold sp_of_row
  exact h
theorem sp_of_row_to {c : Cfg} {vs : List V} {H : Hp} {Q : VK} {E : XK} (h : sp_of_row c vs H Q E) : spC c 50 vs H Q E := by
  unfold sp_of_row at h
  exact h
theorem msr_lt {row : List Str} {n : Nat} (h : n ≤ 24) : msr row n < 50 := by
  unfold msr
  split <;> omega
def sp_word_counts (c : Cfg) : Sp := fun vs H Q _ => ∃ (F : Hp) (g : Addr) (ns : List Str) (R : Rls) (ν : Str → Nat) (sg : List Nat) (a : Addr) (row : List Str) (most : Nat), vs = [.ref g, .ref a, .int (most : Int)] ∧ Kn F H ∧ GK c.CG F g ns R ν sg ∧ F a = some (.lst (row.map V.str)) ∧ (∀ Y ∈ row, Y ∈ ns) ∧ row.length ≤ 900 ∧ most ≤ 24 ∧
  RetL c natP ((List.range (most + 1)).map fun n => cnt R n row) F H Q
section
variable {c : Cfg} {K : PySem.W.Frag} {mg : Str → Option Value} {base : Heap}
theorem sc_word_counts : FnScope ["grammar", "row", "most", "counts", "many"] ["grammar", "row", "most"] (defScope s_word_counts) := ⟨rfl, rfl, rfl, by decide +kernel, rfl, by decide +kernel, by decide +kernel⟩
theorem ok_word_counts (D : Dfn K mg "word_counts" s_word_counts (["grammar", "row", "most"])) (Co : CoC K c.CC) (B : Blt mg) (mgCounts : mg "Counts" = some (.ref c.CC)) (G_look_at_tongue : Gd c.P c.w K mg base 4 "look_at_tongue" (["grammar", "rows"]) (sp_look_at_tongue c)) (I_Counts : Gi c.P c.w K mg base 1 c.CC (["self", "grammar"]) (sp_Counts_init c)) (M_of_row : Gm c.P c.w K mg base 101 c.CC "of_row" (["self", "row", "many"]) (sp_of_row0 c)) :
    Gd c.P c.w K mg base 102 "word_counts" (["grammar", "row", "most"]) (sp_word_counts c) := by
  refine D.ok sc_word_counts (fun vs H Q E h => ?_) (fun fa cdv A outer s H vs Q E hr h => ?_)
  · obtain ⟨F, g, ns, R, ν, sg, a, row, most, rfl, _⟩ := h
    rfl
  obtain ⟨F, g, ns, R, ν, sg, a, row, most, rfl, kn, G, ha, hsub, hl, hm, q⟩ := h
  refine ⟨_, (pss_cons (ps_expr (pe_g G_look_at_tongue hr (by rfl) (pa_cons (pv 0) (pa_cons (pe_lst (pa_cons (pv 1) pa_nil)) pa_nil)))) (pss_cons (ps_set (i := 3) sc_word_counts.nd rfl (Or.inr rfl) (pe_mk I_Counts hr (by rfl) mgCounts (pa_cons (pv 0) pa_nil))) (pss_one (ps_ret (pe_lc (own := [("many", 4)]) (wi := (iRng1 (tCons (tOp rAddI (tVar 2) (tC (.int 1))) tNil))) (g := (gName 4)) (tt := tYes) (te := (tM c.CC "of_row" (sp_of_row0 c) (tVar 3) (tCons (tCB (rListOf K) (tCons (tVar 1) tNil)) (tCons (tVar 4) tNil)))) rfl sc_word_counts.nd (pi_range1 (by rfl) B.range (pa_cons (pe_op op_add (pv 2) pe_int) pa_nil)) (blkOk_by (own := [("many", 4)]) (N := ["grammar", "row", "most", "counts", "many"]) (sc := defScope s_word_counts) (by decide +kernel)) (fun _ _ _ _ _ => (pg_name (i := 4) sc_word_counts.nd rfl (Or.inl rfl))) (fun _ _ _ _ _ => pts_nil) (fun _ _ _ _ _ => (pe_m M_of_row Co.cl hr (pv 3) (pa_cons (pe_callTy call_list_of (by rfl) B.list (by decide +kernel) (pa_cons (pv 1) pa_nil)) (pa_cons (pv 4) pa_nil))))))))), ?_⟩
  refine ⟨_, rfl, _, rfl, by show 1 ≤ sizeLine; decide, fun b hb => ?_⟩
  have st1 : Stp c.T S0 F H F (upd H b (.lst [.ref a])) := .mut kn hb
  refine ⟨F, g, ns, R, ν, sg, a, b, row, rfl, st1.kn, G, upd_same, ha, hsub, fun F2 H2 st2 => ?_⟩
  have s12 := st1.trans st2
  refine ⟨_, rfl, fun p dp hp0 hdp hne => ?_⟩
  refine mk_counts (R := R) (U := uni ns R) st2.kn hp0 hdp hne fun F3 H3 d st3 hd C3 => ⟨rfl, ?_⟩
  have cl : Clo ns R (uni ns R ++ tls row) := (clo_uni G.gg).more hsub (by omega) (by have := uni_len G.gg; omega)
  have C3' := C3.more (V' := tls row)
  obtain ⟨dx, hp⟩ := C3.obj
  have s23 := s12.trans st3
  refine ⟨_, rfl, _, _, rfl, rfl, (most : Int) + 1, rfl, rng_lo (by omega), rng_hi (by omega), fun Dl hDl => ?_⟩
  rw [show ((most : Int) + 1).toNat = most + 1 by omega]
  have okl : IvOk (IvC c p g d R (uni ns R ++ tls row) fun i ys => ys = (List.range i).map fun j => cnt R j row) (most + 1) (fun b => b = d) H3 Dl := ivC_ok (szl (by omega)) C3.hd hDl
  refine lc_F (T := c.T) (S := fun b => b = d) (walk_range (lo := 0) (n := most + 1)) natP _ st3.kn okl ⟨Nat.le_refl _, rfl, [], C3'⟩ (fun _ _ _ _ _ _ _ _ => trivial) ?_ ?_
  · rintro j x F5 H5 H' ys hj cu ⟨rfl, rfl⟩
    have k5 := cu.kn
    obtain ⟨h1, h2, xs5, C5⟩ := cu.iv
    have ha5 := cu.sub _ _ (s23.sub _ _ ha)
    refine ⟨rfl, ?_⟩
    refine ⟨_, rfl, p, dx, _, rfl, (k5 _ _ (cu.sub _ _ hp)).1, cfl_no (by decide +kernel) (by decide +kernel), _, rfl, a, _, rfl, .inl (SqL.of (k5 _ _ ha5).1), fun e1 he1 => ?_⟩
    have st6 : Stp c.T S0 F5 H' (upd F5 e1 (.lst (row.map V.str))) (upd H' e1 (.lst (row.map V.str))) := .data k5 he1 (nt_lst _)
    have h6 : upd F5 e1 (.lst (row.map V.str)) e1 = some (.lst (row.map V.str)) := upd_same
    generalize upd F5 e1 (.lst (row.map V.str)) = F6 at *
    generalize upd H' e1 (.lst (row.map V.str)) = H6 at *
    refine ⟨_, rfl, F6, p, g, d, ns, R, ν, sg, _, xs5, e1, row, j, ?_, st6.kn, ((G.up s23.sub).up cu.sub).up st6.sub, C5.step st6 (fun h => h), cl, h6, List.mem_append.mpr (.inr (tls_self _)), by omega, msr_lt (by omega), fun F7 H7 xs7 st7 C7 => ?_⟩
    · exact congrArg (fun z => [V.ref p, V.ref e1, V.int z]) (show (0 : Int) + ((j : Nat) : Int) = ((j : Nat) : Int) by omega)
    · refine cu.put okl hj ((st6.wide fun b h => h.elim).trans st7) (z := cnt R j row) rfl ⟨?_, ?_, xs7, C7⟩
      · rw [List.length_append, List.length_singleton]; omega
      · show ys ++ [_] = (List.range (j + 1)).map _
        rw [List.range_succ, List.map_append, show ys = _ from h2]
        rfl
  · intro F5 H5 ys us5 st5 fD hd' pr' iv
    obtain ⟨h1, h2, xs5, C5⟩ := iv
    rw [show ys = (List.range (most + 1)).map _ from h2] at pr'
    have sAll : Stp c.T S0 F2 H2 F5 H5 := ((st3.wide fun b h => h.elim).trans st5).loc fun b hb => .inr (by rw [show b = d from hb]; exact hd)
    exact q F5 H5 Dl us5 (s12.trans sAll) (s23.fr kn (.of hDl)) fD hd' pr'
end
end K60
namespace K60
open PySem PySem.Spec PyProof.Rows L2 LamX
/-- a def that makes lambdas -/
def Dft (K : PySem.W.Frag) (mg : Str → Option Value) (base : Heap) (T : Tb) (x : Str) (st : Stmt) (ps : List Str) : Prop := ∃ f fd c P, Fun K x x st f fd ∧ mg x = some (.ref f) ∧ Binds K fd ps [] ∧ fd.code = .ref c ∧ TabB base mg c P ∧ (P, x ++ ".<locals>." ++ "<lambda>") ∈ T ∧ ∀ p ∈ T, p.1 = P → p.2 = x ++ ".<locals>." ++ "<lambda>"
theorem Dft.ok {P : Program} {w : World} {K : PySem.W.Frag} {mg : Str → Option Value} {base : Heap} {x : Str} {st : Stmt} {N ps : List Str} {k : Nat} {sp : Sp} {T : Tb} (D : Dft K mg base T x st ps) (S : FnScope N ps (defScope st)) (len : ∀ vs H Q E, sp vs H Q E → vs.length = ps.length)
    (hbody : ∀ (f : Addr) (c Pt : Addr) (A : Around) (outer : List Env) (s : Shared) (H : Hp) (vs : List V) (Q : VK) (E : XK), TabB base mg c Pt → (Pt, x ++ ".<locals>." ++ "<lambda>") ∈ T → (∀ p ∈ T, p.1 = Pt → p.2 = x ++ ".<locals>." ++ "<lambda>") → Room k (A.deeper (envOfC x (defScope st) s.heap.objs.size f (.ref c))) → sp vs H Q E →
      ∃ t, PSs (cxOf CX0 P w K mg base N x (defScope st) f (.ref c) A outer s H E).nox (defBody st) t ∧ t { nx := fun _ H' => Q .non H', rt := Q } (start N vs) H) : Gd P w K mg base (k + 1) x ps sp := by
  obtain ⟨f, fd, c, Pt, F, g, b, hc, tb, hm, hu⟩ := D
  refine ⟨f, fd, ?_, g, F.kp, b⟩
  obtain ⟨oc, od, kV, doc, pm, an, cdv, ct, osl, rfl, lk, hcd⟩ := F.ex
  have hc' : cdv = .ref c := hc
  subst hc'
  refine fn_of lk hcd S len fun A outer s H vs Q E hr hsp => ?_
  obtain ⟨t, h, q⟩ := hbody f c Pt A outer s H vs Q E tb hm hu hr hsp
  exact ⟨t, h.nox, q⟩
def sp_sorted_rules (c : Cfg) : Sp := fun vs H Q _ => ∃ (F : Hp) (g : Addr) (ns : List Str) (R : Rls) (ν : Str → Nat) (sg : List Nat) (X : Str), vs = [.ref g, .str X] ∧ Kn F H ∧ Tabs c.T H ∧ GK c.CG F g ns R ν sg ∧ X ∈ ns ∧ RetL c ruleP (srt (R X)) F H Q
theorem one_le (a b : Nat) : decide ((⟨#[a]⟩ : Str).cps.toList ≤ (⟨#[b]⟩ : Str).cps.toList) = decide (a ≤ b) := by
  refine decide_eq_decide.mpr ?_
  show [a] ≤ [b] ↔ a ≤ b
  constructor
  · intro h
    rcases Nat.lt_or_ge b a with g | g
    · exact absurd (List.Lex.rel g : [b] < [a]) (List.not_lt.mpr h)
    · exact g
  · intro h
    refine List.not_lt.mp fun g => ?_
    cases g with
    | rel g => omega
    | cons g => cases g
theorem paired_zip {α β : Type} {R : α → β → Prop} : ∀ {l : List α} {m : List β}, Paired R l m → ∃ qs : List (α × β), l = qs.map (·.1) ∧ m = qs.map (·.2) ∧ ∀ q ∈ qs, R q.1 q.2
  | _, _, .nil => ⟨[], rfl, rfl, fun _ h => nomatch h⟩
  | x :: _, y :: _, .cons h t => by
    obtain ⟨qs, h1, h2, h3⟩ := paired_zip t
    refine ⟨(x, y) :: qs, by rw [h1]; rfl, by rw [h2]; rfl, fun q hq => ?_⟩
    rcases List.mem_cons.mp hq with e | e
    · rw [e]; exact h
    · exact h3 q e
theorem zip_paired {α β : Type} {R : α → β → Prop} : ∀ {qs : List (α × β)}, (∀ q ∈ qs, R q.1 q.2) → Paired R (qs.map (·.1)) (qs.map (·.2))
  | [], _ => .nil
  | q :: r, h => .cons (h q (List.mem_cons_self ..)) (zip_paired fun p hp => h p (List.mem_cons_of_mem _ hp))
section
variable {c : Cfg} {K : PySem.W.Frag} {mg : Str → Option Value} {base : Heap}
theorem sc_sorted_rules : FnScope ["grammar", "name"] ["grammar", "name"] (defScope s_sorted_rules) := ⟨rfl, rfl, rfl, by decide +kernel, rfl, by decide +kernel, by decide +kernel⟩
theorem ok_sorted_rules (D : Dft K mg base c.T "sorted_rules" s_sorted_rules (["grammar", "name"])) (Gr : GrC K c.CG) (B : Blt mg) (M_rules_of : Gm c.P c.w K mg base 1 c.CG "rules_of" (["self", "name"]) (sp_rules_of c)) :
    Gd c.P c.w K mg base 2 "sorted_rules" (["grammar", "name"]) (sp_sorted_rules c) := by
  refine D.ok sc_sorted_rules (fun vs H Q E h => ?_) (fun fa cd Pt A outer s H vs Q E TB hmT huT hr h => ?_)
  · obtain ⟨F, g, ns, R, ν, sg, X, rfl, _⟩ := h
    rfl
  obtain ⟨F, g, ns, R, ν, sg, X, rfl, kn, tb, G, hX, q⟩ := h
  refine ⟨_, (pss_one (ps_ret (pe_sortKey (T := c.T) (hg := by rfl) (hm := B.sorted) (TB := TB) (hcode := rfl) (hmT := hmT) (huT := huT) (hdef := rfl) (hfree := ?_) (hu := hu64 hr) (hkey := keyOk_fst ?_ ?_ (by decide)) (pa_cons (pe_m M_rules_of Gr.cl hr (pv 0) (pa_cons (pv 1) pa_nil)) pa_nil)))), ?_⟩
  · intro y hy h
    cases List.mem_singleton.mp hy
    cases h
  · exact ⟨fun _ _ _ _ _ _ => rfl, by decide +kernel, by decide +kernel, rfl, rfl, rfl⟩
  · have := hr.dp
    show (A.deeper _).depth + 5 < recursionLimit
    omega
  obtain ⟨dx, kn1, st, od, hg⟩ := G.gr.obj kn
  refine ⟨_, rfl, g, dx, _, rfl, hg, gfl_no (by decide +kernel) (by decide +kernel) (by decide +kernel), _, rfl, F, g, ns, R, X, rfl, kn, G.gr, hX, G.le1000 hX, fun F1 H1 a us st1 ha0 hfa hea pr1 => ⟨st1.tab tb, fun H2 e2 tb2 => ?_⟩⟩
  obtain ⟨qs, rfl, e3, hq⟩ := paired_zip pr1
  have st2 : Stp c.T S0 F1 H1 F1 H2 := .extN st1.kn e2 fun _ => tb2
  refine ⟨a, qs.map fun q => (q.1, .str ⟨#[q.2.1]⟩), rfl, ?_, ?_, ?_, ?_, ?_, fun p hp => ?_⟩
  · rw [List.map_map]
    exact SqL.of (e2 _ _ hea (nt_lst _))
  · intro b hb
    obtain ⟨q', hq', rfl⟩ := List.mem_map.mp hb
    obtain ⟨t, u, w, h1, ht, hu, _⟩ := hq q' hq'
    obtain rfl : u = V.str ⟨#[q'.2.1]⟩ := hu
    exact ⟨t, _, _, h1, (st2.kn _ _ ht).1, rfl⟩
  · rw [List.map_map]
    exact PySem.W.AllAlike.of (enc := fun q : V × (Nat × List Str) => PyData.str ⟨#[q.2.1]⟩) fun b b' => by simp only [PySem.W.alike]
  · rw [List.map_map]
    exact PySem.W.Sortable.others (enc := fun q : V × (Nat × List Str) => PyData.str ⟨#[q.2.1]⟩) fun b => ⟨(fun z => by cases z), (fun xs z => by cases z)⟩
  · intro b hb
    obtain ⟨q', hq', rfl⟩ := List.mem_map.mp hb
    show PyData.depth (.str _) ≤ 1
    exact Nat.zero_le _
  · have st3 : Stp c.T S0 F1 H2 F1 (upd H2 p (.lst (((qs.map fun q => (q.1, PyData.str ⟨#[q.2.1]⟩)).mergeSort (PySem.W.dataLe false (·.2))).map (·.1)))) := .mut st2.kn hp
    have e4 : ((qs.map fun q => (q.1, PyData.str ⟨#[q.2.1]⟩)).mergeSort (PySem.W.dataLe false (·.2))).map (·.1) = (qs.mergeSort fun a b => rle a.2 b.2).map (·.1) := by
      rw [← List.map_mergeSort (f := fun q : V × (Nat × List Str) => (q.1, PyData.str ⟨#[q.2.1]⟩)) (r := fun a b => rle a.2 b.2), List.map_map]
      · rfl
      · intro a _ b _
        have h := congrFun (congrFun (PySem.W.dataLe_str (fun q : V × (Nat × List Str) => (⟨#[q.2.1]⟩ : Str))) a) b
        show rle a.2 b.2 = PySem.W.dataLe false (fun q : V × (Nat × List Str) => PyData.str ⟨#[q.2.1]⟩) a b
        rw [h]
        unfold rle
        exact (one_le a.2.1 b.2.1).symm
    have e5 : srt (R X) = (qs.mergeSort fun a b => rle a.2 b.2).map (·.2) := by
      rw [e3]
      exact (List.map_mergeSort (f := fun q : V × (Nat × List Str) => q.2) (s := rle) (r := fun a b => rle a.2 b.2) (fun a _ b _ => rfl)).symm
    rw [e5] at q
    refine q F1 _ p _ ((st1.trans st2).trans st3) ((st1.trans st2).fr kn (.of hp)) (st2.kn.off hp) (by rw [upd_same]) ?_
    rw [e4]
    refine zip_paired fun q' hq' => hq q' ?_
    exact (List.mergeSort_perm _ _).subset hq'
end
end K60
namespace K60
open PySem PySem.Spec PyProof.Rows L2 LamX
def sp_place_of_word (c : Cfg) : Sp := fun vs H Q _ => ∃ (F : Hp) (g : Addr) (ns : List Str) (R : Rls) (ν : Str → Nat) (sg : List Nat) (a : Addr) (row : List Str) (w : List Nat), vs = [.ref g, .ref a, .str (wrd w)] ∧ Kn F H ∧ GK c.CG F g ns R ν sg ∧ F a = some (.lst (row.map V.str)) ∧ (∀ Y ∈ row, Y ∈ ns) ∧ row.length ≤ 100 ∧ w.length ≤ 24 ∧ runR R (some row) w = some [] ∧
  ∀ F' H' n, Stp c.T S0 F H F' H' → Q (.int n) H'
/-- what the walks of words keep -/
def CU (c : Cfg) (F H : Hp) (p g d : Addr) (ns : List Str) (R : Rls) (b : Nat) : Prop := ∃ U xs, CAt c F H p g d R U xs ∧ Clo ns R U ∧ U.length ≤ b
theorem CU.step {c : Cfg} {F H F' H' : Hp} {p g d : Addr} {ns : List Str} {R : Rls} {b : Nat} {S : Addr → Prop} (C : CU c F H p g d ns R b) (st : Stp c.T S F H F' H') (hs : ¬ S d) : CU c F' H' p g d ns R b :=
  let ⟨U, xs, h1, h2, h3⟩ := C; ⟨U, xs, h1.step st hs, h2, h3⟩
theorem CU.mono {c : Cfg} {F H : Hp} {p g d : Addr} {ns : List Str} {R : Rls} {b b' : Nat} (C : CU c F H p g d ns R b) (h : b ≤ b') : CU c F H p g d ns R b' :=
  let ⟨U, xs, h1, h2, h3⟩ := C; ⟨U, xs, h1, h2, Nat.le_trans h3 h⟩
theorem CU.hd {c : Cfg} {F H : Hp} {p g d : Addr} {ns : List Str} {R : Rls} {b : Nat} (C : CU c F H p g d ns R b) : F d = none ∧ ∃ xs, H d = some (EntO c.P c.w d xs) :=
  let ⟨U, xs, h1, h2, h3⟩ := C; ⟨h1.fd, xs, h1.hd⟩
theorem CU.obj {c : Cfg} {F H : Hp} {p g d : Addr} {ns : List Str} {R : Rls} {b : Nat} (C : CU c F H p g d ns R b) : ∃ dx, F p = some (.ins c.CC dx (cfl g d)) :=
  let ⟨U, xs, h1, h2, h3⟩ := C; h1.obj
theorem CU.froze {c : Cfg} {F H : Hp} {p g d D : Addr} {ns : List Str} {R : Rls} {b : Nat} {us : List V} (C : CU c F H p g d ns R b) (hD : H D = some (.lst us)) (fD : F D = none) : CU c (upd F D (.lst us)) H p g d ns R b :=
  let ⟨U, xs, h1, h2, h3⟩ := C; ⟨U, xs, h1.froze hD (fun _ h => by cases h) fD, h2, h3⟩
/-- counts.of_row(row, n) -/
theorem CU.call {c : Cfg} {F H : Hp} {p g d a : Addr} {ns : List Str} {R : Rls} {ν : Str → Nat} {sg : List Nat} {b n : Nat} {z : Int} {row : List Str} {Q : VK} (C : CU c F H p g d ns R b) (kn : Kn F H) (G : GK c.CG F g ns R ν sg) (ha : F a = some (.lst (row.map V.str))) (hs : ∀ Y ∈ row, Y ∈ ns) (hl : row.length ≤ 200) (hb : b + 201 ≤ 40000) (hn : n ≤ 24) (hz : z = (n : Int))
    (q : ∀ F' H', Stp c.T (fun b => b = d) F H F' H' → CU c F' H' p g d ns R (b + 201) → Q (.int (cnt R n row : Int)) H') : sp_of_row c [.ref p, .ref a, .int z] H Q E0 := by
  subst hz
  obtain ⟨U, xs, h1, h2, h3⟩ := C
  have cl := h2.more (row := row) hs (by omega) (by omega)
  exact sp_of_row_of ⟨F, p, g, d, ns, R, ν, sg, U ++ tls row, xs, a, row, n, rfl, kn, G, h1.more, cl, ha, List.mem_append.mpr (.inr (tls_self _)), hn, msr_lt hn, fun F' H' xs' st C' => q F' H' st ⟨_, xs', C', cl, by rw [List.length_append, tls_len]; omega⟩⟩
theorem CU.new {c : Cfg} {F H : Hp} {p g d : Addr} {ns : List Str} {R : Rls} {ν : Str → Nat} {sg : List Nat} (G : GG ns R ν sg) (C : CAt c F H p g d R (uni ns R) []) : CU c F H p g d ns R 100 := ⟨_, _, C, clo_uni G, uni_len G⟩
/-- a comprehension that keeps them -/
def IvU (c : Cfg) (p g d : Addr) (ns : List Str) (R : Rls) (b : Nat → Nat) {α : Type} (q : Nat → List α → Prop) : Nat → Hp → Hp → List α → Prop := fun i F H ys => ys.length ≤ i ∧ q i ys ∧ CU c F H p g d ns R (b i)
theorem ivU_ok {c : Cfg} {p g d D : Addr} {ns : List Str} {R : Rls} {b : Nat → Nat} {α : Type} {q : Nat → List α → Prop} {n : Nat} {H1 : Hp} {o : HO} (hn : n ≤ sizeLine) (hd : H1 d = some o) (hD : H1 D = none) : IvOk (IvU c p g d ns R b q) n (fun b => b = d) H1 D := by
  have nd : d ≠ D := fun z => by rw [z, hD] at hd; cases hd
  refine ⟨fun i F H ys o' h hf => ?_, fun i F H ys h => h.1, hn, fun z => nd z.symm, hD⟩
  obtain ⟨h1, h2, U, xs, C, h3⟩ := h
  exact ⟨h1, h2, U, xs, ⟨C.obj, C.fd, by rw [upd_ne nd]; exact C.hd, C.ok, C.nd⟩, h3⟩
section
variable {c : Cfg} {K : PySem.W.Frag} {mg : Str → Option Value} {base : Heap}
theorem sc_place_of_word : FnScope ["grammar", "row", "word", "counts", "rest", "place", "at", "letter", "left", "some", "by", "more", "ahead"] ["grammar", "row", "word"] (defScope s_place_of_word) := ⟨rfl, rfl, rfl, by decide +kernel, rfl, by decide +kernel, by decide +kernel⟩
theorem ok_place_of_word (D : Dfn K mg "place_of_word" s_place_of_word (["grammar", "row", "word"])) (Gr : GrC K c.CG) (Co : CoC K c.CC) (B : Blt mg) (mgCounts : mg "Counts" = some (.ref c.CC)) (G_look_at_tongue : Gd c.P c.w K mg base 4 "look_at_tongue" (["grammar", "rows"]) (sp_look_at_tongue c)) (G_by_letters : Gd c.P c.w K mg base 3 "by_letters" (["grammar", "row", "word"]) (sp_by_letters c)) (G_one_step : Gd c.P c.w K mg base 2 "one_step" (["grammar", "row", "letter"]) (sp_one_step c)) (M_rules_of : Gm c.P c.w K mg base 1 c.CG "rules_of" (["self", "name"]) (sp_rules_of c)) (I_Counts : Gi c.P c.w K mg base 1 c.CC (["self", "grammar"]) (sp_Counts_init c)) (M_of_row : Gm c.P c.w K mg base 101 c.CC "of_row" (["self", "row", "many"]) (sp_of_row c)) :
    Gd c.P c.w K mg base 102 "place_of_word" (["grammar", "row", "word"]) (sp_place_of_word c) := by
  refine D.ok sc_place_of_word (fun vs H Q E h => ?_) (fun fa cdv A outer s H vs Q E hr h => ?_)
  · obtain ⟨F, g, ns, R, ν, sg, a, row, w, rfl, _⟩ := h
    rfl
  obtain ⟨F, g, ns, R, ν, sg, a, row, w, rfl, kn, G, ha, hsub, hl, hw, hrun, q⟩ := h
  refine ⟨_, (pss_cons (ps_expr (pe_g G_look_at_tongue hr (by rfl) (pa_cons (pv 0) (pa_cons (pe_lst (pa_cons (pv 1) pa_nil)) pa_nil)))) (pss_cons (ps_if (pt_cmpR (op_neD (hu64 hr)) (pe_g G_by_letters hr (by rfl) (pa_cons (pv 0) (pa_cons (pe_callTy call_list_of (by rfl) B.list (by decide +kernel) (pa_cons (pv 1) pa_nil)) (pa_cons (pv 2) pa_nil)))) (pe_lst pa_nil) (nomark _)) (pss_one (ps_ret pe_non)) pss_nil) (pss_cons (ps_set (i := 3) sc_place_of_word.nd rfl (Or.inr rfl) (pe_mk I_Counts hr (by rfl) mgCounts (pa_cons (pv 0) pa_nil))) (pss_cons (ps_set (i := 4) sc_place_of_word.nd rfl (Or.inr rfl) (pe_callTy call_list_of (by rfl) B.list (by decide +kernel) (pa_cons (pv 1) pa_nil))) (pss_cons (ps_set (i := 5) sc_place_of_word.nd rfl (Or.inl rfl) pe_int) (pss_cons (ps_for PassesOwn.never rfl (pi_enumS (by rfl) B.enum (pa_cons (pv 2) pa_nil)) (pg_tup rfl (pgs_cons (pg_name (i := 6) sc_place_of_word.nd rfl (Or.inl rfl)) (pgs_cons (pg_name (i := 7) sc_place_of_word.nd rfl (Or.inr rfl)) pgs_nil))) (pss_cons (ps_set (i := 8) sc_place_of_word.nd rfl (Or.inr rfl) (pe_op op_sub (pe_op op_sub (pe_callB call_len_str (by rfl) B.len PySem.boot_len (pa_cons (pv 2) pa_nil)) (pv 6)) pe_int)) (pss_cons (ps_setLc (i := 9) (own := [("by", 10), ("more", 11)]) (wi := (iList K (tM c.CG "rules_of" (sp_rules_of c) (tVar 0) (tCons (tOp (rIxL K) (tVar 4) (tC (.int 0))) tNil)))) (g := (gTup K 2 (gCons (gName 10) (gCons (gName 11) gNil)))) (tt := (tTest (tOp rLtS (tVar 10) (tVar 7)))) (te := (tOp rCat (tVar 11) (tSl (rSlL K) (tVar 4) (tPart (tC (.int 1))) tNoPart))) rfl sc_place_of_word.nd rfl rfl (sw_true rfl rfl rfl (by decide +kernel)) (pi_list (pe_m M_rules_of Gr.cl hr (pv 0) (pa_cons (pe_ix ix_list (pv 4) pe_int (fun _ _ => rfl)) pa_nil))) (blkOk_by (own := [("by", 10), ("more", 11)]) (N := ["grammar", "row", "word", "counts", "rest", "place", "at", "letter", "left", "some", "by", "more", "ahead"]) (sc := defScope s_place_of_word) (by decide +kernel)) (fun _ _ _ _ _ => (pg_tup rfl (pgs_cons (pg_name (i := 10) sc_place_of_word.nd rfl (Or.inl rfl)) (pgs_cons (pg_name (i := 11) sc_place_of_word.nd rfl (Or.inl rfl)) pgs_nil)))) (fun _ _ _ _ _ => (pts_one (pt_cmpR op_lt_str (pv 10) (pv 7) (nomark _)))) (fun _ _ _ _ _ => (pe_op op_cat (pv 11) (pe_slice sl_list (pv 4) (po_some pe_int) po_none)))) (pss_cons (ps_aug (i := 5) sc_place_of_word.nd rfl (Or.inl rfl) (pe_callB (cr_sum rfl) (by rfl) B.sum (by decide +kernel) (pa_cons (pe_lc (own := [("ahead", 12)]) (wi := (iList K (tVar 9))) (g := (gName 12)) (tt := tYes) (te := (tM c.CC "of_row" (sp_of_row c) (tVar 3) (tCons (tVar 12) (tCons (tVar 8) tNil)))) rfl sc_place_of_word.nd (pi_list (pv 9)) (blkOk_by (own := [("ahead", 12)]) (N := ["grammar", "row", "word", "counts", "rest", "place", "at", "letter", "left", "some", "by", "more", "ahead"]) (sc := defScope s_place_of_word) (by decide +kernel)) (fun _ _ _ _ _ => (pg_name (i := 12) sc_place_of_word.nd rfl (Or.inl rfl))) (fun _ _ _ _ _ => pts_nil) (fun _ _ _ _ _ => (pe_m M_of_row Co.cl hr (pv 3) (pa_cons (pv 12) (pa_cons (pv 8) pa_nil))))) pa_nil)) ip_add) (pss_one (ps_set (i := 4) sc_place_of_word.nd rfl (Or.inr rfl) (pe_g G_one_step hr (by rfl) (pa_cons (pv 0) (pa_cons (pv 4) (pa_cons (pv 7) pa_nil)))))))))) (pss_one (ps_ret (pv 5))))))))), ?_⟩
  refine ⟨_, rfl, _, rfl, by show 1 ≤ sizeLine; decide, fun b hb => ?_⟩
  have st1 : Stp c.T S0 F H F (upd H b (.lst [.ref a])) := .mut kn hb
  refine ⟨F, g, ns, R, ν, sg, a, b, row, rfl, st1.kn, G, upd_same, ha, hsub, fun F2 H2 st2 => ?_⟩
  have s12 := st1.trans st2
  have ha2 := st2.sub _ _ ha
  refine ⟨_, rfl, _, rfl, a, _, rfl, .inl (SqL.of (st2.kn _ _ ha2).1), fun b2 hb2 => ?_⟩
  have st3 : Stp c.T S0 F2 H2 (upd F2 b2 (.lst (row.map V.str))) (upd H2 b2 (.lst (row.map V.str))) := .data st2.kn hb2 (nt_lst _)
  have h3 : upd F2 b2 (.lst (row.map V.str)) b2 = some (.lst (row.map V.str)) := upd_same
  generalize upd F2 b2 (.lst (row.map V.str)) = F3 at *
  generalize upd H2 b2 (.lst (row.map V.str)) = H3 at *
  refine ⟨_, rfl, F3, g, ns, R, ν, sg, b2, row, w, rfl, st3.kn, (G.up s12.sub).up st3.sub, h3, hsub, by omega, fun F4 H4 v' st4 ho => ?_⟩
  rw [hrun] at ho
  obtain ⟨b4, rfl, hb4⟩ := ho
  refine ⟨Nat.zero_le _, fun e5 he5 => ?_⟩
  have st5 : Stp c.T S0 F4 H4 F4 (upd H4 e5 (.lst [])) := .mut st4.kn he5
  refine neD_nil (r := []) (fun _ h => nomatch h) (SqL.of (st5.kn _ _ hb4).1) (SqL.of upd_same) ⟨_, rfl, ?_⟩
  rw [decide_eq_true rfl]
  generalize upd H4 e5 (.lst []) = H5 at *
  have s15 := ((s12.trans st3).trans st4).trans st5
  refine ⟨_, rfl, fun p dp hp0 hdp hne => ?_⟩
  refine mk_counts (R := R) (U := uni ns R) st5.kn hp0 hdp hne fun F6 H6 d st6 hd C6 => ⟨rfl, ?_⟩
  obtain ⟨dx, hp⟩ := C6.obj
  have s16 := s15.trans st6
  have ha6 := s16.sub _ _ ha
  refine ⟨_, rfl, a, _, rfl, .inl (SqL.of (st6.kn _ _ ha6).1), fun b7 hb7 => ?_⟩
  have st7 : Stp c.T S0 F6 H6 (upd F6 b7 (.lst (row.map V.str))) (upd H6 b7 (.lst (row.map V.str))) := .data st6.kn hb7 (nt_lst _)
  have h7 : upd F6 b7 (.lst (row.map V.str)) b7 = some (.lst (row.map V.str)) := upd_same
  generalize upd F6 b7 (.lst (row.map V.str)) = F7 at *
  generalize upd H6 b7 (.lst (row.map V.str)) = H7 at *
  have C7 : CU c F7 H7 p g d ns R 100 := (CU.new G.gg C6).step st7 (fun h => h)
  have G7 := (G.up s16.sub).up st7.sub
  have hwz : (wrd w).cps.size = w.length := by show w.toArray.size = _; simp
  refine ⟨_, rfl, _, rfl, ?_⟩
  refine for_it (walk_enumS (x := wrd w)) (fun i σ H' => ∃ F' v n x6 x7 x8 x9 x10 x11 x12, Stp c.T (fun b => b = d) F7 H7 F' H' ∧ CU c F' H' p g d ns R (100 + 804 * i) ∧ optP rowP F' v (runR R (some row) (w.take i)) ∧ σ = [some (.ref g), some (.ref a), some (.str (wrd w)), some (.ref p), some v, some (.int n), x6, x7, x8, x9, x10, x11, x12]) ?_ (fun _ _ _ _ _ => trivial) ?_ ?_
  · exact ⟨F7, _, _, _, _, _, _, _, _, _, .refl st7.kn, C7, ⟨b7, rfl, h7⟩, rfl⟩
  · rintro i x σ H8 H' hi ⟨F8, v, n, x6, x7, x8, x9, x10, x11, x12, st8, C8, ho, rfl⟩ ⟨t, l, rfl, ht, rfl, hl'⟩
    have hi' : i < w.length := by rw [← hwz]; exact hi
    have hwi : w[i]? = some l := by
      have : w.toArray[i]? = some l := hl'
      simpa using this
    obtain ⟨X, r, hr1, hr2⟩ := word_mid hrun hi'
    rw [hr1] at ho
    obtain ⟨a8, rfl, ha8⟩ := ho
    have hsub8 := G.gg.run_sub _ hsub hr1
    have hlr : (X :: r).length ≤ 172 := by
      have h1 := hsub8.2
      have h2 : (w.take i).length ≤ w.length := by rw [List.length_take]; omega
      omega
    have hX : X ∈ ns := hsub8.1 X (List.mem_cons_self ..)
    have st9 : Stp c.T S0 F8 H8 (upd F8 t (.tup [.int (i : Nat), .str ⟨#[l]⟩])) (upd H8 t (.tup [.int (i : Nat), .str ⟨#[l]⟩])) := .data st8.kn ht (nt_tup _)
    have h9 : upd F8 t (.tup [.int (i : Nat), .str ⟨#[l]⟩]) t = some (.tup [.int (i : Nat), .str ⟨#[l]⟩]) := upd_same
    generalize upd F8 t (.tup [.int (i : Nat), .str ⟨#[l]⟩]) = F9 at *
    generalize upd H8 t (.tup [.int (i : Nat), .str ⟨#[l]⟩]) = H9 at *
    have C9 := C8.step st9 (fun h => h)
    have G9 := (G7.up st8.sub).up st9.sub
    have ha9 := st9.sub _ _ ha8
    have k9 := st9.kn
    obtain ⟨dg, kn1, stg, od, hg⟩ := G9.gr.obj k9
    refine ⟨t, _, rfl, SqT.of (k9 _ _ h9).1, rfl, _, _, rfl, _, _, rfl, rfl, ?_⟩
    refine ⟨_, rfl, _, rfl, ?_, _, rfl, _, _, rfl, rfl, _, _, rfl, rfl, ?_⟩
    · rw [show (wrd w).length = w.length from hwz]
      exact szl (by omega)
    refine ⟨_, rfl, g, dg, _, rfl, hg, gfl_no (by decide +kernel) (by decide +kernel) (by decide +kernel), _, rfl, a8, _, 0, .str X, rfl, rfl, SqL.of (k9 _ _ ha9).1, atI_nat (i := 0) rfl, F9, g, ns, R, X, rfl, k9, G9.gr, hX, G9.le1000 hX, fun F4' H4' b us st4' hb0 hfb heb pr4 => ⟨b, rfl, ⟨_, SqL.of heb⟩, fun Dl hDl => ?_⟩⟩
    have s10 : Stp c.T S0 F9 H9 (upd F4' b (.lst us)) H4' := st4'.freeze hb0 heb (nt_lst _)
    have pr : Paired (ruleP (upd F4' b (.lst us))) us (R X) := paired_up (same_upd hfb) pr4
    have hb10 : upd F4' b (.lst us) b = some (.lst us) := upd_same
    generalize upd F4' b (.lst us) = F10 at *
    have lus := Paired.len pr
    have C10 := C9.step s10 (fun h => h)
    obtain ⟨f10, xs10, hd10⟩ := C10.hd
    have le4 := G.gg.le4 X hX
    have okl : IvOk (IvU c p g d ns R (fun _ => 100 + 804 * i) fun _ (ys : List (List Str)) => ∀ y ∈ ys, (∀ Y ∈ y, Y ∈ ns) ∧ y.length ≤ 200) us.length (fun b => b = d) H4' Dl := ivU_ok (szl (by omega)) hd10 hDl
    refine lc_F (T := c.T) (S := fun b => b = d) (walk_list (K := K) (a := b) (xs := us)) rowP _ s10.kn okl ⟨Nat.le_refl _, fun _ h => (nomatch h), C10⟩ (fun i F' H' ys k' e _ _ => SqL.of (k' _ _ (e _ _ hb10)).1) ?_ ?_
    · rintro j x F11 H11 H' ys hj cu ⟨rfl, hx⟩
      obtain ⟨⟨l', more⟩, hy, t', u, w', rfl, ht', hu', b', rfl, hb'⟩ := Paired.at pr hx
      obtain rfl : u = V.str ⟨#[l']⟩ := hu'
      have hb' : F10 b' = some (.lst (more.map V.str)) := hb'
      have k11 := cu.kn
      obtain ⟨h1, h2, C11⟩ := cu.iv
      have hcl := G.gg.cl X hX _ (List.mem_of_getElem? hy)
      have ha11 := (k11 _ _ (cu.sub _ _ (s10.sub _ _ ha9))).1
      refine ⟨t', _, rfl, SqT.of (k11 _ _ (cu.sub _ _ ht')).1, rfl, _, _, rfl, _, _, rfl, rfl, rfl, ?_⟩
      refine ⟨_, rfl, _, rfl, _, _, rfl, rfl, _, rfl, ?_⟩
      refine ite2 (fun _ => ?_) (fun _ => cu.skip okl (.refl k11) ⟨by omega, h2, C11⟩)
      refine ⟨_, rfl, _, rfl, 1, rfl, a8, _, rfl, SqL.of ha11, fun p2 hp2 => ?_⟩
      rw [show cutV ((X :: r).map V.str) (some 1) none = r.map V.str from cutV_from (i := 1) (by simp)]
      have st12 : Stp c.T S0 F11 H' F11 (upd H' p2 (.lst (r.map V.str))) := .mut k11 hp2
      have hr12 : upd H' p2 (.lst (r.map V.str)) p2 = some (.lst (r.map V.str)) := upd_same
      generalize upd H' p2 (.lst (r.map V.str)) = H12 at *
      have hml : more.length ≤ 3 := hcl.2.2
      have hrl : r.length + 1 ≤ 172 := hlr
      refine ⟨b', p2, _, _, rfl, rfl, (st12.kn _ _ (cu.sub _ _ hb')).1, hr12, ?_, fun p3 hp3 => ?_⟩
      · rw [List.length_map, List.length_map]
        exact szl (by omega)
      · have st13 : Stp c.T S0 F11 H12 (upd F11 p3 (.lst (more.map V.str ++ r.map V.str))) (upd H12 p3 (.lst (more.map V.str ++ r.map V.str))) := .data st12.kn hp3 (nt_lst _)
        have s13 := st12.trans st13
        refine cu.put okl hj (s13.wide fun b h => h.elim) (z := more ++ r) ⟨p3, rfl, by rw [upd_same, List.map_append]⟩ ⟨?_, ?_, C11.step s13 (fun h => h)⟩
        · rw [List.length_append, List.length_singleton]; omega
        · intro y hy'
          rcases List.mem_append.mp hy' with e | e
          · exact h2 y e
          · rw [List.mem_singleton.mp e]
            refine ⟨fun Y hY => ?_, by rw [List.length_append]; omega⟩
            rcases List.mem_append.mp hY with e | e
            · exact hcl.2.1 Y e
            · exact hsub8.1 Y (List.mem_cons_of_mem _ e)
    · intro F11 H11 ys us11 st11 fD hd11 pr11 iv11
      obtain ⟨h1, h2, C11⟩ := iv11
      have s12 : Stp c.T (fun b => b = d) F10 H4' (upd F11 Dl (.lst us11)) H11 := st11.freeze (.of hDl) hd11 (nt_lst _)
      have pr12 : Paired (rowP (upd F11 Dl (.lst us11))) us11 ys := paired_up (same_upd fD) pr11
      have C12 := C11.froze hd11 fD
      have h12 : upd F11 Dl (.lst us11) Dl = some (.lst us11) := upd_same
      generalize upd F11 Dl (.lst us11) = F12 at *
      have lus12 := Paired.len pr12
      obtain ⟨f12, xs12, hd12⟩ := C12.hd
      refine ⟨_, rfl, _, rfl, Dl, rfl, ⟨_, SqL.of hd11⟩, fun D2 hD2 => ?_⟩
      have okl2 : IvOk (IvU c p g d ns R (fun j => 100 + 804 * i + 201 * j) fun _ (ys : List Nat) => True) us11.length (fun b => b = d) H11 D2 := ivU_ok (szl (by omega)) hd12 hD2
      refine lc_F (T := c.T) (S := fun b => b = d) (walk_list (K := K) (a := Dl) (xs := us11)) natP _ s12.kn okl2 ⟨Nat.le_refl _, trivial, C12⟩ (fun i F' H' ys k' e _ _ => SqL.of (k' _ _ (e _ _ h12)).1) ?_ ?_
      · rintro j x F13 H13 H' zs hj cu ⟨rfl, hx⟩
        obtain ⟨y, hy, a13, rfl, ha13⟩ := Paired.at pr12 hx
        obtain ⟨g1, g2, C13⟩ := cu.iv
        have C13 : CU c F13 H' p g d ns R (100 + 804 * i + 201 * j) := C13
        have k13 := cu.kn
        obtain ⟨hy1, hy2⟩ := h2 y (List.mem_of_getElem? hy)
        obtain ⟨dx13, hp13⟩ := C13.obj
        refine ⟨rfl, ?_⟩
        refine ⟨_, rfl, p, dx13, _, rfl, (k13 _ _ hp13).1, cfl_no (by decide +kernel) (by decide +kernel), _, rfl, _, rfl, ?_⟩
        refine C13.call (n := w.length - i - 1) k13 (((G9.up s10.sub).up s12.sub).up cu.sub) (cu.sub _ _ ha13) hy1 hy2 (by omega) (by omega) ?_ fun F14 H14 st14 C14 => ?_
        · show ((wrd w).length : Int) - ((i : Nat) : Int) - 1 = _
          rw [show (wrd w).length = w.length from hwz]
          omega
        refine cu.put okl2 hj st14 (z := _) rfl ⟨?_, trivial, C14.mono (show _ ≤ 100 + 804 * i + 201 * (j + 1) by omega)⟩
        rw [List.length_append, List.length_singleton]; omega
      · intro F13 H13 zs us13 st13 fD13 hd13 pr13 iv13
        obtain ⟨g1, g2, C13⟩ := iv13
        have C13 : CU c F13 H13 p g d ns R (100 + 804 * i + 201 * us11.length) := C13
        have e13 := nats_of pr13
        subst e13
        have s8_13 := ((st9.trans s10).wide (fun b h => h.elim) : Stp c.T (fun b => b = d) F8 H8 F10 H4').trans (s12.trans st13)
        refine ⟨D2, _, rfl, SqL.of hd13, _, _, rfl, rfl, ?_⟩
        refine ⟨_, rfl, _, rfl, _, rfl, F13, g, ns, R, ν, sg, .ref a8, some (X :: r), l, rfl, st13.kn, ((G9.up s10.sub).up s12.sub).up st13.sub, ⟨a8, rfl, s8_13.sub _ _ ha8⟩, fun row' e => ?_, fun F14 H14 v' st14 ho' => ?_⟩
        · cases e
          exact ⟨hsub8.1, by omega⟩
        · refine ⟨F14, v', _, _, _, _, _, _, _, _, (st8.trans s8_13).trans (st14.wide fun b h => h.elim), (C13.step st14 (fun h => h)).mono ?_, ?_, rfl⟩
          · omega
          · rw [take_snoc hwi, runR_snoc, hr1]
            exact ho'
  · rintro σ H' ⟨F8, v, n, x6, x7, x8, x9, x10, x11, x12, st8, C8, ho, rfl⟩
    have sAll : Stp c.T S0 F4 H5 F8 H' := ((st6.wide fun b h => h.elim).trans ((st7.wide fun b h => h.elim).trans st8)).loc fun b hb => .inr (by rw [show b = d from hb]; exact hd)
    exact ⟨_, rfl, q F8 H' n (s15.trans sAll)⟩
end
end K60
namespace K60
open PySem PySem.Spec PyProof.Rows L2 LamX
def sp_word_at (c : Cfg) : Sp := fun vs H Q _ => ∃ (F : Hp) (g : Addr) (ns : List Str) (R : Rls) (ν : Str → Nat) (sg : List Nat) (a : Addr) (row : List Str) (many at_ : Nat), vs = [.ref g, .ref a, .int (many : Int), .int (at_ : Int)] ∧ Kn F H ∧ Tabs c.T H ∧ GK c.CG F g ns R ν sg ∧ F a = some (.lst (row.map V.str)) ∧ (∀ Y ∈ row, Y ∈ ns) ∧ row.length ≤ 100 ∧ many ≤ 24 ∧ at_ < cnt R many row ∧
  ∀ F' H', Stp c.T S0 F H F' H' → Q (.str (wrd (wordAt R many row at_))) H'
def lenAt (i : Nat) (σ : L2.St) : Nat := match σ[i]? with
  | some (some (V.str x)) => 1000 - x.length
  | _ => 0
section
variable {c : Cfg} {K : PySem.W.Frag} {mg : Str → Option Value} {base : Heap}
theorem sc_word_at : FnScope ["grammar", "row", "many", "at", "counts", "rest", "word", "letter", "more", "here"] ["grammar", "row", "many", "at"] (defScope s_word_at) := ⟨rfl, rfl, rfl, by decide +kernel, rfl, by decide +kernel, by decide +kernel⟩
theorem ok_word_at (D : Dfn K mg "word_at" s_word_at (["grammar", "row", "many", "at"])) (Gr : GrC K c.CG) (Co : CoC K c.CC) (B : Blt mg) (mgCounts : mg "Counts" = some (.ref c.CC)) (G_look_at_tongue : Gd c.P c.w K mg base 4 "look_at_tongue" (["grammar", "rows"]) (sp_look_at_tongue c)) (G_sorted_rules : Gd c.P c.w K mg base 2 "sorted_rules" (["grammar", "name"]) (sp_sorted_rules c)) (I_Counts : Gi c.P c.w K mg base 1 c.CC (["self", "grammar"]) (sp_Counts_init c)) (M_of_row : Gm c.P c.w K mg base 101 c.CC "of_row" (["self", "row", "many"]) (sp_of_row c)) :
    Gd c.P c.w K mg base 102 "word_at" (["grammar", "row", "many", "at"]) (sp_word_at c) := by
  refine D.ok sc_word_at (fun vs H Q E h => ?_) (fun fa cdv A outer s H vs Q E hr h => ?_)
  · obtain ⟨F, g, ns, R, ν, sg, a, row, many, at_, rfl, _⟩ := h
    rfl
  obtain ⟨F, g, ns, R, ν, sg, a, row, many, at_, rfl, kn, tb, G, ha, hsub, hl, hm, hat, q⟩ := h
  refine ⟨_, (pss_cons (ps_expr (pe_g G_look_at_tongue hr (by rfl) (pa_cons (pv 0) (pa_cons (pe_lst (pa_cons (pv 1) pa_nil)) pa_nil)))) (pss_cons (ps_set (i := 4) sc_word_at.nd rfl (Or.inl rfl) (pe_mk I_Counts hr (by rfl) mgCounts (pa_cons (pv 0) pa_nil))) (pss_cons (ps_set (i := 5) sc_word_at.nd rfl (Or.inl rfl) (pe_callTy call_list_of (by rfl) B.list (by decide +kernel) (pa_cons (pv 1) pa_nil))) (pss_cons (ps_if (pt_cmpR op_ge (pv 3) (pe_m M_of_row Co.cl hr (pv 4) (pa_cons (pv 5) (pa_cons (pv 2) pa_nil))) (nomark _)) (pss_one (ps_ret pe_non)) pss_nil) (pss_cons (ps_set (i := 6) sc_word_at.nd rfl (Or.inl rfl) pe_str) (pss_cons (ps_while PassesOwn.never (pt_cmpR op_lt (pe_callB call_len_str (by rfl) B.len PySem.boot_len (pa_cons (pv 6) pa_nil)) (pv 2) (nomark _)) (pss_cons (ps_for PassesOwn.never rfl (pi_list (pe_g G_sorted_rules hr (by rfl) (pa_cons (pv 0) (pa_cons (pe_ix ix_list (pv 5) pe_int (fun _ _ => rfl)) pa_nil)))) (pg_tup rfl (pgs_cons (pg_name (i := 7) sc_word_at.nd rfl (Or.inl rfl)) (pgs_cons (pg_name (i := 8) sc_word_at.nd rfl (Or.inl rfl)) pgs_nil))) (pss_cons (ps_set (i := 9) sc_word_at.nd rfl (Or.inl rfl) (pe_m M_of_row Co.cl hr (pv 4) (pa_cons (pe_op op_cat (pv 8) (pe_slice sl_list (pv 5) (po_some pe_int) po_none)) (pa_cons (pe_op op_sub (pe_op op_sub (pv 2) (pe_callB call_len_str (by rfl) B.len PySem.boot_len (pa_cons (pv 6) pa_nil))) pe_int) pa_nil)))) (pss_cons (ps_if (pt_cmpR op_lt (pv 3) (pv 9) (nomark _)) (pss_one ps_break) pss_nil) (pss_one (ps_aug (i := 3) sc_word_at.nd rfl (Or.inl rfl) (pv 9) ip_sub))))) (pss_cons (ps_set (i := 6) sc_word_at.nd rfl (Or.inl rfl) (pe_op op_add_str (pv 6) (pv 7))) (pss_one (ps_set (i := 5) sc_word_at.nd rfl (Or.inl rfl) (pe_op op_cat (pv 8) (pe_slice sl_list (pv 5) (po_some pe_int) po_none))))))) (pss_one (ps_ret (pv 6))))))))), ?_⟩
  refine ⟨_, rfl, _, rfl, by show 1 ≤ sizeLine; decide, fun b hb => ?_⟩
  have st1 : Stp c.T S0 F H F (upd H b (.lst [.ref a])) := .mut kn hb
  refine ⟨F, g, ns, R, ν, sg, a, b, row, rfl, st1.kn, G, upd_same, ha, hsub, fun F2 H2 st2 => ?_⟩
  have s12 := st1.trans st2
  refine ⟨_, rfl, fun p dp hp0 hdp hne => ?_⟩
  refine mk_counts (R := R) (U := uni ns R) st2.kn hp0 hdp hne fun F6 H6 d st6 hd C6 => ⟨rfl, ?_⟩
  obtain ⟨dx, hp⟩ := C6.obj
  have s16 := s12.trans st6
  have ha6 := s16.sub _ _ ha
  refine ⟨_, rfl, a, _, rfl, .inl (SqL.of (st6.kn _ _ ha6).1), fun b7 hb7 => ?_⟩
  have st7 : Stp c.T S0 F6 H6 (upd F6 b7 (.lst (row.map V.str))) (upd H6 b7 (.lst (row.map V.str))) := .data st6.kn hb7 (nt_lst _)
  have h7 : upd F6 b7 (.lst (row.map V.str)) b7 = some (.lst (row.map V.str)) := upd_same
  generalize upd F6 b7 (.lst (row.map V.str)) = F7 at *
  generalize upd H6 b7 (.lst (row.map V.str)) = H7 at *
  have C7 : CU c F7 H7 p g d ns R 100 := (CU.new G.gg C6).step st7 (fun h => h)
  have G7 := (G.up s16.sub).up st7.sub
  have s17 := s16.trans st7
  refine ⟨_, rfl, _, rfl, p, dx, _, rfl, (st7.kn _ _ (st7.sub _ _ hp)).1, cfl_no (by decide +kernel) (by decide +kernel), _, rfl, _, rfl, ?_⟩
  refine C7.call (n := many) st7.kn G7 h7 hsub (by omega) (by omega) hm rfl fun F8 H8 st8 C8 => ?_
  refine ⟨_, _, rfl, rfl, _, rfl, ?_⟩
  rw [decide_eq_false (show ¬ ((cnt R many row : Int) ≤ (at_ : Int)) by omega)]
  refine while_by (fun σ H' => ∃ (F' : Hp) (b : Addr) (rest : List Str) (u : List Nat) (k : Nat) (x7 x8 x9 : Option V), Stp c.T (fun b => b = d) F8 H8 F' H' ∧ CU c F' H' p g d ns R (301 + 804 * u.length) ∧ F' b = some (.lst (rest.map V.str)) ∧ (∀ Y ∈ rest, Y ∈ ns) ∧ rest.length ≤ 100 + 3 * u.length ∧ u.length ≤ many ∧ k < cnt R (many - u.length) rest ∧ u ++ wordAt R (many - u.length) rest k = wordAt R many row at_ ∧ σ = [some (.ref g), some (.ref a), some (.int (many : Int)), some (.int (k : Int)), some (.ref p), some (.ref b), some (.str (wrd u)), x7, x8, x9]) (fun σ H' => lenAt 6 σ) ?_ ?_ ?_
  · exact ⟨F8, b7, row, [], at_, _, _, _, .refl st8.kn, C8, st8.sub _ _ h7, hsub, by omega, Nat.zero_le _, hat, rfl, rfl⟩
  · rintro σ H9 ⟨F9, b9, rest, u, k, x7, x8, x9, st9, C9, hb9, hs9, hl9, hu9, hk9, hw9, rfl⟩
    refine ⟨_, rfl, _, rfl, ?_, _, rfl, _, _, rfl, rfl, _, rfl, ?_⟩
    · rw [show (wrd u).length = u.length from wrd_len u]
      exact szl (by omega)
    rw [show (wrd u).length = u.length from wrd_len u]
    refine ite2 (fun hlt => ?_) (fun hlt => ?_)
    · have hlt' : u.length < many := Int.ofNat_lt.mp (of_decide_eq_true hlt)
      obtain ⟨n, hn⟩ : ∃ n, many - u.length = n + 1 := ⟨many - u.length - 1, by omega⟩
      rw [hn] at hk9 hw9
      cases rest with
      | nil => rw [cnt_nilS] at hk9; exact absurd hk9 (Nat.not_lt_zero _)
      | cons X r =>
        have hX : X ∈ ns := hs9 X (List.mem_cons_self ..)
        have G9 := G7.up (st8.sub.trans st9.sub)
        have hsum : k < ((srt (R X)).map fun p => cnt R n (p.2 ++ r)).sum := by rw [sum_srt]; exact hk9
        obtain ⟨p0, k0, hpk, hp0m, hk0⟩ := pick_some (srt (R X)) k hsum
        rw [show wordAt R (n + 1) (X :: r) k = p0.1 :: wordAt R n (p0.2 ++ r) k0 from by
          rw [wordAt, hpk]] at hw9
        have hp0R : p0 ∈ R X := (srt_perm (R X)).subset hp0m
        refine ⟨_, rfl, _, rfl, b9, _, 0, .str X, rfl, rfl, SqL.of (st9.kn _ _ hb9).1, atI_nat (i := 0) rfl, F9, g, ns, R, ν, sg, X, rfl, st9.kn, st9.tab (st8.tab (s17.tab tb)), G9, hX, fun F10' H10 e10 us st10' he0 hfe hee pr10 => ⟨e10, rfl, ⟨_, SqL.of hee⟩, ?_⟩⟩
        have st10 : Stp c.T S0 F9 H9 (upd F10' e10 (.lst us)) H10 := st10'.freeze he0 hee (nt_lst _)
        have pr : Paired (ruleP (upd F10' e10 (.lst us))) us (srt (R X)) := paired_up (same_upd hfe) pr10
        have he10 : upd F10' e10 (.lst us) e10 = some (.lst us) := upd_same
        generalize upd F10' e10 (.lst us) = F10 at *
        have lus : us.length ≤ 4 := by
          rw [Paired.len pr, (srt_perm (R X)).length_eq]
          exact G.gg.le4 X hX
        have C10 := C9.step st10 (fun h => h)
        refine for_it (walk_list (K := K) (a := e10) (xs := us)) (fun j σ H' => ∃ (F' : Hp) (k' : Nat) (x7 x8 x9 : Option V), Stp c.T (fun b => b = d) F10 H10 F' H' ∧ CU c F' H' p g d ns R (301 + 804 * u.length + 201 * j) ∧ pick R n r ((srt (R X)).drop j) k' = some (p0, k0) ∧ σ = [some (.ref g), some (.ref a), some (.int (many : Int)), some (.int (k' : Int)), some (.ref p), some (.ref b9), some (.str (wrd u)), x7, x8, x9]) ?_ ?_ ?_ ?_
        · exact ⟨F10, k, _, _, _, .refl st10.kn, C10, hpk, rfl⟩
        · rintro i σ H' _ ⟨F', k', x7, x8, x9, st, _⟩
          exact SqL.of (st.kn _ _ (st.sub _ _ he10)).1
        · rintro j x σ H11 H' hj ⟨F11, k', x7, x8, x9, st11, C11, hpk', rfl⟩ ⟨rfl, hx⟩
          obtain ⟨⟨l, more⟩, hy, t, u', w', rfl, ht, hu', b', rfl, hb'⟩ := Paired.at pr hx
          obtain rfl : u' = V.str ⟨#[l]⟩ := hu'
          have hb' : F10 b' = some (.lst (more.map V.str)) := hb'
          have k11 := st11.kn
          have hm' : (l, more) ∈ R X := (srt_perm (R X)).subset (List.mem_of_getElem? hy)
          have hcl := G.gg.cl X hX _ hm'
          have hml : more.length ≤ 3 := hcl.2.2
          have hrl : r.length + 1 ≤ 100 + 3 * u.length := hl9
          obtain ⟨dx11, hp11⟩ := C11.obj
          have hb11 := (k11 _ _ (st11.sub _ _ (st10.sub _ _ hb9))).1
          refine ⟨t, _, rfl, SqT.of (k11 _ _ (st11.sub _ _ ht)).1, rfl, _, _, rfl, _, _, rfl, rfl, ?_⟩
          refine ⟨_, rfl, p, dx11, _, rfl, (k11 _ _ hp11).1, cfl_no (by decide +kernel) (by decide +kernel), _, rfl, _, rfl, 1, rfl, b9, _, rfl, SqL.of hb11, fun p2 hp2 => ?_⟩
          rw [show cutV ((X :: r).map V.str) (some 1) none = r.map V.str from cutV_from (i := 1) (by simp)]
          have st12 : Stp c.T S0 F11 H' F11 (upd H' p2 (.lst (r.map V.str))) := .mut k11 hp2
          have hr12 : upd H' p2 (.lst (r.map V.str)) p2 = some (.lst (r.map V.str)) := upd_same
          generalize upd H' p2 (.lst (r.map V.str)) = H12 at *
          refine ⟨b', p2, _, _, rfl, rfl, (st12.kn _ _ (st11.sub _ _ hb')).1, hr12, ?_, fun p3 hp3 => ?_⟩
          · rw [List.length_map, List.length_map]
            exact szl (by omega)
          rw [← List.map_append]
          have st13 : Stp c.T S0 F11 H12 (upd F11 p3 (.lst ((more ++ r).map V.str))) (upd H12 p3 (.lst ((more ++ r).map V.str))) := .data st12.kn hp3 (nt_lst _)
          have h13 : upd F11 p3 (.lst ((more ++ r).map V.str)) p3 = some (.lst ((more ++ r).map V.str)) := upd_same
          generalize upd F11 p3 (.lst ((more ++ r).map V.str)) = F13 at *
          generalize upd H12 p3 (.lst ((more ++ r).map V.str)) = H13 at *
          have s13 := st12.trans st13
          have hsub13 : ∀ Y ∈ more ++ r, Y ∈ ns := fun Y hY => by
            rcases List.mem_append.mp hY with e | e
            · exact hcl.2.1 Y e
            · exact hs9 Y (List.mem_cons_of_mem _ e)
          refine ⟨_, rfl, _, rfl, _, rfl, ?_, _, _, rfl, rfl, _, _, rfl, rfl, ?_⟩
          · rw [show (wrd u).length = u.length from wrd_len u]
            exact szl (by omega)
          refine (C11.step s13 (fun h => h)).call (n := n) st13.kn (((G9.up st10.sub).up st11.sub).up s13.sub) h13 hsub13 (by rw [List.length_append]; omega) (by omega) (by omega) ?_ fun F14 H14 st14 C14 => ?_
          · show (many : Int) - ((wrd u).length : Int) - 1 = _
            rw [show (wrd u).length = u.length from wrd_len u]
            omega
          have s14 := (s13.wide (fun b h => h.elim) : Stp c.T (fun b => b = d) _ _ _ _).trans st14
          have hd1 : (srt (R X)).drop j = (l, more) :: (srt (R X)).drop (j + 1) := by
            obtain ⟨hj', hy'⟩ := List.getElem?_eq_some_iff.mp hy
            rw [List.drop_eq_getElem_cons hj', hy']
          rw [hd1] at hpk'
          have hpk2 : (if k' < cnt R n (more ++ r) then some ((l, more), k') else pick R n r ((srt (R X)).drop (j + 1)) (k' - cnt R n (more ++ r))) = some (p0, k0) := hpk'
          refine ⟨_, rfl, _, rfl, _, _, rfl, rfl, _, rfl, ?_⟩
          by_cases hlt2 : k' < cnt R n (more ++ r)
          · rw [if_pos hlt2] at hpk2
            obtain ⟨e1, e2⟩ := Prod.mk.inj (Option.some.inj hpk2)
            subst e2
            subst e1
            rw [decide_eq_true (Int.ofNat_lt.mpr hlt2)]
            refine ⟨_, rfl, _, rfl, _, _, rfl, rfl, ?_, ?_⟩
            · rw [show (wrd u).length = u.length from wrd_len u]
              show u.length + 1 ≤ sizeLine
              exact szl (by omega)
            have k14 := st14.kn
            have sub914 := ((st10.sub.trans st11.sub).trans s14.sub)
            have hb14 := (k14 _ _ (sub914 _ _ hb9)).1
            refine ⟨_, rfl, _, rfl, 1, rfl, b9, _, rfl, SqL.of hb14, fun p4 hp4 => ?_⟩
            rw [show cutV ((X :: r).map V.str) (some 1) none = r.map V.str from cutV_from (i := 1) (by simp)]
            have st15 : Stp c.T S0 F14 H14 F14 (upd H14 p4 (.lst (r.map V.str))) := .mut k14 hp4
            have hr15 : upd H14 p4 (.lst (r.map V.str)) p4 = some (.lst (r.map V.str)) := upd_same
            generalize upd H14 p4 (.lst (r.map V.str)) = H15 at *
            refine ⟨b', p4, _, _, rfl, rfl, (st15.kn _ _ (s14.sub _ _ (st11.sub _ _ hb'))).1, hr15, ?_, fun p5 hp5 => ?_⟩
            · rw [List.length_map, List.length_map]
              exact szl (by omega)
            rw [← List.map_append]
            have st16 : Stp c.T S0 F14 H15 (upd F14 p5 (.lst ((more ++ r).map V.str))) (upd H15 p5 (.lst ((more ++ r).map V.str))) := .data st15.kn hp5 (nt_lst _)
            have h16 : upd F14 p5 (.lst ((more ++ r).map V.str)) p5 = some (.lst ((more ++ r).map V.str)) := upd_same
            generalize upd F14 p5 (.lst ((more ++ r).map V.str)) = F16 at *
            generalize upd H15 p5 (.lst ((more ++ r).map V.str)) = H16 at *
            have s16' := st15.trans st16
            have e16 : wrd u ++ (⟨#[l]⟩ : Str) = wrd (u ++ [l]) := wrd_app u [l]
            have hul : (u ++ [l]).length = u.length + 1 := by rw [List.length_append, List.length_singleton]
            have hmn : many - (u ++ [l]).length = n := by omega
            have htot := (st9.trans ((st10.wide fun b h => h.elim).trans (st11.trans s14))).trans (s16'.wide fun b h => h.elim)
            refine ⟨⟨F16, p5, more ++ r, u ++ [l], k', some (.str ⟨#[l]⟩), some (.ref b'), some (.int (cnt R n (more ++ r) : Nat)), htot, ((C14.step s16' (fun h => h)).mono ?_), h16, hsub13, ?_, ?_, ?_, ?_, ?_⟩, ?_⟩
            · have : j < us.length := hj
              omega
            · rw [List.length_append]; omega
            · omega
            · rw [hmn]; exact hk0
            · rw [hmn, ← hw9, List.append_assoc]
              rfl
            · rw [← e16]
              rfl
            · show 1000 - (wrd u ++ (⟨#[l]⟩ : Str)).length < 1000 - (wrd u).length
              rw [e16, wrd_len, wrd_len, hul]
              omega
          · rw [if_neg hlt2] at hpk2
            rw [decide_eq_false (fun h => hlt2 (Int.ofNat_lt.mp h))]
            refine ⟨_, rfl, _, rfl, _, _, rfl, rfl, ?_⟩
            refine ⟨F14, k' - cnt R n (more ++ r), some (.str ⟨#[l]⟩), some (.ref b'), some (.int (cnt R n (more ++ r) : Nat)), st11.trans s14, C14, hpk2, ?_⟩
            have e : ((k' - cnt R n (more ++ r) : Nat) : Int) = (k' : Int) - (cnt R n (more ++ r) : Nat) := by omega
            rw [e]
            rfl
        · rintro σ H' ⟨F', k', x7, x8, x9, st, C', hpk', rfl⟩
          rw [Paired.len pr, List.drop_length] at hpk'
          cases hpk'
    · have hlt' : ¬ u.length < many := fun h => hlt (decide_eq_true (Int.ofNat_lt.mpr h))
      have e : many - u.length = 0 := by omega
      rw [e] at hw9
      have sAll : Stp c.T S0 F2 H2 F9 H9 := ((st6.wide fun b h => h.elim).trans ((st7.wide fun b h => h.elim).trans (st8.trans st9))).loc fun b hb => .inr (by rw [show b = d from hb]; exact hd)
      have hq := q F9 H9 (s12.trans sAll)
      rw [← hw9, show wordAt R 0 rest k = [] from rfl, List.append_nil] at hq
      exact ⟨_, rfl, hq⟩
  · intro σ H Q Q' hQ h
    obtain ⟨v, e1, z, e2, e3, v2, e4, i, j, e5, e6, k, e7, h⟩ := h
    exact ⟨v, e1, z, e2, e3, v2, e4, i, j, e5, e6, k, e7, hQ _ _ h⟩
end
end K60
namespace K60
open PySem PySem.Spec PyProof.Rows L2 LamX
def sp_words_within (c : Cfg) : Sp := fun vs H Q _ => ∃ (F : Hp) (g : Addr) (ns : List Str) (R : Rls) (ν : Str → Nat) (sg : List Nat) (a : Addr) (row : List Str) (most : Nat), vs = [.ref g, .ref a, .int (most : Int)] ∧ Kn F H ∧ Tabs c.T H ∧ GK c.CG F g ns R ν sg ∧ F a = some (.lst (row.map V.str)) ∧ (∀ Y ∈ row, Y ∈ ns) ∧ row.length ≤ 100 ∧ most ≤ 5 ∧
  RetL c wordP (within R most row) F H Q
structure LyOk (ns : List Str) (i : Nat) (L : Ly Str) : Prop where
  len : L.length ≤ 4 ^ i
  it : ∀ q ∈ L, q.1.length ≤ i ∧ (∀ Y ∈ q.2, Y ∈ ns) ∧ q.2.length ≤ 100 + 3 * i
theorem nextOf_ok {ns : List Str} {R : Rls} {ν : Str → Nat} {sg : List Nat} (G : GG ns R ν sg) {i : Nat} {q : List Nat × List Str} (h : q.1.length ≤ i ∧ (∀ Y ∈ q.2, Y ∈ ns) ∧ q.2.length ≤ 100 + 3 * i) : (nextOf R q).length ≤ 4 ∧ ∀ p ∈ nextOf R q, p.1.length ≤ i + 1 ∧ (∀ Y ∈ p.2, Y ∈ ns) ∧ p.2.length ≤ 100 + 3 * (i + 1) := by
  obtain ⟨w, row⟩ := q
  obtain ⟨h1, h2, h3⟩ := h
  cases row with
  | nil => exact ⟨Nat.zero_le _, fun _ h => nomatch h⟩
  | cons X r =>
    have hX := h2 X (List.mem_cons_self ..)
    refine ⟨?_, fun p hp => ?_⟩
    · show ((srt (R X)).map _).length ≤ 4
      rw [List.length_map, (srt_perm (R X)).length_eq]
      exact G.le4 X hX
    · have hp : p ∈ (srt (R X)).map fun p => (w ++ [p.1], p.2 ++ r) := hp
      obtain ⟨z, hz, rfl⟩ := List.mem_map.mp hp
      have hc := G.cl X hX z ((srt_perm (R X)).subset hz)
      have h1' : w.length ≤ i := h1
      have h3' : r.length + 1 ≤ 100 + 3 * i := h3
      have hc3 := hc.2.2
      refine ⟨by rw [List.length_append, List.length_singleton]; omega, fun Y hY => ?_, by rw [List.length_append]; omega⟩
      rcases List.mem_append.mp hY with e | e
      · exact hc.2.1 Y e
      · exact h2 Y (List.mem_cons_of_mem _ e)
theorem fm_len {α β : Type} {f : α → List β} {b : Nat} : ∀ {l : List α}, (∀ a ∈ l, (f a).length ≤ b) → (l.flatMap f).length ≤ l.length * b
  | [], _ => Nat.zero_le _
  | x :: r, h => by
    rw [List.flatMap_cons, List.length_append, List.length_cons, Nat.add_mul]
    have h1 := h x (List.mem_cons_self ..)
    have h2 := fm_len (l := r) fun a ha => h a (List.mem_cons_of_mem _ ha)
    omega
theorem LyOk.next {ns : List Str} {R : Rls} {ν : Str → Nat} {sg : List Nat} (G : GG ns R ν sg) {i : Nat} {L : Ly Str} (h : LyOk ns i L) : LyOk ns (i + 1) (next R L) where
  len := by
    have h1 : (K60.next R L).length ≤ L.length * 4 := fm_len fun q hq => (nextOf_ok G (h.it q hq)).1
    have := h.len
    rw [Nat.pow_succ]
    omega
  it p hp := by
    obtain ⟨q, hq, hp⟩ := List.mem_flatMap.mp hp
    exact (nextOf_ok G (h.it q hq)).2 p hp
def rem_ (R : Rls) (most i : Nat) (L : Ly Str) : List (List Nat) := if i ≤ most then bfs R (most - i) L else []
theorem rem_step {R : Rls} {most i : Nat} {L : Ly Str} (h : i ≤ most) : rem_ R most i L = ended L ++ rem_ R most (i + 1) (next R L) := by
  unfold rem_
  rw [if_pos h]
  by_cases h2 : i + 1 ≤ most
  · rw [if_pos h2, show most - i = (most - (i + 1)) + 1 by omega]
    rfl
  · rw [if_neg h2, show most - i = 0 by omega, List.append_nil]
    rfl
theorem ended_snoc {L : Ly Str} {q : List Nat × List Str} : ended (L ++ [q]) = ended L ++ (if q.2 = [] then [q.1] else []) := by
  unfold ended
  rw [List.filter_append, List.map_append]
  by_cases h : q.2 = []
  · rw [if_pos h, List.filter_cons, decide_eq_true h]; rfl
  · rw [if_neg h, List.filter_cons, decide_eq_false h]; rfl
theorem ended_le {L : Ly Str} : (ended L).length ≤ L.length := by
  unfold ended
  rw [List.length_map]
  exact List.length_filter_le _ _
theorem pairs_app {α β : Type} {R : α → β → Prop} : ∀ {l l' : List α} {m m' : List β}, Paired R l m → Paired R l' m' → Paired R (l ++ l') (m ++ m')
  | _, _, _, _, .nil, h => h
  | _, _, _, _, .cons h t, h' => .cons h (pairs_app t h')
section
variable {c : Cfg} {K : PySem.W.Frag} {mg : Str → Option Value} {base : Heap}
theorem sc_words_within : FnScope ["grammar", "row", "most", "found", "layer", "many", "later", "word", "rest", "letter", "more"] ["grammar", "row", "most"] (defScope s_words_within) := ⟨rfl, rfl, rfl, by decide +kernel, rfl, by decide +kernel, by decide +kernel⟩
theorem ok_words_within (D : Dfn K mg "words_within" s_words_within (["grammar", "row", "most"])) (B : Blt mg) (G_look_at_tongue : Gd c.P c.w K mg base 4 "look_at_tongue" (["grammar", "rows"]) (sp_look_at_tongue c)) (G_sorted_rules : Gd c.P c.w K mg base 2 "sorted_rules" (["grammar", "name"]) (sp_sorted_rules c)) :
    Gd c.P c.w K mg base 5 "words_within" (["grammar", "row", "most"]) (sp_words_within c) := by
  refine D.ok sc_words_within (fun vs H Q E h => ?_) (fun fa cdv A outer s H vs Q E hr h => ?_)
  · obtain ⟨F, g, ns, R, ν, sg, a, row, most, rfl, _⟩ := h
    rfl
  obtain ⟨F, g, ns, R, ν, sg, a, row, most, rfl, kn, tb, G, ha, hsub, hl, hm, q⟩ := h
  refine ⟨_, (pss_cons (ps_expr (pe_g G_look_at_tongue hr (by rfl) (pa_cons (pv 0) (pa_cons (pe_lst (pa_cons (pv 1) pa_nil)) pa_nil)))) (pss_cons (ps_set (i := 3) sc_words_within.nd rfl (Or.inl rfl) (pe_lst pa_nil)) (pss_cons (ps_set (i := 4) sc_words_within.nd rfl (Or.inl rfl) (pe_lst (pa_cons (pe_tup (pa_cons pe_str (pa_cons (pe_callTy call_list_of (by rfl) B.list (by decide +kernel) (pa_cons (pv 1) pa_nil)) pa_nil))) pa_nil))) (pss_cons (ps_for PassesOwn.never rfl (pi_range1 (by rfl) B.range (pa_cons (pe_op op_add (pv 2) pe_int) pa_nil)) (pg_name (i := 5) sc_words_within.nd rfl (Or.inl rfl)) (pss_cons (ps_expr (pe_bm PySem.F.plainAttrs_list PySem.F.slot_list_extend PySem.F.type_list_extend mt_extend (pv 3) (pa_cons (pe_lc (own := [("word", 7), ("rest", 8)]) (wi := (iList K (tVar 4))) (g := (gTup K 2 (gCons (gName 7) (gCons (gName 8) gNil)))) (tt := (tTest (tOp (rEqD K) (tVar 8) (tLst tNil)))) (te := (tVar 7)) rfl sc_words_within.nd (pi_list (pv 4)) (blkOk_by (own := [("word", 7), ("rest", 8)]) (N := ["grammar", "row", "most", "found", "layer", "many", "later", "word", "rest", "letter", "more"]) (sc := defScope s_words_within) (by decide +kernel)) (fun _ _ _ _ _ => (pg_tup rfl (pgs_cons (pg_name (i := 7) sc_words_within.nd rfl (Or.inl rfl)) (pgs_cons (pg_name (i := 8) sc_words_within.nd rfl (Or.inl rfl)) pgs_nil)))) (fun _ _ _ _ _ => (pts_one (pt_cmpR (op_eqD (hu64 hr)) (pv 8) (pe_lst pa_nil) (nomark _)))) (fun _ _ _ _ _ => (pv 7))) pa_nil))) (pss_cons (ps_set (i := 6) sc_words_within.nd rfl (Or.inl rfl) (pe_lst pa_nil)) (pss_cons (ps_for PassesOwn.never rfl (pi_list (pv 4)) (pg_tup rfl (pgs_cons (pg_name (i := 7) sc_words_within.nd rfl (Or.inr rfl)) (pgs_cons (pg_name (i := 8) sc_words_within.nd rfl (Or.inr rfl)) pgs_nil))) (pss_one (ps_if (pt_cmpR (op_neD (hu64 hr)) (pv 8) (pe_lst pa_nil) (nomark _)) (pss_one (ps_expr (pe_bm PySem.F.plainAttrs_list PySem.F.slot_list_extend PySem.F.type_list_extend mt_extend (pv 6) (pa_cons (pe_lc (own := [("letter", 9), ("more", 10)]) (wi := (iList K (tG (sp_sorted_rules c) (tCons (tVar 0) (tCons (tOp (rIxL K) (tVar 8) (tC (.int 0))) tNil))))) (g := (gTup K 2 (gCons (gName 9) (gCons (gName 10) gNil)))) (tt := tYes) (te := (tTup (tCons (tOp rAddS (tVar 7) (tVar 9)) (tCons (tOp rCat (tVar 10) (tSl (rSlL K) (tVar 8) (tPart (tC (.int 1))) tNoPart)) tNil)))) rfl sc_words_within.nd (pi_list (pe_g G_sorted_rules hr (by rfl) (pa_cons (pv 0) (pa_cons (pe_ix ix_list (pv 8) pe_int (fun _ _ => rfl)) pa_nil)))) (blkOk_by (own := [("letter", 9), ("more", 10)]) (N := ["grammar", "row", "most", "found", "layer", "many", "later", "word", "rest", "letter", "more"]) (sc := defScope s_words_within) (by decide +kernel)) (fun _ _ _ _ _ => (pg_tup rfl (pgs_cons (pg_name (i := 9) sc_words_within.nd rfl (Or.inl rfl)) (pgs_cons (pg_name (i := 10) sc_words_within.nd rfl (Or.inl rfl)) pgs_nil)))) (fun _ _ _ _ _ => pts_nil) (fun _ _ _ _ _ => (pe_tup (pa_cons (pe_op op_add_str (pv 7) (pv 9)) (pa_cons (pe_op op_cat (pv 10) (pe_slice sl_list (pv 8) (po_some pe_int) po_none)) pa_nil))))) pa_nil)))) pss_nil))) (pss_one (ps_set (i := 4) sc_words_within.nd rfl (Or.inl rfl) (pv 6))))))) (pss_one (ps_ret (pv 3))))))), ?_⟩
  refine ⟨_, rfl, _, rfl, by show 1 ≤ sizeLine; decide, fun b hb => ?_⟩
  have st1 : Stp c.T S0 F H F (upd H b (.lst [.ref a])) := .mut kn hb
  refine ⟨F, g, ns, R, ν, sg, a, b, row, rfl, st1.kn, G, upd_same, ha, hsub, fun F2 H2 st2 => ?_⟩
  have s12 := st1.trans st2
  have ha2 := st2.sub _ _ ha
  refine ⟨Nat.zero_le _, fun Lf hLf => ?_⟩
  have hLf0 : Fr H Lf := s12.fr kn (.of hLf)
  have st3 : Stp c.T S0 F2 H2 F2 (upd H2 Lf (.lst [])) := .mut st2.kn hLf
  have fLf : F2 Lf = none := st2.kn.off hLf
  have hLf3 : upd H2 Lf (.lst []) Lf = some (.lst []) := upd_same
  generalize upd H2 Lf (.lst []) = H3 at *
  refine ⟨_, rfl, a, _, rfl, .inl (SqL.of (st3.kn _ _ ha2).1), fun b4 hb4 => ?_⟩
  have st4 : Stp c.T S0 F2 H3 (upd F2 b4 (.lst (row.map V.str))) (upd H3 b4 (.lst (row.map V.str))) := .data st3.kn hb4 (nt_lst _)
  have h4 : upd F2 b4 (.lst (row.map V.str)) b4 = some (.lst (row.map V.str)) := upd_same
  obtain ⟨f4, g4⟩ := st4.mu fLf hLf3 (nt_lst _) (fun h => h)
  generalize upd F2 b4 (.lst (row.map V.str)) = F4 at *
  generalize upd H3 b4 (.lst (row.map V.str)) = H4 at *
  refine ⟨by show 2 ≤ sizeLine; decide, fun t5 ht5 => ?_⟩
  have st5 : Stp c.T S0 F4 H4 (upd F4 t5 (.tup [.str "", .ref b4])) (upd H4 t5 (.tup [.str "", .ref b4])) := .data st4.kn ht5 (nt_tup _)
  have h5 : upd F4 t5 (.tup [.str "", .ref b4]) t5 = some (.tup [.str "", .ref b4]) := upd_same
  obtain ⟨f5, g5⟩ := st5.mu f4 g4 (nt_lst _) (fun h => h)
  generalize upd F4 t5 (.tup [.str "", .ref b4]) = F5 at *
  generalize upd H4 t5 (.tup [.str "", .ref b4]) = H5 at *
  refine ⟨by show 1 ≤ sizeLine; decide, fun La hLa => ?_⟩
  have st6 : Stp c.T S0 F5 H5 (upd F5 La (.lst [.ref t5])) (upd H5 La (.lst [.ref t5])) := .data st5.kn hLa (nt_lst _)
  have h6 : upd F5 La (.lst [.ref t5]) La = some (.lst [.ref t5]) := upd_same
  obtain ⟨f6, g6⟩ := st6.mu f5 g5 (nt_lst _) (fun h => h)
  generalize upd F5 La (.lst [.ref t5]) = F6 at *
  generalize upd H5 La (.lst [.ref t5]) = H6 at *
  have s16 := (((s12.trans st3).trans st4).trans st5).trans st6
  have G6 := G.up s16.sub
  refine ⟨_, rfl, _, _, rfl, rfl, (most : Int) + 1, rfl, rng_lo (by omega), rng_hi (by omega), ?_⟩
  rw [show ((most : Int) + 1).toNat = most + 1 by omega]
  refine for_it (walk_range (lo := 0) (n := most + 1)) (fun i σ H' => ∃ (F' : Hp) (La' : Addr) (ls us : List V) (L : Ly Str) (fs : List (List Nat)) (x5 x6 x7 x8 x9 x10 : Option V), Stp c.T (fun b => b = Lf) F6 H6 F' H' ∧ F' Lf = none ∧ H' Lf = some (.lst us) ∧ Paired (wordP F') us fs ∧ F' La' = some (.lst ls) ∧ Paired (layP F') ls L ∧ LyOk ns i L ∧ fs.length ≤ 1024 * i ∧ fs ++ rem_ R most i L = within R most row ∧ σ = [some (.ref g), some (.ref a), some (.int (most : Int)), some (.ref Lf), some (.ref La'), x5, x6, x7, x8, x9, x10]) ?_ (fun _ _ _ _ _ => trivial) ?_ ?_
  · refine ⟨F6, La, _, _, [([], row)], [], none, none, none, none, none, none, .refl st6.kn, f6, g6, .nil, h6, .cons ⟨t5, _, _, rfl, st6.sub _ _ h5, rfl, b4, rfl, st6.sub _ _ (st5.sub _ _ h4)⟩ .nil, ⟨Nat.le_refl _, fun q hq => ?_⟩, Nat.zero_le _, ?_, rfl⟩
    · rw [List.mem_singleton.mp hq]
      exact ⟨Nat.le_refl _, hsub, hl⟩
    · unfold rem_
      rw [if_pos (Nat.zero_le _)]
      rfl
  · rintro i x σ H7 Hq hi ⟨F7, La7, ls, us, L, fs, x5, x6, x7, x8, x9, x10, st7, f7, g7, pf7, hla7, pl7, ly7, hf7, hw7, rfl⟩ ⟨rfl, rfl⟩
    have k7 := st7.kn
    have hp4 : 4 ^ i ≤ 1024 := Nat.le_trans (Nat.pow_le_pow_right (by decide) (show i ≤ 5 by omega)) (by decide)
    have lls := Paired.len pl7
    have lus := Paired.len pf7
    have lyl := ly7.len
    refine ⟨_, rfl, .inl ⟨rfl, _, SqL.of g7⟩, _, rfl, La7, rfl, ⟨_, SqL.of (k7 _ _ hla7).1⟩, fun Dl hDl => ?_⟩
    have okl : IvOk (IvE fun j => ended (L.take j)) ls.length S0 Hq Dl := ivE_ok (fun j => Nat.le_trans ended_le (len_take _ j)) (szl (by omega)) (fun h => h) hDl
    refine lc_F (T := c.T) (S := S0) (walk_list (K := K) (a := La7) (xs := ls)) wordP _ k7 okl rfl (fun i F' H' ys k' e _ _ => SqL.of (k' _ _ (e _ _ hla7)).1) ?_ ?_
    · rintro j x F8 H8 H'' ys hj cu ⟨rfl, hx⟩
      obtain ⟨⟨w, rw⟩, hy, t, u, v, rfl, ht, hu, b, rfl, hb⟩ := Paired.at pl7 hx
      obtain rfl : u = V.str (wrd w) := hu
      have hb : F7 b = some (.lst (rw.map V.str)) := hb
      have k8 := cu.kn
      have hit := ly7.it _ (List.mem_of_getElem? hy)
      refine ⟨t, _, rfl, SqT.of (k8 _ _ (cu.sub _ _ ht)).1, rfl, _, _, rfl, _, _, rfl, rfl, rfl, ?_⟩
      refine ⟨_, rfl, Nat.zero_le _, fun e9 he9 => ?_⟩
      have st9 : Stp c.T S0 F8 H'' F8 (upd H'' e9 (.lst [])) := .mut k8 he9
      refine eqD_nil (r := rw) (fun X hX => G.sok X (hit.2.1 X hX)) (SqL.of (st9.kn _ _ (cu.sub _ _ hb)).1) (SqL.of upd_same) ⟨_, rfl, ?_⟩
      refine ite2 (fun he => ?_) (fun he => ?_)
      · have he' : rw = [] := of_decide_eq_true he
        refine ⟨_, rfl, cu.put okl hj st9 (z := w) rfl ?_⟩
        show ys ++ [w] = ended (L.take (j + 1))
        rw [take_snoc hy, ended_snoc, if_pos he', show ys = _ from cu.iv]
      · have he' : ¬ rw = [] := fun h => he (decide_eq_true h)
        refine cu.skip okl st9 ?_
        show ys = ended (L.take (j + 1))
        rw [take_snoc hy, ended_snoc, if_neg he', show ys = _ from cu.iv, List.append_nil]
    intro F8 H8 ys us8 st8 fD8 hd8 pr8 iv8
    have eys : ys = ended L := by
      rw [show ys = ended (L.take ls.length) from iv8, List.take_of_length_le (by omega)]
    subst eys
    obtain ⟨f8, g8⟩ := st8.mu f7 g7 (nt_lst _) (fun h => h)
    have lus8 := Paired.len pr8
    have lend : (ended L).length ≤ L.length := ended_le
    refine ⟨Lf, Dl, us, us8, rfl, rfl, g8, hd8, szl (by omega), ?_⟩
    have st9 : Stp c.T (fun b => b = Lf) F8 H8 F8 (upd H8 Lf (.lst (us ++ us8))) := .set st8.kn f8 g8 (nx_lst _) (nt_lst _) rfl
    have g9 : upd H8 Lf (.lst (us ++ us8)) Lf = some (.lst (us ++ us8)) := upd_same
    generalize upd H8 Lf (.lst (us ++ us8)) = H9 at *
    have pf9 : Paired (wordP F8) (us ++ us8) (fs ++ ended L) := pairs_app (paired_up st8.sub pf7) pr8
    refine ⟨Nat.zero_le _, fun Ll hLl => ?_⟩
    have st10 : Stp c.T S0 F8 H9 F8 (upd H9 Ll (.lst [])) := .mut st9.kn hLl
    have f10 : F8 Ll = none := st9.kn.off hLl
    have g10 : upd H9 Ll (.lst []) Ll = some (.lst []) := upd_same
    obtain ⟨f10f, g10f⟩ := st10.mu f8 g9 (nt_lst _) (fun h => h)
    have nLf : Lf ≠ Ll := fun z => by rw [z, hLl] at g9; cases g9
    generalize upd H9 Ll (.lst []) = H10 at *
    have hla10 := st8.sub _ _ hla7
    have pl10 : Paired (layP F8) ls L := paired_up st8.sub pl7
    have k10 := st10.kn
    have s7_10 : Stp c.T (fun b => b = Lf) F6 H6 F8 H10 := ((st7.trans (st8.wide fun b h => h.elim)).trans st9).trans (st10.wide fun b h => h.elim)
    have G10 := G6.up s7_10.sub
    have tb10 : Tabs c.T H10 := s7_10.tab (s16.tab tb)
    refine ⟨_, rfl, La7, rfl, ⟨_, SqL.of (k10 _ _ hla10).1⟩, ?_⟩
    refine for_it (walk_list (K := K) (a := La7) (xs := ls)) (fun j σ H' => ∃ (F' : Hp) (vs : List V) (x7 x8 x9 x10 : Option V), Stp c.T (fun b => b = Ll) F8 H10 F' H' ∧ F' Ll = none ∧ H' Ll = some (.lst vs) ∧ Paired (layP F') vs (next R (L.take j)) ∧ σ = [some (.ref g), some (.ref a), some (.int (most : Int)), some (.ref Lf), some (.ref La7), some (.int (0 + ((i : Nat) : Int))), some (.ref Ll), x7, x8, x9, x10]) ?_ ?_ ?_ ?_
    · exact ⟨F8, [], _, _, _, _, .refl k10, f10, g10, .nil, rfl⟩
    · rintro j σ H' _ ⟨F', vs, x7, x8, x9, x10, st, _⟩
      exact SqL.of (st.kn _ _ (st.sub _ _ hla10)).1
    · rintro j x σ H11 H' hj ⟨F11, vs, x7, x8, x9, x10, st11, f11, g11, pv11, rfl⟩ ⟨rfl, hx⟩
      obtain ⟨⟨w, rw⟩, hy, t, u, v, rfl, ht, hu, b, rfl, hb⟩ := Paired.at pl10 hx
      obtain rfl : u = V.str (wrd w) := hu
      have hb : F8 b = some (.lst (rw.map V.str)) := hb
      have k11 := st11.kn
      have hit := ly7.it _ (List.mem_of_getElem? hy)
      have hit1 : w.length ≤ i := hit.1
      have hit3 : rw.length ≤ 100 + 3 * i := hit.2.2
      have hb11 := st11.sub _ _ hb
      refine ⟨t, _, rfl, SqT.of (k11 _ _ (st11.sub _ _ ht)).1, rfl, _, _, rfl, _, _, rfl, rfl, ?_⟩
      refine ⟨_, rfl, Nat.zero_le _, fun e12 he12 => ?_⟩
      have st12 : Stp c.T S0 F11 H' F11 (upd H' e12 (.lst [])) := .mut k11 he12
      refine neD_nil (r := rw) (fun X hX => G.sok X (hit.2.1 X hX)) (SqL.of (st12.kn _ _ hb11).1) (SqL.of upd_same) ⟨_, rfl, ?_⟩
      obtain ⟨f12, g12⟩ := st12.mu f11 g11 (nt_lst _) (fun h => h)
      generalize upd H' e12 (.lst []) = H12 at *
      have enx : next R (L.take (j + 1)) = next R (L.take j) ++ nextOf R (w, rw) := by
        rw [take_snoc hy]
        unfold next
        rw [List.flatMap_append]
        simp
      have lvs := Paired.len pv11
      have lnx : (next R (L.take j)).length ≤ 4096 := by
        have h1 : (next R (L.take j)).length ≤ (L.take j).length * 4 := fm_len fun q hq => (nextOf_ok G.gg (ly7.it q (List.mem_of_mem_take hq))).1
        have h2 : (L.take j).length ≤ L.length := by rw [List.length_take]; omega
        omega
      cases rw with
      | nil =>
        rw [decide_eq_true rfl]
        refine ⟨F11, vs, _, _, _, _, st11.trans (st12.wide fun b h => h.elim), f12, g12, ?_, rfl⟩
        rw [enx, show nextOf R (w, []) = [] from rfl, List.append_nil]
        exact pv11
      | cons X r =>
        rw [decide_eq_false (fun h => by cases h)]
        have hX : X ∈ ns := hit.2.1 X (List.mem_cons_self ..)
        have k12 := st12.kn
        have s12_ := st11.trans (st12.wide fun b h => h.elim)
        refine ⟨_, rfl, .inl ⟨rfl, _, SqL.of g12⟩, _, rfl, _, rfl, b, _, 0, .str X, rfl, rfl, SqL.of (k12 _ _ hb11).1, atI_nat (i := 0) rfl, F11, g, ns, R, ν, sg, X, rfl, k12, s12_.tab tb10, G10.up s12_.sub, hX, fun F13' H13 e13 us13 st13' he0 hfe hee pr13 => ⟨e13, rfl, ⟨_, SqL.of hee⟩, fun D2 hD2 => ?_⟩⟩
        have st13 : Stp c.T S0 F11 H12 (upd F13' e13 (.lst us13)) H13 := st13'.freeze he0 hee (nt_lst _)
        have pr : Paired (ruleP (upd F13' e13 (.lst us13))) us13 (srt (R X)) := paired_up (same_upd hfe) pr13
        have he13 : upd F13' e13 (.lst us13) e13 = some (.lst us13) := upd_same
        generalize upd F13' e13 (.lst us13) = F13 at *
        have lus13 : us13.length ≤ 4 := by
          rw [Paired.len pr, (srt_perm (R X)).length_eq]
          exact G.gg.le4 X hX
        obtain ⟨f13, g13⟩ := st13.mu f12 g12 (nt_lst _) (fun h => h)
        have okl2 : IvOk (IvE fun k => ((srt (R X)).take k).map fun p => (w ++ [p.1], p.2 ++ r)) us13.length S0 H13 D2 := ivE_ok (fun k => by rw [List.length_map]; exact len_take _ k) (szl (by omega)) (fun h => h) hD2
        refine lc_F (T := c.T) (S := S0) (walk_list (K := K) (a := e13) (xs := us13)) layP _ st13.kn okl2 rfl (fun i F' H' ys k' e _ _ => SqL.of (k' _ _ (e _ _ he13)).1) ?_ ?_
        · rintro k x F14 H14 H''' zs hk cu ⟨rfl, hx14⟩
          obtain ⟨⟨l, more⟩, hy14, t14, u14, w14, rfl, ht14, hu14, b14, rfl, hb14⟩ := Paired.at pr hx14
          obtain rfl : u14 = V.str ⟨#[l]⟩ := hu14
          have hb14 : F13 b14 = some (.lst (more.map V.str)) := hb14
          have k14 := cu.kn
          have hcl := G.gg.cl X hX _ ((srt_perm (R X)).subset (List.mem_of_getElem? hy14))
          have hml : more.length ≤ 3 := hcl.2.2
          have hrl : r.length + 1 ≤ 100 + 3 * i := hit3
          have hbb := (k14 _ _ (cu.sub _ _ (st13.sub _ _ hb11))).1
          refine ⟨t14, _, rfl, SqT.of (k14 _ _ (cu.sub _ _ ht14)).1, rfl, _, _, rfl, _, _, rfl, rfl, rfl, ?_⟩
          refine ⟨_, rfl, _, rfl, _, _, rfl, rfl, ?_, _, rfl, _, rfl, 1, rfl, b, _, rfl, SqL.of hbb, fun p2 hp2 => ?_⟩
          · rw [show (wrd w).length = w.length from wrd_len w]
            show w.length + 1 ≤ sizeLine
            exact szl (by omega)
          rw [show cutV ((X :: r).map V.str) (some 1) none = r.map V.str from cutV_from (i := 1) (by simp)]
          have st15 : Stp c.T S0 F14 H''' F14 (upd H''' p2 (.lst (r.map V.str))) := .mut k14 hp2
          have hr15 : upd H''' p2 (.lst (r.map V.str)) p2 = some (.lst (r.map V.str)) := upd_same
          generalize upd H''' p2 (.lst (r.map V.str)) = H15 at *
          refine ⟨b14, p2, _, _, rfl, rfl, (st15.kn _ _ (cu.sub _ _ hb14)).1, hr15, ?_, fun p3 hp3 => ?_⟩
          · rw [List.length_map, List.length_map]
            exact szl (by omega)
          rw [← List.map_append]
          have st16 : Stp c.T S0 F14 H15 (upd F14 p3 (.lst ((more ++ r).map V.str))) (upd H15 p3 (.lst ((more ++ r).map V.str))) := .data st15.kn hp3 (nt_lst _)
          have h16 : upd F14 p3 (.lst ((more ++ r).map V.str)) p3 = some (.lst ((more ++ r).map V.str)) := upd_same
          generalize upd F14 p3 (.lst ((more ++ r).map V.str)) = F16 at *
          generalize upd H15 p3 (.lst ((more ++ r).map V.str)) = H16 at *
          refine ⟨by show 2 ≤ sizeLine; decide, fun t17 ht17 => ?_⟩
          have st17 : Stp c.T S0 F16 H16 (upd F16 t17 (.tup [.str (wrd w ++ ⟨#[l]⟩), .ref p3])) (upd H16 t17 (.tup [.str (wrd w ++ ⟨#[l]⟩), .ref p3])) := .data st16.kn ht17 (nt_tup _)
          refine cu.put okl2 hk ((st15.trans st16).trans st17) (z := (w ++ [l], more ++ r)) ⟨t17, _, _, rfl, upd_same, ?_, p3, rfl, st17.sub _ _ h16⟩ ?_
          · exact congrArg V.str (wrd_app w [l])
          · show zs ++ [(w ++ [l], more ++ r)] = ((srt (R X)).take (k + 1)).map _
            rw [take_snoc hy14, List.map_append, show zs = _ from cu.iv]
            rfl
        intro F14 H14 zs us14 st14 fD14 hd14 pr14 iv14
        have ezs : zs = nextOf R (w, X :: r) := by
          rw [show zs = ((srt (R X)).take us13.length).map _ from iv14, List.take_of_length_le (by rw [Paired.len pr]; exact Nat.le_refl _)]
          rfl
        subst ezs
        obtain ⟨f14, g14⟩ := st14.mu f13 g13 (nt_lst _) (fun h => h)
        have lus14 := Paired.len pr14
        have lno := (nextOf_ok G.gg hit).1
        refine ⟨Ll, D2, vs, us14, rfl, rfl, g14, hd14, szl (by omega), ?_⟩
        have st15 : Stp c.T (fun b => b = Ll) F14 H14 F14 (upd H14 Ll (.lst (vs ++ us14))) := .set st14.kn f14 g14 (nx_lst _) (nt_lst _) rfl
        have sub14 := (st12.trans (st13.trans st14)).sub
        refine ⟨F14, vs ++ us14, _, _, _, _, (st11.trans ((st12.trans (st13.trans st14)).wide fun b h => h.elim)).trans st15, f14, upd_same, ?_, rfl⟩
        rw [enx]
        exact pairs_app (paired_up sub14 pv11) pr14
    · rintro σ H' ⟨F11, vs, x7, x8, x9, x10, st11, f11, g11, pv11, rfl⟩
      rw [List.take_of_length_le (show L.length ≤ ls.length by omega)] at pv11
      have st12 : Stp c.T S0 F8 H9 (upd F11 Ll (.lst vs)) H' := (((st10.wide fun b h => h.elim).trans st11).freeze (.of hLl) g11 (nt_lst _)).loc fun b hb => .inr (by rw [show b = Ll from hb]; exact .of hLl)
      obtain ⟨f12, g12⟩ := st11.mu f10f g10f (nt_lst _) nLf
      have st13 : Stp c.T (fun b => b = Lf) F7 Hq (upd F11 Ll (.lst vs)) H' := ((st8.wide fun b h => h.elim).trans st9).trans (st12.wide fun b h => h.elim)
      refine ⟨_, rfl, upd F11 Ll (.lst vs), Ll, vs, us ++ us8, next R L, fs ++ ended L, _, _, _, _, _, _, st7.trans st13, by rw [upd_ne nLf]; exact f12, g12, paired_up st12.sub pf9, upd_same, paired_up (same_upd f11) pv11, ly7.next G.gg, ?_, ?_, rfl⟩
      · rw [List.length_append]
        omega
      · rw [List.append_assoc, ← rem_step (by omega)]
        exact hw7
  · rintro σ H' ⟨F7, La7, ls, us, L, fs, x5, x6, x7, x8, x9, x10, st7, f7, g7, pf7, hla7, pl7, ly7, hf7, hw7, rfl⟩
    unfold rem_ at hw7
    rw [if_neg (by omega), List.append_nil] at hw7
    rw [hw7] at pf7
    have sAll : Stp c.T S0 F2 H2 F7 H' := (((((st3.trans st4).trans st5).trans st6).wide fun b h => h.elim).trans st7).loc fun b hb => .inr (by rw [show b = Lf from hb]; exact .of hLf)
    exact ⟨_, rfl, q F7 H' Lf us (s12.trans sAll) hLf0 f7 g7 pf7⟩
end
end K60
namespace K60
open PySem PySem.Spec PyProof.Rows L2 LamX
/-! the least of texts -/
theorem minOf_is {m : Str} : ∀ (xs : List Str) (x : Str), m ∈ x :: xs → (∀ y ∈ x :: xs, y = m ∨ (m.cps.toList < y.cps.toList)) → PySem.W.minOf x xs = m
  | [], x, hm, _ => (List.mem_singleton.mp hm).symm
  | y :: r, x, hm, h => by
    have asym : ∀ z : Str, m.cps.toList < z.cps.toList → ¬ z.cps.toList < m.cps.toList := fun z h1 h2 => List.lt_asymm h1 h2
    have irr : ¬ m.cps.toList < m.cps.toList := List.lt_irrefl _
    show PySem.W.minOf (if PySem.W.DatumOrd.lt y x = true then y else x) r = m
    have hlt : PySem.W.DatumOrd.lt y x = decide (y.cps.toList < x.cps.toList) := rfl
    rw [hlt]
    by_cases hc : y.cps.toList < x.cps.toList
    · rw [if_pos (decide_eq_true hc)]
      refine minOf_is r y ?_ fun z hz => h z (List.mem_cons_of_mem _ hz)
      rcases List.mem_cons.mp hm with e | e
      · subst e
        rcases h y (List.mem_cons_of_mem _ (List.mem_cons_self ..)) with e | e
        · subst e; exact List.mem_cons_self ..
        · exact absurd hc (asym y e)
      · exact e
    · rw [if_neg (fun z => hc (of_decide_eq_true z))]
      refine minOf_is r x ?_ fun z hz => h z (by
        rcases List.mem_cons.mp hz with e | e
        · rw [e]; exact List.mem_cons_self ..
        · exact List.mem_cons_of_mem _ (List.mem_cons_of_mem _ e))
      rcases List.mem_cons.mp hm with e | e
      · rw [e]; exact List.mem_cons_self ..
      · rcases List.mem_cons.mp e with e2 | e2
        · subst e2
          rcases h x (List.mem_cons_self ..) with e3 | e3
          · rw [e3]; exact List.mem_cons_self ..
          · exact absurd e3 hc
        · exact List.mem_cons_of_mem _ e2
theorem joinL_nil : ∀ ys : List (List Nat), TL.joinL [] ys = ys.flatten
  | [] => rfl
  | [p] => by
    show p = _
    simp
  | p :: q :: r => by
    show p ++ ([] ++ TL.joinL [] (q :: r)) = _
    rw [joinL_nil (q :: r), List.nil_append]
    rfl
theorem join_wrd (ys : List (List Nat)) : Txt.join "" (ys.map wrd) = wrd ys.flatten := by
  have h := SX.join_S [] ys
  rw [joinL_nil] at h
  exact h
theorem len_sum (ys : List (List Nat)) : ((ys.map wrd).map (·.length)).sum = ys.flatten.length := by
  rw [List.length_flatten, List.map_map]
  refine congrArg List.sum (List.map_congr_left fun y _ => wrd_len y)
def sp_shortest_end (c : Cfg) : Sp := fun vs H Q _ => ∃ (F : Hp) (g : Addr) (ns : List Str) (R : Rls) (ν : Str → Nat) (sg : List Nat) (a : Addr) (row : List Str), vs = [.ref g, .ref a] ∧ Kn F H ∧ Tabs c.T H ∧ GK c.CG F g ns R ν sg ∧ F a = some (.lst (row.map V.str)) ∧ (∀ X ∈ row, X ∈ ns) ∧ row.length ≤ 100 ∧
  ∀ F' H', Stp c.T S0 F H F' H' → Q (.str (wrd (lst R ν row))) H'
def byN (ν : Str → Nat) (ns : List Str) : List Str := ns.mergeSort fun a b => decide ((ν a : Int) ≤ (ν b : Int))
theorem byN_perm {ν : Str → Nat} {ns : List Str} : (byN ν ns).Perm ns := List.mergeSort_perm _ _
theorem byN_sorted {ν : Str → Nat} {ns : List Str} : (byN ν ns).Pairwise fun a b => ν a ≤ ν b := by
  have h := List.pairwise_mergeSort (le := fun a b : Str => decide ((ν a : Int) ≤ (ν b : Int))) (fun a b c h1 h2 => by simp at *; omega) (fun a b => by simp; omega) ns
  exact h.imp fun h => by simpa using h
/-- what is less stands ahead -/
theorem ahead {ν : Str → Nat} {so : List Str} (hs : so.Pairwise fun a b => ν a ≤ ν b) {i : Nat} {X Y : Str} (hi : so[i]? = some X) (hY : Y ∈ so) (hlt : ν Y < ν X) : Y ∈ so.take i := by
  obtain ⟨j, hj⟩ := List.getElem?_of_mem hY
  obtain ⟨hi1, hi2⟩ := List.getElem?_eq_some_iff.mp hi
  obtain ⟨hj1, hj2⟩ := List.getElem?_eq_some_iff.mp hj
  by_cases h : j < i
  · rw [List.mem_take_iff_getElem]
    exact ⟨j, by omega, hj2⟩
  · exfalso
    by_cases e : i = j
    · subst e
      rw [hi2] at hj2
      rw [hj2] at hlt
      exact Nat.lt_irrefl _ hlt
    · have := List.pairwise_iff_getElem.mp hs i j hi1 hj1 (by omega)
      rw [hi2, hj2] at this
      omega
section
variable {c : Cfg} {K : PySem.W.Frag} {mg : Str → Option Value} {base : Heap}
theorem sc_shortest_end : FnScope ["grammar", "row", "known", "ends", "name", "some", "letter", "more", "one"] ["grammar", "row"] (defScope s_shortest_end) := ⟨rfl, rfl, rfl, by decide +kernel, rfl, by decide +kernel, by decide +kernel⟩
theorem ok_shortest_end (D : Dft K mg base c.T "shortest_end" s_shortest_end (["grammar", "row"])) (B : Blt mg) (G_look_at_names : Gd c.P c.w K mg base 2 "look_at_names" (["grammar", "row"]) (sp_look_at_names c)) (G_norms : Gd c.P c.w K mg base 2 "norms" (["grammar"]) (sp_norms c)) (G_added_up : Gd c.P c.w K mg base 1 "added_up" (["norms", "row"]) (sp_added_up c)) (G_lessening : Gd c.P c.w K mg base 2 "lessening" (["grammar", "known", "name"]) (sp_lessening c)) :
    Gd c.P c.w K mg base 3 "shortest_end" (["grammar", "row"]) (sp_shortest_end c) := by
  refine D.ok sc_shortest_end (fun vs H Q E h => ?_) (fun fa cd Pt A outer s H vs Q E TB hmT huT hr h => ?_)
  · obtain ⟨F, g, ns, R, ν, sg, a, row, rfl, _⟩ := h
    rfl
  obtain ⟨F, g, ns, R, ν, sg, a, row, rfl, kn, tb, G, ha, hsub, hl, q⟩ := h
  refine ⟨_, (pss_cons (ps_expr (pe_g G_look_at_names hr (by rfl) (pa_cons (pv 0) (pa_cons (pv 1) pa_nil)))) (pss_cons (ps_set (i := 2) sc_shortest_end.nd rfl (Or.inr rfl) (pe_g G_norms hr (by rfl) (pa_cons (pv 0) pa_nil))) (pss_cons (ps_if (pt_cmpR op_isN (pe_g G_added_up hr (by rfl) (pa_cons (pv 2) (pa_cons (pv 1) pa_nil))) pe_non (nomark _)) (pss_one (ps_ret pe_non)) pss_nil) (pss_cons (ps_set (i := 3) sc_shortest_end.nd rfl (Or.inr rfl) pe_dnewK) (pss_cons (ps_for PassesOwn.never rfl (pi_list (pe_sortKey (T := c.T) (hg := by rfl) (hm := B.sorted) (TB := TB) (hcode := rfl) (hmT := hmT) (huT := huT) (hdef := rfl) (hfree := ?_) (hu := hu64 hr) (hkey := keyOk_get (i := 2) ?_ ?_ (hu64 hr) (by decide) (by decide) (by decide) rfl ?_ ?_) (pa_cons (pe_lock (pe_lc (own := [("one", 8)]) (wi := (iKeys (tVar 2))) (g := (gName 8)) (tt := (tTest (tOp rIsNotNo (tDGet (tVar 2) (tVar 8)) (tC .non)))) (te := (tVar 8)) rfl sc_shortest_end.nd (pi_keys (pv 2)) (blkOk_by (own := [("one", 8)]) (N := ["grammar", "row", "known", "ends", "name", "some", "letter", "more", "one"]) (sc := defScope s_shortest_end) (by decide +kernel)) (fun _ _ _ _ _ => (pg_name (i := 8) sc_shortest_end.nd rfl (Or.inl rfl))) (fun _ _ _ _ _ => (pts_one (pt_cmpR op_notN (pe_dget (hu_of hr) (pv 2) (pv 8) (fun _ _ => rfl)) pe_non (nomark _)))) (fun _ _ _ _ _ => (pv 8)))) pa_nil))) (pg_name (i := 4) sc_shortest_end.nd rfl (Or.inl rfl)) (pss_cons (ps_set (i := 5) sc_shortest_end.nd rfl (Or.inl rfl) (pe_lst pa_nil)) (pss_cons (ps_for PassesOwn.never rfl (pi_list (pe_g G_lessening hr (by rfl) (pa_cons (pv 0) (pa_cons (pv 2) (pa_cons (pv 4) pa_nil))))) (pg_tup rfl (pgs_cons (pg_name (i := 6) sc_shortest_end.nd rfl (Or.inl rfl)) (pgs_cons (pg_name (i := 7) sc_shortest_end.nd rfl (Or.inl rfl)) pgs_nil))) (pss_one (ps_expr (pe_bm PySem.F.plainAttrs_list PySem.F.slot_list_append PySem.F.type_list_append mt_append (pv 5) (pa_cons (pe_op op_add_str (pv 6) (pe_join pe_str (pe_lc (own := [("one", 8)]) (wi := (iList K (tVar 7))) (g := (gName 8)) (tt := tYes) (te := (tDGet (tVar 3) (tVar 8))) rfl sc_shortest_end.nd (pi_list (pv 7)) (blkOk_by (own := [("one", 8)]) (N := ["grammar", "row", "known", "ends", "name", "some", "letter", "more", "one"]) (sc := defScope s_shortest_end) (by decide +kernel)) (fun _ _ _ _ _ => (pg_name (i := 8) sc_shortest_end.nd rfl (Or.inl rfl))) (fun _ _ _ _ _ => pts_nil) (fun _ _ _ _ _ => (pe_dget (hu_of hr) (pv 3) (pv 8) (fun _ _ => rfl)))))) pa_nil))))) (pss_one (ps_dput (hu_of hr) (pv 3) (pv 4) (pe_callB (cr_minT rfl (hu64 hr)) (by rfl) B.min (by decide +kernel) (pa_cons (pv 5) pa_nil)) rfl))))) (pss_one (ps_ret (pe_join pe_str (pe_lc (own := [("name", 4)]) (wi := (iList K (tVar 1))) (g := (gName 4)) (tt := tYes) (te := (tDGet (tVar 3) (tVar 4))) rfl sc_shortest_end.nd (pi_list (pv 1)) (blkOk_by (own := [("name", 4)]) (N := ["grammar", "row", "known", "ends", "name", "some", "letter", "more", "one"]) (sc := defScope s_shortest_end) (by decide +kernel)) (fun _ _ _ _ _ => (pg_name (i := 4) sc_shortest_end.nd rfl (Or.inl rfl))) (fun _ _ _ _ _ => pts_nil) (fun _ _ _ _ _ => (pe_dget (hu_of hr) (pv 3) (pv 4) (fun _ _ => rfl)))))))))))), ?_⟩
  · intro y hy h
    have hy' : y = (("one" : Str), NameKind.local) ∨ y = (("known" : Str), NameKind.free) := by
      rcases List.mem_cons.mp hy with e | e
      · exact .inl e
      · exact .inr (List.mem_singleton.mp e)
    rcases hy' with e | e
    · subst e; cases h
    · subst e; exact .inl rfl
  · exact ⟨fun _ _ _ _ _ _ => rfl, by decide +kernel, by decide +kernel, rfl, rfl, rfl⟩
  · have := hr.dp
    show (A.deeper _).depth + 5 < recursionLimit
    omega
  · rfl
  · rfl
  refine ⟨_, rfl, _, rfl, F, g, ns, R, a, row, rfl, kn, G.gr, (kn _ _ ha).1, hsub, ?_⟩
  refine ⟨_, rfl, F, g, ns, R, ν, sg, rfl, kn, G, fun F2 H2 d st2 hd2 => ?_⟩
  have G2 := G.up st2.sub
  have ha2 := st2.sub _ _ ha
  refine ⟨_, rfl, _, rfl, d, nkv ν ns, a, row, fun X => some (ν X), rfl, (st2.kn _ _ hd2).1, (st2.kn _ _ ha2).1, by omega, fun X hX => fkv_val (hsub X hX), fun H3 e3 => ?_⟩
  rw [added_all (f := fun X => some (ν X)) (ν := ν) (fun _ _ => rfl)]
  refine ⟨rfl, _, rfl, ?_⟩
  rw [show onat (some (nus ν row)) = V.int ((nus ν row : Nat) : Int) from rfl, dnon_f]
  have st3 : Stp c.T S0 F2 H2 F2 H3 := .ext st2.kn e3
  intro de hde
  have st4 : Stp c.T S0 F2 H3 F2 (upd H3 de (.dK [])) := .mut st3.kn hde
  have fde : F2 de = none := st3.kn.off hde
  have hde4 : upd H3 de (.dK []) de = some (.dK []) := upd_same
  have hdH := (st4.kn _ _ hd2).1
  have k4 := st4.kn
  have tb4 : Tabs c.T (upd H3 de (.dK [])) := ((st2.trans st3).trans st4).tab tb
  generalize upd H3 de (.dK []) = H4 at *
  refine ⟨d, .dK (nkv ν ns), hdH, trivial, fun od => ?_⟩
  refine ⟨_, rfl, d, od, rfl, .inl ⟨nkv ν ns, upd_same, fun Dl hDl => ?_⟩⟩
  have ndD : d ≠ Dl := fun z => by rw [z, upd_same] at hDl; cases hDl
  have hDl4 : H4 Dl = none := by rw [upd_ne (fun z => ndD z.symm)] at hDl; exact hDl
  refine lc_it (walk_keys (d := d) (o := od) (kvs := nkv ν ns)) (fun i H' => H' = upd (upd H4 d (.frz od (.dK (nkv ν ns)))) Dl (.lst ((ns.take i).map V.str))) rfl (fun i H' _ e => by rw [e, upd_ne ndD, upd_same]) ?_ ?_
  · rintro i x H1 H' hi rfl ⟨rfl, k, v, hkv, rfl⟩
    unfold nkv fkv at hkv
    rw [List.getElem?_map] at hkv
    obtain ⟨X, hX, hkv⟩ := Option.map_eq_some_iff.mp hkv
    obtain ⟨rfl, rfl⟩ := Prod.mk.inj hkv
    have hm : X ∈ ns := List.mem_of_getElem? hX
    have hil : i < ns.length := (List.getElem?_eq_some_iff.mp hX).1
    have hln := G.gg.le
    refine ⟨rfl, ?_⟩
    refine ⟨_, rfl, _, rfl, d, .int (ν X : Int), rfl, .inl ⟨nkv ν ns, .inr X, .inr ⟨od, by rw [upd_ne ndD, upd_same]⟩, rfl, (nkv_val hm).symm⟩, rfl, _, rfl, ?_⟩
    rw [dnon_f]
    refine ⟨_, rfl, _, upd_same, ?_, ?_⟩
    · rw [List.length_map, List.length_take]
      exact szlt (by omega)
    · rw [upd_upd, take_snoc hX, List.map_append]
      rfl
  rintro H' rfl
  refine ⟨by rw [upd_ne ndD, upd_same], ?_⟩
  have eH : upd (upd (upd H4 d (.frz od (.dK (nkv ν ns)))) Dl (.lst ((ns.take (nkv ν ns).length).map V.str))) d (.dK (nkv ν ns)) = upd H4 Dl (.lst (ns.map V.str)) := by
    funext b
    have e1 : ns.take (nkv ν ns).length = ns := by
      rw [show (nkv ν ns).length = ns.length from List.length_map _, List.take_length]
    rw [e1]
    by_cases h1 : b = d
    · rw [h1, upd_same, upd_ne ndD, hdH]
    · by_cases h2 : b = Dl
      · rw [h2, upd_ne (fun z => ndD z.symm), upd_same, upd_same]
      · rw [upd_ne h1, upd_ne h2, upd_ne h1, upd_ne h2]
  rw [eH]
  have st5 : Stp c.T S0 F2 H4 F2 (upd H4 Dl (.lst (ns.map V.str))) := .mut k4 hDl4
  have h5 : upd H4 Dl (.lst (ns.map V.str)) Dl = some (.lst (ns.map V.str)) := upd_same
  generalize upd H4 Dl (.lst (ns.map V.str)) = H5 at *
  refine ⟨st5.tab tb4, fun H6 e6 tb6 => ?_⟩
  have st6 : Stp c.T S0 F2 H5 F2 H6 := .extN st5.kn e6 fun _ => tb6
  refine ⟨Dl, ns.map fun X => (.str X, .int (ν X : Int)), rfl, ?_, ?_, ?_, ?_, ?_, fun p hp => ?_⟩
  · rw [List.map_map]
    exact SqL.of (e6 _ _ h5 (nt_lst _))
  · intro b hb
    obtain ⟨X, hX, rfl⟩ := List.mem_map.mp hb
    exact ⟨d, nkv ν ns, X, (ν X : Int), rfl, (st6.kn _ _ hd2).1, rfl, nkv_val hX, rfl⟩
  · rw [List.map_map]
    exact PySem.W.AllAlike.of (enc := fun X : Str => PyData.int (ν X : Int)) fun b b' => by simp only [PySem.W.alike]
  · rw [List.map_map]
    exact PySem.W.Sortable.others (enc := fun X : Str => PyData.int (ν X : Int)) fun b => ⟨(fun z => by cases z), (fun xs z => by cases z)⟩
  · intro b hb
    obtain ⟨X, hX, rfl⟩ := List.mem_map.mp hb
    show PyData.depth (.int _) ≤ 1
    exact Nat.zero_le _
  have e7 : ((ns.map fun X => (V.str X, PyData.int (ν X : Int))).mergeSort (PySem.W.dataLe false (·.2))).map (·.1) = (byN ν ns).map V.str := by
    unfold byN
    rw [← List.map_mergeSort (f := fun X : Str => (V.str X, PyData.int (ν X : Int))) (r := fun a b => decide ((ν a : Int) ≤ (ν b : Int))), List.map_map]
    · rfl
    · intro x _ y _
      have h := congrFun (congrFun (PySem.W.dataLe_int (fun X : Str => (ν X : Int))) x) y
      show _ = PySem.W.dataLe false (fun X : Str => PyData.int (ν X : Int)) x y
      rw [h]
  rw [e7]
  have st7 : Stp c.T S0 F2 H6 (upd F2 p (.lst ((byN ν ns).map V.str))) (upd H6 p (.lst ((byN ν ns).map V.str))) := .data st6.kn hp (nt_lst _)
  have h7 : upd F2 p (.lst ((byN ν ns).map V.str)) p = some (.lst ((byN ν ns).map V.str)) := upd_same
  have s47 := (st5.trans st6).trans st7
  obtain ⟨f7, g7⟩ := s47.mu fde hde4 (nt_dK _) (fun h => h)
  generalize upd F2 p (.lst ((byN ν ns).map V.str)) = F7 at *
  generalize upd H6 p (.lst ((byN ν ns).map V.str)) = H7 at *
  refine ⟨p, rfl, ⟨_, SqL.of (st7.kn _ _ h7).1⟩, ?_⟩
  have k7 := st7.kn
  have s27 := st3.trans (st4.trans s47)
  have hd7 := s27.sub _ _ hd2
  have G7 := G2.up s27.sub
  have lso : (byN ν ns).length ≤ 5 := by rw [byN_perm.length_eq]; exact G.gg.le
  have hlen1 : ∀ Y ∈ ns, (lst R ν [Y]).length ≤ 1024 := fun Y hY => by
    rw [G.gg.lst_len (fun Z hZ => by rw [List.mem_singleton.mp hZ]; exact hY)]
    exact G.gg.nus_le (row := [Y]) (fun Z hZ => by rw [List.mem_singleton.mp hZ]; exact hY)
  have hlenr : ∀ r : List Str, (∀ Y ∈ r, Y ∈ ns) → (lst R ν r).length ≤ 1024 * r.length := fun r hr => by
    rw [G.gg.lst_len hr]
    exact G.gg.nus_le hr
  -- ''.join([ends[one] for one in more])
  have joins : ∀ {Hx : Hp} {kvs : List (Key × V)} {r : List Str}, (∀ Y ∈ r, Y ∈ ns) → r.length ≤ 100 → (∀ Y ∈ r, valV kvs (.inr Y : Key) = some (.str (wrd (lst R ν [Y])))) → Txt.join "" ((r.map fun Y => lst R ν [Y]).map wrd) = wrd (lst R ν r) ∧ (((r.map fun Y => lst R ν [Y]).map wrd).map (·.length)).sum + ((r.map fun Y => lst R ν [Y]).map wrd).length * ("" : Str).length ≤ 16777216 := fun {Hx kvs r} hr hl' _ => by
    constructor
    · rw [join_wrd, ← G.gg.lst_flat r hr]
    · rw [len_sum, ← G.gg.lst_flat r hr]
      have := hlenr r hr
      show _ + _ * 0 ≤ _
      omega
  refine for_it (walk_list (K := K) (a := p) (xs := (byN ν ns).map V.str)) (fun i σ H' => ∃ (F' : Hp) (kvs : List (Key × V)) (x4 x5 x6 x7 x8 : Option V), Stp c.T (fun b => b = de) F7 H7 F' H' ∧ F' de = none ∧ H' de = some (.dK kvs) ∧ kvs.length ≤ i ∧ (∀ Y ∈ (byN ν ns).take i, valV kvs (.inr Y : Key) = some (.str (wrd (lst R ν [Y])))) ∧ σ = [some (.ref g), some (.ref a), some (.ref d), some (.ref de), x4, x5, x6, x7, x8]) ?_ ?_ ?_ ?_
  · exact ⟨F7, [], _, _, _, _, _, .refl k7, f7, g7, Nat.le_refl _, fun _ h => (nomatch h), rfl⟩
  · rintro i σ H' _ ⟨F', kvs, x4, x5, x6, x7, x8, st, _⟩
    exact SqL.of (st.kn _ _ (st.sub _ _ h7)).1
  · rintro i x σ H8 Hq hi ⟨F8, kvs, x4, x5, x6, x7, x8, st8, f8, g8, hkl, hval, rfl⟩ ⟨rfl, hx⟩
    rw [List.getElem?_map] at hx
    obtain ⟨X, hX, rfl⟩ := Option.map_eq_some_iff.mp hx
    have hXs : X ∈ byN ν ns := List.mem_of_getElem? hX
    have hXn : X ∈ ns := byN_perm.subset hXs
    refine ⟨Nat.zero_le _, fun Ls hLs => ?_⟩
    have st9 : Stp c.T S0 F8 Hq F8 (upd Hq Ls (.lst [])) := .mut st8.kn hLs
    have fLs : F8 Ls = none := st8.kn.off hLs
    have gLs : upd Hq Ls (.lst []) Ls = some (.lst []) := upd_same
    obtain ⟨f9, g9⟩ := st9.mu f8 g8 (nt_dK _) (fun h => h)
    have nLs : de ≠ Ls := fun z => by rw [z, hLs] at g8; cases g8
    generalize upd Hq Ls (.lst []) = H9 at *
    have hd9 := st8.sub _ _ hd7
    refine ⟨_, rfl, _, rfl, _, rfl, F8, g, ns, R, ν, sg, d, X, rfl, st9.kn, G7.up st8.sub, hd9, hXn, fun F10' H10 e us st10' he0 hfe hee pr10 => ⟨e, rfl, ⟨_, SqL.of hee⟩, ?_⟩⟩
    have st10 : Stp c.T S0 F8 H9 (upd F10' e (.lst us)) H10 := st10'.freeze he0 hee (nt_lst _)
    have pr : Paired (ruleP (upd F10' e (.lst us))) us ((R X).filter fun p => decide (ν X = 1 + nus ν p.2)) := paired_up (same_upd hfe) pr10
    have he10 : upd F10' e (.lst us) e = some (.lst us) := upd_same
    generalize upd F10' e (.lst us) = F10 at *
    obtain ⟨rs, hrs⟩ : ∃ rs, rs = (R X).filter fun p => decide (ν X = 1 + nus ν p.2) := ⟨_, rfl⟩
    rw [← hrs] at pr
    have lus := Paired.len pr
    have lrs : rs.length ≤ 4 := by
      rw [hrs]
      exact Nat.le_trans (List.length_filter_le _ _) (G.gg.le4 X hXn)
    have hrm : ∀ p ∈ rs, p ∈ R X ∧ ν X = 1 + nus ν p.2 := fun p hp => by
      rw [hrs] at hp
      obtain ⟨h1, h2⟩ := List.mem_filter.mp hp
      exact ⟨h1, of_decide_eq_true h2⟩
    obtain ⟨fL10, gL10⟩ := st10.mu fLs gLs (nt_lst _) (fun h => h)
    obtain ⟨f10, g10⟩ := st10.mu f9 g9 (nt_dK _) (fun h => h)
    have k10 := st10.kn
    have lesser : ∀ p ∈ rs, ∀ Y ∈ p.2, valV kvs (.inr Y : Key) = some (.str (wrd (lst R ν [Y]))) := fun p hp Y hY => by
      obtain ⟨h1, h2⟩ := hrm p hp
      have hYn := (G.gg.cl X hXn p h1).2.1 Y hY
      have : ν Y ≤ nus ν p.2 := le_sum_of_mem (List.mem_map.mpr ⟨Y, hY, rfl⟩)
      exact hval Y (ahead byN_sorted hX (byN_perm.symm.subset hYn) (by omega))
    refine for_it (walk_list (K := K) (a := e) (xs := us)) (fun j σ H' => ∃ (F' : Hp) (x6 x7 x8 : Option V), Stp c.T (fun b => b = Ls) F10 H10 F' H' ∧ F' Ls = none ∧ H' Ls = some (.lst (((rs.take j).map fun p => wrd (p.1 :: lst R ν p.2)).map V.str)) ∧ σ = [some (.ref g), some (.ref a), some (.ref d), some (.ref de), some (.str X), some (.ref Ls), x6, x7, x8]) ?_ ?_ ?_ ?_
    · exact ⟨F10, _, _, _, .refl k10, fL10, gL10, rfl⟩
    · rintro j σ H' _ ⟨F', x6, x7, x8, st, _⟩
      exact SqL.of (st.kn _ _ (st.sub _ _ he10)).1
    · rintro j x σ H11 Hr hj ⟨F11, x6, x7, x8, st11, f11, g11, rfl⟩ ⟨rfl, hx11⟩
      obtain ⟨⟨l, more⟩, hy, t, u, w, rfl, ht, hu, b, rfl, hb⟩ := Paired.at pr hx11
      obtain rfl : u = V.str ⟨#[l]⟩ := hu
      have hb : F10 b = some (.lst (more.map V.str)) := hb
      have k11 := st11.kn
      have hpm := List.mem_of_getElem? hy
      obtain ⟨hR, hnu⟩ := hrm _ hpm
      have hcl := G.gg.cl X hXn _ hR
      have hml : more.length ≤ 3 := hcl.2.2
      have hmn : ∀ Y ∈ more, Y ∈ ns := hcl.2.1
      have hb11 := (k11 _ _ (st11.sub _ _ hb)).1
      obtain ⟨fd11, gd11⟩ := st11.mu f10 g10 (nt_dK _) nLs
      refine ⟨t, _, rfl, SqT.of (k11 _ _ (st11.sub _ _ ht)).1, rfl, _, _, rfl, _, _, rfl, rfl, ?_⟩
      refine ⟨_, rfl, .inl ⟨rfl, _, SqL.of g11⟩, _, rfl, ⟨_, rfl⟩, _, rfl, b, rfl, ⟨_, SqL.of hb11⟩, fun D2 hD2 => ?_⟩
      have nb : ∀ {b : Addr} {o : HO}, Hr b = some o → b ≠ D2 := fun h => ne_of_none h hD2
      refine lc_it (walk_list (K := K) (a := b) (xs := more.map V.str)) (fun k H' => H' = upd Hr D2 (.lst ((((more.take k).map fun Y => lst R ν [Y]).map wrd).map V.str))) rfl (fun k H' _ e => by rw [e]; exact SqL.of (by rw [upd_ne (nb hb11)]; exact hb11)) ?_ ?_
      · rintro k x H1 H' hk rfl ⟨rfl, hx12⟩
        rw [List.getElem?_map] at hx12
        obtain ⟨Y, hY, rfl⟩ := Option.map_eq_some_iff.mp hx12
        have hv := lesser _ hpm Y (List.mem_of_getElem? hY)
        refine ⟨rfl, ?_⟩
        refine ⟨_, rfl, _, rfl, de, _, rfl, by rw [← hv]; exact DGet.k (k := Sum.inr Y) (by rw [upd_ne (nb gd11)]; exact gd11), _, upd_same, ?_, ?_⟩
        · rw [List.length_map, List.length_map, List.length_map, List.length_take]
          exact szlt (by omega)
        · rw [upd_upd, take_snoc hY, List.map_append, List.map_append, List.map_append]
          rfl
      · rintro H' rfl
        rw [List.length_map, List.take_length]
        obtain ⟨j1, j2⟩ := joins (Hx := Hr) (kvs := kvs) hmn (by omega) (lesser _ hpm)
        refine ⟨_, D2, _, rfl, rfl, .inl (SqL.of upd_same), j2, _, _, rfl, rfl, ?_, ?_⟩
        · rw [j1, wrd_len]
          have := hlenr more hmn
          show 1 + _ ≤ _
          exact szl (by omega)
        rw [j1]
        have st12 : Stp c.T S0 F11 Hr F11 (upd Hr D2 (.lst (((more.map fun Y => lst R ν [Y]).map wrd).map V.str))) := .mut k11 hD2
        obtain ⟨f12, g12⟩ := st12.mu f11 g11 (nt_lst _) (fun h => h)
        generalize upd Hr D2 (.lst (((more.map fun Y => lst R ν [Y]).map wrd).map V.str)) = H12 at *
        refine ⟨Ls, _, _, rfl, rfl, g12, ?_, ?_⟩
        · rw [List.length_map, List.length_map, List.length_take]
          exact szlt (by omega)
        refine ⟨F11, _, _, _, st11.trans ((st12.wide fun b h => h.elim).trans (.set st12.kn f12 g12 (nx_lst _) (nt_lst _) rfl)), f12, ?_, rfl⟩
        rw [upd_same, take_snoc hy, List.map_append, List.map_append]
        rw [show (⟨#[l]⟩ : Str) ++ wrd (lst R ν more) = wrd (l :: lst R ν more) from wrd_app [l] _]
        rfl
    · rintro σ H' ⟨F11, x6, x7, x8, st11, f11, g11, rfl⟩
      rw [lus, List.take_length] at g11
      obtain ⟨p0, hp0, e0, hl0, hmin⟩ := G.gg.lst_one hXn
      have hp0s : p0 ∈ rs := by rw [hrs]; exact List.mem_filter.mpr ⟨hp0, decide_eq_true e0⟩
      obtain ⟨y, ys, hys⟩ : ∃ y ys, (rs.map fun p => wrd (p.1 :: lst R ν p.2)) = y :: ys := by
        cases e : rs.map fun p => wrd (p.1 :: lst R ν p.2) with
        | nil => rw [List.map_eq_nil_iff] at e; rw [e] at hp0s; cases hp0s
        | cons y ys => exact ⟨y, ys, rfl⟩
      rw [hys] at g11
      have hm : PySem.W.minOf y ys = wrd (lst R ν [X]) := by
        refine minOf_is ys y ?_ fun z hz => ?_
        · rw [← hys, hl0]
          exact List.mem_map.mpr ⟨p0, hp0s, rfl⟩
        · rw [← hys] at hz
          obtain ⟨p', hp', rfl⟩ := List.mem_map.mp hz
          obtain ⟨h1, h2⟩ := hrm p' hp'
          obtain ⟨h3, h4⟩ := hmin p' h1 h2
          by_cases e : p0.1 = p'.1
          · left
            rw [hl0, h4 e]
          · right
            rw [hl0]
            show (p0.1 :: lst R ν p0.2) < (p'.1 :: lst R ν p'.2)
            exact List.Lex.rel (by omega)
      obtain ⟨fd11, gd11⟩ := st11.mu f10 g10 (nt_dK _) nLs
      refine ⟨_, rfl, Ls, y, ys, rfl, SqL.of g11, ?_⟩
      rw [hm]
      refine ⟨_, rfl, _, rfl, de, _, rfl, DPut.k (k := Sum.inr X) gd11 (szlt (by have : i < ((byN ν ns).map V.str).length := hi; rw [List.length_map] at this; omega)), ?_⟩
      have sAll : Stp c.T S0 F8 Hq F11 H' := (((st9.trans st10).wide fun b h => h.elim).trans st11).loc fun b hb => .inr (by rw [show b = Ls from hb]; exact .of hLs)
      refine ⟨F11, putK kvs (.inr X : Key) (.str (wrd (lst R ν [X]))), _, _, _, _, _, st8.trans ((sAll.wide fun b h => h.elim).trans (.set st11.kn fd11 gd11 (nx_dK _) (nt_dK _) rfl)), fd11, upd_same, ?_, ?_, rfl⟩
      · unfold putK
        split
        · rw [List.length_map]; omega
        · rw [List.length_append, List.length_singleton]; omega
      · intro Y hY
        rw [take_snoc hX] at hY
        rw [valV_put]
        by_cases e : Y = X
        · subst e
          rw [if_pos rfl]
        · rw [if_neg (fun z => e (Sum.inr.inj z))]
          rcases List.mem_append.mp hY with h | h
          · exact hval Y h
          · exact absurd (List.mem_singleton.mp h) e
  · rintro σ H' ⟨F8, kvs, x4, x5, x6, x7, x8, st8, f8, g8, hkl, hval, rfl⟩
    rw [List.length_map, List.take_length] at hval
    have ha8 := st8.sub _ _ (s27.sub _ _ ha2)
    have haH := (st8.kn _ _ ha8).1
    refine ⟨⟨_, rfl⟩, _, rfl, a, rfl, ⟨_, SqL.of haH⟩, fun D2 hD2 => ?_⟩
    have nb : ∀ {b : Addr} {o : HO}, H' b = some o → b ≠ D2 := fun h => ne_of_none h hD2
    refine lc_it (walk_list (K := K) (a := a) (xs := row.map V.str)) (fun k H1 => H1 = upd H' D2 (.lst ((((row.take k).map fun Y => lst R ν [Y]).map wrd).map V.str))) rfl (fun k H1 _ e => by rw [e]; exact SqL.of (by rw [upd_ne (nb haH)]; exact haH)) ?_ ?_
    · rintro k x H1 H2' hk rfl ⟨rfl, hx12⟩
      rw [List.getElem?_map] at hx12
      obtain ⟨Y, hY, rfl⟩ := Option.map_eq_some_iff.mp hx12
      have hv := hval Y (byN_perm.symm.subset (hsub Y (List.mem_of_getElem? hY)))
      refine ⟨rfl, ?_⟩
      refine ⟨_, rfl, _, rfl, de, _, rfl, by rw [← hv]; exact DGet.k (k := Sum.inr Y) (by rw [upd_ne (nb g8)]; exact g8), _, upd_same, ?_, ?_⟩
      · rw [List.length_map, List.length_map, List.length_map, List.length_take]
        exact szlt (by omega)
      · rw [upd_upd, take_snoc hY, List.map_append, List.map_append, List.map_append]
        rfl
    · rintro H1 rfl
      rw [List.length_map, List.take_length]
      obtain ⟨j1, j2⟩ := joins (Hx := H') (kvs := kvs) hsub hl (fun Y hY => hval Y (byN_perm.symm.subset (hsub Y hY)))
      refine ⟨_, D2, _, rfl, rfl, .inl (SqL.of upd_same), j2, ?_⟩
      rw [j1]
      have sAll : Stp c.T S0 F2 H3 F8 H' := ((st4.wide fun b h => h.elim).trans ((s47.wide fun b h => h.elim).trans st8)).loc fun b hb => .inr (by rw [show b = de from hb]; exact .of hde)
      exact q F8 _ ((st2.trans st3).trans (sAll.trans (.mut sAll.kn hD2)))
end
end K60
namespace K60
open PySem PySem.Spec PyProof.Rows L2 LamX
def sml : Str := "abcdefghijklmnopqrstuvwxyz"
def lowL (l : Nat) : Prop := 97 ≤ l ∧ l ≤ 122
theorem mem_sml {l : Nat} (h : lowL l) : l ∈ sml.cps.toList := by
  have e : sml.cps.toList = (List.range 26).map (97 + ·) := by decide +kernel
  rw [e]
  exact List.mem_map.mpr ⟨l - 97, List.mem_range.mpr (by have := h.1; have := h.2; omega), by have := h.1; omega⟩
def lowS (z : Str) : Prop := ∀ l ∈ z.cps.toList, lowL l
structure nmOk (z : Str) : Prop where
  low : lowS z
  l1 : 1 ≤ z.length
  l8 : z.length ≤ 8
  ne : z ≠ "names"
theorem nmOk.sok {z : Str} (h : nmOk z) : sok z := by
  show z.cps.all (· < 0x110000) = true
  rw [Array.all_eq_true']
  intro x hx
  have := (h.low x (by simpa using hx)).2
  exact decide_eq_true (by omega)
def sp_is_small (c : Cfg) : Sp := fun vs H Q _ => ∃ z : Str, vs = [.str z] ∧ lowS z ∧ z.length ≤ 100 ∧ ∀ H', Same H H' → Q (.bl true) H'
def sp_is_name (c : Cfg) : Sp := fun vs H Q _ => ∃ z : Str, vs = [.str z] ∧ nmOk z ∧ ∀ H', Same H H' → Q (.bl true) H'
def sp_is_letter (c : Cfg) : Sp := fun vs H Q _ => ∃ l : Nat, vs = [.str ⟨#[l]⟩] ∧ lowL l ∧ ∀ H', Same H H' → Q (.bl true) H'
def sp_are_names (c : Cfg) : Sp := fun vs H Q _ => ∃ (a : Addr) (ns : List Str), vs = [.ref a] ∧ H a = some (.lst (ns.map V.str)) ∧ ns.Nodup ∧ 1 ≤ ns.length ∧ ns.length ≤ 6 ∧ (∀ X ∈ ns, nmOk X) ∧ ∀ H', Same H H' → Q (.bl true) H'
theorem all_true {α : Type} (l : List α) : ((l.map fun _ => true).all id) = true := by
  rw [List.all_eq_true]
  intro x hx
  obtain ⟨_, _, rfl⟩ := List.mem_map.mp hx
  rfl
section
variable {c : Cfg} {K : PySem.W.Frag} {mg : Str → Option Value} {base : Heap}
theorem sc_is_small : FnScope ["text", "sign"] ["text"] (defScope s_is_small) := ⟨rfl, rfl, rfl, by decide +kernel, rfl, by decide +kernel, by decide +kernel⟩
theorem ok_is_small (D : Dfn K mg "is_small" s_is_small (["text"])) (B : Blt mg) {tk : Tok} (c_SMALL : mg "SMALL" = some (.str sml tk)) : Gd c.P c.w K mg base 1 "is_small" (["text"]) (sp_is_small c) := by
  refine D.ok sc_is_small (fun vs H Q E h => ?_) (fun fa cdv A outer s H vs Q E hr h => ?_)
  · obtain ⟨z, rfl, _⟩ := h
    rfl
  obtain ⟨z, rfl, hz, hl, q⟩ := h
  refine ⟨_, (pss_one (ps_ret (pe_callB (cr_all rfl) (by rfl) B.all (by decide +kernel) (pa_cons (pe_lc (own := [("sign", 1)]) (wi := (iStr (tVar 0))) (g := (gName 1)) (tt := tYes) (te := (tOp rInSgn (tVar 1) (tC (.str sml)))) rfl sc_is_small.nd (pi_str (pv 0)) (blkOk_by (own := [("sign", 1)]) (N := ["text", "sign"]) (sc := defScope s_is_small) (by decide +kernel)) (fun _ _ _ _ _ => (pg_name (i := 1) sc_is_small.nd rfl (Or.inl rfl))) (fun _ _ _ _ _ => pts_nil) (fun _ _ _ _ _ => (pe_cmpR op_in_sign (pv 1) (pe_glob (v := .str sml) (by rfl) c_SMALL ⟨_, rfl⟩) rfl))) pa_nil)))), ?_⟩
  refine ⟨_, rfl, _, rfl, fun D hD => ?_⟩
  have hsz : z.cps.size ≤ 100 := hl
  refine lc_it (walk_str (z := z)) (fun i H' => H' = upd H D (.lst (((List.range i).map fun _ => true).map V.bl))) rfl (fun _ _ _ _ => trivial) ?_ ?_
  · rintro i x H1 H' hi rfl ⟨rfl, l, hl', rfl⟩
    refine ⟨rfl, ?_⟩
    refine ⟨_, rfl, l, sml, rfl, rfl, _, upd_same, ?_, ?_⟩
    · rw [List.length_map, List.length_map, List.length_range]
      exact szlt (by omega)
    · have hm : l ∈ z.cps.toList := by
        obtain ⟨h1, h2⟩ := Array.getElem?_eq_some_iff.mp hl'
        rw [← h2]
        simp
      rw [decide_eq_true (mem_sml (hz l hm)), upd_upd, List.range_succ, List.map_append, List.map_append]
      rfl
  · rintro H' rfl
    refine ⟨D, _, rfl, SqL.of upd_same, ?_⟩
    rw [all_true]
    exact q _ (same_upd hD)
theorem sc_is_name : FnScope ["text"] ["text"] (defScope s_is_name) := ⟨rfl, rfl, rfl, by decide +kernel, rfl, by decide +kernel, by decide +kernel⟩
theorem ok_is_name (D : Dfn K mg "is_name" s_is_name (["text"])) (B : Blt mg) (G_is_small : Gd c.P c.w K mg base 1 "is_small" (["text"]) (sp_is_small c)) : Gd c.P c.w K mg base 2 "is_name" (["text"]) (sp_is_name c) := by
  refine D.ok sc_is_name (fun vs H Q E h => ?_) (fun fa cdv A outer s H vs Q E hr h => ?_)
  · obtain ⟨z, rfl, _⟩ := h
    rfl
  obtain ⟨z, rfl, hz, q⟩ := h
  refine ⟨_, (pss_one (ps_ret (pe_and (pe_chain op_le op_le pe_int (pe_callB call_len_str (by rfl) B.len PySem.boot_len (pa_cons (pv 0) pa_nil)) pe_int) (pe_and (pe_g G_is_small hr (by rfl) (pa_cons (pv 0) pa_nil)) (pe_one (pe_cmpR op_ne (pv 0) pe_str (nomark _))))))), ?_⟩
  have h1 := hz.l1
  have h8 := hz.l8
  refine ⟨_, rfl, _, rfl, szl (by omega), _, _, rfl, rfl, _, rfl, ?_⟩
  rw [decide_eq_true (show (1 : Int) ≤ (z.length : Int) by omega)]
  refine ⟨_, _, rfl, rfl, _, rfl, ?_⟩
  rw [decide_eq_true (show (z.length : Int) ≤ (8 : Int) by omega)]
  refine ⟨_, rfl, z, rfl, hz.low, by omega, fun H' e => ⟨_, rfl, ?_⟩⟩
  refine ⟨_, rfl, rfl, ?_⟩
  rw [dstr_f hz.ne]
  exact q H' e
theorem sc_is_letter : FnScope ["text"] ["text"] (defScope s_is_letter) := ⟨rfl, rfl, rfl, by decide +kernel, rfl, by decide +kernel, by decide +kernel⟩
theorem ok_is_letter (D : Dfn K mg "is_letter" s_is_letter (["text"])) (B : Blt mg) (G_is_small : Gd c.P c.w K mg base 1 "is_small" (["text"]) (sp_is_small c)) : Gd c.P c.w K mg base 2 "is_letter" (["text"]) (sp_is_letter c) := by
  refine D.ok sc_is_letter (fun vs H Q E h => ?_) (fun fa cdv A outer s H vs Q E hr h => ?_)
  · obtain ⟨l, rfl, _⟩ := h
    rfl
  obtain ⟨l, rfl, hl, q⟩ := h
  refine ⟨_, (pss_one (ps_ret (pe_and (pe_cmpR op_eq (pe_callB call_len_str (by rfl) B.len PySem.boot_len (pa_cons (pv 0) pa_nil)) pe_int (nomark _)) (pe_one (pe_g G_is_small hr (by rfl) (pa_cons (pv 0) pa_nil)))))), ?_⟩
  refine ⟨_, rfl, _, rfl, by show 1 ≤ sizeLine; decide, rfl, _, rfl, ?_⟩
  rw [dint_t (by rfl)]
  refine ⟨_, rfl, _, rfl, fun x hx => ?_, by show 1 ≤ 100; decide, fun H' e => q H' e⟩
  have : x = l := by simpa using hx
  rw [this]
  exact hl
theorem sc_are_names : FnScope ["names", "name"] ["names"] (defScope s_are_names) := ⟨rfl, rfl, rfl, by decide +kernel, rfl, by decide +kernel, by decide +kernel⟩
theorem ok_are_names (D : Dfn K mg "are_names" s_are_names (["names"])) (B : Blt mg) {tk : Tok} (c_MOST_NAMES : mg "MOST_NAMES" = some (.int 6 tk)) (G_is_name : Gd c.P c.w K mg base 2 "is_name" (["text"]) (sp_is_name c)) : Gd c.P c.w K mg base 3 "are_names" (["names"]) (sp_are_names c) := by
  refine D.ok sc_are_names (fun vs H Q E h => ?_) (fun fa cdv A outer s H vs Q E hr h => ?_)
  · obtain ⟨a, ns, rfl, _⟩ := h
    rfl
  obtain ⟨a, ns, rfl, ha, nd, h1, h6, hn, q⟩ := h
  refine ⟨_, (pss_one (ps_ret (pe_and (pe_chain op_le op_le pe_int (pe_callB call_len_seq (by rfl) B.len PySem.boot_len (pa_cons (pv 0) pa_nil)) (pe_glob (v := .int 6) (by rfl) c_MOST_NAMES ⟨_, rfl⟩)) (pe_and (pe_cmpR op_eq (pe_lenSetT rfl (by rfl) B.len (by rfl) B.set_ (pv 0)) (pe_callB call_len_seq (by rfl) B.len PySem.boot_len (pa_cons (pv 0) pa_nil)) (nomark _)) (pe_one (pe_callB (cr_all rfl) (by rfl) B.all (by decide +kernel) (pa_cons (pe_lc (own := [("name", 1)]) (wi := (iList K (tVar 0))) (g := (gName 1)) (tt := tYes) (te := (tG (sp_is_name c) (tCons (tVar 1) tNil))) rfl sc_are_names.nd (pi_list (pv 0)) (blkOk_by (own := [("name", 1)]) (N := ["names", "name"]) (sc := defScope s_are_names) (by decide +kernel)) (fun _ _ _ _ _ => (pg_name (i := 1) sc_are_names.nd rfl (Or.inl rfl))) (fun _ _ _ _ _ => pts_nil) (fun _ _ _ _ _ => (pe_g G_is_name hr (by rfl) (pa_cons (pv 1) pa_nil)))) pa_nil))))))), ?_⟩
  refine ⟨_, rfl, a, _, rfl, .inl (SqL.of ha), _, _, rfl, rfl, _, rfl, ?_⟩
  rw [List.length_map, decide_eq_true (show (1 : Int) ≤ (ns.length : Int) by omega)]
  refine ⟨_, _, rfl, rfl, _, rfl, ?_⟩
  rw [decide_eq_true (show (ns.length : Int) ≤ (6 : Int) by omega)]
  refine ⟨_, rfl, a, ns, rfl, SqL.of ha, nd, by omega, _, rfl, a, _, rfl, .inl (SqL.of ha), rfl, _, rfl, ?_⟩
  rw [List.length_map, dint_t rfl]
  refine ⟨_, rfl, a, rfl, ⟨_, SqL.of ha⟩, fun D hD => ?_⟩
  refine lc_it (walk_list (K := K) (a := a) (xs := ns.map V.str)) (fun i H' => Same (upd H D (.lst [])) (upd H' D (.lst [])) ∧ H' D = some (.lst (((List.range i).map fun _ => true).map V.bl))) ⟨fun b o h => by rw [upd_upd]; exact h, upd_same⟩ (fun i H' _ e => SqL.of (by
    have := e.1 a _ (by rw [upd_ne (ne_of_none ha hD)]; exact ha)
    rw [upd_ne (ne_of_none ha hD)] at this
    exact this)) ?_ ?_
  · rintro i x H1 H' hi ⟨e1, e2⟩ ⟨rfl, hx⟩
    rw [List.getElem?_map] at hx
    obtain ⟨X, hX, rfl⟩ := Option.map_eq_some_iff.mp hx
    have hil : i < ns.length := (List.getElem?_eq_some_iff.mp hX).1
    refine ⟨rfl, ?_⟩
    refine ⟨_, rfl, X, rfl, hn X (List.mem_of_getElem? hX), fun H2 e => ⟨_, e _ _ e2, ?_, ?_, ?_⟩⟩
    · rw [List.length_map, List.length_map, List.length_range]
      exact szlt (by omega)
    · intro b o hb
      have h3 := e1 b o hb
      rw [upd_upd]
      by_cases z : b = D
      · rw [z, upd_same] at h3 ⊢; exact h3
      · rw [upd_ne z] at h3 ⊢; exact e _ _ h3
    · rw [upd_same, List.range_succ, List.map_append, List.map_append]
      rfl
  · rintro H' ⟨e1, e2⟩
    refine ⟨D, _, rfl, SqL.of e2, ?_⟩
    rw [all_true]
    refine q H' fun b o hb => ?_
    have nb : b ≠ D := ne_of_none hb hD
    have := e1 b o (by rw [upd_ne nb]; exact hb)
    rw [upd_ne nb] at this
    exact this
end
end K60
namespace K60
open PySem PySem.Spec PyProof.Rows L2 LamX
def pdR (q : Nat × List Str) : PyData := .tuple [.str ⟨#[q.1]⟩, pdS q.2]
theorem lowL_sok {l : Nat} (h : lowL l) : sok ⟨#[l]⟩ := by
  have : sok (wrd [l]) := sok_wrd fun x hx => by rw [List.mem_singleton.mp hx]; have := h.2; omega
  exact this
section
variable {K : PySem.W.Frag} {F H : Hp}
theorem dp_rule (k : Kn F H) {v : V} {q : Nat × List Str} (h : ruleP F v q) : Dp K H v (pdR q) := by
  obtain ⟨t, u, w, rfl, ht, hu, b, rfl, hb⟩ := h
  obtain rfl : u = V.str ⟨#[q.1]⟩ := hu
  exact .tup (SqT.of (k _ _ ht).1) (.cons (.str _) (.cons (dp_s (SqL.of (k _ _ hb).1)) .nil))
theorem dp_rules (k : Kn F H) : ∀ {us : List V} {rs : List (Nat × List Str)}, Paired (ruleP F) us rs → DpAll K H us (rs.map pdR)
  | _, _, .nil => .nil
  | _, _, .cons h t => .cons (dp_rule k h) (dp_rules k t)
def rOk (q : Nat × List Str) : Prop := lowL q.1 ∧ ∀ Y ∈ q.2, sok Y
theorem lay_rule {q : Nat × List Str} (h : rOk q) : (pdR q).canLay0 = true := by
  show (PyData.canLay0 (.str ⟨#[q.1]⟩) && (PyData.canLayAll0 (q.2.map PyData.str) && true)) = true
  rw [lay_s h.2, Bool.and_true, Bool.and_true]
  exact lowL_sok h.1
theorem dep_rule (q : Nat × List Str) : (pdR q).depth = 2 := by
  show max (PyData.depth (.str _)) (max (PyData.depthAll (q.2.map PyData.str) + 1) (PyData.depthAll [])) + 1 = 2
  rw [dep_s]
  rfl
theorem shp_rule {q : Nat × List Str} (h : rOk q) : SeqAt.shaped (pdR q) = true := by
  unfold SeqAt.shaped
  rw [lay_rule h, dep_rule]
  rfl
theorem lay_rules : ∀ {rs : List (Nat × List Str)}, (∀ q ∈ rs, rOk q) → PyData.canLayAll0 (rs.map pdR) = true
  | [], _ => rfl
  | q :: r, h => by
    show ((pdR q).canLay0 && PyData.canLayAll0 (r.map pdR)) = true
    rw [lay_rule (h q (List.mem_cons_self ..)), lay_rules fun p hp => h p (List.mem_cons_of_mem _ hp)]
    rfl
theorem dep_rules : ∀ rs : List (Nat × List Str), PyData.depthAll (rs.map pdR) ≤ 2
  | [] => Nat.zero_le _
  | q :: r => by
    show max (pdR q).depth (PyData.depthAll (r.map pdR)) ≤ 2
    rw [dep_rule]
    have := dep_rules r
    omega
theorem shp_rules {rs : List (Nat × List Str)} (h : ∀ q ∈ rs, rOk q) : SeqAt.shaped (.list (rs.map pdR)) = true := by
  unfold SeqAt.shaped
  rw [show (PyData.list (rs.map pdR)).canLay0 = PyData.canLayAll0 (rs.map pdR) from rfl, lay_rules h, show (PyData.list (rs.map pdR)).depth = PyData.depthAll (rs.map pdR) + 1 from rfl]
  have := dep_rules rs
  exact decide_eq_true (by omega)
theorem any_rules {l : Nat} {row : List Str} : ∀ {rs : List (Nat × List Str)}, (∀ q ∈ rs, q.1 ≠ l) → ((rs.map pdR).any fun z => PyData.eqv z (pdR (l, row))) = false
  | [], _ => rfl
  | q :: r, h => by
    rw [List.map_cons, List.any_cons, any_rules fun p hp => h p (List.mem_cons_of_mem _ hp), Bool.or_false]
    show ((⟨#[q.1]⟩ : Str) == ⟨#[l]⟩ && _) = false
    rw [str_beq, decide_eq_false (fun e => h q (List.mem_cons_self ..) (by injection e with e; simpa using e)), Bool.false_and]
end
def sp_lets_by (c : Cfg) : Sp := fun vs H Q _ => ∃ (F : Hp) (p t dx kn st od : Addr) (kvs : List (Key × V)) (X : Str) (l : Nat) (rb : Addr) (row : List Str) (Lx : Addr) (us : List V) (rs : List (Nat × List Str)), vs = [.ref p, .ref t] ∧ Kn F H ∧ H p = some (.ins c.CG dx (gfl kn st od)) ∧ H st = some (.dK kvs) ∧ F t = some (.tup [.str X, .str ⟨#[l]⟩, .ref rb]) ∧ F rb = some (.lst (row.map V.str)) ∧ valV kvs (.inr X : Key) = some (.ref Lx) ∧ H Lx = some (.lst us) ∧ Paired (ruleP F) us rs ∧
  rs.length < 4 ∧ (∀ q ∈ rs, q.1 ≠ l) ∧ (∀ q ∈ rs, rOk q) ∧ rOk (l, row) ∧ row.length ≤ 3 ∧ (∀ Y ∈ row, (valV kvs (.inr Y : Key)).isSome = true) ∧ ∀ H', Same H H' → Q (.bl true) H'
section
variable {c : Cfg} {K : PySem.W.Frag} {mg : Str → Option Value} {base : Heap}
theorem sc_Grammar_lets_by : FnScope ["self", "rule", "name", "letter", "row", "one"] ["self", "rule"] (defScope s_Grammar_lets_by) := ⟨rfl, rfl, rfl, by decide +kernel, rfl, by decide +kernel, by decide +kernel⟩
theorem ok_lets_by (D : Dfm K c.CG "lets_by" "Grammar.lets_by" s_Grammar_lets_by (["self", "rule"])) (Gr : GrC K c.CG) (B : Blt mg) {tk1 tk2 : Tok} (c_MOST_ROW : mg "MOST_ROW" = some (.int 3 tk1)) (c_MOST_RULES : mg "MOST_RULES" = some (.int 4 tk2)) (G_is_letter : Gd c.P c.w K mg base 2 "is_letter" (["text"]) (sp_is_letter c)) :
    Gm c.P c.w K mg base 3 c.CG "lets_by" (["self", "rule"]) (sp_lets_by c) := by
  refine D.ok sc_Grammar_lets_by (fun vs H Q E h => ?_) (fun fa cdv A outer s H vs Q E hr h => ?_)
  · obtain ⟨F, p, t, dx, kn, st, od, kvs, X, l, rb, row, Lx, us, rs, rfl, _⟩ := h
    rfl
  obtain ⟨F, p, t, dx, kn1, st, od, kvs, X, l, rb, row, Lx, us, rs, rfl, kn, hp, hst, ht, hrb, hX, hL, pr, hlt, hno, hrs, hl, hrow, hin, q⟩ := h
  refine ⟨_, (pss_cons (ps_asg (pv 1) (pg_tup rfl (pgs_cons (pg_name (i := 2) sc_Grammar_lets_by.nd rfl (Or.inl rfl)) (pgs_cons (pg_name (i := 3) sc_Grammar_lets_by.nd rfl (Or.inl rfl)) (pgs_cons (pg_name (i := 4) sc_Grammar_lets_by.nd rfl (Or.inl rfl)) pgs_nil))))) (pss_cons (ps_if (PW.pt (pw_or (pt_cmp (pc_dnotin (hu_of hr) (pv 2) (pe_fld (pv 0) rfl))) (pw_or (pt_not (pt_val (pe_g G_is_letter hr (by rfl) (pa_cons (pv 3) pa_nil)))) (pw_or1 (pt_cmpR op_gt (pe_callB call_len_seq (by rfl) B.len PySem.boot_len (pa_cons (pv 4) pa_nil)) (pe_glob (v := .int 3) (by rfl) c_MOST_ROW ⟨_, rfl⟩) (nomark _)))))) (pss_one (ps_ret pe_bl)) pss_nil) (pss_cons (ps_if (pt_not (pt_val (pe_callB (cr_all rfl) (by rfl) B.all (by decide +kernel) (pa_cons (pe_lc (own := [("one", 5)]) (wi := (iList K (tVar 4))) (g := (gName 5)) (tt := tYes) (te := (tDIn (tVar 5) (tFld K (tVar 0) "stored"))) rfl sc_Grammar_lets_by.nd (pi_list (pv 4)) (blkOk_by (own := [("one", 5)]) (N := ["self", "rule", "name", "letter", "row", "one"]) (sc := defScope s_Grammar_lets_by) (by decide +kernel)) (fun _ _ _ _ _ => (pg_name (i := 5) sc_Grammar_lets_by.nd rfl (Or.inl rfl))) (fun _ _ _ _ _ => pts_nil) (fun _ _ _ _ _ => (pe_cmp (pc_din (hu_of hr) (pv 5) (pe_fld (pv 0) rfl))))) pa_nil)))) (pss_one (ps_ret pe_bl)) pss_nil) (pss_one (ps_ret (pe_and (pe_cmpR op_lt (pe_callB call_len_seq (by rfl) B.len PySem.boot_len (pa_cons (pe_dget (hu_of hr) (pe_fld (pv 0) rfl) (pv 2) (fun _ _ => rfl)) pa_nil)) (pe_glob (v := .int 4) (by rfl) c_MOST_RULES ⟨_, rfl⟩) (nomark _)) (pe_one (pe_cmpR (op_notInD (hu65 hr)) (pe_tup (pa_cons (pv 3) (pa_cons (pe_callTy call_list_of (by rfl) B.list (by decide +kernel) (pa_cons (pv 4) pa_nil)) pa_nil))) (pe_dget (hu_of hr) (pe_fld (pv 0) rfl) (pv 2) (fun _ _ => rfl)) rfl)))))))), ?_⟩
  refine ⟨_, rfl, t, _, rfl, SqT.of (kn _ _ ht).1, rfl, _, _, rfl, _, _, rfl, _, _, rfl, rfl, ?_⟩
  refine ⟨_, rfl, _, rfl, p, c.CG, dx, _, _, rfl, hp, Gr.cl, Gr.ns, gfl_stored, st, _, rfl, DGet.k (k := Sum.inr X) hst, _, rfl, ?_⟩
  rw [hX]
  refine ⟨_, rfl, l, rfl, hl.1, fun H1 e1 => ⟨_, rfl, ?_⟩⟩
  have k1 := kn.ext e1
  refine ⟨_, rfl, rb, _, rfl, .inl (SqL.of (k1 _ _ hrb).1), _, _, rfl, rfl, _, rfl, ?_⟩
  rw [List.length_map, decide_eq_false (show ¬ ((3 : Int) < (row.length : Int)) by omega)]
  have hrb1 := (k1 _ _ hrb).1
  refine ⟨_, rfl, rb, rfl, ⟨_, SqL.of hrb1⟩, fun D hD => ?_⟩
  have nD : ∀ {b : Addr} {o : HO}, H1 b = some o → b ≠ D := fun h => ne_of_none h hD
  refine lc_it (walk_list (K := K) (a := rb) (xs := row.map V.str)) (fun i H' => H' = upd H1 D (.lst (((List.range i).map fun _ => true).map V.bl))) rfl (fun i H' _ e => by rw [e]; exact SqL.of (by rw [upd_ne (nD hrb1)]; exact hrb1)) ?_ ?_
  · rintro i x H2 H' hi rfl ⟨rfl, hx⟩
    rw [List.getElem?_map] at hx
    obtain ⟨Y, hY, rfl⟩ := Option.map_eq_some_iff.mp hx
    have hil : i < row.length := (List.getElem?_eq_some_iff.mp hY).1
    refine ⟨rfl, ?_⟩
    refine ⟨_, rfl, _, rfl, p, c.CG, dx, _, _, rfl, by rw [upd_ne (nD (e1 _ _ hp))]; exact e1 _ _ hp, Gr.cl, Gr.ns, gfl_stored, st, _, rfl, DGet.k (k := Sum.inr Y) (by rw [upd_ne (nD (e1 _ _ hst))]; exact e1 _ _ hst), _, upd_same, ?_, ?_⟩
    · rw [List.length_map, List.length_map, List.length_range]
      exact szlt (by omega)
    · rw [hin Y (List.mem_of_getElem? hY), upd_upd, List.range_succ, List.map_append, List.map_append]
      rfl
  · rintro H' rfl
    refine ⟨D, _, rfl, SqL.of upd_same, _, rfl, ?_⟩
    rw [all_true]
    have e2 : Same H (upd H1 D (.lst (((List.range (row.map V.str).length).map fun _ => true).map V.bl))) := e1.trans (same_upd hD)
    generalize upd H1 D (.lst (((List.range (row.map V.str).length).map fun _ => true).map V.bl)) = H2 at *
    have k2 := kn.ext e2
    refine ⟨_, rfl, p, c.CG, dx, _, _, rfl, e2 _ _ hp, Gr.cl, Gr.ns, gfl_stored, _, rfl, st, .ref Lx, rfl, by rw [← hX]; exact DGet.k (k := Sum.inr X) (e2 _ _ hst), Lx, _, rfl, .inl (SqL.of (e2 _ _ hL)), _, _, rfl, rfl, _, rfl, ?_⟩
    rw [Paired.len pr, decide_eq_true (show (rs.length : Int) < 4 by omega)]
    refine ⟨_, rfl, _, rfl, rb, _, rfl, .inl (SqL.of (k2 _ _ hrb).1), fun l3 hl3 => ⟨by show 2 ≤ sizeLine; decide, fun t3 ht3 => ?_⟩⟩
    have e3 : Same H2 (upd H2 l3 (.lst (row.map V.str))) := same_upd hl3
    have h3 : upd H2 l3 (.lst (row.map V.str)) l3 = some (.lst (row.map V.str)) := upd_same
    generalize upd H2 l3 (.lst (row.map V.str)) = H3 at *
    have e4 : Same H3 (upd H3 t3 (.tup [.str ⟨#[l]⟩, .ref l3])) := same_upd ht3
    have h4 : upd H3 t3 (.tup [.str ⟨#[l]⟩, .ref l3]) t3 = some (.tup [.str ⟨#[l]⟩, .ref l3]) := upd_same
    generalize upd H3 t3 (.tup [.str ⟨#[l]⟩, .ref l3]) = H4 at *
    have e24 := (e2.trans e3).trans e4
    have k4 := kn.ext e24
    refine ⟨_, rfl, p, c.CG, dx, _, _, rfl, e24 _ _ hp, Gr.cl, Gr.ns, gfl_stored, _, rfl, st, .ref Lx, rfl, by rw [← hX]; exact DGet.k (k := Sum.inr X) (e24 _ _ hst), ?_⟩
    refine ⟨pdR (l, row), rs.map pdR, .tup (SqT.of h4) (.cons (.str _) (.cons (dp_s (SqL.of (e4 _ _ h3))) .nil)), .lst (SqL.of (e24 _ _ hL)) (dp_rules k4 pr), shp_rule hl, shp_rules hrs, ?_⟩
    rw [any_rules hno]
    exact q H4 e24
end
end K60
namespace K60
open PySem PySem.Spec PyProof.Rows L2 LamX
open Classical in
/-- many things never change from now on -/
theorem Stp.freezeS {T : Tb} {S : Addr → Prop} {F0 H0 F H : Hp} (a : Stp T S F0 H0 F H) (Z : Addr → Prop) (hz : ∀ b, Z b → Fr H0 b) (hn : ∀ b o, Z b → H b = some o → NT o) : ∃ F', Stp T S F0 H0 F' H ∧ Same F F' ∧ ∀ b o, Z b → H b = some o → F' b = some o := by
  have sub2 : Same F (fun b => if Z b then H b else F b) := fun b o h => by
    show (if Z b then H b else F b) = some o
    by_cases z : Z b
    · rw [if_pos z]; exact (a.kn b o h).1
    · rw [if_neg z]; exact h
  refine ⟨fun b => if Z b then H b else F b, ⟨a.sub.trans sub2, fun b u h => ?_, fun b u h1 h2 m => ?_, a.keep, a.keepS, a.tab⟩, sub2, fun b o z h => ?_⟩
  · have h : (if Z b then H b else F b) = some u := h
    by_cases z : Z b
    · rw [if_pos z] at h; exact ⟨h, hn b u z h⟩
    · rw [if_neg z] at h; exact a.kn b u h
  · show (if Z b then H b else F b) = none
    rw [if_neg (fun z => hz b z u h2 m)]
    exact a.new b u h1 h2 m
  · show (if Z b then H b else F b) = some o
    rw [if_pos z]; exact h
abbrev Rul := Str × Nat × List Str
abbrev ruP : HP Rul := tup3 strP letP rowP
def ruR (rs : List Rul) : Rls := fun X => (rs.filter fun r => decide (r.1 = X)).map (·.2)
theorem ruR_app (a b : List Rul) (X : Str) : ruR (a ++ b) X = ruR a X ++ ruR b X := by
  unfold ruR
  rw [List.filter_append, List.map_append]
theorem ruR_one (r : Rul) (X : Str) : ruR [r] X = if r.1 = X then [r.2] else [] := by
  unfold ruR
  by_cases h : r.1 = X
  · rw [if_pos h, List.filter_cons, decide_eq_true h]; rfl
  · rw [if_neg h, List.filter_cons, decide_eq_false h]; rfl
structure GSt (c : Cfg) (H0 F H : Hp) (p dx kn st od : Addr) (ns ms : List Str) (L : Str → Addr) (R : Rls) (m : Nat) : Prop where
  hp : H p = some (.ins c.CG dx (gfl kn st od))
  fp : F p = none
  rp : Fr H0 p
  hk : F kn = some (.lst (ns.map V.str))
  fst : F st = none
  rst : Fr H0 st
  hst : ∃ kvs, H st = some (.dK kvs) ∧ kvs.length ≤ ms.length ∧ ∀ X, valV kvs (.inr X : Key) = if X ∈ ms then some (.ref (L X)) else none
  fod : F od = none
  rod : Fr H0 od
  hod : ∃ os, H od = some (.lst os) ∧ os.length ≤ m
  hL : ∀ X ∈ ms, F (L X) = none ∧ Fr H0 (L X) ∧ L X ≠ od ∧ ∃ us, H (L X) = some (.lst us) ∧ Paired (ruleP F) us (R X)
  inj : ∀ X ∈ ms, ∀ Y ∈ ms, L X = L Y → X = Y
section
variable {c : Cfg} {H0 F H F' H' : Hp} {p dx kn st od : Addr} {ns ms : List Str} {L : Str → Addr} {R : Rls} {m : Nat}
theorem GSt.step (G : GSt c H0 F H p dx kn st od ns ms L R m) (s : Stp c.T S0 F H F' H') : GSt c H0 F' H' p dx kn st od ns ms L R m := by
  obtain ⟨kvs, h1, h2, h3⟩ := G.hst
  obtain ⟨os, h4, h5⟩ := G.hod
  have a := s.mu G.fp G.hp (nt_ins _ _ _) (fun h => h)
  have b := s.mu G.fst h1 (nt_dK _) (fun h => h)
  have d := s.mu G.fod h4 (nt_lst _) (fun h => h)
  refine ⟨a.2, a.1, G.rp, s.sub _ _ G.hk, b.1, G.rst, ⟨kvs, b.2, h2, h3⟩, d.1, G.rod, ⟨os, d.2, h5⟩, fun X hX => ?_, G.inj⟩
  obtain ⟨q1, q2, q3, us, q4, q5⟩ := G.hL X hX
  have e := s.mu q1 q4 (nt_lst _) (fun h => h)
  exact ⟨e.1, q2, q3, us, e.2, paired_up s.sub q5⟩
theorem GSt.add (G : GSt c H0 F H p dx kn st od ns ms L (fun _ => []) m) {L0 : Addr} {X : Str} {kvs : List (Key × V)} (hL0 : H L0 = none) (fL0 : F L0 = none) (rL0 : Fr H0 L0) (hX : X ∉ ms) (e : H st = some (.dK kvs)) :
    GSt c H0 F (upd (upd H L0 (.lst [])) st (.dK (putK kvs (.inr X : Key) (.ref L0)))) p dx kn st od ns (ms ++ [X]) (fun Y => if Y = X then L0 else L Y) (fun _ => []) m := by
  obtain ⟨kvs', h1, h2, h3⟩ := G.hst
  rw [e] at h1
  cases h1
  obtain ⟨os, h4, h5⟩ := G.hod
  have nL : ∀ {b : Addr} {o : HO}, H b = some o → b ≠ L0 := fun h => ne_of_none h hL0
  have np : p ≠ st := fun z => by have := G.hp; rw [z, e] at this; cases this
  have nod : od ≠ st := fun z => by rw [z, e] at h4; cases h4
  have nst : L0 ≠ st := fun z => nL e z.symm
  refine ⟨by rw [upd_ne np, upd_ne (nL G.hp)]; exact G.hp, G.fp, G.rp, G.hk, G.fst, G.rst, ⟨_, upd_same, ?_, fun Y => ?_⟩, G.fod, G.rod, ⟨os, by rw [upd_ne nod, upd_ne (nL h4)]; exact h4, h5⟩, fun Y hY => ?_, fun Y hY Z hZ h => ?_⟩
  · rw [List.length_append, List.length_singleton]
    unfold putK
    split
    · rw [List.length_map]; omega
    · rw [List.length_append, List.length_singleton]; omega
  · rw [valV_put]
    by_cases z : Y = X
    · subst z
      rw [if_pos rfl, if_pos (List.mem_append.mpr (.inr (List.mem_singleton.mpr rfl))), if_pos rfl]
    · rw [if_neg (fun w => z (Sum.inr.inj w)), h3 Y]
      by_cases hm : Y ∈ ms
      · rw [if_pos hm, if_pos (List.mem_append.mpr (.inl hm)), if_neg z]
      · rw [if_neg hm, if_neg (fun w => by
          rcases List.mem_append.mp w with w | w
          · exact hm w
          · exact z (List.mem_singleton.mp w))]
  · by_cases z : Y = X
    · rw [if_pos z]
      exact ⟨fL0, rL0, fun w => nL h4 w.symm, [], by rw [upd_ne nst, upd_same], .nil⟩
    · rw [if_neg z]
      have hm : Y ∈ ms := by
        rcases List.mem_append.mp hY with w | w
        · exact w
        · exact absurd (List.mem_singleton.mp w) z
      obtain ⟨q1, q2, q3, us, q4, q5⟩ := G.hL Y hm
      have n1 : L Y ≠ st := fun w => by rw [w, e] at q4; cases q4
      exact ⟨q1, q2, q3, us, by rw [upd_ne n1, upd_ne (nL q4)]; exact q4, q5⟩
  · have mem : ∀ {Y}, Y ∈ ms ++ [X] → Y ≠ X → Y ∈ ms := fun {Y} hY z => by
      rcases List.mem_append.mp hY with w | w
      · exact w
      · exact absurd (List.mem_singleton.mp w) z
    by_cases z1 : Y = X
    · by_cases z2 : Z = X
      · rw [z1, z2]
      · rw [if_pos z1, if_neg z2] at h
        obtain ⟨_, _, _, us, q4, _⟩ := G.hL Z (mem hZ z2)
        exact absurd h.symm (nL q4)
    · by_cases z2 : Z = X
      · rw [if_neg z1, if_pos z2] at h
        obtain ⟨_, _, _, us, q4, _⟩ := G.hL Y (mem hY z1)
        exact absurd h (nL q4)
      · rw [if_neg z1, if_neg z2] at h
        exact G.inj Y (mem hY z1) Z (mem hZ z2) h
theorem GSt.push (G : GSt c H0 F H p dx kn st od ns ms L R m) {X : Str} {v : V} {q : Nat × List Str} {us : List V} (hX : X ∈ ms) (e : H (L X) = some (.lst us)) (pr : Paired (ruleP F) us (R X)) (hv : ruleP F v q) :
    GSt c H0 F (upd H (L X) (.lst (us ++ [v]))) p dx kn st od ns ms L (fun Y => R Y ++ if X = Y then [q] else []) m := by
  obtain ⟨kvs, h1, h2, h3⟩ := G.hst
  obtain ⟨os, h4, h5⟩ := G.hod
  obtain ⟨q1, q2, q3, _⟩ := G.hL X hX
  have np : p ≠ L X := fun z => by have := G.hp; rw [z, e] at this; cases this
  have nst : st ≠ L X := fun z => by rw [z, e] at h1; cases h1
  refine ⟨by rw [upd_ne np]; exact G.hp, G.fp, G.rp, G.hk, G.fst, G.rst, ⟨kvs, by rw [upd_ne nst]; exact h1, h2, h3⟩, G.fod, G.rod, ⟨os, by rw [upd_ne (fun z => q3 z.symm)]; exact h4, h5⟩, fun Y hY => ?_, G.inj⟩
  obtain ⟨g1, g2, g3, us', g4, g5⟩ := G.hL Y hY
  refine ⟨g1, g2, g3, ?_⟩
  by_cases z : X = Y
  · subst z
    rw [if_pos rfl]
    exact ⟨_, upd_same, pairs_snoc pr hv⟩
  · rw [if_neg z, List.append_nil]
    exact ⟨us', by rw [upd_ne (fun w => z (G.inj Y hY X hX w).symm)]; exact g4, g5⟩
theorem GSt.ord (G : GSt c H0 F H p dx kn st od ns ms L R m) {os : List V} {v : V} (e : H od = some (.lst os)) : GSt c H0 F (upd H od (.lst (os ++ [v]))) p dx kn st od ns ms L R (m + 1) := by
  obtain ⟨kvs, h1, h2, h3⟩ := G.hst
  obtain ⟨os', h4, h5⟩ := G.hod
  rw [e] at h4
  cases h4
  have np : p ≠ od := fun z => by have := G.hp; rw [z, e] at this; cases this
  have nst : st ≠ od := fun z => by rw [z, e] at h1; cases h1
  refine ⟨by rw [upd_ne np]; exact G.hp, G.fp, G.rp, G.hk, G.fst, G.rst, ⟨kvs, by rw [upd_ne nst]; exact h1, h2, h3⟩, G.fod, G.rod, ⟨_, upd_same, by rw [List.length_append, List.length_singleton]; omega⟩, fun Y hY => ?_, G.inj⟩
  obtain ⟨g1, g2, g3, us', g4, g5⟩ := G.hL Y hY
  exact ⟨g1, g2, g3, us', by rw [upd_ne g3]; exact g4, g5⟩
theorem GSt.fin (G : GSt c H0 F H p dx kn st od ns ns L R m) {S : Addr → Prop} {F0 : Hp} (s : Stp c.T S F0 H0 F H) (hS : ∀ b, S b → Fr H0 b) : ∃ F', Stp c.T S0 F0 H0 F' H ∧ GramAt c.CG F' p ns R := by
  obtain ⟨kvs, h1, h2, h3⟩ := G.hst
  let Z : Addr → Prop := fun b => b = p ∨ b = st ∨ ∃ X ∈ ns, b = L X
  have hz : ∀ b, Z b → Fr H0 b := fun b z => by
    rcases z with z | z | ⟨X, hX, z⟩
    · rw [z]; exact G.rp
    · rw [z]; exact G.rst
    · rw [z]; exact (G.hL X hX).2.1
  have hn : ∀ b o, Z b → H b = some o → NT o := fun b o z h => by
    rcases z with z | z | ⟨X, hX, z⟩
    · rw [z, G.hp] at h; cases h; exact nt_ins _ _ _
    · rw [z, h1] at h; cases h; exact nt_dK _
    · obtain ⟨_, _, _, us, q4, _⟩ := G.hL X hX
      rw [z, q4] at h; cases h; exact nt_lst _
  obtain ⟨F', s2, sub2, at_⟩ := s.freezeS Z hz hn
  refine ⟨_, s2.loc fun b hb => .inr (hS b hb), dx, kn, st, od, kvs, at_ _ _ (.inl rfl) G.hp, sub2 _ _ G.hk, at_ _ _ (.inr (.inl rfl)) h1, fun X => ?_, fun X hX => ?_⟩
  · rw [h3 X]
    by_cases h : X ∈ ns
    · rw [if_pos h]; exact ⟨fun _ => h, fun _ => rfl⟩
    · rw [if_neg h]; exact ⟨fun z => (nomatch z), fun z => absurd z h⟩
  · obtain ⟨g1, g2, g3, us', g4, g5⟩ := G.hL X hX
    exact ⟨.ref (L X), by rw [h3 X, if_pos hX], L X, us', rfl, at_ _ _ (.inr (.inr ⟨X, hX, rfl⟩)) g4, paired_up sub2 g5⟩
end
def sp_Grammar_init (c : Cfg) : Sp := fun vs H Q _ => ∃ (F H0 : Hp) (p dx a b : Addr) (ns : List Str) (us : List V) (rs : List Rul) (ν : Str → Nat) (sg : List Nat), vs = [.ref p, .ref a, .ref b] ∧ Kn F H0 ∧ H0 p = none ∧ H0 dx = none ∧ dx ≠ p ∧ H = upd (upd H0 dx (.own p)) p (.ins c.CG dx []) ∧ F a = some (.lst (ns.map V.str)) ∧ F b = some (.lst us) ∧ Paired (ruP F) us rs ∧
  (∀ X ∈ ns, nmOk X) ∧ 1 ≤ ns.length ∧ (∀ r ∈ rs, r.1 ∈ ns) ∧ GG ns (ruR rs) ν sg ∧ (∀ l ∈ sg, lowL l) ∧ rs.length ≤ 1000 ∧ ∀ F' H', Stp c.T S0 F H0 F' H' → GK c.CG F' p ns (ruR rs) ν sg → Q .non H'
section
variable {c : Cfg} {K : PySem.W.Frag} {mg : Str → Option Value} {base : Heap}
theorem sc_Grammar_init : FnScope ["self", "names", "rules", "name", "at", "rule"] ["self", "names", "rules"] (defScope s_Grammar_init) := ⟨rfl, rfl, rfl, by decide +kernel, rfl, by decide +kernel, by decide +kernel⟩
theorem ok_Grammar_init (D : Dfi K c.CG "Grammar.__init__" s_Grammar_init (["self", "names", "rules"])) (Gr : GrC K c.CG) (B : Blt mg) (G_are_names : Gd c.P c.w K mg base 3 "are_names" (["names"]) (sp_are_names c)) (M_lets_by : Gm c.P c.w K mg base 3 c.CG "lets_by" (["self", "rule"]) (sp_lets_by c)) :
    Gi c.P c.w K mg base 4 c.CG (["self", "names", "rules"]) (sp_Grammar_init c) := by
  refine D.ok sc_Grammar_init (fun vs H Q E h => ?_) (fun fa cdv A outer s H vs Q E hr h => ?_)
  · obtain ⟨F, H0, p, dx, a, b, ns, us, rs, ν, sg, rfl, _⟩ := h
    rfl
  obtain ⟨F, H0, p, dx, a, b, ns, us, rs, ν, sg, rfl, kn0, hp0, hdx0, hne, rfl, ha, hb, pr, hnm, h1n, hrn, gg, hlow, hrl, q⟩ := h
  refine ⟨_, (pss_cons (ps_if (pt_not (pt_val (pe_g G_are_names hr (by rfl) (pa_cons (pv 1) pa_nil)))) (pss_one ps_never) pss_nil) (pss_cons (ps_fld (pv 0) (pe_callTy call_list_of (by rfl) B.list (by decide +kernel) (pa_cons (pv 1) pa_nil)) rfl) (pss_cons (ps_fld (pv 0) pe_dnewK rfl) (pss_cons (ps_fld (pv 0) (pe_lst pa_nil) rfl) (pss_cons (ps_for PassesOwn.never rfl (pi_list (pv 1)) (pg_name (i := 3) sc_Grammar_init.nd rfl (Or.inl rfl)) (pss_one (ps_dput (hu_of hr) (pe_fld (pv 0) rfl) (pv 3) (pe_lst pa_nil) rfl))) (pss_one (ps_for PassesOwn.never rfl (pi_enum (by rfl) B.enum (pa_cons (pv 2) pa_nil)) (pg_tup rfl (pgs_cons (pg_name (i := 4) sc_Grammar_init.nd rfl (Or.inl rfl)) (pgs_cons (pg_name (i := 5) sc_Grammar_init.nd rfl (Or.inl rfl)) pgs_nil))) (pss_cons (ps_if (pt_not (pt_val (pe_m M_lets_by Gr.cl hr (pv 0) (pa_cons (pv 5) pa_nil)))) (pss_one ps_never) pss_nil) (pss_cons (ps_expr (pe_bm PySem.F.plainAttrs_list PySem.F.slot_list_append PySem.F.type_list_append mt_append (pe_dget (hu_of hr) (pe_fld (pv 0) rfl) (pe_ix ix_tup (pv 5) pe_int (fun _ _ => rfl)) (fun _ _ => rfl)) (pa_cons (pe_tup (pa_cons (pe_ix ix_tup (pv 5) pe_int (fun _ _ => rfl)) (pa_cons (pe_callTy call_list_of (by rfl) B.list (by decide +kernel) (pa_cons (pe_ix ix_tup (pv 5) pe_int (fun _ _ => rfl)) pa_nil)) pa_nil))) pa_nil))) (pss_one (ps_expr (pe_bm PySem.F.plainAttrs_list PySem.F.slot_list_append PySem.F.type_list_append mt_append (pe_fld (pv 0) rfl) (pa_cons (pe_ix ix_tup (pv 5) pe_int (fun _ _ => rfl)) pa_nil))))))))))))), ?_⟩
  have rp : Fr H0 p := .of hp0
  have fp : F p = none := kn0.off hp0
  have s1 : Stp c.T (fun b => Fr H0 b) F H0 F (upd H0 dx (.own p)) := .mut kn0 hdx0
  have hp1 : upd H0 dx (.own p) p = none := by rw [upd_ne (fun z => hne z.symm)]; exact hp0
  have s2 : Stp c.T (fun b => Fr H0 b) F (upd H0 dx (.own p)) F (upd (upd H0 dx (.own p)) p (.ins c.CG dx [])) := .mut s1.kn hp1
  have hp2 : upd (upd H0 dx (.own p)) p (.ins c.CG dx []) p = some (.ins c.CG dx []) := upd_same
  have s12 := s1.trans s2
  generalize upd (upd H0 dx (.own p)) p (.ins c.CG dx []) = H2 at *
  have k2 := s2.kn
  refine ⟨_, rfl, a, ns, rfl, (k2 _ _ ha).1, gg.nd, h1n, by have := gg.le; omega, hnm, fun H3 e3 => ⟨_, rfl, ?_⟩⟩
  have s3 : Stp c.T (fun b => Fr H0 b) F H2 F H3 := .ext k2 e3
  have hp3 := e3 _ _ hp2
  have s13 := s12.trans s3
  -- self.known = list(names)
  refine ⟨_, rfl, a, _, rfl, .inl (SqL.of (s3.kn _ _ ha).1), fun kn hkn => ⟨_, rfl, p, c.CG, dx, [], rfl, ?_, Gr.cl, Gr.nk, by decide, ?_⟩⟩
  · rw [upd_ne (ne_of_none hp3 hkn)]
    exact hp3
  have npk : p ≠ kn := ne_of_none hp3 hkn
  have s4 : Stp c.T (fun b => Fr H0 b) F H3 (upd F kn (.lst (ns.map V.str))) (upd H3 kn (.lst (ns.map V.str))) := .data s3.kn hkn (nt_lst _)
  have fp4 : upd F kn (.lst (ns.map V.str)) p = none := by rw [upd_ne npk]; exact fp
  have hk4 : upd F kn (.lst (ns.map V.str)) kn = some (.lst (ns.map V.str)) := upd_same
  have hp4 : upd H3 kn (.lst (ns.map V.str)) p = some (.ins c.CG dx []) := by rw [upd_ne npk]; exact hp3
  generalize upd F kn (.lst (ns.map V.str)) = F4 at *
  generalize upd H3 kn (.lst (ns.map V.str)) = H4 at *
  have s5 : Stp c.T (fun b => Fr H0 b) F4 H4 F4 (upd H4 p (.ins c.CG dx (putF "known" (.ref kn) []))) := .set s4.kn fp4 hp4 (nx_ins _ _ _) (nt_ins _ _ _) rp
  have hp5 : upd H4 p (.ins c.CG dx (putF "known" (.ref kn) [])) p = some (.ins c.CG dx (putF "known" (.ref kn) [])) := upd_same
  generalize upd H4 p (.ins c.CG dx (putF "known" (.ref kn) [])) = H5 at *
  have s15 := (s13.trans s4).trans s5
  -- self.stored = {}
  refine fun st hst => ⟨_, rfl, p, c.CG, dx, putF "known" (.ref kn) [], rfl, ?_, Gr.cl, Gr.ns, by show 1 < 1000; decide, ?_⟩
  · rw [upd_ne (ne_of_none hp5 hst)]
    exact hp5
  have nps : p ≠ st := ne_of_none hp5 hst
  have s6 : Stp c.T (fun b => Fr H0 b) F4 H5 F4 (upd H5 st (.dK [])) := .mut s5.kn hst
  have rst : Fr H0 st := s15.fr kn0 (.of hst)
  have fst : F4 st = none := s5.kn.off hst
  have hst6 : upd H5 st (.dK []) st = some (.dK []) := upd_same
  have hp6 : upd H5 st (.dK []) p = some (.ins c.CG dx (putF "known" (.ref kn) [])) := by rw [upd_ne nps]; exact hp5
  generalize upd H5 st (.dK []) = H6 at *
  have s7 : Stp c.T (fun b => Fr H0 b) F4 H6 F4 (upd H6 p (.ins c.CG dx (putF "stored" (.ref st) (putF "known" (.ref kn) [])))) := .set s6.kn fp4 hp6 (nx_ins _ _ _) (nt_ins _ _ _) rp
  have hp7 : upd H6 p (.ins c.CG dx (putF "stored" (.ref st) (putF "known" (.ref kn) []))) p = some (.ins c.CG dx (putF "stored" (.ref st) (putF "known" (.ref kn) []))) := upd_same
  have hst7 : upd H6 p (.ins c.CG dx (putF "stored" (.ref st) (putF "known" (.ref kn) []))) st = some (.dK []) := by rw [upd_ne (fun z => nps z.symm)]; exact hst6
  generalize upd H6 p (.ins c.CG dx (putF "stored" (.ref st) (putF "known" (.ref kn) []))) = H7 at *
  have s17 := (s15.trans s6).trans s7
  -- self.order = []
  refine ⟨Nat.zero_le _, fun od hod => ⟨_, rfl, p, c.CG, dx, putF "stored" (.ref st) (putF "known" (.ref kn) []), rfl, ?_, Gr.cl, Gr.no, by show 2 < 1000; decide, ?_⟩⟩
  · rw [upd_ne (ne_of_none hp7 hod)]
    exact hp7
  have npo : p ≠ od := ne_of_none hp7 hod
  have nso : st ≠ od := ne_of_none hst7 hod
  have s8 : Stp c.T (fun b => Fr H0 b) F4 H7 F4 (upd H7 od (.lst [])) := .mut s7.kn hod
  have rod : Fr H0 od := s17.fr kn0 (.of hod)
  have fod : F4 od = none := s7.kn.off hod
  have hod8 : upd H7 od (.lst []) od = some (.lst []) := upd_same
  have hst8 : upd H7 od (.lst []) st = some (.dK []) := by rw [upd_ne nso]; exact hst7
  have hp8 : upd H7 od (.lst []) p = some (.ins c.CG dx (putF "stored" (.ref st) (putF "known" (.ref kn) []))) := by rw [upd_ne npo]; exact hp7
  generalize upd H7 od (.lst []) = H8 at *
  have s9 : Stp c.T (fun b => Fr H0 b) F4 H8 F4 (upd H8 p (.ins c.CG dx (gfl kn st od))) := .set s8.kn fp4 hp8 (nx_ins _ _ _) (nt_ins _ _ _) rp
  have G9 : GSt c H0 F4 (upd H8 p (.ins c.CG dx (gfl kn st od))) p dx kn st od ns [] (fun _ => 0) (fun _ => []) 0 :=
    ⟨upd_same, fp4, rp, hk4, fst, rst, ⟨[], by rw [upd_ne (fun z => nps z.symm)]; exact hst8, Nat.le_refl _, fun X => by rw [if_neg (fun h => nomatch h)]; rfl⟩, fod, rod, ⟨[], by rw [upd_ne (fun z => npo z.symm)]; exact hod8, Nat.le_refl _⟩, fun _ h => (nomatch h), fun _ h => (nomatch h)⟩
  have s19 := (s17.trans s8).trans s9
  have sub14 : Same F F4 := s19.sub
  show tSeq _ _ _ _ (upd H8 p (.ins c.CG dx (gfl kn st od)))
  generalize upd H8 p (.ins c.CG dx (gfl kn st od)) = H9 at *
  have hlen := gg.le
  refine ⟨_, rfl, a, rfl, ⟨_, SqL.of (s19.kn _ _ (sub14 _ _ ha)).1⟩, ?_⟩
  refine for_it (walk_list (K := K) (a := a) (xs := ns.map V.str)) (fun i σ H' => ∃ (F' : Hp) (L : Str → Addr) (x3 : Option V), Stp c.T (fun b => Fr H0 b) F H0 F' H' ∧ GSt c H0 F' H' p dx kn st od ns (ns.take i) L (fun _ => []) 0 ∧ σ = [some (.ref p), some (.ref a), some (.ref b), x3, none, none]) ?_ ?_ ?_ ?_
  · exact ⟨F4, _, _, s19, G9, rfl⟩
  · rintro i σ H' _ ⟨F', L, x3, s, _⟩
    exact SqL.of (s.kn _ _ (s.sub _ _ ha)).1
  · rintro i x σ H10 H' hi ⟨F10, L, x3, s10, G10, rfl⟩ ⟨rfl, hx⟩
    rw [List.getElem?_map] at hx
    obtain ⟨X, hX, rfl⟩ := Option.map_eq_some_iff.mp hx
    obtain ⟨kvs, h1, h2, h3⟩ := G10.hst
    refine ⟨Nat.zero_le _, fun L0 hL0 => ?_⟩
    have nL : ∀ {b : Addr} {o : HO}, H' b = some o → b ≠ L0 := fun h => ne_of_none h hL0
    have s11 : Stp c.T (fun b => Fr H0 b) F10 H' F10 (upd H' L0 (.lst [])) := .mut s10.kn hL0
    have hp11 : upd H' L0 (.lst []) p = some (.ins c.CG dx (gfl kn st od)) := by rw [upd_ne (nL G10.hp)]; exact G10.hp
    have hst11 : upd H' L0 (.lst []) st = some (.dK kvs) := by rw [upd_ne (nL h1)]; exact h1
    refine ⟨_, rfl, p, c.CG, dx, _, _, rfl, hp11, Gr.cl, Gr.ns, gfl_stored, _, rfl, st, _, rfl, DPut.k (k := Sum.inr X) hst11 (szlt ?_), ?_⟩
    · have := len_take ns i
      have hi' : i < (ns.map V.str).length := hi
      rw [List.length_map] at hi'
      omega
    have hXm : X ∉ ns.take i := fun h => by
      have nd := gg.nd
      rw [← List.take_append_drop i ns] at nd
      have hd : X ∈ ns.drop i := by
        obtain ⟨hi', hX'⟩ := List.getElem?_eq_some_iff.mp hX
        rw [List.drop_eq_getElem_cons hi', hX']
        exact List.mem_cons_self ..
      exact (List.nodup_append.mp nd).2.2 X h X hd rfl
    have G11 := G10.add hL0 (s10.kn.off hL0) (s10.fr kn0 (.of hL0)) hXm h1
    rw [← take_snoc hX] at G11
    exact ⟨F10, _, _, (s10.trans s11).trans (.set s11.kn G10.fst hst11 (nx_dK _) (nt_dK _) G10.rst), G11, rfl⟩
  rintro σ H10 ⟨F10, L, x3, s10, G10, rfl⟩
  rw [List.length_map, List.take_length] at G10
  have lus := Paired.len pr
  refine ⟨_, rfl, b, _, rfl, SqL.of (s10.kn _ _ (s10.sub _ _ hb)).1, ?_⟩
  refine for_it (walk_enum (K := K) (a := b) (xs := us)) (fun i σ H' => ∃ (F' : Hp) (x3 x4 x5 : Option V), Stp c.T (fun b => Fr H0 b) F H0 F' H' ∧ GSt c H0 F' H' p dx kn st od ns ns L (ruR (rs.take i)) i ∧ σ = [some (.ref p), some (.ref a), some (.ref b), x3, x4, x5]) ?_ ?_ ?_ ?_
  · exact ⟨F10, _, _, _, s10, G10, rfl⟩
  · rintro i σ H' _ ⟨F', x3, x4, x5, s, _⟩
    exact SqL.of (s.kn _ _ (s.sub _ _ hb)).1
  · rintro i x σ H11 H' hi ⟨F11, x3, x4, x5, s11, G11, rfl⟩ ⟨T, y1, y2, rfl, hT, rfl, hy1, hy2⟩
    cases hy1
    obtain ⟨⟨X, l, row⟩, hy, t, w1, w2, w3, rfl, ht, hw1, hw2, rb, rfl, hrb⟩ := Paired.at pr hy2
    obtain rfl : w1 = V.str X := hw1
    obtain rfl : w2 = V.str ⟨#[l]⟩ := hw2
    have hrb : F rb = some (.lst (row.map V.str)) := hrb
    have s12 : Stp c.T S0 F11 H11 (upd F11 T (.tup [.int (i : Nat), .ref t])) (upd H11 T (.tup [.int (i : Nat), .ref t])) := .data s11.kn hT (nt_tup _)
    have h12 : upd F11 T (.tup [.int (i : Nat), .ref t]) T = some (.tup [.int (i : Nat), .ref t]) := upd_same
    have G12 := G11.step s12
    have sub12 : Same F (upd F11 T (.tup [.int (i : Nat), .ref t])) := s11.sub.trans s12.sub
    have a12 := s11.trans (s12.wide (S' := fun b => Fr H0 b) fun b h => h.elim)
    generalize upd F11 T (.tup [.int (i : Nat), .ref t]) = F12 at *
    generalize upd H11 T (.tup [.int (i : Nat), .ref t]) = H12 at *
    have k12 := s12.kn
    have hXn : X ∈ ns := hrn _ (List.mem_of_getElem? hy)
    have er : rs = rs.take i ++ (X, l, row) :: rs.drop (i + 1) := by
      obtain ⟨hi', hX'⟩ := List.getElem?_eq_some_iff.mp hy
      rw [← hX', ← List.drop_eq_getElem_cons hi', List.take_append_drop]
    have eR : ruR rs X = ruR (rs.take i) X ++ ((l, row) :: ruR (rs.drop (i + 1)) X) := by
      conv => lhs; rw [er]
      rw [ruR_app, show (X, l, row) :: rs.drop (i + 1) = [(X, l, row)] ++ rs.drop (i + 1) from rfl, ruR_app, ruR_one, if_pos rfl]
      rfl
    have hmR : (l, row) ∈ ruR rs X := by rw [eR]; exact List.mem_append.mpr (.inr (List.mem_cons_self ..))
    have le4 := gg.le4 X hXn
    have ndl := gg.ndl X hXn
    rw [eR] at le4 ndl
    rw [List.length_append, List.length_cons] at le4
    rw [List.map_append, List.map_cons] at ndl
    have hcl := gg.cl X hXn _ hmR
    have rok : ∀ q ∈ ruR rs X, rOk q := fun q hq => by
      have h := gg.cl X hXn q hq
      exact ⟨hlow _ h.1, fun Y hY => (hnm Y (h.2.1 Y hY)).sok⟩
    obtain ⟨kvs, h1, h2, h3⟩ := G12.hst
    obtain ⟨fL, rL, nLo, us', hL, prL⟩ := G12.hL X hXn
    have ht12 := sub12 _ _ ht
    have hrb12 := sub12 _ _ hrb
    refine ⟨T, _, rfl, SqT.of (k12 _ _ h12).1, rfl, _, _, rfl, _, _, rfl, rfl, ?_⟩
    refine ⟨_, rfl, p, dx, _, rfl, G12.hp, gfl_no (by decide +kernel) (by decide +kernel) (by decide +kernel), _, rfl, F12, p, t, dx, kn, st, od, kvs, X, l, rb, row, L X, us', ruR (rs.take i) X, rfl, k12, G12.hp, h1, ht12, hrb12, by rw [h3 X, if_pos hXn], hL, prL, by omega, ?_, fun q hq => rok q (by rw [eR]; exact List.mem_append.mpr (.inl hq)), rok _ hmR, hcl.2.2, fun Y hY => by rw [h3 Y, if_pos (hcl.2.1 Y hY)]; rfl, fun H13 e13 => ⟨_, rfl, ?_⟩⟩
    · intro q hq e
      exact (List.nodup_append.mp ndl).2.2 q.1 (List.mem_map.mpr ⟨q, hq, rfl⟩) l (List.mem_cons_self ..) e
    have s13 : Stp c.T S0 F12 H12 F12 H13 := .ext k12 e13
    have G13 := G12.step s13
    have k13 := s13.kn
    refine ⟨_, rfl, p, c.CG, dx, _, _, rfl, G13.hp, Gr.cl, Gr.ns, gfl_stored, _, rfl, t, _, 0, .str X, rfl, rfl, SqT.of (k13 _ _ ht12).1, atI_nat (i := 0) rfl, st, .ref (L X), rfl, ?_, .inl ⟨rfl, _, SqL.of (e13 _ _ hL)⟩, _, rfl, t, _, 1, _, rfl, rfl, SqT.of (k13 _ _ ht12).1, atI_nat (i := 1) rfl, _, rfl, t, _, 2, _, rfl, rfl, SqT.of (k13 _ _ ht12).1, atI_nat (i := 2) rfl, rb, _, rfl, .inl (SqL.of (k13 _ _ hrb12).1), fun l3 hl3 => ⟨by show 2 ≤ sizeLine; decide, fun t3 ht3 => ?_⟩⟩
    · rw [show some (V.ref (L X)) = valV kvs (.inr X : Key) from by rw [h3 X, if_pos hXn]]
      exact DGet.k (k := Sum.inr X) (e13 _ _ h1)
    have s14 : Stp c.T S0 F12 H13 (upd F12 l3 (.lst (row.map V.str))) (upd H13 l3 (.lst (row.map V.str))) := .data k13 hl3 (nt_lst _)
    have h14 : upd F12 l3 (.lst (row.map V.str)) l3 = some (.lst (row.map V.str)) := upd_same
    generalize upd F12 l3 (.lst (row.map V.str)) = F14 at *
    generalize upd H13 l3 (.lst (row.map V.str)) = H14 at *
    have s15 : Stp c.T S0 F14 H14 (upd F14 t3 (.tup [.str ⟨#[l]⟩, .ref l3])) (upd H14 t3 (.tup [.str ⟨#[l]⟩, .ref l3])) := .data s14.kn ht3 (nt_tup _)
    have h15 : upd F14 t3 (.tup [.str ⟨#[l]⟩, .ref l3]) t3 = some (.tup [.str ⟨#[l]⟩, .ref l3]) := upd_same
    have s25 := (s13.trans s14).trans s15
    have G15 := G12.step s25
    have h14' := s15.sub _ _ h14
    generalize upd F14 t3 (.tup [.str ⟨#[l]⟩, .ref l3]) = F15 at *
    generalize upd H14 t3 (.tup [.str ⟨#[l]⟩, .ref l3]) = H15 at *
    obtain ⟨fL15, gL15⟩ := s25.mu fL hL (nt_lst _) (fun h => h)
    have prL15 : Paired (ruleP F15) us' (ruR (rs.take i) X) := paired_up s25.sub prL
    have a15 := a12.trans (s25.wide (S' := fun b => Fr H0 b) fun b h => h.elim)
    refine ⟨L X, _, _, rfl, rfl, gL15, szlt (by rw [Paired.len prL]; omega), ?_⟩
    have G16 := G15.push hXn gL15 prL15 (v := .ref t3) (q := (l, row)) ⟨t3, _, _, rfl, h15, rfl, l3, rfl, h14'⟩
    have a16 := a15.trans (.set a15.kn fL15 gL15 (nx_lst _) (nt_lst (us' ++ [.ref t3])) rL)
    have k16 := a16.kn
    obtain ⟨os, ho1, ho2⟩ := G16.hod
    have ht16 := (k16 _ _ (s25.sub _ _ ht12)).1
    refine ⟨_, rfl, p, c.CG, dx, _, _, rfl, G16.hp, Gr.cl, Gr.no, gfl_order, .inl ⟨rfl, _, SqL.of ho1⟩, _, rfl, t, _, 0, .str X, rfl, rfl, SqT.of ht16, atI_nat (i := 0) rfl, od, _, _, rfl, rfl, ho1, szlt (by have : i < us.length := hi; omega), ?_⟩
    have G17 := G16.ord (v := .str X) ho1
    have eR2 : (fun Y => ruR (rs.take i) Y ++ if X = Y then [(l, row)] else []) = ruR (rs.take (i + 1)) := by
      funext Y
      rw [take_snoc hy, ruR_app, ruR_one]
    rw [eR2] at G17
    exact ⟨F15, _, _, _, a16.trans (.set k16 G16.fod ho1 (nx_lst _) (nt_lst _) G16.rod), G17, rfl⟩
  · rintro σ H11 ⟨F11, x3, x4, x5, s11, G11, rfl⟩
    rw [lus, List.take_length] at G11
    obtain ⟨F', s12, gr⟩ := G11.fin s11 (fun b h => h)
    exact q F' H11 s12 ⟨gr, gg, fun X hX => (hnm X hX).sok, fun l hl => hlow l hl⟩
end
end K60
namespace K60
open PySem PySem.Spec PyProof.Rows L2 LamX
/-- the script -/
def Scr (K : PySem.W.Frag) (F : Hp) (a : Addr) (ns : List Int) : Prop := ∀ H, Kn F H → SqL K H a (ns.map V.int)
theorem Scr.up {K : PySem.W.Frag} {F F' : Hp} {a : Addr} {ns : List Int} (s : Scr K F a ns) (e : Same F F') : Scr K F' a ns := fun H k => s H fun b o h => k b o (e b o h)
/-- a well: what is left of the cell, the cell, the counter -/
def Wl (H : Hp) (wl : Addr) (n : Nat) : Prop := ∃ x0 x1 x2 : Int, H wl = some (.lst [.int x0, .int x1, .int x2]) ∧ 0 ≤ x0 ∧ 0 ≤ x2 ∧ x2 ≤ n
theorem Wl.mono {H : Hp} {wl : Addr} {n n' : Nat} (h : Wl H wl n) (e : n ≤ n') : Wl H wl n' := by
  obtain ⟨x0, x1, x2, h1, h2, h3, h4⟩ := h
  exact ⟨x0, x1, x2, h1, h2, h3, by omega⟩
theorem Wl.step {T : Tb} {S : Addr → Prop} {F H F' H' : Hp} {wl : Addr} {n : Nat} (h : Wl H wl n) (f : F wl = none) (s : Stp T S F H F' H') (hs : ¬ S wl) : F' wl = none ∧ Wl H' wl n := by
  obtain ⟨x0, x1, x2, h1, h2⟩ := h
  obtain ⟨a, b⟩ := s.mu f h1 (nt_lst _) hs
  exact ⟨a, x0, x1, x2, b, h2⟩
def sp_law_cell_at (c : Cfg) (K : PySem.W.Frag) : Sp := fun vs H Q _ => ∃ (a : Addr) (ns : List Int) (k : Nat), vs = [.ref a, .int (k : Int)] ∧ SqL K H a (ns.map V.int) ∧ ∀ i : Int, Q (.int i) H
def sp_law_well (c : Cfg) : Sp := fun vs H Q _ => ∃ x : Int, vs = [.int x] ∧ ∀ p x0, H p = none → 0 ≤ x0 → Q (.ref p) (upd H p (.lst [.int x0, .int x, .int 0]))
def sp_law_draw0 (c : Cfg) : Sp := fun vs H Q _ => ∃ (F : Hp) (wl : Addr) (n : Nat) (many : Nat), vs = [.ref wl, .int (many : Int)] ∧ Kn F H ∧ F wl = none ∧ Wl H wl n ∧ n ≤ 100000 ∧ 0 < many ∧ many < 2 ^ 64 ∧
  ∀ H' (v : Nat), v < many → Stp c.T (fun b => b = wl) F H F H' → Wl H' wl (n + 1) → Q (.int (v : Int)) H'
theorem cdw {x : Int} {m : Nat} (h0 : 0 < m) (h : m < 2 ^ 64) : CDivW x (m : Int) := by
  refine ⟨by omega, ?_⟩
  have : ((m : Int).natAbs).log2 < 64 := (Nat.log2_lt (by omega)).mpr (by show m < 2 ^ 64; exact h)
  omega
theorem cmul_l {i j : Int} (h0 : 0 ≤ i) (h1 : i < 9223372036854775808) : CMul i j := .inl ⟨Int.lt_of_lt_of_le (by decide) h0, Int.lt_trans h1 (by decide)⟩
theorem cpow_5 {i : Int} (h0 : 0 ≤ i) (h1 : i < 9223372036854775808) : CPow i 5 := by
  refine ⟨by decide, by decide, ?_⟩
  have : i.natAbs < 9223372036854775808 := by omega
  exact Nat.lt_trans this (by decide)
section
variable {c : Cfg} {K : PySem.W.Frag} {mg : Str → Option Value} {base : Heap}
theorem sc_law_cell_at : FnScope ["_law_script", "_law_k"] ["_law_script", "_law_k"] (defScope s_law_cell_at) := ⟨rfl, rfl, rfl, by decide +kernel, rfl, by decide +kernel, by decide +kernel⟩
theorem ok_law_cell_at (D : Dfn K mg "_law_cell_at" s_law_cell_at (["_law_script", "_law_k"])) (B : Blt mg) : Gd c.P c.w K mg base 1 "_law_cell_at" (["_law_script", "_law_k"]) (sp_law_cell_at c K) := by
  refine D.ok sc_law_cell_at (fun vs H Q E h => ?_) (fun fa cdv A outer s H vs Q E hr h => ?_)
  · obtain ⟨a, ns, k, rfl, _⟩ := h
    rfl
  obtain ⟨a, ns, k, rfl, ha, q⟩ := h
  refine ⟨_, (pss_cons (ps_if (pt_cmpR op_lt (pv 1) (pe_callB call_len_seq (by rfl) B.len PySem.boot_len (pa_cons (pv 0) pa_nil)) (nomark _)) (pss_one (ps_ret (pe_ix ix_list (pv 0) (pv 1) (fun _ _ => rfl)))) pss_nil) (pss_one (ps_ret pe_int))), ?_⟩
  refine ⟨_, rfl, _, rfl, a, _, rfl, .inl ha, _, _, rfl, rfl, _, rfl, ?_⟩
  rw [List.length_map]
  refine ite2 (fun h => ?_) (fun h => ?_)
  · have hk : k < ns.length := Int.ofNat_lt.mp (of_decide_eq_true h)
    exact ⟨_, rfl, _, rfl, a, _, (k : Int), .int ns[k], rfl, rfl, ha, atI_nat (by rw [List.getElem?_map, List.getElem?_eq_getElem hk]; rfl), q _⟩
  · exact q 0
theorem sc_law_well : FnScope ["_law_cell"] ["_law_cell"] (defScope s_law_well) := ⟨rfl, rfl, rfl, by decide +kernel, rfl, by decide +kernel, by decide +kernel⟩
theorem ok_law_well (D : Dfn K mg "_law_well" s_law_well (["_law_cell"])) (B : Blt mg) : Gd c.P c.w K mg base 1 "_law_well" (["_law_cell"]) (sp_law_well c) := by
  refine D.ok sc_law_well (fun vs H Q E h => ?_) (fun fa cdv A outer s H vs Q E hr h => ?_)
  · obtain ⟨x, rfl, _⟩ := h
    rfl
  obtain ⟨x, rfl, q⟩ := h
  refine ⟨_, (pss_one (ps_ret (pe_lst (pa_cons (pe_op op_mul (pv 0) (pe_callTy call_int1 (by rfl) B.int (by decide +kernel) (pa_cons (pe_cmpR op_ge (pv 0) (pe_op op_pow pe_int pe_int) (nomark _)) pa_nil))) (pa_cons (pv 0) (pa_cons pe_int pa_nil)))))), ?_⟩
  refine ⟨_, rfl, _, rfl, _, _, rfl, rfl, ⟨by decide, by decide, by decide⟩, _, _, rfl, rfl, .inr ⟨_, rfl, _, _, rfl, rfl, .inr ?_, _, rfl, by show 3 ≤ sizeLine; decide, fun p hp => ?_⟩⟩
  · by_cases h : (10 : Int) ^ Int.toNat 18 ≤ x
    · rw [decide_eq_true h]; decide
    · rw [decide_eq_false h]; decide
  · refine q p _ hp ?_
    by_cases h : (10 : Int) ^ Int.toNat 18 ≤ x
    · rw [decide_eq_true h]
      have : (0 : Int) ≤ (10 : Int) ^ Int.toNat 18 := by decide
      show 0 ≤ x * 1
      omega
    · rw [decide_eq_false h]
      show 0 ≤ x * 0
      omega
theorem sc_law_draw : FnScope ["_law_well_here", "_law_many", "_law_found", "_law_base", "_law_number"] ["_law_well_here", "_law_many"] (defScope s_law_draw) := ⟨rfl, rfl, rfl, by decide +kernel, rfl, by decide +kernel, by decide +kernel⟩
theorem ok_law_draw0 (D : Dfn K mg "_law_draw" s_law_draw (["_law_well_here", "_law_many"])) (B : Blt mg) : Gd c.P c.w K mg base 1 "_law_draw" (["_law_well_here", "_law_many"]) (sp_law_draw0 c) := by
  refine D.ok sc_law_draw (fun vs H Q E h => ?_) (fun fa cdv A outer s H vs Q E hr h => ?_)
  · obtain ⟨F, wl, n, many, rfl, _⟩ := h
    rfl
  obtain ⟨F, wl, n, many, rfl, kn, fw, ⟨x0, x1, x2, hw, h0, h2, h2n⟩, hn, hm0, hm1, q⟩ := h
  refine ⟨_, (pss_cons (ps_if (pt_cmpR op_gt (pe_ix ix_list (pv 0) pe_int (fun _ _ => rfl)) pe_int (nomark _)) (pss_cons (ps_set (i := 2) sc_law_draw.nd rfl (Or.inl rfl) (pe_op op_mod (pe_ix ix_list (pv 0) pe_int (fun _ _ => rfl)) (pv 1))) (pss_cons (ps_asg (pe_op op_fdivW (pe_ix ix_list (pv 0) pe_int (fun _ _ => rfl)) (pv 1)) (pg_sub (pv 0) pe_int set_list)) (pss_one (ps_ret (pv 2))))) pss_nil) (pss_cons (ps_asg (pe_op op_add (pe_ix ix_list (pv 0) pe_int (fun _ _ => rfl)) pe_int) (pg_sub (pv 0) pe_int set_list)) (pss_cons (ps_set (i := 3) sc_law_draw.nd rfl (Or.inl rfl) (pe_op op_add (pe_op op_mod (pe_ix ix_list (pv 0) pe_int (fun _ _ => rfl)) pe_int) (pe_op op_mod (pe_op op_fdivW (pe_ix ix_list (pv 0) pe_int (fun _ _ => rfl)) pe_int) pe_int))) (pss_cons (ps_set (i := 4) sc_law_draw.nd rfl (Or.inl rfl) (pe_op op_mod (pe_op op_pow (pe_op op_add (pe_op op_add (pv 3) (pe_op op_mul pe_int (pe_ix ix_list (pv 0) pe_int (fun _ _ => rfl)))) pe_int) pe_int) pe_int)) (pss_cons (ps_set (i := 4) sc_law_draw.nd rfl (Or.inl rfl) (pe_op op_mod (pe_op op_mul (pv 4) (pe_op op_add (pe_op op_add (pe_op op_fdivW (pv 4) pe_int) pe_int) (pe_ix ix_list (pv 0) pe_int (fun _ _ => rfl)))) pe_int)) (pss_one (ps_ret (pe_op op_mod (pe_op op_mod (pe_op op_mul (pv 4) (pe_op op_add (pe_op op_fdivW (pv 4) pe_int) pe_int)) pe_int) (pv 1))))))))), ?_⟩
  have hmi : (0 : Int) < (many : Int) := by omega
  have res : ∀ (y0 : Int) (v : Int) (y2 : Int), 0 ≤ y0 → 0 ≤ y2 → y2 ≤ (n : Int) + 1 → 0 ≤ v → v < many → Q (.int v) (upd H wl (.lst [.int y0, .int x1, .int y2])) := fun y0 v y2 g0 g1 g2 g3 g4 => by
    have := q (upd H wl (.lst [.int y0, .int x1, .int y2])) v.toNat (by omega) (.set kn fw hw (nx_lst _) (nt_lst _) rfl) ⟨y0, x1, y2, upd_same, g0, g1, by omega⟩
    rw [Int.toNat_of_nonneg g3] at this
    exact this
  refine ⟨_, rfl, wl, _, 0, .int x0, rfl, rfl, SqL.of hw, atI_nat (i := 0) rfl, _, _, rfl, rfl, _, rfl, ?_⟩
  refine ite2 (fun h => ?_) (fun h => ?_)
  · have hd : CDivW x0 (many : Int) := by
      refine ⟨hmi, ?_⟩
      have : ((many : Int).natAbs).log2 < 64 := (Nat.log2_lt (by omega)).mpr (by show many < 2 ^ 64; exact hm1)
      omega
    refine ⟨_, rfl, wl, _, 0, .int x0, rfl, rfl, SqL.of hw, atI_nat (i := 0) rfl, _, rfl, _, _, rfl, rfl, hmi, ?_⟩
    refine ⟨_, rfl, wl, _, 0, .int x0, rfl, rfl, SqL.of hw, atI_nat (i := 0) rfl, _, rfl, _, _, rfl, rfl, hd, _, rfl, wl, _, 0, 0, rfl, rfl, hw, rfl, ?_⟩
    exact ⟨_, rfl, res _ _ _ (Int.ediv_nonneg h0 (by omega)) h2 (by omega) (Int.emod_nonneg _ (by omega)) (Int.emod_lt_of_pos _ hmi)⟩
  · refine ⟨_, rfl, wl, _, 2, .int x2, rfl, rfl, SqL.of hw, atI_nat (i := 2) rfl, _, _, rfl, rfl, _, rfl, wl, _, 2, 2, rfl, rfl, hw, rfl, ?_⟩
    have hw1 : upd H wl (.lst (([V.int x0, V.int x1, V.int x2] : List V).set 2 (V.int (x2 + 1)))) wl = some (.lst [.int x0, .int x1, .int (x2 + 1)]) := upd_same
    have r1 : ∀ v : Int, 0 ≤ v → v < many → Q (.int v) (upd H wl (.lst (([V.int x0, V.int x1, V.int x2] : List V).set 2 (V.int (x2 + 1))))) := fun v g0 g1 => res x0 v (x2 + 1) h0 (by omega) (by omega) g0 g1
    show tSeq _ _ _ _ (upd H wl (.lst (([V.int x0, V.int x1, V.int x2] : List V).set 2 (V.int (x2 + 1)))))
    generalize upd H wl (.lst (([V.int x0, V.int x1, V.int x2] : List V).set 2 (V.int (x2 + 1)))) = H1 at *
    have e1 : (0 : Int) < 2147483629 := by decide
    have e2 : (0 : Int) < 65521 := by decide
    have a1 := Int.emod_nonneg x1 (show (2147483629 : Int) ≠ 0 by decide)
    have a2 := Int.emod_lt_of_pos x1 e1
    have a3 := Int.emod_nonneg (x1 / 2147483629) (show (65521 : Int) ≠ 0 by decide)
    have a4 := Int.emod_lt_of_pos (x1 / 2147483629) e2
    refine ⟨_, rfl, wl, _, 1, .int x1, rfl, rfl, SqL.of hw1, atI_nat (i := 1) rfl, _, _, rfl, rfl, e1, _, rfl, wl, _, 1, .int x1, rfl, rfl, SqL.of hw1, atI_nat (i := 1) rfl, _, _, rfl, rfl, cdw (m := 2147483629) (by decide) (by decide), _, _, rfl, rfl, e2, _, _, rfl, rfl, ?_⟩
    refine ⟨_, rfl, _, rfl, wl, _, 2, .int (x2 + 1), rfl, rfl, SqL.of hw1, atI_nat (i := 2) rfl, _, _, rfl, rfl, cmul_l (by decide) (by decide), _, _, rfl, rfl, _, _, rfl, rfl, _, _, rfl, rfl, cpow_5 ?_ ?_, _, _, rfl, rfl, ?_, ?_⟩
    · show 0 ≤ x1 % 2147483629 + x1 / 2147483629 % 65521 + 7919 * (x2 + 1) + 1
      omega
    · show x1 % 2147483629 + x1 / 2147483629 % 65521 + 7919 * (x2 + 1) + 1 < _
      omega
    · show (0 : Int) < 2147483647
      decide
    obtain ⟨m1, hm1'⟩ : ∃ m1, m1 = (x1 % 2147483629 + x1 / 2147483629 % 65521 + 7919 * (x2 + 1) + 1) ^ (5 : Int).toNat % 2147483647 := ⟨_, rfl⟩
    have b1 : 0 ≤ m1 := by rw [hm1']; exact Int.emod_nonneg _ (by decide)
    have b2 : m1 < 2147483647 := by rw [hm1']; exact Int.emod_lt_of_pos _ (by decide)
    refine ⟨_, rfl, _, rfl, _, _, rfl, rfl, cdw (m := 1009) (by decide) (by decide), _, _, rfl, rfl, _, rfl, wl, _, 2, .int (x2 + 1), rfl, rfl, SqL.of hw1, atI_nat (i := 2) rfl, _, _, rfl, rfl, _, _, rfl, rfl, cmul_l ?_ ?_, _, _, rfl, rfl, ?_, ?_⟩
    · show 0 ≤ (x1 % 2147483629 + x1 / 2147483629 % 65521 + 7919 * (x2 + 1) + 1) ^ (5 : Int).toNat % 2147483647
      rw [← hm1']; exact b1
    · show (x1 % 2147483629 + x1 / 2147483629 % 65521 + 7919 * (x2 + 1) + 1) ^ (5 : Int).toNat % 2147483647 < _
      rw [← hm1']; exact Int.lt_trans b2 (by decide)
    · show (0 : Int) < 2147483629
      decide
    refine ⟨_, rfl, _, rfl, _, _, rfl, rfl, cdw (m := 2003) (by decide) (by decide), _, _, rfl, rfl, _, _, rfl, rfl, cmul_l ?_ ?_, _, _, rfl, rfl, ?_, _, rfl, _, _, rfl, rfl, hmi, ?_⟩
    · exact Int.emod_nonneg _ (by decide)
    · exact Int.lt_trans (Int.emod_lt_of_pos _ (show (0 : Int) < 2147483629 by decide)) (by decide)
    · show (0 : Int) < 2147483399
      decide
    · exact r1 _ (Int.emod_nonneg _ (by omega)) (Int.emod_lt_of_pos _ hmi)
@[irreducible] def sp_law_draw (c : Cfg) : Sp := sp_law_draw0 c
theorem sp_law_draw_of {c : Cfg} {vs : List V} {H : Hp} {Q : VK} {E : XK} (h : sp_law_draw0 c vs H Q E) : sp_law_draw c vs H Q E := by
  unfold sp_law_draw
  exact h
theorem ok_law_draw (D : Dfn K mg "_law_draw" s_law_draw (["_law_well_here", "_law_many"])) (B : Blt mg) : Gd c.P c.w K mg base 1 "_law_draw" (["_law_well_here", "_law_many"]) (sp_law_draw c) := (ok_law_draw0 D B).imp fun vs H Q E h => by
  unfold sp_law_draw at h
  exact h
end
end K60
namespace K60
open PySem PySem.Spec PyProof.Rows L2 LamX
/-- the well as it stands -/
structure WK (c : Cfg) (F H : Hp) (wl : Addr) (n : Nat) : Prop where
  kn : Kn F H
  fw : F wl = none
  wl : Wl H wl n
theorem WK.step {c : Cfg} {S : Addr → Prop} {F H F' H' : Hp} {wl : Addr} {n : Nat} (h : WK c F H wl n) (s : Stp c.T S F H F' H') (hs : ¬ S wl) : WK c F' H' wl n :=
  let ⟨a, b⟩ := h.wl.step h.fw s hs; ⟨s.kn, a, b⟩
theorem WK.mono {c : Cfg} {F H : Hp} {wl : Addr} {n n' : Nat} (h : WK c F H wl n) (e : n ≤ n') : WK c F H wl n' := ⟨h.kn, h.fw, h.wl.mono e⟩
theorem WK.hd {c : Cfg} {F H : Hp} {wl : Addr} {n : Nat} (h : WK c F H wl n) : ∃ o, H wl = some (.lst o) := let ⟨x0, x1, x2, e, _⟩ := h.wl; ⟨_, e⟩
theorem WK.put {c : Cfg} {F H : Hp} {wl D : Addr} {n : Nat} {o : HO} (h : WK c F H wl n) (hne : wl ≠ D) (fD : F D = none) : WK c F (upd H D o) wl n :=
  ⟨h.kn.put fD, h.fw, let ⟨x0, x1, x2, e, r⟩ := h.wl; ⟨x0, x1, x2, by rw [upd_ne hne]; exact e, r⟩⟩
/-- a draw: what follows it -/
theorem WK.draw {c : Cfg} {F H : Hp} {wl : Addr} {n many : Nat} {z : Int} {Q : VK} (h : WK c F H wl n) (hn : n ≤ 100000) (hz : z = (many : Int)) (hm0 : 0 < many) (hm1 : many < 2 ^ 64) (q : ∀ H' (v : Nat), v < many → Stp c.T (fun b => b = wl) F H F H' → WK c F H' wl (n + 1) → Q (.int (v : Int)) H') :
    sp_law_draw c [.ref wl, .int z] H Q E0 := by
  subst hz
  exact sp_law_draw_of ⟨F, wl, n, many, rfl, h.kn, h.fw, h.wl, hn, hm0, hm1, fun H' v hv st w => q H' v hv st ⟨st.kn, h.fw, w⟩⟩
def sp_law_one0 (c : Cfg) : Sp := fun vs H Q _ => ∃ (F : Hp) (wl a : Addr) (n : Nat) (xs : List V), vs = [.ref wl, .ref a] ∧ WK c F H wl n ∧ n ≤ 100000 ∧ H a = some (.lst xs) ∧ a ≠ wl ∧ 0 < xs.length ∧ xs.length ≤ 1000 ∧
  ∀ H' (i : Nat) x, xs[i]? = some x → Stp c.T (fun b => b = wl) F H F H' → WK c F H' wl (n + 1) → Q x H'
def sp_law_signs (c : Cfg) : Sp := fun vs H Q _ => ∃ (F : Hp) (wl : Addr) (n many : Nat), vs = [.ref wl, .int (many : Int)] ∧ WK c F H wl n ∧ n ≤ 10000 ∧ many ≤ 5 ∧
  ∀ F' H' a (sg : List Nat), Stp c.T (fun b => b = wl) F H F' H' → WK c F' H' wl (n + 1) → F' a = some (.lst ((sg.map fun l => wrd [l]).map V.str)) → sg.length = many → sg.Nodup → (∀ l ∈ sg, lowL l) → Q (.ref a) H'
def sp_law_names (c : Cfg) : Sp := fun vs H Q _ => ∃ (F : Hp) (wl : Addr) (n many : Nat), vs = [.ref wl, .int (many : Int)] ∧ WK c F H wl n ∧ n ≤ 10000 ∧ many ≤ 5 ∧
  ∀ F' H' a (ns : List Str), Stp c.T (fun b => b = wl) F H F' H' → WK c F' H' wl (n + 20) → F' a = some (.lst (ns.map V.str)) → ns.length = many → ns.Nodup → (∀ X ∈ ns, nmOk X) → Q (.ref a) H'
def sp_law_mixed (c : Cfg) : Sp := fun vs H Q _ => ∃ (F : Hp) (wl a : Addr) (n : Nat) (ns : List Str), vs = [.ref wl, .ref a] ∧ WK c F H wl n ∧ n ≤ 10000 ∧ F a = some (.lst (ns.map V.str)) ∧ ns.length ≤ 5 ∧
  ∀ F' H' b (ms : List Str), Stp c.T (fun b => b = wl) F H F' H' → WK c F' H' wl (n + 10) → F' b = some (.lst (ms.map V.str)) → ms.Perm ns → Q (.ref b) H'
theorem map_erase {α β : Type} (f : α → β) : ∀ (l : List α) (i : Nat), (l.map f).eraseIdx i = (l.eraseIdx i).map f
  | [], _ => rfl
  | x :: r, 0 => rfl
  | x :: r, i + 1 => by
    show f x :: (r.map f).eraseIdx i = f x :: (r.eraseIdx i).map f
    rw [map_erase f r i]
theorem erase_perm {α : Type} : ∀ {l : List α} {i : Nat} (h : i < l.length), (l[i] :: l.eraseIdx i).Perm l
  | [], _, h => absurd h (Nat.not_lt_zero _)
  | x :: r, 0, h => .refl _
  | x :: r, i + 1, h => by
    have h' : i < r.length := by rw [List.length_cons] at h; omega
    show (r[i] :: x :: r.eraseIdx i).Perm (x :: r)
    exact (List.Perm.swap ..).trans ((erase_perm h').cons x)
theorem alp_at {i : Nat} (h : i < 26) : atI (("abcdefghijklmnopqrstuvwxyz" : Str)).cps.toList (i : Int) = some (97 + i) := by
  refine atI_nat ?_
  have e : (("abcdefghijklmnopqrstuvwxyz" : Str)).cps.toList = (List.range 26).map (97 + ·) := by decide +kernel
  rw [e, List.getElem?_map, List.getElem?_range h]
  rfl
theorem alp12_at {i : Nat} (h : i < 12) : atI (("abcdefghijkl" : Str)).cps.toList (i : Int) = some (97 + i) := by
  refine atI_nat ?_
  have e : (("abcdefghijkl" : Str)).cps.toList = (List.range 12).map (97 + ·) := by decide +kernel
  rw [e, List.getElem?_map, List.getElem?_range h]
  rfl
section
variable {c : Cfg} {K : PySem.W.Frag} {mg : Str → Option Value} {base : Heap}
theorem sc_law_one : FnScope ["_law_well_here", "_law_some"] ["_law_well_here", "_law_some"] (defScope s_law_one) := ⟨rfl, rfl, rfl, by decide +kernel, rfl, by decide +kernel, by decide +kernel⟩
theorem ok_law_one0 (D : Dfn K mg "_law_one" s_law_one (["_law_well_here", "_law_some"])) (B : Blt mg) (G_law_draw : Gd c.P c.w K mg base 1 "_law_draw" (["_law_well_here", "_law_many"]) (sp_law_draw c)) : Gd c.P c.w K mg base 2 "_law_one" (["_law_well_here", "_law_some"]) (sp_law_one0 c) := by
  refine D.ok sc_law_one (fun vs H Q E h => ?_) (fun fa cdv A outer s H vs Q E hr h => ?_)
  · obtain ⟨F, wl, a, n, xs, rfl, _⟩ := h
    rfl
  obtain ⟨F, wl, a, n, xs, rfl, W, hn, ha, hne, h0, h1, q⟩ := h
  refine ⟨_, (pss_one (ps_ret (pe_ix ix_list (pv 1) (pe_g G_law_draw hr (by rfl) (pa_cons (pv 0) (pa_cons (pe_callB call_len_seq (by rfl) B.len PySem.boot_len (pa_cons (pv 1) pa_nil)) pa_nil))) (fun _ _ => rfl)))), ?_⟩
  refine ⟨_, rfl, _, rfl, _, rfl, a, _, rfl, .inl (SqL.of ha), ?_⟩
  refine W.draw hn rfl h0 (Nat.lt_of_le_of_lt h1 (by decide)) fun H' v hv st W' => ?_
  have ha' := st.stay W.kn ha (nt_lst _) hne
  exact ⟨a, xs, (v : Int), xs[v], rfl, rfl, SqL.of ha', atI_nat (List.getElem?_eq_getElem hv), q H' v _ (List.getElem?_eq_getElem hv) st W'⟩
@[irreducible] def sp_law_one (c : Cfg) : Sp := sp_law_one0 c
theorem sp_law_one_of {c : Cfg} {vs : List V} {H : Hp} {Q : VK} {E : XK} (h : sp_law_one0 c vs H Q E) : sp_law_one c vs H Q E := by
  unfold sp_law_one
  exact h
theorem ok_law_one (D : Dfn K mg "_law_one" s_law_one (["_law_well_here", "_law_some"])) (B : Blt mg) (G_law_draw : Gd c.P c.w K mg base 1 "_law_draw" (["_law_well_here", "_law_many"]) (sp_law_draw c)) : Gd c.P c.w K mg base 2 "_law_one" (["_law_well_here", "_law_some"]) (sp_law_one c) := (ok_law_one0 D B G_law_draw).imp fun vs H Q E h => by
  unfold sp_law_one at h
  exact h
theorem sc_law_signs : FnScope ["_law_well_here", "_law_many", "_law_first", "_law_k"] ["_law_well_here", "_law_many"] (defScope s_law_signs) := ⟨rfl, rfl, rfl, by decide +kernel, rfl, by decide +kernel, by decide +kernel⟩
theorem ok_law_signs (D : Dfn K mg "_law_signs" s_law_signs (["_law_well_here", "_law_many"])) (B : Blt mg) (G_law_draw : Gd c.P c.w K mg base 1 "_law_draw" (["_law_well_here", "_law_many"]) (sp_law_draw c)) : Gd c.P c.w K mg base 2 "_law_signs" (["_law_well_here", "_law_many"]) (sp_law_signs c) := by
  refine D.ok sc_law_signs (fun vs H Q E h => ?_) (fun fa cdv A outer s H vs Q E hr h => ?_)
  · obtain ⟨F, wl, n, many, rfl, _⟩ := h
    rfl
  obtain ⟨F, wl, n, many, rfl, W, hn, hm, q⟩ := h
  refine ⟨_, (pss_cons (ps_set (i := 2) sc_law_signs.nd rfl (Or.inr rfl) (pe_g G_law_draw hr (by rfl) (pa_cons (pv 0) (pa_cons pe_int pa_nil)))) (pss_one (ps_ret (pe_lc (own := [("_law_k", 3)]) (wi := (iRng1 (tCons (tVar 1) tNil))) (g := (gName 3)) (tt := tYes) (te := (tOp rIxS (tC (.str "abcdefghijklmnopqrstuvwxyz")) (tOp rModI (tOp rAddI (tVar 2) (tOp rMulI (tC (.int 5)) (tVar 3))) (tC (.int 26))))) rfl sc_law_signs.nd (pi_range1 (by rfl) B.range (pa_cons (pv 1) pa_nil)) (blkOk_by (own := [("_law_k", 3)]) (N := ["_law_well_here", "_law_many", "_law_first", "_law_k"]) (sc := defScope s_law_signs) (by decide +kernel)) (fun _ _ _ _ _ => (pg_name (i := 3) sc_law_signs.nd rfl (Or.inl rfl))) (fun _ _ _ _ _ => pts_nil) (fun _ _ _ _ _ => (pe_ix ix_str pe_str (pe_op op_mod (pe_op op_add (pv 2) (pe_op op_mul pe_int (pv 3))) pe_int) (fun _ _ => rfl))))))), ?_⟩
  refine ⟨_, rfl, ?_⟩
  refine W.draw (many := 26) (by omega) rfl (by decide) (by decide) fun H1 f hf st1 W1 => ?_
  refine ⟨_, rfl, (many : Int), rfl, rng_lo (by omega), rng_hi (by omega), fun Dl hDl => ?_⟩
  rw [show ((many : Nat) : Int).toNat = many by omega]
  have okl : IvOk (IvE fun i => (List.range i).map fun k => 97 + (f + 5 * k) % 26) many S0 H1 Dl := ivE_ok (fun i => by rw [List.length_map, List.length_range]; exact Nat.le_refl _) (szl (by omega)) (fun h => h) hDl
  refine lc_F (T := c.T) (S := S0) (walk_range (lo := 0) (n := many)) letP _ st1.kn okl rfl (fun _ _ _ _ _ _ _ _ => trivial) ?_ ?_
  · rintro j x F5 H5 H' ys hj cu ⟨rfl, rfl⟩
    refine ⟨rfl, ?_⟩
    have hb : (f + 5 * j) % 26 < 26 := Nat.mod_lt _ (by decide)
    refine ⟨_, rfl, _, rfl, _, _, rfl, rfl, cmul_l (by decide) (by decide), _, _, rfl, rfl, _, _, rfl, rfl, ?_, _, _, 97 + (f + 5 * j) % 26, rfl, rfl, by decide, ?_, ?_⟩
    · show (0 : Int) < 26
      decide
    · rw [← alp_at hb]
      refine congrArg (atI _) ?_
      show ((f : Int) + 5 * (0 + ((j : Nat) : Int))) % 26 = _
      omega
    · refine cu.put okl hj (.refl cu.kn) (z := 97 + (f + 5 * j) % 26) rfl ?_
      show ys ++ [_] = (List.range (j + 1)).map _
      rw [List.range_succ, List.map_append, show ys = _ from cu.iv]
      rfl
  · intro F5 H5 ys us5 st5 fD hd' pr' iv
    rw [show ys = (List.range many).map _ from iv] at pr'
    have e5 := lets_of pr'
    rw [e5] at hd'
    have W5 := W1.step st5 (fun h => h)
    have st6 := st5.freeze (.of hDl) hd' (nt_lst _)
    refine q _ H5 Dl _ (st1.trans (st6.wide fun b h => h.elim)) (W1.step st6 (fun h => h)) upd_same ?_ ?_ ?_
    · rw [List.length_map, List.length_range]
    · refine List.Pairwise.map _ ?_ (R := fun a b => a ∈ List.range many ∧ b ∈ List.range many ∧ a < b) ?_
      · intro a b hab e
        obtain ⟨h1, h2, h3⟩ := hab
        have := List.mem_range.mp h1
        have := List.mem_range.mp h2
        omega
      · rw [List.pairwise_iff_getElem]
        intro i j hi hj hij
        rw [List.getElem_range, List.getElem_range]
        rw [List.length_range] at hi hj
        exact ⟨List.mem_range.mpr hi, List.mem_range.mpr hj, hij⟩
    · intro l hl
      obtain ⟨k, _, rfl⟩ := List.mem_map.mp hl
      have : (f + 5 * k) % 26 < 26 := Nat.mod_lt _ (by decide)
      exact ⟨by omega, by omega⟩
/-- a comprehension that draws -/
def IvW (c : Cfg) (wl : Addr) (n : Nat) {α : Type} (q : Nat → List α → Prop) : Nat → Hp → Hp → List α → Prop := fun i F H ys => ys.length ≤ i ∧ q i ys ∧ WK c F H wl (n + i)
theorem ivW_ok {wl D : Addr} {n m : Nat} {α : Type} {q : Nat → List α → Prop} {H1 : Hp} {o : List V} (hn : m ≤ sizeLine) (hd : H1 wl = some (.lst o)) (hD : H1 D = none) : IvOk (IvW c wl n q) m (fun b => b = wl) H1 D := by
  have nd : wl ≠ D := fun z => by rw [z, hD] at hd; cases hd
  exact ⟨fun i F H ys o' h hf => ⟨h.1, h.2.1, h.2.2.put nd hf⟩, fun i F H ys h => h.1, hn, fun z => nd z.symm, hD⟩
theorem sc_law_names : FnScope ["_law_well_here", "_law_many", "_law_stem", "_law_first", "_law_k"] ["_law_well_here", "_law_many"] (defScope s_law_names) := ⟨rfl, rfl, rfl, by decide +kernel, rfl, by decide +kernel, by decide +kernel⟩
theorem ok_law_names (D : Dfn K mg "_law_names" s_law_names (["_law_well_here", "_law_many"])) (B : Blt mg) (G_law_draw : Gd c.P c.w K mg base 1 "_law_draw" (["_law_well_here", "_law_many"]) (sp_law_draw c)) : Gd c.P c.w K mg base 2 "_law_names" (["_law_well_here", "_law_many"]) (sp_law_names c) := by
  refine D.ok sc_law_names (fun vs H Q E h => ?_) (fun fa cdv A outer s H vs Q E hr h => ?_)
  · obtain ⟨F, wl, n, many, rfl, _⟩ := h
    rfl
  obtain ⟨F, wl, n, many, rfl, W, hn, hm, q⟩ := h
  refine ⟨_, (pss_cons (ps_set (i := 2) sc_law_names.nd rfl (Or.inr rfl) (pe_join pe_str (pe_lc (own := [("_law_k", 4)]) (wi := (iRng1 (tCons (tG (sp_law_draw c) (tCons (tVar 0) (tCons (tC (.int 6)) tNil))) tNil))) (g := (gName 4)) (tt := tYes) (te := (tOp rIxS (tC (.str "abcdefghijklmnopqrstuvwxyz")) (tG (sp_law_draw c) (tCons (tVar 0) (tCons (tC (.int 26)) tNil))))) rfl sc_law_names.nd (pi_range1 (by rfl) B.range (pa_cons (pe_g G_law_draw hr (by rfl) (pa_cons (pv 0) (pa_cons pe_int pa_nil))) pa_nil)) (blkOk_by (own := [("_law_k", 4)]) (N := ["_law_well_here", "_law_many", "_law_stem", "_law_first", "_law_k"]) (sc := defScope s_law_names) (by decide +kernel)) (fun _ _ _ _ _ => (pg_name (i := 4) sc_law_names.nd rfl (Or.inl rfl))) (fun _ _ _ _ _ => pts_nil) (fun _ _ _ _ _ => (pe_ix ix_str pe_str (pe_g G_law_draw hr (by rfl) (pa_cons (pv 0) (pa_cons pe_int pa_nil))) (fun _ _ => rfl)))))) (pss_cons (ps_set (i := 3) sc_law_names.nd rfl (Or.inr rfl) (pe_g G_law_draw hr (by rfl) (pa_cons (pv 0) (pa_cons pe_int pa_nil)))) (pss_one (ps_ret (pe_lc (own := [("_law_k", 4)]) (wi := (iRng1 (tCons (tVar 1) tNil))) (g := (gName 4)) (tt := tYes) (te := (tOp rAddS (tVar 2) (tOp rIxS (tC (.str "abcdefghijkl")) (tOp rModI (tOp rAddI (tVar 3) (tOp rMulI (tC (.int 5)) (tVar 4))) (tC (.int 12)))))) rfl sc_law_names.nd (pi_range1 (by rfl) B.range (pa_cons (pv 1) pa_nil)) (blkOk_by (own := [("_law_k", 4)]) (N := ["_law_well_here", "_law_many", "_law_stem", "_law_first", "_law_k"]) (sc := defScope s_law_names) (by decide +kernel)) (fun _ _ _ _ _ => (pg_name (i := 4) sc_law_names.nd rfl (Or.inl rfl))) (fun _ _ _ _ _ => pts_nil) (fun _ _ _ _ _ => (pe_op op_add_str (pv 2) (pe_ix ix_str pe_str (pe_op op_mod (pe_op op_add (pv 3) (pe_op op_mul pe_int (pv 4))) pe_int) (fun _ _ => rfl))))))))), ?_⟩
  refine ⟨⟨_, rfl⟩, _, rfl, ?_⟩
  refine W.draw (many := 6) (by omega) rfl (by decide) (by decide) fun H1 e he st1 W1 => ?_
  refine ⟨(e : Int), rfl, rng_lo (by omega), rng_hi (by omega), fun Dl hDl => ?_⟩
  rw [show ((e : Nat) : Int).toNat = e by omega]
  obtain ⟨o1, hw1⟩ := W1.hd
  have okl : IvOk (IvW c wl (n + 1) fun i (ys : List Nat) => ∀ l ∈ ys, lowL l) e (fun b => b = wl) H1 Dl := ivW_ok (szl (by omega)) hw1 hDl
  refine lc_F (T := c.T) (S := fun b => b = wl) (walk_range (lo := 0) (n := e)) letP _ st1.kn okl ⟨Nat.le_refl _, fun _ h => (nomatch h), W1⟩ (fun _ _ _ _ _ _ _ _ => trivial) ?_ ?_
  · rintro j x F5 H5 H' ys hj cu ⟨rfl, rfl⟩
    obtain ⟨g1, g2, W5⟩ := cu.iv
    refine ⟨rfl, ?_⟩
    refine ⟨_, rfl, ?_⟩
    refine W5.draw (many := 26) (by omega) rfl (by decide) (by decide) fun H6 v hv st6 W6 => ?_
    refine ⟨_, _, 97 + v, rfl, rfl, by decide, alp_at hv, ?_⟩
    refine cu.put okl hj st6 (z := 97 + v) rfl ⟨?_, ?_, W6⟩
    · rw [List.length_append, List.length_singleton]; omega
    · intro l hl
      rcases List.mem_append.mp hl with h | h
      · exact g2 l h
      · rw [List.mem_singleton.mp h]; exact ⟨by omega, by omega⟩
  · intro F5 H5 stm us5 st5 fD hd' pr' iv
    obtain ⟨g1, g2, W5⟩ := iv
    have e5 := lets_of pr'
    have ef : (stm.map fun l => [l]).flatten = stm := by
      clear g1 g2 pr' e5
      induction stm with
      | nil => rfl
      | cons x r ih => rw [List.map_cons, List.flatten_cons, ih]; rfl
    have em : (stm.map fun l => wrd [l]) = (stm.map fun l => [l]).map wrd := by rw [List.map_map]; rfl
    rw [e5, em] at hd'
    refine ⟨"", Dl, (stm.map fun l => [l]).map wrd, rfl, rfl, .inl (SqL.of hd'), ?_, ?_⟩
    · rw [len_sum, ef]
      show _ + _ * 0 ≤ _
      omega
    rw [join_wrd, ef]
    refine ⟨_, rfl, ?_⟩
    refine W5.draw (many := 12) (by omega) rfl (by decide) (by decide) fun H6 f hf st6 W6 => ?_
    refine ⟨_, rfl, (many : Int), rfl, rng_lo (by omega), rng_hi (by omega), fun D2 hD2 => ?_⟩
    rw [show ((many : Nat) : Int).toNat = many by omega]
    have okl2 : IvOk (IvE fun i => (List.range i).map fun k => stm ++ [97 + (f + 5 * k) % 12]) many S0 H6 D2 := ivE_ok (fun i => by rw [List.length_map, List.length_range]; exact Nat.le_refl _) (szl (by omega)) (fun h => h) hD2
    refine lc_F (T := c.T) (S := S0) (walk_range (lo := 0) (n := many)) wordP _ st6.kn okl2 rfl (fun _ _ _ _ _ _ _ _ => trivial) ?_ ?_
    · rintro j x F7 H7 H' ys hj cu ⟨rfl, rfl⟩
      refine ⟨rfl, ?_⟩
      have hb : (f + 5 * j) % 12 < 12 := Nat.mod_lt _ (by decide)
      refine ⟨_, rfl, _, rfl, _, rfl, _, _, rfl, rfl, cmul_l (by decide) (by decide), _, _, rfl, rfl, _, _, rfl, rfl, ?_, _, _, 97 + (f + 5 * j) % 12, rfl, rfl, by decide, ?_, _, _, rfl, rfl, ?_, ?_⟩
      · show (0 : Int) < 12
        decide
      · rw [← alp12_at hb]
        refine congrArg (atI _) ?_
        show ((f : Int) + 5 * (0 + ((j : Nat) : Int))) % 12 = _
        omega
      · rw [wrd_len]
        show _ + 1 ≤ _
        exact szl (by omega)
      · refine cu.put okl2 hj (.refl cu.kn) (z := stm ++ [97 + (f + 5 * j) % 12]) (congrArg V.str (wrd_app stm [_])) ?_
        show ys ++ [_] = (List.range (j + 1)).map _
        rw [List.range_succ, List.map_append, show ys = _ from cu.iv]
        rfl
    · intro F7 H7 ys us7 st7 fD7 hd7 pr7 iv7
      rw [show ys = (List.range many).map _ from iv7] at pr7
      have e7 := words_of pr7
      rw [e7] at hd7
      have st8 := st7.freeze (.of hD2) hd7 (nt_lst _)
      refine q _ H7 D2 _ ((st1.trans (st5.trans st6)).trans (st8.wide fun b h => h.elim)) ((W6.step st8 (fun h => h)).mono (by omega)) upd_same ?_ ?_ ?_
      · rw [List.length_map, List.length_map, List.length_range]
      · rw [List.map_map]
        refine List.Pairwise.map _ ?_ (R := fun a b => a ∈ List.range many ∧ b ∈ List.range many ∧ a < b) ?_
        · intro a b hab e
          obtain ⟨h1, h2, h3⟩ := hab
          have := List.mem_range.mp h1
          have := List.mem_range.mp h2
          have e' := wrd_inj (show wrd (stm ++ [97 + (f + 5 * a) % 12]) = wrd (stm ++ [97 + (f + 5 * b) % 12]) from e)
          have e2 := List.append_cancel_left e'
          have e3 := (List.cons.inj e2).1
          omega
        · rw [List.pairwise_iff_getElem]
          intro i j hi hj hij
          rw [List.getElem_range, List.getElem_range]
          rw [List.length_range] at hi hj
          exact ⟨List.mem_range.mpr hi, List.mem_range.mpr hj, hij⟩
      · intro X hX
        rw [List.map_map] at hX
        obtain ⟨k, _, rfl⟩ := List.mem_map.mp hX
        have hk : (f + 5 * k) % 12 < 12 := Nat.mod_lt _ (by decide)
        have hl : (wrd (stm ++ [97 + (f + 5 * k) % 12])).length = stm.length + 1 := by rw [wrd_len, List.length_append, List.length_singleton]
        refine ⟨fun l hl => ?_, ?_, ?_, fun h => ?_⟩
        · have hl : l ∈ stm ++ [97 + (f + 5 * k) % 12] := by
            have : l ∈ (stm ++ [97 + (f + 5 * k) % 12]).toArray.toList := hl
            simpa using this
          rcases List.mem_append.mp hl with h | h
          · exact g2 l h
          · rw [List.mem_singleton.mp h]; exact ⟨by omega, by omega⟩
        · show 1 ≤ (wrd (stm ++ [97 + (f + 5 * k) % 12])).length
          omega
        · show (wrd (stm ++ [97 + (f + 5 * k) % 12])).length ≤ 8
          omega
        · have e : ("names" : Str) = wrd [110, 97, 109, 101, 115] := by decide +kernel
          have h : wrd (stm ++ [97 + (f + 5 * k) % 12]) = ("names" : Str) := h
          rw [e] at h
          have h2 := congrArg List.getLast? (wrd_inj h)
          rw [List.getLast?_append] at h2
          have h3 : 97 + (f + 5 * k) % 12 = 115 := by simpa using h2
          omega
theorem sc_law_mixed : FnScope ["_law_well_here", "_law_some", "_law_left", "_law_k"] ["_law_well_here", "_law_some"] (defScope s_law_mixed) := ⟨rfl, rfl, rfl, by decide +kernel, rfl, by decide +kernel, by decide +kernel⟩
theorem ok_law_mixed (D : Dfn K mg "_law_mixed" s_law_mixed (["_law_well_here", "_law_some"])) (B : Blt mg) (G_law_draw : Gd c.P c.w K mg base 1 "_law_draw" (["_law_well_here", "_law_many"]) (sp_law_draw c)) : Gd c.P c.w K mg base 2 "_law_mixed" (["_law_well_here", "_law_some"]) (sp_law_mixed c) := by
  refine D.ok sc_law_mixed (fun vs H Q E h => ?_) (fun fa cdv A outer s H vs Q E hr h => ?_)
  · obtain ⟨F, wl, a, n, ns, rfl, _⟩ := h
    rfl
  obtain ⟨F, wl, a, n, ns, rfl, W, hn, ha, hl, q⟩ := h
  refine ⟨_, (pss_cons (ps_set (i := 2) sc_law_mixed.nd rfl (Or.inr rfl) (pe_callTy call_list_of (by rfl) B.list (by decide +kernel) (pa_cons (pv 1) pa_nil))) (pss_one (ps_ret (pe_lc (own := [("_law_k", 3)]) (wi := (iRng1 (tCons (tCB (rLenSeq K) (tCons (tVar 1) tNil)) tNil))) (g := (gName 3)) (tt := tYes) (te := (tBM K "list" rPopAt (tVar 2) (tCons (tG (sp_law_draw c) (tCons (tVar 0) (tCons (tCB (rLenSeq K) (tCons (tVar 2) tNil)) tNil))) tNil))) rfl sc_law_mixed.nd (pi_range1 (by rfl) B.range (pa_cons (pe_callB call_len_seq (by rfl) B.len PySem.boot_len (pa_cons (pv 1) pa_nil)) pa_nil)) (blkOk_by (own := [("_law_k", 3)]) (N := ["_law_well_here", "_law_some", "_law_left", "_law_k"]) (sc := defScope s_law_mixed) (by decide +kernel)) (fun _ _ _ _ _ => (pg_name (i := 3) sc_law_mixed.nd rfl (Or.inl rfl))) (fun _ _ _ _ _ => pts_nil) (fun _ _ _ _ _ => (pe_bm PySem.F.plainAttrs_list PySem.F.slot_list_pop PySem.F.type_list_pop mt_popAt (pv 2) (pa_cons (pe_g G_law_draw hr (by rfl) (pa_cons (pv 0) (pa_cons (pe_callB call_len_seq (by rfl) B.len PySem.boot_len (pa_cons (pv 2) pa_nil)) pa_nil))) pa_nil))))))), ?_⟩
  have kn := W.kn
  refine ⟨_, rfl, a, _, rfl, .inl (SqL.of (kn _ _ ha).1), fun L hL => ?_⟩
  have st1 : Stp c.T S0 F H F (upd H L (.lst (ns.map V.str))) := .mut kn hL
  have hL1 : upd H L (.lst (ns.map V.str)) L = some (.lst (ns.map V.str)) := upd_same
  have fL : F L = none := kn.off hL
  have W1 := W.step st1 (fun h => h)
  obtain ⟨o0, hw0⟩ := W.hd
  have nwL : wl ≠ L := ne_of_none hw0 hL
  generalize upd H L (.lst (ns.map V.str)) = H1 at *
  obtain ⟨o1, hw1⟩ := W1.hd
  refine ⟨_, rfl, a, _, rfl, .inl (SqL.of (st1.kn _ _ ha).1), (ns.length : Int), by rw [List.length_map], rng_lo (by omega), rng_hi (by omega), fun Dl hDl => ?_⟩
  rw [show ((ns.length : Nat) : Int).toNat = ns.length by omega]
  have nwD : wl ≠ Dl := ne_of_none hw1 hDl
  have nLD : L ≠ Dl := ne_of_none hL1 hDl
  let Iv : Nat → Hp → Hp → List Str → Prop := fun i F H ys => ys.length = i ∧ WK c F H wl (n + i) ∧ F L = none ∧ ∃ ls, H L = some (.lst (ls.map V.str)) ∧ (ys ++ ls).Perm ns
  have okl : IvOk Iv ns.length (fun b => b = wl ∨ b = L) H1 Dl := ⟨fun i F H ys o h hf => ⟨h.1, h.2.1.put nwD hf, h.2.2.1, let ⟨ls, e, p⟩ := h.2.2.2; ⟨ls, by rw [upd_ne nLD]; exact e, p⟩⟩, fun i F H ys h => Nat.le_of_eq h.1, szl (by omega), fun z => z.elim (fun z => nwD z.symm) (fun z => nLD z.symm), hDl⟩
  refine lc_F (T := c.T) (S := fun b => b = wl ∨ b = L) (walk_range (lo := 0) (n := ns.length)) strP Iv st1.kn okl ⟨rfl, W1, fL, ns, hL1, .refl _⟩ (fun _ _ _ _ _ _ _ _ => trivial) ?_ ?_
  · rintro j x F5 H5 H' ys hj cu ⟨rfl, rfl⟩
    obtain ⟨g1, W5, fL5, ls, hL5, pm⟩ := cu.iv
    refine ⟨rfl, ?_⟩
    have hls : ys.length + ls.length = ns.length := by rw [← List.length_append]; exact pm.length_eq
    refine ⟨_, rfl, .inl ⟨rfl, _, SqL.of hL5⟩, _, rfl, _, rfl, L, _, rfl, .inl (SqL.of hL5), ?_⟩
    have hls5 : ls.length ≤ 5 := by omega
    refine W5.draw (many := ls.length) (by omega) ?_ (by omega) (Nat.lt_of_le_of_lt hls5 (by decide)) fun H6 v hv st6 W6 => ?_
    · exact congrArg (fun k : Nat => (k : Int)) (List.length_map _)
    have hL6 := st6.keep L _ (fun z => nwL z.symm) fL5 hL5 (nt_lst _)
    refine ⟨L, _, (v : Int), v, .str ls[v], rfl, rfl, hL6, by omega, by omega, ?_, ?_, ?_⟩
    · rw [List.length_map]
      unfold seqIndex?
      simp
      omega
    · rw [List.getElem?_map, List.getElem?_eq_getElem hv]; rfl
    have st7 : Stp c.T (fun b => b = wl ∨ b = L) F5 H6 F5 (upd H6 L (.lst ((ls.map V.str).eraseIdx v))) := .set st6.kn fL5 hL6 (nx_lst _) (nt_lst _) (.inr rfl)
    have e7 : (ls.map V.str).eraseIdx v = (ls.eraseIdx v).map V.str := map_erase _ _ _
    refine cu.put okl hj ((st6.wide fun b h => .inl h).trans st7) (z := ls[v]) rfl ⟨?_, W6.put nwL fL5, fL5, ls.eraseIdx v, by rw [upd_same, e7], ?_⟩
    · rw [List.length_append, List.length_singleton]; omega
    · rw [List.append_assoc]
      exact (List.Perm.append_left ys (erase_perm hv)).trans pm
  · intro F5 H5 ys us5 st5 fD hd' pr' iv
    obtain ⟨g1, W5, fL5, ls, hL5, pm⟩ := iv
    have e5 := strs_of pr'
    rw [e5] at hd'
    have hls : ys.length + ls.length = ns.length := by rw [← List.length_append]; exact pm.length_eq
    have el : ls = [] := List.length_eq_zero_iff.mp (by omega)
    rw [el, List.append_nil] at pm
    have st6 := st5.freeze (.of hDl) hd' (nt_lst _)
    have W6 : WK c (upd F5 Dl (.lst (ys.map V.str))) H5 wl (n + ns.length) := ⟨st6.kn, by rw [upd_ne nwD]; exact W5.fw, W5.wl⟩
    have sAll : Stp c.T (fun b => b = wl) F H (upd F5 Dl (.lst (ys.map V.str))) H5 := ((st1.wide fun b h => h.elim).trans st6).loc fun b hb => by
      rcases hb with z | z
      · exact .inl z
      · exact .inr (by rw [z]; exact .of hL)
    exact q _ H5 Dl ys sAll (W6.mono (by omega)) upd_same pm
end
end K60
namespace K60
open PySem PySem.Spec PyProof.Rows L2 LamX
structure RsOk (ns : List Str) (sg : List Nat) (rs : List Rul) : Prop where
  mem : ∀ r ∈ rs, r.1 ∈ ns ∧ r.2.1 ∈ sg ∧ (∀ Y ∈ r.2.2, Y ∈ ns) ∧ r.2.2.length ≤ 3
  le4 : ∀ X, (ruR rs X).length ≤ 4
  ndl : ∀ X, ((ruR rs X).map (·.1)).Nodup
  one : ∀ j X, ns[j]? = some X → ∃ q ∈ ruR rs X, ∀ Y ∈ q.2, Y ∈ ns.take j
structure RsP (ns : List Str) (sg : List Nat) (i : Nat) (rs : List Rul) : Prop where
  mem : ∀ r ∈ rs, r.1 ∈ ns ∧ r.2.1 ∈ sg ∧ (∀ Y ∈ r.2.2, Y ∈ ns) ∧ r.2.2.length ≤ 3
  fst : rs.map (·.1) = ns.take i
  one : ∀ j X, j < i → ns[j]? = some X → ∃ q ∈ ruR rs X, ∀ Y ∈ q.2, Y ∈ ns.take j
theorem ruR_none : ∀ {rs : List Rul} {X : Str}, X ∉ rs.map (·.1) → ruR rs X = []
  | [], _, _ => rfl
  | r :: rs, X, h => by
    rw [show r :: rs = [r] ++ rs from rfl, ruR_app, ruR_one, if_neg (fun e => h (List.mem_cons.mpr (.inl e.symm))), ruR_none fun e => h (List.mem_cons_of_mem _ e)]
    rfl
theorem ruR_le1 : ∀ {rs : List Rul}, (rs.map (·.1)).Nodup → ∀ X, (ruR rs X).length ≤ 1
  | [], _, _ => Nat.zero_le _
  | r :: rs, nd, X => by
    have nd' := List.nodup_cons.mp nd
    rw [show r :: rs = [r] ++ rs from rfl, ruR_app, ruR_one]
    by_cases e : r.1 = X
    · rw [if_pos e, ruR_none (by rw [← e]; exact nd'.1)]
      exact Nat.le_refl _
    · rw [if_neg e]
      exact ruR_le1 nd'.2 X
theorem RsP.ok {ns : List Str} {sg : List Nat} {rs : List Rul} (nd : ns.Nodup) (h : RsP ns sg ns.length rs) : RsOk ns sg rs := by
  have h1 : ∀ X, (ruR rs X).length ≤ 1 := ruR_le1 (by rw [h.fst, List.take_length]; exact nd)
  refine ⟨h.mem, fun X => Nat.le_trans (h1 X) (by decide), fun X => ?_, fun j X hj => h.one j X (List.getElem?_eq_some_iff.mp hj).1 hj⟩
  have := h1 X
  match e : ruR rs X with
  | [] => exact List.nodup_nil
  | [q] => exact (List.pairwise_singleton _ _ : ([q.1] : List Nat).Nodup)
  | q :: r :: l => rw [e] at this; simp at this
theorem RsP.snoc {ns : List Str} {sg : List Nat} {i : Nat} {rs : List Rul} {X : Str} {l : Nat} {row : List Str} (h : RsP ns sg i rs) (hX : ns[i]? = some X) (hl : l ∈ sg) (hr : ∀ Y ∈ row, Y ∈ ns.take i) (h3 : row.length ≤ 3) : RsP ns sg (i + 1) (rs ++ [(X, l, row)]) := by
  refine ⟨fun r hr' => ?_, ?_, fun j Y hj hY => ?_⟩
  · rcases List.mem_append.mp hr' with e | e
    · exact h.mem r e
    · rw [List.mem_singleton.mp e]
      exact ⟨List.mem_of_getElem? hX, hl, fun Y hY => List.mem_of_mem_take (hr Y hY), h3⟩
  · rw [List.map_append, h.fst, take_snoc hX]
    rfl
  · rw [ruR_app, ruR_one]
    rcases Nat.lt_succ_iff_lt_or_eq.mp hj with g | g
    · obtain ⟨q, hq, q2⟩ := h.one j Y g hY
      exact ⟨q, List.mem_append.mpr (.inl hq), q2⟩
    · subst g
      rw [hX] at hY
      cases hY
      exact ⟨(l, row), List.mem_append.mpr (.inr (by rw [if_pos rfl]; exact List.mem_singleton.mpr rfl)), hr⟩
theorem RsOk.snoc {ns : List Str} {sg : List Nat} {rs : List Rul} {X : Str} {l : Nat} {row : List Str} (h : RsOk ns sg rs) (hX : X ∈ ns) (hl : l ∈ sg) (hr : ∀ Y ∈ row, Y ∈ ns) (h3 : row.length ≤ 3) (h4 : (ruR rs X).length < 4) (hn : ∀ q ∈ ruR rs X, q.1 ≠ l) : RsOk ns sg (rs ++ [(X, l, row)]) := by
  refine ⟨fun r hr' => ?_, fun Y => ?_, fun Y => ?_, fun j Y hY => ?_⟩
  · rcases List.mem_append.mp hr' with e | e
    · exact h.mem r e
    · rw [List.mem_singleton.mp e]
      exact ⟨hX, hl, hr, h3⟩
  · rw [ruR_app, ruR_one]
    by_cases e : X = Y
    · subst e
      rw [if_pos rfl, List.length_append, List.length_singleton]
      omega
    · rw [if_neg e, List.append_nil]
      exact h.le4 Y
  · rw [ruR_app, ruR_one]
    by_cases e : X = Y
    · subst e
      rw [if_pos rfl, List.map_append]
      refine List.nodup_append.mpr ⟨h.ndl X, (List.pairwise_singleton _ _ : ([l] : List Nat).Nodup), fun a ha b hb e => ?_⟩
      obtain ⟨q, hq, rfl⟩ := List.mem_map.mp ha
      exact hn q hq (e.trans (List.mem_singleton.mp hb))
    · rw [if_neg e, List.append_nil]
      exact h.ndl Y
  · obtain ⟨q, hq, q2⟩ := h.one j Y hY
    exact ⟨q, by rw [ruR_app]; exact List.mem_append.mpr (.inl hq), q2⟩
/-- a grammar comes of them -/
theorem RsOk.gg {ns ms : List Str} {sg : List Nat} {rs : List Rul} (h : RsOk ns sg rs) (nd : ns.Nodup) (le : ns.length ≤ 5) (sgnd : sg.Nodup) (pm : ms.Perm ns) : ∃ ν, GG ms (ruR rs) ν sg := by
  refine GG.make (pm.symm.nodup nd) (by rw [pm.length_eq]; exact le) sgnd (fun X hX p hp => ?_) (fun X _ => h.le4 X) (fun X _ => h.ndl X) (fun X => ns.idxOf X) (fun X hX => ?_) (fun X hX => Nat.lt_of_lt_of_le (List.idxOf_lt_length_of_mem (pm.subset hX)) le)
  · unfold ruR at hp
    obtain ⟨r, hr, rfl⟩ := List.mem_map.mp hp
    obtain ⟨h1, h2, h3, h4⟩ := h.mem r (List.mem_filter.mp hr).1
    exact ⟨h2, fun Y hY => pm.symm.subset (h3 Y hY), h4⟩
  · obtain ⟨j, hj⟩ := List.getElem?_of_mem (pm.subset hX)
    obtain ⟨q, hq, q2⟩ := h.one j X hj
    refine ⟨q, hq, fun Y hY => ?_⟩
    obtain ⟨hj1, hj2⟩ := List.getElem?_eq_some_iff.mp hj
    have e1 : ns.idxOf X = j := by
      rw [← hj2]
      exact nd.idxOf_getElem j hj1
    rw [e1]
    have hm := q2 Y hY
    obtain ⟨i, hi⟩ := List.getElem?_of_mem hm
    have hi1 := (List.getElem?_eq_some_iff.mp hi).1
    rw [List.length_take] at hi1
    have hi2 : ns[i]? = some Y := by
      rw [List.getElem?_take] at hi
      split at hi
      · exact hi
      · cases hi
    obtain ⟨hi3, hi4⟩ := List.getElem?_eq_some_iff.mp hi2
    have e2 : ns.idxOf Y = i := by
      rw [← hi4]
      exact nd.idxOf_getElem i hi3
    rw [e2]
    omega
/-- == of rules -/
def pdU (r : Rul) : PyData := .tuple [.str r.1, .str ⟨#[r.2.1]⟩, pdS r.2.2]
def uOk (r : Rul) : Prop := sok r.1 ∧ rOk r.2
section
variable {K : PySem.W.Frag} {F H : Hp}
theorem dp_rul (k : Kn F H) {v : V} {r : Rul} (h : ruP F v r) : Dp K H v (pdU r) := by
  obtain ⟨t, u, w, y, rfl, ht, hu, hw, b, rfl, hb⟩ := h
  obtain rfl : u = V.str r.1 := hu
  obtain rfl : w = V.str ⟨#[r.2.1]⟩ := hw
  exact .tup (SqT.of (k _ _ ht).1) (.cons (.str _) (.cons (.str _) (.cons (dp_s (SqL.of (k _ _ hb).1)) .nil)))
theorem dp_ruls (k : Kn F H) : ∀ {us : List V} {rs : List Rul}, Paired (ruP F) us rs → DpAll K H us (rs.map pdU)
  | _, _, .nil => .nil
  | _, _, .cons h t => .cons (dp_rul k h) (dp_ruls k t)
theorem lay_rul {r : Rul} (h : uOk r) : (pdU r).canLay0 = true := by
  show (PyData.canLay0 (.str r.1) && (PyData.canLay0 (.str ⟨#[r.2.1]⟩) && (PyData.canLayAll0 (r.2.2.map PyData.str) && true))) = true
  rw [lay_s h.2.2, show PyData.canLay0 (.str r.1) = true from h.1, show PyData.canLay0 (.str ⟨#[r.2.1]⟩) = true from lowL_sok h.2.1]
  rfl
theorem dep_rul (r : Rul) : (pdU r).depth = 2 := by
  show max (PyData.depth (.str _)) (max (PyData.depth (.str _)) (max (PyData.depthAll (r.2.2.map PyData.str) + 1) (PyData.depthAll []))) + 1 = 2
  rw [dep_s]
  rfl
theorem shp_rul {r : Rul} (h : uOk r) : SeqAt.shaped (pdU r) = true := by
  unfold SeqAt.shaped
  rw [lay_rul h, dep_rul]
  rfl
theorem lay_ruls : ∀ {rs : List Rul}, (∀ r ∈ rs, uOk r) → PyData.canLayAll0 (rs.map pdU) = true
  | [], _ => rfl
  | q :: r, h => by
    show ((pdU q).canLay0 && PyData.canLayAll0 (r.map pdU)) = true
    rw [lay_rul (h q (List.mem_cons_self ..)), lay_ruls fun p hp => h p (List.mem_cons_of_mem _ hp)]
    rfl
theorem dep_ruls : ∀ rs : List Rul, PyData.depthAll (rs.map pdU) ≤ 2
  | [] => Nat.zero_le _
  | q :: r => by
    show max (pdU q).depth (PyData.depthAll (r.map pdU)) ≤ 2
    rw [dep_rul]
    have := dep_ruls r
    omega
theorem shp_ruls {rs : List Rul} (h : ∀ r ∈ rs, uOk r) : SeqAt.shaped (.list (rs.map pdU)) = true := by
  unfold SeqAt.shaped
  rw [show (PyData.list (rs.map pdU)).canLay0 = PyData.canLayAll0 (rs.map pdU) from rfl, lay_ruls h, show (PyData.list (rs.map pdU)).depth = PyData.depthAll (rs.map pdU) + 1 from rfl]
  have := dep_ruls rs
  exact decide_eq_true (by omega)
end
theorem all_flat_s : ∀ row : List Str, (row.map V.str).all flatV = true
  | [] => rfl
  | x :: r => by
    show (true && (r.map V.str).all flatV) = true
    rw [all_flat_s r]
    rfl
theorem inV_not {l : Nat} {ls : List Nat} (h : inV (.str ⟨#[l]⟩) ((ls.map fun l => wrd [l]).map V.str) = false) : l ∉ ls := fun hm => by
  unfold inV at h
  rw [List.any_eq_false] at h
  refine h (.str (wrd [l])) (List.mem_map.mpr ⟨wrd [l], List.mem_map.mpr ⟨l, hm, rfl⟩, rfl⟩) ?_
  show (wrd [l] == (⟨#[l]⟩ : Str)) = true
  rw [str_beq]
  exact decide_eq_true rfl
/-- the two lists of the rules' maker -/
structure LS (c : Cfg) (F H : Hp) (wl : Addr) (n : Nat) (Lr : Addr) (us : List V) (rs : List Rul) (Ld : Addr) (kvs : List (Key × V)) : Prop where
  W : WK c F H wl n
  fr : F Lr = none
  hr : H Lr = some (.lst us)
  pr : Paired (ruP F) us rs
  fd : F Ld = none
  hd : H Ld = some (.dK kvs)
theorem LS.step {c : Cfg} {S : Addr → Prop} {F H F' H' : Hp} {wl Lr Ld : Addr} {n n' : Nat} {us : List V} {rs : List Rul} {kvs : List (Key × V)} (h : LS c F H wl n Lr us rs Ld kvs) (s : Stp c.T S F H F' H') (h1 : ¬ S Lr) (h2 : ¬ S Ld) (W : WK c F' H' wl n') : LS c F' H' wl n' Lr us rs Ld kvs :=
  let a := s.mu h.fr h.hr (nt_lst _) h1
  let b := s.mu h.fd h.hd (nt_dK _) h2
  ⟨W, a.1, a.2, paired_up s.sub h.pr, b.1, b.2⟩
theorem LS.step0 {c : Cfg} {F H F' H' : Hp} {wl Lr Ld : Addr} {n : Nat} {us : List V} {rs : List Rul} {kvs : List (Key × V)} (h : LS c F H wl n Lr us rs Ld kvs) (s : Stp c.T S0 F H F' H') : LS c F' H' wl n Lr us rs Ld kvs := h.step s (fun h => h) (fun h => h) (h.W.step s fun h => h)
def sp_law_rules (c : Cfg) : Sp := fun vs H Q _ => ∃ (F : Hp) (wl na sa : Addr) (n : Nat) (ns : List Str) (sg : List Nat), vs = [.ref wl, .ref na, .ref sa, .bl true, .int 12] ∧ WK c F H wl n ∧ n ≤ 10000 ∧ F na = some (.lst (ns.map V.str)) ∧ F sa = some (.lst ((sg.map fun l => wrd [l]).map V.str)) ∧ 1 ≤ ns.length ∧ ns.length ≤ 5 ∧ 1 ≤ sg.length ∧ sg.length ≤ 5 ∧ (∀ X ∈ ns, nmOk X) ∧ (∀ l ∈ sg, lowL l) ∧ ns.Nodup ∧
  ∀ F' H' t rl d us (rs : List Rul), Stp c.T (fun b => b = wl) F H F' H' → WK c F' H' wl (n + 200) → F' t = some (.tup [.ref rl, .ref d]) → F' rl = some (.lst us) → Paired (ruP F') us rs → RsOk ns sg rs → rs.length ≤ 15 → Q (.ref t) H'
/-- one of a known list -/
theorem WK.one {c : Cfg} {F H : Hp} {wl a : Addr} {n : Nat} {xs : List V} {Q : VK} (h : WK c F H wl n) (hn : n ≤ 100000) (ha : H a = some (.lst xs)) (hne : a ≠ wl) (h0 : 0 < xs.length) (h1 : xs.length ≤ 1000) (q : ∀ H' (i : Nat) x, xs[i]? = some x → Stp c.T (fun b => b = wl) F H F H' → WK c F H' wl (n + 1) → Q x H') : sp_law_one c [.ref wl, .ref a] H Q E0 :=
  sp_law_one_of ⟨F, wl, a, n, xs, rfl, h, hn, ha, hne, h0, h1, q⟩
section
variable {c : Cfg} {K : PySem.W.Frag} {mg : Str → Option Value} {base : Heap}
theorem sc_law_rules : FnScope ["_law_well_here", "_law_names_here", "_law_signs_here", "_law_plain", "_law_most", "_law_rules_here", "_law_known", "_law_k", "_law_name", "_law_row", "_law_j", "_law_one_here", "_law_letter", "_law_rule", "_law_mine", "_law_other"] ["_law_well_here", "_law_names_here", "_law_signs_here", "_law_plain", "_law_most"] (defScope s_law_rules) := ⟨rfl, rfl, rfl, by decide +kernel, rfl, by decide +kernel, by decide +kernel⟩
theorem ok_law_rules (D : Dfn K mg "_law_rules" s_law_rules (["_law_well_here", "_law_names_here", "_law_signs_here", "_law_plain", "_law_most"])) (B : Blt mg) (G_law_draw : Gd c.P c.w K mg base 1 "_law_draw" (["_law_well_here", "_law_many"]) (sp_law_draw c)) (G_law_one : Gd c.P c.w K mg base 2 "_law_one" (["_law_well_here", "_law_some"]) (sp_law_one c)) : Gd c.P c.w K mg base 3 "_law_rules" (["_law_well_here", "_law_names_here", "_law_signs_here", "_law_plain", "_law_most"]) (sp_law_rules c) := by
  refine D.ok sc_law_rules (fun vs H Q E h => ?_) (fun fa cdv A outer s H vs Q E hr h => ?_)
  · obtain ⟨F, wl, na, sa, n, ns, sg, rfl, _⟩ := h
    rfl
  obtain ⟨F, wl, na, sa, n, ns, sg, rfl, W, hn, hna, hsa, hns1, hns5, hsg1, hsg5, hnm, hlow, nd, q⟩ := h
  refine ⟨_, (pss_cons (ps_set (i := 5) sc_law_rules.nd rfl (Or.inl rfl) (pe_lst pa_nil)) (pss_cons (ps_set (i := 6) sc_law_rules.nd rfl (Or.inr rfl) pe_dnewK) (pss_cons (ps_for PassesOwn.never rfl (pi_enum (by rfl) B.enum (pa_cons (pv 1) pa_nil)) (pg_tup rfl (pgs_cons (pg_name (i := 7) sc_law_rules.nd rfl (Or.inl rfl)) (pgs_cons (pg_name (i := 8) sc_law_rules.nd rfl (Or.inr rfl)) pgs_nil))) (pss_cons (ps_set (i := 9) sc_law_rules.nd rfl (Or.inl rfl) (pe_lst pa_nil)) (pss_cons (ps_for PassesOwn.never rfl (pi_range1 (by rfl) B.range (pa_cons (pe_op op_mul (pe_g G_law_one hr (by rfl) (pa_cons (pv 0) (pa_cons (pe_lst (pa_cons pe_int (pa_cons pe_int (pa_cons pe_int (pa_cons pe_int (pa_cons pe_int pa_nil)))))) pa_nil))) (pe_callTy call_int1 (by rfl) B.int (by decide +kernel) (pa_cons (pe_cmpR op_gt (pv 7) pe_int (nomark _)) pa_nil))) pa_nil)) (pg_name (i := 10) sc_law_rules.nd rfl (Or.inl rfl)) (pss_cons (ps_set (i := 11) sc_law_rules.nd rfl (Or.inl rfl) (pe_g G_law_one hr (by rfl) (pa_cons (pv 0) (pa_cons (pe_slice sl_list (pv 1) po_none (po_some (pv 7))) pa_nil)))) (pss_one (ps_if (pt_cmpR op_lt (pe_op op_add (pe_callB (cr_sum rfl) (by rfl) B.sum (by decide +kernel) (pa_cons (pe_lc (own := [("_law_other", 15)]) (wi := (iList K (tVar 9))) (g := (gName 15)) (tt := tYes) (te := (tDGet (tVar 6) (tVar 15))) rfl sc_law_rules.nd (pi_list (pv 9)) (blkOk_by (own := [("_law_other", 15)]) (N := ["_law_well_here", "_law_names_here", "_law_signs_here", "_law_plain", "_law_most", "_law_rules_here", "_law_known", "_law_k", "_law_name", "_law_row", "_law_j", "_law_one_here", "_law_letter", "_law_rule", "_law_mine", "_law_other"]) (sc := defScope s_law_rules) (by decide +kernel)) (fun _ _ _ _ _ => (pg_name (i := 15) sc_law_rules.nd rfl (Or.inl rfl))) (fun _ _ _ _ _ => pts_nil) (fun _ _ _ _ _ => (pe_dget (hu_of hr) (pv 6) (pv 15) (fun _ _ => rfl)))) pa_nil)) (pe_dget (hu_of hr) (pv 6) (pv 11) (fun _ _ => rfl))) (pv 4) (nomark _)) (pss_one (ps_expr (pe_bm PySem.F.plainAttrs_list PySem.F.slot_list_append PySem.F.type_list_append mt_append (pv 9) (pa_cons (pv 11) pa_nil)))) pss_nil)))) (pss_cons (ps_dput (hu_of hr) (pv 6) (pv 8) (pe_op op_add pe_int (pe_callB (cr_sum rfl) (by rfl) B.sum (by decide +kernel) (pa_cons (pe_lc (own := [("_law_other", 15)]) (wi := (iList K (tVar 9))) (g := (gName 15)) (tt := tYes) (te := (tDGet (tVar 6) (tVar 15))) rfl sc_law_rules.nd (pi_list (pv 9)) (blkOk_by (own := [("_law_other", 15)]) (N := ["_law_well_here", "_law_names_here", "_law_signs_here", "_law_plain", "_law_most", "_law_rules_here", "_law_known", "_law_k", "_law_name", "_law_row", "_law_j", "_law_one_here", "_law_letter", "_law_rule", "_law_mine", "_law_other"]) (sc := defScope s_law_rules) (by decide +kernel)) (fun _ _ _ _ _ => (pg_name (i := 15) sc_law_rules.nd rfl (Or.inl rfl))) (fun _ _ _ _ _ => pts_nil) (fun _ _ _ _ _ => (pe_dget (hu_of hr) (pv 6) (pv 15) (fun _ _ => rfl)))) pa_nil))) rfl) (pss_one (ps_expr (pe_bm PySem.F.plainAttrs_list PySem.F.slot_list_append PySem.F.type_list_append mt_append (pv 5) (pa_cons (pe_tup (pa_cons (pv 8) (pa_cons (pe_g G_law_one hr (by rfl) (pa_cons (pv 0) (pa_cons (pv 2) pa_nil))) (pa_cons (pv 9) pa_nil)))) pa_nil)))))))) (pss_cons (ps_for PassesOwn.never rfl (pi_range1 (by rfl) B.range (pa_cons (pe_g G_law_draw hr (by rfl) (pa_cons (pv 0) (pa_cons (pe_op op_add pe_int (pe_op op_mul pe_int (pe_callB call_len_seq (by rfl) B.len PySem.boot_len (pa_cons (pv 1) pa_nil)))) pa_nil))) pa_nil)) (pg_name (i := 7) sc_law_rules.nd rfl (Or.inl rfl)) (pss_cons (ps_asg (pe_tup (pa_cons (pe_g G_law_one hr (by rfl) (pa_cons (pv 0) (pa_cons (pv 1) pa_nil))) (pa_cons (pe_g G_law_one hr (by rfl) (pa_cons (pv 0) (pa_cons (pv 2) pa_nil))) pa_nil))) (pg_tup rfl (pgs_cons (pg_name (i := 8) sc_law_rules.nd rfl (Or.inr rfl)) (pgs_cons (pg_name (i := 12) sc_law_rules.nd rfl (Or.inl rfl)) pgs_nil)))) (pss_cons (ps_set (i := 13) sc_law_rules.nd rfl (Or.inl rfl) (pe_tup (pa_cons (pv 8) (pa_cons (pv 12) (pa_cons (pe_lc (own := [("_law_j", 10)]) (wi := (iRng1 (tCons (tG (sp_law_one c) (tCons (tVar 0) (tCons (tLst (tCons (tC (.int 0)) (tCons (tC (.int 1)) (tCons (tC (.int 2)) (tCons (tC (.int 3)) tNil))))) tNil))) tNil))) (g := (gName 10)) (tt := tYes) (te := (tG (sp_law_one c) (tCons (tVar 0) (tCons (tVar 1) tNil)))) rfl sc_law_rules.nd (pi_range1 (by rfl) B.range (pa_cons (pe_g G_law_one hr (by rfl) (pa_cons (pv 0) (pa_cons (pe_lst (pa_cons pe_int (pa_cons pe_int (pa_cons pe_int (pa_cons pe_int pa_nil))))) pa_nil))) pa_nil)) (blkOk_by (own := [("_law_j", 10)]) (N := ["_law_well_here", "_law_names_here", "_law_signs_here", "_law_plain", "_law_most", "_law_rules_here", "_law_known", "_law_k", "_law_name", "_law_row", "_law_j", "_law_one_here", "_law_letter", "_law_rule", "_law_mine", "_law_other"]) (sc := defScope s_law_rules) (by decide +kernel)) (fun _ _ _ _ _ => (pg_name (i := 10) sc_law_rules.nd rfl (Or.inl rfl))) (fun _ _ _ _ _ => pts_nil) (fun _ _ _ _ _ => (pe_g G_law_one hr (by rfl) (pa_cons (pv 0) (pa_cons (pv 1) pa_nil))))) pa_nil))))) (pss_cons (ps_setLc (i := 14) (own := [("_law_other", 15)]) (wi := (iList K (tVar 5))) (g := (gName 15)) (tt := (tTest (tOp rEq (tOp (rIxT K) (tVar 15) (tC (.int 0))) (tVar 8)))) (te := (tVar 15)) rfl sc_law_rules.nd rfl rfl (sw_true rfl rfl rfl (by decide +kernel)) (pi_list (pv 5)) (blkOk_by (own := [("_law_other", 15)]) (N := ["_law_well_here", "_law_names_here", "_law_signs_here", "_law_plain", "_law_most", "_law_rules_here", "_law_known", "_law_k", "_law_name", "_law_row", "_law_j", "_law_one_here", "_law_letter", "_law_rule", "_law_mine", "_law_other"]) (sc := defScope s_law_rules) (by decide +kernel)) (fun _ _ _ _ _ => (pg_name (i := 15) sc_law_rules.nd rfl (Or.inl rfl))) (fun _ _ _ _ _ => (pts_one (pt_cmpR op_eq (pe_ix ix_tup (pv 15) pe_int (fun _ _ => rfl)) (pv 8) (nomark _)))) (fun _ _ _ _ _ => (pv 15))) (pss_one (ps_if (PW.pt (pw_and (pt_cmpR op_lt (pe_callB call_len_seq (by rfl) B.len PySem.boot_len (pa_cons (pv 14) pa_nil)) pe_int (nomark _)) (pw_and (pt_cmpR (op_notInD (hu65 hr)) (pv 13) (pv 14) rfl) (pw_and1 (pt_not (PW.pt (pw_and (pt_val (pv 3)) (pw_and1 (pt_cmpR op_in_seq (pv 12) (pe_lc (own := [("_law_other", 15)]) (wi := (iList K (tVar 14))) (g := (gName 15)) (tt := tYes) (te := (tOp (rIxT K) (tVar 15) (tC (.int 1)))) rfl sc_law_rules.nd (pi_list (pv 14)) (blkOk_by (own := [("_law_other", 15)]) (N := ["_law_well_here", "_law_names_here", "_law_signs_here", "_law_plain", "_law_most", "_law_rules_here", "_law_known", "_law_k", "_law_name", "_law_row", "_law_j", "_law_one_here", "_law_letter", "_law_rule", "_law_mine", "_law_other"]) (sc := defScope s_law_rules) (by decide +kernel)) (fun _ _ _ _ _ => (pg_name (i := 15) sc_law_rules.nd rfl (Or.inl rfl))) (fun _ _ _ _ _ => pts_nil) (fun _ _ _ _ _ => (pe_ix ix_tup (pv 15) pe_int (fun _ _ => rfl)))) rfl))))))))) (pss_one (ps_expr (pe_bm PySem.F.plainAttrs_list PySem.F.slot_list_append PySem.F.type_list_append mt_append (pv 5) (pa_cons (pv 13) pa_nil)))) pss_nil)))))) (pss_one (ps_ret (pe_tup (pa_cons (pv 5) (pa_cons (pv 6) pa_nil))))))))), ?_⟩
  have kn := W.kn
  obtain ⟨o0, hw0⟩ := W.hd
  refine ⟨Nat.zero_le _, fun Lr hLr => ?_⟩
  have s1 : Stp c.T S0 F H F (upd H Lr (.lst [])) := .mut kn hLr
  have fLr : F Lr = none := kn.off hLr
  have gLr : upd H Lr (.lst []) Lr = some (.lst []) := upd_same
  have nwr : wl ≠ Lr := ne_of_none hw0 hLr
  have W1 := W.step s1 (fun h => h)
  generalize upd H Lr (.lst []) = H1 at *
  intro Ld hLd
  have s2 : Stp c.T S0 F H1 F (upd H1 Ld (.dK [])) := .mut s1.kn hLd
  have fLd : F Ld = none := s1.kn.off hLd
  have gLd : upd H1 Ld (.dK []) Ld = some (.dK []) := upd_same
  have nrd : Lr ≠ Ld := ne_of_none gLr hLd
  obtain ⟨o1, hw1⟩ := W1.hd
  have nwd : wl ≠ Ld := ne_of_none hw1 hLd
  have LL2 : LS c F (upd H1 Ld (.dK [])) wl n Lr [] [] Ld [] := ⟨W1.step s2 (fun h => h), fLr, by rw [upd_ne nrd]; exact gLr, .nil, fLd, gLd⟩
  generalize upd H1 Ld (.dK []) = H2 at *
  have s12 := s1.trans s2
  refine ⟨_, rfl, na, _, rfl, SqL.of (LL2.W.kn _ _ hna).1, ?_⟩
  refine for_it (walk_enum (K := K) (a := na) (xs := ns.map V.str)) (fun i σ H' => ∃ (F' : Hp) (us : List V) (rs : List Rul) (kvs : List (Key × V)) (val : Str → Int) (x7 x8 x9 x10 x11 x12 x13 x14 x15 : Option V), Stp c.T (fun b => b = wl ∨ b = Lr ∨ b = Ld) F H2 F' H' ∧ LS c F' H' wl (n + 5 * i) Lr us rs Ld kvs ∧ kvs.length ≤ i ∧ (∀ Y ∈ ns.take i, valV kvs (.inr Y : Key) = some (.int (val Y))) ∧ RsP ns sg i rs ∧ σ = [some (.ref wl), some (.ref na), some (.ref sa), some (.bl true), some (.int 12), some (.ref Lr), some (.ref Ld), x7, x8, x9, x10, x11, x12, x13, x14, x15]) ?_ ?_ ?_ ?_
  · exact ⟨F, [], [], [], fun _ => 0, none, none, none, none, none, none, none, none, none, .refl LL2.W.kn, LL2, Nat.le_refl _, fun _ h => (nomatch h), ⟨fun _ h => (nomatch h), rfl, fun j X h => absurd h (Nat.not_lt_zero _)⟩, rfl⟩
  · rintro i σ H' _ ⟨F', us, rs, kvs, val, x7, x8, x9, x10, x11, x12, x13, x14, x15, st, _⟩
    exact SqL.of (st.kn _ _ (st.sub _ _ hna)).1
  · rintro i x σ H3 H' hi ⟨F3, us, rs, kvs, val, x7, x8, x9, x10, x11, x12, x13, x14, x15, s3, L3, hkl, hval, P3, rfl⟩ ⟨T, y1, y2, rfl, hT, rfl, hy1, hy2⟩
    cases hy1
    have hy2 : (ns.map V.str)[i]? = some y2 := hy2
    rw [List.getElem?_map] at hy2
    obtain ⟨X, hX, rfl⟩ := Option.map_eq_some_iff.mp hy2
    rw [List.length_map] at hi
    have hi5 : i < 5 := by omega
    have s4 : Stp c.T S0 F3 H3 (upd F3 T (.tup [.int (i : Nat), .str X])) (upd H3 T (.tup [.int (i : Nat), .str X])) := .data L3.W.kn hT (nt_tup _)
    have h4 : upd F3 T (.tup [.int (i : Nat), .str X]) T = some (.tup [.int (i : Nat), .str X]) := upd_same
    have L4 := L3.step0 s4
    have hna4 := s4.sub _ _ (s3.sub _ _ hna)
    have hsa4 := s4.sub _ _ (s3.sub _ _ hsa)
    generalize upd F3 T (.tup [.int (i : Nat), .str X]) = F4 at *
    generalize upd H3 T (.tup [.int (i : Nat), .str X]) = H4 at *
    have k4 := L4.W.kn
    obtain ⟨o4, hw4⟩ := L4.W.hd
    refine ⟨T, _, rfl, SqT.of (k4 _ _ h4).1, rfl, _, _, rfl, _, _, rfl, rfl, ?_⟩
    refine ⟨Nat.zero_le _, fun Lw hLw => ?_⟩
    have s5 : Stp c.T S0 F4 H4 F4 (upd H4 Lw (.lst [])) := .mut k4 hLw
    have fLw : F4 Lw = none := k4.off hLw
    have gLw : upd H4 Lw (.lst []) Lw = some (.lst []) := upd_same
    have nww : wl ≠ Lw := ne_of_none hw4 hLw
    have nrw : Lr ≠ Lw := ne_of_none L4.hr hLw
    have ndw : Ld ≠ Lw := ne_of_none L4.hd hLw
    have L5 := L4.step0 s5
    generalize upd H4 Lw (.lst []) = H5 at *
    refine ⟨_, rfl, by show 5 ≤ sizeLine; decide, fun l5 hl5 => ?_⟩
    have s6 : Stp c.T S0 F4 H5 F4 (upd H5 l5 (.lst [.int 0, .int 1, .int 1, .int 2, .int 3])) := .mut L5.W.kn hl5
    have g6 : upd H5 l5 (.lst [.int 0, .int 1, .int 1, .int 2, .int 3]) l5 = some (.lst [.int 0, .int 1, .int 1, .int 2, .int 3]) := upd_same
    have nl5 : l5 ≠ wl := fun z => by
      obtain ⟨o5, hw5⟩ := L5.W.hd
      rw [z, hw5] at hl5; cases hl5
    have nw5 : Lw ≠ l5 := ne_of_none gLw hl5
    have L6 := L5.step0 s6
    obtain ⟨f6, gLw6⟩ := s6.mu fLw gLw (nt_lst _) (fun h => h)
    generalize upd H5 l5 (.lst [.int 0, .int 1, .int 1, .int 2, .int 3]) = H6 at *
    refine L6.W.one (by omega) g6 nl5 (by show 0 < 5; decide) (by show 5 ≤ 1000; decide) fun H7 ix x hx s7 W7 => ?_
    obtain ⟨m, hm, rfl⟩ : ∃ m : Nat, m ≤ 3 ∧ x = .int (m : Int) := by
      match ix, hx with
      | 0, hx => exact ⟨0, by decide, (Option.some.inj hx).symm⟩
      | 1, hx => exact ⟨1, by decide, (Option.some.inj hx).symm⟩
      | 2, hx => exact ⟨1, by decide, (Option.some.inj hx).symm⟩
      | 3, hx => exact ⟨2, by decide, (Option.some.inj hx).symm⟩
      | 4, hx => exact ⟨3, by decide, (Option.some.inj hx).symm⟩
      | k + 5, hx => exact absurd (show (none : Option V) = some x from hx) (by simp)
    have L7 : LS c F4 H7 wl (n + 5 * i + 1) Lr us rs Ld kvs := L6.step s7 (fun z => nwr z.symm) (fun z => nwd z.symm) W7
    have gLw7 := s7.keep Lw _ (fun z => nww z.symm) fLw gLw6 (nt_lst _)
    refine ⟨_, rfl, _, _, rfl, rfl, .inr ⟨_, rfl, _, _, rfl, rfl, cmul_l (by omega) (by omega), _, rfl, ?_, ?_, ?_⟩⟩
    · refine rng_lo ?_
      by_cases h : (0 : Int) < ((i : Nat) : Int)
      · rw [decide_eq_true h]; show (0 : Int) ≤ (m : Int) * 1; omega
      · rw [decide_eq_false h]; show (0 : Int) ≤ (m : Int) * 0; omega
    · refine rng_hi ?_
      by_cases h : (0 : Int) < ((i : Nat) : Int)
      · rw [decide_eq_true h]; show (m : Int) * 1 ≤ _; omega
      · rw [decide_eq_false h]; show (m : Int) * 0 ≤ _; omega
    obtain ⟨tn, htn, htn3, htn0⟩ : ∃ tn : Nat, ((m : Int) * (if decide ((0 : Int) < ((i : Nat) : Int)) = true then 1 else 0)).toNat = tn ∧ tn ≤ 3 ∧ (0 < tn → 0 < i) := by
      by_cases h : (0 : Int) < ((i : Nat) : Int)
      · rw [decide_eq_true h]; exact ⟨m, by show ((m : Int) * 1).toNat = m; omega, hm, fun _ => by omega⟩
      · rw [decide_eq_false h]; exact ⟨0, by show ((m : Int) * 0).toNat = 0; omega, by decide, fun h => absurd h (Nat.lt_irrefl _)⟩
    show ∃ W : Nat → Nat → L2.St → Hp → Prop, (∃ m, W 0 m _ H7) ∧ ∀ i_1 m_1 σ H, W i_1 m_1 σ H → ((Itr 0 ((m : Int) * (if decide ((0 : Int) < ((i : Nat) : Int)) = true then 1 else 0)).toNat).stop i_1 H ∧ _) ∨ ((Itr 0 ((m : Int) * (if decide ((0 : Int) < ((i : Nat) : Int)) = true then 1 else 0)).toNat).go i_1 H ∧ _)
    rw [htn]
    refine for_it (walk_range (lo := 0) (n := tn)) (fun j σ H' => ∃ (row : List Str) (x10 x11 : Option V), Stp c.T (fun b => b = wl ∨ b = Lw) F4 H7 F4 H' ∧ LS c F4 H' wl (n + 5 * i + 1 + j) Lr us rs Ld kvs ∧ H' Lw = some (.lst (row.map V.str)) ∧ (∀ Y ∈ row, Y ∈ ns.take i) ∧ row.length ≤ j ∧ σ = [some (.ref wl), some (.ref na), some (.ref sa), some (.bl true), some (.int 12), some (.ref Lr), some (.ref Ld), some (.int (i : Nat)), some (.str X), some (.ref Lw), x10, x11, x12, x13, x14, x15]) ?_ (fun _ _ _ _ _ => trivial) ?_ ?_
    · exact ⟨[], _, _, .refl s7.kn, L7, gLw7, fun _ h => (nomatch h), Nat.le_refl _, rfl⟩
    · rintro j x σ H8 H' hj ⟨row, x10, x11, s8, L8, g8, hrow, hrl, rfl⟩ ⟨rfl, rfl⟩
      have k8 := L8.W.kn
      have hi0 : 0 < i := htn0 (by omega)
      refine ⟨_, rfl, _, rfl, _, rfl, _, rfl, na, _, rfl, SqL.of (k8 _ _ hna4).1, fun p hp => ?_⟩
      rw [show cutV (ns.map V.str) none (some ((i : Nat) : Int)) = (ns.take i).map V.str from by rw [cutV_to, List.map_take]]
      have s9 : Stp c.T S0 F4 H' F4 (upd H' p (.lst ((ns.take i).map V.str))) := .mut k8 hp
      have g9 : upd H' p (.lst ((ns.take i).map V.str)) p = some (.lst ((ns.take i).map V.str)) := upd_same
      have np : p ≠ wl := fun z => by
        obtain ⟨o, hw⟩ := L8.W.hd
        rw [z, hw] at hp; cases hp
      have L9 := L8.step0 s9
      obtain ⟨_, gw9⟩ := s9.mu fLw g8 (nt_lst _) (fun h => h)
      generalize upd H' p (.lst ((ns.take i).map V.str)) = H9 at *
      have htl : (ns.take i).length = i := by rw [List.length_take]; omega
      refine L9.W.one (by omega) g9 np (by rw [List.length_map, htl]; exact hi0) (by rw [List.length_map, htl]; omega) fun H10 ix x hx s10 W10 => ?_
      rw [List.getElem?_map] at hx
      obtain ⟨Y, hY, rfl⟩ := Option.map_eq_some_iff.mp hx
      have hYm : Y ∈ ns.take i := List.mem_of_getElem? hY
      have L10 : LS c F4 H10 wl (n + 5 * i + 1 + j + 1) Lr us rs Ld kvs := L9.step s10 (fun z => nwr z.symm) (fun z => nwd z.symm) W10
      have gw10 := s10.keep Lw _ (fun z => nww z.symm) fLw gw9 (nt_lst _)
      have s810 : Stp c.T (fun b => b = wl ∨ b = Lw) F4 H7 F4 H10 := s8.trans ((s9.wide fun b h => h.elim).trans (s10.wide fun b h => .inl h))
      refine ⟨_, rfl, Lw, rfl, ⟨_, SqL.of gw10⟩, fun D2 hD2 => ?_⟩
      have nb : ∀ {b : Addr} {o : HO}, H10 b = some o → b ≠ D2 := fun h => ne_of_none h hD2
      refine lc_it (walk_list (K := K) (a := Lw) (xs := row.map V.str)) (fun k H' => H' = upd H10 D2 (.lst (((row.take k).map val).map V.int))) rfl (fun k H' _ e => by rw [e]; exact SqL.of (by rw [upd_ne (nb gw10)]; exact gw10)) ?_ ?_
      · rintro k x H1' H2' hk rfl ⟨rfl, hx12⟩
        rw [List.getElem?_map] at hx12
        obtain ⟨Z, hZ, rfl⟩ := Option.map_eq_some_iff.mp hx12
        have hv := hval Z (hrow Z (List.mem_of_getElem? hZ))
        refine ⟨rfl, ?_⟩
        refine ⟨_, rfl, _, rfl, Ld, _, rfl, by rw [← hv]; exact DGet.k (k := Sum.inr Z) (by rw [upd_ne (nb L10.hd)]; exact L10.hd), _, upd_same, ?_, ?_⟩
        · rw [List.length_map, List.length_map, List.length_take]
          exact szlt (by omega)
        · rw [upd_upd, take_snoc hZ, List.map_append, List.map_append]
          rfl
      rintro H11 rfl
      rw [List.length_map, List.take_length]
      have s11 : Stp c.T S0 F4 H10 F4 (upd H10 D2 (.lst ((row.map val).map V.int))) := .mut s10.kn hD2
      have g11 : upd H10 D2 (.lst ((row.map val).map V.int)) D2 = some (.lst ((row.map val).map V.int)) := upd_same
      have L11 := L10.step0 s11
      obtain ⟨_, gw11⟩ := s11.mu fLw gw10 (nt_lst _) (fun h => h)
      generalize upd H10 D2 (.lst ((row.map val).map V.int)) = H11 at *
      refine ⟨D2, _, rfl, SqL.of g11, _, rfl, _, rfl, Ld, .int (val Y), rfl, by rw [← hval Y hYm]; exact DGet.k (k := Sum.inr Y) L11.hd, _, _, rfl, rfl, _, rfl, _, _, rfl, rfl, _, rfl, ?_⟩
      have s711 := s810.trans (s11.wide fun b h => h.elim)
      refine ite2 (fun _ => ?_) (fun _ => ?_)
      · have s12 : Stp c.T (fun b => b = wl ∨ b = Lw) F4 H11 F4 (upd H11 Lw (.lst (row.map V.str ++ [.str Y]))) := .set s11.kn fLw gw11 (nx_lst _) (nt_lst _) (.inr rfl)
        refine ⟨_, rfl, .inl ⟨rfl, _, SqL.of gw11⟩, _, rfl, Lw, _, _, rfl, rfl, gw11, szlt (by rw [List.length_map]; omega), ?_⟩
        refine ⟨row ++ [Y], _, _, s711.trans s12, L11.step s12 (fun z => z.elim (fun z => nwr z.symm) nrw) (fun z => z.elim (fun z => nwd z.symm) ndw) (L11.W.put nww fLw), by rw [upd_same, List.map_append]; rfl, fun Z hZ => ?_, by rw [List.length_append, List.length_singleton]; omega, rfl⟩
        rcases List.mem_append.mp hZ with h | h
        · exact hrow Z h
        · rw [List.mem_singleton.mp h]; exact hYm
      · exact ⟨row, _, _, s711, L11, gw11, hrow, by omega, rfl⟩
    · rintro σ H8 ⟨row, x10, x11, s8, L8, g8, hrow, hrl, rfl⟩
      -- the row never changes from now on
      have c48 : Stp c.T (fun b => b = wl ∨ b = Lw) F4 H4 F4 H8 := ((s5.trans s6).wide fun b h => h.elim).trans ((s7.wide fun b h => .inl h).trans s8)
      have c48f : Stp c.T (fun b => b = wl) F4 H4 (upd F4 Lw (.lst (row.map V.str))) H8 := (c48.freeze (.of hLw) g8 (nt_lst _)).loc fun b hb => by
        rcases hb with z | z
        · exact .inl z
        · exact .inr (by rw [z]; exact .of hLw)
      have W8 : WK c (upd F4 Lw (.lst (row.map V.str))) H8 wl (n + 5 * i + 1 + tn) := ⟨c48f.kn, by rw [upd_ne nww]; exact L8.W.fw, L8.W.wl⟩
      have LF : LS c (upd F4 Lw (.lst (row.map V.str))) H8 wl (n + 5 * i + 1 + tn) Lr us rs Ld kvs := L4.step c48f (fun z => nwr z.symm) (fun z => nwd z.symm) W8
      have hw8 : upd F4 Lw (.lst (row.map V.str)) Lw = some (.lst (row.map V.str)) := upd_same
      have sub48 := c48f.sub
      generalize upd F4 Lw (.lst (row.map V.str)) = F8 at *
      have k8 := LF.W.kn
      refine ⟨_, rfl, Lw, rfl, ⟨_, SqL.of g8⟩, fun D2 hD2 => ?_⟩
      have nb : ∀ {b : Addr} {o : HO}, H8 b = some o → b ≠ D2 := fun h => ne_of_none h hD2
      refine lc_it (walk_list (K := K) (a := Lw) (xs := row.map V.str)) (fun k H' => H' = upd H8 D2 (.lst (((row.take k).map val).map V.int))) rfl (fun k H' _ e => by rw [e]; exact SqL.of (by rw [upd_ne (nb g8)]; exact g8)) ?_ ?_
      · rintro k x H1' H2' hk rfl ⟨rfl, hx12⟩
        rw [List.getElem?_map] at hx12
        obtain ⟨Z, hZ, rfl⟩ := Option.map_eq_some_iff.mp hx12
        have hv := hval Z (hrow Z (List.mem_of_getElem? hZ))
        refine ⟨rfl, ?_⟩
        refine ⟨_, rfl, _, rfl, Ld, _, rfl, by rw [← hv]; exact DGet.k (k := Sum.inr Z) (by rw [upd_ne (nb LF.hd)]; exact LF.hd), _, upd_same, ?_, ?_⟩
        · rw [List.length_map, List.length_map, List.length_take]
          exact szlt (by omega)
        · rw [upd_upd, take_snoc hZ, List.map_append, List.map_append]
          rfl
      rintro H9 rfl
      rw [List.length_map, List.take_length]
      have s9 : Stp c.T S0 F8 H8 F8 (upd H8 D2 (.lst ((row.map val).map V.int))) := .mut k8 hD2
      have g9 : upd H8 D2 (.lst ((row.map val).map V.int)) D2 = some (.lst ((row.map val).map V.int)) := upd_same
      have L9 := LF.step0 s9
      generalize upd H8 D2 (.lst ((row.map val).map V.int)) = H9 at *
      refine ⟨D2, _, rfl, SqL.of g9, _, _, rfl, rfl, _, rfl, _, rfl, Ld, _, rfl, DPut.k (k := Sum.inr X) L9.hd (szlt (by omega)), ?_⟩
      have s10 : Stp c.T (fun b => b = wl ∨ b = Lr ∨ b = Ld) F8 H9 F8 (upd H9 Ld (.dK (putK kvs (.inr X : Key) (.int (1 + (row.map val).sum))))) := .set s9.kn L9.fd L9.hd (nx_dK _) (nt_dK _) (.inr (.inr rfl))
      have L10 : LS c F8 (upd H9 Ld (.dK (putK kvs (.inr X : Key) (.int (1 + (row.map val).sum))))) wl (n + 5 * i + 1 + tn) Lr us rs Ld (putK kvs (.inr X : Key) (.int (1 + (row.map val).sum))) := ⟨L9.W.put nwd L9.fd, L9.fr, by rw [upd_ne nrd]; exact L9.hr, L9.pr, L9.fd, upd_same⟩
      have hsa8 := sub48 _ _ hsa4
      have nsa : sa ≠ wl := fun z => by
        have := L10.W.fw
        rw [← z, hsa8] at this; cases this
      refine ⟨_, rfl, .inl ⟨rfl, _, SqL.of L10.hr⟩, _, rfl, _, rfl, _, rfl, ?_⟩
      refine L10.W.one (by omega) (L10.W.kn _ _ hsa8).1 nsa (by rw [List.length_map, List.length_map]; omega) (by rw [List.length_map, List.length_map]; omega) fun H11 ix x hx s11 W11 => ?_
      rw [List.getElem?_map, List.getElem?_map] at hx
      obtain ⟨l, hl, rfl⟩ : ∃ l, l ∈ sg ∧ x = .str ⟨#[l]⟩ := by
        cases e : sg[ix]? with
        | none => rw [e] at hx; cases hx
        | some l => rw [e] at hx; exact ⟨l, List.mem_of_getElem? e, (Option.some.inj hx).symm⟩
      have L11 := L10.step s11 (fun z => nwr z.symm) (fun z => nwd z.symm) W11
      refine ⟨_, rfl, by show 3 ≤ sizeLine; decide, fun t3 ht3 => ?_⟩
      have s12 : Stp c.T S0 F8 H11 (upd F8 t3 (.tup [.str X, .str ⟨#[l]⟩, .ref Lw])) (upd H11 t3 (.tup [.str X, .str ⟨#[l]⟩, .ref Lw])) := .data L11.W.kn ht3 (nt_tup _)
      have g12 : upd F8 t3 (.tup [.str X, .str ⟨#[l]⟩, .ref Lw]) t3 = some (.tup [.str X, .str ⟨#[l]⟩, .ref Lw]) := upd_same
      have hw12 := s12.sub _ _ hw8
      have L12 := L11.step0 s12
      generalize upd F8 t3 (.tup [.str X, .str ⟨#[l]⟩, .ref Lw]) = F12 at *
      generalize upd H11 t3 (.tup [.str X, .str ⟨#[l]⟩, .ref Lw]) = H12 at *
      have lrs : rs.length ≤ 5 := by
        have := congrArg List.length P3.fst
        rw [List.length_map, List.length_take] at this
        omega
      have s13 : Stp c.T (fun b => b = wl ∨ b = Lr ∨ b = Ld) F12 H12 F12 (upd H12 Lr (.lst (us ++ [.ref t3]))) := .set L12.W.kn L12.fr L12.hr (nx_lst _) (nt_lst _) (.inr (.inl rfl))
      refine ⟨Lr, _, _, rfl, rfl, L12.hr, szlt (by rw [Paired.len L12.pr]; omega), ?_⟩
      have sF : Stp c.T (fun b => b = wl ∨ b = Lr ∨ b = Ld) F3 H3 F12 (upd H12 Lr (.lst (us ++ [.ref t3]))) := (s4.wide fun b h => h.elim).trans ((c48f.wide fun b h => .inl h).trans ((s9.wide fun b h => h.elim).trans (s10.trans ((s11.wide fun b h => .inl h).trans ((s12.wide fun b h => h.elim).trans s13)))))
      refine ⟨F12, us ++ [.ref t3], rs ++ [(X, l, row)], putK kvs (.inr X : Key) (.int (1 + (row.map val).sum)), fun Y => if Y = X then 1 + (row.map val).sum else val Y, _, _, _, _, _, _, _, _, _, s3.trans sF, ?_, ?_, ?_, P3.snoc hX hl hrow (by omega), rfl⟩
      · refine ⟨(L12.W.put nwr L12.fr).mono (by omega), L12.fr, upd_same, pairs_snoc L12.pr ⟨t3, _, _, _, rfl, g12, rfl, rfl, Lw, rfl, hw12⟩, L12.fd, by rw [upd_ne (fun z => nrd z.symm)]; exact L12.hd⟩
      · unfold putK
        split
        · rw [List.length_map]; omega
        · rw [List.length_append, List.length_singleton]; omega
      · intro Y hY
        rw [take_snoc hX] at hY
        rw [valV_put]
        by_cases e : Y = X
        · subst e
          rw [if_pos rfl]
          show _ = some (V.int (if Y = Y then _ else _))
          rw [if_pos rfl]
        · rw [if_neg (fun z => e (Sum.inr.inj z))]
          show _ = some (V.int (if Y = X then _ else val Y))
          rw [if_neg e]
          rcases List.mem_append.mp hY with h | h
          · exact hval Y h
          · exact absurd (List.mem_singleton.mp h) e
  · rintro σ H3 ⟨F3, us, rs, kvs, val, x7, x8, x9, x10, x11, x12, x13, x14, x15, s3, L3, hkl, hval, P3, rfl⟩
    rw [List.length_map] at P3 L3
    have P4 := P3.ok nd
    have hln : (ns.map V.str).length = ns.length := List.length_map _
    have lrs3 : rs.length ≤ 5 := by
      have := congrArg List.length P3.fst
      rw [List.length_map, List.length_take] at this
      omega
    have hna3 := s3.sub _ _ hna
    refine ⟨_, rfl, _, rfl, na, _, rfl, .inl (SqL.of (L3.W.kn _ _ hna3).1), _, _, rfl, rfl, cmul_l (by decide) (by decide), _, _, rfl, rfl, ?_⟩
    refine L3.W.draw (many := 1 + 2 * ns.length) (by omega) ?_ (by omega) (Nat.lt_of_le_of_lt (show 1 + 2 * ns.length ≤ 11 by omega) (by decide)) fun H4 v hv s4 W4 => ?_
    · show (1 : Int) + 2 * (((ns.map V.str).length : Nat) : Int) = _
      rw [hln]
      omega
    have L4 := L3.step s4 (fun z => nwr z.symm) (fun z => nwd z.symm) W4
    refine ⟨(v : Int), rfl, rng_lo (by omega), rng_hi (by omega), ?_⟩
    rw [show ((v : Nat) : Int).toNat = v by omega]
    refine for_it (walk_range (lo := 0) (n := v)) (fun i σ H' => ∃ (F' : Hp) (us : List V) (rs : List Rul) (x7 x8 x9 x10 x11 x12 x13 x14 x15 : Option V), Stp c.T (fun b => b = wl ∨ b = Lr ∨ b = Ld) F3 H4 F' H' ∧ LS c F' H' wl (n + 5 * ns.length + 1 + 10 * i) Lr us rs Ld kvs ∧ RsOk ns sg rs ∧ rs.length ≤ 5 + i ∧ σ = [some (.ref wl), some (.ref na), some (.ref sa), some (.bl true), some (.int 12), some (.ref Lr), some (.ref Ld), x7, x8, x9, x10, x11, x12, x13, x14, x15]) ?_ (fun _ _ _ _ _ => trivial) ?_ ?_
    · exact ⟨F3, us, rs, _, _, _, _, _, _, _, _, _, .refl s4.kn, L4, P4, by omega, rfl⟩
    · rintro i x σ H5 H' hi ⟨F5, us, rs, x7, x8, x9, x10, x11, x12, x13, x14, x15, s5, L5, P5, hrl, rfl⟩ ⟨rfl, rfl⟩
      have hi10 : i < 10 := by omega
      have hna5 := s5.sub _ _ hna3
      have hsa5 := s5.sub _ _ (s3.sub _ _ hsa)
      have k5 := L5.W.kn
      have nna : na ≠ wl := fun z => by
        have := L5.W.fw
        rw [← z, hna5] at this; cases this
      have nsa : sa ≠ wl := fun z => by
        have := L5.W.fw
        rw [← z, hsa5] at this; cases this
      have nrl : ¬ Lr = wl := fun z => nwr z.symm
      have ndl : ¬ Ld = wl := fun z => nwd z.symm
      -- the name, the letter
      refine ⟨_, rfl, _, rfl, ?_⟩
      refine L5.W.one (by omega) (k5 _ _ hna5).1 nna (by omega) (by omega) fun H6 ix x hx s6 W6 => ?_
      rw [List.getElem?_map] at hx
      obtain ⟨X, hX, rfl⟩ := Option.map_eq_some_iff.mp hx
      have hXm : X ∈ ns := List.mem_of_getElem? hX
      have L6 := L5.step s6 nrl ndl W6
      refine ⟨_, rfl, _, rfl, ?_⟩
      refine L6.W.one (by omega) (L6.W.kn _ _ hsa5).1 nsa (by rw [List.length_map, List.length_map]; omega) (by rw [List.length_map, List.length_map]; omega) fun H7 ix x hx s7 W7 => ?_
      rw [List.getElem?_map, List.getElem?_map] at hx
      obtain ⟨l, hl, rfl⟩ : ∃ l, l ∈ sg ∧ x = .str ⟨#[l]⟩ := by
        cases e : sg[ix]? with
        | none => rw [e] at hx; cases hx
        | some l => rw [e] at hx; exact ⟨l, List.mem_of_getElem? e, (Option.some.inj hx).symm⟩
      have L7 := L6.step s7 nrl ndl W7
      refine ⟨by show 2 ≤ sizeLine; decide, fun t1 ht1 => ?_⟩
      have s8 : Stp c.T S0 F5 H7 F5 (upd H7 t1 (.tup [.str X, .str ⟨#[l]⟩])) := .mut L7.W.kn ht1
      have g8 : upd H7 t1 (.tup [.str X, .str ⟨#[l]⟩]) t1 = some (.tup [.str X, .str ⟨#[l]⟩]) := upd_same
      have L8 := L7.step0 s8
      generalize upd H7 t1 (.tup [.str X, .str ⟨#[l]⟩]) = H8 at *
      refine ⟨t1, _, rfl, SqT.of g8, rfl, _, _, rfl, _, _, rfl, rfl, ?_⟩
      -- the rule
      refine ⟨_, rfl, _, rfl, _, rfl, by show 4 ≤ sizeLine; decide, fun l4 hl4 => ?_⟩
      have s9 : Stp c.T S0 F5 H8 F5 (upd H8 l4 (.lst [.int 0, .int 1, .int 2, .int 3])) := .mut L8.W.kn hl4
      have g9 : upd H8 l4 (.lst [.int 0, .int 1, .int 2, .int 3]) l4 = some (.lst [.int 0, .int 1, .int 2, .int 3]) := upd_same
      have nl4 : l4 ≠ wl := fun z => by
        obtain ⟨o, hw⟩ := L8.W.hd
        rw [z, hw] at hl4; cases hl4
      have L9 := L8.step0 s9
      generalize upd H8 l4 (.lst [.int 0, .int 1, .int 2, .int 3]) = H9 at *
      refine L9.W.one (by omega) g9 nl4 (by show 0 < 4; decide) (by show 4 ≤ 1000; decide) fun H10 ix x hx s10 W10 => ?_
      obtain ⟨m, hm, rfl⟩ : ∃ m : Nat, m ≤ 3 ∧ x = .int (m : Int) := by
        match ix, hx with
        | 0, hx => exact ⟨0, by decide, (Option.some.inj hx).symm⟩
        | 1, hx => exact ⟨1, by decide, (Option.some.inj hx).symm⟩
        | 2, hx => exact ⟨2, by decide, (Option.some.inj hx).symm⟩
        | 3, hx => exact ⟨3, by decide, (Option.some.inj hx).symm⟩
        | k + 4, hx => exact absurd (show (none : Option V) = some x from hx) (by simp)
      have L10 := L9.step s10 nrl ndl W10
      refine ⟨(m : Int), rfl, rng_lo (by omega), rng_hi (by omega), fun D1 hD1 => ?_⟩
      rw [show ((m : Nat) : Int).toNat = m by omega]
      obtain ⟨o10, hw10⟩ := L10.W.hd
      have okl : IvOk (IvW c wl (n + 5 * ns.length + 1 + 10 * i + 1 + 1 + 1) fun _ (ys : List Str) => ∀ Y ∈ ys, Y ∈ ns) m (fun b => b = wl) H10 D1 := ivW_ok (szl (by omega)) hw10 hD1
      refine lc_F (T := c.T) (S := fun b => b = wl) (walk_range (lo := 0) (n := m)) strP _ L10.W.kn okl ⟨Nat.le_refl _, fun _ h => (nomatch h), L10.W⟩ (fun _ _ _ _ _ _ _ _ => trivial) ?_ ?_
      · rintro j x F11 H11 Hq ys hj cu ⟨rfl, rfl⟩
        obtain ⟨g1, g2, W11⟩ := cu.iv
        have hna11 := cu.sub _ _ hna5
        refine ⟨rfl, ?_⟩
        refine ⟨_, rfl, _, rfl, ?_⟩
        refine W11.one (by omega) (W11.kn _ _ hna11).1 nna (by omega) (by omega) fun H12 ix x hx s12 W12 => ?_
        rw [List.getElem?_map] at hx
        obtain ⟨Y, hY, rfl⟩ := Option.map_eq_some_iff.mp hx
        refine cu.put okl hj s12 (z := Y) rfl ⟨?_, ?_, W12⟩
        · rw [List.length_append, List.length_singleton]; omega
        · intro Z hZ
          rcases List.mem_append.mp hZ with h | h
          · exact g2 Z h
          · rw [List.mem_singleton.mp h]; exact List.mem_of_getElem? hY
      intro F11 H11 row us11 s11 fD1 hd11 pr11 iv11
      obtain ⟨hrl3, hrow, W11⟩ := iv11
      have e11 := strs_of pr11
      rw [e11] at hd11
      have nD1 : wl ≠ D1 := ne_of_none hw10 hD1
      have s11f := s11.freeze (.of hD1) hd11 (nt_lst _)
      have W11f : WK c (upd F11 D1 (.lst (row.map V.str))) H11 wl (n + 5 * ns.length + 1 + 10 * i + 1 + 1 + 1 + m) := ⟨s11f.kn, by rw [upd_ne nD1]; exact W11.fw, W11.wl⟩
      have L11 := L10.step s11f nrl ndl W11f
      have h11 : upd F11 D1 (.lst (row.map V.str)) D1 = some (.lst (row.map V.str)) := upd_same
      generalize upd F11 D1 (.lst (row.map V.str)) = F12 at *
      refine ⟨by show 3 ≤ sizeLine; decide, fun t5 ht5 => ?_⟩
      have s12 : Stp c.T S0 F12 H11 (upd F12 t5 (.tup [.str X, .str ⟨#[l]⟩, .ref D1])) (upd H11 t5 (.tup [.str X, .str ⟨#[l]⟩, .ref D1])) := .data L11.W.kn ht5 (nt_tup _)
      have g12 : upd F12 t5 (.tup [.str X, .str ⟨#[l]⟩, .ref D1]) t5 = some (.tup [.str X, .str ⟨#[l]⟩, .ref D1]) := upd_same
      have h12 := s12.sub _ _ h11
      have L12 := L11.step0 s12
      generalize upd F12 t5 (.tup [.str X, .str ⟨#[l]⟩, .ref D1]) = F13 at *
      generalize upd H11 t5 (.tup [.str X, .str ⟨#[l]⟩, .ref D1]) = H12 at *
      have rP : ruP F13 (.ref t5) (X, l, row) := ⟨t5, _, _, _, rfl, g12, rfl, rfl, D1, rfl, h12⟩
      have s512 : Stp c.T (fun b => b = wl) F5 H' F13 H12 := s6.trans (s7.trans ((s8.wide fun b h => h.elim).trans ((s9.wide fun b h => h.elim).trans (s10.trans (s11f.trans (s12.wide fun b h => h.elim))))))
      -- those of the same name
      refine ⟨_, rfl, Lr, rfl, ⟨_, SqL.of L12.hr⟩, fun D2 hD2 => ?_⟩
      have lus : us.length = rs.length := Paired.len L12.pr
      have nrD2 : Lr ≠ D2 := ne_of_none L12.hr hD2
      let Iv2 : Nat → Hp → Hp → List Rul → Prop := fun i F H ys => ys = (rs.take i).filter (fun r => decide (r.1 = X)) ∧ H Lr = some (.lst us)
      have okl2 : IvOk Iv2 us.length S0 H12 D2 := ⟨fun i F H ys o h hf => ⟨h.1, by rw [upd_ne nrD2]; exact h.2⟩, fun i F H ys h => by rw [h.1]; exact Nat.le_trans (List.length_filter_le _ _) (len_take _ i), szl (by omega), fun h => h, hD2⟩
      refine lc_F (T := c.T) (S := S0) (walk_list (K := K) (a := Lr) (xs := us)) ruP Iv2 L12.W.kn okl2 ⟨rfl, L12.hr⟩ (fun i F H ys _ _ _ h => SqL.of h.2) ?_ ?_
      · rintro j x F14 H14 Hq ys hj cu ⟨rfl, hx⟩
        obtain ⟨r, hy, ru⟩ := Paired.at L12.pr hx
        have ru2 := Mo.up (P := ruP) cu.sub ru
        obtain ⟨t, u, w, y, rfl, ht, hu, hw, hb⟩ := ru
        obtain rfl : u = V.str r.1 := hu
        have k14 := cu.kn
        have hLr : Hq Lr = some (.lst us) := cu.iv.2
        refine ⟨rfl, ?_⟩
        refine ⟨_, rfl, t, _, 0, _, rfl, rfl, SqT.of (k14 _ _ (cu.sub _ _ ht)).1, atI_nat (i := 0) rfl, _, rfl, rfl, _, rfl, ?_⟩
        by_cases e : r.1 = X
        · rw [dstr_t e]
          refine ⟨_, rfl, cu.put okl2 hj (.refl k14) (z := r) ru2 ⟨?_, hLr⟩⟩
          show ys ++ [r] = _
          rw [take_snoc hy, List.filter_append, show ys = _ from cu.iv.1, show ([r].filter fun r => decide (r.1 = X)) = [r] from by
            rw [List.filter_cons, decide_eq_true e]; rfl]
        · rw [dstr_f e]
          refine cu.skip okl2 (.refl k14) ⟨?_, hLr⟩
          show ys = _
          rw [take_snoc hy, List.filter_append, show ys = _ from cu.iv.1, show ([r].filter fun r => decide (r.1 = X)) = [] from by
            rw [List.filter_cons, decide_eq_false e]; rfl, List.append_nil]
      intro F14 H14 mine us14 s14 fD2 hd14 pr14 iv14
      have emine : mine = rs.filter fun r => decide (r.1 = X) := by
        rw [iv14.1, List.take_of_length_le (by omega)]
      have hmR : ruR rs X = mine.map (·.2) := by rw [emine]; rfl
      have s14f := s14.freeze (.of hD2) hd14 (nt_lst _)
      have pr14f : Paired (ruP (upd F14 D2 (.lst us14))) us14 mine := paired_up (same_upd fD2) pr14
      have L14 := L12.step0 s14f
      have h14 : upd F14 D2 (.lst us14) D2 = some (.lst us14) := upd_same
      have rP14 := Mo.up (P := ruP) s14f.sub rP
      have sub14 := s14f.sub
      generalize upd F14 D2 (.lst us14) = F15 at *
      have k14 := L14.W.kn
      have lus14 := Paired.len pr14f
      have s514 : Stp c.T (fun b => b = wl) F5 H' F15 H14 := s512.trans (s14f.wide fun b h => h.elim)
      have uoks : ∀ r ∈ mine, uOk r := fun r hr => by
        rw [emine] at hr
        obtain ⟨h1, h2, h3, h4⟩ := P5.mem r (List.mem_filter.mp hr).1
        exact ⟨(hnm _ h1).sok, hlow _ h2, fun Y hY => (hnm Y (h3 Y hY)).sok⟩
      have uok1 : uOk (X, l, row) := ⟨(hnm _ hXm).sok, hlow _ hl, fun Y hY => (hnm Y (hrow Y hY)).sok⟩
      have lmine : mine.length ≤ rs.length := by rw [emine]; exact List.length_filter_le _ _
      have fin : ∀ {H15 : Hp} (x7 x8 x9 x10 x11 x12 x13 x14 x15 : Option V), Stp c.T S0 F15 H14 F15 H15 → ∃ (F' : Hp) (us : List V) (rs : List Rul) (x7' x8' x9' x10' x11' x12' x13' x14' x15' : Option V), Stp c.T (fun b => b = wl ∨ b = Lr ∨ b = Ld) F3 H4 F' H15 ∧ LS c F' H15 wl (n + 5 * ns.length + 1 + 10 * (i + 1)) Lr us rs Ld kvs ∧ RsOk ns sg rs ∧ rs.length ≤ 5 + (i + 1) ∧ [some (V.ref wl), some (.ref na), some (.ref sa), some (.bl true), some (.int 12), some (.ref Lr), some (.ref Ld), x7, x8, x9, x10, x11, x12, x13, x14, x15] = [some (V.ref wl), some (.ref na), some (.ref sa), some (.bl true), some (.int 12), some (.ref Lr), some (.ref Ld), x7', x8', x9', x10', x11', x12', x13', x14', x15'] := fun {H15} x7 x8 x9 x10 x11 x12 x13 x14 x15 s15 => by
        have L15 := L14.step0 s15
        exact ⟨F15, us, rs, x7, x8, x9, x10, x11, x12, x13, x14, x15, s5.trans ((s514.wide fun b h => .inl h).trans (s15.wide fun b h => h.elim)), ⟨L15.W.mono (by omega), L15.fr, L15.hr, L15.pr, L15.fd, L15.hd⟩, P5, by omega, rfl⟩
      refine ⟨_, rfl, D2, _, rfl, .inl (SqL.of hd14), _, _, rfl, rfl, _, rfl, ?_⟩
      refine ite2 (fun h4 => ?_) (fun _ => fin _ _ _ _ _ _ _ _ _ (.refl k14))
      have hm4 : mine.length < 4 := by
        have := of_decide_eq_true h4
        omega
      refine ⟨_, rfl, _, rfl, pdU (X, l, row), mine.map pdU, dp_rul k14 rP14, .lst (SqL.of hd14) (dp_ruls k14 pr14f), shp_rul uok1, shp_ruls uoks, _, rfl, ?_⟩
      refine ite2 (fun _ => ?_) (fun _ => fin _ _ _ _ _ _ _ _ _ (.refl k14))
      refine ⟨_, rfl, _, rfl, ?_⟩
      refine ⟨_, rfl, _, rfl, D2, rfl, ⟨_, SqL.of hd14⟩, fun D3 hD3 => ?_⟩
      have okl3 : IvOk (IvE fun i => ((mine.map (·.2.1)).take i)) us14.length S0 H14 D3 := ivE_ok (fun i => len_take _ i) (szl (by omega)) (fun h => h) hD3
      refine lc_F (T := c.T) (S := S0) (walk_list (K := K) (a := D2) (xs := us14)) letP _ k14 okl3 rfl (fun i F' H' ys k' e _ _ => SqL.of (k' _ _ (e _ _ h14)).1) ?_ ?_
      · rintro j x F16 H16 Hq ys hj cu ⟨rfl, hx⟩
        obtain ⟨r, hy, t, u, w, y, rfl, ht, hu, hw, hb⟩ := Paired.at pr14f hx
        obtain rfl : w = V.str ⟨#[r.2.1]⟩ := hw
        have k16 := cu.kn
        refine ⟨rfl, ?_⟩
        refine ⟨_, rfl, t, _, 1, _, rfl, rfl, SqT.of (k16 _ _ (cu.sub _ _ ht)).1, atI_nat (i := 1) rfl, ?_⟩
        refine cu.put okl3 hj (.refl k16) (z := r.2.1) rfl ?_
        show ys ++ [r.2.1] = (mine.map (·.2.1)).take (j + 1)
        rw [take_snoc (l := mine.map (·.2.1)) (i := j) (x := r.2.1) (by rw [List.getElem?_map, hy]; rfl), show ys = _ from cu.iv]
      intro F16 H16 lets us16 s16 fD3 hd16 pr16 iv16
      have elets : lets = mine.map (·.2.1) := by
        rw [show lets = (mine.map (·.2.1)).take us14.length from iv16, List.take_of_length_le (by rw [List.length_map]; omega)]
      have e16 := lets_of pr16
      rw [e16] at hd16
      refine ⟨D3, _, rfl, .inl (SqL.of hd16), rfl, all_flat_s _, _, rfl, ?_⟩
      have L16 := L14.step0 s16
      refine ite2 (fun hnot => ?_) (fun _ => ?_)
      · have hin : inV (.str ⟨#[l]⟩) ((lets.map fun l => wrd [l]).map V.str) = false := by
          have h := hnot
          cases e : inV (.str ⟨#[l]⟩) ((lets.map fun l => wrd [l]).map V.str) with
          | false => rfl
          | true =>
            have h : (!(if false = true then !inV (.str ⟨#[l]⟩) ((lets.map fun l => wrd [l]).map V.str) else inV (.str ⟨#[l]⟩) ((lets.map fun l => wrd [l]).map V.str))) = true := h
            rw [if_neg Bool.false_ne_true, e] at h
            cases h
        have hnl := inV_not hin
        have rP16 := Mo.up (P := ruP) s16.sub rP14
        refine ⟨_, rfl, .inl ⟨rfl, _, SqL.of L16.hr⟩, _, rfl, Lr, _, _, rfl, rfl, L16.hr, szlt (by omega), ?_⟩
        have s17 : Stp c.T (fun b => b = wl ∨ b = Lr ∨ b = Ld) F16 H16 F16 (upd H16 Lr (.lst (us ++ [.ref t5]))) := .set L16.W.kn L16.fr L16.hr (nx_lst _) (nt_lst _) (.inr (.inl rfl))
        refine ⟨F16, us ++ [.ref t5], rs ++ [(X, l, row)], _, _, _, _, _, _, _, _, _, s5.trans ((s514.wide fun b h => .inl h).trans ((s16.wide fun b h => h.elim).trans s17)), ⟨(L16.W.put nwr L16.fr).mono (by omega), L16.fr, upd_same, pairs_snoc L16.pr rP16, L16.fd, by rw [upd_ne (fun z => nrd z.symm)]; exact L16.hd⟩, P5.snoc hXm hl hrow (by omega) (by rw [hmR, List.length_map]; exact hm4) (fun q hq e => ?_), by rw [List.length_append, List.length_singleton]; omega, rfl⟩
        rw [hmR] at hq
        obtain ⟨r, hr, rfl⟩ := List.mem_map.mp hq
        refine hnl ?_
        rw [elets, ← e]
        exact List.mem_map.mpr ⟨r, hr, rfl⟩
      · have L15 := L16
        exact ⟨F16, us, rs, _, _, _, _, _, _, _, _, _, s5.trans ((s514.wide fun b h => .inl h).trans (s16.wide fun b h => h.elim)), ⟨L15.W.mono (by omega), L15.fr, L15.hr, L15.pr, L15.fd, L15.hd⟩, P5, by omega, rfl⟩
    · rintro σ H5 ⟨F5, us, rs, x7, x8, x9, x10, x11, x12, x13, x14, x15, s5, L5, P5, hrl, rfl⟩
      refine ⟨_, rfl, _, rfl, by show 2 ≤ sizeLine; decide, fun t ht => ?_⟩
      have s6 : Stp c.T S0 F5 H5 (upd F5 t (.tup [.ref Lr, .ref Ld])) (upd H5 t (.tup [.ref Lr, .ref Ld])) := .data L5.W.kn ht (nt_tup _)
      have L6 := L5.step0 s6
      have g6 : upd F5 t (.tup [.ref Lr, .ref Ld]) t = some (.tup [.ref Lr, .ref Ld]) := upd_same
      generalize upd F5 t (.tup [.ref Lr, .ref Ld]) = F6 at *
      generalize upd H5 t (.tup [.ref Lr, .ref Ld]) = H6 at *
      have sAll : Stp c.T (fun b => b = wl ∨ b = Lr ∨ b = Ld) F H F6 H6 := (s12.wide fun b h => h.elim).trans (s3.trans ((s4.wide fun b h => .inl h).trans (s5.trans (s6.wide fun b h => h.elim))))
      have rLr : Fr H Lr := .of hLr
      have rLd : Fr H Ld := s1.fr kn (.of hLd)
      have sF := (sAll.freeze rLr L6.hr (nt_lst _)).loc (S := fun b => b = wl) fun b hb => by
        rcases hb with z | z | z
        · exact .inl z
        · exact .inr (by rw [z]; exact rLr)
        · exact .inr (by rw [z]; exact rLd)
      have WF : WK c (upd F6 Lr (.lst us)) H6 wl (n + 5 * ns.length + 1 + 10 * v) := ⟨sF.kn, by rw [upd_ne nwr]; exact L6.W.fw, L6.W.wl⟩
      have g6' := same_upd (o := .lst us) L6.fr _ _ g6
      exact q _ H6 t Lr Ld us rs sF (WF.mono (by omega)) g6' upd_same (paired_up (same_upd L6.fr) L6.pr) P5 (by omega)
end
end K60
namespace K60
open PySem PySem.Spec PyProof.Rows L2 LamX
theorem cutS_to {w : List Nat} {k : Nat} {z : Int} (hz : z = (k : Int)) : cutS (wrd w) none (some z) = wrd (w.take k) := by
  subst hz
  unfold cutS
  have hl : (wrd w).length = w.length := wrd_len w
  rw [HT.sIx_none, HT.sIx_nat, hl, Nat.sub_zero, List.drop_zero]
  have e : (wrd w).cps.toList = w := by show w.toArray.toList = w; simp
  rw [e]
  by_cases h : k ≤ w.length
  · rw [Nat.min_eq_left h]; rfl
  · rw [Nat.min_eq_right (by omega), List.take_of_length_le (Nat.le_refl _), show wrd (w.take k) = wrd w from by rw [List.take_of_length_le (by omega)]]; rfl
theorem cutS_from {w : List Nat} {k : Nat} {z : Int} (hz : z = (k : Int)) (hk : k ≤ w.length) : cutS (wrd w) (some z) none = wrd (w.drop k) := by
  subst hz
  unfold cutS
  have hl : (wrd w).length = w.length := wrd_len w
  rw [HT.sIx_none, HT.sIx_nat, hl, Nat.min_eq_left hk]
  have e : (wrd w).cps.toList = w := by show w.toArray.toList = w; simp
  rw [e, List.take_of_length_le (by rw [List.length_drop]; exact Nat.le_refl _)]
  rfl
def sp_law_word_right (c : Cfg) : Sp := fun vs H Q _ => ∃ (F : Hp) (g : Addr) (ns : List Str) (R : Rls) (ν : Str → Nat) (sg : List Nat) (a : Addr) (row : List Str) (w : List Nat), vs = [.ref g, .ref a, .str (wrd w)] ∧ Kn F H ∧ GK c.CG F g ns R ν sg ∧ F a = some (.lst (row.map V.str)) ∧ (∀ Y ∈ row, Y ∈ ns) ∧ row.length ≤ 20 ∧ w.length ≤ 24 ∧ runR R (some row) w = some [] ∧
  ∀ F' H', Stp c.T S0 F H F' H' → Q (.bl true) H'
section
variable {c : Cfg} {K : PySem.W.Frag} {mg : Str → Option Value} {base : Heap}
theorem sc_law_word_right : FnScope ["_law_grammar", "_law_row", "_law_word", "_law_k", "_law_rest"] ["_law_grammar", "_law_row", "_law_word"] (defScope s_law_word_right) := ⟨rfl, rfl, rfl, by decide +kernel, rfl, by decide +kernel, by decide +kernel⟩
theorem ok_law_word_right (D : Dfn K mg "_law_word_right" s_law_word_right (["_law_grammar", "_law_row", "_law_word"])) (B : Blt mg) (G_runs_to : Gd c.P c.w K mg base 5 "runs_to" (["grammar", "row", "word"]) (sp_runs_to c)) (G_ends_by : Gd c.P c.w K mg base 6 "ends_by" (["grammar", "row", "word"]) (sp_ends_by c)) (G_place_of_word : Gd c.P c.w K mg base 102 "place_of_word" (["grammar", "row", "word"]) (sp_place_of_word c)) :
    Gd c.P c.w K mg base 103 "_law_word_right" (["_law_grammar", "_law_row", "_law_word"]) (sp_law_word_right c) := by
  refine D.ok sc_law_word_right (fun vs H Q E h => ?_) (fun fa cdv A outer s H vs Q E hr h => ?_)
  · obtain ⟨F, g, ns, R, ν, sg, a, row, w, rfl, _⟩ := h
    rfl
  obtain ⟨F, g, ns, R, ν, sg, a, row, w, rfl, kn, G, ha, hsub, hl, hw, hrun, q⟩ := h
  refine ⟨_, (pss_cons (ps_for PassesOwn.never rfl (pi_range1 (by rfl) B.range (pa_cons (pe_callB call_len_str (by rfl) B.len PySem.boot_len (pa_cons (pv 2) pa_nil)) pa_nil)) (pg_name (i := 3) sc_law_word_right.nd rfl (Or.inl rfl)) (pss_cons (ps_set (i := 4) sc_law_word_right.nd rfl (Or.inl rfl) (pe_g G_runs_to hr (by rfl) (pa_cons (pv 0) (pa_cons (pv 1) (pa_cons (pe_slice sl_str (pv 2) po_none (po_some (pv 3))) pa_nil))))) (pss_cons (ps_if (PW.pt (pw_or (pt_cmpR op_isN (pv 4) pe_non (nomark _)) (pw_or (pt_cmpR (op_eqD (hu64 hr)) (pv 4) (pe_lst pa_nil) (nomark _)) (pw_or1 (pt_val (pe_g G_ends_by hr (by rfl) (pa_cons (pv 0) (pa_cons (pv 1) (pa_cons (pe_slice sl_str (pv 2) po_none (po_some (pv 3))) pa_nil))))))))) (pss_one (ps_ret pe_bl)) pss_nil) (pss_one (ps_if (PW.pt (pw_or (pt_not (pt_val (pe_g G_ends_by hr (by rfl) (pa_cons (pv 0) (pa_cons (pv 4) (pa_cons (pe_slice sl_str (pv 2) (po_some (pv 3)) po_none) pa_nil)))))) (pw_or1 (pt_cmpR op_isN (pe_g G_place_of_word hr (by rfl) (pa_cons (pv 0) (pa_cons (pv 4) (pa_cons (pe_slice sl_str (pv 2) (po_some (pv 3)) po_none) pa_nil)))) pe_non (nomark _))))) (pss_one (ps_ret pe_bl)) pss_nil))))) (pss_one (ps_ret (pe_and (pe_g G_ends_by hr (by rfl) (pa_cons (pv 0) (pa_cons (pv 1) (pa_cons (pv 2) pa_nil)))) (pe_one (pe_cmpR op_isN (pe_g G_runs_to hr (by rfl) (pa_cons (pv 0) (pa_cons (pv 1) (pa_cons (pe_op op_add_str (pv 2) pe_str) pa_nil)))) pe_non (nomark _))))))), ?_⟩
  have hwl : (wrd w).length = w.length := wrd_len w
  have hsz : (wrd w).length ≤ sizeLine := by rw [hwl]; exact szl (by omega)
  refine ⟨_, rfl, _, rfl, hsz, (w.length : Int), congrArg (fun k : Nat => [V.int (k : Int)]) hwl, rng_lo (by omega), rng_hi (by omega), ?_⟩
  rw [show ((w.length : Nat) : Int).toNat = w.length by omega]
  refine for_it (walk_range (lo := 0) (n := w.length)) (fun i σ H' => ∃ (F' : Hp) (x3 x4 : Option V), Stp c.T S0 F H F' H' ∧ σ = [some (.ref g), some (.ref a), some (.str (wrd w)), x3, x4]) ?_ (fun _ _ _ _ _ => trivial) ?_ ?_
  · exact ⟨F, _, _, .refl kn, rfl⟩
  · rintro k x σ H1 H' hk ⟨F1, x3, x4, s1, rfl⟩ ⟨rfl, rfl⟩
    obtain ⟨X, r, hr1, hr2⟩ := word_mid hrun hk
    obtain ⟨hs2, hl2⟩ := G.gg.run_sub _ hsub hr1
    have htl : (w.take k).length ≤ 24 := by rw [List.length_take]; omega
    have hdl : (w.drop k).length ≤ 24 := by rw [List.length_drop]; omega
    have hz : (0 : Int) + ((k : Nat) : Int) = (k : Int) := by omega
    have ct := cutS_to (w := w) hz
    have cf := cutS_from (w := w) hz (Nat.le_of_lt hk)
    have ha1 := s1.sub _ _ ha
    refine ⟨_, rfl, _, rfl, _, rfl, _, rfl, _, rfl, _, rfl, hsz, F1, g, ns, R, ν, sg, a, row, w.take k, ?_, s1.kn, G.up s1.sub, ha1, hsub, by omega, fun F2 H2 v s2 ho => ?_⟩
    · exact congrArg (fun z => [V.ref g, V.ref a, V.str z]) ct
    rw [hr1] at ho
    obtain ⟨b, rfl, hb⟩ := ho
    refine ⟨_, rfl, rfl, _, rfl, ?_⟩
    rw [decide_eq_false (show ¬ (V.ref b = V.non) from fun h => by cases h)]
    refine ⟨_, rfl, Nat.zero_le _, fun e3 he3 => ?_⟩
    have s3 : Stp c.T S0 F2 H2 F2 (upd H2 e3 (.lst [])) := .mut s2.kn he3
    refine eqD_nil (r := X :: r) (fun Y hY => G.sok Y (hs2 Y hY)) (SqL.of (s3.kn _ _ hb).1) (SqL.of upd_same) ⟨_, rfl, ?_⟩
    rw [decide_eq_false (fun h => by cases h)]
    generalize upd H2 e3 (.lst []) = H3 at *
    have s13 := (s1.trans s2).trans s3
    have ha3 := s13.sub _ _ ha
    refine ⟨_, rfl, _, rfl, _, rfl, _, rfl, _, rfl, _, rfl, hsz, F2, g, ns, R, ν, sg, a, row, w.take k, ?_, s3.kn, G.up s13.sub, ha3, hsub, by omega, fun F4 H4 s4 => ⟨_, rfl, ?_⟩⟩
    · exact congrArg (fun z => [V.ref g, V.ref a, V.str z]) ct
    rw [hr1, decide_eq_false (fun h => by cases h)]
    have s14 := s13.trans s4
    have hb4 := s4.sub _ _ hb
    refine ⟨_, rfl, _, rfl, _, rfl, _, rfl, _, rfl, _, rfl, hsz, F4, g, ns, R, ν, sg, b, X :: r, w.drop k, ?_, s4.kn, G.up s14.sub, hb4, hs2, by omega, fun F5 H5 s5 => ⟨_, rfl, ?_⟩⟩
    · exact congrArg (fun z => [V.ref g, V.ref b, V.str z]) cf
    rw [hr2, decide_eq_true rfl]
    have s15 := s14.trans s5
    refine ⟨_, rfl, _, rfl, _, rfl, _, rfl, _, rfl, _, rfl, hsz, F5, g, ns, R, ν, sg, b, X :: r, w.drop k, ?_, s5.kn, G.up s15.sub, s5.sub _ _ hb4, hs2, by omega, hdl, hr2, fun F6 H6 n s6 => ⟨rfl, _, rfl, ?_⟩⟩
    · exact congrArg (fun z => [V.ref g, V.ref b, V.str z]) cf
    rw [dnon_f]
    exact ⟨F6, _, _, s15.trans s6, rfl⟩
  · rintro σ H1 ⟨F1, x3, x4, s1, rfl⟩
    refine ⟨_, rfl, _, rfl, _, rfl, F1, g, ns, R, ν, sg, a, row, w, rfl, s1.kn, G.up s1.sub, s1.sub _ _ ha, hsub, by omega, fun F2 H2 s2 => ⟨_, rfl, ?_⟩⟩
    rw [hrun, decide_eq_true rfl]
    have s12 := s1.trans s2
    refine ⟨_, rfl, _, rfl, _, rfl, _, _, rfl, rfl, ?_, F2, g, ns, R, ν, sg, a, row, w ++ [97], ?_, s2.kn, G.up s12.sub, s12.sub _ _ ha, hsub, ?_, fun F3 H3 v s3 ho => ?_⟩
    · rw [hwl]
      show _ + 1 ≤ _
      exact szl (by omega)
    · exact congrArg (fun z => [V.ref g, V.ref a, V.str z]) (wrd_app w [97])
    · rw [List.length_append, List.length_singleton]; omega
    · rw [runR_snoc, hrun] at ho
      obtain rfl : v = .non := ho
      refine ⟨rfl, ?_⟩
      rw [dnon_t]
      exact q F3 H3 (s12.trans s3)
end
end K60
namespace K60
open PySem PySem.Spec PyProof.Rows L2 LamX
theorem leS_trans (a b c : Str) (h1 : leS a b = true) (h2 : leS b c = true) : leS a c = true := by
  unfold leS at *
  exact decide_eq_true (List.le_trans (of_decide_eq_true h1) (of_decide_eq_true h2))
theorem leS_total (a b : Str) : (leS a b || leS b a) = true := by
  unfold leS
  rcases List.le_total a.cps.toList b.cps.toList with h | h
  · rw [decide_eq_true h]; rfl
  · rw [decide_eq_true h, Bool.or_true]
theorem leS_anti (a b : Str) (h1 : leS a b = true) (h2 : leS b a = true) : a = b := by
  unfold leS at *
  have h := List.le_antisymm (of_decide_eq_true h1) (of_decide_eq_true h2)
  cases a with
  | mk x => cases b with
    | mk y =>
      have h : x.toList = y.toList := h
      have h3 : x = y := Array.toList_inj.mp h
      rw [h3]
theorem sort_perm {xs ys : List Str} (h : xs.Perm ys) : xs.mergeSort leS = ys.mergeSort leS := by
  refine List.Perm.eq_of_pairwise (le := fun a b => leS a b = true) (fun a b _ _ h1 h2 => leS_anti a b h1 h2) (List.pairwise_mergeSort (fun a b c => leS_trans a b c) leS_total xs) (List.pairwise_mergeSort (fun a b c => leS_trans a b c) leS_total ys) ((List.mergeSort_perm _ _).trans (h.trans (List.mergeSort_perm _ _).symm))
/-- sorted letters -/
def sgS (sg : List Nat) : List Nat := sg.mergeSort fun a b => leS (wrd [a]) (wrd [b])
theorem sgS_perm {sg : List Nat} : (sgS sg).Perm sg := List.mergeSort_perm _ _
theorem sgS_map {sg : List Nat} : (sg.map fun l => wrd [l]).mergeSort leS = (sgS sg).map fun l => wrd [l] := (List.map_mergeSort (f := fun l : Nat => wrd [l]) (s := leS) (r := fun a b => leS (wrd [a]) (wrd [b])) (fun _ _ _ _ => rfl)).symm
abbrev behP : HP (Nat × Option (List Str)) := tup2 letP (optP rowP)
def oz (f : List Str → Nat) : Option (List Str) → Nat
  | none => 0
  | some x => f x
/-- the counts behind the letters so far -/
def cval (R : Rls) (row : List Str) (ls : List Nat) : Nat → Nat
  | 0 => 0
  | k + 1 => (ls.map fun l => oz (cnt R k) (stepR R row l)).sum
def cvals (R : Rls) (row : List Str) (ls : List Nat) : List Int := (List.range 15).map fun n => (cval R row ls n : Int)
theorem cval_snoc {R : Rls} {row : List Str} {ls : List Nat} {l k : Nat} : cval R row (ls ++ [l]) (k + 1) = cval R row ls (k + 1) + oz (cnt R k) (stepR R row l) := by
  show ((ls ++ [l]).map fun l => oz (cnt R k) (stepR R row l)).sum = _
  rw [List.map_append, List.sum_append]
  simp
  rfl
theorem cvals_snoc_none {R : Rls} {row : List Str} {ls : List Nat} {l : Nat} (h : stepR R row l = none) : cvals R row (ls ++ [l]) = cvals R row ls := by
  unfold cvals
  refine List.map_congr_left fun n _ => ?_
  cases n with
  | zero => rfl
  | succ k => rw [cval_snoc, h]; rfl
theorem cvals_snoc_some {R : Rls} {row x : List Str} {ls : List Nat} {l : Nat} (h : stepR R row l = some x) : cvals R row (ls ++ [l]) = (0 : Int) :: (List.range 14).map fun k => ((cval R row ls (k + 1) : Nat) : Int) + ((cnt R k x : Nat) : Int) := by
  unfold cvals
  rw [List.range_succ_eq_map, List.map_cons, List.map_map]
  show (0 : Int) :: _ = 0 :: _
  refine congrArg (List.cons (0 : Int)) (List.map_congr_left fun k _ => ?_)
  show ((cval R row (ls ++ [l]) (k + 1) : Nat) : Int) = _
  rw [cval_snoc, h]
  show ((cval R row ls (k + 1) + cnt R k x : Nat) : Int) = _
  omega
theorem cvals_all {ns : List Str} {R : Rls} {ν : Str → Nat} {sg : List Nat} (G : GG ns R ν sg) {X : Str} {r : List Str} (hX : X ∈ ns) : cvals R (X :: r) (sgS sg) = (List.range 15).map fun n => (cnt R n (X :: r) : Int) := by
  unfold cvals
  refine List.map_congr_left fun n _ => ?_
  cases n with
  | zero => rw [cnt_cons0]; rfl
  | succ k =>
    rw [← G.cnt_first hX sgS_perm k]
    refine congrArg (fun n : Nat => (n : Int)) (congrArg List.sum (List.map_congr_left fun l _ => ?_))
    cases stepR R (X :: r) l <;> rfl
theorem firstWords_snoc_none {R : Rls} {row : List Str} {ls : List Nat} {l m : Nat} (h : stepR R row l = none) : firstWords R m row (ls ++ [l]) = firstWords R m row ls := by
  unfold firstWords
  rw [List.flatMap_append, List.flatMap_cons, h]
  simp
theorem firstWords_snoc_some {R : Rls} {row x : List Str} {ls : List Nat} {l m : Nat} (h : stepR R row l = some x) : firstWords R m row (ls ++ [l]) = firstWords R m row ls ++ (within R m x).map (l :: ·) := by
  unfold firstWords
  rw [List.flatMap_append, List.flatMap_cons, h]
  simp
theorem bfs_len {ns : List Str} {R : Rls} {ν : Str → Nat} {sg : List Nat} (G : GG ns R ν sg) : ∀ (m i : Nat) (L : Ly Str), LyOk ns i L → (bfs R m L).length ≤ (m + 1) * 4 ^ (i + m)
  | 0, i, L, h => by
    have h1 : (ended L).length ≤ L.length := ended_le
    have := h.len
    show (ended L).length ≤ (0 + 1) * 4 ^ i
    omega
  | m + 1, i, L, h => by
    have h1 : (ended L).length ≤ L.length := ended_le
    have h2 := h.len
    have h3 := bfs_len G m (i + 1) (next R L) (h.next G)
    have h4 : 4 ^ i ≤ 4 ^ (i + (m + 1)) := Nat.pow_le_pow_right (by decide) (by omega)
    rw [show i + 1 + m = i + (m + 1) by omega] at h3
    show (ended L ++ bfs R m (next R L)).length ≤ _
    rw [List.length_append, show (m + 1 + 1) * 4 ^ (i + (m + 1)) = 4 ^ (i + (m + 1)) + (m + 1) * 4 ^ (i + (m + 1)) by rw [Nat.add_mul, Nat.one_mul, Nat.add_comm]]
    omega
theorem within_len {ns : List Str} {R : Rls} {ν : Str → Nat} {sg : List Nat} (G : GG ns R ν sg) {m : Nat} {row : List Str} (hs : ∀ Y ∈ row, Y ∈ ns) (hl : row.length ≤ 100) (hm : m ≤ 5) : (within R m row).length ≤ 6144 := by
  have h := bfs_len G m 0 [([], row)] ⟨Nat.le_refl _, fun q hq => by rw [List.mem_singleton.mp hq]; exact ⟨Nat.le_refl _, hs, hl⟩⟩
  have h2 : 4 ^ (0 + m) ≤ 4 ^ 5 := Nat.pow_le_pow_right (by decide) (by omega)
  have h3 : (m + 1) * 4 ^ (0 + m) ≤ 6 * 4 ^ 5 := Nat.mul_le_mul (by omega) h2
  exact Nat.le_trans h (Nat.le_trans h3 (by decide))
theorem within_ok {ns : List Str} {R : Rls} {ν : Str → Nat} {sg : List Nat} (G : GG ns R ν sg) {m : Nat} {row : List Str} (hs : ∀ Y ∈ row, Y ∈ ns) {w : List Nat} (hw : w ∈ within R m row) : w.length ≤ m ∧ runR R (some row) w = some [] ∧ ∀ l ∈ w, l ∈ sg := G.wle_ok m row hs w ((within_perm m row).mem_iff.mp hw)
def sp_law_first_right (c : Cfg) : Sp := fun vs H Q _ => ∃ (F : Hp) (g : Addr) (ns : List Str) (R : Rls) (ν : Str → Nat) (sg : List Nat) (a sa : Addr) (X : Str) (r : List Str), vs = [.ref g, .ref a, .ref sa] ∧ Kn F H ∧ Tabs c.T H ∧ GK c.CG F g ns R ν sg ∧ F a = some (.lst ((X :: r).map V.str)) ∧ (∀ Y ∈ X :: r, Y ∈ ns) ∧ (X :: r).length ≤ 20 ∧ F sa = some (.lst ((sg.map fun l => wrd [l]).map V.str)) ∧ sg.length ≤ 5 ∧
  ∀ F' H', Stp c.T S0 F H F' H' → Q (.bl true) H'
section
variable {c : Cfg} {K : PySem.W.Frag} {mg : Str → Option Value} {base : Heap}
theorem sc_law_first_right : FnScope ["_law_grammar", "_law_row", "_law_signs_here", "_law_behind", "_law_counts", "_law_words", "_law_letter", "_law_rest", "_law_more", "_law_k", "_law_word"] ["_law_grammar", "_law_row", "_law_signs_here"] (defScope s_law_first_right) := ⟨rfl, rfl, rfl, by decide +kernel, rfl, by decide +kernel, by decide +kernel⟩
theorem ok_law_first_right (D : Dfn K mg "_law_first_right" s_law_first_right (["_law_grammar", "_law_row", "_law_signs_here"])) (B : Blt mg) (G_runs_to : Gd c.P c.w K mg base 5 "runs_to" (["grammar", "row", "word"]) (sp_runs_to c)) (G_word_counts : Gd c.P c.w K mg base 102 "word_counts" (["grammar", "row", "most"]) (sp_word_counts c)) (G_words_within : Gd c.P c.w K mg base 5 "words_within" (["grammar", "row", "most"]) (sp_words_within c)) :
    Gd c.P c.w K mg base 103 "_law_first_right" (["_law_grammar", "_law_row", "_law_signs_here"]) (sp_law_first_right c) := by
  refine D.ok sc_law_first_right (fun vs H Q E h => ?_) (fun fa cdv A outer s H vs Q E hr h => ?_)
  · obtain ⟨F, g, ns, R, ν, sg, a, sa, X, r, rfl, _⟩ := h
    rfl
  obtain ⟨F, g, ns, R, ν, sg, a, sa, X, r, rfl, kn, tb, G, ha, hsub, hl, hsa, hsl, q⟩ := h
  refine ⟨_, (pss_cons (ps_setLc (i := 3) (own := [("_law_letter", 6)]) (wi := (iList K (tCB (rSortedT K) (tCons (tVar 2) tNil)))) (g := (gName 6)) (tt := tYes) (te := (tTup (tCons (tVar 6) (tCons (tG (sp_runs_to c) (tCons (tVar 0) (tCons (tVar 1) (tCons (tVar 6) tNil)))) tNil)))) rfl sc_law_first_right.nd rfl rfl (sw_true rfl rfl rfl (by decide +kernel)) (pi_list (pe_callB (cr_sortedT (hu64 hr)) (by rfl) B.sorted (by decide +kernel) (pa_cons (pv 2) pa_nil))) (blkOk_by (own := [("_law_letter", 6)]) (N := ["_law_grammar", "_law_row", "_law_signs_here", "_law_behind", "_law_counts", "_law_words", "_law_letter", "_law_rest", "_law_more", "_law_k", "_law_word"]) (sc := defScope s_law_first_right) (by decide +kernel)) (fun _ _ _ _ _ => (pg_name (i := 6) sc_law_first_right.nd rfl (Or.inl rfl))) (fun _ _ _ _ _ => pts_nil) (fun _ _ _ _ _ => (pe_tup (pa_cons (pv 6) (pa_cons (pe_g G_runs_to hr (by rfl) (pa_cons (pv 0) (pa_cons (pv 1) (pa_cons (pv 6) pa_nil)))) pa_nil))))) (pss_cons (ps_set (i := 4) sc_law_first_right.nd rfl (Or.inr rfl) (pe_op op_rep (pe_lst (pa_cons pe_int pa_nil)) pe_int)) (pss_cons (ps_set (i := 5) sc_law_first_right.nd rfl (Or.inl rfl) (pe_lst pa_nil)) (pss_cons (ps_for PassesOwn.never rfl (pi_list (pv 3)) (pg_tup rfl (pgs_cons (pg_name (i := 6) sc_law_first_right.nd rfl (Or.inr rfl)) (pgs_cons (pg_name (i := 7) sc_law_first_right.nd rfl (Or.inl rfl)) pgs_nil))) (pss_one (ps_if (pt_cmpR op_notN (pv 7) pe_non (nomark _)) (pss_cons (ps_set (i := 8) sc_law_first_right.nd rfl (Or.inr rfl) (pe_g G_word_counts hr (by rfl) (pa_cons (pv 0) (pa_cons (pv 7) (pa_cons pe_int pa_nil))))) (pss_cons (ps_set (i := 4) sc_law_first_right.nd rfl (Or.inr rfl) (pe_op op_cat (pe_lst (pa_cons (pe_ix ix_list (pv 4) pe_int (fun _ _ => rfl)) pa_nil)) (pe_lc (own := [("_law_k", 9)]) (wi := (iRng1 (tCons (tC (.int 14)) tNil))) (g := (gName 9)) (tt := tYes) (te := (tOp rAddI (tOp (rIxL K) (tVar 4) (tOp rAddI (tVar 9) (tC (.int 1)))) (tOp (rIxL K) (tVar 8) (tVar 9)))) rfl sc_law_first_right.nd (pi_range1 (by rfl) B.range (pa_cons pe_int pa_nil)) (blkOk_by (own := [("_law_k", 9)]) (N := ["_law_grammar", "_law_row", "_law_signs_here", "_law_behind", "_law_counts", "_law_words", "_law_letter", "_law_rest", "_law_more", "_law_k", "_law_word"]) (sc := defScope s_law_first_right) (by decide +kernel)) (fun _ _ _ _ _ => (pg_name (i := 9) sc_law_first_right.nd rfl (Or.inl rfl))) (fun _ _ _ _ _ => pts_nil) (fun _ _ _ _ _ => (pe_op op_add (pe_ix ix_list (pv 4) (pe_op op_add (pv 9) pe_int) (fun _ _ => rfl)) (pe_ix ix_list (pv 8) (pv 9) (fun _ _ => rfl))))))) (pss_one (ps_set (i := 5) sc_law_first_right.nd rfl (Or.inl rfl) (pe_op op_cat (pv 5) (pe_lc (own := [("_law_word", 10)]) (wi := (iList K (tG (sp_words_within c) (tCons (tVar 0) (tCons (tVar 7) (tCons (tC (.int 4)) tNil)))))) (g := (gName 10)) (tt := tYes) (te := (tOp rAddS (tVar 6) (tVar 10))) rfl sc_law_first_right.nd (pi_list (pe_g G_words_within hr (by rfl) (pa_cons (pv 0) (pa_cons (pv 7) (pa_cons pe_int pa_nil))))) (blkOk_by (own := [("_law_word", 10)]) (N := ["_law_grammar", "_law_row", "_law_signs_here", "_law_behind", "_law_counts", "_law_words", "_law_letter", "_law_rest", "_law_more", "_law_k", "_law_word"]) (sc := defScope s_law_first_right) (by decide +kernel)) (fun _ _ _ _ _ => (pg_name (i := 10) sc_law_first_right.nd rfl (Or.inl rfl))) (fun _ _ _ _ _ => pts_nil) (fun _ _ _ _ _ => (pe_op op_add_str (pv 6) (pv 10))))))))) pss_nil))) (pss_cons (ps_if (pt_cmpR (op_neD (hu64 hr)) (pe_g G_word_counts hr (by rfl) (pa_cons (pv 0) (pa_cons (pv 1) (pa_cons pe_int pa_nil)))) (pv 4) (nomark _)) (pss_one (ps_ret pe_bl)) pss_nil) (pss_one (ps_ret (pe_cmpR (op_eqD (hu64 hr)) (pe_callB (cr_sortedT (hu64 hr)) (by rfl) B.sorted (by decide +kernel) (pa_cons (pe_g G_words_within hr (by rfl) (pa_cons (pv 0) (pa_cons (pv 1) (pa_cons pe_int pa_nil)))) pa_nil)) (pe_callB (cr_sortedT (hu64 hr)) (by rfl) B.sorted (by decide +kernel) (pa_cons (pv 5) pa_nil)) (nomark _))))))))), ?_⟩
  have hX : X ∈ ns := hsub X (List.mem_cons_self ..)
  obtain ⟨row, hrow⟩ : ∃ row, row = X :: r := ⟨_, rfl⟩
  rw [← hrow] at ha hsub hl
  have lS : (sgS sg).length = sg.length := sgS_perm.length_eq
  -- behind
  refine ⟨_, rfl, sa, sg.map (fun l => wrd [l]), rfl, SqL.of (kn _ _ hsa).1, fun p hp => ?_⟩
  rw [sgS_map]
  have s1 : Stp c.T S0 F H (upd F p (.lst (((sgS sg).map fun l => wrd [l]).map V.str))) (upd H p (.lst (((sgS sg).map fun l => wrd [l]).map V.str))) := .data kn hp (nt_lst _)
  have h1 : upd F p (.lst (((sgS sg).map fun l => wrd [l]).map V.str)) p = some (.lst (((sgS sg).map fun l => wrd [l]).map V.str)) := upd_same
  generalize upd F p (.lst (((sgS sg).map fun l => wrd [l]).map V.str)) = F1 at *
  generalize upd H p (.lst (((sgS sg).map fun l => wrd [l]).map V.str)) = H1 at *
  refine ⟨p, rfl, ⟨_, SqL.of (s1.kn _ _ h1).1⟩, fun D1 hD1 => ?_⟩
  have eln : (((sgS sg).map fun l => wrd [l]).map V.str).length = sg.length := by rw [List.length_map, List.length_map, lS]
  have okl : IvOk (IvE fun i => ((sgS sg).take i).map fun l => (l, stepR R row l)) (((sgS sg).map fun l => wrd [l]).map V.str).length S0 H1 D1 := ivE_ok (fun i => by rw [List.length_map]; exact len_take _ i) (szl (by omega)) (fun h => h) hD1
  refine lc_F (T := c.T) (S := S0) (walk_list (K := K) (a := p) (xs := ((sgS sg).map fun l => wrd [l]).map V.str)) behP _ s1.kn okl rfl (fun i F' H' ys k' e _ _ => SqL.of (k' _ _ (e _ _ h1)).1) ?_ ?_
  · rintro j x F2 H2 H' ys hj cu ⟨rfl, hx⟩
    rw [List.getElem?_map, List.getElem?_map] at hx
    obtain ⟨l, hl', rfl⟩ : ∃ l, (sgS sg)[j]? = some l ∧ x = .str (wrd [l]) := by
      cases e : (sgS sg)[j]? with
      | none => rw [e] at hx; cases hx
      | some l => rw [e] at hx; exact ⟨l, rfl, (Option.some.inj hx).symm⟩
    have sub2 := s1.sub.trans cu.sub
    refine ⟨rfl, ?_⟩
    refine ⟨_, rfl, _, rfl, _, rfl, _, rfl, F2, g, ns, R, ν, sg, a, row, [l], rfl, cu.kn, G.up sub2, sub2 _ _ ha, hsub, by show row.length + 3 * 1 ≤ 1000; omega, fun F3 H3 v s3 ho => ⟨by show 2 ≤ sizeLine; decide, fun t ht => ?_⟩⟩
    have s4 : Stp c.T S0 F3 H3 (upd F3 t (.tup [.str (wrd [l]), v])) (upd H3 t (.tup [.str (wrd [l]), v])) := .data s3.kn ht (nt_tup _)
    have ho' : optP rowP F3 v (stepR R row l) := ho
    refine cu.put okl hj (s3.trans s4) (z := (l, stepR R row l)) ⟨t, _, _, rfl, upd_same, rfl, Mo.up s4.sub ho'⟩ ?_
    show ys ++ [_] = ((sgS sg).take (j + 1)).map _
    rw [take_snoc hl', List.map_append, show ys = _ from cu.iv]
    rfl
  intro F2 H2 beh us2 s2 fD1 hd2 pr2 iv2
  have ebeh : beh = (sgS sg).map fun l => (l, stepR R row l) := by
    rw [show beh = ((sgS sg).take _).map _ from iv2, List.take_of_length_le (by omega)]
  have s2f := s2.freeze (.of hD1) hd2 (nt_lst _)
  have pr2f : Paired (behP (upd F2 D1 (.lst us2))) us2 beh := paired_up (same_upd fD1) pr2
  have h2 : upd F2 D1 (.lst us2) D1 = some (.lst us2) := upd_same
  generalize upd F2 D1 (.lst us2) = F3 at *
  have lus2 : us2.length = sg.length := by rw [Paired.len pr2f, ebeh, List.length_map, lS]
  have s12 := s1.trans s2f
  -- counts
  refine ⟨by show 1 ≤ sizeLine; decide, fun p3 hp3 => ?_⟩
  have s3 : Stp c.T S0 F3 H2 F3 (upd H2 p3 (.lst [.int 0])) := .mut s2f.kn hp3
  refine ⟨p3, 15, [.int 0], rfl, rfl, upd_same, by decide, by decide, by decide, fun p4 hp4 => ?_⟩
  have e4 : (List.replicate (15 : Int).toNat [V.int 0]).flatten = (cvals R row []).map V.int := rfl
  rw [e4]
  generalize upd H2 p3 (.lst [.int 0]) = H3 at *
  have s4 : Stp c.T S0 F3 H3 (upd F3 p4 (.lst ((cvals R row []).map V.int))) (upd H3 p4 (.lst ((cvals R row []).map V.int))) := .data s3.kn hp4 (nt_lst _)
  have h4 : upd F3 p4 (.lst ((cvals R row []).map V.int)) p4 = some (.lst ((cvals R row []).map V.int)) := upd_same
  generalize upd F3 p4 (.lst ((cvals R row []).map V.int)) = F4 at *
  generalize upd H3 p4 (.lst ((cvals R row []).map V.int)) = H4 at *
  refine ⟨Nat.zero_le _, fun p5 hp5 => ?_⟩
  have s5 : Stp c.T S0 F4 H4 (upd F4 p5 (.lst [])) (upd H4 p5 (.lst [])) := .data s4.kn hp5 (nt_lst _)
  have h5 : upd F4 p5 (.lst []) p5 = some (.lst []) := upd_same
  have h45 := s5.sub _ _ h4
  generalize upd F4 p5 (.lst []) = F5 at *
  generalize upd H4 p5 (.lst []) = H5 at *
  have s15 := ((s12.trans s3).trans s4).trans s5
  have h25 := s5.sub _ _ (s4.sub _ _ h2)
  have pr5 : Paired (behP F5) us2 beh := paired_up (s4.sub.trans s5.sub) pr2f
  refine ⟨_, rfl, D1, rfl, ⟨_, SqL.of (s5.kn _ _ h25).1⟩, ?_⟩
  refine for_it (walk_list (K := K) (a := D1) (xs := us2)) (fun i σ H' => ∃ (F' : Hp) (ca wa : Addr) (ws : List (List Nat)) (x6 x7 x8 x9 x10 : Option V), Stp c.T S0 F5 H5 F' H' ∧ F' ca = some (.lst ((cvals R row ((sgS sg).take i)).map V.int)) ∧ F' wa = some (.lst ((ws.map wrd).map V.str)) ∧ ws = firstWords R 4 row ((sgS sg).take i) ∧ ws.length ≤ 6144 * i ∧ σ = [some (.ref g), some (.ref a), some (.ref sa), some (.ref D1), some (.ref ca), some (.ref wa), x6, x7, x8, x9, x10]) ?_ ?_ ?_ ?_
  · exact ⟨F5, p4, p5, [], none, none, none, none, none, .refl s5.kn, h45, h5, rfl, Nat.zero_le _, rfl⟩
  · rintro i σ H' _ ⟨F', ca, wa, ws, x6, x7, x8, x9, x10, st, _⟩
    exact SqL.of (st.kn _ _ (st.sub _ _ h25)).1
  · rintro i x σ H6 H' hi ⟨F6, ca, wa, ws, x6, x7, x8, x9, x10, s6, hca, hwa, ews, lws, rfl⟩ ⟨rfl, hx⟩
    rw [lus2] at hi
    obtain ⟨⟨l, o⟩, hy, t, u, v, rfl, ht, hu, ho⟩ := Paired.at pr5 hx
    rw [ebeh, List.getElem?_map] at hy
    obtain ⟨l', hl', e'⟩ := Option.map_eq_some_iff.mp hy
    obtain ⟨rfl, rfl⟩ := Prod.mk.inj e'
    obtain rfl : u = V.str ⟨#[l']⟩ := hu
    have ho : optP rowP F5 v (stepR R row l') := ho
    have k6 := s6.kn
    refine ⟨t, _, rfl, SqT.of (k6 _ _ (s6.sub _ _ ht)).1, rfl, _, _, rfl, _, _, rfl, rfl, ?_⟩
    have G6 := (G.up s15.sub).up s6.sub
    cases es : stepR R row l' with
    | none =>
      rw [es] at ho
      obtain rfl : v = .non := ho
      refine ⟨_, rfl, rfl, _, rfl, ?_⟩
      rw [dnon_t]
      refine ⟨F6, ca, wa, ws, _, _, _, _, _, s6, ?_, hwa, ?_, by omega, rfl⟩
      · rw [take_snoc hl', cvals_snoc_none es]; exact hca
      · rw [take_snoc hl', firstWords_snoc_none es]; exact ews
    | some x =>
      rw [es] at ho
      obtain ⟨b, rfl, hb⟩ := ho
      have hrun1 : runR R (some row) [l'] = some x := es
      obtain ⟨hxs, hxl⟩ := G.gg.run_sub _ hsub hrun1
      have hxl' : x.length ≤ 23 := by
        have : x.length ≤ row.length + 3 * 1 := hxl
        omega
      have hb6 := s6.sub _ _ hb
      refine ⟨_, rfl, rfl, _, rfl, ?_⟩
      rw [decide_eq_false (show ¬ (V.ref b = V.non) from fun h => by cases h)]
      -- more
      refine ⟨_, rfl, _, rfl, F6, g, ns, R, ν, sg, b, x, 13, rfl, k6, G6, hb6, hxs, by omega, by decide, fun F7' H7 m7 us7 s7' hf7 hn7 hm7 pr7 => ?_⟩
      have s7 := s7'.freeze hf7 hm7 (nt_lst _)
      have e7 := nats_of pr7
      rw [e7] at s7 hm7
      have hm7' : upd F7' m7 (.lst ((((List.range (13 + 1)).map fun n => cnt R n x).map fun n : Nat => (n : Int)).map V.int)) m7 = some (.lst ((((List.range (13 + 1)).map fun n => cnt R n x).map fun n : Nat => (n : Int)).map V.int)) := upd_same
      generalize upd F7' m7 (.lst ((((List.range (13 + 1)).map fun n => cnt R n x).map fun n : Nat => (n : Int)).map V.int)) = F7 at *
      have hca7 := s7.sub _ _ hca
      have k7 := s7.kn
      -- counts
      refine ⟨_, rfl, ca, _, 0, .int 0, rfl, rfl, SqL.of (k7 _ _ hca7).1, atI_nat (i := 0) rfl, by show 1 ≤ sizeLine; decide, fun p8 hp8 => ?_⟩
      have s8 : Stp c.T S0 F7 H7 F7 (upd H7 p8 (.lst [.int 0])) := .mut k7 hp8
      have g8 : upd H7 p8 (.lst [.int 0]) p8 = some (.lst [.int 0]) := upd_same
      have f8 : F7 p8 = none := k7.off hp8
      generalize upd H7 p8 (.lst [.int 0]) = H8 at *
      have k8 := s8.kn
      refine ⟨14, rfl, by decide, by decide, fun D9 hD9 => ?_⟩
      have okl9 : IvOk (IvE fun j => (List.range j).map fun k => ((cval R row ((sgS sg).take i) (k + 1) : Nat) : Int) + ((cnt R k x : Nat) : Int)) 14 S0 H8 D9 := ivE_ok (fun i => by rw [List.length_map, List.length_range]; exact Nat.le_refl _) (szl (by decide)) (fun h => h) hD9
      have G7 := G6.up s7.sub
      refine lc_F (T := c.T) (S := S0) (walk_range (lo := 0) (n := 14)) intP _ k8 okl9 rfl (fun _ _ _ _ _ _ _ _ => trivial) ?_ ?_
      · rintro k y F9 H9 Hq ys hk cu ⟨rfl, rfl⟩
        have k9 := cu.kn
        refine ⟨rfl, ?_⟩
        refine ⟨_, rfl, _, rfl, _, _, rfl, rfl, ca, _, _, .int ((cval R row ((sgS sg).take i) (k + 1) : Nat) : Int), rfl, rfl, SqL.of (k9 _ _ (cu.sub _ _ hca7)).1, ?_, _, rfl, _, rfl, m7, _, _, .int ((cnt R k x : Nat) : Int), rfl, rfl, SqL.of (k9 _ _ (cu.sub _ _ hm7')).1, ?_, _, _, rfl, rfl, ?_⟩
        · rw [← atI_nat (xs := (cvals R row ((sgS sg).take i)).map V.int) (i := k + 1) (x := .int ((cval R row ((sgS sg).take i) (k + 1) : Nat) : Int)) ?_]
          · exact congrArg (atI _) (show (0 : Int) + ((k : Nat) : Int) + 1 = ((k + 1 : Nat) : Int) by omega)
          · unfold cvals
            rw [List.getElem?_map, List.getElem?_map, List.getElem?_range (by omega)]
            rfl
        · rw [← atI_nat (xs := (((List.range (13 + 1)).map fun n => cnt R n x).map fun n : Nat => (n : Int)).map V.int) (i := k) (x := .int ((cnt R k x : Nat) : Int)) ?_]
          · exact congrArg (atI _) (show (0 : Int) + ((k : Nat) : Int) = ((k : Nat) : Int) by omega)
          · rw [List.getElem?_map, List.getElem?_map, List.getElem?_map, List.getElem?_range (by omega)]
            rfl
        · refine cu.put okl9 hk (.refl k9) (z := ((cval R row ((sgS sg).take i) (k + 1) : Nat) : Int) + ((cnt R k x : Nat) : Int)) rfl ?_
          show ys ++ [_] = (List.range (k + 1)).map _
          rw [List.range_succ, List.map_append, show ys = _ from cu.iv]
          rfl
      intro F9 H9 cs us9 s9 fD9 hd9 pr9 iv9
      have e9 := ints_of pr9
      rw [e9] at hd9
      obtain ⟨f9, g9⟩ := s9.mu f8 g8 (nt_lst _) (fun h => h)
      refine ⟨p8, D9, _, _, rfl, rfl, g9, hd9, ?_, fun p10 hp10 => ?_⟩
      · rw [List.length_map, show cs = _ from iv9, List.length_map, List.length_range]
        show 1 + 14 ≤ sizeLine
        decide
      have e10 : [V.int 0] ++ cs.map V.int = (cvals R row ((sgS sg).take (i + 1))).map V.int := by
        rw [take_snoc hl', cvals_snoc_some es, show cs = _ from iv9]
        rfl
      rw [e10]
      have s10 : Stp c.T S0 F9 H9 (upd F9 p10 (.lst ((cvals R row ((sgS sg).take (i + 1))).map V.int))) (upd H9 p10 (.lst ((cvals R row ((sgS sg).take (i + 1))).map V.int))) := .data s9.kn hp10 (nt_lst _)
      have h10 : upd F9 p10 (.lst ((cvals R row ((sgS sg).take (i + 1))).map V.int)) p10 = some (.lst ((cvals R row ((sgS sg).take (i + 1))).map V.int)) := upd_same
      generalize upd F9 p10 (.lst ((cvals R row ((sgS sg).take (i + 1))).map V.int)) = F10 at *
      generalize upd H9 p10 (.lst ((cvals R row ((sgS sg).take (i + 1))).map V.int)) = H10 at *
      have s610 := ((s7.trans s8).trans s9).trans s10
      have k10 := s10.kn
      have s010 := (s15.trans s6).trans s610
      -- words
      refine ⟨_, rfl, _, rfl, _, rfl, F10, g, ns, R, ν, sg, b, x, 4, rfl, k10, s010.tab tb, G6.up s610.sub, s610.sub _ _ hb6, hxs, by omega, by decide, fun F11' H11 m11 us11 s11' hf11 hn11 hm11 pr11 => ⟨m11, rfl, ⟨_, SqL.of hm11⟩, fun D12 hD12 => ?_⟩⟩
      have s11 := s11'.freeze hf11 hm11 (nt_lst _)
      have pr11f : Paired (wordP (upd F11' m11 (.lst us11))) us11 (within R 4 x) := paired_up (same_upd hn11) pr11
      have h11 : upd F11' m11 (.lst us11) m11 = some (.lst us11) := upd_same
      generalize upd F11' m11 (.lst us11) = F11 at *
      have wl := within_len G.gg (m := 4) hxs (by omega) (by decide)
      have lus11 := Paired.len pr11f
      have okl12 : IvOk (IvE fun j => ((within R 4 x).take j).map (l' :: ·)) us11.length S0 H11 D12 := ivE_ok (fun j => by rw [List.length_map]; exact len_take _ j) (szl (by omega)) (fun h => h) hD12
      refine lc_F (T := c.T) (S := S0) (walk_list (K := K) (a := m11) (xs := us11)) wordP _ s11.kn okl12 rfl (fun i F' H' ys k' e _ _ => SqL.of (k' _ _ (e _ _ h11)).1) ?_ ?_
      · rintro j y F12 H12 Hq ys hj cu ⟨rfl, hx12⟩
        obtain ⟨w, hw, hyw⟩ := Paired.at pr11f hx12
        obtain rfl : y = V.str (wrd w) := hyw
        obtain ⟨hw1, hw2, hw3⟩ := within_ok G.gg hxs (List.mem_of_getElem? hw)
        refine ⟨rfl, ?_⟩
        refine ⟨_, rfl, _, rfl, _, _, rfl, rfl, ?_, ?_⟩
        · rw [wrd_len]
          show 1 + w.length ≤ sizeLine
          exact szl (by omega)
        · refine cu.put okl12 hj (.refl cu.kn) (z := l' :: w) (congrArg V.str (wrd_app [l'] w)) ?_
          show ys ++ [l' :: w] = ((within R 4 x).take (j + 1)).map _
          rw [take_snoc hw, List.map_append, show ys = _ from cu.iv]
          rfl
      intro F12 H12 nw us12 s12_ fD12 hd12 pr12 iv12
      have enw : nw = (within R 4 x).map (l' :: ·) := by
        rw [show nw = ((within R 4 x).take us11.length).map _ from iv12, List.take_of_length_le (by omega)]
      have e12 := words_of pr12
      rw [e12] at hd12
      have hwa12 := (s12_.kn _ _ ((s610.sub.trans (s11.sub.trans s12_.sub)) _ _ hwa)).1
      have lnw : nw.length ≤ 6144 := by rw [enw, List.length_map]; exact wl
      refine ⟨wa, D12, _, _, rfl, rfl, hwa12, hd12, ?_, fun p13 hp13 => ?_⟩
      · rw [List.length_map, List.length_map, List.length_map, List.length_map]
        exact szl (by omega)
      rw [← List.map_append, ← List.map_append]
      have s13 : Stp c.T S0 F12 H12 (upd F12 p13 (.lst (((ws ++ nw).map wrd).map V.str))) (upd H12 p13 (.lst (((ws ++ nw).map wrd).map V.str))) := .data s12_.kn hp13 (nt_lst _)
      have s1013 := (s11.trans s12_).trans s13
      refine ⟨_, p10, p13, ws ++ nw, _, _, _, _, _, (s6.trans s610).trans s1013, s1013.sub _ _ h10, upd_same, ?_, ?_, rfl⟩
      · rw [take_snoc hl', firstWords_snoc_some es, ← ews, enw]
      · rw [List.length_append]; omega
  · rintro σ H6 ⟨F6, ca, wa, ws, x6, x7, x8, x9, x10, s6, hca, hwa, ews, lws, rfl⟩
    rw [lus2] at hca ews lws
    rw [List.take_of_length_le (by omega)] at hca ews
    have G6 := (G.up s15.sub).up s6.sub
    have s06 := s15.trans s6
    have ha6 := s06.sub _ _ ha
    refine ⟨_, rfl, _, rfl, F6, g, ns, R, ν, sg, a, row, 14, rfl, s6.kn, G6, ha6, hsub, by omega, by decide, fun F7 H7 m7 us7 s7 hf7 hn7 hm7 pr7 => ?_⟩
    have e7 := nats_of pr7
    rw [e7] at hm7
    have hca7 := (s7.kn _ _ (s7.sub _ _ hca)).1
    refine ⟨_, rfl, neD_i (SqL.of hm7) (SqL.of hca7) ⟨_, rfl, ?_⟩⟩
    have eq7 : ((List.range (14 + 1)).map fun n => cnt R n row).map (fun n : Nat => (n : Int)) = cvals R row (sgS sg) := by
      rw [hrow, cvals_all G.gg hX, List.map_map]
      rfl
    rw [decide_eq_true eq7]
    have s07 := s06.trans s7
    refine ⟨_, rfl, _, rfl, F7, g, ns, R, ν, sg, a, row, 5, rfl, s7.kn, s07.tab tb, G6.up s7.sub, s07.sub _ _ ha, hsub, by omega, by decide, fun F8' H8 m8 us8 s8' hf8 hn8 hm8 pr8 => ?_⟩
    have s8 := s8'.freeze hf8 hm8 (nt_lst _)
    have e8 := words_of pr8
    rw [e8] at s8 hm8
    generalize upd F8' m8 (.lst (((within R 5 row).map wrd).map V.str)) = F8 at *
    refine ⟨m8, _, rfl, SqL.of hm8, fun p9 hp9 => ?_⟩
    have s9 : Stp c.T S0 F8 H8 (upd F8 p9 (.lst ((((within R 5 row).map wrd).mergeSort leS).map V.str))) (upd H8 p9 (.lst ((((within R 5 row).map wrd).mergeSort leS).map V.str))) := .data s8.kn hp9 (nt_lst _)
    have h9 : upd F8 p9 (.lst ((((within R 5 row).map wrd).mergeSort leS).map V.str)) p9 = some (.lst ((((within R 5 row).map wrd).mergeSort leS).map V.str)) := upd_same
    generalize upd F8 p9 (.lst ((((within R 5 row).map wrd).mergeSort leS).map V.str)) = F9 at *
    generalize upd H8 p9 (.lst ((((within R 5 row).map wrd).mergeSort leS).map V.str)) = H9 at *
    have s79 := s8.trans s9
    have hwa9 := (s9.kn _ _ ((s7.sub.trans s79.sub) _ _ hwa)).1
    refine ⟨_, rfl, wa, _, rfl, SqL.of hwa9, fun p10 hp10 => ?_⟩
    have s10 : Stp c.T S0 F9 H9 F9 (upd H9 p10 (.lst (((ws.map wrd).mergeSort leS).map V.str))) := .mut s9.kn hp10
    have pm : ((within R 5 row).map wrd).Perm (ws.map wrd) := by
      rw [ews, hrow]
      exact (G.gg.words_first hX sgS_perm 4).map wrd
    have soks : ∀ Z ∈ ((within R 5 row).map wrd).mergeSort leS, sok Z := fun Z hZ => by
      obtain ⟨w, hw, rfl⟩ := List.mem_map.mp ((List.mergeSort_perm _ _).subset hZ)
      refine sok_wrd fun l hl => ?_
      have := (G.lok l ((within_ok G.gg hsub hw).2.2 l hl)).2
      omega
    have es : ((within R 5 row).map wrd).mergeSort leS = (ws.map wrd).mergeSort leS := sort_perm pm
    refine eqD_s soks (s := (ws.map wrd).mergeSort leS) (by rw [← es]; exact soks) (SqL.of (s10.kn _ _ h9).1) (SqL.of upd_same) ?_
    rw [decide_eq_true es]
    exact q F9 _ (s07.trans (s79.trans s10))
end
end K60
namespace K60
open PySem PySem.Spec PyProof.Rows L2 LamX
def sp_law (c : Cfg) (K : PySem.W.Frag) : Sp := fun vs H Q _ => ∃ (a : Addr) (zs : List Int), vs = [.ref a] ∧ SqL K H a (zs.map V.int) ∧ zs.length ≤ 1000 ∧ Tabs c.T H ∧ ∀ H', Q (.bl true) H'
theorem cutV_ints {zs : List Int} {lo hi : Option Int} : ∃ ys : List Int, cutV (zs.map V.int) lo hi = ys.map V.int ∧ ys.length ≤ zs.length := by
  unfold cutV
  refine ⟨_, by rw [← List.map_drop, ← List.map_take], ?_⟩
  rw [List.length_take, List.length_drop]
  omega
/-- a word that is right -/
def WOk (R : Rls) (row : List Str) (w : List Nat) : Prop := w.length ≤ 24 ∧ runR R (some row) w = some []
section
variable {c : Cfg} {K : PySem.W.Frag} {mg : Str → Option Value} {base : Heap}
theorem sc_law : FnScope ["_law_script", "_law_cell", "_law_well_here", "_law_names_here", "_law_signs_here", "_law_grammar", "_law_row", "_law_end", "_law_many", "_law_count", "_law_words", "_law_k", "_law_word"] ["_law_script"] (defScope s_law) := ⟨rfl, rfl, rfl, by decide +kernel, rfl, by decide +kernel, by decide +kernel⟩
theorem ok_law {f0 : Addr} {fd0 : FuncData} (D : Fun K "law" "law" s_law f0 fd0) (B : Blt mg) (mgGrammar : mg "Grammar" = some (.ref c.CG)) (I_Grammar : Gi c.P c.w K mg base 4 c.CG (["self", "names", "rules"]) (sp_Grammar_init c))
    (G_law_cell_at : Gd c.P c.w K mg base 1 "_law_cell_at" (["_law_script", "_law_k"]) (sp_law_cell_at c K)) (G_law_well : Gd c.P c.w K mg base 1 "_law_well" (["_law_cell"]) (sp_law_well c)) (G_law_draw : Gd c.P c.w K mg base 1 "_law_draw" (["_law_well_here", "_law_many"]) (sp_law_draw c)) (G_law_one : Gd c.P c.w K mg base 2 "_law_one" (["_law_well_here", "_law_some"]) (sp_law_one c))
    (G_law_names : Gd c.P c.w K mg base 2 "_law_names" (["_law_well_here", "_law_many"]) (sp_law_names c)) (G_law_signs : Gd c.P c.w K mg base 2 "_law_signs" (["_law_well_here", "_law_many"]) (sp_law_signs c)) (G_law_mixed : Gd c.P c.w K mg base 2 "_law_mixed" (["_law_well_here", "_law_some"]) (sp_law_mixed c)) (G_law_rules : Gd c.P c.w K mg base 3 "_law_rules" (["_law_well_here", "_law_names_here", "_law_signs_here", "_law_plain", "_law_most"]) (sp_law_rules c))
    (G_law_first_right : Gd c.P c.w K mg base 103 "_law_first_right" (["_law_grammar", "_law_row", "_law_signs_here"]) (sp_law_first_right c)) (G_law_word_right : Gd c.P c.w K mg base 103 "_law_word_right" (["_law_grammar", "_law_row", "_law_word"]) (sp_law_word_right c)) (G_shortest_end : Gd c.P c.w K mg base 3 "shortest_end" (["grammar", "row"]) (sp_shortest_end c)) (G_norm_of : Gd c.P c.w K mg base 3 "norm_of" (["grammar", "row"]) (sp_norm_of c))
    (G_word_at : Gd c.P c.w K mg base 102 "word_at" (["grammar", "row", "many", "at"]) (sp_word_at c)) (G_word_counts : Gd c.P c.w K mg base 102 "word_counts" (["grammar", "row", "most"]) (sp_word_counts c)) (G_words_within : Gd c.P c.w K mg base 5 "words_within" (["grammar", "row", "most"]) (sp_words_within c)) :
    FnOk c.P c.w K mg base CX0 104 f0 fd0 (["_law_script"]) (sp_law c K) := by
  refine D.ok (k := 103) sc_law (fun vs H Q E h => ?_) (fun cdv A outer s H vs Q E hr h => ?_)
  · obtain ⟨a, zs, rfl, _⟩ := h
    rfl
  obtain ⟨a, zs, rfl, hs, hzl, tb, q⟩ := h
  refine ⟨_, (pss_cons (ps_for PassesOwn.never rfl (pi_list (pe_op op_cat (pe_lst (pa_cons (pe_g G_law_cell_at hr (by rfl) (pa_cons (pv 0) (pa_cons pe_int pa_nil))) pa_nil)) (pe_slice sl_list (pv 0) (po_some pe_int) (po_some pe_int)))) (pg_name (i := 1) sc_law.nd rfl (Or.inl rfl)) (pss_cons (ps_set (i := 2) sc_law.nd rfl (Or.inr rfl) (pe_g G_law_well hr (by rfl) (pa_cons (pv 1) pa_nil))) (pss_cons (ps_set (i := 3) sc_law.nd rfl (Or.inr rfl) (pe_g G_law_names hr (by rfl) (pa_cons (pv 2) (pa_cons (pe_op op_add pe_int (pe_g G_law_draw hr (by rfl) (pa_cons (pv 2) (pa_cons pe_int pa_nil)))) pa_nil)))) (pss_cons (ps_set (i := 4) sc_law.nd rfl (Or.inl rfl) (pe_g G_law_signs hr (by rfl) (pa_cons (pv 2) (pa_cons (pe_op op_add pe_int (pe_g G_law_draw hr (by rfl) (pa_cons (pv 2) (pa_cons pe_int pa_nil)))) pa_nil)))) (pss_cons (ps_set (i := 5) sc_law.nd rfl (Or.inr rfl) (pe_mk I_Grammar hr (by rfl) mgGrammar (pa_cons (pe_g G_law_mixed hr (by rfl) (pa_cons (pv 2) (pa_cons (pv 3) pa_nil))) (pa_cons (pe_ix ix_tup (pe_g G_law_rules hr (by rfl) (pa_cons (pv 2) (pa_cons (pv 3) (pa_cons (pv 4) (pa_cons pe_bl (pa_cons pe_int pa_nil)))))) pe_int (fun _ _ => rfl)) pa_nil)))) (pss_cons (ps_set (i := 6) sc_law.nd rfl (Or.inr rfl) (pe_lc (own := [("_law_k", 11)]) (wi := (iRng1 (tCons (tOp rAddI (tC (.int 1)) (tG (sp_law_draw c) (tCons (tVar 2) (tCons (tC (.int 5)) tNil)))) tNil))) (g := (gName 11)) (tt := tYes) (te := (tG (sp_law_one c) (tCons (tVar 2) (tCons (tVar 3) tNil)))) rfl sc_law.nd (pi_range1 (by rfl) B.range (pa_cons (pe_op op_add pe_int (pe_g G_law_draw hr (by rfl) (pa_cons (pv 2) (pa_cons pe_int pa_nil)))) pa_nil)) (blkOk_by (own := [("_law_k", 11)]) (N := ["_law_script", "_law_cell", "_law_well_here", "_law_names_here", "_law_signs_here", "_law_grammar", "_law_row", "_law_end", "_law_many", "_law_count", "_law_words", "_law_k", "_law_word"]) (sc := defScope s_law) (by decide +kernel)) (fun _ _ _ _ _ => (pg_name (i := 11) sc_law.nd rfl (Or.inl rfl))) (fun _ _ _ _ _ => pts_nil) (fun _ _ _ _ _ => (pe_g G_law_one hr (by rfl) (pa_cons (pv 2) (pa_cons (pv 3) pa_nil)))))) (pss_cons (ps_if (pt_not (pt_val (pe_g G_law_first_right hr (by rfl) (pa_cons (pv 5) (pa_cons (pv 6) (pa_cons (pv 4) pa_nil)))))) (pss_one (ps_ret pe_bl)) pss_nil) (pss_cons (ps_set (i := 7) sc_law.nd rfl (Or.inl rfl) (pe_g G_shortest_end hr (by rfl) (pa_cons (pv 5) (pa_cons (pv 6) pa_nil)))) (pss_cons (ps_if (PW.pt (pw_or (pt_cmpR op_ne (pe_callB call_len_str (by rfl) B.len PySem.boot_len (pa_cons (pv 7) pa_nil)) (pe_g G_norm_of hr (by rfl) (pa_cons (pv 5) (pa_cons (pv 6) pa_nil))) (nomark _)) (pw_or1 (PW.pt (pw_and (pt_cmpR op_lt (pe_callB call_len_str (by rfl) B.len PySem.boot_len (pa_cons (pv 7) pa_nil)) pe_int (nomark _)) (pw_and1 (pt_cmpR op_ne (pe_g G_word_at hr (by rfl) (pa_cons (pv 5) (pa_cons (pv 6) (pa_cons (pe_callB call_len_str (by rfl) B.len PySem.boot_len (pa_cons (pv 7) pa_nil)) (pa_cons pe_int pa_nil))))) (pv 7) (nomark _)))))))) (pss_one (ps_ret pe_bl)) pss_nil) (pss_cons (ps_set (i := 8) sc_law.nd rfl (Or.inl rfl) (pe_g G_law_draw hr (by rfl) (pa_cons (pv 2) (pa_cons pe_int pa_nil)))) (pss_cons (ps_set (i := 9) sc_law.nd rfl (Or.inl rfl) (pe_ix ix_list (pe_g G_word_counts hr (by rfl) (pa_cons (pv 5) (pa_cons (pv 6) (pa_cons (pv 8) pa_nil)))) (pv 8) (fun _ _ => rfl))) (pss_cons (ps_set (i := 10) sc_law.nd rfl (Or.inl rfl) (pe_op op_cat (pe_slice sl_list (pe_g G_words_within hr (by rfl) (pa_cons (pv 5) (pa_cons (pv 6) (pa_cons pe_int pa_nil)))) po_none (po_some pe_int)) (pe_op op_rep (pe_lst (pa_cons (pv 7) pa_nil)) (pe_callTy call_int1 (by rfl) B.int (by decide +kernel) (pa_cons (pe_cmpR op_lt (pe_callB call_len_str (by rfl) B.len PySem.boot_len (pa_cons (pv 7) pa_nil)) pe_int (nomark _)) pa_nil))))) (pss_cons (ps_if (pt_cmpR op_gt (pv 9) pe_int (nomark _)) (pss_one (ps_expr (pe_bm PySem.F.plainAttrs_list PySem.F.slot_list_append PySem.F.type_list_append mt_append (pv 10) (pa_cons (pe_g G_word_at hr (by rfl) (pa_cons (pv 5) (pa_cons (pv 6) (pa_cons (pv 8) (pa_cons (pe_g G_law_draw hr (by rfl) (pa_cons (pv 2) (pa_cons (pv 9) pa_nil))) pa_nil))))) pa_nil)))) pss_nil) (pss_one (ps_if (pt_cmpR (op_neD (hu64 hr)) (pe_lc (own := [("_law_word", 12)]) (wi := (iList K (tVar 10))) (g := (gName 12)) (tt := (tNot (tB (tG (sp_law_word_right c) (tCons (tVar 5) (tCons (tVar 6) (tCons (tVar 12) tNil))))))) (te := (tVar 12)) rfl sc_law.nd (pi_list (pv 10)) (blkOk_by (own := [("_law_word", 12)]) (N := ["_law_script", "_law_cell", "_law_well_here", "_law_names_here", "_law_signs_here", "_law_grammar", "_law_row", "_law_end", "_law_many", "_law_count", "_law_words", "_law_k", "_law_word"]) (sc := defScope s_law) (by decide +kernel)) (fun _ _ _ _ _ => (pg_name (i := 12) sc_law.nd rfl (Or.inl rfl))) (fun _ _ _ _ _ => (pts_one (pt_not (pt_val (pe_g G_law_word_right hr (by rfl) (pa_cons (pv 5) (pa_cons (pv 6) (pa_cons (pv 12) pa_nil)))))))) (fun _ _ _ _ _ => (pv 12))) (pe_lst pa_nil) (nomark _)) (pss_one (ps_ret pe_bl)) pss_nil))))))))))))))) (pss_one (ps_ret pe_bl))), ?_⟩
  refine ⟨_, rfl, a, zs, 0, rfl, hs, fun z0 => ⟨by show 1 ≤ sizeLine; decide, fun p1 hp1 => ?_⟩⟩
  have e1 : Same H (upd H p1 (.lst [.int z0])) := same_upd hp1
  have h1 : upd H p1 (.lst [.int z0]) p1 = some (.lst [.int z0]) := upd_same
  have tb1 := tb.ext e1
  have hs1 := e1.seq hs
  generalize upd H p1 (.lst [.int z0]) = H1 at *
  obtain ⟨ys, eys, lys⟩ := cutV_ints (zs := zs) (lo := some 1) (hi := some 3)
  refine ⟨_, rfl, 1, rfl, 3, rfl, a, _, rfl, hs1, fun p2 hp2 => ?_⟩
  rw [eys]
  have e2 : Same H1 (upd H1 p2 (.lst (ys.map V.int))) := same_upd hp2
  have h2 : upd H1 p2 (.lst (ys.map V.int)) p2 = some (.lst (ys.map V.int)) := upd_same
  have tb2 := tb1.ext e2
  generalize upd H1 p2 (.lst (ys.map V.int)) = H2 at *
  refine ⟨p1, p2, _, _, rfl, rfl, e2 _ _ h1, h2, ?_, fun p3 hp3 => ?_⟩
  · rw [List.length_map]
    show 1 + _ ≤ _
    exact szl (by omega)
  rw [show [V.int z0] ++ ys.map V.int = (z0 :: ys).map V.int from rfl]
  have s3 : Stp c.T S0 (fun _ => none) H2 (upd (fun _ => none) p3 (.lst ((z0 :: ys).map V.int))) (upd H2 p3 (.lst ((z0 :: ys).map V.int))) := .data .nil hp3 (nt_lst _)
  have h3 : upd (fun _ => none) p3 (.lst ((z0 :: ys).map V.int)) p3 = some (.lst ((z0 :: ys).map V.int)) := upd_same
  have tb3 := s3.tab tb2
  have k3 := s3.kn
  generalize upd (fun _ => none) p3 (.lst ((z0 :: ys).map V.int)) = F3 at *
  generalize upd H2 p3 (.lst ((z0 :: ys).map V.int)) = H3 at *
  refine ⟨p3, rfl, ⟨_, SqL.of (k3 _ _ h3).1⟩, ?_⟩
  refine for_it (walk_list (K := K) (a := p3) (xs := (z0 :: ys).map V.int)) (fun i σ H' => ∃ (F' : Hp) (x1 x2 x3 x4 x5 x6 x7 x8 x9 x10 x11 x12 : Option V), Stp c.T S0 F3 H3 F' H' ∧ σ = [some (.ref a), x1, x2, x3, x4, x5, x6, x7, x8, x9, x10, x11, x12]) ?_ ?_ ?_ ?_
  · exact ⟨F3, _, _, _, _, _, _, _, _, _, _, _, _, .refl k3, rfl⟩
  · rintro i σ H' _ ⟨F', x1, x2, x3, x4, x5, x6, x7, x8, x9, x10, x11, x12, st, _⟩
    exact SqL.of (st.kn _ _ (st.sub _ _ h3)).1
  · rintro i x σ H4 H' hi ⟨F4, x1, x2, x3, x4, x5, x6, x7, x8, x9, x10, x11, x12, s4, rfl⟩ ⟨rfl, hx⟩
    rw [List.getElem?_map] at hx
    obtain ⟨z, hz, rfl⟩ := Option.map_eq_some_iff.mp hx
    have tb4 := s4.tab tb3
    -- the well
    refine ⟨_, rfl, z, rfl, fun wl x0 hwl h0 => ?_⟩
    have s5 : Stp c.T (fun b => b = wl) F4 H' F4 (upd H' wl (.lst [.int x0, .int z, .int 0])) := .mut s4.kn hwl
    have W5 : WK c F4 (upd H' wl (.lst [.int x0, .int z, .int 0])) wl 0 := ⟨s5.kn, s4.kn.off hwl, x0, z, 0, upd_same, h0, by decide, by decide⟩
    generalize upd H' wl (.lst [.int x0, .int z, .int 0]) = H5 at *
    -- the names
    refine ⟨_, rfl, _, rfl, ?_⟩
    refine W5.draw (many := 5) (by decide) rfl (by decide) (by decide) fun H6 v6 hv6 s6 W6 => ?_
    refine ⟨_, _, rfl, rfl, F4, wl, 1, 1 + v6, ?_, W6, by decide, by omega, fun F7 H7 na ns s7 W7 hna lns nd hnm => ?_⟩
    · exact congrArg (fun z => [V.ref wl, V.int z]) (show (1 : Int) + (v6 : Int) = ((1 + v6 : Nat) : Int) by omega)
    have s57 := s5.trans (s6.trans s7)
    -- the signs
    refine ⟨_, rfl, _, rfl, ?_⟩
    refine W7.draw (many := 4) (by decide) rfl (by decide) (by decide) fun H8 v8 hv8 s8 W8 => ?_
    refine ⟨_, _, rfl, rfl, F7, wl, 1 + 20 + 1, 1 + v8, ?_, W8, by decide, by omega, fun F9 H9 sa sg s9 W9 hsa lsg sgnd hlow => ?_⟩
    · exact congrArg (fun z => [V.ref wl, V.int z]) (show (1 : Int) + (v8 : Int) = ((1 + v8 : Nat) : Int) by omega)
    have hna9 := (s8.trans s9).sub _ _ hna
    have s59 := s57.trans (s8.trans s9)
    -- the grammar
    refine ⟨_, rfl, _, rfl, F9, wl, na, _, ns, rfl, W9, by decide, hna9, by omega, fun F10 H10 ma ms s10 W10 hma pm => ?_⟩
    refine ⟨_, rfl, _, rfl, _, rfl, F10, wl, na, sa, _, ns, sg, rfl, W10, by decide, s10.sub _ _ hna9, s10.sub _ _ hsa, by omega, by omega, by omega, by omega, hnm, hlow, nd, fun F11 H11 t rl dd us rs s11 W11 ht hrl prs rok lrs => ?_⟩
    obtain ⟨ν, gg⟩ := rok.gg nd (by omega) sgnd pm
    refine ⟨t, _, 0, _, rfl, rfl, SqT.of (W11.kn _ _ ht).1, atI_nat (i := 0) rfl, fun g dp hg0 hdp hne => ?_⟩
    refine ⟨F11, H11, g, dp, ma, rl, ms, us, rs, ν, sg, rfl, W11.kn, hg0, hdp, hne, rfl, s11.sub _ _ hma, hrl, prs, fun X hX => hnm X (pm.subset hX), by rw [pm.length_eq]; omega, fun r hr => pm.symm.subset (rok.mem r hr).1, gg, hlow, by omega, fun F12 H12 s12 G12 => ⟨rfl, ?_⟩⟩
    have W12 := W11.step s12 (fun h => h)
    have s912 := (s10.trans s11).trans (s12.wide (S' := fun b => b = wl) fun b h => h.elim)
    have hna12 := s912.sub _ _ hna9
    have hsa12 := s912.sub _ _ hsa
    have s512 := s59.trans s912
    have nna : na ≠ wl := fun z => by
      have := W12.fw
      rw [← z, hna12] at this; cases this
    -- the row
    refine ⟨_, rfl, ?_⟩
    refine W12.draw (many := 5) (by decide) rfl (by decide) (by decide) fun H13 v13 hv13 s13 W13 => ?_
    refine ⟨_, _, rfl, rfl, ((1 + v13 : Nat) : Int), ?_, rng_lo (by omega), rng_hi (by omega), fun D1 hD1 => ?_⟩
    · exact congrArg (fun z => [V.int z]) (show (1 : Int) + (v13 : Int) = ((1 + v13 : Nat) : Int) by omega)
    rw [show (((1 + v13 : Nat) : Int)).toNat = 1 + v13 by omega]
    obtain ⟨o13, hw13⟩ := W13.hd
    have nwD1 : wl ≠ D1 := ne_of_none hw13 hD1
    let Iv : Nat → Hp → Hp → List Str → Prop := fun i F H ys => ys.length = i ∧ (∀ Y ∈ ys, Y ∈ ns) ∧ WK c F H wl (240 + i)
    have okl : IvOk Iv (1 + v13) (fun b => b = wl) H13 D1 := ⟨fun i F H ys o h hf => ⟨h.1, h.2.1, h.2.2.put nwD1 hf⟩, fun i F H ys h => Nat.le_of_eq h.1, szl (by omega), fun z => nwD1 z.symm, hD1⟩
    refine lc_F (T := c.T) (S := fun b => b = wl) (walk_range (lo := 0) (n := 1 + v13)) strP Iv W13.kn okl ⟨rfl, fun _ h => (nomatch h), W13.mono (by decide)⟩ (fun _ _ _ _ _ _ _ _ => trivial) ?_ ?_
    · rintro j y F14 H14 Hq ys hj cu ⟨rfl, rfl⟩
      obtain ⟨g1, g2, W14⟩ := cu.iv
      have hna14 := cu.sub _ _ hna12
      refine ⟨rfl, ?_⟩
      refine ⟨_, rfl, _, rfl, ?_⟩
      refine W14.one (by omega) (W14.kn _ _ hna14).1 nna (by rw [List.length_map]; omega) (by rw [List.length_map]; omega) fun H15 ix x hx s15 W15 => ?_
      rw [List.getElem?_map] at hx
      obtain ⟨Y, hY, rfl⟩ := Option.map_eq_some_iff.mp hx
      refine cu.put okl hj s15 (z := Y) rfl ⟨?_, ?_, W15⟩
      · rw [List.length_append, List.length_singleton]; omega
      · intro Z hZ
        rcases List.mem_append.mp hZ with h | h
        · exact g2 Z h
        · rw [List.mem_singleton.mp h]; exact List.mem_of_getElem? hY
    intro F14 H14 row us14 s14 fD1 hd14 pr14 iv14
    obtain ⟨lrow, hrow, W14⟩ := iv14
    have e14 := strs_of pr14
    rw [e14] at hd14
    have s14f := s14.freeze (.of hD1) hd14 (nt_lst _)
    have W15 : WK c (upd F14 D1 (.lst (row.map V.str))) H14 wl (240 + (1 + v13)) := ⟨s14f.kn, by rw [upd_ne nwD1]; exact W14.fw, W14.wl⟩
    have ha15 : upd F14 D1 (.lst (row.map V.str)) D1 = some (.lst (row.map V.str)) := upd_same
    generalize upd F14 D1 (.lst (row.map V.str)) = F15 at *
    have s1215 := s13.trans s14f
    have s515 := s512.trans s1215
    have G15 := G12.up s1215.sub
    have hsa15 := s1215.sub _ _ hsa12
    have hsub : ∀ Y ∈ row, Y ∈ ms := fun Y hY => pm.symm.subset (hrow Y hY)
    obtain ⟨X, r, hXr⟩ : ∃ X r, row = X :: r := by
      cases e : row with
      | nil =>
        rw [e] at lrow
        have : (0 : Nat) = 1 + v13 := lrow
        omega
      | cons X r => exact ⟨X, r, rfl⟩
    have lr5 : row.length ≤ 5 := by omega
    -- the words by their first letters
    refine ⟨_, rfl, _, rfl, _, rfl, F15, g, ms, ruR rs, ν, sg, D1, sa, X, r, rfl, W15.kn, s515.tab tb4, G15, by rw [← hXr]; exact ha15, by rw [← hXr]; exact hsub, by rw [← hXr]; omega, hsa15, by omega, fun F16 H16 s16 => ⟨_, rfl, ?_⟩⟩
    have W16 := W15.step s16 (fun h => h)
    have s1516 := s16
    -- the least end
    have ha16 := s16.sub _ _ ha15
    refine ⟨_, rfl, _, rfl, F16, g, ms, ruR rs, ν, sg, D1, row, rfl, s16.kn, s16.tab (s515.tab tb4), G15.up s16.sub, ha16, hsub, by omega, fun F17 H17 s17 => ?_⟩
    have s1517 := s16.trans s17
    have W17 := W16.step s17 (fun h => h)
    have hnu := gg.lst_len hsub
    have hnl : nus ν row ≤ 5120 := Nat.le_trans (gg.nus_le hsub) (by omega)
    have hrunL := gg.lst_run hsub
    have lwl : (wrd (lst (ruR rs) ν row)).length = nus ν row := by rw [wrd_len, hnu]
    have ha17 := s17.sub _ _ ha16
    refine ⟨_, rfl, _, rfl, by rw [lwl]; exact szl (by omega), _, rfl, _, rfl, F17, g, ms, ruR rs, ν, sg, D1, row, rfl, s17.kn, G15.up s1517.sub, ha17, hsub, by omega, fun F18 H18 s18 => ⟨rfl, _, rfl, ?_⟩⟩
    rw [lwl, dint_t rfl]
    have s1518 := s1517.trans s18
    have W18 := W17.step s18 (fun h => h)
    have ha18 := s18.sub _ _ ha17
    -- the middle: both ways of the second test
    have hcnt0 : 0 < cnt (ruR rs) (nus ν row) row := gg.cnt_norm _ _ hsub rfl
    refine ⟨_, rfl, _, rfl, by rw [lwl]; exact szl (by omega), _, _, rfl, rfl, _, rfl, ?_⟩
    rw [lwl]
    have hwok : ∀ {w : List Nat} {m : Nat}, w ∈ within (ruR rs) m row → m ≤ 24 → WOk (ruR rs) row w := fun hw hm => by
      obtain ⟨h1, h2, _⟩ := within_ok gg hsub hw
      exact ⟨by omega, h2⟩
    refine ite2 (fun hlt => ?_) (fun hlt => ?_)
    refine ⟨_, rfl, _, rfl, _, rfl, _, rfl, by rw [lwl]; exact szl (by omega), F18, g, ms, ruR rs, ν, sg, D1, row, nus ν row, 0, ?_, s18.kn, s1518.tab (s515.tab tb4), G15.up s1518.sub, ha18, hsub, by omega, ?_, hcnt0, fun F19 H19 s19 => ⟨_, rfl, rfl, _, rfl, ?_⟩⟩
    · rw [lwl]; rfl
    · have := of_decide_eq_true hlt
      omega
    rw [dstr_t (show wrd (wordAt (ruR rs) (nus ν row) row 0) = wrd (lst (ruR rs) ν row) from rfl)]
    have s1519 := s1518.trans s19
    have W19 := W18.step s19 (fun h => h)
    have ha19 := s19.sub _ _ ha18
    have k19 := s19.kn
    rotate_left
    have s1519 := s1518
    have W19 := W18
    have ha19 := ha18
    have k19 := s18.kn
    all_goals
      have G19 := G15.up s1519.sub
      have s519 := s515.trans (s1519.wide (S' := fun b => b = wl) fun b h => h.elim)
      -- many
      refine ⟨_, rfl, ?_⟩
      refine W19.draw (many := 15) (by omega) rfl (by decide) (by decide) fun H20 v20 hv20 s20 W20 => ?_
      have s520 := s519.trans s20
      -- count
      refine ⟨_, rfl, _, rfl, _, rfl, _, g, ms, ruR rs, ν, sg, D1, row, v20, rfl, W20.kn, G19, ha19, hsub, by omega, by omega, fun F21' H21 c21 us21 s21' hf21 hn21 hc21 pr21 => ?_⟩
      have s21 := s21'
      have e21 := nats_of pr21
      rw [e21] at hc21
      refine ⟨_, rfl, c21, _, (v20 : Int), .int ((cnt (ruR rs) v20 row : Nat) : Int), rfl, rfl, SqL.of hc21, atI_nat (by rw [List.getElem?_map, List.getElem?_map, List.getElem?_map, List.getElem?_range (by omega)]; rfl), ?_⟩
      have W21 := W20.step s21 (fun h => h)
      have ha21 := s21.sub _ _ ha19
      have G21 := G19.up s21.sub
      have s521 := s520.trans (s21.wide (S' := fun b => b = wl) fun b h => h.elim)
      -- the words
      refine ⟨_, rfl, _, rfl, _, g, ms, ruR rs, ν, sg, D1, row, 4, rfl, W21.kn, s521.tab tb4, G21, ha21, hsub, by omega, by decide, fun F22 H22 m22 us22 s22 hf22 hn22 hm22 pr22 => ⟨4, rfl, m22, us22, rfl, SqL.of hm22, fun p23 hp23 => ?_⟩⟩
      have e22 := words_of pr22
      have e23 : cutV us22 none (some 4) = (((within (ruR rs) 4 row).take 4).map wrd).map V.str := by
        rw [e22, show (4 : Int) = ((4 : Nat) : Int) from rfl, cutV_to, List.map_take, List.map_take]
      rw [e23]
      have s521_22 := s521.trans (s22.wide (S' := fun b => b = wl) fun b h => h.elim)
      have W22 := W21.step s22 (fun h => h)
      have ha22 := s22.sub _ _ ha21
      have G22 := G21.up s22.sub
      have s23 : Stp c.T S0 F22 H22 F22 (upd H22 p23 (.lst ((((within (ruR rs) 4 row).take 4).map wrd).map V.str))) := .mut W22.kn hp23
      have f23 : F22 p23 = none := W22.kn.off hp23
      have g23 : upd H22 p23 (.lst ((((within (ruR rs) 4 row).take 4).map wrd).map V.str)) p23 = some (.lst ((((within (ruR rs) 4 row).take 4).map wrd).map V.str)) := upd_same
      generalize upd H22 p23 (.lst ((((within (ruR rs) 4 row).take 4).map wrd).map V.str)) = H23 at *
      refine ⟨_, rfl, by show 1 ≤ sizeLine; decide, fun p24 hp24 => ?_⟩
      have s24 : Stp c.T S0 F22 H23 F22 (upd H23 p24 (.lst [.str (wrd (lst (ruR rs) ν row))])) := .mut s23.kn hp24
      have f24 : F22 p24 = none := s23.kn.off hp24
      have g24 : upd H23 p24 (.lst [.str (wrd (lst (ruR rs) ν row))]) p24 = some (.lst [.str (wrd (lst (ruR rs) ν row))]) := upd_same
      obtain ⟨_, g23'⟩ := s24.mu f23 g23 (nt_lst _) (fun h => h)
      generalize upd H23 p24 (.lst [.str (wrd (lst (ruR rs) ν row))]) = H24 at *
      refine ⟨_, rfl, _, rfl, by rw [lwl]; exact szl (by omega), _, _, rfl, rfl, .inr ⟨_, rfl, ?_⟩⟩
      rw [lwl]
      obtain ⟨es, hes, hesl, hesw⟩ : ∃ es : List (List Nat), (List.replicate (if decide (((nus ν row : Nat) : Int) < 25) = true then (1 : Int) else 0).toNat [V.str (wrd (lst (ruR rs) ν row))]).flatten = (es.map wrd).map V.str ∧ es.length ≤ 1 ∧ ∀ w ∈ es, WOk (ruR rs) row w := by
        by_cases h25 : ((nus ν row : Nat) : Int) < 25
        · rw [decide_eq_true h25]
          refine ⟨[lst (ruR rs) ν row], rfl, Nat.le_refl _, fun w hw => ?_⟩
          rw [List.mem_singleton.mp hw]
          exact ⟨by omega, hrunL⟩
        · rw [decide_eq_false h25]
          exact ⟨[], rfl, Nat.zero_le _, fun _ h => (nomatch h)⟩
      have hk25 : (if decide (((nus ν row : Nat) : Int) < 25) = true then (1 : Int) else 0).toNat ≤ 1 := by split <;> decide
      have hk25a : -(2 ^ 63) ≤ (if decide (((nus ν row : Nat) : Int) < 25) = true then (1 : Int) else 0) := by split <;> decide
      have hk25b : (if decide (((nus ν row : Nat) : Int) < 25) = true then (1 : Int) else 0) < 2 ^ 63 := by split <;> decide
      refine ⟨p24, _, _, rfl, rfl, g24, hk25a, hk25b, ?_, fun p25 hp25 => ?_⟩
      · show 1 * _ ≤ sizeLine
        exact szl (by omega)
      have s25 : Stp c.T S0 F22 H24 F22 (upd H24 p25 (.lst (List.replicate (if decide (((nus ν row : Nat) : Int) < 25) = true then (1 : Int) else 0).toNat [V.str (wrd (lst (ruR rs) ν row))]).flatten)) := .mut s24.kn hp25
      have g25 : upd H24 p25 (.lst (List.replicate (if decide (((nus ν row : Nat) : Int) < 25) = true then (1 : Int) else 0).toNat [V.str (wrd (lst (ruR rs) ν row))]).flatten) p25 = some (.lst ((es.map wrd).map V.str)) := by rw [upd_same, hes]
      obtain ⟨_, g23''⟩ := s25.mu f23 g23' (nt_lst _) (fun h => h)
      refine ⟨p23, p25, _, _, rfl, rfl, g23'', g25, ?_, fun p26 hp26 => ?_⟩
      · rw [List.length_map, List.length_map, List.length_take, List.length_map, List.length_map]
        exact szl (by omega)
      rw [← List.map_append, ← List.map_append]
      generalize upd H24 p25 (.lst (List.replicate (if decide (((nus ν row : Nat) : Int) < 25) = true then (1 : Int) else 0).toNat [V.str (wrd (lst (ruR rs) ν row))]).flatten) = H25 at *
      obtain ⟨wsA, hwsA⟩ : ∃ wsA, wsA = (within (ruR rs) 4 row).take 4 ++ es := ⟨_, rfl⟩
      have lwsA : wsA.length ≤ 5 := by
        rw [hwsA, List.length_append, List.length_take]
        omega
      have wokA : ∀ w ∈ wsA, WOk (ruR rs) row w := fun w hw => by
        rw [hwsA] at hw
        rcases List.mem_append.mp hw with h | h
        · exact hwok (List.mem_of_mem_take h) (by decide)
        · exact hesw w h
      rw [← hwsA]
      have s2225 := (s23.trans s24).trans s25
      have s525 := s521_22.trans (s2225.wide (S' := fun b => b = wl) fun b h => h.elim)
      have W25 := W22.step s2225 (fun h => h)
      have f26 : F22 p26 = none := s25.kn.off hp26
      have s26 : Stp c.T S0 F22 H25 F22 (upd H25 p26 (.lst ((wsA.map wrd).map V.str))) := .mut s25.kn hp26
      have g26 : upd H25 p26 (.lst ((wsA.map wrd).map V.str)) p26 = some (.lst ((wsA.map wrd).map V.str)) := upd_same
      have nw26 : wl ≠ p26 := fun z => by
        obtain ⟨o, hw⟩ := W25.hd
        rw [z, hp26] at hw; cases hw
      have W26 := W25.step s26 (fun h => h)
      generalize upd H25 p26 (.lst ((wsA.map wrd).map V.str)) = H26 at *
      refine ⟨_, rfl, _, _, rfl, rfl, _, rfl, ?_⟩
      refine ite2 (fun hpos => ?_) (fun hpos => ?_)
      have hcp : 0 < cnt (ruR rs) v20 row := Int.ofNat_lt.mp (of_decide_eq_true hpos)
      have hcl := gg.cnt_le v20 row hsub
      have hc14 : 4 ^ v20 ≤ 4 ^ 14 := Nat.pow_le_pow_right (by decide) (by omega)
      have hc64 : cnt (ruR rs) v20 row < 2 ^ 64 := Nat.lt_of_le_of_lt (Nat.le_trans hcl hc14) (by decide)
      refine ⟨_, rfl, .inl ⟨rfl, _, SqL.of g26⟩, _, rfl, _, rfl, _, rfl, _, rfl, _, rfl, ?_⟩
      refine W26.draw (many := cnt (ruR rs) v20 row) (by omega) rfl hcp hc64 fun H27 v27 hv27 s27 W27 => ?_
      have g27 := s27.keep p26 _ (fun z => nw26 z.symm) f26 g26 (nt_lst _)
      have s5_27 := s525.trans ((s26.wide (S' := fun b => b = wl) fun b h => h.elim).trans s27)
      refine ⟨F22, g, ms, ruR rs, ν, sg, D1, row, v20, v27, rfl, W27.kn, s5_27.tab tb4, G22, ha22, hsub, by omega, by omega, hv27, fun F28 H28 s28 => ?_⟩
      obtain ⟨f28, g28⟩ := s28.mu f26 g27 (nt_lst _) (fun h => h)
      have s29 : Stp c.T (fun b => b = wl ∨ b = p26) F28 H28 F28 (upd H28 p26 (.lst ((wsA.map wrd).map V.str ++ [.str (wrd (wordAt (ruR rs) v20 row v27))]))) := .set s28.kn f28 g28 (nx_lst _) (nt_lst _) (.inr rfl)
      have cE : Stp c.T (fun b => b = wl ∨ b = p26) F22 H25 F28 (upd H28 p26 (.lst ((wsA.map wrd).map V.str ++ [.str (wrd (wordAt (ruR rs) v20 row v27))]))) := (s26.wide fun b h => h.elim).trans ((s27.wide fun b h => .inl h).trans ((s28.wide fun b h => h.elim).trans s29))
      obtain ⟨FE, wsE, sE, hE, lE, wokE⟩ : ∃ (FE : Hp) (wsE : List (List Nat)), Stp c.T (fun b => b = wl) F22 H25 FE (upd H28 p26 (.lst ((wsA.map wrd).map V.str ++ [.str (wrd (wordAt (ruR rs) v20 row v27))]))) ∧ FE p26 = some (.lst ((wsE.map wrd).map V.str)) ∧ wsE.length ≤ 6 ∧ ∀ w ∈ wsE, WOk (ruR rs) row w := by
        refine ⟨_, wsA ++ [wordAt (ruR rs) v20 row v27], (cE.freeze (.of hp26) upd_same (nt_lst _)).loc fun b hb => ?_, ?_, ?_, fun w hw => ?_⟩
        · rcases hb with z | z
          · exact .inl z
          · exact .inr (by rw [z]; exact .of hp26)
        · rw [upd_same, List.map_append, List.map_append]
          rfl
        · rw [List.length_append, List.length_singleton]; omega
        · rcases List.mem_append.mp hw with h | h
          · exact wokA w h
          · rw [List.mem_singleton.mp h]
            obtain ⟨w1, w2, _⟩ := gg.wordAt_ok v20 row v27 hsub hv27
            exact ⟨by omega, w2⟩
      refine ⟨p26, _, _, rfl, rfl, g28, szlt (by rw [List.length_map, List.length_map]; omega), ?_⟩
      rotate_left
      obtain ⟨FE, wsE, sE, hE, lE, wokE⟩ : ∃ (FE : Hp) (wsE : List (List Nat)), Stp c.T (fun b => b = wl) F22 H25 FE H26 ∧ FE p26 = some (.lst ((wsE.map wrd).map V.str)) ∧ wsE.length ≤ 6 ∧ ∀ w ∈ wsE, WOk (ruR rs) row w :=
        ⟨_, wsA, (s26.freeze (.of hp26) g26 (nt_lst _)).wide fun b h => h.elim, upd_same, by omega, wokA⟩
      all_goals
        have s5E := s525.trans sE
        have GE := G22.up sE.sub
        have haE := sE.sub _ _ ha22
        refine ⟨_, rfl, p26, rfl, ⟨_, SqL.of (sE.kn _ _ hE).1⟩, fun D30 hD30 => ?_⟩
        have okl30 := ivE_ok (pre := fun _ => ([] : List Str)) (n := ((wsE.map wrd).map V.str).length) (S := S0) (fun _ => Nat.zero_le _) (szl (by rw [List.length_map, List.length_map]; omega)) (fun h => h) hD30
        refine lc_F (T := c.T) (S := S0) (walk_list (K := K) (a := p26) (xs := (wsE.map wrd).map V.str)) strP _ sE.kn okl30 rfl (fun i F' H' ys k' e _ _ => SqL.of (k' _ _ (e _ _ hE)).1) ?_ ?_
        · rintro j y F31 H31 Hq ys hj cu ⟨rfl, hx⟩
          rw [List.getElem?_map, List.getElem?_map] at hx
          obtain ⟨w, hw, rfl⟩ : ∃ w, wsE[j]? = some w ∧ y = .str (wrd w) := by
            cases e : wsE[j]? with
            | none => rw [e] at hx; cases hx
            | some w => rw [e] at hx; exact ⟨w, rfl, (Option.some.inj hx).symm⟩
          obtain ⟨wk1, wk2⟩ := wokE w (List.mem_of_getElem? hw)
          refine ⟨rfl, ?_⟩
          refine ⟨_, rfl, _, rfl, _, rfl, F31, g, ms, ruR rs, ν, sg, D1, row, w, rfl, cu.kn, GE.up cu.sub, cu.sub _ _ haE, hsub, by omega, wk1, wk2, fun F32 H32 s32 => ⟨_, rfl, ?_⟩⟩
          exact cu.skip okl30 s32 cu.iv
        · intro F31 H31 ys us31 s31 fD30 hd31 pr31 iv31
          rw [show ys = [] from iv31] at pr31
          cases pr31
          refine ⟨Nat.zero_le _, fun e32 he32 => ?_⟩
          have s32 : Stp c.T S0 F31 H31 F31 (upd H31 e32 (.lst [])) := .mut s31.kn he32
          have hd32 := (s32.mu fD30 hd31 (nt_lst _) (fun h => h)).2
          refine neD_s (r := []) (s := []) (fun _ h => nomatch h) (fun _ h => nomatch h) (SqL.of hd32) (SqL.of upd_same) ⟨_, rfl, ?_⟩
          rw [decide_eq_true rfl]
          have sZ : Stp c.T S0 F4 H' F31 (upd H31 e32 (.lst [])) := (s5E.trans ((s31.trans s32).wide fun b h => h.elim)).loc fun b hb => .inr (by rw [show b = wl from hb]; exact .of hwl)
          exact ⟨F31, _, _, _, _, _, _, _, _, _, _, _, _, s4.trans sZ, rfl⟩
  · rintro σ H4 ⟨F4, x1, x2, x3, x4, x5, x6, x7, x8, x9, x10, x11, x12, s4, rfl⟩
    exact q _
end
end K60
namespace K60
open PySem PySem.Spec PyProof.Rows L2 LamX
abbrev LL : PySem.W.OpenLaw := PySem.Challenge.rw_samegoing_k60_whole_words_by_first_lette
section
variable {w : World} {K : PySem.W.Frag} {h : Heap} {mg : Str → Option Value}
theorem dfn_of {d : He.DefD} {x : Str} {st : Stmt} {ps : List Str} (X : K.In h) (G : h.Ns mainGlobals mg) (c : He.SaysD fa fn K) (hd : d ∈ fn) (hg : He.Fa.glo x ∈ fa) (e : d = ⟨(x, none), x, x, defArgs st, defBody st, defScope st, [], []⟩)
    (hb : ∀ (kV doc pm : Value) (an : Option Addr) (cdv ct : Value) (us : List Value), us.length = ps.length → bindArgs (PySem.W.fnOf x x (defArgs st) (defBody st) (defScope st) .none kV doc pm an cdv ct) ⟨us, []⟩ = pure (ps.zip us)) : Dfn K mg x st ps := by
  subst e
  obtain ⟨fd, F⟩ := c.defs hd
  have F2 := He5.fun_of F
  exact ⟨_, fd, F2, He.glo_ok X G (c.facts hg), F2.binds hb⟩
theorem dfm_of {d : He.DefD} {C m qual : Str} {st : Stmt} {ps : List Str} (c : He.SaysD fa fn K) (hd : d ∈ fn) (hg : He.Fa.meth C m ∈ fa) (e : d = ⟨(C, some m), m, qual, defArgs st, defBody st, defScope st, [], []⟩)
    (hb : ∀ (kV doc pm : Value) (an : Option Addr) (cdv ct : Value) (us : List Value), us.length = ps.length → bindArgs (PySem.W.fnOf m qual (defArgs st) (defBody st) (defScope st) .none kV doc pm an cdv ct) ⟨us, []⟩ = pure (ps.zip us)) : Dfm K (He.ga K C) m qual st ps := by
  subst e
  obtain ⟨fd, F⟩ := c.defs hd
  have F2 := He5.fun_of F
  exact ⟨_, fd, F2, He.meth_ok (c.facts hg), F2.binds hb⟩
theorem dfi_of {d : He.DefD} {C qual : Str} {st : Stmt} {ps : List Str} (c : He.SaysD fa fn K) (hd : d ∈ fn) (hg : He.Fa.mkr C ∈ fa) (e : d = ⟨(C, some "__init__"), "__init__", qual, defArgs st, defBody st, defScope st, [], []⟩)
    (hb : ∀ (kV doc pm : Value) (an : Option Addr) (cdv ct : Value) (us : List Value), us.length = ps.length → bindArgs (PySem.W.fnOf "__init__" qual (defArgs st) (defBody st) (defScope st) .none kV doc pm an cdv ct) ⟨us, []⟩ = pure (ps.zip us)) : Dfi K (He.ga K C) qual st ps := by
  subst e
  obtain ⟨fd, F⟩ := c.defs hd
  have F2 := He5.fun_of F
  exact ⟨_, fd, F2, He.mkr_ok (c.facts hg), F2.binds hb⟩
theorem dft_of {base : Heap} {T : Tb} {d : He.DefD} {x : Str} {st : Stmt} {ps : List Str} (X : K.In h) (G : h.Ns mainGlobals mg) (c : He.SaysD fa fn K) (hd : d ∈ fn) (hg : He.Fa.glo x ∈ fa) (e : d = ⟨(x, none), x, x, defArgs st, defBody st, defScope st, [], []⟩)
    (hb : ∀ (kV doc pm : Value) (an : Option Addr) (cdv ct : Value) (us : List Value), us.length = ps.length → bindArgs (PySem.W.fnOf x x (defArgs st) (defBody st) (defScope st) .none kV doc pm an cdv ct) ⟨us, []⟩ = pure (ps.zip us))
    (tb : TabB base mg (He.cT K (x, none)).1 (He.cT K (x, none)).2) (hm : ((He.cT K (x, none)).2, x ++ ".<locals>." ++ "<lambda>") ∈ T) (hu : ∀ p ∈ T, p.1 = (He.cT K (x, none)).2 → p.2 = x ++ ".<locals>." ++ "<lambda>") : Dft K mg base T x st ps := by
  subst e
  obtain ⟨fd, F⟩ := c.defs hd
  have F2 := He5.fun_of F
  have b := F2.binds hb
  obtain ⟨oc, od, kV, doc, pm, an, cdv, ct, osl, e, lk, hcd⟩ := F2.ex
  obtain ⟨c', hc'⟩ := He.codeIn_ref hcd
  have hcode : fd.code = .ref c' := by rw [e, ← hc']
  have hco : He.codeOf K (x, none) = c' := He.codeOf_eq lk hcode
  refine ⟨_, fd, (He.cT K (x, none)).1, (He.cT K (x, none)).2, F2, He.glo_ok X G (c.facts hg), b, ?_, tb, hm, hu⟩
  rw [hcode]
  exact congrArg Value.ref hco.symm

theorem df_look_at_names (X : K.In h) (G : h.Ns mainGlobals mg) (c : He.SaysD fa fn K) : Dfn K mg "look_at_names" s_look_at_names ["grammar", "row"] := dfn_of (d := d_look_at_names) X G c (List.mem_of_getElem? (i := 0) rfl) (List.mem_of_getElem? (i := 0) rfl) rfl (fun _ _ _ _ _ _ us hl => match us, hl with | [_, _], _ => rfl)
theorem df_added_up (X : K.In h) (G : h.Ns mainGlobals mg) (c : He.SaysD fa fn K) : Dfn K mg "added_up" s_added_up ["norms", "row"] := dfn_of (d := d_added_up) X G c (List.mem_of_getElem? (i := 1) rfl) (List.mem_of_getElem? (i := 1) rfl) rfl (fun _ _ _ _ _ _ us hl => match us, hl with | [_, _], _ => rfl)
theorem df_norms (X : K.In h) (G : h.Ns mainGlobals mg) (c : He.SaysD fa fn K) : Dfn K mg "norms" s_norms ["grammar"] := dfn_of (d := d_norms) X G c (List.mem_of_getElem? (i := 2) rfl) (List.mem_of_getElem? (i := 2) rfl) rfl (fun _ _ _ _ _ _ us hl => match us, hl with | [_], _ => rfl)
theorem df_norm_of (X : K.In h) (G : h.Ns mainGlobals mg) (c : He.SaysD fa fn K) : Dfn K mg "norm_of" s_norm_of ["grammar", "row"] := dfn_of (d := d_norm_of) X G c (List.mem_of_getElem? (i := 3) rfl) (List.mem_of_getElem? (i := 3) rfl) rfl (fun _ _ _ _ _ _ us hl => match us, hl with | [_, _], _ => rfl)
theorem df_endless (X : K.In h) (G : h.Ns mainGlobals mg) (c : He.SaysD fa fn K) : Dfn K mg "endless" s_endless ["grammar"] := dfn_of (d := d_endless) X G c (List.mem_of_getElem? (i := 4) rfl) (List.mem_of_getElem? (i := 4) rfl) rfl (fun _ _ _ _ _ _ us hl => match us, hl with | [_], _ => rfl)
theorem df_lessening (X : K.In h) (G : h.Ns mainGlobals mg) (c : He.SaysD fa fn K) : Dfn K mg "lessening" s_lessening ["grammar", "known", "name"] := dfn_of (d := d_lessening) X G c (List.mem_of_getElem? (i := 5) rfl) (List.mem_of_getElem? (i := 5) rfl) rfl (fun _ _ _ _ _ _ us hl => match us, hl with | [_, _, _], _ => rfl)
theorem df_twice_by (X : K.In h) (G : h.Ns mainGlobals mg) (c : He.SaysD fa fn K) : Dfn K mg "twice_by" s_twice_by ["grammar"] := dfn_of (d := d_twice_by) X G c (List.mem_of_getElem? (i := 7) rfl) (List.mem_of_getElem? (i := 7) rfl) rfl (fun _ _ _ _ _ _ us hl => match us, hl with | [_], _ => rfl)
theorem df_look_at_tongue (X : K.In h) (G : h.Ns mainGlobals mg) (c : He.SaysD fa fn K) : Dfn K mg "look_at_tongue" s_look_at_tongue ["grammar", "rows"] := dfn_of (d := d_look_at_tongue) X G c (List.mem_of_getElem? (i := 8) rfl) (List.mem_of_getElem? (i := 8) rfl) rfl (fun _ _ _ _ _ _ us hl => match us, hl with | [_, _], _ => rfl)
theorem df_one_step (X : K.In h) (G : h.Ns mainGlobals mg) (c : He.SaysD fa fn K) : Dfn K mg "one_step" s_one_step ["grammar", "row", "letter"] := dfn_of (d := d_one_step) X G c (List.mem_of_getElem? (i := 9) rfl) (List.mem_of_getElem? (i := 9) rfl) rfl (fun _ _ _ _ _ _ us hl => match us, hl with | [_, _, _], _ => rfl)
theorem df_by_letters (X : K.In h) (G : h.Ns mainGlobals mg) (c : He.SaysD fa fn K) : Dfn K mg "by_letters" s_by_letters ["grammar", "row", "word"] := dfn_of (d := d_by_letters) X G c (List.mem_of_getElem? (i := 10) rfl) (List.mem_of_getElem? (i := 10) rfl) rfl (fun _ _ _ _ _ _ us hl => match us, hl with | [_, _, _], _ => rfl)
theorem df_runs_to (X : K.In h) (G : h.Ns mainGlobals mg) (c : He.SaysD fa fn K) : Dfn K mg "runs_to" s_runs_to ["grammar", "row", "word"] := dfn_of (d := d_runs_to) X G c (List.mem_of_getElem? (i := 11) rfl) (List.mem_of_getElem? (i := 11) rfl) rfl (fun _ _ _ _ _ _ us hl => match us, hl with | [_, _, _], _ => rfl)
theorem df_ends_by (X : K.In h) (G : h.Ns mainGlobals mg) (c : He.SaysD fa fn K) : Dfn K mg "ends_by" s_ends_by ["grammar", "row", "word"] := dfn_of (d := d_ends_by) X G c (List.mem_of_getElem? (i := 12) rfl) (List.mem_of_getElem? (i := 12) rfl) rfl (fun _ _ _ _ _ _ us hl => match us, hl with | [_, _, _], _ => rfl)
theorem df_word_counts (X : K.In h) (G : h.Ns mainGlobals mg) (c : He.SaysD fa fn K) : Dfn K mg "word_counts" s_word_counts ["grammar", "row", "most"] := dfn_of (d := d_word_counts) X G c (List.mem_of_getElem? (i := 16) rfl) (List.mem_of_getElem? (i := 13) rfl) rfl (fun _ _ _ _ _ _ us hl => match us, hl with | [_, _, _], _ => rfl)
theorem df_words_within (X : K.In h) (G : h.Ns mainGlobals mg) (c : He.SaysD fa fn K) : Dfn K mg "words_within" s_words_within ["grammar", "row", "most"] := dfn_of (d := d_words_within) X G c (List.mem_of_getElem? (i := 18) rfl) (List.mem_of_getElem? (i := 15) rfl) rfl (fun _ _ _ _ _ _ us hl => match us, hl with | [_, _, _], _ => rfl)
theorem df_word_at (X : K.In h) (G : h.Ns mainGlobals mg) (c : He.SaysD fa fn K) : Dfn K mg "word_at" s_word_at ["grammar", "row", "many", "at"] := dfn_of (d := d_word_at) X G c (List.mem_of_getElem? (i := 19) rfl) (List.mem_of_getElem? (i := 16) rfl) rfl (fun _ _ _ _ _ _ us hl => match us, hl with | [_, _, _, _], _ => rfl)
theorem df_place_of_word (X : K.In h) (G : h.Ns mainGlobals mg) (c : He.SaysD fa fn K) : Dfn K mg "place_of_word" s_place_of_word ["grammar", "row", "word"] := dfn_of (d := d_place_of_word) X G c (List.mem_of_getElem? (i := 20) rfl) (List.mem_of_getElem? (i := 17) rfl) rfl (fun _ _ _ _ _ _ us hl => match us, hl with | [_, _, _], _ => rfl)
theorem df_is_small (X : K.In h) (G : h.Ns mainGlobals mg) (c : He.SaysD fa fn K) : Dfn K mg "is_small" s_is_small ["text"] := dfn_of (d := d_is_small) X G c (List.mem_of_getElem? (i := 21) rfl) (List.mem_of_getElem? (i := 18) rfl) rfl (fun _ _ _ _ _ _ us hl => match us, hl with | [_], _ => rfl)
theorem df_is_name (X : K.In h) (G : h.Ns mainGlobals mg) (c : He.SaysD fa fn K) : Dfn K mg "is_name" s_is_name ["text"] := dfn_of (d := d_is_name) X G c (List.mem_of_getElem? (i := 22) rfl) (List.mem_of_getElem? (i := 19) rfl) rfl (fun _ _ _ _ _ _ us hl => match us, hl with | [_], _ => rfl)
theorem df_is_letter (X : K.In h) (G : h.Ns mainGlobals mg) (c : He.SaysD fa fn K) : Dfn K mg "is_letter" s_is_letter ["text"] := dfn_of (d := d_is_letter) X G c (List.mem_of_getElem? (i := 23) rfl) (List.mem_of_getElem? (i := 20) rfl) rfl (fun _ _ _ _ _ _ us hl => match us, hl with | [_], _ => rfl)
theorem df_are_names (X : K.In h) (G : h.Ns mainGlobals mg) (c : He.SaysD fa fn K) : Dfn K mg "are_names" s_are_names ["names"] := dfn_of (d := d_are_names) X G c (List.mem_of_getElem? (i := 24) rfl) (List.mem_of_getElem? (i := 21) rfl) rfl (fun _ _ _ _ _ _ us hl => match us, hl with | [_], _ => rfl)
theorem df_law_cell_at (X : K.In h) (G : h.Ns mainGlobals mg) (c : He.SaysD fa fn K) : Dfn K mg "_law_cell_at" s_law_cell_at ["_law_script", "_law_k"] := dfn_of (d := d_law_cell_at) X G c (List.mem_of_getElem? (i := 31) rfl) (List.mem_of_getElem? (i := 22) rfl) rfl (fun _ _ _ _ _ _ us hl => match us, hl with | [_, _], _ => rfl)
theorem df_law_well (X : K.In h) (G : h.Ns mainGlobals mg) (c : He.SaysD fa fn K) : Dfn K mg "_law_well" s_law_well ["_law_cell"] := dfn_of (d := d_law_well) X G c (List.mem_of_getElem? (i := 32) rfl) (List.mem_of_getElem? (i := 23) rfl) rfl (fun _ _ _ _ _ _ us hl => match us, hl with | [_], _ => rfl)
theorem df_law_draw (X : K.In h) (G : h.Ns mainGlobals mg) (c : He.SaysD fa fn K) : Dfn K mg "_law_draw" s_law_draw ["_law_well_here", "_law_many"] := dfn_of (d := d_law_draw) X G c (List.mem_of_getElem? (i := 33) rfl) (List.mem_of_getElem? (i := 24) rfl) rfl (fun _ _ _ _ _ _ us hl => match us, hl with | [_, _], _ => rfl)
theorem df_law_one (X : K.In h) (G : h.Ns mainGlobals mg) (c : He.SaysD fa fn K) : Dfn K mg "_law_one" s_law_one ["_law_well_here", "_law_some"] := dfn_of (d := d_law_one) X G c (List.mem_of_getElem? (i := 34) rfl) (List.mem_of_getElem? (i := 25) rfl) rfl (fun _ _ _ _ _ _ us hl => match us, hl with | [_, _], _ => rfl)
theorem df_law_names (X : K.In h) (G : h.Ns mainGlobals mg) (c : He.SaysD fa fn K) : Dfn K mg "_law_names" s_law_names ["_law_well_here", "_law_many"] := dfn_of (d := d_law_names) X G c (List.mem_of_getElem? (i := 35) rfl) (List.mem_of_getElem? (i := 26) rfl) rfl (fun _ _ _ _ _ _ us hl => match us, hl with | [_, _], _ => rfl)
theorem df_law_signs (X : K.In h) (G : h.Ns mainGlobals mg) (c : He.SaysD fa fn K) : Dfn K mg "_law_signs" s_law_signs ["_law_well_here", "_law_many"] := dfn_of (d := d_law_signs) X G c (List.mem_of_getElem? (i := 36) rfl) (List.mem_of_getElem? (i := 27) rfl) rfl (fun _ _ _ _ _ _ us hl => match us, hl with | [_, _], _ => rfl)
theorem df_law_mixed (X : K.In h) (G : h.Ns mainGlobals mg) (c : He.SaysD fa fn K) : Dfn K mg "_law_mixed" s_law_mixed ["_law_well_here", "_law_some"] := dfn_of (d := d_law_mixed) X G c (List.mem_of_getElem? (i := 37) rfl) (List.mem_of_getElem? (i := 28) rfl) rfl (fun _ _ _ _ _ _ us hl => match us, hl with | [_, _], _ => rfl)
theorem df_law_rules (X : K.In h) (G : h.Ns mainGlobals mg) (c : He.SaysD fa fn K) : Dfn K mg "_law_rules" s_law_rules ["_law_well_here", "_law_names_here", "_law_signs_here", "_law_plain", "_law_most"] := dfn_of (d := d_law_rules) X G c (List.mem_of_getElem? (i := 38) rfl) (List.mem_of_getElem? (i := 29) rfl) rfl (fun _ _ _ _ _ _ us hl => match us, hl with | [_, _, _, _, _], _ => rfl)
theorem df_law_first_right (X : K.In h) (G : h.Ns mainGlobals mg) (c : He.SaysD fa fn K) : Dfn K mg "_law_first_right" s_law_first_right ["_law_grammar", "_law_row", "_law_signs_here"] := dfn_of (d := d_law_first_right) X G c (List.mem_of_getElem? (i := 39) rfl) (List.mem_of_getElem? (i := 30) rfl) rfl (fun _ _ _ _ _ _ us hl => match us, hl with | [_, _, _], _ => rfl)
theorem df_law_word_right (X : K.In h) (G : h.Ns mainGlobals mg) (c : He.SaysD fa fn K) : Dfn K mg "_law_word_right" s_law_word_right ["_law_grammar", "_law_row", "_law_word"] := dfn_of (d := d_law_word_right) X G c (List.mem_of_getElem? (i := 40) rfl) (List.mem_of_getElem? (i := 31) rfl) rfl (fun _ _ _ _ _ _ us hl => match us, hl with | [_, _, _], _ => rfl)
theorem df_Counts_of_row (c : He.SaysD fa fn K) : Dfm K (He.ga K "Counts") "of_row" "Counts.of_row" s_Counts_of_row ["self", "row", "many"] := dfm_of (d := d_Counts_of_row) c (List.mem_of_getElem? (i := 14) rfl) (List.mem_of_getElem? (i := 54) rfl) rfl (fun _ _ _ _ _ _ us hl => match us, hl with | [_, _, _], _ => rfl)
theorem df_Counts_reckoned (c : He.SaysD fa fn K) : Dfm K (He.ga K "Counts") "reckoned" "Counts.reckoned" s_Counts_reckoned ["self", "row", "many"] := dfm_of (d := d_Counts_reckoned) c (List.mem_of_getElem? (i := 15) rfl) (List.mem_of_getElem? (i := 55) rfl) rfl (fun _ _ _ _ _ _ us hl => match us, hl with | [_, _, _], _ => rfl)
theorem df_Grammar_lets_by (c : He.SaysD fa fn K) : Dfm K (He.ga K "Grammar") "lets_by" "Grammar.lets_by" s_Grammar_lets_by ["self", "rule"] := dfm_of (d := d_Grammar_lets_by) c (List.mem_of_getElem? (i := 26) rfl) (List.mem_of_getElem? (i := 62) rfl) rfl (fun _ _ _ _ _ _ us hl => match us, hl with | [_, _], _ => rfl)
theorem df_Grammar_names (c : He.SaysD fa fn K) : Dfm K (He.ga K "Grammar") "names" "Grammar.names" s_Grammar_names ["self"] := dfm_of (d := d_Grammar_names) c (List.mem_of_getElem? (i := 27) rfl) (List.mem_of_getElem? (i := 63) rfl) rfl (fun _ _ _ _ _ _ us hl => match us, hl with | [_], _ => rfl)
theorem df_Grammar_has (c : He.SaysD fa fn K) : Dfm K (He.ga K "Grammar") "has" "Grammar.has" s_Grammar_has ["self", "name"] := dfm_of (d := d_Grammar_has) c (List.mem_of_getElem? (i := 28) rfl) (List.mem_of_getElem? (i := 64) rfl) rfl (fun _ _ _ _ _ _ us hl => match us, hl with | [_, _], _ => rfl)
theorem df_Grammar_rules_of (c : He.SaysD fa fn K) : Dfm K (He.ga K "Grammar") "rules_of" "Grammar.rules_of" s_Grammar_rules_of ["self", "name"] := dfm_of (d := d_Grammar_rules_of) c (List.mem_of_getElem? (i := 29) rfl) (List.mem_of_getElem? (i := 65) rfl) rfl (fun _ _ _ _ _ _ us hl => match us, hl with | [_, _], _ => rfl)
theorem df_Counts_init (c : He.SaysD fa fn K) : Dfi K (He.ga K "Counts") "Counts.__init__" s_Counts_init ["self", "grammar"] := dfi_of (d := d_Counts_init) c (List.mem_of_getElem? (i := 13) rfl) (List.mem_of_getElem? (i := 51) rfl) rfl (fun _ _ _ _ _ _ us hl => match us, hl with | [_, _], _ => rfl)
theorem df_Grammar_init (c : He.SaysD fa fn K) : Dfi K (He.ga K "Grammar") "Grammar.__init__" s_Grammar_init ["self", "names", "rules"] := dfi_of (d := d_Grammar_init) c (List.mem_of_getElem? (i := 25) rfl) (List.mem_of_getElem? (i := 58) rfl) rfl (fun _ _ _ _ _ _ us hl => match us, hl with | [_, _, _], _ => rfl)
end
theorem blt_of {K : PySem.W.Frag} {h : Heap} {mg : Str → Option Value} (X : K.In h) (G : h.Ns mainGlobals mg) (c : He.SaysD fa fn K) : Blt mg where
  len := He.free_ok X G (c.facts (f := .free "len") (List.mem_of_getElem? (i := 33) rfl))
  set_ := He.free_ok X G (c.facts (f := .free "set") (List.mem_of_getElem? (i := 34) rfl))
  sorted := He.free_ok X G (c.facts (f := .free "sorted") (List.mem_of_getElem? (i := 35) rfl))
  sum := He.free_ok X G (c.facts (f := .free "sum") (List.mem_of_getElem? (i := 36) rfl))
  min := He.free_ok X G (c.facts (f := .free "min") (List.mem_of_getElem? (i := 37) rfl))
  all := He.free_ok X G (c.facts (f := .free "all") (List.mem_of_getElem? (i := 38) rfl))
  dict := He.free_ok X G (c.facts (f := .free "dict") (List.mem_of_getElem? (i := 39) rfl))
  list := He.free_ok X G (c.facts (f := .free "list") (List.mem_of_getElem? (i := 40) rfl))
  tuple := He.free_ok X G (c.facts (f := .free "tuple") (List.mem_of_getElem? (i := 41) rfl))
  range := He.free_ok X G (c.facts (f := .free "range") (List.mem_of_getElem? (i := 42) rfl))
  enum := He.free_ok X G (c.facts (f := .free "enumerate") (List.mem_of_getElem? (i := 43) rfl))
  int := He.free_ok X G (c.facts (f := .free "int") (List.mem_of_getElem? (i := 44) rfl))
theorem grc_of {K : PySem.W.Frag} (c : He.SaysD fa fn K) : GrC K (He.ga K "Grammar") := ⟨He.cls_ok (c.facts (f := .cls "Grammar") (List.mem_of_getElem? (i := 57) rfl)), He.noat_ok (c.facts (f := .noat "Grammar" "known") (List.mem_of_getElem? (i := 59) rfl)), He.noat_ok (c.facts (f := .noat "Grammar" "stored") (List.mem_of_getElem? (i := 60) rfl)), He.noat_ok (c.facts (f := .noat "Grammar" "order") (List.mem_of_getElem? (i := 61) rfl))⟩
theorem coc_of {K : PySem.W.Frag} (c : He.SaysD fa fn K) : CoC K (He.ga K "Counts") := ⟨He.cls_ok (c.facts (f := .cls "Counts") (List.mem_of_getElem? (i := 50) rfl)), He.noat_ok (c.facts (f := .noat "Counts" "grammar") (List.mem_of_getElem? (i := 52) rfl)), He.noat_ok (c.facts (f := .noat "Counts" "found") (List.mem_of_getElem? (i := 53) rfl))⟩
abbrev Tof (K : PySem.W.Frag) : Tb := [((He.cT K ("sorted_rules", none)).2, ("sorted_rules" : Str) ++ ".<locals>." ++ "<lambda>"), ((He.cT K ("shortest_end", none)).2, ("shortest_end" : Str) ++ ".<locals>." ++ "<lambda>")]
theorem law_at {w : World} {K : PySem.W.Frag} {h : Heap} {mg : Str → Option Value} {f : Addr} (X : K.In h) (G : h.Ns mainGlobals mg) (hfa : mg ("law" : Str) = some (.ref f)) (cx : He.SaysX fa fn [] tf ex1 w h K) : LawAtS LL w K CX0 104 63 "_law_script" mg f h := by
  have c : He.SaysD fa fn K := cx.t.d
  obtain ⟨fd, F⟩ := c.defs (d := d_law) (List.mem_of_getElem? (i := 41) rfl)
  have F2 : Fun K "law" "law" s_law (He.ga K "law") fd := He5.fun_of F
  have e := hfa.symm.trans (He.glo_ok X G (c.facts (f := .glo "law") (List.mem_of_getElem? (i := 32) rfl)))
  cases e
  have b := FunD.bindsA (ps := ["_law_script"]) F fun _ _ _ _ _ _ us hl => match us, hl with | [_], _ => rfl
  have hne : (He.cT K ("sorted_rules", none)).2 ≠ (He.cT K ("shortest_end", none)).2 := of_decide_eq_true cx.more
  let cf : Cfg := ⟨LL.prog, w, Tof K, He.ga K "Grammar", He.ga K "Counts"⟩
  refine ⟨fd, tf.map (He.cT K), sp_law cf K, fun p hp => ?_, fun p hp => ?_, fun p hp => ?_, fun s v => b s [v] rfl, fun H a ns hl _ hT hS => ?_, fun base Xb Gb tbs => ?_⟩
  · obtain ⟨q, hq, rfl⟩ := List.mem_map.mp hp
    exact cx.empty q hq
  · obtain ⟨q, hq, rfl⟩ := List.mem_map.mp hp
    exact cx.out q hq
  · obtain ⟨q, hq, rfl⟩ := List.mem_map.mp hp
    exact PySem.W.codeHd_of_K X (cx.hd q hq)
  · refine ⟨a, ns, rfl, hS, by omega, fun p hp => ?_, fun _ => rfl⟩
    have h1 : (He.cT K ("sorted_rules", none)) ∈ tf.map (He.cT K) := List.mem_cons_self ..
    have h2 : (He.cT K ("shortest_end", none)) ∈ tf.map (He.cT K) := List.mem_cons_of_mem _ (List.mem_cons_self ..)
    rcases List.mem_cons.mp hp with e | hp
    · rw [e]
      exact ⟨#[], hT _ h1, trivial, fun pos cv z => (nomatch (show (none : Option Value) = some cv from z))⟩
    · rw [List.mem_singleton.mp hp]
      exact ⟨#[], hT _ h2, trivial, fun pos cv z => (nomatch (show (none : Option Value) = some cv from z))⟩
  · have B := blt_of Xb Gb c
    have Gr : GrC K cf.CG := grc_of c
    have Co : CoC K cf.CC := coc_of c
    have tb1 : TabB base mg (He.cT K ("sorted_rules", none)).1 (He.cT K ("sorted_rules", none)).2 := tbs _ (List.mem_cons_self ..)
    have tb2 : TabB base mg (He.cT K ("shortest_end", none)).1 (He.cT K ("shortest_end", none)).2 := tbs _ (List.mem_cons_of_mem _ (List.mem_cons_self ..))
    obtain ⟨k1, c_SMALL⟩ := He.str_ok Xb Gb (c.facts (f := .str "SMALL" "abcdefghijklmnopqrstuvwxyz") (List.mem_of_getElem? (i := 48) rfl))
    obtain ⟨k2, c_MOST_NAMES⟩ := He.int_ok Xb Gb (c.facts (f := .int "MOST_NAMES" 6) (List.mem_of_getElem? (i := 45) rfl))
    obtain ⟨k3, c_MOST_RULES⟩ := He.int_ok Xb Gb (c.facts (f := .int "MOST_RULES" 4) (List.mem_of_getElem? (i := 46) rfl))
    obtain ⟨k4, c_MOST_ROW⟩ := He.int_ok Xb Gb (c.facts (f := .int "MOST_ROW" 3) (List.mem_of_getElem? (i := 47) rfl))
    have mgCounts : mg "Counts" = some (.ref cf.CC) := He.glo_ok Xb Gb (c.facts (f := .glo "Counts") (List.mem_of_getElem? (i := 49) rfl))
    have mgGrammar : mg "Grammar" = some (.ref cf.CG) := He.glo_ok Xb Gb (c.facts (f := .glo "Grammar") (List.mem_of_getElem? (i := 56) rfl))
    have D_sr : Dft K mg base cf.T "sorted_rules" s_sorted_rules ["grammar", "name"] := dft_of (d := d_sorted_rules) Xb Gb c (List.mem_of_getElem? (i := 17) rfl) (List.mem_of_getElem? (i := 14) rfl) rfl (fun _ _ _ _ _ _ us hl => match us, hl with | [_, _], _ => rfl) tb1 (List.mem_cons_self ..) fun p hp e => by
      rcases List.mem_cons.mp hp with z | z
      · rw [z]
      · rw [List.mem_singleton.mp z] at e
        exact absurd e.symm hne
    have D_se : Dft K mg base cf.T "shortest_end" s_shortest_end ["grammar", "row"] := dft_of (d := d_shortest_end) Xb Gb c (List.mem_of_getElem? (i := 6) rfl) (List.mem_of_getElem? (i := 6) rfl) rfl (fun _ _ _ _ _ _ us hl => match us, hl with | [_, _], _ => rfl) tb2 (List.mem_cons_of_mem _ (List.mem_cons_self ..)) fun p hp e => by
      rcases List.mem_cons.mp hp with z | z
      · rw [z] at e
        exact absurd e hne
      · rw [List.mem_singleton.mp z]
    have M_has := ok_has (c := cf) (mg := mg) (base := base) (df_Grammar_has c) Gr
    have M_names := ok_names (c := cf) (mg := mg) (base := base) (df_Grammar_names c) Gr B
    have M_rules_of := ok_rules_of (c := cf) (mg := mg) (base := base) (df_Grammar_rules_of c) Gr B
    have G_look_at_names := ok_look_at_names (c := cf) (base := base) (df_look_at_names Xb Gb c) Gr M_has
    have G_added_up := ok_added_up (c := cf) (base := base) (df_added_up Xb Gb c) B
    have G_norms := ok_norms (df_norms Xb Gb c) Gr B M_names M_rules_of G_added_up
    have G_norm_of := ok_norm_of (df_norm_of Xb Gb c) G_look_at_names G_norms G_added_up
    have G_endless := ok_endless (df_endless Xb Gb c) Gr G_norms M_names
    have G_lessening := ok_lessening (df_lessening Xb Gb c) Gr M_rules_of G_added_up
    have G_twice_by := ok_twice_by (df_twice_by Xb Gb c) Gr B M_names M_rules_of
    have G_look_at_tongue := ok_look_at_tongue (df_look_at_tongue Xb Gb c) G_look_at_names G_endless G_twice_by
    have G_one_step := ok_one_step (df_one_step Xb Gb c) Gr M_rules_of
    have G_by_letters := ok_by_letters (df_by_letters Xb Gb c) G_one_step
    have G_runs_to := ok_runs_to (df_runs_to Xb Gb c) B G_look_at_tongue G_by_letters
    have G_ends_by := ok_ends_by (df_ends_by Xb Gb c) G_runs_to
    have M_of_row := ok_of_row (df_Counts_of_row c) (df_Counts_reckoned c) Gr Co B M_rules_of 50
    have M_of_row2 := M_of_row.imp (sp' := sp_of_row cf) fun _ _ _ _ h => sp_of_row_to h
    have I_Counts := ok_Counts_init (c := cf) (mg := mg) (base := base) (df_Counts_init c) Co
    have G_word_counts := ok_word_counts (df_word_counts Xb Gb c) Co B mgCounts G_look_at_tongue I_Counts M_of_row
    have G_sorted_rules := ok_sorted_rules D_sr Gr B M_rules_of
    have G_words_within := ok_words_within (df_words_within Xb Gb c) B G_look_at_tongue G_sorted_rules
    have G_word_at := ok_word_at (df_word_at Xb Gb c) Gr Co B mgCounts G_look_at_tongue G_sorted_rules I_Counts M_of_row2
    have G_place_of_word := ok_place_of_word (df_place_of_word Xb Gb c) Gr Co B mgCounts G_look_at_tongue G_by_letters G_one_step M_rules_of I_Counts M_of_row2
    have G_shortest_end := ok_shortest_end D_se B G_look_at_names G_norms G_added_up G_lessening
    have G_is_small := ok_is_small (c := cf) (base := base) (df_is_small Xb Gb c) B c_SMALL
    have G_is_name := ok_is_name (df_is_name Xb Gb c) B G_is_small
    have G_is_letter := ok_is_letter (df_is_letter Xb Gb c) B G_is_small
    have G_are_names := ok_are_names (df_are_names Xb Gb c) B c_MOST_NAMES G_is_name
    have M_lets_by := ok_lets_by (df_Grammar_lets_by c) Gr B c_MOST_ROW c_MOST_RULES G_is_letter
    have I_Grammar := ok_Grammar_init (df_Grammar_init c) Gr B G_are_names M_lets_by
    have G_law_cell_at := ok_law_cell_at (c := cf) (base := base) (df_law_cell_at Xb Gb c) B
    have G_law_well := ok_law_well (c := cf) (base := base) (df_law_well Xb Gb c) B
    have G_law_draw := ok_law_draw (c := cf) (base := base) (df_law_draw Xb Gb c) B
    have G_law_one := ok_law_one (df_law_one Xb Gb c) B G_law_draw
    have G_law_names := ok_law_names (df_law_names Xb Gb c) B G_law_draw
    have G_law_signs := ok_law_signs (df_law_signs Xb Gb c) B G_law_draw
    have G_law_mixed := ok_law_mixed (df_law_mixed Xb Gb c) B G_law_draw
    have G_law_rules := ok_law_rules (df_law_rules Xb Gb c) B G_law_draw G_law_one
    have G_law_first_right := ok_law_first_right (df_law_first_right Xb Gb c) B G_runs_to G_word_counts G_words_within
    have G_law_word_right := ok_law_word_right (df_law_word_right Xb Gb c) B G_runs_to G_ends_by G_place_of_word
    exact ok_law F2 B mgGrammar I_Grammar G_law_cell_at G_law_well G_law_draw G_law_one G_law_names G_law_signs G_law_mixed G_law_rules G_law_first_right G_law_word_right G_shortest_end G_norm_of G_word_at G_word_counts G_words_within
end K60
open PySem PySem.W PySem.Calls PyProof.Rows
theorem PySem.Challenge.cw_samegoing_k60_whole_words_by_first_lette_holds : PySem.Challenge.rw_samegoing_k60_whole_words_by_first_lette.Holds := by
  w_on; o_law
  refine HandSHeadRun.head_any (r := OpenLaw.row PySem.Challenge.rw_samegoing_k60_whole_words_by_first_lette) (q := view (OpenLaw.row PySem.Challenge.rw_samegoing_k60_whole_words_by_first_lette).prog [49]) (H := K60.hk) (ob := K60.ob) (M := 4000) (loose := K60.loose) (d := HandSHeadRun.topDef (OpenLaw.row PySem.Challenge.rw_samegoing_k60_whole_words_by_first_lette).prog 49) (kwd := []) K60.ob_eq
    (by kernel_rfl) (fun s => by kernel_rfl) K60.run (by kernel_rfl) (by kernel_rfl) (by kernel_rfl) (by rfl) (by first | assumption | decide +kernel) (by decide +kernel) ⟨rfl, rfl, rfl, rfl, rfl, by decide +kernel⟩ ?hw ?hc
  case hw => w_witness2
  case hc =>
    refine LamX.walk_ofTsE (l := PySem.Challenge.rw_samegoing_k60_whole_words_by_first_lette) (n := 63) (k := 104) (x := "_law_script") (CX := fun _ => L2.CX0) rfl (by decide) (by kernel_rfl) ⟨rfl, by decide, by decide⟩ ?F (fun _ _ _ _ _ z => z)
    intro w mg fa h Y G hmg0
    obtain ⟨K, KX, c⟩ := Y
    have hmg : mg ("law" : PySem.Str) = some (.ref fa) := by
      have e : (HandSHeadRun.topDef (OpenLaw.row PySem.Challenge.rw_samegoing_k60_whole_words_by_first_lette).prog 49).name = ("law" : PySem.Str) := by kernel_rfl
      rw [← e]
      exact hmg0
    exact ⟨K, KX, K60.law_at KX G hmg c⟩

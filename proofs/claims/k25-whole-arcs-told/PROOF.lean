import PyProof.Rows.All
import Wide.All
import OpenK.AllK
import Wide.FinOn
import KE.KStateDown
import Lean
import HandS.ForMost
import HandS.DictComp
import HandS.Conv
import HandS.ListItems
import HandS.SetKeys
import HandS.DeepEq
import HandS.DictEq
import HandS.ListEq
import HandS.Walk
import HandS.Wide
import HandS.Zip
import HandS.IsInst
import HandS.Defaults
import HandS.Head0
import HandS.Head1
import HandS.Head2
import HandS.HeadEnd
import HandS.HeadHook1
import HandS.HeadHook2
import KE.KEqNest
import KE.GoesEnum
import PyProof.DictMoreH
import PySem.Challenge.RW_twoworlds_k25_whole_arcs_told
set_option Elab.async false
set_option linter.all false
set_option maxRecDepth 100000
set_option maxHeartbeats 0
namespace K25
/-! ### rows of whole numbers: the rank, and what tells it -/
def at0 (l : List Int) (j : Nat) : Int := l.getD j 0
def less (row head : List Int) (c : Nat) : List Int := List.zipWith (fun x y => x * at0 head c - y * at0 row c) row head
def nz (c : Nat) (r : List Int) : Bool := decide (at0 r c ≠ 0)
def rstep (s : List (List Int) × Int) (c : Nat) : List (List Int) × Int :=
  match s.1.findIdx? (nz c) with
  | none => s
  | some i => ((s.1.eraseIdx i).map (fun r => less r (s.1.getD i []) c), s.2 + 1)
def rrun (rows : List (List Int)) (n : Nat) : List (List Int) × Int := (List.range n).foldl rstep (rows, 0)
theorem rrun_succ (rows : List (List Int)) (n : Nat) : rrun rows (n + 1) = rstep (rrun rows n) n := by
  unfold rrun
  rw [List.range_succ, List.foldl_append]
  rfl
def dot : List Int → List Int → Int
  | x :: xs, y :: ys => x * y + dot xs ys
  | _, _ => 0

theorem at0_nil (j : Nat) : at0 [] j = 0 := by simp [at0]
theorem at0_zero (x : Int) (l : List Int) : at0 (x :: l) 0 = x := by simp [at0]
theorem at0_succ (x : Int) (l : List Int) (j : Nat) : at0 (x :: l) (j + 1) = at0 l j := by simp [at0]
theorem at0_zip (f : Int → Int → Int) (h : f 0 0 = 0) : ∀ (r s : List Int) (j : Nat), r.length = s.length → at0 (List.zipWith f r s) j = f (at0 r j) (at0 s j)
  | [], [], j, _ => by simp [at0, h]
  | x :: r, y :: s, 0, _ => by simp [at0]
  | x :: r, y :: s, j + 1, e => by
    rw [List.zipWith_cons_cons, at0_succ, at0_succ, at0_succ]
    exact at0_zip f h r s j (by simpa using e)
theorem at0_less {r h : List Int} (c : Nat) (e : r.length = h.length) (j : Nat) : at0 (less r h c) j = at0 r j * at0 h c - at0 h j * at0 r c := by
  unfold less
  rw [at0_zip _ (by simp) r h j e]
theorem len_less {r h : List Int} (c : Nat) (e : r.length = h.length) : (less r h c).length = r.length := by
  unfold less
  rw [List.length_zipWith]
  omega
theorem dot_zip (a b : Int) : ∀ (x r s : List Int), r.length = s.length → dot x (List.zipWith (fun u v => u * a - v * b) r s) = dot x r * a - dot x s * b
  | [], r, s, _ => by cases r <;> cases s <;> simp [dot]
  | _ :: _, [], [], _ => by simp [dot]
  | x :: xs, u :: r, v :: s, e => by
    rw [List.zipWith_cons_cons]
    show x * (u * a - v * b) + dot xs _ = (x * u + dot xs r) * a - (x * v + dot xs s) * b
    rw [dot_zip a b xs r s (by simpa using e)]
    grind
theorem dot_less {r h : List Int} (c : Nat) (e : r.length = h.length) (x : List Int) : dot x (less r h c) = dot x r * at0 h c - dot x h * at0 r c := dot_zip _ _ x r h e
theorem dot_zero : ∀ (x v : List Int), (∀ j, at0 v j = 0) → dot x v = 0
  | [], _, _ => by simp [dot]
  | _ :: _, [], _ => by simp [dot]
  | x :: xs, y :: ys, h => by
    show x * y + dot xs ys = 0
    have h0 := h 0
    rw [at0_zero] at h0
    rw [h0, dot_zero xs ys fun j => by have q := h (j + 1); rw [at0_succ] at q; exact q]
    omega
theorem at0_out {l : List Int} {j : Nat} (h : l.length ≤ j) : at0 l j = 0 := by
  unfold at0
  rw [List.getD_eq_getElem?_getD, List.getElem?_eq_none_iff.mpr h]
  rfl

/-! ### the first row that is not 0 in a column -/
theorem find_none {left : List (List Int)} {c : Nat} (h : left.findIdx? (nz c) = none) : ∀ r ∈ left, at0 r c = 0 := fun r hr => by
  have q := List.findIdx?_eq_none_iff.mp h r hr
  unfold nz at q
  simpa using q
theorem find_none_of {left : List (List Int)} {c : Nat} (h : ∀ r ∈ left, at0 r c = 0) : left.findIdx? (nz c) = none :=
  List.findIdx?_eq_none_iff.mpr fun r hr => by unfold nz; simp [h r hr]
theorem find_some {left : List (List Int)} {c i : Nat} (h : left.findIdx? (nz c) = some i) : i < left.length ∧ at0 (left.getD i []) c ≠ 0 := by
  obtain ⟨hi, h1, _⟩ := List.findIdx?_eq_some_iff_getElem.mp h
  refine ⟨hi, ?_⟩
  unfold nz at h1
  have e : left.getD i [] = left[i] := by rw [List.getD_eq_getElem?_getD, List.getElem?_eq_getElem hi]; rfl
  rw [e]
  simpa using h1
theorem find_app {left : List (List Int)} {c i : Nat} (v : List Int) (h : left.findIdx? (nz c) = some i) : (left ++ [v]).findIdx? (nz c) = some i := by
  rw [List.findIdx?_append, h]
  rfl
theorem find_app_none {left : List (List Int)} {c : Nat} (v : List Int) (h : left.findIdx? (nz c) = none) (hv : at0 v c = 0) : (left ++ [v]).findIdx? (nz c) = none :=
  find_none_of fun r hr => by
    rcases List.mem_append.mp hr with q | q
    · exact find_none h r q
    · rw [List.mem_singleton.mp q]; exact hv
theorem find_app_last {left : List (List Int)} {c : Nat} (v : List Int) (h : left.findIdx? (nz c) = none) (hv : at0 v c ≠ 0) : (left ++ [v]).findIdx? (nz c) = some left.length := by
  rw [List.findIdx?_append, h]
  have e : nz c v = true := by unfold nz; simp [hv]
  simp [List.findIdx?_cons, e]
theorem getD_app {left : List (List Int)} {i : Nat} (v : List Int) (h : i < left.length) : (left ++ [v]).getD i [] = left.getD i [] := by
  rw [List.getD_eq_getElem?_getD, List.getD_eq_getElem?_getD, List.getElem?_append_left h]
theorem getD_mem {left : List (List Int)} {i : Nat} (h : i < left.length) : left.getD i [] ∈ left := by
  have e : left.getD i [] = left[i] := by rw [List.getD_eq_getElem?_getD, List.getElem?_eq_getElem h]; rfl
  rw [e]
  exact List.getElem_mem h
theorem erase_app {left : List (List Int)} {i : Nat} (v : List Int) (h : i < left.length) : (left ++ [v]).eraseIdx i = left.eraseIdx i ++ [v] := List.eraseIdx_append_of_lt_length h [v]
theorem erase_last (left : List (List Int)) (v : List Int) : (left ++ [v]).eraseIdx left.length = left := by
  rw [List.eraseIdx_append_of_length_le (Nat.le_refl _)]
  simp
theorem mem_erase_or {left : List (List Int)} : ∀ {i : Nat} {r : List Int}, r ∈ left → r = left.getD i [] ∨ r ∈ left.eraseIdx i := by
  induction left with
  | nil => intro i r h; exact absurd h (by simp)
  | cons a l ih =>
    intro i r h
    cases i with
    | zero =>
      rcases List.mem_cons.mp h with q | q
      · exact .inl (by rw [q]; simp)
      · exact .inr q
    | succ i =>
      rcases List.mem_cons.mp h with q | q
      · exact .inr (by rw [q]; exact List.mem_cons_self)
      · rcases ih (i := i) q with z | z
        · exact .inl (by rw [z]; simp)
        · exact .inr (List.mem_cons_of_mem _ z)

/-! ### the rank's step, by cases -/
theorem rstep_none {left : List (List Int)} {k : Int} {c : Nat} (h : left.findIdx? (nz c) = none) : rstep (left, k) c = (left, k) := by
  unfold rstep
  simp only [h]
theorem rstep_some {left : List (List Int)} {k : Int} {c i : Nat} (h : left.findIdx? (nz c) = some i) : rstep (left, k) c = ((left.eraseIdx i).map (fun r => less r (left.getD i []) c), k + 1) := by
  unfold rstep
  simp only [h]

/-! ### a row that is a sum of the others leaves the rank as it is -/
inductive Span (rows : List (List Int)) : (Nat → Int) → Prop where
  | zero : Span rows (fun _ => 0)
  | add (k : Int) {r : List Int} {v : Nat → Int} : r ∈ rows → Span rows v → Span rows (fun j => v j + k * at0 r j)
theorem Span.col {rows : List (List Int)} {v : Nat → Int} (h : Span rows v) {c : Nat} (z : ∀ r ∈ rows, at0 r c = 0) : v c = 0 := by
  induction h with
  | zero => rfl
  | @add k r v hr _ ih =>
    show v c + k * at0 r c = 0
    rw [ih, z _ hr]; simp
theorem Span.step {rows : List (List Int)} {v : Nat → Int} (h : Span rows v) {i c n : Nat} (hi : i < rows.length) (hn : ∀ r ∈ rows, r.length = n) :
    Span ((rows.eraseIdx i).map (fun r => less r (rows.getD i []) c)) (fun j => v j * at0 (rows.getD i []) c - at0 (rows.getD i []) j * v c) := by
  have hl : (rows.getD i []).length = n := hn _ (getD_mem hi)
  induction h with
  | zero =>
    have e : (fun j => (0 : Int) * at0 (rows.getD i []) c - at0 (rows.getD i []) j * 0) = fun _ => 0 := by funext j; simp
    rw [e]
    exact .zero
  | @add k r v hr _ ih =>
    rcases mem_erase_or (i := i) hr with q | q
    · subst q
      have e : (fun j => (v j + k * at0 (rows.getD i []) j) * at0 (rows.getD i []) c - at0 (rows.getD i []) j * (v c + k * at0 (rows.getD i []) c)) = fun j => v j * at0 (rows.getD i []) c - at0 (rows.getD i []) j * v c := by
        funext j; grind
      rw [e]
      exact ih
    · have e : (fun j => (v j + k * at0 r j) * at0 (rows.getD i []) c - at0 (rows.getD i []) j * (v c + k * at0 r c)) = fun j => (v j * at0 (rows.getD i []) c - at0 (rows.getD i []) j * v c) + k * at0 (less r (rows.getD i []) c) j := by
        funext j
        rw [at0_less c ((hn r hr).trans hl.symm)]
        grind
      rw [e]
      exact .add k (List.mem_map.mpr ⟨r, q, rfl⟩) ih
theorem erase_sub {left : List (List Int)} {i : Nat} {r : List Int} (h : r ∈ left.eraseIdx i) : r ∈ left := (List.eraseIdx_sublist left i).subset h
theorem span_run {rows : List (List Int)} {v : List Int} {n : Nat} (hn : ∀ r ∈ rows, r.length = n) (hv : v.length = n) (h : Span rows (at0 v)) :
    ∀ m : Nat, ∃ (left : List (List Int)) (k : Int) (u : List Int), rrun rows m = (left, k) ∧ rrun (rows ++ [v]) m = (left ++ [u], k) ∧ (∀ r ∈ left, r.length = n) ∧ u.length = n ∧ Span left (at0 u)
  | 0 => ⟨rows, 0, v, rfl, rfl, hn, hv, h⟩
  | m + 1 => by
    obtain ⟨left, k, u, e1, e2, h1, h2, h3⟩ := span_run hn hv h m
    rw [rrun_succ, rrun_succ, e1, e2]
    cases hf : left.findIdx? (nz m) with
    | none =>
      rw [rstep_none hf, rstep_none (find_app_none u hf (h3.col (find_none hf)))]
      exact ⟨left, k, u, rfl, rfl, h1, h2, h3⟩
    | some i =>
      obtain ⟨hi, hc⟩ := find_some hf
      rw [rstep_some hf, rstep_some (find_app u hf), getD_app u hi, erase_app u hi, List.map_append]
      have hl : (left.getD i []).length = n := h1 _ (getD_mem hi)
      refine ⟨_, _, _, rfl, rfl, fun r hr => ?_, ?_, ?_⟩
      · obtain ⟨s, hs, rfl⟩ := List.mem_map.mp hr
        rw [len_less _ ((h1 s (erase_sub hs)).trans hl.symm)]
        exact h1 s (erase_sub hs)
      · rw [len_less _ (h2.trans hl.symm)]
        exact h2
      · have e : at0 (less u (left.getD i []) m) = fun j => at0 u j * at0 (left.getD i []) m - at0 (left.getD i []) j * at0 u m := by
          funext j
          exact at0_less m (h2.trans hl.symm) j
        rw [e]
        exact h3.step hi h1
theorem rank_span {rows : List (List Int)} {v : List Int} {n : Nat} (hn : ∀ r ∈ rows, r.length = n) (hv : v.length = n) (h : Span rows (at0 v)) (m : Nat) : (rrun (rows ++ [v]) m).2 = (rrun rows m).2 := by
  obtain ⟨left, k, u, e1, e2, _⟩ := span_run hn hv h m
  rw [e1, e2]

/-! ### a row that parts from the others' sums makes the rank greater -/
def Scaled (r s : List Int) : Prop := ∃ k : Int, k ≠ 0 ∧ ∀ j, at0 r j = k * at0 s j
inductive AllS : List (List Int) → List (List Int) → Prop where
  | nil : AllS [] []
  | cons {r s l m} : Scaled r s → AllS l m → AllS (r :: l) (s :: m)
theorem Scaled.nz {r s : List Int} (h : Scaled r s) (c : Nat) : nz c r = nz c s := by
  obtain ⟨k, hk, e⟩ := h
  unfold K25.nz
  rw [e c]
  by_cases q : at0 s c = 0
  · rw [q]; simp
  · have : k * at0 s c ≠ 0 := fun z => by
      rcases Int.mul_eq_zero.mp z with z | z
      · exact hk z
      · exact q z
    simp [q, this]
theorem AllS.find {l m : List (List Int)} (h : AllS l m) (c : Nat) : l.findIdx? (nz c) = m.findIdx? (nz c) := by
  induction h with
  | nil => rfl
  | cons h _ ih => rw [List.findIdx?_cons, List.findIdx?_cons, h.nz c, ih]
theorem AllS.get {l m : List (List Int)} (h : AllS l m) : ∀ {i : Nat}, i < m.length → Scaled (l.getD i []) (m.getD i []) := by
  induction h with
  | nil => intro i hi; exact absurd hi (by simp)
  | cons h _ ih =>
    intro i hi
    cases i with
    | zero => simpa using h
    | succ i => simpa using ih (i := i) (by simpa using hi)
theorem AllS.erase {l m : List (List Int)} (h : AllS l m) : ∀ i : Nat, AllS (l.eraseIdx i) (m.eraseIdx i) := by
  induction h with
  | nil => intro i; exact .nil
  | cons h t ih =>
    intro i
    cases i with
    | zero => exact t
    | succ i => exact .cons h (ih i)
theorem AllS.less {l m : List (List Int)} (h : AllS l m) {a b : List Int} (hab : Scaled a b) (c n : Nat) (ha : a.length = n) (hb : b.length = n) (hl : ∀ r ∈ l, r.length = n) (hm : ∀ r ∈ m, r.length = n) :
    AllS (l.map fun r => K25.less r a c) (m.map fun r => K25.less r b c) := by
  induction h with
  | nil => exact .nil
  | @cons r s l m h _ ih =>
    refine .cons ?_ (ih (fun r hr => hl r (List.mem_cons_of_mem _ hr)) fun r hr => hm r (List.mem_cons_of_mem _ hr))
    obtain ⟨k, hk, e⟩ := h
    obtain ⟨t, ht, e'⟩ := hab
    refine ⟨k * t, fun z => ?_, fun j => ?_⟩
    · rcases Int.mul_eq_zero.mp z with z | z
      · exact hk z
      · exact ht z
    · rw [at0_less c ((hl r List.mem_cons_self).trans ha.symm), at0_less c ((hm s List.mem_cons_self).trans hb.symm), e j, e' c, e' j, e c]
      grind
/-- apart so far: the last row is not taken, or it was and the others are scaled -/
def Apart (x : List Int) (n m : Nat) (left : List (List Int)) (k : Int) (leftA : List (List Int)) (kA : Int) : Prop :=
  (∃ u : List Int, leftA = left ++ [u] ∧ kA = k ∧ (∀ r ∈ left, r.length = n) ∧ u.length = n ∧ (∀ r ∈ left, dot x r = 0) ∧ dot x u ≠ 0 ∧
    (∀ r ∈ left, ∀ j, j < m → at0 r j = 0) ∧ ∀ j, j < m → at0 u j = 0) ∨
  (kA = k + 1 ∧ (∀ r ∈ left, r.length = n) ∧ (∀ r ∈ leftA, r.length = n) ∧ AllS leftA left)
theorem apart_run {rows : List (List Int)} {x v : List Int} {n : Nat} (hn : ∀ r ∈ rows, r.length = n) (hv : v.length = n) (hx : ∀ r ∈ rows, dot x r = 0) (hxv : dot x v ≠ 0) :
    ∀ m : Nat, Apart x n m (rrun rows m).1 (rrun rows m).2 (rrun (rows ++ [v]) m).1 (rrun (rows ++ [v]) m).2
  | 0 => .inl ⟨v, rfl, rfl, hn, hv, hx, hxv, fun _ _ _ h => absurd h (by omega), fun _ h => absurd h (by omega)⟩
  | m + 1 => by
    have ih := apart_run hn hv hx hxv m
    rw [rrun_succ, rrun_succ]
    rcases e1 : rrun rows m with ⟨left, k⟩
    rcases e2 : rrun (rows ++ [v]) m with ⟨leftA, kA⟩
    rw [e1, e2] at ih
    clear e1 e2
    dsimp only at ih ⊢
    rcases ih with ⟨u, rfl, rfl, h1, h2, h3, h4, h5, h6⟩ | ⟨rfl, h1, h2, h3⟩
    · cases hf : left.findIdx? (nz m) with
      | none =>
        by_cases hu : at0 u m = 0
        · rw [rstep_none hf, rstep_none (find_app_none u hf hu)]
          refine .inl ⟨u, rfl, rfl, h1, h2, h3, h4, fun r hr j hj => ?_, fun j hj => ?_⟩
          · by_cases e : j = m
            · rw [e]; exact find_none hf r hr
            · exact h5 r hr j (by omega)
          · by_cases e : j = m
            · rw [e]; exact hu
            · exact h6 j (by omega)
        · rw [rstep_none hf, rstep_some (find_app_last u hf hu), erase_last]
          have e : (left ++ [u]).getD left.length [] = u := by simp
          rw [e]
          refine .inr ⟨rfl, h1, fun r hr => ?_, ?_⟩
          · obtain ⟨s, hs, rfl⟩ := List.mem_map.mp hr
            rw [len_less _ ((h1 s hs).trans h2.symm)]
            exact h1 s hs
          · have z := find_none hf
            clear hf h3 h5 e
            induction left with
            | nil => exact .nil
            | cons r l ih =>
              refine .cons ⟨at0 u m, hu, fun j => ?_⟩ (ih (fun r hr => h1 r (List.mem_cons_of_mem _ hr)) fun r hr => z r (List.mem_cons_of_mem _ hr))
              rw [at0_less m ((h1 r List.mem_cons_self).trans h2.symm), z r List.mem_cons_self]
              grind
      | some i =>
        obtain ⟨hi, hc⟩ := find_some hf
        have hm := getD_mem hi
        have hl : (left.getD i []).length = n := h1 _ hm
        rw [rstep_some hf, rstep_some (find_app u hf), getD_app u hi, erase_app u hi, List.map_append]
        refine .inl ⟨_, rfl, rfl, fun r hr => ?_, ?_, fun r hr => ?_, ?_, fun r hr j hj => ?_, fun j hj => ?_⟩
        · obtain ⟨s, hs, rfl⟩ := List.mem_map.mp hr
          rw [len_less _ ((h1 s (erase_sub hs)).trans hl.symm)]
          exact h1 s (erase_sub hs)
        · rw [len_less _ (h2.trans hl.symm)]
          exact h2
        · obtain ⟨s, hs, rfl⟩ := List.mem_map.mp hr
          rw [dot_less m ((h1 s (erase_sub hs)).trans hl.symm), h3 s (erase_sub hs), h3 _ hm]
          simp
        · rw [dot_less m (h2.trans hl.symm), h3 _ hm]
          intro z
          have z' : dot x u * at0 (left.getD i []) m = 0 := by grind
          rcases Int.mul_eq_zero.mp z' with z' | z'
          · exact h4 z'
          · exact hc z'
        · obtain ⟨s, hs, rfl⟩ := List.mem_map.mp hr
          rw [at0_less m ((h1 s (erase_sub hs)).trans hl.symm)]
          by_cases e : j = m
          · rw [e]; grind
          · rw [h5 s (erase_sub hs) j (by omega), h5 _ hm j (by omega)]; simp
        · rw [at0_less m (h2.trans hl.symm)]
          by_cases e : j = m
          · rw [e]; grind
          · rw [h6 j (by omega), h5 _ hm j (by omega)]; simp
    · cases hf : left.findIdx? (nz m) with
      | none =>
        rw [rstep_none hf, rstep_none ((h3.find m).trans hf)]
        exact .inr ⟨rfl, h1, h2, h3⟩
      | some i =>
        obtain ⟨hi, hc⟩ := find_some hf
        have hfA := (h3.find m).trans hf
        obtain ⟨hiA, _⟩ := find_some hfA
        have hm := getD_mem hi
        have hmA := getD_mem hiA
        rw [rstep_some hf, rstep_some hfA]
        refine .inr ⟨rfl, fun r hr => ?_, fun r hr => ?_, ?_⟩
        · obtain ⟨s, hs, rfl⟩ := List.mem_map.mp hr
          rw [len_less _ ((h1 s (erase_sub hs)).trans (h1 _ hm).symm)]
          exact h1 s (erase_sub hs)
        · obtain ⟨s, hs, rfl⟩ := List.mem_map.mp hr
          rw [len_less _ ((h2 s (erase_sub hs)).trans (h2 _ hmA).symm)]
          exact h2 s (erase_sub hs)
        · exact (h3.erase i).less (h3.get hi) m n (h2 _ hmA) (h1 _ hm) (fun r hr => h2 r (erase_sub hr)) fun r hr => h1 r (erase_sub hr)
theorem rank_apart {rows : List (List Int)} {x v : List Int} {n : Nat} (hn : ∀ r ∈ rows, r.length = n) (hv : v.length = n) (hx : ∀ r ∈ rows, dot x r = 0) (hxv : dot x v ≠ 0) : (rrun (rows ++ [v]) n).2 ≠ (rrun rows n).2 := by
  have h := apart_run hn hv hx hxv n
  rcases e1 : rrun rows n with ⟨left, k⟩
  rcases e2 : rrun (rows ++ [v]) n with ⟨leftA, kA⟩
  rw [e1, e2] at h
  clear e1 e2
  dsimp only at h ⊢
  rcases h with ⟨u, rfl, rfl, h1, h2, h3, h4, h5, h6⟩ | ⟨rfl, _⟩
  · refine absurd (dot_zero x u fun j => ?_) h4
    by_cases q : j < n
    · exact h6 j q
    · exact at0_out (by omega)
  · show k + 1 ≠ k; omega
end K25

namespace K25
/-! ### nets: arcs are (name, start, end) -/
abbrev Arc (α : Type) := α × α × α
section
variable {α : Type} [DecidableEq α]

/-! #### sums -/
def sumA (A : List (Arc α)) (f : Arc α → Int) : Int := (A.map f).sum
theorem sumA_nil (f : Arc α → Int) : sumA [] f = 0 := rfl
theorem sumA_cons (a : Arc α) (A : List (Arc α)) (f : Arc α → Int) : sumA (a :: A) f = f a + sumA A f := by
  unfold sumA
  rw [List.map_cons, List.sum_cons]
theorem sumA_add (f g : Arc α → Int) : ∀ A : List (Arc α), sumA A (fun a => f a + g a) = sumA A f + sumA A g
  | [] => rfl
  | a :: A => by rw [sumA_cons, sumA_cons, sumA_cons, sumA_add f g A]; omega
theorem sumA_sub (f g : Arc α → Int) : ∀ A : List (Arc α), sumA A (fun a => f a - g a) = sumA A f - sumA A g
  | [] => rfl
  | a :: A => by rw [sumA_cons, sumA_cons, sumA_cons, sumA_sub f g A]; omega
theorem sumA_ext {f g : Arc α → Int} : ∀ {A : List (Arc α)}, (∀ a ∈ A, f a = g a) → sumA A f = sumA A g
  | [], _ => rfl
  | a :: A, h => by
    rw [sumA_cons, sumA_cons, h a List.mem_cons_self, sumA_ext fun b hb => h b (List.mem_cons_of_mem _ hb)]
theorem sumA_zero {f : Arc α → Int} : ∀ {A : List (Arc α)}, (∀ a ∈ A, f a = 0) → sumA A f = 0
  | [], _ => rfl
  | a :: A, h => by
    rw [sumA_cons, h a List.mem_cons_self, sumA_zero fun b hb => h b (List.mem_cons_of_mem _ hb)]
    rfl
/-- terms from 0 on that sum to 0 are 0 -/
theorem sumA_pos {f : Arc α → Int} : ∀ {A : List (Arc α)}, (∀ a ∈ A, 0 ≤ f a) → 0 ≤ sumA A f
  | [], _ => by rw [sumA_nil]; omega
  | a :: A, h => by
    have h1 := h a List.mem_cons_self
    have h2 := sumA_pos (f := f) (A := A) fun b hb => h b (List.mem_cons_of_mem _ hb)
    rw [sumA_cons]
    omega
theorem sumA_all0 {f : Arc α → Int} : ∀ {A : List (Arc α)}, (∀ a ∈ A, 0 ≤ f a) → sumA A f = 0 → ∀ a ∈ A, f a = 0
  | [], _, _, a, ha => absurd ha (by simp)
  | b :: A, h, e, a, ha => by
    have h1 := h b List.mem_cons_self
    have h2 := sumA_pos (f := f) (A := A) fun b hb => h b (List.mem_cons_of_mem _ hb)
    rw [sumA_cons] at e
    rcases List.mem_cons.mp ha with rfl | ha
    · omega
    · exact sumA_all0 (fun b hb => h b (List.mem_cons_of_mem _ hb)) (by omega) a ha
theorem dot_sumA (f g : Arc α → Int) : ∀ A : List (Arc α), dot (A.map f) (A.map g) = sumA A fun a => f a * g a
  | [] => rfl
  | a :: A => by
    rw [sumA_cons, ← dot_sumA f g A]
    rfl

/-! #### balances -/
def bi (p : Prop) [Decidable p] : Int := if p then 1 else 0
theorem bi_t {p : Prop} [Decidable p] (h : p) : bi p = 1 := if_pos h
theorem bi_f {p : Prop} [Decidable p] (h : ¬ p) : bi p = 0 := if_neg h
/-- what the arc weighs at a node -/
def wt (v : α) (a : Arc α) : Int := bi (a.2.2 = v) - bi (a.2.1 = v)
def bal (A : List (Arc α)) (x : α → Int) (v : α) : Int := sumA A fun a => x a.1 * wt v a
theorem bal_add (A : List (Arc α)) (x y : α → Int) (v : α) : bal A (fun n => x n + y n) v = bal A x v + bal A y v := by
  unfold bal
  rw [← sumA_add]
  exact sumA_ext fun a _ => by rw [Int.add_mul]
theorem bal_sub (A : List (Arc α)) (x y : α → Int) (v : α) : bal A (fun n => x n - y n) v = bal A x v - bal A y v := by
  unfold bal
  rw [← sumA_sub]
  exact sumA_ext fun a _ => by rw [Int.sub_mul]
/-- one unit on one arc -/
def unit (n : α) : α → Int := fun m => bi (m = n)
def Names (A : List (Arc α)) : Prop := (A.map (·.1)).Nodup
theorem Names.eq {A : List (Arc α)} (h : Names A) {a b : Arc α} (ha : a ∈ A) (hb : b ∈ A) (e : a.1 = b.1) : a = b := by
  unfold Names at h
  induction A with
  | nil => exact absurd ha (by simp)
  | cons c A ih =>
    rw [List.map_cons, List.nodup_cons] at h
    rcases List.mem_cons.mp ha with h1 | h1
    · rcases List.mem_cons.mp hb with h2 | h2
      · rw [h1, h2]
      · rw [h1] at e
        exact absurd (List.mem_map.mpr ⟨b, h2, e.symm⟩) h.1
    · rcases List.mem_cons.mp hb with h2 | h2
      · rw [h2] at e
        exact absurd (List.mem_map.mpr ⟨a, h1, e⟩) h.1
      · exact ih h.2 h1 h2
theorem sumA_unit {A : List (Arc α)} (h : Names A) {a : Arc α} (ha : a ∈ A) (f : Arc α → Int) : sumA A (fun b => bi (b.1 = a.1) * f b) = f a := by
  unfold Names at h
  induction A with
  | nil => exact absurd ha (by simp)
  | cons c A ih =>
    rw [List.map_cons, List.nodup_cons] at h
    rw [sumA_cons]
    rcases List.mem_cons.mp ha with rfl | ha
    · rw [bi_t rfl, sumA_zero fun b hb => ?_]
      · omega
      · rw [bi_f fun e => h.1 (List.mem_map.mpr ⟨b, hb, e⟩)]
        omega
    · rw [bi_f fun e => h.1 (List.mem_map.mpr ⟨a, ha, e.symm⟩), ih h.2 ha]
      omega
theorem bal_unit {A : List (Arc α)} (h : Names A) {a : Arc α} (ha : a ∈ A) (v : α) : bal A (unit a.1) v = wt v a := by
  unfold bal unit
  exact sumA_unit h ha (wt v)

/-! #### nodes -/
def addN (f : List α) (v : α) : List α := if v ∈ f then f else f ++ [v]
def nodesOf (A : List (Arc α)) : List α := A.foldl (fun f a => addN (addN f a.2.1) a.2.2) []
theorem mem_addN {f : List α} {v w : α} : w ∈ addN f v ↔ w ∈ f ∨ w = v := by
  unfold addN
  split
  · rename_i h
    constructor
    · exact fun q => .inl q
    · rintro (q | rfl)
      · exact q
      · exact h
  · rw [List.mem_append, List.mem_singleton]
theorem nodup_snoc {l : List α} {k : α} (h : l.Nodup) (hk : ¬ k ∈ l) : (l ++ [k]).Nodup := by
  rw [List.nodup_append]
  refine ⟨h, by simp, fun a ha b hb => ?_⟩
  rw [List.mem_singleton.mp hb]
  rintro rfl
  exact hk ha
theorem nodup_addN {f : List α} {v : α} (h : f.Nodup) : (addN f v).Nodup := by
  unfold addN
  split
  · exact h
  · rename_i q
    exact nodup_snoc h q
theorem mem_nodes_fold {w : α} : ∀ (A : List (Arc α)) (f : List α), w ∈ A.foldl (fun f a => addN (addN f a.2.1) a.2.2) f ↔ w ∈ f ∨ ∃ a ∈ A, w = a.2.1 ∨ w = a.2.2
  | [], f => by simp
  | a :: A, f => by
    rw [List.foldl_cons, mem_nodes_fold A, mem_addN, mem_addN]
    constructor
    · rintro (((h | h) | h) | ⟨b, hb, h⟩)
      · exact .inl h
      · exact .inr ⟨a, List.mem_cons_self, .inl h⟩
      · exact .inr ⟨a, List.mem_cons_self, .inr h⟩
      · exact .inr ⟨b, List.mem_cons_of_mem _ hb, h⟩
    · rintro (h | ⟨b, hb, h⟩)
      · exact .inl (.inl (.inl h))
      · rcases List.mem_cons.mp hb with rfl | hb
        · rcases h with h | h
          · exact .inl (.inl (.inr h))
          · exact .inl (.inr h)
        · exact .inr ⟨b, hb, h⟩
theorem mem_nodes {A : List (Arc α)} {w : α} : w ∈ nodesOf A ↔ ∃ a ∈ A, w = a.2.1 ∨ w = a.2.2 := by
  unfold nodesOf
  rw [mem_nodes_fold]
  simp
theorem nodup_nodes_fold : ∀ (A : List (Arc α)) (f : List α), f.Nodup → (A.foldl (fun f a => addN (addN f a.2.1) a.2.2) f).Nodup
  | [], _, h => h
  | a :: A, f, h => nodup_nodes_fold A _ (nodup_addN (nodup_addN h))
theorem nodup_nodes (A : List (Arc α)) : (nodesOf A).Nodup := nodup_nodes_fold A [] List.nodup_nil
theorem bal_off {A : List (Arc α)} {v : α} (h : v ∉ nodesOf A) (x : α → Int) : bal A x v = 0 := by
  unfold bal
  refine sumA_zero fun a ha => ?_
  unfold wt
  rw [bi_f fun e => h (mem_nodes.mpr ⟨a, ha, .inr e.symm⟩), bi_f fun e => h (mem_nodes.mpr ⟨a, ha, .inl e.symm⟩)]
  omega

/-! #### sides -/
/-- what leads into a side, less what leads out -/
def into (S : List α) (a : Arc α) : Int := bi (a.2.2 ∈ S) - bi (a.2.1 ∈ S)
theorem into_nil (a : Arc α) : into [] a = 0 := by
  unfold into
  rw [bi_f (by simp), bi_f (by simp)]
  rfl
theorem bi_cons {v w : α} {S : List α} (h : v ∉ S) : bi (w ∈ v :: S) = bi (w = v) + bi (w ∈ S) := by
  by_cases e : w = v
  · subst e
    rw [bi_t List.mem_cons_self, bi_t rfl, bi_f h]
    rfl
  · rw [bi_f e]
    by_cases q : w ∈ S
    · rw [bi_t q, bi_t (List.mem_cons_of_mem _ q)]
      rfl
    · rw [bi_f q, bi_f fun z => (List.mem_cons.mp z).elim e q]
      rfl
theorem into_cons {v : α} {S : List α} (h : v ∉ S) (a : Arc α) : into (v :: S) a = wt v a + into S a := by
  unfold into wt
  rw [bi_cons h, bi_cons h]
  omega
theorem bal_side (A : List (Arc α)) (x : α → Int) : ∀ {S : List α}, S.Nodup → (∀ v ∈ S, bal A x v = 0) → sumA A (fun a => x a.1 * into S a) = 0
  | [], _, _ => sumA_zero fun a _ => by rw [into_nil]; omega
  | v :: S, hn, h => by
    rw [List.nodup_cons] at hn
    have e : sumA A (fun a => x a.1 * into (v :: S) a) = sumA A fun a => x a.1 * wt v a + x a.1 * into S a := sumA_ext fun a _ => by rw [into_cons hn.1, Int.mul_add]
    rw [e, sumA_add, bal_side A x hn.2 fun w hw => h w (List.mem_cons_of_mem _ hw)]
    have h1 := h v List.mem_cons_self
    unfold bal at h1
    rw [h1]
    rfl

/-! #### worlds -/
structure NetW (A : List (Arc α)) (x : α → Int) : Prop where
  pos : ∀ a ∈ A, 0 ≤ x a.1
  even : ∀ v, bal A x v = 0

/-! #### which nodes arcs lead to -/
inductive Reach (A : List (Arc α)) (s : α) : α → Prop where
  | here : Reach A s s
  | step {u : α} {a : Arc α} : Reach A s u → a ∈ A → a.2.1 = u → Reach A s a.2.2
/-- a list of nodes, closed under arcs -/
def Closed (A : List (Arc α)) (f : List α) : Prop := ∀ a ∈ A, a.2.1 ∈ f → a.2.2 ∈ f
theorem Reach.mem {A : List (Arc α)} {s v : α} {f : List α} (h : Reach A s v) (hs : s ∈ f) (c : Closed A f) : v ∈ f := by
  induction h with
  | here => exact hs
  | step _ ha e ih => exact c _ ha (by rw [e]; exact ih)
def pass1 (f : List α) (a : Arc α) : List α := if a.2.1 ∈ f ∧ a.2.2 ∉ f then f ++ [a.2.2] else f
def pass (A : List (Arc α)) (f : List α) : List α := A.foldl pass1 f
def passes (A : List (Arc α)) (s : α) : Nat → List α
  | 0 => [s]
  | k + 1 => pass A (passes A s k)
/-- the nodes to which arcs lead, by as many passes as there are arcs -/
def leads (A : List (Arc α)) (s : α) : List α := passes A s A.length
theorem pass1_sub {f : List α} {a : Arc α} {v : α} (h : v ∈ f) : v ∈ pass1 f a := by
  unfold pass1
  split
  · exact List.mem_append_left _ h
  · exact h
theorem pass_sub {v : α} : ∀ (A : List (Arc α)) {f : List α}, v ∈ f → v ∈ pass A f
  | [], _, h => h
  | a :: A, f, h => pass_sub A (f := pass1 f a) (pass1_sub h)
theorem pass_gets : ∀ (A : List (Arc α)) {f : List α} {a : Arc α}, a ∈ A → a.2.1 ∈ f → a.2.2 ∈ pass A f
  | [], _, _, h, _ => absurd h (by simp)
  | b :: A, f, a, h, hs => by
    show a.2.2 ∈ pass A (pass1 f b)
    rcases List.mem_cons.mp h with rfl | h
    · refine pass_sub A ?_
      unfold pass1
      split
      · exact List.mem_append_right _ (by simp)
      · rename_i q
        by_cases z : a.2.2 ∈ f
        · exact z
        · exact absurd ⟨hs, z⟩ q
    · exact pass_gets A h (pass1_sub hs)
theorem pass_reach {B : List (Arc α)} {s : α} : ∀ (A : List (Arc α)) {f : List α}, (∀ a ∈ A, a ∈ B) → (∀ v ∈ f, Reach B s v) → ∀ v ∈ pass A f, Reach B s v
  | [], _, _, h, v, hv => h v hv
  | a :: A, f, hA, h, v, hv => by
    refine pass_reach A (f := pass1 f a) (fun b hb => hA b (List.mem_cons_of_mem _ hb)) (fun w hw => ?_) v hv
    unfold pass1 at hw
    split at hw
    · rename_i q
      rcases List.mem_append.mp hw with z | z
      · exact h w z
      · rw [List.mem_singleton.mp z]
        exact .step (h _ q.1) (hA a List.mem_cons_self) rfl
    · exact h w hw
theorem pass_same {B : List (Arc α)} {f : List α} (c : Closed B f) : ∀ (A : List (Arc α)), (∀ a ∈ A, a ∈ B) → pass A f = f
  | [], _ => rfl
  | a :: A, hA => by
    show pass A (pass1 f a) = f
    have e : pass1 f a = f := by
      unfold pass1
      rw [if_neg]
      exact fun q => q.2 (c a (hA a List.mem_cons_self) q.1)
    rw [e]
    exact pass_same c A fun b hb => hA b (List.mem_cons_of_mem _ hb)
theorem passes_start (A : List (Arc α)) (s : α) : ∀ k, s ∈ passes A s k
  | 0 => by simp [passes]
  | k + 1 => pass_sub A (passes_start A s k)
theorem passes_reach (A : List (Arc α)) (s : α) : ∀ k, ∀ v ∈ passes A s k, Reach A s v
  | 0, v, hv => by
    have e : v = s := by simpa [passes] using hv
    rw [e]
    exact .here
  | k + 1, v, hv => pass_reach A (fun _ h => h) (passes_reach A s k) v hv
theorem filter_le {β : Type} {p q : β → Bool} : ∀ {l : List β}, (∀ a ∈ l, p a = true → q a = true) → (l.filter p).length ≤ (l.filter q).length
  | [], _ => Nat.le_refl _
  | a :: l, h => by
    have ih := filter_le (p := p) (q := q) (l := l) fun b hb => h b (List.mem_cons_of_mem _ hb)
    rw [List.filter_cons, List.filter_cons]
    cases hp : p a with
    | true =>
      rw [h a List.mem_cons_self hp]
      simpa using ih
    | false =>
      cases q a with
      | true => simp; omega
      | false => simpa using ih
theorem filter_lt {β : Type} {p q : β → Bool} : ∀ {l : List β}, (∀ a ∈ l, p a = true → q a = true) → (∃ a ∈ l, p a = false ∧ q a = true) → (l.filter p).length < (l.filter q).length
  | [], _, ⟨a, h, _⟩ => absurd h (by simp)
  | a :: l, h, ⟨b, hb, e1, e2⟩ => by
    have hl := filter_le (p := p) (q := q) (l := l) fun b hb => h b (List.mem_cons_of_mem _ hb)
    rw [List.filter_cons, List.filter_cons]
    rcases List.mem_cons.mp hb with rfl | hb
    · rw [e1, e2]
      simp
      omega
    · have ih := filter_lt (p := p) (q := q) (l := l) (fun b hb => h b (List.mem_cons_of_mem _ hb)) ⟨b, hb, e1, e2⟩
      cases hp : p a with
      | true =>
        rw [h a List.mem_cons_self hp]
        simpa using ih
      | false =>
        cases q a with
        | true => simp; omega
        | false => simpa using ih
def got (A : List (Arc α)) (f : List α) : Nat := (A.filter fun a => decide (a.2.2 ∈ f)).length
theorem passes_grow (A : List (Arc α)) (s : α) : ∀ k, Closed A (passes A s k) ∨ k ≤ got A (passes A s k)
  | 0 => .inr (Nat.zero_le _)
  | k + 1 => by
    by_cases c : Closed A (passes A s k)
    · left
      show Closed A (pass A (passes A s k))
      rw [pass_same c A fun _ h => h]
      exact c
    · right
      have ih : k ≤ got A (passes A s k) := (passes_grow A s k).resolve_left c
      have hx : ∃ a ∈ A, a.2.1 ∈ passes A s k ∧ a.2.2 ∉ passes A s k := Classical.byContradiction fun n => c fun a ha h => Classical.byContradiction fun m => n ⟨a, ha, h, m⟩
      obtain ⟨a, ha, h1, h2⟩ := hx
      have h3 : a.2.2 ∈ passes A s (k + 1) := pass_gets A ha h1
      have lt : got A (passes A s k) < got A (passes A s (k + 1)) := filter_lt (fun b _ hb => by
        have hb' : b.2.2 ∈ passes A s k := by simpa using hb
        have : b.2.2 ∈ passes A s (k + 1) := pass_sub A hb'
        simpa using this) ⟨a, ha, by simpa using h2, by simpa using h3⟩
      omega
theorem leads_closed (A : List (Arc α)) (s : α) : Closed A (leads A s) := by
  rcases passes_grow A s A.length with h | h
  · exact h
  · intro a ha _
    unfold got at h
    have e : (A.filter fun a => decide (a.2.2 ∈ passes A s A.length)).length = A.length := Nat.le_antisymm (List.length_filter_le _ _) h
    have q := List.length_filter_eq_length_iff.mp e a ha
    exact of_decide_eq_true q
theorem mem_leads {A : List (Arc α)} {s v : α} : v ∈ leads A s ↔ Reach A s v :=
  ⟨passes_reach A s A.length v, fun h => h.mem (passes_start A s A.length) (leads_closed A s)⟩
/-- an arc is live -/
def liveB (A : List (Arc α)) (a : Arc α) : Bool := decide (a.2.1 ∈ leads A a.2.2)
theorem live_iff {A : List (Arc α)} {a : Arc α} : liveB A a = true ↔ Reach A a.2.2 a.2.1 := by
  unfold liveB
  rw [decide_eq_true_iff]
  exact mem_leads
/-- a dead arc is 0 in each world -/
theorem NetW.dead {A : List (Arc α)} {x : α → Int} (w : NetW A x) {a : Arc α} (ha : a ∈ A) (hd : liveB A a = false) : x a.1 = 0 := by
  have hS : ((nodesOf A).filter fun v => decide (v ∈ leads A a.2.2)).Nodup := (nodup_nodes A).filter _
  have hm : ∀ v, v ∈ nodesOf A → (v ∈ (nodesOf A).filter (fun v => decide (v ∈ leads A a.2.2)) ↔ v ∈ leads A a.2.2) := fun v hv => by
    rw [List.mem_filter, decide_eq_true_iff]
    exact ⟨fun q => q.2, fun q => ⟨hv, q⟩⟩
  have nS : ∀ b ∈ A, b.2.1 ∈ nodesOf A := fun b hb => mem_nodes.mpr ⟨b, hb, .inl rfl⟩
  have nE : ∀ b ∈ A, b.2.2 ∈ nodesOf A := fun b hb => mem_nodes.mpr ⟨b, hb, .inr rfl⟩
  generalize (nodesOf A).filter (fun v => decide (v ∈ leads A a.2.2)) = S at hS hm
  have h0 := bal_side A x hS fun v _ => w.even v
  have hp : ∀ b ∈ A, 0 ≤ x b.1 * into S b := fun b hb => by
    refine Int.mul_nonneg (w.pos b hb) ?_
    unfold into
    by_cases q : b.2.1 ∈ S
    · rw [bi_t q, bi_t ((hm _ (nE b hb)).mpr (leads_closed A _ b hb ((hm _ (nS b hb)).mp q)))]
      omega
    · rw [bi_f q]
      unfold bi
      split <;> omega
  have h1 := sumA_all0 hp h0 a ha
  have e1 : a.2.2 ∈ S := (hm _ (nE a ha)).mpr (mem_leads.mpr .here)
  have e2 : a.2.1 ∉ S := fun q => by
    have : liveB A a = true := by
      unfold liveB
      rw [decide_eq_true_iff]
      exact (hm _ (nS a ha)).mp q
    rw [hd] at this
    cases this
  unfold into at h1
  rw [bi_t e1, bi_f e2] at h1
  omega
end
end K25

namespace K25
section
variable {α : Type} [DecidableEq α]

/-! ### the law's rows -/
def rowE (A : List (Arc α)) (n : α) : List Int := A.map fun a => bi (a.1 = n)
def rowB (A : List (Arc α)) (v : α) : List Int := A.map (wt v)
/-- known, or dead -/
def still (A : List (Arc α)) (K : List α) (a : Arc α) : Bool := decide (a.1 ∈ K) || !liveB A a
def rows (A : List (Arc α)) (K : List α) : List (List Int) := (A.filter (still A K)).map (fun a => rowE A a.1) ++ (nodesOf A).map (rowB A)
def due (A : List (Arc α)) (K : List α) (n : α) : Bool := decide ((rrun (rows A K) A.length).2 = (rrun (rows A K ++ [rowE A n]) A.length).2)
theorem rows_len {A : List (Arc α)} {K : List α} : ∀ r ∈ rows A K, r.length = A.length := fun r hr => by
  unfold rows at hr
  rcases List.mem_append.mp hr with q | q
  · obtain ⟨a, _, rfl⟩ := List.mem_map.mp q
    exact List.length_map _
  · obtain ⟨a, _, rfl⟩ := List.mem_map.mp q
    exact List.length_map _
theorem dot_rowE {A : List (Arc α)} (h : Names A) {a : Arc α} (ha : a ∈ A) (y : α → Int) : dot (A.map fun b => y b.1) (rowE A a.1) = y a.1 := by
  unfold rowE
  rw [dot_sumA]
  refine Eq.trans (sumA_ext fun b _ => Int.mul_comm _ _) ?_
  exact sumA_unit h ha fun b => y b.1
theorem dot_rowB (A : List (Arc α)) (v : α) (y : α → Int) : dot (A.map fun b => y b.1) (rowB A v) = bal A y v := by
  unfold rowB
  rw [dot_sumA]
  rfl
/-- a flow that is 0 on known and dead arcs is 0 on what is told -/
theorem due_flow {A : List (Arc α)} {K : List α} (h : Names A) {a : Arc α} (ha : a ∈ A) (hd : due A K a.1 = true) {y : α → Int} (hb : ∀ v, bal A y v = 0) (hs : ∀ b ∈ A, still A K b = true → y b.1 = 0) : y a.1 = 0 := by
  refine Classical.byContradiction fun hy => ?_
  unfold due at hd
  have e := of_decide_eq_true hd
  refine rank_apart (rows := rows A K) (x := A.map fun b => y b.1) (v := rowE A a.1) rows_len (List.length_map _) (fun r hr => ?_) ?_ e.symm
  · unfold rows at hr
    rcases List.mem_append.mp hr with q | q
    · obtain ⟨b, hb', rfl⟩ := List.mem_map.mp q
      obtain ⟨h1, h2⟩ := List.mem_filter.mp hb'
      rw [dot_rowE h h1]
      exact hs b h1 h2
    · obtain ⟨v, _, rfl⟩ := List.mem_map.mp q
      rw [dot_rowB]
      exact hb v
  · rw [dot_rowE h ha]
    exact hy
/-- no two worlds show the contrary -/
theorem due_worlds {A : List (Arc α)} {K : List α} (h : Names A) {a : Arc α} (ha : a ∈ A) (hd : due A K a.1 = true) {x y : α → Int} (hx : NetW A x) (hy : NetW A y) (hk : ∀ n ∈ K, x n = y n) : x a.1 = y a.1 := by
  have z := due_flow h ha hd (y := fun n => x n - y n) (fun v => by rw [bal_sub, hx.even, hy.even]; rfl) fun b hb hs => by
    unfold still at hs
    rcases Bool.or_eq_true_iff.mp hs with q | q
    · have := hk b.1 (of_decide_eq_true q)
      show x b.1 - y b.1 = 0
      omega
    · have q' : liveB A b = false := by simpa using q
      show x b.1 - y b.1 = 0
      rw [hx.dead hb q', hy.dead hb q']
      rfl
  omega

/-! ### sums of rows -/
def atA (A : List (Arc α)) (f : Arc α → Int) (j : Nat) : Int := at0 (A.map f) j
theorem Span.plus {R : List (List Int)} {u v : Nat → Int} (hu : Span R u) (hv : Span R v) : Span R fun j => u j + v j := by
  induction hv with
  | zero =>
    have e : (fun j => u j + 0) = u := by funext j; omega
    rw [e]
    exact hu
  | @add k r v hr _ ih =>
    have e : (fun j => u j + (v j + k * at0 r j)) = fun j => (u j + v j) + k * at0 r j := by funext j; omega
    rw [e]
    exact .add k hr ih
theorem Span.times {R : List (List Int)} {v : Nat → Int} (c : Int) (hv : Span R v) : Span R fun j => c * v j := by
  induction hv with
  | zero =>
    have e : (fun _ : Nat => c * 0) = fun _ => (0 : Int) := by funext j; omega
    rw [e]
    exact .zero
  | @add k r v hr _ ih =>
    have e : (fun j => c * (v j + k * at0 r j)) = fun j => c * v j + (c * k) * at0 r j := by funext j; grind
    rw [e]
    exact .add (c * k) hr ih
theorem Span.row {R : List (List Int)} {r : List Int} (hr : r ∈ R) : Span R (at0 r) := by
  have e : at0 r = fun j => 0 + 1 * at0 r j := by funext j; omega
  rw [e]
  exact .add 1 hr .zero
theorem atA_get (A : List (Arc α)) (f : Arc α → Int) (j : Nat) : atA A f j = match A[j]? with
  | some a => f a
  | none => 0 := by
  unfold atA at0
  rw [List.getD_eq_getElem?_getD, List.getElem?_map]
  cases A[j]? <;> rfl
theorem atA_ext {A : List (Arc α)} {f g : Arc α → Int} (h : ∀ a ∈ A, f a = g a) : atA A f = atA A g := by
  funext j
  rw [atA_get, atA_get]
  cases e : A[j]? with
  | none => rfl
  | some a => exact h a (List.mem_of_getElem? e)
theorem atA_add (A : List (Arc α)) (f g : Arc α → Int) : (fun j => atA A f j + atA A g j) = atA A fun a => f a + g a := by
  funext j
  rw [atA_get, atA_get, atA_get]
  cases A[j]? <;> rfl
theorem atA_mul (A : List (Arc α)) (c : Int) (f : Arc α → Int) : (fun j => c * atA A f j) = atA A fun a => c * f a := by
  funext j
  rw [atA_get, atA_get]
  cases A[j]? with
  | none => exact Int.mul_zero c
  | some a => rfl
theorem atA_zero (A : List (Arc α)) : atA A (fun _ => 0) = fun _ => 0 := by
  funext j
  rw [atA_get]
  cases A[j]? <;> rfl
theorem span_side {A : List (Arc α)} {K : List α} : ∀ {S : List α}, S.Nodup → (∀ v ∈ S, v ∈ nodesOf A) → Span (rows A K) (atA A (into S))
  | [], _, _ => by
    have e : atA A (into ([] : List α)) = fun _ => 0 := by
      rw [← atA_zero A]
      exact atA_ext fun a _ => into_nil a
    rw [e]
    exact .zero
  | v :: S, hn, h => by
    rw [List.nodup_cons] at hn
    have ih := span_side (A := A) (K := K) hn.2 fun w hw => h w (List.mem_cons_of_mem _ hw)
    have h1 : Span (rows A K) (atA A (wt v)) := Span.row (r := rowB A v) (List.mem_append_right _ (List.mem_map.mpr ⟨v, h v List.mem_cons_self, rfl⟩))
    have h2 := h1.plus ih
    rw [atA_add] at h2
    have e : atA A (into (v :: S)) = atA A fun a => wt v a + into S a := atA_ext fun a _ => into_cons hn.1 a
    rw [e]
    exact h2
/-- known and dead places may be struck out -/
theorem span_clear {A : List (Arc α)} {K : List α} (h : Names A) {f : Arc α → Int} (hf : Span (rows A K) (atA A f)) : ∀ L : List (Arc α), (∀ b ∈ L, b ∈ A ∧ still A K b = true) → Span (rows A K) (atA A fun a => if a ∈ L then 0 else f a)
  | [], _ => by
    have e : atA A (fun a => if a ∈ ([] : List (Arc α)) then 0 else f a) = atA A f := atA_ext fun a _ => if_neg (by simp)
    rw [e]
    exact hf
  | b :: L, hL => by
    have ih := span_clear h hf L fun c hc => hL c (List.mem_cons_of_mem _ hc)
    obtain ⟨hb, hs⟩ := hL b List.mem_cons_self
    have h1 : Span (rows A K) (atA A fun a => bi (a.1 = b.1)) := Span.row (r := rowE A b.1) (List.mem_append_left _ (List.mem_map.mpr ⟨b, List.mem_filter.mpr ⟨hb, hs⟩, rfl⟩))
    have h1' := h1.times (-(if b ∈ L then 0 else f b))
    rw [atA_mul] at h1'
    have h2 := ih.plus h1'
    rw [atA_add] at h2
    have e : atA A (fun a => if a ∈ b :: L then 0 else f a) = atA A fun a => (if a ∈ L then 0 else f a) + -(if b ∈ L then 0 else f b) * bi (a.1 = b.1) := atA_ext fun a ha => by
      by_cases q : a = b
      · subst q
        rw [if_pos List.mem_cons_self, bi_t rfl]
        omega
      · rw [bi_f fun z => q (h.eq ha hb z)]
        by_cases r : a ∈ L
        · rw [if_pos r, if_pos (List.mem_cons_of_mem _ r)]
          omega
        · rw [if_neg r, if_neg fun z => (List.mem_cons.mp z).elim q r]
          omega
    rw [e]
    exact h2
theorem due_of_span {A : List (Arc α)} {K : List α} {n : α} (h : Span (rows A K) (atA A fun a => bi (a.1 = n))) : due A K n = true := by
  unfold due
  exact decide_eq_true (rank_span (rows := rows A K) (v := rowE A n) rows_len (List.length_map _) h A.length).symm
theorem due_still {A : List (Arc α)} {K : List α} {a : Arc α} (ha : a ∈ A) (hs : still A K a = true) : due A K a.1 = true :=
  due_of_span (Span.row (r := rowE A a.1) (List.mem_append_left _ (List.mem_map.mpr ⟨a, List.mem_filter.mpr ⟨ha, hs⟩, rfl⟩)))
/-- a side that the asked arc crosses, and no other one that is open -/
theorem due_side {A : List (Arc α)} {K : List α} (h : Names A) {a : Arc α} (ha : a ∈ A) {S : List α} (hS : S.Nodup) (hn : ∀ v ∈ S, v ∈ nodesOf A) (hc : into S a = 1 ∨ into S a = -1) (hl : still A K a = false)
    (ho : ∀ b ∈ A, still A K b = false → b ≠ a → into S b = 0) : due A K a.1 = true := by
  have h1 := span_clear (K := K) h (span_side (A := A) (K := K) hS hn) (A.filter (still A K)) fun b hb => List.mem_filter.mp hb
  refine due_of_span ?_
  have h2 := h1.times (into S a)
  rw [atA_mul] at h2
  have e : atA A (fun b => bi (b.1 = a.1)) = atA A fun b => into S a * (if b ∈ A.filter (still A K) then 0 else into S b) := atA_ext fun b hb => by
    by_cases q : b = a
    · subst q
      rw [bi_t rfl, if_neg fun z => by rw [(List.mem_filter.mp z).2] at hl; cases hl]
      rcases hc with z | z <;> rw [z] <;> rfl
    · rw [bi_f fun z => q (h.eq hb ha z)]
      cases hs : still A K b with
      | true => rw [if_pos (List.mem_filter.mpr ⟨hb, hs⟩)]; omega
      | false => rw [if_neg (fun z => by rw [(List.mem_filter.mp z).2] at hs; cases hs), ho b hb hs q]; omega
  rw [e]
  exact h2
end
end K25

namespace K25
section
variable {α β : Type} [DecidableEq α]

/-! ### a walk over moves (from, to, what is gone), nearest first -/
abbrev Mv (α β : Type) := α × α × β
abbrev Came (α β : Type) := List (α × List β)
def lk (c : Came α β) (v : α) : Option (List β) := (c.find? fun kv => decide (kv.1 = v)).map (·.2)
def ks (c : Came α β) : List α := c.map (·.1)
theorem lk_none {c : Came α β} {v : α} : lk c v = none ↔ v ∉ ks c := by
  unfold lk ks
  rw [Option.map_eq_none_iff, List.find?_eq_none]
  constructor
  · intro h m
    obtain ⟨p, hp, e⟩ := List.mem_map.mp m
    exact h p hp (decide_eq_true e)
  · intro h p hp e
    exact h (List.mem_map.mpr ⟨p, hp, of_decide_eq_true e⟩)
theorem lk_mem {c : Came α β} {v : α} {p : List β} (h : lk c v = some p) : (v, p) ∈ c := by
  unfold lk at h
  obtain ⟨⟨w, q⟩, h1, h2⟩ := Option.map_eq_some_iff.mp h
  have e : w = v := by
    have := List.find?_some h1
    exact of_decide_eq_true this
  have e2 : q = p := h2
  rw [← e, ← e2]
  exact List.mem_of_find?_eq_some h1
theorem ks_of_mem {c : Came α β} {v : α} {p : List β} (h : (v, p) ∈ c) : v ∈ ks c := List.mem_map.mpr ⟨(v, p), h, rfl⟩
theorem lk_some {c : Came α β} {v : α} (h : v ∈ ks c) : ∃ p, lk c v = some p ∧ (v, p) ∈ c := by
  cases e : lk c v with
  | none => exact absurd h (lk_none.mp e)
  | some p => exact ⟨p, rfl, lk_mem e⟩
theorem ks_snoc (c : Came α β) (v : α) (p : List β) : ks (c ++ [(v, p)]) = ks c ++ [v] := by
  unfold ks
  rw [List.map_append]
  rfl
/-- one move from a node -/
def mv1 (node : α) (s : Came α β × List α) (m : Mv α β) : Came α β × List α :=
  if m.1 = node ∧ m.2.1 ∉ ks s.1 then (s.1 ++ [(m.2.1, (lk s.1 node).getD [] ++ [m.2.2])], s.2 ++ [m.2.1]) else s
def bstep (M : List (Mv α β)) (s : Came α β × List α) : Came α β × List α :=
  match s.2 with
  | [] => s
  | node :: rest => M.foldl (mv1 node) (s.1, rest)
def bsteps (M : List (Mv α β)) (s : α) : Nat → Came α β × List α
  | 0 => ([(s, [])], [s])
  | k + 1 => bstep M (bsteps M s k)
/-- what the walk ends with -/
def Done (M : List (Mv α β)) (s : α) (c : Came α β) : Prop := ∃ k, bsteps M s k = (c, [])
theorem bsteps_stay {M : List (Mv α β)} {s : α} {c : Came α β} {k : Nat} (h : bsteps M s k = (c, [])) : ∀ j, bsteps M s (k + j) = (c, [])
  | 0 => h
  | j + 1 => by
    show bstep M (bsteps M s (k + j)) = _
    rw [bsteps_stay h j]
    rfl
theorem Done.uniq {M : List (Mv α β)} {s : α} {c c' : Came α β} (h : Done M s c) (h' : Done M s c') : c = c' := by
  obtain ⟨k, e⟩ := h
  obtain ⟨k', e'⟩ := h'
  rcases Nat.le_total k k' with q | q
  · have z := bsteps_stay e (k' - k)
    rw [show k + (k' - k) = k' by omega, e'] at z
    exact (congrArg Prod.fst z).symm
  · have z := bsteps_stay e' (k - k')
    rw [show k' + (k - k') = k by omega, e] at z
    exact congrArg Prod.fst z

/-- a path of moves -/
inductive MPath (M : List (Mv α β)) (s : α) : α → List β → Prop where
  | here : MPath M s s []
  | step {u : α} {p : List β} {m : Mv α β} : MPath M s u p → m ∈ M → m.1 = u → MPath M s m.2.1 (p ++ [m.2.2])
structure BInv (M : List (Mv α β)) (s : α) (c : Came α β) (w : List α) : Prop where
  nd : (ks c).Nodup
  start : s ∈ ks c
  path : ∀ v p, (v, p) ∈ c → MPath M s v p
  wsub : ∀ v ∈ w, v ∈ ks c
  closed : ∀ v ∈ ks c, v ∉ w → ∀ m ∈ M, m.1 = v → m.2.1 ∈ ks c
  len : ∀ v p, (v, p) ∈ c → p.length + 1 ≤ c.length
/-- within a node's moves, those of L done -/
structure BMid (M : List (Mv α β)) (s node : α) (L : List (Mv α β)) (c : Came α β) (w : List α) : Prop where
  nd : (ks c).Nodup
  start : s ∈ ks c
  path : ∀ v p, (v, p) ∈ c → MPath M s v p
  wsub : ∀ v ∈ w, v ∈ ks c
  at_ : node ∈ ks c
  closed : ∀ v ∈ ks c, v ∉ w → v ≠ node → ∀ m ∈ M, m.1 = v → m.2.1 ∈ ks c
  did : ∀ m ∈ L, m.1 = node → m.2.1 ∈ ks c
  len : ∀ v p, (v, p) ∈ c → p.length + 1 ≤ c.length
theorem BMid.one {M : List (Mv α β)} {s node : α} {L : List (Mv α β)} {c : Came α β} {w : List α} (h : BMid M s node L c w) {m : Mv α β} (hm : m ∈ M) :
    BMid M s node (L ++ [m]) (mv1 node (c, w) m).1 (mv1 node (c, w) m).2 := by
  unfold mv1
  by_cases q : m.1 = node ∧ m.2.1 ∉ ks c
  · rw [if_pos q]
    obtain ⟨p, e, hp⟩ := lk_some h.at_
    dsimp only
    rw [e]
    refine ⟨?_, ?_, fun v r hr => ?_, fun v hv => ?_, ?_, fun v hv hw hn m' hm' e' => ?_, fun m' hm' e' => ?_, fun v r hr => ?_⟩
    · rw [ks_snoc]
      exact nodup_snoc h.nd q.2
    · rw [ks_snoc]
      exact List.mem_append_left _ h.start
    · rcases List.mem_append.mp hr with z | z
      · exact h.path v r z
      · have z' := List.mem_singleton.mp z
        injection z' with z1 z2
        rw [z1, z2]
        exact .step (h.path _ _ hp) hm q.1
    · rw [ks_snoc]
      rcases List.mem_append.mp hv with z | z
      · exact List.mem_append_left _ (h.wsub v z)
      · exact List.mem_append_right _ z
    · rw [ks_snoc]
      exact List.mem_append_left _ h.at_
    · rw [ks_snoc] at hv ⊢
      rcases List.mem_append.mp hv with z | z
      · exact List.mem_append_left _ (h.closed v z (fun y => hw (List.mem_append_left _ y)) hn m' hm' e')
      · exact absurd (List.mem_append_right _ z) hw
    · rw [ks_snoc]
      rcases List.mem_append.mp hm' with z | z
      · exact List.mem_append_left _ (h.did m' z e')
      · rw [List.mem_singleton.mp z]
        exact List.mem_append_right _ (by simp)
    · rw [List.length_append]
      rcases List.mem_append.mp hr with z | z
      · have := h.len v r z
        omega
      · have z' := List.mem_singleton.mp z
        injection z' with z1 z2
        rw [z2]
        have := h.len _ _ hp
        simp
        omega
  · rw [if_neg q]
    refine ⟨h.nd, h.start, h.path, h.wsub, h.at_, h.closed, fun m' hm' e' => ?_, h.len⟩
    rcases List.mem_append.mp hm' with z | z
    · exact h.did m' z e'
    · have z' := List.mem_singleton.mp z
      subst z'
      exact Classical.byContradiction fun n => q ⟨e', n⟩
theorem BInv.pop {M : List (Mv α β)} {s node : α} {c : Came α β} {w : List α} (h : BInv M s c (node :: w)) : BMid M s node [] c w :=
  ⟨h.nd, h.start, h.path, fun v hv => h.wsub v (List.mem_cons_of_mem _ hv), h.wsub node List.mem_cons_self,
    fun v hv hw hn m hm e => h.closed v hv (fun z => (List.mem_cons.mp z).elim hn hw) m hm e, fun _ h => absurd h (by simp), h.len⟩
theorem BMid.fin {M : List (Mv α β)} {s node : α} {c : Came α β} {w : List α} (h : BMid M s node M c w) : BInv M s c w :=
  ⟨h.nd, h.start, h.path, h.wsub, fun v hv hw m hm e => by
    by_cases q : v = node
    · exact h.did m hm (e.trans q)
    · exact h.closed v hv hw q m hm e, h.len⟩
theorem BMid.all {M : List (Mv α β)} {s node : α} : ∀ {L L' : List (Mv α β)} {c : Came α β} {w : List α}, BMid M s node L c w → (∀ m ∈ L', m ∈ M) → BMid M s node (L ++ L') (L'.foldl (mv1 node) (c, w)).1 (L'.foldl (mv1 node) (c, w)).2
  | L, [], c, w, h, _ => by
    rw [List.append_nil]
    exact h
  | L, m :: L', c, w, h, hM => by
    have h1 := h.one (hM m List.mem_cons_self)
    have h2 := BMid.all (L' := L') h1 fun x hx => hM x (List.mem_cons_of_mem _ hx)
    rw [List.append_assoc] at h2
    exact h2
theorem BInv.first (M : List (Mv α β)) (s : α) : BInv M s [(s, [])] [s] :=
  ⟨by simp [ks], by simp [ks], fun v p h => by
    have z := List.mem_singleton.mp h
    injection z with z1 z2
    rw [z1, z2]
    exact .here, fun v h => by simpa [ks] using h, fun v hv hw => absurd (by simpa [ks] using hv) hw, fun v p h => by
    have z := List.mem_singleton.mp h
    injection z with z1 z2
    rw [z2]
    simp⟩
theorem BInv.step {M : List (Mv α β)} {s : α} {c : Came α β} {w : List α} (h : BInv M s c w) : BInv M s (bstep M (c, w)).1 (bstep M (c, w)).2 := by
  cases w with
  | nil => exact h
  | cons node w =>
    have q := (h.pop).all (L' := M) fun _ z => z
    rw [List.nil_append] at q
    exact q.fin
theorem binv (M : List (Mv α β)) (s : α) : ∀ k, BInv M s (bsteps M s k).1 (bsteps M s k).2
  | 0 => BInv.first M s
  | k + 1 => (binv M s k).step
theorem Done.inv {M : List (Mv α β)} {s : α} {c : Came α β} (h : Done M s c) : BInv M s c [] := by
  obtain ⟨k, e⟩ := h
  have q := binv M s k
  rw [e] at q
  exact q
theorem MPath.mem {M : List (Mv α β)} {s v : α} {p : List β} (h : MPath M s v p) {f : List α} (hs : s ∈ f) (c : ∀ u ∈ f, ∀ m ∈ M, m.1 = u → m.2.1 ∈ f) : v ∈ f := by
  induction h with
  | here => exact hs
  | step _ hm e ih => exact c _ ih _ hm e
/-- the walk ends with just the nodes that paths lead to -/
theorem Done.mem {M : List (Mv α β)} {s v : α} {c : Came α β} (h : Done M s c) : v ∈ ks c ↔ ∃ p, MPath M s v p := by
  constructor
  · intro hv
    obtain ⟨p, _, hp⟩ := lk_some hv
    exact ⟨p, h.inv.path v p hp⟩
  · rintro ⟨p, hp⟩
    exact hp.mem h.inv.start fun u hu m hm e => h.inv.closed u hu (by simp) m hm e
/-- it ends -/
def mu (U : List α) (c : Came α β) (w : List α) : Nat := (U.filter fun v => decide (v ∉ ks c)).length + w.length
theorem mu_mv1 {U : List α} {node : α} {s : Came α β × List α} {m : Mv α β} (hU : m.2.1 ∈ U) : mu U (mv1 node s m).1 (mv1 node s m).2 ≤ mu U s.1 s.2 := by
  unfold mv1
  by_cases q : m.1 = node ∧ m.2.1 ∉ ks s.1
  · rw [if_pos q]
    unfold mu
    dsimp only
    rw [List.length_append]
    have lt : (U.filter fun v => decide (v ∉ ks (s.1 ++ [(m.2.1, (lk s.1 node).getD [] ++ [m.2.2])]))).length < (U.filter fun v => decide (v ∉ ks s.1)).length := by
      refine filter_lt (fun v _ hv => ?_) ⟨m.2.1, hU, ?_, ?_⟩
      · have hv' := of_decide_eq_true hv
        rw [ks_snoc] at hv'
        exact decide_eq_true fun z => hv' (List.mem_append_left _ z)
      · refine decide_eq_false fun z => z ?_
        rw [ks_snoc]
        exact List.mem_append_right _ (by simp)
      · exact decide_eq_true q.2
    simp only [List.length_singleton]
    omega
  · rw [if_neg q]
    exact Nat.le_refl _
theorem mu_fold {U : List α} {node : α} : ∀ {L : List (Mv α β)} {s : Came α β × List α}, (∀ m ∈ L, m.2.1 ∈ U) → mu U (L.foldl (mv1 node) s).1 (L.foldl (mv1 node) s).2 ≤ mu U s.1 s.2
  | [], _, _ => Nat.le_refl _
  | m :: L, s, h => Nat.le_trans (mu_fold (s := mv1 node s m) fun x hx => h x (List.mem_cons_of_mem _ hx)) (mu_mv1 (h m List.mem_cons_self))
theorem mu_step {M : List (Mv α β)} {c : Came α β} {node : α} {w : List α} : mu (M.map (·.2.1)) (bstep M (c, node :: w)).1 (bstep M (c, node :: w)).2 < mu (M.map (·.2.1)) c (node :: w) := by
  have h := mu_fold (U := M.map (·.2.1)) (node := node) (L := M) (s := (c, w)) fun m hm => List.mem_map.mpr ⟨m, hm, rfl⟩
  have e : mu (M.map (·.2.1)) c (node :: w) = mu (M.map (·.2.1)) c w + 1 := by
    unfold mu
    rw [List.length_cons]
    omega
  rw [e]
  exact Nat.lt_succ_of_le h
/-- its size -/
theorem ks_sub {M : List (Mv α β)} {s v : α} {p : List β} (h : MPath M s v p) : v ∈ s :: M.map (·.2.1) := by
  cases h with
  | here => exact List.mem_cons_self
  | step _ hm _ => exact List.mem_cons_of_mem _ (List.mem_map.mpr ⟨_, hm, rfl⟩)
theorem came_size {M : List (Mv α β)} {s : α} {c : Came α β} (nd : (ks c).Nodup) (path : ∀ v p, (v, p) ∈ c → MPath M s v p) : c.length ≤ M.length + 1 := by
  have h := nd.length_le_of_subset (l₂ := s :: M.map (·.2.1)) fun v hv => by
    obtain ⟨p, _, hp⟩ := lk_some hv
    exact ks_sub (path v p hp)
  unfold ks at h
  rw [List.length_map, List.length_cons, List.length_map] at h
  exact h
theorem BMid.size {M : List (Mv α β)} {s node : α} {L : List (Mv α β)} {c : Came α β} {w : List α} (h : BMid M s node L c w) : c.length ≤ M.length + 1 := came_size h.nd h.path
theorem BInv.size {M : List (Mv α β)} {s : α} {c : Came α β} {w : List α} (h : BInv M s c w) : c.length ≤ M.length + 1 := came_size h.nd h.path

/-! ### the names gone, each once -/
/-- every move's name, and the ends it joins -/
structure NmOk {γ : Type} (M : List (Mv α β)) (nm : β → γ) : Prop where
  same : ∀ m ∈ M, ∀ m' ∈ M, nm m.2.2 = nm m'.2.2 → (m'.1 = m.1 ∧ m'.2.1 = m.2.1) ∨ (m'.1 = m.2.1 ∧ m'.2.1 = m.1)
def NmIn {γ : Type} (M : List (Mv α β)) (nm : β → γ) (c : Came α β) : Prop := ∀ v p, (v, p) ∈ c → (p.map nm).Nodup ∧ ∀ l ∈ p, ∃ m ∈ M, m.2.2 = l ∧ m.1 ∈ ks c ∧ m.2.1 ∈ ks c
theorem NmIn.one {γ : Type} [DecidableEq γ] {M : List (Mv α β)} {nm : β → γ} (ok : NmOk M nm) {s node : α} {L : List (Mv α β)} {c : Came α β} {w : List α} (h : BMid M s node L c w) (i : NmIn M nm c) {m : Mv α β} (hm : m ∈ M) : NmIn M nm (mv1 node (c, w) m).1 := by
  unfold mv1
  by_cases q : m.1 = node ∧ m.2.1 ∉ ks c
  · rw [if_pos q]
    obtain ⟨p, e, hp⟩ := lk_some h.at_
    dsimp only
    rw [e]
    intro v r hr
    have grow : ∀ x, x ∈ ks c → x ∈ ks (c ++ [(m.2.1, (some p).getD [] ++ [m.2.2])]) := fun x hx => by
      rw [ks_snoc]
      exact List.mem_append_left _ hx
    rcases List.mem_append.mp hr with z | z
    · obtain ⟨h1, h2⟩ := i v r z
      refine ⟨h1, fun l hl => ?_⟩
      obtain ⟨m', a, b, c1, c2⟩ := h2 l hl
      exact ⟨m', a, b, grow _ c1, grow _ c2⟩
    · have z' := List.mem_singleton.mp z
      injection z' with z1 z2
      subst z2
      obtain ⟨h1, h2⟩ := i node p hp
      show ((p ++ [m.2.2]).map nm).Nodup ∧ ∀ l ∈ p ++ [m.2.2], _
      rw [List.map_append]
      refine ⟨nodup_snoc h1 fun hx => ?_, fun l hl => ?_⟩
      · obtain ⟨l, hl, en⟩ := List.mem_map.mp hx
        obtain ⟨m', a, b, c1, c2⟩ := h2 l hl
        rw [← b] at en
        rcases ok.same m' a m hm en with ⟨_, y⟩ | ⟨_, y⟩
        · exact q.2 (by rw [y]; exact c2)
        · exact q.2 (by rw [y]; exact c1)
      · rcases List.mem_append.mp hl with y | y
        · obtain ⟨m', a, b, c1, c2⟩ := h2 l y
          exact ⟨m', a, b, grow _ c1, grow _ c2⟩
        · refine ⟨m, hm, (List.mem_singleton.mp y).symm, ?_, ?_⟩
          · rw [q.1]
            exact grow _ h.at_
          · rw [ks_snoc]
            exact List.mem_append_right _ (by simp)
  · rw [if_neg q]
    exact i
theorem NmIn.all {γ : Type} [DecidableEq γ] {M : List (Mv α β)} {nm : β → γ} (ok : NmOk M nm) {s node : α} : ∀ {L L' : List (Mv α β)} {c : Came α β} {w : List α}, BMid M s node L c w → NmIn M nm c → (∀ m ∈ L', m ∈ M) → NmIn M nm (L'.foldl (mv1 node) (c, w)).1
  | _, [], _, _, _, i, _ => i
  | L, m :: L', c, w, h, i, hM => NmIn.all ok (L' := L') (h.one (hM m List.mem_cons_self)) (NmIn.one ok h i (hM m List.mem_cons_self)) fun x hx => hM x (List.mem_cons_of_mem _ hx)
theorem nmin {γ : Type} [DecidableEq γ] {M : List (Mv α β)} {nm : β → γ} (ok : NmOk M nm) (s : α) : ∀ k, NmIn M nm (bsteps M s k).1
  | 0 => fun v p h => by
    have z := List.mem_singleton.mp h
    injection z with z1 z2
    rw [z2]
    exact ⟨by simp, fun l hl => absurd hl (by simp)⟩
  | k + 1 => by
    have ih := nmin ok s k
    have b := binv M s k
    show NmIn M nm (bstep M (bsteps M s k)).1
    rcases e : bsteps M s k with ⟨c, w⟩
    rw [e] at ih b
    cases w with
    | nil => exact ih
    | cons node w => exact NmIn.all ok b.pop ih fun _ z => z
theorem Done.names {γ : Type} [DecidableEq γ] {M : List (Mv α β)} {nm : β → γ} (ok : NmOk M nm) {s : α} {c : Came α β} (h : Done M s c) : NmIn M nm c := by
  obtain ⟨k, e⟩ := h
  have q := nmin ok s k
  rw [e] at q
  exact q
end
end K25

namespace K25
section
variable {α : Type} [DecidableEq α]
/-! ### arcs gone from start to end; arcs gone either way -/
def movF (A : List (Arc α)) : List (Mv α α) := A.map fun a => (a.2.1, a.2.2, a.1)
def movS (A : List (Arc α)) : List (Mv α (α × Int)) := A.flatMap fun a => [(a.2.1, a.2.2, (a.1, 1)), (a.2.2, a.2.1, (a.1, -1))]
theorem mem_movF {A : List (Arc α)} {m : Mv α α} : m ∈ movF A ↔ ∃ a ∈ A, m = (a.2.1, a.2.2, a.1) := by
  unfold movF
  rw [List.mem_map]
  constructor
  · rintro ⟨a, h, e⟩
    exact ⟨a, h, e.symm⟩
  · rintro ⟨a, h, e⟩
    exact ⟨a, h, e.symm⟩
theorem mem_movS {A : List (Arc α)} {m : Mv α (α × Int)} : m ∈ movS A ↔ ∃ a ∈ A, m = (a.2.1, a.2.2, (a.1, 1)) ∨ m = (a.2.2, a.2.1, (a.1, -1)) := by
  unfold movS
  rw [List.mem_flatMap]
  constructor
  · rintro ⟨a, h, e⟩
    rcases List.mem_cons.mp e with e | e
    · exact ⟨a, h, .inl e⟩
    · exact ⟨a, h, .inr (List.mem_singleton.mp e)⟩
  · rintro ⟨a, h, e | e⟩
    · exact ⟨a, h, by rw [e]; exact List.mem_cons_self⟩
    · exact ⟨a, h, by rw [e]; exact List.mem_cons_of_mem _ List.mem_cons_self⟩
theorem len_movF (A : List (Arc α)) : (movF A).length = A.length := List.length_map _
theorem len_movS : ∀ A : List (Arc α), (movS A).length = 2 * A.length
  | [] => rfl
  | a :: A => by
    show ([_, _] ++ movS A).length = _
    rw [List.length_append, len_movS A]
    simp
    omega
theorem reach_path {A : List (Arc α)} {s v : α} : Reach A s v ↔ ∃ p, MPath (movF A) s v p := by
  constructor
  · intro h
    induction h with
    | here => exact ⟨[], .here⟩
    | step _ ha e ih =>
      obtain ⟨p, hp⟩ := ih
      exact ⟨_, MPath.step (m := (_, _, _)) hp (mem_movF.mpr ⟨_, ha, rfl⟩) e⟩
  · rintro ⟨p, hp⟩
    induction hp with
    | here => exact .here
    | step _ hm e ih =>
      obtain ⟨a, ha, rfl⟩ := mem_movF.mp hm
      exact .step ih ha e
theorem nmOk_movS {A : List (Arc α)} (h : Names A) : NmOk (movS A) (fun l : α × Int => l.1) := ⟨fun m hm m' hm' e => by
  obtain ⟨a, ha, h1⟩ := mem_movS.mp hm
  obtain ⟨b, hb, h2⟩ := mem_movS.mp hm'
  have en : a.1 = b.1 := by
    rcases h1 with rfl | rfl <;> rcases h2 with rfl | rfl <;> exact e
  have := h.eq ha hb en
  subst this
  rcases h1 with rfl | rfl <;> rcases h2 with rfl | rfl
  · exact .inl ⟨rfl, rfl⟩
  · exact .inr ⟨rfl, rfl⟩
  · exact .inr ⟨rfl, rfl⟩
  · exact .inl ⟨rfl, rfl⟩⟩

/-! ### what is stored step by step -/
def bump (x : α → Int) (l : α × Int) : α → Int := fun n => if n = l.1 then x n + l.2 else x n
def incr (x : α → Int) (n : α) : α → Int := bump x (n, 1)
theorem bump_eq (x : α → Int) (l : α × Int) : bump x l = fun n => x n + l.2 * bi (n = l.1) := by
  funext n
  unfold bump
  by_cases q : n = l.1
  · rw [if_pos q, bi_t q]; omega
  · rw [if_neg q, bi_f q]; omega
theorem bal_bump {A : List (Arc α)} (h : Names A) {a : Arc α} (ha : a ∈ A) (x : α → Int) (s : Int) (v : α) : bal A (bump x (a.1, s)) v = bal A x v + s * wt v a := by
  rw [bump_eq, bal_add]
  have e : bal A (fun n => s * bi (n = a.1)) v = s * bal A (unit a.1) v := by
    unfold bal unit
    have : ∀ L : List (Arc α), sumA L (fun b => s * bi (b.1 = a.1) * wt v b) = s * sumA L fun b => bi (b.1 = a.1) * wt v b := by
      intro L
      induction L with
      | nil => rw [sumA_nil, sumA_nil]; omega
      | cons b L ih => rw [sumA_cons, sumA_cons, ih]; grind
    exact this A
  rw [e, bal_unit h ha]
theorem bal_pathF {A : List (Arc α)} (h : Names A) {s v : α} {p : List α} (hp : MPath (movF A) s v p) (x : α → Int) (w : α) : bal A (p.foldl incr x) w = bal A x w + bi (v = w) - bi (s = w) := by
  induction hp with
  | here => show bal A x w = bal A x w + bi (s = w) - bi (s = w); omega
  | @step u p m _ hm e ih =>
    obtain ⟨a, ha, rfl⟩ := mem_movF.mp hm
    rw [List.foldl_append]
    show bal A (bump (p.foldl incr x) (a.1, 1)) w = _
    rw [bal_bump h ha, ih]
    unfold wt
    dsimp only at e ⊢
    rw [e]
    omega
theorem bal_pathS {A B : List (Arc α)} (h : Names A) (hB : ∀ b ∈ B, b ∈ A) {s v : α} {p : List (α × Int)} (hp : MPath (movS B) s v p) (x : α → Int) (w : α) : bal A (p.foldl bump x) w = bal A x w + bi (v = w) - bi (s = w) := by
  induction hp with
  | here => show bal A x w = bal A x w + bi (s = w) - bi (s = w); omega
  | @step u p m _ hm e ih =>
    obtain ⟨a, ha, hm'⟩ := mem_movS.mp hm
    rw [List.foldl_append]
    show bal A (bump (p.foldl bump x) m.2.2) w = _
    rcases hm' with rfl | rfl
    · rw [bal_bump h (hB a ha), ih]
      unfold wt
      dsimp only at e ⊢
      rw [e]
      omega
    · rw [bal_bump h (hB a ha), ih]
      unfold wt
      dsimp only at e ⊢
      rw [e]
      omega
theorem incr_le (x : α → Int) (n m : α) : x m ≤ incr x n m := by
  unfold incr bump
  split <;> simp <;> omega
theorem incr_at (x : α → Int) (n : α) : incr x n n = x n + 1 := by
  unfold incr bump
  rw [if_pos rfl]
theorem incrs_le (m : α) : ∀ (p : List α) (x : α → Int), x m ≤ p.foldl incr x m
  | [], _ => Int.le_refl _
  | n :: p, x => Int.le_trans (incr_le x n m) (incrs_le m p (incr x n))
theorem bumps_off {n : α} : ∀ (p : List (α × Int)) (x : α → Int), n ∉ p.map (·.1) → p.foldl bump x n = x n
  | [], _, _ => rfl
  | l :: p, x, h => by
    rw [List.map_cons, List.mem_cons, not_or] at h
    rw [List.foldl_cons, bumps_off p _ h.2]
    unfold bump
    rw [if_neg h.1]
theorem bumps_at {n : α} {s : Int} : ∀ (p : List (α × Int)) (x : α → Int), (p.map (·.1)).Nodup → (n, s) ∈ p → p.foldl bump x n = x n + s
  | [], _, _, h => absurd h (by simp)
  | l :: p, x, hn, h => by
    rw [List.map_cons, List.nodup_cons] at hn
    rw [List.foldl_cons]
    rcases List.mem_cons.mp h with e | h
    · subst e
      rw [bumps_off p _ hn.1]
      unfold bump
      rw [if_pos rfl]
    · rw [bumps_at p _ hn.2 h]
      unfold bump
      rw [if_neg]
      rintro rfl
      exact hn.1 (List.mem_map.mpr ⟨_, h, rfl⟩)

/-! ### rings of arcs; the home world -/
/-- what an arc's ring is told as: a way from its end to its start, if it is live -/
def RingOk (A : List (Arc α)) (a : Arc α) (r : Option (List α)) : Prop := match r with
  | some p => MPath (movF A) a.2.2 a.2.1 p
  | none => ¬ Reach A a.2.2 a.2.1
theorem RingOk.live {A : List (Arc α)} {a : Arc α} {r : Option (List α)} (h : RingOk A a r) : r.isSome = liveB A a := by
  cases r with
  | some p =>
    have : liveB A a = true := live_iff.mpr (reach_path.mpr ⟨p, h⟩)
    rw [this]
    rfl
  | none =>
    cases e : liveB A a with
    | true => exact absurd (live_iff.mp e) h
    | false => rfl
/-- one live arc's steps -/
def homeStep (R : α → Option (List α)) (x : α → Int) (a : Arc α) : α → Int := (a.1 :: (R a.1).getD []).foldl incr x
def homeX (A : List (Arc α)) (R : α → Option (List α)) : α → Int := (A.filter fun a => (R a.1).isSome).foldl (homeStep R) fun _ => 0
theorem home_fold {A : List (Arc α)} (h : Names A) {R : α → Option (List α)} (hR : ∀ a ∈ A, RingOk A a (R a.1)) : ∀ (L : List (Arc α)) (x : α → Int), (∀ a ∈ L, a ∈ A ∧ (R a.1).isSome = true) →
    (∀ v, bal A (L.foldl (homeStep R) x) v = bal A x v) ∧ (∀ n, x n ≤ L.foldl (homeStep R) x n) ∧ ∀ a ∈ L, x a.1 + 1 ≤ L.foldl (homeStep R) x a.1
  | [], x, _ => ⟨fun _ => rfl, fun _ => Int.le_refl _, fun a ha => absurd ha (by simp)⟩
  | a :: L, x, hL => by
    obtain ⟨ha, hs⟩ := hL a List.mem_cons_self
    obtain ⟨i1, i2, i3⟩ := home_fold h hR L (homeStep R x a) fun b hb => hL b (List.mem_cons_of_mem _ hb)
    have hr := hR a ha
    cases er : R a.1 with
    | none => rw [er] at hs; cases hs
    | some p =>
      rw [er] at hr
      have up : ∀ n, x n ≤ homeStep R x a n := fun n => incrs_le n _ x
      have up1 : x a.1 + 1 ≤ homeStep R x a a.1 := by
        unfold homeStep
        rw [List.foldl_cons]
        have q := incrs_le a.1 ((R a.1).getD []) (incr x a.1)
        rw [incr_at] at q
        exact q
      refine ⟨fun v => ?_, fun n => Int.le_trans (up n) (i2 n), fun b hb => ?_⟩
      · rw [List.foldl_cons, i1 v]
        unfold homeStep
        rw [List.foldl_cons, er]
        show bal A (p.foldl incr (incr x a.1)) v = _
        rw [bal_pathF h hr]
        have e : bal A (incr x a.1) v = bal A x v + 1 * wt v a := bal_bump h ha x 1 v
        rw [e]
        unfold wt
        omega
      · rcases List.mem_cons.mp hb with rfl | hb
        · exact Int.le_trans up1 (i2 _)
        · have q := i3 b hb
          have q2 := up b.1
          rw [List.foldl_cons]
          omega
theorem home_world {A : List (Arc α)} (h : Names A) {R : α → Option (List α)} (hR : ∀ a ∈ A, RingOk A a (R a.1)) : NetW A (homeX A R) ∧ ∀ a ∈ A, liveB A a = true → 1 ≤ homeX A R a.1 := by
  obtain ⟨h1, h2, h3⟩ := home_fold h hR (A.filter fun a => (R a.1).isSome) (fun _ => 0) fun a ha => List.mem_filter.mp ha
  refine ⟨⟨fun a _ => h2 a.1, fun v => ?_⟩, fun a ha hl => ?_⟩
  · have e := h1 v
    have z : bal A (fun _ => (0 : Int)) v = 0 := by
      unfold bal
      exact sumA_zero fun a _ => Int.zero_mul _
    rw [z] at e
    exact e
  · have hs : (R a.1).isSome = true := (hR a ha).live.trans hl
    have q := h3 a (List.mem_filter.mpr ⟨ha, hs⟩)
    have e : (0 : Int) + 1 = 1 := rfl
    rw [e] at q
    exact q

/-! ### what is left open; rings through an asked arc -/
def openA (A : List (Arc α)) (K : List α) (n : α) : List (Arc α) := A.filter fun a => liveB A a && (!decide (a.1 ∈ K) && !decide (a.1 = n))
theorem mem_open {A : List (Arc α)} {K : List α} {n : α} {a : Arc α} : a ∈ openA A K n ↔ a ∈ A ∧ liveB A a = true ∧ a.1 ∉ K ∧ a.1 ≠ n := by
  unfold openA
  rw [List.mem_filter]
  simp
theorem names_filter {A : List (Arc α)} (h : Names A) (p : Arc α → Bool) : Names (A.filter p) := by
  unfold Names at *
  exact h.sublist (List.filter_sublist.map _)
/-- the ring's way: from the asked arc's end to its start -/
def RingWay (A : List (Arc α)) (K : List α) (a : Arc α) (p : Option (List (α × Int))) : Prop :=
  ∃ c, Done (movS (openA A K a.1)) a.2.2 c ∧ p = lk c a.2.1
theorem RingWay.uniq {A : List (Arc α)} {K : List α} {a : Arc α} {p q : Option (List (α × Int))} (h : RingWay A K a p) (h' : RingWay A K a q) : p = q := by
  obtain ⟨c, d, e⟩ := h
  obtain ⟨c', d', e'⟩ := h'
  rw [e, e', d.uniq d']
structure RingFacts (A : List (Arc α)) (K : List α) (a : Arc α) (p : List (α × Int)) : Prop where
  path : MPath (movS (openA A K a.1)) a.2.2 a.2.1 p
  nd : (((a.1, (1 : Int)) :: p).map (·.1)).Nodup
  one : ∀ l ∈ p, (l.2 = 1 ∨ l.2 = -1) ∧ ∃ b ∈ A, b.1 = l.1 ∧ liveB A b = true ∧ b.1 ∉ K ∧ b.1 ≠ a.1
theorem RingWay.facts {A : List (Arc α)} {K : List α} {a : Arc α} (h : Names A) {p : List (α × Int)} (r : RingWay A K a (some p)) : RingFacts A K a p := by
  obtain ⟨c, d, e⟩ := r
  have hp := lk_mem e.symm
  have nm := d.names (nmOk_movS (names_filter h _)) a.2.1 p hp
  have one : ∀ l ∈ p, (l.2 = 1 ∨ l.2 = -1) ∧ ∃ b ∈ A, b.1 = l.1 ∧ liveB A b = true ∧ b.1 ∉ K ∧ b.1 ≠ a.1 := fun l hl => by
    obtain ⟨m, hm, em, _⟩ := nm.2 l hl
    obtain ⟨b, hb, hm'⟩ := mem_movS.mp hm
    obtain ⟨h1, h2, h3, h4⟩ := mem_open.mp hb
    rcases hm' with rfl | rfl
    · subst em
      exact ⟨.inl rfl, b, h1, rfl, h2, h3, h4⟩
    · subst em
      exact ⟨.inr rfl, b, h1, rfl, h2, h3, h4⟩
  refine ⟨d.inv.path _ _ hp, ?_, one⟩
  rw [List.map_cons, List.nodup_cons]
  refine ⟨fun hx => ?_, nm.1⟩
  obtain ⟨l, hl, el⟩ := List.mem_map.mp hx
  obtain ⟨_, b, _, e1, _, _, e2⟩ := one l hl
  exact e2 (e1.trans el)
/-- a flow along the ring -/
theorem RingFacts.bal {A : List (Arc α)} {K : List α} {a : Arc α} (h : Names A) (ha : a ∈ A) {p : List (α × Int)} (r : RingFacts A K a p) (x : α → Int) (v : α) : bal A (((a.1, 1) :: p).foldl bump x) v = bal A x v := by
  rw [List.foldl_cons, bal_pathS h (fun b hb => (mem_open.mp hb).1) r.path, bal_bump h ha]
  unfold wt
  omega
theorem RingFacts.ask {A : List (Arc α)} {K : List α} {a : Arc α} {p : List (α × Int)} (r : RingFacts A K a p) (x : α → Int) : ((a.1, 1) :: p).foldl bump x a.1 = x a.1 + 1 := bumps_at _ x r.nd List.mem_cons_self
theorem RingFacts.known {A : List (Arc α)} {K : List α} {a : Arc α} {p : List (α × Int)} (r : RingFacts A K a p) (hk : a.1 ∉ K) (x : α → Int) {n : α} (hn : n ∈ K) : ((a.1, 1) :: p).foldl bump x n = x n := by
  refine bumps_off _ x fun hx => ?_
  rw [List.map_cons] at hx
  rcases List.mem_cons.mp hx with e | hx
  · exact hk (e ▸ hn)
  · obtain ⟨l, hl, el⟩ := List.mem_map.mp hx
    obtain ⟨_, b, _, e1, _, e2, _⟩ := r.one l hl
    exact e2 (by rw [e1, el]; exact hn)
/-- not told: the law says so too -/
theorem RingFacts.due {A : List (Arc α)} {K : List α} {a : Arc α} (h : Names A) (ha : a ∈ A) {p : List (α × Int)} (r : RingFacts A K a p) (hk : a.1 ∉ K) (hl : liveB A a = true) : due A K a.1 = false := by
  cases e : K25.due A K a.1 with
  | false => rfl
  | true =>
    have z := due_flow h ha e (y := ((a.1, 1) :: p).foldl bump fun _ => 0) (fun v => by
      rw [r.bal h ha]
      unfold K25.bal
      exact sumA_zero fun a _ => Int.zero_mul _) fun b hb hs => by
      refine bumps_off _ _ fun hx => ?_
      rw [List.map_cons] at hx
      have key : b.1 ∉ K ∧ liveB A b = true := by
        rcases List.mem_cons.mp hx with q | hx
        · have := h.eq hb ha q
          subst this
          exact ⟨hk, hl⟩
        · obtain ⟨l, hl', el⟩ := List.mem_map.mp hx
          obtain ⟨_, b', hb', e1, e2, e3, _⟩ := r.one l hl'
          have := h.eq hb hb' ((el.symm).trans e1.symm)
          subst this
          exact ⟨e3, e2⟩
      unfold still at hs
      rw [key.2] at hs
      have : decide (b.1 ∈ K) = false := decide_eq_false key.1
      rw [this] at hs
      cases hs
    rw [r.ask] at z
    omega
/-- the two worlds -/
theorem RingFacts.moved {A : List (Arc α)} {K : List α} {a : Arc α} (h : Names A) (ha : a ∈ A) {p : List (α × Int)} (r : RingFacts A K a p) (hl : liveB A a = true) {x : α → Int} (hx : NetW A x) (h1 : ∀ b ∈ A, liveB A b = true → 1 ≤ x b.1) :
    NetW A (((a.1, 1) :: p).foldl bump x) := by
  refine ⟨fun b hb => ?_, fun v => by rw [r.bal h ha]; exact hx.even v⟩
  by_cases q : b.1 ∈ ((a.1, (1 : Int)) :: p).map (·.1)
  · obtain ⟨⟨n, s⟩, hm, el⟩ := List.mem_map.mp q
    have el' : n = b.1 := el
    subst el'
    rw [bumps_at _ x r.nd hm]
    rcases List.mem_cons.mp hm with e | hm
    · injection e with e1 e2
      have := hx.pos b hb
      omega
    · obtain ⟨hs, b', hb', e1, e2, _, _⟩ := r.one _ hm
      have hs' : s = 1 ∨ s = -1 := hs
      have := h1 b' hb' e2
      have e1' : b'.1 = b.1 := e1
      rw [e1'] at this
      omega
  · rw [bumps_off _ x q]
    exact hx.pos b hb

/-! ### told: known, dead, or no ring -/
theorem openS_closed {A : List (Arc α)} {K : List α} {a : Arc α} {s : α} {c : Came α (α × Int)} (d : Done (movS (openA A K a.1)) s c) {b : Arc α} (hb : b ∈ openA A K a.1) : (b.2.1 ∈ ks c ↔ b.2.2 ∈ ks c) := by
  constructor
  · intro q
    exact d.inv.closed _ q (by simp) _ (mem_movS.mpr ⟨b, hb, .inl rfl⟩) rfl
  · intro q
    exact d.inv.closed _ q (by simp) _ (mem_movS.mpr ⟨b, hb, .inr rfl⟩) rfl
theorem not_still {A : List (Arc α)} {K : List α} {b : Arc α} (h : still A K b = false) : b.1 ∉ K ∧ liveB A b = true := by
  unfold still at h
  obtain ⟨h1, h2⟩ := Bool.or_eq_false_iff.mp h
  exact ⟨of_decide_eq_false h1, by simpa using h2⟩
theorem into_side {S : List α} {b : Arc α} (h : b.2.1 ∈ S ↔ b.2.2 ∈ S) : into S b = 0 := by
  unfold into
  by_cases q : b.2.1 ∈ S
  · rw [bi_t q, bi_t (h.mp q)]; rfl
  · rw [bi_f q, bi_f fun z => q (h.mpr z)]; rfl
def sideOf (A : List (Arc α)) (c : Came α (α × Int)) : List α := (nodesOf A).filter fun v => decide (v ∈ ks c)
theorem mem_side {A : List (Arc α)} {c : Came α (α × Int)} {v : α} : v ∈ sideOf A c ↔ v ∈ nodesOf A ∧ v ∈ ks c := by
  unfold sideOf
  rw [List.mem_filter, decide_eq_true_iff]
theorem told_due {A : List (Arc α)} {K : List α} {a : Arc α} (h : Names A) (ha : a ∈ A) (r : RingWay A K a none) : due A K a.1 = true := by
  cases hs : still A K a with
  | true => exact due_still ha hs
  | false =>
    obtain ⟨c, d, e⟩ := r
    have n1 : a.2.1 ∉ ks c := lk_none.mp e.symm
    have n2 : a.2.2 ∈ ks c := d.inv.start
    refine due_side h ha (S := sideOf A c) ((nodup_nodes A).filter _) (fun v hv => (mem_side.mp hv).1) (.inl ?_) hs fun b hb hsb hne => into_side ?_
    · unfold into
      rw [bi_t (mem_side.mpr ⟨mem_nodes.mpr ⟨a, ha, .inr rfl⟩, n2⟩), bi_f fun z => n1 (mem_side.mp z).2]
      rfl
    · obtain ⟨q1, q2⟩ := not_still hsb
      have hb' : b ∈ openA A K a.1 := mem_open.mpr ⟨hb, q2, q1, fun z => hne (h.eq hb ha z)⟩
      have q := openS_closed d hb'
      constructor
      · intro z
        exact mem_side.mpr ⟨mem_nodes.mpr ⟨b, hb, .inr rfl⟩, q.mp (mem_side.mp z).2⟩
      · intro z
        exact mem_side.mpr ⟨mem_nodes.mpr ⟨b, hb, .inl rfl⟩, q.mpr (mem_side.mp z).2⟩
/-- the plan's side: from the asked arc's start -/
theorem path_back {B : List (Arc α)} {s v : α} {p : List (α × Int)} (hp : MPath (movS B) s v p) {f : List α} (c : ∀ b ∈ B, (b.2.1 ∈ f ↔ b.2.2 ∈ f)) (hv : v ∈ f) : s ∈ f := by
  induction hp with
  | here => exact hv
  | step _ hm e ih =>
    obtain ⟨b, hb, rfl | rfl⟩ := mem_movS.mp hm
    · exact ih (by rw [← e]; exact (c b hb).mpr hv)
    · exact ih (by rw [← e]; exact (c b hb).mp hv)
/-- what the law asks of a plan -/
structure PlanOk (A : List (Arc α)) (K : List α) (a : Arc α) (S : List α) : Prop where
  nd : S.Nodup
  sub : ∀ v ∈ S, v ∈ nodesOf A
  ask : into S a ≠ 0
  rest : ∀ b ∈ A, liveB A b = true → into S b ≠ 0 → b.1 ∈ K ∨ b.1 = a.1
theorem plan_ok {A : List (Arc α)} {K : List α} {a : Arc α} (h : Names A) (ha : a ∈ A) (r : RingWay A K a none) {c : Came α (α × Int)} (d : Done (movS (openA A K a.1)) a.2.1 c) : PlanOk A K a (sideOf A c) := by
  obtain ⟨c', d', e'⟩ := r
  have n1 : a.2.1 ∉ ks c' := lk_none.mp e'.symm
  have n2 : a.2.2 ∉ ks c := fun z => by
    obtain ⟨p, hp⟩ := d.mem.mp z
    exact n1 (path_back hp (fun b hb => openS_closed d' hb) d'.inv.start)
  have n3 : a.2.1 ∈ ks c := d.inv.start
  refine ⟨(nodup_nodes A).filter _, fun v hv => (mem_side.mp hv).1, ?_, fun b hb hl hi => ?_⟩
  · unfold into
    rw [bi_f fun z => n2 (mem_side.mp z).2, bi_t (mem_side.mpr ⟨mem_nodes.mpr ⟨a, ha, .inl rfl⟩, n3⟩)]
    decide
  · refine Classical.byContradiction fun n => ?_
    rw [not_or] at n
    have hb' : b ∈ openA A K a.1 := mem_open.mpr ⟨hb, hl, n.1, n.2⟩
    have q := openS_closed d hb'
    refine hi (into_side ⟨fun z => ?_, fun z => ?_⟩)
    · exact mem_side.mpr ⟨mem_nodes.mpr ⟨b, hb, .inr rfl⟩, q.mp (mem_side.mp z).2⟩
    · exact mem_side.mpr ⟨mem_nodes.mpr ⟨b, hb, .inl rfl⟩, q.mpr (mem_side.mp z).2⟩
end
end K25

namespace K25
open PySem PySem.Spec PyProof.Rows L2
/-! ### the text by places -/
def top (i : Nat) : Stmt := PySem.Challenge.pw_twoworlds_k25_whole_arcs_told.main.body.getD i (.Pass ⟨0, 0, 0, 0⟩)
abbrev s_is_list : Stmt := top 12
abbrev s_is_name : Stmt := top 13
abbrev s_checked_file : Stmt := top 16
abbrev s_check_question : Stmt := top 17
abbrev s_checked_both : Stmt := top 18
abbrev s_is_arc : Stmt := top 20
abbrev s_way_along : Stmt := top 21
abbrev s_way_between : Stmt := top 22
abbrev s_ways_from : Stmt := top 23
abbrev s_l_start : Stmt := top 26
abbrev s_l_draw : Stmt := top 27
abbrev s_l_pick : Stmt := top 28
abbrev s_l_mixed : Stmt := top 29
abbrev s_l_same : Stmt := top 30
abbrev s_l_name : Stmt := top 31
abbrev s_l_names : Stmt := top 32
abbrev s_l_arcs : Stmt := top 33
abbrev s_l_leads : Stmt := top 34
abbrev s_l_live : Stmt := top 35
abbrev s_l_nodes : Stmt := top 36
abbrev s_l_is_world : Stmt := top 37
abbrev s_l_rank : Stmt := top 38
abbrev s_l_less : Stmt := top 39
abbrev s_l_spans : Stmt := top 40
abbrev s_l_some : Stmt := top 41
abbrev s_l_out : Stmt := top 42
abbrev s_l_is_side : Stmt := top 43
abbrev s_l_is_plan : Stmt := top 44
abbrev s_l_worlds : Stmt := top 45
abbrev s_l_none_parts : Stmt := top 46
abbrev s_l_is_right : Stmt := top 47
abbrev s_law : Stmt := top 48
abbrev m_init : Stmt := inClass (top 24) 0
abbrev m_questions : Stmt := inClass (top 24) 2
abbrev m_live : Stmt := inClass (top 24) 5
abbrev m_left_open : Stmt := inClass (top 24) 6
abbrev m_home : Stmt := inClass (top 24) 9
abbrev m_ring_by : Stmt := inClass (top 24) 10
abbrev m_moved : Stmt := inClass (top 24) 11
abbrev m_is_told : Stmt := inClass (top 24) 12
abbrev m_plan : Stmt := inClass (top 24) 13
abbrev m_apart : Stmt := inClass (top 24) 20

/-! ### defs as they stand -/
section
variable (P : Program) (w : World) (K : PySem.W.Frag) (mg : Str → Option Value) (base : Heap)
/-- the module's name x is the def st -/
def Has (x : Str) (st : Stmt) : Prop := ∃ (f : Addr) (fd : FuncData), mg x = some (.ref f) ∧ FunD K x x (defArgs st) (defBody st) (defScope st) [] [] f fd
/-- a def that may be called, its promise -/
def Cal (x : Str) (k : Nat) (ps : List Str) (sp : Sp) : Prop := ∃ (f : Addr) (fd : FuncData), mg x = some (.ref f) ∧ FnOk P w K mg base CX0 k f fd ps sp ∧ PySem.W.keepIn K (.ref f) = true ∧ Binds K fd ps []
end
section
variable {P : Program} {w : World} {K : PySem.W.Frag} {mg : Str → Option Value} {base : Heap}
theorem Has.cal {x : Str} {st : Stmt} {N ps : List Str} {k : Nat} {sp : Sp} (h : Has K mg x st) (S : FnScope N ps (defScope st)) (len : ∀ vs H Q E, sp vs H Q E → vs.length = ps.length)
    (hb : ∀ (kV doc pm : Value) (an : Option Addr) (cdv ct : Value) (us : List Value), us.length = ps.length → bindArgs (PySem.W.fnOf x x (defArgs st) (defBody st) (defScope st) .none kV doc pm an cdv ct) ⟨us, []⟩ = pure (ps.zip us))
    (hbody : ∀ (f : Addr) (cdv : Value) (A : Around) (outer : List Env) (s : Shared) (H : Hp) (vs : List V) (Q : VK) (E : XK), Room k (A.deeper (envOfC x (defScope st) s.heap.objs.size f cdv)) → sp vs H Q E →
      ∃ t, PSs (cxOf CX0 P w K mg base N x (defScope st) f cdv A outer s H E).nox (defBody st) t ∧ t { nx := fun _ H' => Q .non H', rt := Q } (start N vs) H) : Cal P w K mg base x (k + 1) ps sp := by
  obtain ⟨f, fd, g, F⟩ := h
  refine ⟨f, fd, g, F.ok S len fun cdv A outer s H vs Q E hr h => ?_, F.kp, F.bindsN fun kV doc pm an cdv ct us hl => hb kV doc pm an cdv ct us hl⟩
  obtain ⟨t, h1, h2⟩ := hbody f cdv A outer s H vs Q E hr h
  exact ⟨t, h1.nox, h2⟩
theorem pe_callC {X : Cx} {x : Str} {k : Nat} {ps : List Str} {sp : Sp} {e : Expr} {es : List Expr} {t : TA} {p pos : Pos} (c : Cal X.prog X.w X.K X.mg X.base x k ps sp) (hr : Room k X.A) (hg : Gl X x) (ha : PA X (e :: es) t)
    (hdb : (x == ("__debug__" : Str)) = false := by decide) (he : starEach (e :: es) X.env = (false, eval e X.env) :: starEach es X.env := by rfl) (hpl : (backTo pos (starEach es X.env)).any (·.1) = false := by rfl) :
    PE X (.Call (.Name x p) (e :: es) [] pos) (tCall sp [] E0 t) := by
  obtain ⟨f, fd, g, F, kp, b⟩ := c
  exact pe_call F hr hg g kp b .nil pass0 ha hdb he hpl
end
end K25


namespace K25
open PySem PySem.Spec PyProof.Rows L2
/-! ### the layer's rules with the written part named -/
section
variable (K : PySem.W.Frag) {X : Cx}
theorem ixL (h : X.K = K := by rfl) : IxR X (rIxL K) := h ▸ ix_list
theorem ixT (h : X.K = K := by rfl) : IxR X (rIxT K) := h ▸ ix_tup
theorem inQ (h : X.K = K := by rfl) : OpR X (compareOp .In) (rIn K false) := h ▸ op_in_seq
theorem niQ (h : X.K = K := by rfl) : OpR X (compareOp .NotIn) (rIn K true) := h ▸ op_notIn_seq
def rLenK : List V → Hp → VK → Prop := fun xs H Q => ∃ p ys, xs = [.ref p] ∧ (SqL K H p ys ∨ SqT K H p ys) ∧ Q (.int ys.length) H
theorem lenK (h : X.K = K := by rfl) : CallR X (.builtin "len") (rLenK K) := h ▸ call_len_seq
def rLenS : List V → Hp → VK → Prop := fun xs H Q => ∃ z, xs = [.str z] ∧ z.length ≤ sizeLine ∧ Q (.int z.length) H
theorem lenS : CallR X (.builtin "len") rLenS := call_len_str
def rListK : List V → Hp → VK → Prop := fun xs H Q => ∃ p ys, xs = [.ref p] ∧ (SqL K H p ys ∨ SqT K H p ys) ∧ ∀ l, H l = none → Q (.ref l) (upd H l (.lst ys))
theorem listK (h : X.K = K := by rfl) : CallR X (.type "list") (rListK K) := h ▸ call_list_of
def rTupK : List V → Hp → VK → Prop := fun xs H Q => ∃ p ys, xs = [.ref p] ∧ ((SqL K H p ys ∧ ∀ l, H l = none → Q (.ref l) (upd H l (.tup ys))) ∨ (SqT K H p ys ∧ Q (.ref p) H))
theorem tupK (h : X.K = K := by rfl) : CallR X (.type "tuple") (rTupK K) := h ▸ call_tuple_of
theorem sumK (hc : X.calm = true) (h : X.K = K := by rfl) : CallR X (.builtin "sum") (rSum K) := h ▸ cr_sum hc
theorem anyK (hc : X.calm = true) (h : X.K = K := by rfl) : CallR X (.builtin "any") (rAny K) := h ▸ cr_any hc
theorem allK (hc : X.calm = true) (h : X.K = K := by rfl) : CallR X (.builtin "all") (rAll K) := h ▸ cr_all hc
theorem isiK (h : X.K = K := by rfl) : CallR X (.builtin "isinstance") (rIsi K) := h ▸ call_isi
theorem isiTK (h : X.K = K := by rfl) : CallR X (.builtin "isinstance") (rIsiT K) := h ▸ call_isiT
def rDictP : List V → Hp → VK → Prop := fun xs H Q => ∃ (a : Addr) (ps : List Addr) (kvs : List (Key × V)), xs = [.ref a] ∧ SqL K H a (ps.map V.ref) ∧ Paired (fun p kv => SqT K H p [kV kv.1, kv.2]) ps kvs ∧
    ∀ p, H p = none → Q (.ref p) (upd H p (.dK (mergeK [] kvs)))
theorem dictPK (hc : X.calm = true) (h : X.K = K := by rfl) : CallR X (.type "dict") (rDictP K) := h ▸ call_dictP hc
theorem slL (h : X.K = K := by rfl) : SlR X (rSlL K) := h ▸ sl_list
theorem pefld {e : Expr} {ta : TE} {f : Str} {pos : Pos} (he : PE X e ta) (hb : attributeBase e f X.env (eval e X.env) = eval e X.env := by rfl) (h : X.K = K := by rfl) : PE X (.Attribute e f pos) (tFld K ta f) := h ▸ pe_fld he hb
theorem psfld {o value : Expr} {ta tv : TE} {f : Str} {pos pos' : Pos} (ha : PE X o ta) (hv : PE X value tv) (hs : swapsWith value (some (.Attribute o f pos')) pos.line X.env = pure false := by rfl) (h : X.K = K := by rfl) :
    PS X (.Assign [.Attribute o f pos'] value pos) (sFld K ta tv f) := h ▸ ps_fld ha hv hs
theorem pilist {tg l : Expr} {tl : TE} (hl : PE X l tl) (h : X.K = K := by rfl) : PI X tg l (iList K tl) := h ▸ pi_list hl
theorem pitup {tg l : Expr} {tl : TE} (hl : PE X l tl) (h : X.K = K := by rfl) : PI X tg l (iTup K tl) := h ▸ pi_tup hl
theorem pienum {e : Expr} {ta : TA} {p pos tpos : Pos} {elts : List Expr} {kk : Nat} (hg : Gl X "enumerate") (hm : X.mg "enumerate" = none) (ha : PA X [e] ta) (hs : starEach [e] X.env = [(false, eval e X.env)] := by rfl) (h : X.K = K := by rfl) :
    PI X (.Tuple elts kk tpos) (.Call (.Name "enumerate" p) [e] [] pos) (iEnum K ta) := h ▸ pi_enum hg hm ha hs
theorem pizip {e e2 : Expr} {ta : TA} {p pos tpos : Pos} {elts : List Expr} {kk : Nat} (hg : Gl X "zip") (hm : X.mg "zip" = none) (ha : PA X [e, e2] ta)
    (hs : starEach [e, e2] X.env = (false, eval e X.env) :: starEach [e2] X.env := by rfl) (hpl : (backTo pos (starEach [e2] X.env)).any (·.1) = false := by rfl) (h : X.K = K := by rfl) :
    PI X (.Tuple elts kk tpos) (.Call (.Name "zip" p) [e, e2] [] pos) (iZip K ta) := h ▸ pi_zip hg hm ha hs hpl
theorem pgtup {es : List Expr} {k : Nat} {t : TGs} {n : Nat} {pos : Pos} (hc : X.calm = true) (hh : PGs X es t) (hn : (assignEach es X.env).length = n := by rfl) (hst : (assignEach es X.env).findIdx? (·.1) = none := by rfl) (h : X.K = K := by rfl) :
    PG X (.Tuple es k pos) (gTup K n t) := h ▸ pg_tup hc hh hn hst
section
variable {o e : Expr} {to : TE} {t : TA} {apos cpos : Pos}
theorem pem {T name id : String} {r : V → List V → Hp → VK → Prop} {es : List Expr} (pa : PlainAttrs T) (slot : Slot T name id) (hty : typeOf (.builtin id) = pure (.type "method_descriptor")) (hm : MtR X id r) (ho : PE X o to) (ha : PA X (e :: es) t)
    (hbase : attributeBase o name X.env (eval o X.env) = eval o X.env := by rfl)
    (hfew : ((backTo cpos (starEach (e :: es) X.env)).all (fun x => !x.1) && (backToKw cpos (keywordEach [] X.env)).all (fun x => x.1.isSome)
      && decide ((e :: es).length + ([] : List Keyword).length + (if ([] : List Keyword).isEmpty then 0 else 1) < 30)) = true := by rfl)
    (hline : (apos.endLine == cpos.line) = true := by rfl) (hs : starEach (e :: es) X.env = (false, eval e X.env) :: starEach es X.env := by rfl) (hplain : (backTo cpos (starEach es X.env)).any (·.1) = false := by rfl) (h : X.K = K := by rfl) :
    PE X (.Call (.Attribute o name apos) (e :: es) [] cpos) (tBM K T r to t) := h ▸ pe_bm pa slot hty hm ho ha hbase hfew hline hs hplain
end
end
end K25

namespace K25
open PySem PySem.Spec PyProof.Rows L2
/-! ### more rules -/
section
variable {X : Cx}
/-- a block runs while the thing at d is locked -/
theorem pss_lock {sts : List Stmt} {t : TS} (h : PSs X sts t) : PSs X sts (tLock t) := by
  refine ⟨fun pins s σ H D I hw => ?_⟩
  obtain ⟨d, u, hd, mu, hw⟩ := hw
  obtain ⟨od, I1⟩ := I.lock hd mu
  refine thn (h.run pins s σ _ _ I1 (hw od)) fun f s1 q => ?_
  cases f with
  | next => obtain ⟨σ', H', I2, e, q⟩ := q; exact ⟨σ', _, I2.unlock e (I.nofrz hd mu), q⟩
  | brk => obtain ⟨σ', H', I2, e, q⟩ := q; exact ⟨σ', _, I2.unlock e (I.nofrz hd mu), q⟩
  | cont => obtain ⟨σ', H', I2, e, q⟩ := q; exact ⟨σ', _, I2.unlock e (I.nofrz hd mu), q⟩
  | ret v => obtain ⟨x, σ', H', I2, r, e, q⟩ := q; exact ⟨x, σ', _, I2.unlock e (I.nofrz hd mu), r, q⟩
/-- len of a dict that is read -/
def rLenD : List V → Hp → VK → Prop := fun xs H Q => ∃ a kvs, xs = [V.ref a] ∧ Rd H a (.dK kvs) ∧ Q (.int kvs.length) H
theorem lenD : CallR X (.builtin "len") rLenD := by
  intro pins s σ H xs us Q I r h
  obtain ⟨a, kvs, rfl, ha, q⟩ := h
  obtain ⟨u, rfl, ru⟩ := vals1 r
  cases ru
  exact d_len I ha fun t s' I' => ⟨.int kvs.length, H, I', ⟨t, rfl⟩, q⟩
/-- list of a dict that is read -/
def rListR : List V → Hp → VK → Prop := fun xs H Q => ∃ p kvs, xs = [V.ref p] ∧ Rd H p (.dK kvs) ∧ ∀ q, H q = none → Q (.ref q) (upd H q (.lst (kvs.map fun kv => kV kv.1)))
theorem listD (hc : X.calm = true) : CallR X (.type "list") rListR := by
  intro pins s σ H xs us Q I r h
  obtain ⟨p, kvs, e, hk, q⟩ := h
  subst e
  obtain ⟨u, eu, rx⟩ := vals1 r
  subst eu
  obtain rfl : u = Value.ref p := rx
  obtain ⟨z, lo, vs, rk, hd⟩ := dk_rd I.hok hk
  obtain ⟨ep, hat⟩ := hd.dictAt
  have hl : kvs.length = vs.length := Paired.length rk
  refine PySem.W.kdl_call (PySem.W.kdl_dict (knd := mixKind X.prog X.w) (kvs := vs) (ep := ep) lo) (I.ok.hd hc) hat (by rw [← hl]; exact z) fun h' tk acc' c' hkeep hS hacc => ?_
  refine ⟨.ref s.heap.objs.size, upd H s.heap.objs.size (.lst (kvs.map fun kv => kV kv.1)), I.laid hkeep (Nat.le_refl _) (show ObjOk X.prog X.w _ _ _ (.lst (kvs.map fun kv => kV kv.1)) from ⟨?_, acc'.toList, c', ?_, ?_⟩), rfl, q _ (I.hok.fresh (Nat.le_refl _))⟩
  · rw [List.length_map]; exact z
  · have el : acc'.toList.length = acc'.size := by simp
    refine vals_of_at (by rw [List.length_map, el, hacc.1, hl]) fun j x w h1 h2 => ?_
    obtain ⟨k, y, hky, hi⟩ := hacc.2 j w (by rw [← Array.getElem?_toList]; exact h2)
    have e1 : (kvs.map (·.1))[j]? = some k := by
      rw [KV.keys rk, List.getElem?_map, hky] <;> rfl
    have e2 : (kvs.map fun kv => kV kv.1)[j]? = some (kV k) := by
      have e3 : (kvs.map fun kv => kV kv.1) = (kvs.map (·.1)).map kV := by rw [List.map_map] <;> rfl
      rw [e3, List.getElem?_map, e1] <;> rfl
    rw [e2] at h1
    cases h1
    exact keyIs_rel hi
  · rw [Array.toArray_toList]; exact hS
/-- a list against an empty one -/
def rNeNil (K : PySem.W.Frag) : R2 := fun x y H Q => ∃ a b xs, x = .ref a ∧ y = .ref b ∧ SqL K H a xs ∧ SqL K H b [] ∧ Q (.bl (!xs.isEmpty)) H
theorem neNil (K : PySem.W.Frag) (hu : X.A.units < cLine) (h : X.K = K := by rfl) : OpR X (compareOp .NotEq) (rNeNil K) := by
  subst h
  intro pins s σ H x y v u Q I rx ry h
  obtain ⟨a, b, xs, rfl, rfl, ha, hb, q⟩ := h
  cases rx
  cases ry
  obtain ⟨us, r1, p1, _⟩ := I.list ha
  obtain ⟨ws, r2, p2, _⟩ := I.list hb
  cases r2
  cases xs with
  | nil =>
    cases r1
    exact SeqAt.RcNeAt.lists (e := fun _ => true) p1.isList p2.isList rfl hu (fun j h1 h2 => absurd h1 (by simp)) _ _ _ _ ⟨.bl false, H, I, rfl, q⟩
  | cons x xs =>
    cases r1 with
    | cons r1 t1 => exact SeqAt.RcNeAt.lists_lengths p1.isList p2.isList (by simp) hu _ _ _ _ ⟨.bl true, H, I, rfl, q⟩
/-- a dict against an empty one -/
def rEqDNil : R2 := fun x y H Q => ∃ a b ks, x = .ref a ∧ y = .ref b ∧ Rd H a (.dK ks) ∧ Rd H b (.dK []) ∧ ks ≠ [] ∧ Q (.bl false) H
theorem eqDNil (hu : X.A.units < cLine) : OpR X (compareOp .Eq) rEqDNil := by
  intro pins s σ H x y v u Q I rx ry h
  obtain ⟨a, b, ks, rfl, rfl, ea, eb, hne, q⟩ := h
  cases rx
  cases ry
  obtain ⟨_, ya, va, ra, da⟩ := dk_rd I.hok ea
  obtain ⟨_, yb, vb, rb, db⟩ := dk_rd I.hok eb
  have hl := ra.length
  have hl2 := rb.length
  have hne' : va.length ≠ vb.length := by
    rw [← hl, ← hl2]
    cases ks with
    | nil => exact absurd rfl hne
    | cons _ _ => simp
  refine PySem.W.keq_eq (knd := mixKind X.prog X.w) (r := true) ya yb da db hu (fun e => absurd e hne') ?_
  have e : (va.length == vb.length && true) = false := by
    rw [Bool.and_true]
    exact beq_eq_false_iff_ne.mpr hne'
  rw [e]
  exact ⟨.bl false, H, I, rfl, q⟩
/-- two tuples of equal things -/
def rEqTV (K : PySem.W.Frag) : R2 := fun x y H Q => ∃ n a b xs ys, n ≤ 60 ∧ x = .ref a ∧ y = .ref b ∧ SqT K H a xs ∧ SqT K H b ys ∧ Paired (EqV K H n) xs ys ∧ Q (.bl true) H
theorem eqTV (K : PySem.W.Frag) (hu : X.A.units + 64 < cLine) (h : X.K = K := by rfl) : OpR X (compareOp .Eq) (rEqTV K) := by
  subst h
  intro pins s σ H x y v u Q I rx ry h
  obtain ⟨n, a, b, xs, ys, hn, rfl, rfl, ha, hb, hp, q⟩ := h
  cases rx
  cases ry
  obtain ⟨us, r1, p1, _⟩ := I.tuple ha
  obtain ⟨ws, r2, p2, _⟩ := I.tuple hb
  have hsz : us.toArray.size = ws.toArray.size := by
    rw [List.size_toArray, List.size_toArray, ← r1.length, ← r2.length]
    exact Paired.length hp
  obtain ⟨o1, e1, c1, n1, d1⟩ := p1
  obtain ⟨o2, e2, c2, n2, d2⟩ := p2
  refine SeqAt.rcIn_tuples (e := fun _ => true) ⟨o1, e1, c1, n1, d1⟩ ⟨o2, e2, c2, n2, d2⟩ (by omega) (fun j h1 h2 => ?_) ?_
  · have k := items_run (P := X.prog) (w := X.w) (A := X.A.in1) (s := s) (F := EqV X.K H n) (fun x y v u h rx ry => eqV_run I n X.A.in1 (by show X.A.units + 1 + n < cLine; omega) x y v u h rx ry) hp r1 r2 j (by simpa using h1) (by simpa using h2)
    show SeqAt.EqP X.prog X.w X.A.in1 s _ _ true
    simpa using k
  · have e : ((List.range (min us.toArray.size ws.toArray.size)).all (fun _ => true) && us.toArray.size == ws.toArray.size) = true := by
      rw [List.all_eq_true.mpr fun _ _ => rfl, hsz]
      simp
    rw [e]
    exact ⟨.bl true, H, I, rfl, q⟩
theorem eqVr (K : PySem.W.Frag) (hu : X.A.units + 64 < cLine) (h : X.K = K := by rfl) : OpR X (compareOp .Eq) (rEqV K) := by
  subst h
  exact op_eqV hu
theorem eqDt (K : PySem.W.Frag) (hu : X.A.units + 64 < cLine) (h : X.K = K := by rfl) : OpR X (compareOp .Eq) (rEqD K) := by
  subst h
  exact op_eqD hu
/-- name = {.. for ..} on one line, the name a local -/
theorem ps_setDc {i : Nat} {y : Str} {py : Pos} {kx vx tg iter : Expr} {ifs : List Expr} {scope : Scope} {own : List (Str × Nat)} {pos spos : Pos} {wi : TI} {g : TG} {tt : TT} {tk tv : TE} (hc : X.calm = true) (hN : X.N.Nodup) (hy : X.N[i]? = some y) (hyl : X.env.scope.names.lookup y = some .local)
    (hsw : swapsWith (.DictComp kx vx [⟨tg, iter, ifs, 0⟩] scope pos) (some (.Name y py)) spos.line X.env = pure true) (hi : PI X tg iter wi) (ok : BlkOk X.N X.env.scope scope own)
    (hg : ∀ (s : Shared) (H : Hp) (C : Addr) (cl : List (Str × Addr)) (fp : List Addr), PG (X.blk s H scope (compEnvC scope cl C X.env) fp) tg g) (ht : ∀ (s : Shared) (H : Hp) (C : Addr) (cl : List (Str × Addr)) (fp : List Addr), PTs (X.blk s H scope (compEnvC scope cl C X.env) fp) ifs tt)
    (hk : ∀ (s : Shared) (H : Hp) (C : Addr) (cl : List (Str × Addr)) (fp : List Addr), PE (X.blk s H scope (compEnvC scope cl C X.env) fp) kx tk)
    (he : ∀ (s : Shared) (H : Hp) (C : Addr) (cl : List (Str × Addr)) (fp : List Addr), PE (X.blk s H scope (compEnvC scope cl C X.env) fp) vx tv) (hs : ∀ x, foldedSetIterable iter X.env x = pure x := by intro _; rfl) :
    PS X (.Assign [.Name y py] (.DictComp kx vx [⟨tg, iter, ifs, 0⟩] scope pos) spos) (tAsg (tDc wi g tt tk tv (own.map (·.2))) (gName i)) := by
  refine ⟨fun pins s σ H D I h => ?_⟩
  rw [exec_Assign_Name_used _ _ _ _ hsw]
  refine wpAny_bind (wpAny_standAt (wpAny_bind ?_))
  show wpAny _ X.A (do let _ ← comprehension (.DictComp kx vx [⟨tg, iter, ifs, 0⟩] scope pos) scope X.env (firstIterPos [⟨tg, iter, ifs, 0⟩] pos) newDict false (eval iter X.env) (some (assign (.Name y py) X.env))) _ _ s
  have h : tDc wi g tt tk tv (own.map (·.2)) σ H (fun x H1 => gName i x σ H1 D.nx) := h
  refine wpAny_bind (thn (dc_core (Qf := fun _ s' => SP X pins D .next s') hc hN I hi ok hg ht hk he hs h fun L C s' m H' I' q hn f => ?_) fun _ s' hq => wpAny_pure (wpAny_pure hq))
  show wpAny _ _ (assign (.Name y py) X.env (.ref L)) _ _ _
  refine wpAny_assign_Name (store_ok2 (v := V.ref L) I' hN hy (.inl hyl) rfl (fun s2 I2 ⟨a, sb, ha⟩ => ?_) (.inr hyl))
  obtain ⟨f0, f1, f2, f3, f4, f5⟩ := f
  have haC : C ≠ a := by
    rcases ha with z | z
    · rw [z]; exact f1
    · exact fun e => f4 y a z e.symm
  refine ⟨m, hn.sameBut sb haC, fun h3 sb3 => ?_⟩
  exact ⟨_, H', I2.turned (t' := s2.toks) (fun b o hb e => (sb3.2 b hb).trans e) f0 f1 f3 f4 f5, q⟩
theorem sw_trueD {kx vx : Expr} {gs : List Comprehension} {scope : Scope} {pos py : Pos} {y : Str} {l : Nat} {env : Env} (hk : env.scope.kind = .function) (hy : env.scope.names.lookup y = some .local) (hl : (py.line == pos.line) = true)
    (ha : (scope.names.any fun (n, k) => n == y && (k == .local || k == .cell)) = false) : swapsWith (.DictComp kx vx gs scope pos) (some (.Name y py)) l env = pure true := by
  have ky : env.kindOf y = some .local := hy
  have hb : env.blockKind = .function := by unfold Env.blockKind; rw [hk]; rfl
  unfold swapsWith
  simp only [hb, ky, ha, Expr.pos, hl]
  rfl
end
end K25

namespace K25
open PySem PySem.Spec PyProof.Rows L2
/-! ### enumerate(tuple) -/
theorem meets_enumerate_newT {v : Value} {o : Obj} {H : Heap → Prop} (B : Begins v o H) :
    Meets (Builtin.«enumerate.__new__» ⟨[.type "enumerate", v], []⟩) (fun _ R s => H s.heap ∧
      R (.ok (.ret (.ref (s.heap.push o).objs.size))) { s with heap := (s.heap.push o).push { cls := .type "enumerate", data := .fields #[.none, .bool false, .ref s.heap.objs.size, rawInt 0, .none, .none] } }) :=
  .of_wp fun prog w A R s h => by
    obtain ⟨hp, g, d, tk, os⟩ := s; obtain ⟨h1, h⟩ := h
    have hsub := sub_enumerate
    have q1 : ∀ {A' : Around} {E : Value → Shared → Prop} {Q : Value → Shared → Prop}, Q (.ref hp.objs.size) ⟨hp.push o, g, d, tk, os⟩ → wpAny (model prog w) A' (pyIter v) Q E ⟨hp, g, d, tk, os⟩ :=
      fun q => B.iter prog w _ _ ⟨hp, g, d, tk, os⟩ _ h1 q
    wp_walk using q1
    refine wpAny_stack_any fun st => wpAny_pure ?_
    split
    · rename_i c _ _ _ _ _
      cases (c == Value.type "enumerate")
      · wp_walk using q1
        exact ⟨_, rfl, h⟩
      · wp_walk using q1
        exact ⟨_, rfl, h⟩
    · wp_walk using q1
      exact ⟨_, rfl, h⟩
theorem call_enumerate_begins {prog : Program} {w : World} {A : Around} {E : Value → Shared → Prop} {s : Shared} {a : Addr} {o : Obj} {H : Heap → Prop} {Q : Value → Shared → Prop} (B : Begins (.ref a) o H) (h1 : H s.heap)
    (h : ∀ h', IsEnum h' (s.heap.objs.size + 1) s.heap.objs.size 0 .none → h'.get? s.heap.objs.size = some o → h'.objs.size = s.heap.objs.size + 2 →
      (∀ b o, s.heap.get? b = some o → h'.get? b = some o) → Q (.ref (s.heap.objs.size + 1)) { s with heap := h' }) :
    wpAny (model prog w) A (call (.type "enumerate") [.ref a]) Q E s := by
  refine callType_new F.called_enumerate (by decide) (F.typeCall_enumerate_1 _) (F.newCall_enumerate_1 _) (fun obj => F.args_object_init_2 obj _) F.entry_enumerate_new
    (meets_enumerate_newT B) ⟨h1, ?_⟩
  have hz : (s.heap.push o).objs.size = s.heap.objs.size + 1 := Heap.size_push ..
  show _ ∧ _
  rw [hz]
  have he : IsEnum ((s.heap.push o).push { cls := .type "enumerate", data := .fields #[.none, .bool false, .ref s.heap.objs.size, rawInt 0, .none, .none] }) (s.heap.objs.size + 1) s.heap.objs.size 0 .none := by
    have := Heap.get?_push_size (s.heap.push o) (o := { cls := .type "enumerate", data := .fields #[.none, .bool false, .ref s.heap.objs.size, rawInt 0, .none, .none] }) rfl
    rw [hz] at this; exact this
  refine ⟨⟨_, he, rfl⟩, h _ he (Heap.get?_push_of_some _ (Heap.get?_push_size _ B.free)) (by rw [Heap.size_push, hz]) fun b o x => Heap.get?_push_of_some _ (Heap.get?_push_of_some _ x)⟩
/-- the tuple at a, each item in a new pair -/
def Itet (K : PySem.W.Frag) (a : Addr) : It :=
  ⟨fun i H => ∃ (xs : List V) (x : V), SqT K H a xs ∧ xs[i]? = some x, fun i H v H' => ∃ T x, v = .ref T ∧ H T = none ∧ H' = upd H T (.tup [.int (i : Nat), x]) ∧ ∀ xs, SqT K H a xs → xs[i]? = some x, fun i H => ∃ xs : List V, SqT K H a xs ∧ xs.length = i⟩
theorem turn_enumT {P : Program} {w : World} {K : PySem.W.Frag} {elts : List Expr} {kk : Nat} {tpos : Pos} (a e it : Addr) (hai : a ≠ it) (hae : e ≠ a) :
    Turn P w K (.Tuple elts kk tpos) (Itet K a) [e, it] e (fun i h => (∃ old, IsEnum h e it ((i : Nat) : Int) old) ∧ h.IsTupleIter it a i ∧ e ≠ it) where
  mem := by simp
  obj := fun i h st b hb => by
    obtain ⟨⟨old, he⟩, ⟨o, ho, hc, hd⟩, _⟩ := st
    have e' : b = e ∨ b = it := by simpa using hb
    rcases e' with z | z
    · rw [z]; exact ⟨_, he, fun v q => nomatch q⟩
    · rw [z]; exact ⟨o, ho, fun v q => by rw [hd] at q; cases q⟩
  keep := fun i h h' st k => let ⟨⟨old, he⟩, hi, hne⟩ := st; ⟨⟨old, k e (by simp) _ he⟩, hi.at fun o q => k it (by simp) o q, hne⟩
  item := by
    intro X hP hw hK hc i pins s σ H E I hf st hg
    subst hP hw hK
    obtain ⟨⟨old, he⟩, hit, hne⟩ := st
    obtain ⟨xs, x, hq, hx⟩ := hg
    obtain ⟨its, rv, ⟨ot, p1, p2, n3, p4⟩, hz⟩ := I.tuple hq
    have hT : s.heap.IsTuple a its.toArray := ⟨ot, p1, p2, n3, p4⟩
    obtain ⟨u, hu, ru⟩ := rv.get hx
    have hel : e < s.heap.objs.size := Heap.lt_size he
    have hil : it < s.heap.objs.size := by obtain ⟨_, q, _⟩ := hit; exact Heap.lt_size q
    have hi : i < its.toArray.size := by simpa using (List.getElem?_eq_some_iff.mp hu).1
    refine wpAny_pyNext_enum_itemD (Draws.tuple (A := X.A.in1) (show X.A.in1.handled = none from I.ok.hd hc) it a hai its.toArray) he ⟨hit, hT⟩ hi hne (by simp [hne, hae]) fun y h' tk hy ho st' hT' hsz hk => ?_
    have ey : y = u := by
      have hy' : its.toArray[i]? = some y := hy
      rw [show its.toArray[i]? = some u by simpa using hu] at hy'
      exact (Option.some.inj hy').symm
    subst ey
    obtain ⟨hit', _⟩ := st'
    refine ⟨_, rfl, wpAny_letOwnedTupleGo_enum (s := { s with heap := h', toks := tk + 1 }) ho fun h'' he' sb => ?_⟩
    have hT2 : h''.get? s.heap.objs.size = some { cls := .type "tuple", data := .seq #[.int i tk, y] } := (sb.2 _ (Nat.ne_of_gt hel)).trans hT'
    have new : ObjOk X.prog X.w (upd H s.heap.objs.size (.tup [.int (i : Nat), x])) h'' s.heap.objs.size (.tup [.int (i : Nat), x]) :=
      ⟨by show 2 ≤ sizeLine; decide, [.int i tk, y], .cons ⟨_, rfl⟩ (.cons ru .nil), ⟨_, hT2, rfl, _, rfl⟩⟩
    have I1 : Inv X pins σ (upd H s.heap.objs.size (.tup [.int (i : Nat), x])) { s with heap := h'', toks := tk + 1 } :=
      I.turnedNew (ch := [e, it]) (fun b ob hb q => (sb.2 b (fun z => hb (by simp [z]))).trans (hk b ob (fun z => hb (by simp [z])) (fun z => hb (by simp [z])) q)) hf (Nat.le_refl _) new
    refine ⟨.ref s.heap.objs.size, _, I1, rfl, ⟨_, x, rfl, I.hok.fresh (Nat.le_refl _), rfl, fun ys hy => by rw [I.tuple_inj hy hq]; exact hx⟩, ⟨⟨y, ?_⟩, hit'.at fun o q => (sb.2 it (Ne.symm hne)).trans q, hne⟩, fun b hb => ?_⟩
    · have e1 : ((i + 1 : Nat) : Int) = (i : Int) + 1 := by omega
      rw [e1]; exact he'
    · have hb' : b < s.heap.objs.size := by
        have e' : b = e ∨ b = it := by simpa using hb
        rcases e' with z | z
        · rw [z]; exact hel
        · rw [z]; exact hil
      rw [upd_ne (Nat.ne_of_lt hb')]
      exact (hf b hb).1
  done := by
    intro X hP hw hK hc i pins s σ H E I hf st hg
    subst hP hw hK
    obtain ⟨⟨old, he⟩, hit, hne⟩ := st
    obtain ⟨xs, hq, hx⟩ := hg
    obtain ⟨its, rv, ⟨ot, p1, p2, n3, p4⟩, hz⟩ := I.tuple hq
    have hT : s.heap.IsTuple a its.toArray := ⟨ot, p1, p2, n3, p4⟩
    obtain ⟨f0, f1, f2, f3, f4, f5⟩ := hf it (by simp)
    have hl := rv.length
    have hs : its.toArray.size = i := by rw [List.size_toArray, ← hl, hx]
    subst hs
    exact wpAny_pyNext_enum_endD (Draws.tuple (A := X.A.in1) (show X.A.in1.handled = none from I.ok.hd hc) it a hai its.toArray) he ⟨hit, hT⟩ fun h' eb => ⟨rfl, I.turned (t' := s.toks) (fun b o hb q => eb b o hb q) f0 f1 f3 f4 f5⟩
  self := fun A i s Q E st h => let ⟨⟨_, he⟩, _⟩ := st; wpAny_pyIter_enum he h
def iEnumT (K : PySem.W.Frag) (ta : TA) : TI := fun σ H R => ta σ H fun vs H1 => ∃ a xs, vs = [.ref a] ∧ ((SqL K H1 a xs ∧ R (Ite K a) H1) ∨ (SqT K H1 a xs ∧ R (Itet K a) H1))
theorem pienumT (K : PySem.W.Frag) {X : Cx} {e : Expr} {ta : TA} {p pos tpos : Pos} {elts : List Expr} {kk : Nat} (hg : Gl X "enumerate") (hm : X.mg "enumerate" = none) (ha : PA X [e] ta) (hs : starEach [e] X.env = [(false, eval e X.env)] := by rfl) (hK : X.K = K := by rfl) :
    PI X (.Tuple elts kk tpos) (.Call (.Name "enumerate" p) [e] [] pos) (iEnumT K ta) := by
  subst hK
  refine ⟨fun pins s σ H R I h => ?_⟩
  refine Call_ (ld_blt I hg hm boot_enumerate (PyProof.Rows.callWith_type1 (thn (ha.run pos pins s σ H _ I h) fun us s1 ⟨vs, H1, I1, r1, q1⟩ => ?_) hs rfl))
  obtain ⟨a, xs, ex, q⟩ := q1
  subst ex
  cases r1 with
  | cons r rr =>
    cases rr
    cases r
    rcases q with ⟨hq, q⟩ | ⟨hq, q⟩
    · obtain ⟨its, rv, p', hz⟩ := I1.list hq
      refine call_enumerate_list p'.isList fun h' he hit hsz hk => wpAny_pyIter_enum he ?_
      have I2 : Inv X pins σ H1 { s1 with heap := h' } := I1.kept (t' := s1.toks) hk
      refine ⟨s1.heap.objs.size + 1, [s1.heap.objs.size + 1, s1.heap.objs.size], _, _, H1, rfl, I2, turn_enum a (s1.heap.objs.size + 1) s1.heap.objs.size, ⟨⟨.none, he⟩, hit, Nat.succ_ne_self _⟩, fun b hb => ?_, q⟩
      have e' : b = s1.heap.objs.size + 1 ∨ b = s1.heap.objs.size := by simpa using hb
      have hle : s1.heap.objs.size ≤ b := by
        rcases e' with z | z
        · rw [z]; exact Nat.le_add_right _ _
        · rw [z]; exact Nat.le_refl _
      exact I1.fpOk hle (I1.hok.fresh hle)
    · obtain ⟨its, rv, ⟨ot, p1, p2, n3, p4⟩, hz⟩ := I1.tuple hq
      have hT : s1.heap.IsTuple a its.toArray := ⟨ot, p1, p2, n3, p4⟩
      have hal : a < s1.heap.objs.size := Heap.lt_size p1
      refine call_enumerate_begins (begins_tuple a its.toArray) hT fun h' he hit hsz hk => wpAny_pyIter_enum he ?_
      have I2 : Inv X pins σ H1 { s1 with heap := h' } := I1.kept (t' := s1.toks) hk
      refine ⟨s1.heap.objs.size + 1, [s1.heap.objs.size + 1, s1.heap.objs.size], _, _, H1, rfl, I2, turn_enumT a (s1.heap.objs.size + 1) s1.heap.objs.size (Nat.ne_of_lt hal) (Nat.ne_of_gt (Nat.lt_succ_of_lt hal)), ⟨⟨.none, he⟩, ⟨_, hit, rfl, rfl⟩, Nat.succ_ne_self _⟩, fun b hb => ?_, q⟩
      have e' : b = s1.heap.objs.size + 1 ∨ b = s1.heap.objs.size := by simpa using hb
      have hle : s1.heap.objs.size ≤ b := by
        rcases e' with z | z
        · rw [z]; exact Nat.le_add_right _ _
        · rw [z]; exact Nat.le_refl _
      exact I1.fpOk hle (I1.hok.fresh hle)
theorem walk_enumT {K : PySem.W.Frag} {a : Addr} {xs : List V} : Walk (Itet K a) xs.length (fun H => SqT K H a xs) (YPair (fun i => some (.int (i : Nat))) (fun i => xs[i]?)) :=
  ⟨fun i H hi h => ⟨xs, xs[i], h, List.getElem?_eq_getElem hi⟩, fun H h => ⟨xs, h, rfl⟩, fun i H x H' hi h ⟨T, y, e1, e2, e3, e4⟩ => ⟨T, .int (i : Nat), y, e1, e2, e3, rfl, e4 xs h⟩⟩
end K25

namespace K25
open PySem PySem.Spec PyProof.Rows L2
/-! ### built-in names -/
theorem bt_len : bootBuiltins "len" = some (.builtin "len") := by decide +kernel
theorem bt_isinstance : bootBuiltins "isinstance" = some (.builtin "isinstance") := by decide +kernel
theorem bt_all : bootBuiltins "all" = some (.builtin "all") := by decide +kernel
theorem bt_any : bootBuiltins "any" = some (.builtin "any") := by decide +kernel
theorem bt_sum : bootBuiltins "sum" = some (.builtin "sum") := by decide +kernel
theorem bt_list : bootBuiltins "list" = some (.type "list") := by decide +kernel
theorem bt_tuple : bootBuiltins "tuple" = some (.type "tuple") := by decide +kernel
theorem bt_dict : bootBuiltins "dict" = some (.type "dict") := by decide +kernel
theorem bt_int : bootBuiltins "int" = some (.type "int") := by decide +kernel
theorem bt_bool : bootBuiltins "bool" = some (.type "bool") := by decide +kernel
theorem bt_str : bootBuiltins "str" = some (.type "str") := by decide +kernel
def signs : Str := "abcdefghijklmnopqrstuvwxyz0123456789."
/-- the module's facts: free names, the class -/
structure Txt (K : PySem.W.Frag) (mg : Str → Option Value) (C : Addr) : Prop where
  len : mg "len" = none
  isi : mg "isinstance" = none
  list : mg "list" = none
  tuple : mg "tuple" = none
  dict : mg "dict" = none
  int : mg "int" = none
  bool : mg "bool" = none
  str : mg "str" = none
  all : mg "all" = none
  any : mg "any" = none
  range : mg "range" = none
  enumerate : mg "enumerate" = none
  zip : mg "zip" = none
  sum : mg "sum" = none
  sig : ∃ t, mg "NAME_SIGNS" = some (.str signs t)
  cl : Cls K C
  nA : NoAttr K C "own_arcs"
  nN : NoAttr K C "own_nodes"
  nR : NoAttr K C "own_rings"
  mgC : mg "Net" = some (.ref C)
/-! ### methods -/
section
variable (P : Program) (w : World) (K : PySem.W.Frag) (mg : Str → Option Value) (base : Heap) (C : Addr)
def HasM (m qual : Str) (st : Stmt) : Prop := ∃ (f : Addr) (fd : FuncData), Meth K C m f ∧ FunD K m qual (defArgs st) (defBody st) (defScope st) [] [] f fd
def CalM (m : Str) (k : Nat) (ps : List Str) (sp : Sp) : Prop := ∃ (f : Addr) (fd : FuncData), Meth K C m f ∧ FnOk P w K mg base CX0 k f fd ps sp ∧ Binds K fd ps []
def CalI (k : Nat) (ps : List Str) (sp : Sp) : Prop := ∃ (f : Addr) (fd : FuncData), Mk K C f ∧ mg "Net" = some (.ref C) ∧ FnOk P w K mg base CX0 k f fd ps sp ∧ Binds K fd ps []
end
section
variable {P : Program} {w : World} {K : PySem.W.Frag} {mg : Str → Option Value} {base : Heap} {C : Addr}
theorem HasM.cal {m qual : Str} {st : Stmt} {N ps : List Str} {k : Nat} {sp : Sp} (h : HasM K C m qual st) (S : FnScope N ps (defScope st)) (len : ∀ vs H Q E, sp vs H Q E → vs.length = ps.length)
    (hb : ∀ (kV doc pm : Value) (an : Option Addr) (cdv ct : Value) (us : List Value), us.length = ps.length → bindArgs (PySem.W.fnOf m qual (defArgs st) (defBody st) (defScope st) .none kV doc pm an cdv ct) ⟨us, []⟩ = pure (ps.zip us))
    (hbody : ∀ (f : Addr) (cdv : Value) (A : Around) (outer : List Env) (s : Shared) (H : Hp) (vs : List V) (Q : VK) (E : XK), Room k (A.deeper (envOfC qual (defScope st) s.heap.objs.size f cdv)) → sp vs H Q E →
      ∃ t, PSs (cxOf CX0 P w K mg base N qual (defScope st) f cdv A outer s H E).nox (defBody st) t ∧ t { nx := fun _ H' => Q .non H', rt := Q } (start N vs) H) : CalM P w K mg base C m (k + 1) ps sp := by
  obtain ⟨f, fd, g, F⟩ := h
  refine ⟨f, fd, g, F.ok S len fun cdv A outer s H vs Q E hr h => ?_, F.bindsN fun kV doc pm an cdv ct us hl => hb kV doc pm an cdv ct us hl⟩
  obtain ⟨t, h1, h2⟩ := hbody f cdv A outer s H vs Q E hr h
  exact ⟨t, h1.nox, h2⟩
theorem pe_methC {X : Cx} {pl : Sem Bool} {o e : Expr} {m : Str} {apos pos : Pos} {k : Nat} {ps : List Str} {sp : Sp} {es : List Expr} {ta : TE} {t : TA} (he : PE X o ta) (c : Cls X.K C) (cm : CalM X.prog X.w X.K X.mg X.base C m k ps sp) (hr : Room k X.A) (ha : PA X (e :: es) t)
    (hst : starEach (e :: es) X.env = (false, eval e X.env) :: starEach es X.env := by rfl) (hpl : (backTo pos (starEach es X.env)).any (·.1) = false := by rfl)
    (ht : eval (.Call (.Attribute o m apos) (e :: es) [] pos) X.env = (do
      let ov ← eval o X.env
      standAt apos.atName
      let (f, first) ← holding [ov] (getMethod ov m pl)
      callWith pos f first (backTo pos (starEach (e :: es) X.env)) (backToKw pos (keywordEach [] X.env))) := by rfl) :
    PE X (.Call (.Attribute o m apos) (e :: es) [] pos) (tMeth C m sp [] E0 ta t) := by
  obtain ⟨f, fd, g, F, b⟩ := cm
  exact pe_meth (pl := pl) he c g F hr b .nil pass0 ha hst hpl ht
theorem pe_methC0 {X : Cx} {pl : Sem Bool} {o : Expr} {m : Str} {apos pos : Pos} {k : Nat} {ps : List Str} {sp : Sp} {ta : TE} (he : PE X o ta) (c : Cls X.K C) (cm : CalM X.prog X.w X.K X.mg X.base C m k ps sp) (hr : Room k X.A)
    (ht : eval (.Call (.Attribute o m apos) [] [] pos) X.env = (do
      let ov ← eval o X.env
      standAt apos.atName
      let (f, first) ← holding [ov] (getMethod ov m pl)
      callWith pos f first [] []) := by rfl) :
    PE X (.Call (.Attribute o m apos) [] [] pos) (tMeth C m sp [] E0 ta tNil) := by
  obtain ⟨f, fd, g, F, b⟩ := cm
  exact pe_meth0 (pl := pl) he c g F hr b .nil pass0 ht
theorem pe_makeC {X : Cx} {e : Expr} {es : List Expr} {t : TA} {p pos : Pos} {k : Nat} {ps : List Str} {sp : Sp} (c : CalI X.prog X.w X.K X.mg X.base C k ps sp) (hr : Room (k + 1) X.A) (hg : Gl X "Net") (ha : PA X (e :: es) t)
    (he : starEach (e :: es) X.env = (false, eval e X.env) :: starEach es X.env := by rfl) (hpl : (backTo pos (starEach es X.env)).any (·.1) = false := by rfl) :
    PE X (.Call (.Name "Net" p) (e :: es) [] pos) (tMake C sp [] E0 t) := by
  obtain ⟨f, fd, M, g, F, b⟩ := c
  exact pe_make M F hr hg g b .nil pass0 ha (by decide) he hpl
end
/-! ### heaps -/
/-- all that H tells stands -/
theorem _root_.L2.Same.ne {H H' : Hp} {p a : Addr} {o : HO} (e : Same H H') (hp : H p = none) (ha : H a = some o) : a ≠ p := ne_of_none ha hp
theorem _root_.L2.Same.new {H : Hp} {p : Addr} {o : HO} (h : H p = none) : Same H (upd H p o) := fun a u e => by
  rw [upd_ne (ne_of_none e h)]
  exact e
/-- what H does not know may change -/
theorem _root_.L2.Same.mut {H H' : Hp} {p : Addr} {o : HO} (e : Same H H') (h : H p = none) : Same H (upd H' p o) := fun a u ha => by
  rw [upd_ne (ne_of_none ha h)]
  exact e a u ha
theorem _root_.L2.Same.rd {H H' : Hp} {a : Addr} {u : HO} (e : Same H H') (h : Rd H a u) : Rd H' a u := by
  rcases h with h | ⟨o, h⟩
  · exact .inl (e _ _ h)
  · exact .inr ⟨o, e _ _ h⟩
theorem _root_.L2.Same.tup {K : PySem.W.Frag} {H H' : Hp} {a : Addr} {xs : List V} (e : Same H H') (h : SqT K H a xs) : SqT K H' a xs := by
  rcases h with h | h
  · exact .inl (e.rd h)
  · exact .inr h
end K25

namespace K25
open PySem PySem.Spec PyProof.Rows L2
/-! ### comprehensions over any walk -/
/-- all but D stands -/
def SameX (D : Addr) (H H' : Hp) : Prop := ∀ a o, a ≠ D → H a = some o → H' a = some o
theorem SameX.of {D : Addr} {H H' : Hp} (e : Same H H') : SameX D H H' := fun a o _ h => e a o h
theorem SameX.upd {D : Addr} {H : Hp} {o : HO} : SameX D H (upd H D o) := fun a u h e => by rw [upd_ne h]; exact e
theorem SameX.trans {D : Addr} {H H1 H2 : Hp} (a : SameX D H H1) (b : SameX D H1 H2) : SameX D H H2 := fun x o h e => b x o h (a x o h e)
section
variable {J : It} {n : Nat} {G : Hp → Prop} {Y : Nat → Hp → V → Hp → Prop} {g : TG} {tt : TT} {te tk tv : TE} {vs : List Nat} {σ : L2.St} {H0 H1 : Hp} {D : Addr} {Qd : Hp → Prop}
/-- [..]: Acc by the turn, the list so far and the heap (it leaves D out) -/
theorem lcA (w : Walk J n G Y) (Acc : Nat → List V → Hp → Prop) (e1 : Same H0 H1) (hD : H1 D = none) (hn : n < sizeLine) (len : ∀ i ys H, Acc i ys H → ys.length ≤ i)
    (mono : ∀ i ys H H', SameX D H H' → Acc i ys H → Acc i ys H') (h0 : Acc 0 [] (upd H1 D (.lst []))) (hG : ∀ H, Same H0 H → G H)
    (hs : ∀ i x H H' ys, i < n → Same H0 H → H0 D = none → H D = some (.lst ys) → Acc i ys H → Y i H x H' → ∀ (R : V → Hp → Prop) (R' : Hp → Prop),
      (∀ y H4, Same H0 H4 → H4 D = some (.lst ys) → Acc (i + 1) (ys ++ [y]) H4 → R y H4) → (∀ H3, Same H0 H3 → H3 D = some (.lst ys) → Acc (i + 1) ys H3 → R' H3) →
      g x (wipe σ vs) H' fun σ2 H2 => wipe σ2 vs = wipe σ vs ∧ tt σ2 H2 fun b H3 => if b = true then te σ2 H3 R else R' H3)
    (hd : ∀ ys H, Same H0 H → H D = some (.lst ys) → Acc n ys H → Qd H) :
    ∃ W : Nat → Nat → Hp → Prop, (∃ m, W 0 m (upd H1 D (.lst []))) ∧ ∀ i m H, W i m H →
      (J.stop i H ∧ Qd H) ∨ (J.go i H ∧ ∃ Nx : Hp → Prop, (∀ H', Nx H' → ∃ m', m' < m ∧ W (i + 1) m' H') ∧ ∀ x H', J.yld i H x H' → g x (wipe σ vs) H' fun σ2 H2 => wipe σ2 vs = wipe σ vs ∧ tt σ2 H2 fun b H3 =>
        if b = true then te σ2 H3 fun y H4 => ∃ acc, H4 D = some (.lst acc) ∧ acc.length < sizeLine ∧ Nx (upd H4 D (.lst (acc ++ [y]))) else Nx H3) := by
  have h0D : H0 D = none := e1.free hD
  refine lc_it w (Pv := fun i H => Same H0 H ∧ ∃ ys, H D = some (.lst ys) ∧ Acc i ys H) ⟨e1.mut h0D, [], upd_same, h0⟩ (fun i H _ h => hG H h.1) ?_ (fun H h => ?_)
  · rintro i x H H' hi ⟨e, ys, hy, ha⟩ hY
    refine hs i x H H' ys hi e h0D hy ha hY (fun y H4 => ∃ acc, H4 D = some (.lst acc) ∧ acc.length < sizeLine ∧ Same H0 (upd H4 D (.lst (acc ++ [y]))) ∧ ∃ ys', upd H4 D (.lst (acc ++ [y])) D = some (.lst ys') ∧ Acc (i + 1) ys' (upd H4 D (.lst (acc ++ [y])))) (fun H3 => Same H0 H3 ∧ ∃ ys, H3 D = some (.lst ys) ∧ Acc (i + 1) ys H3) ?_ ?_
    · intro y H4 e4 h4 a4
      have := len _ _ _ ha
      exact ⟨ys, h4, by omega, e4.mut h0D, _, upd_same, mono _ _ _ _ SameX.upd a4⟩
    · intro H3 e3 h3 a3
      exact ⟨e3, ys, h3, a3⟩
  · obtain ⟨e, ys, hy, ha⟩ := h
    exact hd ys H e hy ha
/-- what the turns below i give -/
def gath (c : Nat → Bool) (f : Nat → V) (i : Nat) : List V := ((List.range i).filter c).map f
theorem gath_succ (c : Nat → Bool) (f : Nat → V) (i : Nat) : gath c f (i + 1) = if c i = true then gath c f i ++ [f i] else gath c f i := by
  unfold gath
  rw [List.range_succ, List.filter_append, List.map_append, List.filter_cons]
  split
  · rfl
  · simp
theorem gath_len (c : Nat → Bool) (f : Nat → V) (i : Nat) : (gath c f i).length ≤ i := by
  unfold gath
  rw [List.length_map]
  have h := List.length_filter_le c (List.range i)
  rw [List.length_range] at h
  exact h
/-- [..] of plain values -/
theorem lcV (w : Walk J n G Y) (c : Nat → Bool) (f : Nat → V) (e1 : Same H0 H1) (hD : H1 D = none) (hn : n < sizeLine) (hG : ∀ H, Same H0 H → G H)
    (hs : ∀ i x H H', i < n → Same H0 H → Y i H x H' → ∀ (R : V → Hp → Prop) (R' : Hp → Prop),
      (c i = true → ∀ H4, Same H H4 → R (f i) H4) → (c i = false → ∀ H3, Same H H3 → R' H3) →
      g x (wipe σ vs) H' fun σ2 H2 => wipe σ2 vs = wipe σ vs ∧ tt σ2 H2 fun b H3 => if b = true then te σ2 H3 R else R' H3)
    (hd : ∀ H, Same H0 H → H D = some (.lst (gath c f n)) → Qd H) :
    ∃ W : Nat → Nat → Hp → Prop, (∃ m, W 0 m (upd H1 D (.lst []))) ∧ ∀ i m H, W i m H →
      (J.stop i H ∧ Qd H) ∨ (J.go i H ∧ ∃ Nx : Hp → Prop, (∀ H', Nx H' → ∃ m', m' < m ∧ W (i + 1) m' H') ∧ ∀ x H', J.yld i H x H' → g x (wipe σ vs) H' fun σ2 H2 => wipe σ2 vs = wipe σ vs ∧ tt σ2 H2 fun b H3 =>
        if b = true then te σ2 H3 fun y H4 => ∃ acc, H4 D = some (.lst acc) ∧ acc.length < sizeLine ∧ Nx (upd H4 D (.lst (acc ++ [y]))) else Nx H3) := by
  refine lcA w (fun i ys _ => ys = gath c f i) e1 hD hn (fun i ys _ h => by rw [h]; exact gath_len c f i) (fun _ _ _ _ _ h => h) rfl hG ?_ (fun ys H e hy ha => hd H e (by rw [hy, ha]))
  intro i x H H' ys hi e h0D hy ha hY R R' hR hR'
  refine hs i x H H' hi e hY R R' (fun hc H4 e4 => hR _ H4 (e.trans e4) (e4 _ _ hy) ?_) (fun hc H3 e3 => hR' H3 (e.trans e3) (e3 _ _ hy) ?_)
  · rw [gath_succ, if_pos hc, ha]
  · rw [gath_succ, if_neg (by rw [hc]; decide), ha]
/-- {..}: Acc by the turn, the pairs so far and the heap (it leaves D out) -/
theorem dcA (w : Walk J n G Y) (Acc : Nat → List (Key × V) → Hp → Prop) (e1 : Same H0 H1) (hD : H1 D = none) (hn : n < sizeLine) (len : ∀ i ys H, Acc i ys H → ys.length ≤ i)
    (mono : ∀ i ys H H', SameX D H H' → Acc i ys H → Acc i ys H') (h0 : Acc 0 [] (upd H1 D (.dK []))) (hG : ∀ H, Same H0 H → G H)
    (hs : ∀ i x H H' ys, i < n → Same H0 H → H0 D = none → H D = some (.dK ys) → Acc i ys H → Y i H x H' → ∀ (R : V → V → Hp → Prop) (R' : Hp → Prop),
      (∀ k z H5, Same H0 H5 → H5 D = some (.dK ys) → Acc (i + 1) (putK ys k z) H5 → R (kV k) z H5) → (∀ H3, Same H0 H3 → H3 D = some (.dK ys) → Acc (i + 1) ys H3 → R' H3) →
      g x (wipe σ vs) H' fun σ2 H2 => wipe σ2 vs = wipe σ vs ∧ tt σ2 H2 fun b H3 => if b = true then tk σ2 H3 fun y H4 => tv σ2 H4 fun z H5 => R y z H5 else R' H3)
    (hd : ∀ ys H, Same H0 H → H D = some (.dK ys) → Acc n ys H → Qd H) :
    ∃ W : Nat → Nat → Hp → Prop, (∃ m, W 0 m (upd H1 D (.dK []))) ∧ ∀ i m H, W i m H →
      (J.stop i H ∧ Qd H) ∨ (J.go i H ∧ ∃ Nx : Hp → Prop, (∀ H', Nx H' → ∃ m', m' < m ∧ W (i + 1) m' H') ∧ ∀ x H', J.yld i H x H' → g x (wipe σ vs) H' fun σ2 H2 => wipe σ2 vs = wipe σ vs ∧ tt σ2 H2 fun b H3 =>
        if b = true then tk σ2 H3 fun y H4 => tv σ2 H4 fun z H5 => ∃ kvs k, y = kV k ∧ H5 D = some (.dK kvs) ∧ kvs.length < sizeLine ∧ Nx (upd H5 D (.dK (putK kvs k z))) else Nx H3) := by
  have h0D : H0 D = none := e1.free hD
  refine ⟨fun i m H => m = n - i ∧ i ≤ n ∧ Same H0 H ∧ ∃ ys, H D = some (.dK ys) ∧ Acc i ys H, ⟨n, by simp, Nat.zero_le _, e1.mut h0D, [], upd_same, h0⟩, ?_⟩
  rintro i m H ⟨rfl, hi, e, ys, hy, ha⟩
  have q := hG H e
  by_cases hlt : i < n
  · refine .inr ⟨w.goes i H hlt q, fun H' => Same H0 H' ∧ ∃ ys, H' D = some (.dK ys) ∧ Acc (i + 1) ys H', fun H' p' => ⟨n - (i + 1), by omega, rfl, hlt, p'⟩, fun x H' y => ?_⟩
    refine hs i x H H' ys hlt e h0D hy ha (w.yields i H x H' hlt q y) (fun y z H5 => ∃ kvs k, y = kV k ∧ H5 D = some (.dK kvs) ∧ kvs.length < sizeLine ∧ Same H0 (upd H5 D (.dK (putK kvs k z))) ∧ ∃ ys', upd H5 D (.dK (putK kvs k z)) D = some (.dK ys') ∧ Acc (i + 1) ys' (upd H5 D (.dK (putK kvs k z)))) (fun H3 => Same H0 H3 ∧ ∃ ys, H3 D = some (.dK ys) ∧ Acc (i + 1) ys H3) ?_ ?_
    · intro k z H5 e5 h5 a5
      have := len _ _ _ ha
      exact ⟨ys, k, rfl, h5, by omega, e5.mut h0D, _, upd_same, mono _ _ _ _ SameX.upd a5⟩
    · intro H3 e3 h3 a3
      exact ⟨e3, ys, h3, a3⟩
  · have e' : i = n := by omega
    subst e'
    exact .inl ⟨w.stops H q, hd ys H e hy ha⟩
end
/-- no tests -/
theorem yesT {σ : L2.St} {H : Hp} {A B : Hp → Prop} (h : A H) : tYes σ H (fun b H3 => if b = true then A H3 else B H3) := h
/-! ### arcs in the heap -/
theorem small_lt {n : Nat} (h : n < 100000) : n < sizeLine := Nat.lt_of_lt_of_le h (by decide)
theorem small_le {n : Nat} (h : n ≤ 100000) : n ≤ sizeLine := Nat.le_trans h (by decide)
section
/-- pairs of names and tuples of two nodes -/
def ArcP (H : Hp) (kv : Key × V) (a : Arc Str) : Prop := kv.1 = Sum.inr a.1 ∧ ∃ t, kv.2 = .ref t ∧ H t = some (.tup [.str a.2.1, .str a.2.2])
def ArcsK (H : Hp) (kvs : List (Key × V)) (A : List (Arc Str)) : Prop := Paired (ArcP H) kvs A
/-- a locked dict of arcs -/
def FArcs (H : Hp) (d : Addr) (A : List (Arc Str)) : Prop := ∃ o kvs, H d = some (.frz o (.dK kvs)) ∧ ArcsK H kvs A
end
section
variable {H H' : Hp} {kvs : List (Key × V)} {A : List (Arc Str)} {d : Addr}
theorem ArcsK.mono (e : ∀ t xs, H t = some (.tup xs) → H' t = some (.tup xs)) (h : ArcsK H kvs A) : ArcsK H' kvs A := by
  unfold ArcsK at *
  induction h with
  | nil => exact .nil
  | cons h _ ih =>
    obtain ⟨h1, t, h2, h3⟩ := h
    exact .cons ⟨h1, t, h2, e _ _ h3⟩ ih
theorem ArcsK.same (e : Same H H') (h : ArcsK H kvs A) : ArcsK H' kvs A := h.mono fun _ _ z => e _ _ z
theorem FArcs.same (e : Same H H') (h : FArcs H d A) : FArcs H' d A := by
  obtain ⟨o, kvs, h1, h2⟩ := h
  exact ⟨o, kvs, e _ _ h1, h2.same e⟩
theorem ArcsK.len (h : ArcsK H kvs A) : kvs.length = A.length := Paired.length h
theorem ArcsK.at (h : ArcsK H kvs A) : ∀ {i : Nat} {a : Arc Str}, A[i]? = some a → ∃ t, kvs[i]? = some (Sum.inr a.1, V.ref t) ∧ H t = some (.tup [.str a.2.1, .str a.2.2]) := by
  unfold ArcsK at h
  induction h with
  | nil => intro i a e; simp at e
  | @cons kv b _ _ h _ ih =>
    intro i a e
    cases i with
    | zero =>
      have e' : b = a := by simpa using e
      subst e'
      obtain ⟨h1, t, h2, h3⟩ := h
      obtain ⟨k, v⟩ := kv
      have h1' : k = Sum.inr b.1 := h1
      have h2' : v = V.ref t := h2
      exact ⟨t, by rw [h1', h2']; rfl, h3⟩
    | succ i => exact ih (i := i) (by simpa using e)
theorem ArcsK.at' (h : ArcsK H kvs A) {i : Nat} {k : Key} {v : V} (e : kvs[i]? = some (k, v)) : ∃ a t, A[i]? = some a ∧ k = Sum.inr a.1 ∧ v = .ref t ∧ H t = some (.tup [.str a.2.1, .str a.2.2]) := by
  have hi : i < A.length := by rw [← h.len]; exact (List.getElem?_eq_some_iff.mp e).1
  obtain ⟨t, h1, h2⟩ := h.at (List.getElem?_eq_getElem hi)
  rw [e] at h1
  injection h1 with h1
  injection h1 with h3 h4
  exact ⟨A[i], t, List.getElem?_eq_getElem hi, h3, h4, h2⟩
theorem ArcsK.val (h : ArcsK H kvs A) (hN : Names A) {a : Arc Str} (ha : a ∈ A) : ∃ t, valV kvs (Sum.inr a.1) = some (.ref t) ∧ H t = some (.tup [.str a.2.1, .str a.2.2]) := by
  unfold ArcsK at h
  unfold Names at hN
  induction h with
  | nil => exact absurd ha (by simp)
  | @cons kv b _ _ h _ ih =>
    rw [List.map_cons, List.nodup_cons] at hN
    obtain ⟨h1, t, h2, h3⟩ := h
    rcases List.mem_cons.mp ha with e | ha
    · subst e
      exact ⟨t, by rw [valV_pos h1, h2], h3⟩
    · have hne : ¬ kv.1 = Sum.inr a.1 := fun z => by
        rw [h1] at z
        exact hN.1 (List.mem_map.mpr ⟨a, ha, (Sum.inr.inj z).symm⟩)
      rw [valV_neg hne]
      exact ih hN.2 ha
theorem FArcs.get (h : FArcs H d A) (hN : Names A) {a : Arc Str} (ha : a ∈ A) : ∃ t, DGet H d (.str a.1) (some (.ref t)) ∧ H t = some (.tup [.str a.2.1, .str a.2.2]) := by
  obtain ⟨o, kvs, h1, h2⟩ := h
  obtain ⟨t, h3, h4⟩ := h2.val hN ha
  exact ⟨t, .inl ⟨kvs, Sum.inr a.1, .inr ⟨o, h1⟩, rfl, h3.symm⟩, h4⟩
/-- inV on texts -/
theorem inV_str (x : Str) (xs : List Str) : inV (.str x) (xs.map V.str) = decide (x ∈ xs) := by
  unfold inV
  induction xs with
  | nil => rfl
  | cons y ys ih =>
    rw [List.map_cons, List.any_cons, ih]
    have e : L2.eqV (V.str y) (V.str x) = decide (x = y) := by
      show (y == x) = decide (x = y)
      by_cases q : x = y
      · subst q
        simp
      · rw [decide_eq_false q]
        exact beq_eq_false_iff_ne.mpr fun z => q z.symm
    rw [e]
    by_cases q : x = y <;> simp [q]
theorem flat_strs (xs : List Str) : (xs.map V.str).all flatV = true := by
  rw [List.all_map]
  exact List.all_eq_true.mpr fun _ _ => rfl
end
end K25

namespace K25
open PySem PySem.Spec PyProof.Rows L2
/-! ### steps of a reading, by their heads -/
section
variable {K : PySem.W.Frag} {σ : L2.St} {H H0 H1 : Hp} {t u tb : TS} {te ta tl td ty tk tv : TE} {tt : TT} {D : Ends} {i j : Nat} {v x y : V} {g : TG} {Q : VK} {vs : List Nat}
theorem sq (h : t { D with nx := u D } σ H) : tSeq t u D σ H := h
theorem gn {R : L2.St → Hp → Prop} (h : R (σ.set i (some v)) H) : gName i v σ H R := h
theorem asg (h : te σ H fun x H1 => g x σ H1 D.nx) : tAsg te g D σ H := h
theorem drop (h : te σ H fun _ H1 => D.nx σ H1) : tDrop te D σ H := h
theorem ret (h : te σ H D.rt) : tRet te D σ H := h
theorem nxt (h : D.nx σ H) : tNext D σ H := h
theorem cb {r : List V → Hp → VK → Prop} {ta : TA} (h : ta σ H fun vs H1 => r vs H1 Q) : tCB r ta σ H Q := h
theorem ac {tr : TA} {R : List V → Hp → Prop} (h : ta σ H fun x H1 => tr σ H1 fun xs H2 => R (x :: xs) H2) : tCons ta tr σ H R := h
theorem ifs {c : TT} (h : c σ H fun b H1 => if b = true then t D σ H1 else u D σ H1) : tIfS c t u D σ H := h
theorem tst {R : Bool → Hp → Prop} (h : te σ H fun x H' => ∃ k, x = .bl k ∧ R k H') : tTest te σ H R := h
theorem opn {r : R2} {tb : TE} (h : ta σ H fun x H1 => tb σ H1 fun y H2 => r x y H2 Q) : tOp r ta tb σ H Q := h
theorem nt {c : TT} {R : Bool → Hp → Prop} (h : c σ H fun b H1 => R (!b) H1) : tNot c σ H R := h
theorem tbs {R : Bool → Hp → Prop} (h : te σ H fun x H' => ∃ k, x = .bl k ∧ R k H') : tB te σ H R := h
theorem nx2 {w : TS} {rt : VK} {bk ct : L2.St → Hp → Prop} (h : w D σ H) : tNext { nx := w D, rt := rt, bk := bk, ct := ct } σ H := h
theorem gn2 {w : TS} {rt : VK} {bk ct : L2.St → Hp → Prop} (h : w D (σ.set i (some v)) H) : gName i v σ H (Ends.nx { nx := w D, rt := rt, bk := bk, ct := ct }) := h
theorem ds {w : L2.St → Hp → Prop} {rt : VK} {bk ct : L2.St → Hp → Prop} (h : w σ H) : Ends.nx { nx := w, rt := rt, bk := bk, ct := ct } σ H := h
theorem par {ta : TA} (h : ta σ H fun xs H1 => ∃ x y, xs = [x, y] ∧ D.nx ((σ.set i (some x)).set j (some y)) H1) : tPar i j ta D σ H := h
/-! ### what is read without a change -/
def Val (te : TE) (σ : L2.St) (H : Hp) (v : V) : Prop := ∀ Q : VK, Q v H → te σ H Q
theorem val_var (h : σ[i]? = some (some v)) : Val (tVar i) σ H v := fun _ q => ⟨v, h, q⟩
theorem val_c : Val (tC v) σ H v := fun _ q => q
theorem val_fld {a C dx : Addr} {fs : List (Str × V)} {f : Str} (h : Val ta σ H (.ref a)) (ho : H a = some (.ins C dx fs)) (hc : Cls K C) (hn : NoAttr K C f) (hl : fs.lookup f = some v) : Val (tFld K ta f) σ H v :=
  fun _ q => h _ ⟨a, C, dx, fs, v, rfl, ho, hc, hn, hl, q⟩
theorem val_ixT {p : Addr} {xs : List V} {k : Int} {tb : TE} (h : Val ta σ H (.ref p)) (hb : Val tb σ H (.int k)) (hp : SqT K H p xs) (ha : atI xs k = some v) : Val (tOp (rIxT K) ta tb) σ H v :=
  fun _ q => h _ (hb _ ⟨p, xs, k, v, rfl, rfl, hp, ha, q⟩)
theorem val_ixL {p : Addr} {xs : List V} {k : Int} {tb : TE} (h : Val ta σ H (.ref p)) (hb : Val tb σ H (.int k)) (hp : SqL K H p xs) (ha : atI xs k = some v) : Val (tOp (rIxL K) ta tb) σ H v :=
  fun _ q => h _ (hb _ ⟨p, xs, k, v, rfl, rfl, hp, ha, q⟩)
theorem val_dget {d : Addr} (h : Val td σ H (.ref d)) (hy : Val ty σ H y) (g : DGet H d y (some v)) : Val (tDGet td ty) σ H v :=
  fun _ q => h _ (hy _ ⟨d, v, rfl, g, q⟩)
/-! ### loops, in one form -/
theorem for_w {J : It} {n : Nat} {G : Hp → Prop} {Y : Nat → Hp → V → Hp → Prop} (w : Walk J n G Y) (Pv : Nat → L2.St → Hp → Prop) (h0 : Pv 0 σ H) (hG : ∀ i σ H, i ≤ n → Pv i σ H → G H)
    (hs : ∀ i x σ H H', i < n → Pv i σ H → Y i H x H' → g x σ H' fun σ2 H2 => tb { D with nx := Pv (i + 1), ct := Pv (i + 1), bk := D.nx } σ2 H2) (hd : ∀ σ H, Pv n σ H → D.nx σ H) :
    ∃ W : Nat → Nat → L2.St → Hp → Prop, (∃ m, W 0 m σ H) ∧ ∀ i m σ H, W i m σ H →
      (J.stop i H ∧ D.nx σ H) ∨ (J.go i H ∧ ∃ N : L2.St → Hp → Prop, (∀ σ' H', N σ' H' → ∃ m', m' < m ∧ W (i + 1) m' σ' H') ∧ ∀ x H', J.yld i H x H' → g x σ H' fun σ2 H2 => tb { D with nx := N, ct := N, bk := D.nx } σ2 H2) := for_it w Pv h0 hG hs hd
theorem for_vals {d : Addr} {o : Obj} {kvs : List (Key × V)} (hv : Val td σ H (.ref d)) (e : Same H0 H) (hd0 : H0 d = some (.frz o (.dK kvs))) (Pv : Nat → L2.St → Hp → Prop) (h0 : Pv 0 σ H) (hG : ∀ i σ H, i ≤ kvs.length → Pv i σ H → Same H0 H)
    (hs : ∀ i k x σ H, kvs[i]? = some (k, x) → Pv i σ H → g x σ H fun σ2 H2 => tb { D with nx := Pv (i + 1), ct := Pv (i + 1), bk := D.nx } σ2 H2) (hd : ∀ σ H, Pv kvs.length σ H → D.nx σ H) : tFor (iVals td) g tb D σ H :=
  hv _ ⟨d, o, kvs, rfl, e _ _ hd0, for_it (walk_values (d := d) (o := o) (kvs := kvs)) Pv h0 (fun i σ H hi p => hG i σ H hi p _ _ hd0) (fun i x σ H H' hi p ⟨e1, k, hk⟩ => by subst e1; exact hs i k x σ _ hk p) hd⟩
theorem for_keys {d : Addr} {o : Obj} {kvs : List (Key × V)} (hv : Val td σ H (.ref d)) (e : Same H0 H) (hd0 : H0 d = some (.frz o (.dK kvs))) (Pv : Nat → L2.St → Hp → Prop) (h0 : Pv 0 σ H) (hG : ∀ i σ H, i ≤ kvs.length → Pv i σ H → Same H0 H)
    (hs : ∀ i k v σ H, kvs[i]? = some (k, v) → Pv i σ H → g (kV k) σ H fun σ2 H2 => tb { D with nx := Pv (i + 1), ct := Pv (i + 1), bk := D.nx } σ2 H2) (hd : ∀ σ H, Pv kvs.length σ H → D.nx σ H) : tFor (iKeys td) g tb D σ H :=
  hv _ ⟨d, o, rfl, .inl ⟨kvs, e _ _ hd0, for_it (walk_keys (d := d) (o := o) (kvs := kvs)) Pv h0 (fun i σ H hi p => hG i σ H hi p _ _ hd0) (fun i x σ H H' hi p ⟨e1, k, v, hk, ex⟩ => by subst e1 ex; exact hs i k v σ _ hk p) hd⟩⟩
theorem for_lst {a : Addr} {xs : List V} (hv : Val tl σ H (.ref a)) (ha : SqL K H a xs) (Pv : Nat → L2.St → Hp → Prop) (h0 : Pv 0 σ H) (hG : ∀ i σ H, i ≤ xs.length → Pv i σ H → SqL K H a xs)
    (hs : ∀ i x σ H, xs[i]? = some x → Pv i σ H → g x σ H fun σ2 H2 => tb { D with nx := Pv (i + 1), ct := Pv (i + 1), bk := D.nx } σ2 H2) (hd : ∀ σ H, Pv xs.length σ H → D.nx σ H) : tFor (iList K tl) g tb D σ H :=
  hv _ ⟨a, rfl, ⟨xs, ha⟩, for_it (walk_list (xs := xs)) Pv h0 hG (fun i x σ H H' hi p ⟨e1, hx⟩ => by subst e1; exact hs i x σ _ hx p) hd⟩
theorem for_enT {a : Addr} {xs : List V} (hv : Val tl σ H (.ref a)) (e : Same H0 H) (ha : H0 a = some (.lst xs) ∨ H0 a = some (.tup xs)) (Pv : Nat → L2.St → Hp → Prop) (h0 : Pv 0 σ H) (hG : ∀ i σ H, i ≤ xs.length → Pv i σ H → Same H0 H)
    (hs : ∀ i x T σ H, xs[i]? = some x → Pv i σ H → H T = none → g (.ref T) σ (upd H T (.tup [.int (i : Nat), x])) fun σ2 H2 => tb { D with nx := Pv (i + 1), ct := Pv (i + 1), bk := D.nx } σ2 H2) (hd : ∀ σ H, Pv xs.length σ H → D.nx σ H) :
    tFor (iEnumT K (tCons tl tNil)) g tb D σ H := by
  refine hv _ ⟨a, xs, rfl, ?_⟩
  rcases ha with ha | ha
  · refine .inl ⟨SqL.of (e _ _ ha), for_it (walk_enum (xs := xs)) Pv h0 (fun i σ H hi p => SqL.of (hG i σ H hi p _ _ ha)) (fun i x σ H H' hi p ⟨T, y1, y2, e1, e2, e3, e4, e5⟩ => ?_) hd⟩
    subst e1 e3
    cases e4
    exact hs i y2 T σ H e5 p e2
  · refine .inr ⟨SqT.of (e _ _ ha), for_it (walk_enumT (xs := xs)) Pv h0 (fun i σ H hi p => SqT.of (hG i σ H hi p _ _ ha)) (fun i x σ H H' hi p ⟨T, y1, y2, e1, e2, e3, e4, e5⟩ => ?_) hd⟩
    subst e1 e3
    cases e4
    exact hs i y2 T σ H e5 p e2
theorem for_en {a : Addr} {xs : List V} (hv : Val tl σ H (.ref a)) (ha : SqL K H a xs) (Pv : Nat → L2.St → Hp → Prop) (h0 : Pv 0 σ H) (hG : ∀ i σ H, i ≤ xs.length → Pv i σ H → SqL K H a xs)
    (hs : ∀ i x T σ H, xs[i]? = some x → Pv i σ H → H T = none → g (.ref T) σ (upd H T (.tup [.int (i : Nat), x])) fun σ2 H2 => tb { D with nx := Pv (i + 1), ct := Pv (i + 1), bk := D.nx } σ2 H2) (hd : ∀ σ H, Pv xs.length σ H → D.nx σ H) :
    tFor (iEnum K (tCons tl tNil)) g tb D σ H := by
  refine hv _ ⟨a, xs, rfl, ha, for_it (walk_enum (xs := xs)) Pv h0 hG (fun i x σ H H' hi p ⟨T, y1, y2, e1, e2, e3, e4, e5⟩ => ?_) hd⟩
  subst e1 e3
  cases e4
  exact hs i y2 T σ H e5 p e2
theorem for_rng {n : Int} (hv : Val ta σ H (.int n)) (hn : 0 ≤ n ∧ n ≤ 100000) (Pv : Nat → L2.St → Hp → Prop) (h0 : Pv 0 σ H)
    (hs : ∀ (i : Nat) σ H, (i : Int) < n → Pv i σ H → g (.int (i : Int)) σ H fun σ2 H2 => tb { D with nx := Pv (i + 1), ct := Pv (i + 1), bk := D.nx } σ2 H2) (hd : ∀ σ H, Pv n.toNat σ H → D.nx σ H) : tFor (iRng1 (tCons ta tNil)) g tb D σ H := by
  refine hv _ ⟨n, rfl, by omega, by omega, for_range (lo := 0) (n := n.toNat) Pv h0 (fun i σ' H' hi p => ?_) hd⟩
  have e0 : (0 : Int) + (i : Int) = (i : Int) := Int.zero_add _
  rw [e0]
  exact hs i σ' H' (by omega) p
/-! ### comprehensions of plain values, in one form -/
theorem lc_keys {d : Addr} {o : Obj} {kvs : List (Key × V)} (c : Nat → Bool) (f : Nat → V) (hv : Val td σ H (.ref d)) (hd0 : H d = some (.frz o (.dK kvs))) (hn : kvs.length < 100000)
    (hs : ∀ i k v H2, kvs[i]? = some (k, v) → Same H H2 → ∀ (R : V → Hp → Prop) (R' : Hp → Prop), (c i = true → ∀ H4, Same H2 H4 → R (f i) H4) → (c i = false → ∀ H3, Same H2 H3 → R' H3) →
      g (kV k) (wipe σ vs) H2 fun σ2 H2 => wipe σ2 vs = wipe σ vs ∧ tt σ2 H2 fun b H3 => if b = true then te σ2 H3 R else R' H3)
    (hd : ∀ p H2, H p = none → Same H H2 → H2 p = some (.lst (gath c f kvs.length)) → Q (.ref p) H2) : tLc (iKeys td) g tt te vs σ H Q :=
  hv _ ⟨d, o, rfl, .inl ⟨kvs, hd0, fun p hp => lcV (walk_keys (d := d) (o := o) (kvs := kvs)) c f (Same.refl H) hp (small_lt hn) (fun H2 e => e _ _ hd0) (fun i x H2 H3 hi e ⟨e1, k, v, hk, ex⟩ R R' hR hR' => by subst e1 ex; exact hs i k v _ hk e R R' hR hR') fun H2 e h => hd p H2 hp e h⟩⟩
theorem lc_lst {a : Addr} {xs : List V} (c : Nat → Bool) (f : Nat → V) (hv : Val tl σ H (.ref a)) (ha : H a = some (.lst xs)) (hn : xs.length < 100000)
    (hs : ∀ i x H2, xs[i]? = some x → Same H H2 → ∀ (R : V → Hp → Prop) (R' : Hp → Prop), (c i = true → ∀ H4, Same H2 H4 → R (f i) H4) → (c i = false → ∀ H3, Same H2 H3 → R' H3) →
      g x (wipe σ vs) H2 fun σ2 H2 => wipe σ2 vs = wipe σ vs ∧ tt σ2 H2 fun b H3 => if b = true then te σ2 H3 R else R' H3)
    (hd : ∀ p H2, H p = none → Same H H2 → H2 p = some (.lst (gath c f xs.length)) → Q (.ref p) H2) : tLc (iList K tl) g tt te vs σ H Q :=
  hv _ ⟨a, rfl, ⟨xs, SqL.of ha⟩, fun p hp => lcV (walk_list (xs := xs)) c f (Same.refl H) hp (small_lt hn) (fun H2 e => SqL.of (e _ _ ha)) (fun i x H2 H3 hi e ⟨e1, hx⟩ R R' hR hR' => by subst e1; exact hs i x _ hx e R R' hR hR') fun H2 e h => hd p H2 hp e h⟩
theorem lc_tupv {a : Addr} {xs : List V} (c : Nat → Bool) (f : Nat → V) (hv : Val tl σ H (.ref a)) (ha : H a = some (.tup xs)) (hn : xs.length < 100000)
    (hs : ∀ i x H2, xs[i]? = some x → Same H H2 → ∀ (R : V → Hp → Prop) (R' : Hp → Prop), (c i = true → ∀ H4, Same H2 H4 → R (f i) H4) → (c i = false → ∀ H3, Same H2 H3 → R' H3) →
      g x (wipe σ vs) H2 fun σ2 H2 => wipe σ2 vs = wipe σ vs ∧ tt σ2 H2 fun b H3 => if b = true then te σ2 H3 R else R' H3)
    (hd : ∀ p H2, H p = none → Same H H2 → H2 p = some (.lst (gath c f xs.length)) → Q (.ref p) H2) : tLc (iTup K tl) g tt te vs σ H Q :=
  hv _ ⟨a, rfl, ⟨xs, SqT.of ha⟩, fun p hp => lcV (walk_tup (xs := xs)) c f (Same.refl H) hp (small_lt hn) (fun H2 e => SqT.of (e _ _ ha)) (fun i x H2 H3 hi e ⟨e1, hx⟩ R R' hR hR' => by subst e1; exact hs i x _ hx e R R' hR hR') fun H2 e h => hd p H2 hp e h⟩
theorem lc_en {a : Addr} {xs : List V} (c : Nat → Bool) (f : Nat → V) (hv : Val tl σ H (.ref a)) (ha : H a = some (.lst xs)) (hn : xs.length < 100000)
    (hs : ∀ i x T H2, xs[i]? = some x → Same H H2 → H2 T = none → ∀ (R : V → Hp → Prop) (R' : Hp → Prop), (c i = true → ∀ H4, Same H2 H4 → R (f i) H4) → (c i = false → ∀ H3, Same H2 H3 → R' H3) →
      g (.ref T) (wipe σ vs) (upd H2 T (.tup [.int (i : Nat), x])) fun σ2 H2 => wipe σ2 vs = wipe σ vs ∧ tt σ2 H2 fun b H3 => if b = true then te σ2 H3 R else R' H3)
    (hd : ∀ p H2, H p = none → Same H H2 → H2 p = some (.lst (gath c f xs.length)) → Q (.ref p) H2) : tLc (iEnum K (tCons tl tNil)) g tt te vs σ H Q :=
  hv _ ⟨a, xs, rfl, SqL.of ha, fun p hp => lcV (walk_enum (xs := xs)) c f (Same.refl H) hp (small_lt hn) (fun H2 e => SqL.of (e _ _ ha)) (fun i x H2 H3 hi e ⟨T, y1, y2, e1, e2, e3, e4, e5⟩ R R' hR hR' => by subst e1 e3; cases e4; exact hs i y2 T H2 e5 e e2 R R' hR hR') fun H2 e h => hd p H2 hp e h⟩
theorem lc_zp {a b : Addr} {xs ys : List V} (hl : xs.length = ys.length) (c : Nat → Bool) (f : Nat → V) (hv : Val ta σ H (.ref a)) (hw : Val tl σ H (.ref b)) (ha : H a = some (.lst xs)) (hb : H b = some (.lst ys)) (hn : xs.length < 100000)
    (hs : ∀ i x y T H2, xs[i]? = some x → ys[i]? = some y → Same H H2 → H2 T = none → ∀ (R : V → Hp → Prop) (R' : Hp → Prop), (c i = true → ∀ H4, Same H2 H4 → R (f i) H4) → (c i = false → ∀ H3, Same H2 H3 → R' H3) →
      g (.ref T) (wipe σ vs) (upd H2 T (.tup [x, y])) fun σ2 H2 => wipe σ2 vs = wipe σ vs ∧ tt σ2 H2 fun b H3 => if b = true then te σ2 H3 R else R' H3)
    (hd : ∀ p H2, H p = none → Same H H2 → H2 p = some (.lst (gath c f xs.length)) → Q (.ref p) H2) : tLc (iZip K (tCons ta (tCons tl tNil))) g tt te vs σ H Q :=
  hv _ (hw _ ⟨a, b, xs, ys, rfl, SqL.of ha, SqL.of hb, fun p hp => lcV (walk_zip (n := xs.length) (by omega)) c f (Same.refl H) hp (small_lt hn) (fun H2 e => ⟨SqL.of (e _ _ ha), SqL.of (e _ _ hb)⟩)
    (fun i x H2 H3 hi e ⟨T, y1, y2, e1, e2, e3, e4, e5⟩ R R' hR hR' => by subst e1 e3; exact hs i y1 y2 T H2 e4 e5 e e2 R R' hR hR') fun H2 e h => hd p H2 hp e h⟩)
end
end K25

namespace K25
open PySem PySem.Spec PyProof.Rows L2
section
variable {P : Program} {w : World} {K : PySem.W.Frag} {mg : Str → Option Value} {base : Heap} {C : Addr}
/-! ### kinds -/
def SeqAt' (K : PySem.W.Frag) (H : Hp) (a : Addr) (xs : List V) : Prop := H a = some (.lst xs) ∨ H a = some (.tup xs)
def spIsList : Sp := fun vs H Q _ => ∃ a xs, vs = [.ref a] ∧ (H a = some (.lst xs) ∨ H a = some (.tup xs)) ∧ ∀ H', Same H H' → Q (.bl true) H'
abbrev N_is_list : List Str := ["thing"]
theorem sc_is_list : FnScope N_is_list ["thing"] (defScope s_is_list) := ⟨rfl, rfl, rfl, by decide +kernel, rfl, by decide +kernel, by decide +kernel⟩
theorem kit_lt_list : PySem.W.kitAny K (.type "list") [.type "list", .type "tuple"] = some true := kitAny_cons (kit_ty (b := "list") (r := true) (by decide +kernel)) (fun z => nomatch z) (fun _ => rfl)
theorem kit_lt_tuple : PySem.W.kitAny K (.type "tuple") [.type "list", .type "tuple"] = some true :=
  kitAny_cons (kit_ty (b := "list") (r := false) (by decide +kernel)) (fun _ => kitAny_cons (kit_ty (b := "tuple") (r := true) (by decide +kernel)) (fun z => nomatch z) (fun _ => rfl)) (fun z => nomatch z)
theorem cal_is_list (T : Txt K mg C) (F : Has K mg "is_list" s_is_list) : Cal P w K mg base "is_list" 1 ["thing"] spIsList := by
  refine F.cal sc_is_list (fun vs H Q E h => by obtain ⟨a, xs, rfl, _⟩ := h; rfl) (fun _ _ _ _ _ _ us hl => match us, hl with | [_], _ => rfl) (fun f cdv A outer s H vs Q E hr h => ?_)
  obtain ⟨a, xs, rfl, ha, k⟩ := h
  refine ⟨_, pss_one (ps_ret (pe_callB (isiTK K) (by rfl) T.isi bt_isinstance (pa_cons (pv 0) (pa_cons (pe_tup (pa_cons (pe_bltn (v := .ty "list") (by rfl) T.list bt_list rfl) (pa_cons (pe_bltn (v := .ty "tuple") (by rfl) T.tuple bt_tuple rfl) pa_nil))) pa_nil)))), ?_⟩
  refine ⟨_, rfl, by show 2 ≤ sizeLine; decide, fun p hp => ?_⟩
  have e := Same.new (o := .tup [.ty "list", .ty "tuple"]) hp
  rcases ha with ha | ha
  · exact ⟨_, p, _, _, _, _, rfl, upd_same, .cons (.ty _) (.cons (.ty _) .nil), .base (.lst (e _ _ ha)), kit_lt_list, k _ e⟩
  · exact ⟨_, p, _, _, _, _, rfl, upd_same, .cons (.ty _) (.cons (.ty _) .nil), .base (.tup (e _ _ ha)), kit_lt_tuple, k _ e⟩
/-- a name -/
def NameOk (x : Str) : Prop := 0 < x.length ∧ x.length ≤ 40 ∧ ∀ c ∈ x.cps.toList, c ∈ signs.cps.toList
def spIsName : Sp := fun vs H Q _ => ∃ x, vs = [.str x] ∧ NameOk x ∧ ∀ H', Same H H' → Q (.bl true) H'
abbrev N_is_name : List Str := ["thing", "sign"]
theorem sc_is_name : FnScope N_is_name ["thing"] (defScope s_is_name) := ⟨rfl, rfl, rfl, by decide +kernel, rfl, by decide +kernel, by decide +kernel⟩
theorem kit_str_str : PySem.W.kitOne K (.type "str") (.type "str") = some true := kit_ty (by decide +kernel)
theorem gath_all {c : Nat → Bool} {n : Nat} (h : ∀ i, c i = true) (f : Nat → V) : gath c f n = (List.range n).map f := by
  unfold gath
  rw [List.filter_eq_self.mpr fun i _ => h i]
theorem cal_is_name (T : Txt K mg C) (F : Has K mg "is_name" s_is_name) : Cal P w K mg base "is_name" 1 ["thing"] spIsName := by
  refine F.cal sc_is_name (fun vs H Q E h => by obtain ⟨x, rfl, _⟩ := h; rfl) (fun _ _ _ _ _ _ us hl => match us, hl with | [_], _ => rfl) (fun f cdv A outer s H vs Q E hr h => ?_)
  obtain ⟨x, rfl, ⟨h1, h2, h3⟩, k⟩ := h
  obtain ⟨t, hsg⟩ := T.sig
  refine ⟨_, pss_cons (ps_if (PW.pt (pw_or (pt_not (pt_val (pe_callB (isiK K) (by rfl) T.isi bt_isinstance (pa_cons (pv 0) (pa_cons (pe_bltn (v := .ty "str") (by rfl) T.str bt_str rfl) pa_nil))))) (pw_or1 (pt_not (pt_chain op_lt op_le pe_int (pe_callB lenS (by rfl) T.len bt_len (pa_cons (pv 0) pa_nil)) pe_int))))) (pss_one (ps_ret pe_bl)) pss_nil)
    (pss_one (ps_ret (pe_callB (allK K rfl) (by rfl) T.all bt_all (pa_cons (pe_lc (own := [("sign", 1)]) rfl sc_is_name.nd (pi_str (pv 0)) (blkOk_by (N := N_is_name) (sc := defScope s_is_name) (by decide +kernel)) (fun _ _ _ _ _ => (pg_name (i := 1) sc_is_name.nd rfl (Or.inl rfl))) (fun _ _ _ _ _ => pts_nil) (fun _ _ _ _ _ => (pe_cmpR op_in_sign (pv 1) (pe_glob (v := .str signs) (by rfl) hsg ⟨_, rfl⟩) rfl))) pa_nil)))), ?_⟩
  refine ⟨_, rfl, _, _, _, _, _, rfl, .ty _, .base (.str _), kit_str_str, true, rfl, ?_⟩
  refine iteF ?_
  refine ⟨_, rfl, x, rfl, Nat.le_trans h2 (by decide), _, _, rfl, rfl, _, rfl, ?_⟩
  rw [decide_eq_true (show (0 : Int) < (x.length : Int) by omega)]
  refine iteT ⟨_, _, rfl, rfl, true, congrArg V.bl (decide_eq_true (show (x.length : Int) ≤ 40 by omega)), ?_⟩
  refine iteF ?_
  refine ⟨_, rfl, x, rfl, fun D hD => ?_⟩
  refine lcV (walk_str (z := x)) (fun _ => true) (fun _ => .bl true) (Same.refl H) hD (Nat.lt_of_le_of_lt (show x.cps.size ≤ 40 from h2) (by decide)) (fun _ _ => trivial) ?_ (fun H' e hy => ?_)
  · rintro i y H1 H2 hi e1 ⟨rfl, c, hc, rfl⟩ R R' hR hR'
    refine ⟨rfl, yesT ?_⟩
    refine ⟨_, rfl, c, signs, rfl, rfl, ?_⟩
    rw [decide_eq_true (h3 c (by rw [← Array.getElem?_toList] at hc; exact List.mem_of_getElem? hc))]
    exact hR rfl _ (Same.refl _)
  · refine ⟨D, (List.range x.cps.size).map fun _ => true, rfl, SqL.of (by rw [hy, gath_all fun _ => rfl, List.map_map]; rfl), ?_⟩
    have e2 : ((List.range x.cps.size).map fun _ => true).any (fun b => !b) = false := by simp
    have e3 : ((List.range x.cps.size).map fun _ => true).all id = true := by simp
    rw [e3]
    exact k _ e
/-- an arc's nodes -/
def spIsArc : Sp := fun vs H Q _ => ∃ t a b, vs = [.ref t] ∧ H t = some (.tup [.str a, .str b]) ∧ NameOk a ∧ NameOk b ∧ ∀ H', Same H H' → Q (.bl true) H'
abbrev N_is_arc : List Str := ["thing", "node"]
theorem sc_is_arc : FnScope N_is_arc ["thing"] (defScope s_is_arc) := ⟨rfl, rfl, rfl, by decide +kernel, rfl, by decide +kernel, by decide +kernel⟩
theorem cal_is_arc (T : Txt K mg C) (F : Has K mg "is_arc" s_is_arc) (c_is_list : Cal P w K mg base "is_list" 1 ["thing"] spIsList) (c_is_name : Cal P w K mg base "is_name" 1 ["thing"] spIsName) : Cal P w K mg base "is_arc" 2 ["thing"] spIsArc := by
  refine F.cal sc_is_arc (fun vs H Q E h => by obtain ⟨t, a, b, rfl, _⟩ := h; rfl) (fun _ _ _ _ _ _ us hl => match us, hl with | [_], _ => rfl) (fun f cdv A outer s H vs Q E hr h => ?_)
  obtain ⟨t, a, b, rfl, ht, ha, hb, k⟩ := h
  refine ⟨_, pss_one (ps_ret (pe_and (pe_callC c_is_list (hr.mono (by decide)) (by rfl) (pa_cons (pv 0) pa_nil)) (pe_and (pe_cmpR op_eq (pe_callB (lenK K) (by rfl) T.len bt_len (pa_cons (pv 0) pa_nil)) pe_int (nomark _)) (pe_one (pe_callB (allK K rfl) (by rfl) T.all bt_all (pa_cons (pe_lc (own := [("node", 1)]) rfl sc_is_arc.nd (pitup K (pv 0)) (blkOk_by (N := N_is_arc) (sc := defScope s_is_arc) (by decide +kernel)) (fun _ _ _ _ _ => (pg_name (i := 1) sc_is_arc.nd rfl (Or.inl rfl))) (fun _ _ _ _ _ => pts_nil) (fun _ _ _ _ _ => (pe_callC c_is_name (hr.mono (by decide)) (by rfl) (pa_cons (pv 1) pa_nil)))) pa_nil)))))), ?_⟩
  refine ⟨_, rfl, t, _, rfl, .inr ht, fun H1 e1 => ⟨true, rfl, iteT ?_⟩⟩
  refine ⟨_, rfl, t, _, rfl, .inr (SqT.of (e1 _ _ ht)), rfl, true, rfl, iteT ?_⟩
  refine ⟨_, rfl, t, rfl, ⟨_, SqT.of (e1 _ _ ht)⟩, fun D hD => ?_⟩
  refine lcV (walk_tup (xs := [.str a, .str b])) (fun _ => true) (fun _ => .bl true) e1 hD (by show 2 < sizeLine; decide) (fun H' e => SqT.of (e _ _ ht)) ?_ (fun H' e hy => ?_)
  · rintro i y H1 H2 hi e1 ⟨rfl, hy⟩ R R' hR hR'
    refine ⟨rfl, yesT ?_⟩
    have hc : ∃ x, y = .str x ∧ NameOk x := by
      match i, hi, hy with
      | 0, _, hy => exact ⟨a, (Option.some.inj hy).symm, ha⟩
      | 1, _, hy => exact ⟨b, (Option.some.inj hy).symm, hb⟩
    obtain ⟨x, rfl, hx⟩ := hc
    exact ⟨_, rfl, x, rfl, hx, fun H3 e3 => hR rfl _ e3⟩
  · exact ⟨D, [true, true], rfl, SqL.of hy, k _ e⟩
/-! ### fields -/
def spCheckQ : Sp := fun vs H Q _ => ∃ (q : Addr) (x : Str) (qs : List Str), vs = [.ref q, .str x] ∧ H q = some (.lst (qs.map V.str)) ∧ x ∈ qs ∧ ∀ H', Same H H' → Q .non H'
abbrev N_check_question : List Str := ["questions", "asked"]
theorem sc_check_question : FnScope N_check_question ["questions", "asked"] (defScope s_check_question) := ⟨rfl, rfl, rfl, by decide +kernel, rfl, by decide +kernel, by decide +kernel⟩
theorem cal_check_question (T : Txt K mg C) (F : Has K mg "check_question" s_check_question) : Cal P w K mg base "check_question" 1 ["questions", "asked"] spCheckQ := by
  refine F.cal sc_check_question (fun vs H Q E h => by obtain ⟨q, x, qs, rfl, _⟩ := h; rfl) (fun _ _ _ _ _ _ us hl => match us, hl with | [_, _], _ => rfl) (fun f cdv A outer s H vs Q E hr h => ?_)
  obtain ⟨q, x, qs, rfl, hq, hx, k⟩ := h
  refine ⟨_, pss_one (ps_if (PW.pt (pw_or (pt_not (pt_val (pe_callB (isiK K) (by rfl) T.isi bt_isinstance (pa_cons (pv 1) (pa_cons (pe_bltn (v := .ty "str") (by rfl) T.str bt_str rfl) pa_nil))))) (pw_or1 (pt_cmpR (niQ K) (pv 1) (pv 0) rfl)))) (pss_one ps_never) pss_nil), ?_⟩
  refine ⟨_, rfl, _, _, _, _, _, rfl, .ty _, .base (.str _), kit_str_str, true, rfl, iteF ?_⟩
  refine ⟨_, rfl, _, rfl, q, _, rfl, .inl (SqL.of hq), rfl, flat_strs qs, false, ?_, iteF (k _ (Same.refl _))⟩
  show V.bl (!inV (.str x) (qs.map V.str)) = V.bl false
  rw [inV_str, decide_eq_true hx]
  rfl
def spCheckF : Sp := fun vs H Q _ => ∃ (q a : Addr) (qs xs : List Str), vs = [.ref q, .ref a] ∧ H q = some (.lst (qs.map V.str)) ∧ (H a = some (.lst (xs.map V.str)) ∨ H a = some (.tup (xs.map V.str))) ∧ xs.Nodup ∧ (∀ x ∈ xs, x ∈ qs) ∧ xs.length ≤ 100 ∧
  ∀ p H', H p = none → Same H H' → H' p = some (.lst (xs.map V.str)) → Q (.ref p) H'
abbrev N_checked_file : List Str := ["questions", "known", "found", "index", "name"]
theorem sc_checked_file : FnScope N_checked_file ["questions", "known"] (defScope s_checked_file) := ⟨rfl, rfl, rfl, by decide +kernel, rfl, by decide +kernel, by decide +kernel⟩
theorem take_snoc {α : Type} {l : List α} {i : Nat} {x : α} (h : l[i]? = some x) : l.take (i + 1) = l.take i ++ [x] := by
  rw [List.take_add_one, h]
  rfl
theorem nodup_take_not {α : Type} {l : List α} (hn : l.Nodup) {i : Nat} {x : α} (h : l[i]? = some x) : x ∉ l.take i := by
  have q := hn.sublist (List.take_sublist (i + 1) l)
  rw [take_snoc h, List.nodup_append] at q
  intro hx
  exact q.2.2 x hx x (by simp) rfl
theorem cal_checked_file (T : Txt K mg C) (F : Has K mg "checked_file" s_checked_file) (c_is_list : Cal P w K mg base "is_list" 1 ["thing"] spIsList) : Cal P w K mg base "checked_file" 2 ["questions", "known"] spCheckF := by
  refine F.cal sc_checked_file (fun vs H Q E h => by obtain ⟨q, a, qs, xs, rfl, _⟩ := h; rfl) (fun _ _ _ _ _ _ us hl => match us, hl with | [_, _], _ => rfl) (fun f cdv A outer s H vs Q E hr h => ?_)
  obtain ⟨q, a, qs, xs, rfl, hq, ha, hn, hsub, hlen, k⟩ := h
  refine ⟨_, pss_cons (ps_if (pt_not (pt_val (pe_callC c_is_list (hr.mono (by decide)) (by rfl) (pa_cons (pv 1) pa_nil)))) (pss_one ps_never) pss_nil)
    (pss_cons (ps_set (i := 2) sc_checked_file.nd rfl (Or.inl rfl) (pe_lst pa_nil))
    (pss_cons (ps_for PassesOwn.never rfl (pienumT K (by rfl) T.enumerate (pa_cons (pv 1) pa_nil)) (pgtup K rfl (pgs_cons (pg_name (i := 3) sc_checked_file.nd rfl (Or.inl rfl)) (pgs_cons (pg_name (i := 4) sc_checked_file.nd rfl (Or.inl rfl)) pgs_nil))) (pss_cons (ps_if (PW.pt (pw_or (pt_not (pt_val (pe_callB (isiK K) (by rfl) T.isi bt_isinstance (pa_cons (pv 4) (pa_cons (pe_bltn (v := .ty "str") (by rfl) T.str bt_str rfl) pa_nil))))) (pw_or (pt_cmpR (niQ K) (pv 4) (pv 0) rfl) (pw_or1 (pt_cmpR (inQ K) (pv 4) (pv 2) rfl))))) (pss_one ps_never) pss_nil)
    (pss_one (ps_expr (pem K PySem.F.plainAttrs_list PySem.F.slot_list_append PySem.F.type_list_append mt_append (pv 2) (pa_cons (pv 4) pa_nil))))))
    (pss_one (ps_ret (pv 2))))), ?_⟩
  refine ⟨_, rfl, a, _, rfl, ha, fun H1 e1 => ⟨true, rfl, iteF ?_⟩⟩
  refine ⟨Nat.zero_le _, fun p hp => ?_⟩
  have hp0 : H p = none := e1.free hp
  have e2 : Same H (upd H1 p (.lst [])) := e1.mut hp0
  refine gn (sq ?_)
  refine for_enT (xs := xs.map V.str) (H0 := H) (val_var rfl) e2 ha (fun i σ H2 => ∃ v3 v4, σ = [some (.ref q), some (.ref a), some (.ref p), v3, v4] ∧ Same H H2 ∧ H2 p = some (.lst ((xs.take i).map V.str)))
      ⟨none, none, rfl, e2, upd_same⟩ (fun i σ H2 _ ⟨_, _, _, e, hpp⟩ => e) ?_ ?_
  · rintro i x t σ H2 hx ⟨v3, v4, rfl, e, hpp⟩ ht
    rw [List.getElem?_map] at hx
    obtain ⟨z, hz, rfl⟩ := Option.map_eq_some_iff.mp hx
    have e3 := e.trans (Same.new (o := .tup [.int (i : Nat), .str z]) ht)
    have hpp3 : upd H2 t (.tup [.int (i : Nat), .str z]) p = some (.lst ((xs.take i).map V.str)) := by rw [upd_ne (ne_of_none hpp ht)]; exact hpp
    refine ⟨t, _, rfl, SqT.of upd_same, rfl, _, _, rfl, _, _, rfl, rfl, ?_⟩
    refine ⟨_, rfl, _, _, _, _, _, rfl, .ty _, .base (.str _), kit_str_str, true, rfl, iteF ?_⟩
    refine ⟨_, rfl, _, rfl, q, _, rfl, .inl (SqL.of (e3 _ _ hq)), rfl, flat_strs qs, false, ?_, iteF ?_⟩
    · show V.bl (!inV (.str z) (qs.map V.str)) = V.bl false
      rw [inV_str, decide_eq_true (hsub z (List.mem_of_getElem? hz))]
      rfl
    refine ⟨_, rfl, _, rfl, p, _, rfl, .inl (SqL.of hpp3), rfl, flat_strs _, false, ?_, iteF ?_⟩
    · show V.bl (inV (.str z) ((xs.take i).map V.str)) = V.bl false
      rw [inV_str, decide_eq_false (nodup_take_not hn hz)]
    refine ⟨_, rfl, .inl ⟨rfl, _, SqL.of hpp3⟩, _, rfl, p, _, _, rfl, rfl, hpp3, ?_, ?_⟩
    · rw [List.length_map]
      have := List.length_take_le' i xs
      exact small_lt (by omega)
    · refine ⟨_, _, rfl, e3.mut hp0, ?_⟩
      rw [upd_same, take_snoc hz, List.map_append]
      rfl
  · rintro σ H2 ⟨v3, v4, rfl, e, hpp⟩
    rw [List.take_of_length_le (by simp)] at hpp
    exact ⟨_, rfl, k p H2 hp0 e hpp⟩
def spCheckB : Sp := fun vs H Q _ => ∃ (q a : Addr) (x : Str) (qs xs : List Str), vs = [.ref q, .ref a, .str x] ∧ H q = some (.lst (qs.map V.str)) ∧ (H a = some (.lst (xs.map V.str)) ∨ H a = some (.tup (xs.map V.str))) ∧ xs.Nodup ∧ (∀ x ∈ xs, x ∈ qs) ∧ xs.length ≤ 100 ∧ x ∈ qs ∧
  ∀ p H', H p = none → Same H H' → H' p = some (.lst (xs.map V.str)) → Q (.ref p) H'
abbrev N_checked_both : List Str := ["questions", "known", "asked", "own"]
theorem sc_checked_both : FnScope N_checked_both ["questions", "known", "asked"] (defScope s_checked_both) := ⟨rfl, rfl, rfl, by decide +kernel, rfl, by decide +kernel, by decide +kernel⟩
theorem cal_checked_both (F : Has K mg "checked_both" s_checked_both) (c_checked_file : Cal P w K mg base "checked_file" 2 ["questions", "known"] spCheckF) (c_check_question : Cal P w K mg base "check_question" 1 ["questions", "asked"] spCheckQ) : Cal P w K mg base "checked_both" 3 ["questions", "known", "asked"] spCheckB := by
  refine F.cal sc_checked_both (fun vs H Q E h => by obtain ⟨q, a, x, qs, xs, rfl, _⟩ := h; rfl) (fun _ _ _ _ _ _ us hl => match us, hl with | [_, _, _], _ => rfl) (fun f cdv A outer s H vs Q E hr h => ?_)
  obtain ⟨q, a, x, qs, xs, rfl, hq, ha, hn, hsub, hlen, hx, k⟩ := h
  refine ⟨_, pss_cons (ps_set (i := 3) sc_checked_both.nd rfl (Or.inl rfl) (pe_callC c_checked_file (hr.mono (by decide)) (by rfl) (pa_cons (pv 0) (pa_cons (pv 1) pa_nil))))
    (pss_cons (ps_expr (pe_callC c_check_question (hr.mono (by decide)) (by rfl) (pa_cons (pv 0) (pa_cons (pv 2) pa_nil))))
    (pss_one (ps_ret (pv 3)))), ?_⟩
  refine ⟨_, rfl, _, rfl, q, a, qs, xs, rfl, hq, ha, hn, hsub, hlen, fun p H1 hp e1 h1 => ?_⟩
  refine ⟨_, rfl, _, rfl, q, x, qs, rfl, e1 _ _ hq, hx, fun H2 e2 => ?_⟩
  exact ⟨_, rfl, k p H2 hp (e1.trans e2) (e2 _ _ h1)⟩
end
end K25

namespace K25
open PySem PySem.Spec PyProof.Rows L2
section
variable {P : Program} {w : World} {K : PySem.W.Frag} {mg : Str → Option Value} {base : Heap} {C : Addr}
/-! ### the law's own functions of arcs -/
def spLeads : Sp := fun vs H Q _ => ∃ (d : Addr) (s : Str) (A : List (Arc Str)), vs = [.ref d, .str s] ∧ FArcs H d A ∧ A.length ≤ 20 ∧ ∀ p H', H p = none → Same H H' → H' p = some (.lst ((leads A s).map V.str)) → Q (.ref p) H'
abbrev N_l_leads : List Str := ["_law_arcs", "_law_first", "_law_found", "_law_turn", "_law_one", "_law_other"]
theorem sc_l_leads : FnScope N_l_leads ["_law_arcs", "_law_first"] (defScope s_l_leads) := ⟨rfl, rfl, rfl, by decide +kernel, rfl, by decide +kernel, by decide +kernel⟩
theorem pass1_len (f : List Str) (a : Arc Str) : (pass1 f a).length ≤ f.length + 1 := by
  unfold pass1
  split
  · rw [List.length_append]; simp
  · omega
theorem passF_len : ∀ (A : List (Arc Str)) (f : List Str), (A.foldl pass1 f).length ≤ f.length + A.length
  | [], f => by simp
  | a :: A, f => by
    have h1 := passF_len A (pass1 f a)
    have h2 := pass1_len f a
    rw [List.foldl_cons, List.length_cons]
    omega
theorem passes_len (A : List (Arc Str)) (s : Str) : ∀ k, (passes A s k).length ≤ 1 + k * A.length
  | 0 => by simp [passes]
  | k + 1 => by
    have h1 := passF_len A (passes A s k)
    have h2 := passes_len A s k
    show (A.foldl pass1 (passes A s k)).length ≤ _
    rw [Nat.add_mul]
    omega
theorem leads_len {A : List (Arc Str)} (h : A.length ≤ 20) (s : Str) (k : Nat) (hk : k ≤ 20) (m : Nat) : ((A.take m).foldl pass1 (passes A s k)).length ≤ 1000 := by
  have h1 := passF_len (A.take m) (passes A s k)
  have h2 := passes_len A s k
  have h3 : k * A.length ≤ 20 * 20 := Nat.mul_le_mul hk h
  have h4 := List.length_take_le' m A
  omega
theorem foldl_take {α β : Type} (f : β → α → β) (b : β) {l : List α} {i : Nat} {x : α} (h : l[i]? = some x) : (l.take (i + 1)).foldl f b = f ((l.take i).foldl f b) x := by
  rw [take_snoc h, List.foldl_append]
  rfl
theorem cal_l_leads (T : Txt K mg C) (F : Has K mg "_law_c_leads" s_l_leads) : Cal P w K mg base "_law_c_leads" 1 ["_law_arcs", "_law_first"] spLeads := by
  refine F.cal sc_l_leads (fun vs H Q E h => by obtain ⟨d, s, A, rfl, _⟩ := h; rfl) (fun _ _ _ _ _ _ us hl => match us, hl with | [_, _], _ => rfl) (fun f cdv Ar outer s0 H vs Q E hr h => ?_)
  obtain ⟨d, s, A, rfl, ⟨o, kvs, hd, hk⟩, hA, k⟩ := h
  refine ⟨_, pss_cons (ps_set (i := 2) sc_l_leads.nd rfl (Or.inl rfl) (pe_lst (pa_cons (pv 1) pa_nil)))
    (pss_cons (ps_for PassesOwn.never rfl (pi_range1 (by rfl) T.range (pa_cons (pe_callB lenD (by rfl) T.len bt_len (pa_cons (pv 0) pa_nil)) pa_nil)) (pg_name (i := 3) sc_l_leads.nd rfl (Or.inl rfl)) (pss_one (ps_for PassesOwn.never rfl (pi_values (pv 0)) (pgtup K (n := 2) rfl (pgs_cons (pg_name (i := 4) sc_l_leads.nd rfl (Or.inl rfl)) (pgs_cons (pg_name (i := 5) sc_l_leads.nd rfl (Or.inl rfl)) pgs_nil))) (pss_one (ps_if (PW.pt (pw_and (pt_cmpR (inQ K) (pv 4) (pv 2) rfl) (pw_and1 (pt_cmpR (niQ K) (pv 5) (pv 2) rfl)))) (pss_one (ps_expr (pem K PySem.F.plainAttrs_list PySem.F.slot_list_append PySem.F.type_list_append mt_append (pv 2) (pa_cons (pv 5) pa_nil)))) pss_nil)))))
    (pss_one (ps_ret (pv 2)))), ?_⟩
  refine ⟨_, rfl, by show 1 ≤ sizeLine; decide, fun p hp => gn (sq ?_)⟩
  have e1 : Same H (upd H p (.lst [.str s])) := Same.new hp
  have hl := hk.len
  refine ⟨_, rfl, d, kvs, rfl, .inr ⟨o, e1 _ _ hd⟩, ?_⟩
  refine ⟨_, rfl, by omega, by omega, for_range (lo := 0) (n := kvs.length) (fun i σ H2 => ∃ v3 v4 v5, σ = [some (.ref d), some (.str s), some (.ref p), v3, v4, v5] ∧ Same H H2 ∧ H2 p = some (.lst ((passes A s i).map V.str)))
    ⟨none, none, none, rfl, e1, upd_same⟩ ?_ ?_⟩
  · rintro i σ H2 hi ⟨v3, v4, v5, rfl, e2, h2⟩
    refine gn ?_
    refine for_vals (H0 := H) (val_var rfl) e2 hd (fun j σ H3 => ∃ v3 v4 v5, σ = [some (.ref d), some (.str s), some (.ref p), v3, v4, v5] ∧ Same H H3 ∧ H3 p = some (.lst (((A.take j).foldl pass1 (passes A s i)).map V.str)))
      ⟨_, _, _, rfl, e2, h2⟩ (fun j σ H3 _ ⟨_, _, _, _, e, _⟩ => e) ?_ ?_
    · rintro j ky x σ H3 hj ⟨v3, v4, v5, rfl, e3, h3⟩
      obtain ⟨a, t, ha, _, rfl, ht⟩ := hk.at' hj
      refine ⟨t, _, rfl, SqT.of (e3 _ _ ht), rfl, _, _, rfl, gn ⟨_, _, rfl, gn ⟨rfl, ?_⟩⟩⟩
      have hf := foldl_take pass1 (passes A s i) ha
      have hlen := leads_len hA s i (by omega) j
      generalize (A.take j).foldl pass1 (passes A s i) = cur at h3 hf hlen
      refine ⟨_, rfl, _, rfl, p, _, rfl, .inl (SqL.of h3), rfl, flat_strs _, decide (a.2.1 ∈ cur), ?_, ?_⟩
      · show V.bl (inV (.str a.2.1) (cur.map V.str)) = _
        rw [inV_str]
      by_cases q1 : a.2.1 ∈ cur
      · rw [decide_eq_true q1]
        refine iteT ?_
        refine ⟨_, rfl, _, rfl, p, _, rfl, .inl (SqL.of h3), rfl, flat_strs _, !decide (a.2.2 ∈ cur), ?_, ?_⟩
        · show V.bl (!inV (.str a.2.2) (cur.map V.str)) = _
          rw [inV_str]
        by_cases q2 : a.2.2 ∈ cur
        · rw [decide_eq_true q2]
          refine iteF ?_
          refine ⟨_, _, _, rfl, e3, ?_⟩
          rw [hf]
          unfold pass1
          rw [if_neg fun z => z.2 q2]
          exact h3
        · rw [decide_eq_false q2]
          refine iteT ?_
          refine ⟨_, rfl, .inl ⟨rfl, _, SqL.of h3⟩, _, rfl, p, _, _, rfl, rfl, h3, by rw [List.length_map]; exact small_lt (by omega), ?_⟩
          refine ⟨_, _, _, rfl, e3.mut hp, ?_⟩
          rw [hf, upd_same]
          unfold pass1
          rw [if_pos ⟨q1, q2⟩, List.map_append]
          rfl
      · rw [decide_eq_false q1]
        refine iteF ?_
        refine iteF ?_
        refine ⟨_, _, _, rfl, e3, ?_⟩
        rw [hf]
        unfold pass1
        rw [if_neg fun z => q1 z.1]
        exact h3
    · rintro σ H3 ⟨v3, v4, v5, rfl, e3, h3⟩
      rw [List.take_of_length_le (by omega)] at h3
      exact ⟨_, _, _, rfl, e3, h3⟩
  · rintro σ H2 ⟨v3, v4, v5, rfl, e2, h2⟩
    rw [hl] at h2
    exact ⟨_, rfl, k p H2 hp e2 h2⟩
/-- picks by the place -/
def cA {α : Type} (A : List α) (p : α → Bool) (i : Nat) : Bool := (A[i]?.map p).getD false
def fA {α : Type} (A : List α) (h : α → V) (i : Nat) : V := (A[i]?.map h).getD .non
theorem cA_eq {α : Type} {A : List α} {p : α → Bool} {i : Nat} {a : α} (h : A[i]? = some a) : cA A p i = p a := by unfold cA; rw [h]; rfl
theorem fA_eq {α : Type} {A : List α} {g : α → V} {i : Nat} {a : α} (h : A[i]? = some a) : fA A g i = g a := by unfold fA; rw [h]; rfl
theorem gath_of {α : Type} (A : List α) (p : α → Bool) (h : α → V) : gath (cA A p) (fA A h) A.length = (A.filter p).map h := by
  have key : ∀ i, i ≤ A.length → gath (cA A p) (fA A h) i = ((A.take i).filter p).map h := by
    intro i
    induction i with
    | zero => intro _; rfl
    | succ i ih =>
      intro hi
      have ha : A[i]? = some A[i] := List.getElem?_eq_getElem (by omega)
      rw [gath_succ, take_snoc ha, List.filter_append, List.map_append, ih (by omega), cA_eq ha, fA_eq ha, List.filter_cons]
      cases p A[i] with
      | true => simp
      | false => simp
  rw [key A.length (Nat.le_refl _), List.take_length]
theorem gath_map {α : Type} (A : List α) (h : α → V) : gath (fun _ => true) (fA A h) A.length = A.map h := by
  have q := gath_of A (fun _ => true) h
  have e : gath (fun _ => true) (fA A h) A.length = gath (cA A fun _ => true) (fA A h) A.length := by
    unfold gath
    congr 1
    refine List.filter_congr fun i hi => ?_
    have hi' : i < A.length := List.mem_range.mp hi
    rw [cA_eq (List.getElem?_eq_getElem hi')]
  rw [e, q, List.filter_eq_self.mpr fun _ _ => rfl]
theorem mem_at {α : Type} {A : List α} {i : Nat} {a : α} (h : A[i]? = some a) : a ∈ A := List.mem_of_getElem? h
def spLive : Sp := fun vs H Q _ => ∃ (d : Addr) (A : List (Arc Str)), vs = [.ref d] ∧ FArcs H d A ∧ Names A ∧ A.length ≤ 20 ∧ ∀ p H', H p = none → Same H H' → H' p = some (.lst ((A.filter (liveB A)).map fun a => V.str a.1)) → Q (.ref p) H'
abbrev N_l_live : List Str := ["_law_arcs", "_law_name_here"]
theorem sc_l_live : FnScope N_l_live ["_law_arcs"] (defScope s_l_live) := ⟨rfl, rfl, rfl, by decide +kernel, rfl, by decide +kernel, by decide +kernel⟩
theorem at_1 {x y : V} : atI [x, y] 1 = some y := rfl
theorem at_0 {x y : V} : atI [x, y] 0 = some x := rfl
theorem cal_l_live (F : Has K mg "_law_c_live" s_l_live) (c_l_leads : Cal P w K mg base "_law_c_leads" 1 ["_law_arcs", "_law_first"] spLeads) : Cal P w K mg base "_law_c_live" 2 ["_law_arcs"] spLive := by
  refine F.cal sc_l_live (fun vs H Q E h => by obtain ⟨d, A, rfl, _⟩ := h; rfl) (fun _ _ _ _ _ _ us hl => match us, hl with | [_], _ => rfl) (fun f cdv Ar outer s0 H vs Q E hr h => ?_)
  obtain ⟨d, A, rfl, hA, hN, hl20, k⟩ := h
  obtain ⟨o, kvs, hd, hk⟩ := id hA
  refine ⟨_, pss_one (ps_ret (pe_lc (own := [("_law_name_here", 1)]) rfl sc_l_live.nd (pi_keys (pv 0)) (blkOk_by (N := N_l_live) (sc := defScope s_l_live) (by decide +kernel)) (fun _ _ _ _ _ => (pg_name (i := 1) sc_l_live.nd rfl (Or.inl rfl))) (fun _ _ _ _ _ => (pts_one (pt_cmpR (inQ K) (pe_ix (ixT K) (pe_dget (hu_of hr) (pv 0) (pv 1) (fun _ _ => rfl)) pe_int (fun _ _ => rfl)) (pe_callC c_l_leads (hr.mono (by decide)) (by rfl) (pa_cons (pv 0) (pa_cons (pe_ix (ixT K) (pe_dget (hu_of hr) (pv 0) (pv 1) (fun _ _ => rfl)) pe_int (fun _ _ => rfl)) pa_nil))) rfl))) (fun _ _ _ _ _ => (pv 1)))), ?_⟩
  have hl := hk.len
  refine ret (lc_keys (cA A (liveB A)) (fA A fun a => V.str a.1) (val_var rfl) hd (by omega) ?_ fun p H2 hp e h => ?_)
  · rintro i ky v H2 hi e R R' hR hR'
    obtain ⟨a, t, ha, rfl, rfl, ht⟩ := hk.at' hi
    rw [cA_eq ha] at hR hR'
    rw [fA_eq ha] at hR
    refine gn ⟨rfl, ?_⟩
    obtain ⟨t', hg, ht'⟩ := (hA.same e).get hN (mem_at ha)
    refine ⟨_, rfl, _, rfl, d, _, rfl, hg, t', _, 0, _, rfl, rfl, SqT.of ht', at_0, ?_⟩
    refine ⟨_, rfl, _, rfl, _, rfl, d, _, rfl, hg, t', _, 1, _, rfl, rfl, SqT.of ht', at_1, ?_⟩
    refine ⟨d, a.2.2, A, rfl, hA.same e, hl20, fun q H3 hq e3 h3 => ?_⟩
    refine ⟨q, _, rfl, .inl (SqL.of h3), rfl, flat_strs _, liveB A a, ?_, ?_⟩
    · show V.bl (inV (.str a.2.1) ((leads A a.2.2).map V.str)) = _
      rw [inV_str]
      rfl
    · cases q1 : liveB A a with
      | true => exact ⟨_, rfl, hR q1 _ e3⟩
      | false => exact hR' q1 _ e3
  · rw [hl, gath_of] at h
    exact k p H2 hp e h
/-! nodes -/
def spNodes : Sp := fun vs H Q _ => ∃ (d : Addr) (A : List (Arc Str)), vs = [.ref d] ∧ FArcs H d A ∧ A.length ≤ 20 ∧ ∀ p H', H p = none → Same H H' → H' p = some (.lst ((nodesOf A).map V.str)) → Q (.ref p) H'
abbrev N_l_nodes : List Str := ["_law_arcs", "_law_found", "_law_one", "_law_other", "_law_node"]
theorem sc_l_nodes : FnScope N_l_nodes ["_law_arcs"] (defScope s_l_nodes) := ⟨rfl, rfl, rfl, by decide +kernel, rfl, by decide +kernel, by decide +kernel⟩
theorem addN_len (f : List Str) (v : Str) : (addN f v).length ≤ f.length + 1 := by
  unfold addN
  split
  · omega
  · rw [List.length_append]; simp
def nd2 (f : List Str) (a : Arc Str) : List Str := addN (addN f a.2.1) a.2.2
theorem nd2_len : ∀ (A : List (Arc Str)) (f : List Str), (A.foldl nd2 f).length ≤ f.length + 2 * A.length
  | [], f => by simp
  | a :: A, f => by
    have h1 := nd2_len A (nd2 f a)
    have h2 := addN_len (addN f a.2.1) a.2.2
    have h3 := addN_len f a.2.1
    rw [List.foldl_cons, List.length_cons]
    have h4 : (nd2 f a).length ≤ f.length + 2 := by unfold nd2; omega
    omega
theorem nodes_nd2 (A : List (Arc Str)) : nodesOf A = A.foldl nd2 [] := rfl
theorem cal_l_nodes (T : Txt K mg C) (F : Has K mg "_law_c_nodes" s_l_nodes) : Cal P w K mg base "_law_c_nodes" 1 ["_law_arcs"] spNodes := by
  refine F.cal sc_l_nodes (fun vs H Q E h => by obtain ⟨d, A, rfl, _⟩ := h; rfl) (fun _ _ _ _ _ _ us hl => match us, hl with | [_], _ => rfl) (fun f cdv Ar outer s0 H vs Q E hr h => ?_)
  obtain ⟨d, A, rfl, ⟨o, kvs, hd, hk⟩, hA, k⟩ := h
  refine ⟨_, pss_cons (ps_set (i := 1) sc_l_nodes.nd rfl (Or.inl rfl) (pe_lst pa_nil))
    (pss_cons (ps_for PassesOwn.never rfl (pi_values (pv 0)) (pgtup K (n := 2) rfl (pgs_cons (pg_name (i := 2) sc_l_nodes.nd rfl (Or.inl rfl)) (pgs_cons (pg_name (i := 3) sc_l_nodes.nd rfl (Or.inl rfl)) pgs_nil))) (pss_one (ps_for PassesOwn.never rfl (pitup K (pe_tup (pa_cons (pv 2) (pa_cons (pv 3) pa_nil)))) (pg_name (i := 4) sc_l_nodes.nd rfl (Or.inl rfl)) (pss_one (ps_set (i := 1) sc_l_nodes.nd rfl (Or.inl rfl) (pe_op op_cat (pv 1) (pe_op op_rep (pe_lst (pa_cons (pv 4) pa_nil)) (pe_callTy call_int1 (by rfl) T.int bt_int (pa_cons (pe_cmpR (niQ K) (pv 4) (pv 1) rfl) pa_nil)))))))))
    (pss_one (ps_ret (pv 1)))), ?_⟩
  have hl := hk.len
  refine ⟨Nat.zero_le _, fun p hp => gn (sq ?_)⟩
  have e1 : Same H (upd H p (.lst [])) := Same.new hp
  refine for_vals (H0 := H) (val_var rfl) e1 hd (fun j σ H2 => ∃ q v2 v3 v4, σ = [some (.ref d), some (.ref q), v2, v3, v4] ∧ H q = none ∧ Same H H2 ∧ H2 q = some (.lst (((A.take j).foldl nd2 []).map V.str)))
    ⟨p, none, none, none, rfl, hp, e1, upd_same⟩ (fun j σ H2 _ ⟨_, _, _, _, _, _, e, _⟩ => e) ?_ ?_
  · rintro j ky x σ H2 hj ⟨q, v2, v3, v4, rfl, hq0, e2, h2⟩
    obtain ⟨a, t, ha, _, rfl, ht⟩ := hk.at' hj
    refine ⟨t, _, rfl, SqT.of (e2 _ _ ht), rfl, _, _, rfl, gn ⟨_, _, rfl, gn ⟨rfl, ?_⟩⟩⟩
    have hf := foldl_take nd2 [] ha
    have hlen := nd2_len (A.take j) []
    have hlt := List.length_take_le' j A
    rw [List.length_nil] at hlen
    generalize (A.take j).foldl nd2 [] = cur at h2 hf hlen
    refine ⟨_, rfl, _, rfl, by show 2 ≤ sizeLine; decide, fun tt htt => ?_⟩
    have e3 : Same H2 (upd H2 tt (.tup [.str a.2.1, .str a.2.2])) := Same.new htt
    refine ⟨tt, rfl, ⟨_, SqT.of upd_same⟩, for_tup (xs := [.str a.2.1, .str a.2.2]) (fun m σ H3 => ∃ q v4, σ = [some (.ref d), some (.ref q), some (.str a.2.1), some (.str a.2.2), v4] ∧ H q = none ∧ Same H H3 ∧ H3 tt = some (.tup [.str a.2.1, .str a.2.2]) ∧ H3 q = some (.lst (([a.2.1, a.2.2].take m).foldl addN cur |>.map V.str)))
      ⟨q, v4, rfl, hq0, e2.trans e3, upd_same, e3 _ _ h2⟩ (fun m σ H3 _ ⟨_, _, _, _, _, h, _⟩ => SqT.of h) ?_ ?_⟩
    · rintro m y σ H3 hm ⟨q, v4, rfl, hq0, e4, h4, h5⟩
      have hy : ∃ z, [a.2.1, a.2.2][m]? = some z ∧ y = .str z := by
        match m, hm with
        | 0, hm => exact ⟨_, rfl, (Option.some.inj hm).symm⟩
        | 1, hm => exact ⟨_, rfl, (Option.some.inj hm).symm⟩
      obtain ⟨z, hz, rfl⟩ := hy
      have hf2 := foldl_take addN cur hz
      have hlen2 : (([a.2.1, a.2.2].take m).foldl addN cur).length ≤ 1000 := by
        match m with
        | 0 => simp; omega
        | 1 =>
          have := addN_len cur a.2.1
          simp; omega
        | m + 2 =>
          have h1 := addN_len cur a.2.1
          have h2 := addN_len (addN cur a.2.1) a.2.2
          simp; omega
      generalize ([a.2.1, a.2.2].take m).foldl addN cur = cur2 at h5 hf2 hlen2
      refine gn ?_
      refine ⟨_, rfl, _, rfl, by show 1 ≤ sizeLine; decide, fun p1 hp1 => ?_⟩
      have e5 : Same H3 (upd H3 p1 (.lst [.str z])) := Same.new hp1
      refine ⟨_, rfl, _, rfl, q, _, rfl, .inl (SqL.of (e5 _ _ h5)), rfl, flat_strs _, .inr ⟨!decide (z ∈ cur2), ?_, ?_⟩⟩
      · show [V.bl (!inV (.str z) (cur2.map V.str))] = _
        rw [inV_str]
      have hk1 : ((if (!decide (z ∈ cur2)) = true then (1 : Int) else 0)).toNat ≤ 1 := by split <;> decide
      refine ⟨p1, _, _, rfl, rfl, upd_same, by split <;> omega, by split <;> omega, by rw [List.length_singleton, Nat.one_mul]; exact Nat.le_trans hk1 (by decide), fun p2 hp2 => ?_⟩
      have e6 := e5.trans (Same.new (o := .lst (List.replicate ((if (!decide (z ∈ cur2)) = true then (1 : Int) else 0)).toNat [V.str z]).flatten) hp2)
      refine ⟨q, p2, _, _, rfl, rfl, e6 _ _ h5, upd_same, ?_, fun p3 hp3 => gn ?_⟩
      · rw [List.length_map]
        refine small_le ?_
        have : ((List.replicate ((if (!decide (z ∈ cur2)) = true then (1 : Int) else 0)).toNat [V.str z]).flatten).length ≤ 1 := by split <;> simp
        omega
      have e7 := e6.trans (Same.new (o := .lst (cur2.map V.str ++ (List.replicate ((if (!decide (z ∈ cur2)) = true then (1 : Int) else 0)).toNat [V.str z]).flatten)) hp3)
      refine ⟨p3, _, rfl, (e4.trans e6).free hp3, e4.trans e7, e7 _ _ h4, ?_⟩
      rw [hf2, upd_same]
      unfold addN
      by_cases hz2 : z ∈ cur2
      · rw [if_pos hz2, decide_eq_true hz2]
        simp
      · rw [if_neg hz2, decide_eq_false hz2]
        simp
    · rintro σ H3 ⟨q, v4, rfl, hq0, e4, h4, h5⟩
      refine ⟨q, _, _, _, rfl, hq0, e4, ?_⟩
      rw [hf]
      exact h5
  · rintro σ H2 ⟨q, v2, v3, v4, rfl, hq0, e2, h2⟩
    rw [List.take_of_length_le (by omega)] at h2
    exact ⟨_, rfl, k q H2 hq0 e2 h2⟩
end
end K25

namespace K25
open PySem PySem.Spec PyProof.Rows L2
section
variable {P : Program} {w : World} {K : PySem.W.Frag} {mg : Str → Option Value} {base : Heap} {C : Addr}
/-! ### out of a side -/
def spOut : Sp := fun vs H Q _ => ∃ (d x : Addr) (A : List (Arc Str)) (a : Arc Str) (S : List Str), vs = [.ref d, .str a.1, .ref x] ∧ FArcs H d A ∧ Names A ∧ a ∈ A ∧ H x = some (.lst (S.map V.str)) ∧ ∀ H', Same H H' → Q (.int (bi (a.2.1 ∈ S) - bi (a.2.2 ∈ S))) H'
abbrev N_l_out : List Str := ["_law_arcs", "_law_name_here", "_law_side"]
theorem sc_l_out : FnScope N_l_out ["_law_arcs", "_law_name_here", "_law_side"] (defScope s_l_out) := ⟨rfl, rfl, rfl, by decide +kernel, rfl, by decide +kernel, by decide +kernel⟩
theorem cal_l_out (T : Txt K mg C) (F : Has K mg "_law_c_out" s_l_out) : Cal P w K mg base "_law_c_out" 1 ["_law_arcs", "_law_name_here", "_law_side"] spOut := by
  refine F.cal sc_l_out (fun vs H Q E h => by obtain ⟨d, x, A, a, S, rfl, _⟩ := h; rfl) (fun _ _ _ _ _ _ us hl => match us, hl with | [_, _, _], _ => rfl) (fun f cdv Ar outer s0 H vs Q E hr h => ?_)
  obtain ⟨d, x, A, a, S, rfl, hA, hN, ha, hx, k⟩ := h
  refine ⟨_, pss_one (ps_ret (pe_op op_sub (pe_callTy call_int1 (by rfl) T.int bt_int (pa_cons (pe_cmpR (inQ K) (pe_ix (ixT K) (pe_dget (hu_of hr) (pv 0) (pv 1) (fun _ _ => rfl)) pe_int (fun _ _ => rfl)) (pv 2) rfl) pa_nil)) (pe_callTy call_int1 (by rfl) T.int bt_int (pa_cons (pe_cmpR (inQ K) (pe_ix (ixT K) (pe_dget (hu_of hr) (pv 0) (pv 1) (fun _ _ => rfl)) pe_int (fun _ _ => rfl)) (pv 2) rfl) pa_nil)))), ?_⟩
  obtain ⟨t, hg, ht⟩ := hA.get hN ha
  have hb : ∀ (z : Str) (b : Bool), decide (z ∈ S) = b → [V.bl (inV (.str z) (S.map V.str))] = [V.bl b] := fun z b e => by rw [inV_str, e]
  refine ⟨_, rfl, _, rfl, d, _, rfl, hg, t, _, 0, _, rfl, rfl, SqT.of ht, at_0, _, rfl, x, _, rfl, .inl (SqL.of hx), rfl, flat_strs _, .inr ⟨decide (a.2.1 ∈ S), hb _ _ rfl, ?_⟩⟩
  refine ⟨_, rfl, _, rfl, d, _, rfl, hg, t, _, 1, _, rfl, rfl, SqT.of ht, at_1, _, rfl, x, _, rfl, .inl (SqL.of hx), rfl, flat_strs _, .inr ⟨decide (a.2.2 ∈ S), hb _ _ rfl, ?_⟩⟩
  refine ⟨_, _, rfl, rfl, ?_⟩
  have e : ∀ (p : Prop) [Decidable p], (if decide p = true then (1 : Int) else 0) = bi p := fun p _ => by unfold bi; by_cases q : p <;> simp [q]
  show Q (.int ((if decide (a.2.1 ∈ S) = true then (1 : Int) else 0) - (if decide (a.2.2 ∈ S) = true then (1 : Int) else 0))) H
  rw [e, e]
  exact k H (Same.refl H)
/-! ### worlds -/
def wkv (A : List (Arc Str)) (f : Str → Int) : List (Key × V) := A.map fun a => (Sum.inr a.1, V.int (f a.1))
theorem wkv_len (A : List (Arc Str)) (f : Str → Int) : (wkv A f).length = A.length := List.length_map _
theorem wkv_val {A : List (Arc Str)} (hN : Names A) {a : Arc Str} (ha : a ∈ A) (f : Str → Int) : valV (wkv A f) (Sum.inr a.1) = some (.int (f a.1)) := by
  unfold wkv
  clear hN
  induction A with
  | nil => exact absurd ha (by simp)
  | cons b A ih =>
    rw [List.map_cons]
    by_cases e : b.1 = a.1
    · rw [valV_pos (show (Sum.inr b.1 : Key) = Sum.inr a.1 by rw [e]), e]
    · rw [valV_neg (fun z => e (Sum.inr.inj z))]
      rcases List.mem_cons.mp ha with q | q
      · exact absurd (by rw [q]) e
      · exact ih q
def WorldAt (H : Hp) (x : Addr) (A : List (Arc Str)) (f : Str → Int) : Prop := H x = some (.dK (wkv A f))
theorem WorldAt.get {H : Hp} {x : Addr} {A : List (Arc Str)} {f : Str → Int} (h : WorldAt H x A f) (hN : Names A) {a : Arc Str} (ha : a ∈ A) : DGet H x (.str a.1) (some (.int (f a.1))) :=
  .inl ⟨wkv A f, Sum.inr a.1, .inl h, rfl, (wkv_val hN ha f).symm⟩
theorem WorldAt.same {H H' : Hp} {x : Addr} {A : List (Arc Str)} {f : Str → Int} (e : Same H H') (h : WorldAt H x A f) : WorldAt H' x A f := e _ _ h
def innerS (A : List (Arc Str)) (f : Str → Int) (v : Str) : Int := ((A.filter fun a => decide (a.2.2 = v)).map fun a => f a.1).sum
def outerS (A : List (Arc Str)) (f : Str → Int) (v : Str) : Int := ((A.filter fun a => decide (a.2.1 = v)).map fun a => f a.1).sum
theorem filt_sum (A : List (Arc Str)) (f : Str → Int) (p : Arc Str → Prop) [DecidablePred p] : ((A.filter fun a => decide (p a)).map fun a => f a.1).sum = sumA A fun a => f a.1 * bi (p a) := by
  induction A with
  | nil => rfl
  | cons a A ih =>
    rw [sumA_cons, List.filter_cons, ← ih]
    by_cases q : p a
    · rw [bi_t q, if_pos (decide_eq_true q), List.map_cons, List.sum_cons]
      omega
    · rw [bi_f q, if_neg (by simp [q])]
      omega
theorem bal_io (A : List (Arc Str)) (f : Str → Int) (v : Str) : bal A f v = innerS A f v - outerS A f v := by
  unfold bal innerS outerS
  rw [filt_sum, filt_sum, ← sumA_sub]
  exact sumA_ext fun a _ => by unfold wt; rw [Int.mul_sub]
theorem world_iff {A : List (Arc Str)} {f : Str → Int} : NetW A f ↔ (∀ a ∈ A, 0 ≤ f a.1) ∧ ∀ v ∈ nodesOf A, innerS A f v = outerS A f v := by
  constructor
  · intro h
    refine ⟨h.pos, fun v _ => ?_⟩
    have := h.even v
    rw [bal_io] at this
    omega
  · rintro ⟨h1, h2⟩
    refine ⟨h1, fun v => ?_⟩
    by_cases q : v ∈ nodesOf A
    · rw [bal_io, h2 v q]
      omega
    · exact bal_off q f
def spWorld : Sp := fun vs H Q _ => ∃ (d x : Addr) (A : List (Arc Str)) (f : Str → Int), vs = [.ref d, .ref x] ∧ FArcs H d A ∧ Names A ∧ A.length ≤ 20 ∧ WorldAt H x A f ∧ ∀ b H', Same H H' → (b = true ↔ NetW A f) → Q (.bl b) H'
abbrev N_l_is_world : List Str := ["_law_arcs", "_law_x", "_law_node", "_law_inner", "_law_name_here"]
theorem sc_l_is_world : FnScope N_l_is_world ["_law_arcs", "_law_x"] (defScope s_l_is_world) := ⟨rfl, rfl, rfl, by decide +kernel, rfl, by decide +kernel, by decide +kernel⟩
theorem kit_int_int : PySem.W.kitOne K (.type "int") (.type "int") = some true := kit_ty (by decide +kernel)
theorem kit_int_bool : PySem.W.kitOne K (.type "int") (.type "bool") = some false := kit_ty (by decide +kernel)
theorem kit_dict_dict : PySem.W.kitOne K (.type "dict") (.type "dict") = some true := kit_ty (by decide +kernel)
/-- a sum over some arcs -/
theorem sum_gath {A : List (Arc Str)} {f : Str → Int} {n : Nat} (hn : n = A.length) (p : Arc Str → Bool) : gath (cA A p) (fA A fun a => V.int (f a.1)) n = ((A.filter p).map fun a => f a.1).map V.int := by
  rw [hn, gath_of, List.map_map]
  rfl
theorem cal_l_is_world (T : Txt K mg C) (F : Has K mg "_law_c_is_world" s_l_is_world) (c_l_nodes : Cal P w K mg base "_law_c_nodes" 1 ["_law_arcs"] spNodes) : Cal P w K mg base "_law_c_is_world" 2 ["_law_arcs", "_law_x"] spWorld := by
  refine F.cal sc_l_is_world (fun vs H Q E h => by obtain ⟨d, x, A, f, rfl, _⟩ := h; rfl) (fun _ _ _ _ _ _ us hl => match us, hl with | [_, _], _ => rfl) (fun fa cdv Ar outer s0 H vs Q E hr h => ?_)
  obtain ⟨d, x, A, f, rfl, hA, hN, hA20, hx, k⟩ := h
  obtain ⟨o, kvs, hd, hk⟩ := id hA
  have hl := hk.len
  refine ⟨_, pss_cons (ps_if (PW.pt (pw_or (pt_not (pt_val (pe_callB (isiK K) (by rfl) T.isi bt_isinstance (pa_cons (pv 1) (pa_cons (pe_bltn (v := .ty "dict") (by rfl) T.dict bt_dict rfl) pa_nil))))) (pw_or (pt_cmpR op_ne (pe_callB lenD (by rfl) T.len bt_len (pa_cons (pv 1) pa_nil)) (pe_callB lenD (by rfl) T.len bt_len (pa_cons (pv 0) pa_nil)) (nomark _)) (pw_or1 (pt_not (pt_val (pe_callB (allK K rfl) (by rfl) T.all bt_all (pa_cons (pe_lc (own := [("_law_name_here", 4)]) rfl sc_l_is_world.nd (pi_keys (pv 0)) (blkOk_by (N := N_l_is_world) (sc := defScope s_l_is_world) (by decide +kernel)) (fun _ _ _ _ _ => (pg_name (i := 4) sc_l_is_world.nd rfl (Or.inl rfl))) (fun _ _ _ _ _ => pts_nil) (fun _ _ _ _ _ => (pe_cmp (pc_din (hu_of hr) (pv 4) (pv 1))))) pa_nil)))))))) (pss_one (ps_ret pe_bl)) pss_nil)
    (pss_cons (ps_if (pt_not (pt_val (pe_callB (allK K rfl) (by rfl) T.all bt_all (pa_cons (pe_lc (own := [("_law_name_here", 4)]) rfl sc_l_is_world.nd (pi_keys (pv 0)) (blkOk_by (N := N_l_is_world) (sc := defScope s_l_is_world) (by decide +kernel)) (fun _ _ _ _ _ => (pg_name (i := 4) sc_l_is_world.nd rfl (Or.inl rfl))) (fun _ _ _ _ _ => pts_nil) (fun _ _ _ _ _ => (pe_and (pe_callB (isiK K) (by rfl) T.isi bt_isinstance (pa_cons (pe_dget (hu_of hr) (pv 1) (pv 4) (fun _ _ => rfl)) (pa_cons (pe_bltn (v := .ty "int") (by rfl) T.int bt_int rfl) pa_nil))) (pe_and (pe_not (pe_callB (isiK K) (by rfl) T.isi bt_isinstance (pa_cons (pe_dget (hu_of hr) (pv 1) (pv 4) (fun _ _ => rfl)) (pa_cons (pe_bltn (v := .ty "bool") (by rfl) T.bool bt_bool rfl) pa_nil)))) (pe_one (pe_cmpR op_ge (pe_dget (hu_of hr) (pv 1) (pv 4) (fun _ _ => rfl)) pe_int (nomark _))))))) pa_nil)))) (pss_one (ps_ret pe_bl)) pss_nil)
    (pss_cons (ps_for PassesOwn.never rfl (pilist K (pe_callC c_l_nodes (hr.mono (by decide)) (by rfl) (pa_cons (pv 0) pa_nil))) (pg_name (i := 2) sc_l_is_world.nd rfl (Or.inr rfl)) (pss_cons (ps_set (i := 3) sc_l_is_world.nd rfl (Or.inl rfl) (pe_callB (sumK K rfl) (by rfl) T.sum bt_sum (pa_cons (pe_lc (own := [("_law_name_here", 4)]) rfl sc_l_is_world.nd (pi_keys (pv 0)) (blkOk_by (N := N_l_is_world) (sc := defScope s_l_is_world) (by decide +kernel)) (fun _ _ _ _ _ => (pg_name (i := 4) sc_l_is_world.nd rfl (Or.inl rfl))) (fun _ _ _ _ _ => (pts_one (pt_cmpR op_eq (pe_ix (ixT K) (pe_dget (hu_of hr) (pv 0) (pv 4) (fun _ _ => rfl)) pe_int (fun _ _ => rfl)) (pv 2) (nomark _)))) (fun _ _ _ _ _ => (pe_dget (hu_of hr) (pv 1) (pv 4) (fun _ _ => rfl)))) pa_nil)))
    (pss_one (ps_if (pt_cmpR op_ne (pv 3) (pe_callB (sumK K rfl) (by rfl) T.sum bt_sum (pa_cons (pe_lc (own := [("_law_name_here", 4)]) rfl sc_l_is_world.nd (pi_keys (pv 0)) (blkOk_by (N := N_l_is_world) (sc := defScope s_l_is_world) (by decide +kernel)) (fun _ _ _ _ _ => (pg_name (i := 4) sc_l_is_world.nd rfl (Or.inl rfl))) (fun _ _ _ _ _ => (pts_one (pt_cmpR op_eq (pe_ix (ixT K) (pe_dget (hu_of hr) (pv 0) (pv 4) (fun _ _ => rfl)) pe_int (fun _ _ => rfl)) (pv 2) (nomark _)))) (fun _ _ _ _ _ => (pe_dget (hu_of hr) (pv 1) (pv 4) (fun _ _ => rfl)))) pa_nil)) (nomark _)) (pss_one (ps_ret pe_bl)) pss_nil))))
    (pss_one (ps_ret pe_bl)))), ?_⟩
  refine ⟨_, rfl, _, _, _, _, _, rfl, .ty _, .base (.dK hx), kit_dict_dict, true, rfl, iteF ?_⟩
  refine ⟨_, rfl, x, _, rfl, .inl hx, _, rfl, d, kvs, rfl, .inr ⟨o, hd⟩, rfl, false, ?_, iteF ?_⟩
  · rw [wkv_len, hl]
    simp
  refine nt (tbs (cb (ac ?_)))
  refine lc_keys (fun _ => true) (fA A fun _ => V.bl true) (val_var rfl) hd (by omega) ?_ fun p H1 hp e1 h1 => ?_
  · rintro i ky v H2 hi e R R' hR hR'
    obtain ⟨a, t, ha, rfl, rfl, ht⟩ := hk.at' hi
    rw [fA_eq ha] at hR
    exact gn ⟨rfl, yesT ⟨_, rfl, _, rfl, x, _, rfl, (hx.same e).get hN (mem_at ha), hR rfl _ (Same.refl _)⟩⟩
  rw [hl, gath_map] at h1
  refine ⟨p, A.map fun _ => true, rfl, SqL.of (by rw [h1, List.map_map]; rfl), true, ?_, iteF ?_⟩
  · simp
  refine nx2 ?_
  refine sq ?_
  refine ifs ?_
  refine nt (tbs (cb (ac ?_)))
  refine lc_keys (fun _ => true) (fA A fun a => V.bl (decide (0 ≤ f a.1))) (val_var rfl) (e1 _ _ hd) (by omega) ?_ fun p2 H2 hp2 e2 h2 => ?_
  · rintro i ky v H2 hi e R R' hR hR'
    obtain ⟨a, t, ha, rfl, rfl, ht⟩ := hk.at' hi
    rw [fA_eq ha] at hR
    have hg := (hx.same (e1.trans e)).get hN (mem_at ha)
    refine gn ⟨rfl, yesT ?_⟩
    refine ⟨_, rfl, _, rfl, x, _, rfl, hg, _, _, _, _, _, rfl, .ty _, .base (.int _), kit_int_int, true, rfl, iteT ?_⟩
    refine ⟨_, rfl, _, rfl, x, _, rfl, hg, _, _, _, _, _, rfl, .ty _, .base (.int _), kit_int_bool, false, rfl, true, rfl, iteT ?_⟩
    exact ⟨_, rfl, _, rfl, x, _, rfl, hg, _, _, rfl, rfl, hR rfl _ (Same.refl _)⟩
  rw [hl, gath_map] at h2
  have e12 := e1.trans e2
  refine ⟨p2, A.map fun a => decide (0 ≤ f a.1), rfl, SqL.of (by rw [h2, List.map_map]; rfl), _, rfl, ?_⟩
  by_cases hpos : ∀ a ∈ A, 0 ≤ f a.1
  case neg =>
    have e : ((A.map fun a => decide (0 ≤ f a.1)).all id) = false := by
      rw [List.all_map, List.all_eq_false]
      refine Classical.byContradiction fun n => hpos fun a ha => Classical.byContradiction fun m => n ⟨a, ha, by simp [m]⟩
    rw [e]
    refine iteT ?_
    exact k false _ e12 ⟨fun z => (nomatch z), fun z => absurd z.pos hpos⟩
  have e : ((A.map fun a => decide (0 ≤ f a.1)).all id) = true := by
    rw [List.all_map, List.all_eq_true]
    exact fun a ha => decide_eq_true (hpos a ha)
  rw [e]
  refine iteF (sq ?_)
  refine ⟨_, rfl, d, A, rfl, hA.same e12, hA20, fun q H3 hq e3 h3 => ?_⟩
  refine ⟨q, rfl, ⟨_, SqL.of h3⟩, for_list (K := K) (a := q) (xs := (nodesOf A).map V.str) (fun i σ H4 => ∃ v2 v3 v4, σ = [some (.ref d), some (.ref x), v2, v3, v4] ∧ Same H H4 ∧ H4 q = some (.lst ((nodesOf A).map V.str)) ∧ ∀ v ∈ (nodesOf A).take i, innerS A f v = outerS A f v)
    ⟨none, none, none, rfl, e12.trans e3, h3, fun _ z => absurd z (by simp)⟩ (fun i σ H4 _ ⟨_, _, _, _, _, h, _⟩ => SqL.of h) ?_ ?_⟩
  · rintro i y σ H4 hi ⟨v2, v3, v4, rfl, e4, h4, hv⟩
    rw [List.getElem?_map] at hi
    obtain ⟨z, hz, rfl⟩ := Option.map_eq_some_iff.mp hi
    refine gn (sq (asg (cb (ac ?_))))
    refine lc_keys (cA A fun a => decide (a.2.2 = z)) (fA A fun a => V.int (f a.1)) (val_var rfl) (e4 _ _ hd) (by omega) ?_ fun p5 H5 hp5 e5 h5 => ?_
    · rintro i ky v H5 hi e R R' hR hR'
      obtain ⟨a, t, ha, rfl, rfl, _⟩ := hk.at' hi
      rw [cA_eq ha] at hR hR'
      rw [fA_eq ha] at hR
      obtain ⟨t', hg', ht'⟩ := (hA.same (e4.trans e)).get hN (mem_at ha)
      refine gn ⟨rfl, ?_⟩
      refine ⟨_, rfl, _, rfl, d, _, rfl, hg', t', _, 1, _, rfl, rfl, SqT.of ht', at_1, _, rfl, rfl, decide (a.2.2 = z), ?_, ?_⟩
      · rw [dec_str]
        by_cases q : a.2.2 = z <;> simp [q]
      · by_cases q : a.2.2 = z
        · rw [decide_eq_true q]
          exact iteT ⟨_, rfl, _, rfl, x, _, rfl, (hx.same (e4.trans e)).get hN (mem_at ha), hR (decide_eq_true q) _ (Same.refl _)⟩
        · rw [decide_eq_false q]
          exact iteF (hR' (decide_eq_false q) _ (Same.refl _))
    rw [sum_gath hl] at h5
    refine ⟨p5, _, rfl, SqL.of h5, gn ?_⟩
    have e45 := e4.trans e5
    refine ⟨_, rfl, cb (ac ?_)⟩
    refine lc_keys (cA A fun a => decide (a.2.1 = z)) (fA A fun a => V.int (f a.1)) (val_var rfl) (e45 _ _ hd) (by omega) ?_ fun p6 H6 hp6 e6 h6 => ?_
    · rintro i ky v H5 hi e R R' hR hR'
      obtain ⟨a, t, ha, rfl, rfl, _⟩ := hk.at' hi
      rw [cA_eq ha] at hR hR'
      rw [fA_eq ha] at hR
      obtain ⟨t', hg', ht'⟩ := (hA.same (e45.trans e)).get hN (mem_at ha)
      refine gn ⟨rfl, ?_⟩
      refine ⟨_, rfl, _, rfl, d, _, rfl, hg', t', _, 0, _, rfl, rfl, SqT.of ht', at_0, _, rfl, rfl, decide (a.2.1 = z), ?_, ?_⟩
      · rw [dec_str]
        by_cases q : a.2.1 = z <;> simp [q]
      · by_cases q : a.2.1 = z
        · rw [decide_eq_true q]
          exact iteT ⟨_, rfl, _, rfl, x, _, rfl, (hx.same (e45.trans e)).get hN (mem_at ha), hR (decide_eq_true q) _ (Same.refl _)⟩
        · rw [decide_eq_false q]
          exact iteF (hR' (decide_eq_false q) _ (Same.refl _))
    rw [sum_gath hl] at h6
    refine ⟨p6, _, rfl, SqL.of h6, rfl, !decide (innerS A f z = outerS A f z), ?_, ?_⟩
    · rw [dec_int]
      show V.bl (!(innerS A f z == outerS A f z)) = _
      by_cases q : innerS A f z = outerS A f z <;> simp [q]
    · by_cases q : innerS A f z = outerS A f z
      · rw [decide_eq_true q]
        refine iteF ⟨_, _, _, rfl, e45.trans e6, e6 _ _ (e5 _ _ h4), fun v hv' => ?_⟩
        rw [take_snoc hz] at hv'
        rcases List.mem_append.mp hv' with r | r
        · exact hv v r
        · rw [List.mem_singleton.mp r]; exact q
      · rw [decide_eq_false q]
        refine iteT ?_
        exact k false _ (e45.trans e6) ⟨fun z => (nomatch z), fun w => absurd ((world_iff.mp w).2 z (mem_at hz)) q⟩
  · rintro σ H4 ⟨v2, v3, v4, rfl, e4, h4, hv⟩
    refine k true _ e4 ⟨fun _ => world_iff.mpr ⟨hpos, fun v hv' => hv v ?_⟩, fun _ => rfl⟩
    rw [List.take_of_length_le (by simp)]
    exact hv'
end
end K25

namespace K25
open PySem PySem.Spec PyProof.Rows L2
section
variable {P : Program} {w : World} {K : PySem.W.Frag} {mg : Str → Option Value} {base : Heap} {C : Addr}
/-! ### sides and plans -/
theorem bl_rng (n : Nat) (b : Bool) : (List.range n).map (fun _ => V.bl b) = ((List.range n).map fun _ => b).map V.bl := by
  rw [List.map_map]
  rfl
theorem cut_take {xs : List V} {i : Nat} (h : i ≤ xs.length) : cutV xs none (some (i : Int)) = xs.take i := by
  unfold cutV
  have e1 : HT.sIx xs.length 0 none = 0 := rfl
  have e2 : HT.sIx xs.length xs.length (some (i : Int)) = i := by
    rw [HT.sIx_nat]
    omega
  rw [e1, e2]
  simp
def spIsSide : Sp := fun vs H Q _ => ∃ (d x : Addr) (A : List (Arc Str)) (S : List Str), vs = [.ref d, .ref x] ∧ FArcs H d A ∧ A.length ≤ 20 ∧ H x = some (.lst (S.map V.str)) ∧ S.length ≤ 100 ∧ S.Nodup ∧ (∀ v ∈ S, v ∈ nodesOf A) ∧ ∀ H', Same H H' → Q (.bl true) H'
abbrev N_l_is_side : List Str := ["_law_arcs", "_law_x", "_law_nodes", "_law_y", "_law_at"]
theorem sc_l_is_side : FnScope N_l_is_side ["_law_arcs", "_law_x"] (defScope s_l_is_side) := ⟨rfl, rfl, rfl, by decide +kernel, rfl, by decide +kernel, by decide +kernel⟩
theorem cal_l_is_side (T : Txt K mg C) (F : Has K mg "_law_c_is_side" s_l_is_side) (c_l_nodes : Cal P w K mg base "_law_c_nodes" 1 ["_law_arcs"] spNodes) : Cal P w K mg base "_law_c_is_side" 2 ["_law_arcs", "_law_x"] spIsSide := by
  refine F.cal sc_l_is_side (fun vs H Q E h => by obtain ⟨d, x, A, S, rfl, _⟩ := h; rfl) (fun _ _ _ _ _ _ us hl => match us, hl with | [_, _], _ => rfl) (fun fa cdv Ar outer s0 H vs Q E hr h => ?_)
  obtain ⟨d, x, A, S, rfl, hA, hA20, hx, hS, hn, hsub, k⟩ := h
  refine ⟨_, pss_cons (ps_set (i := 2) sc_l_is_side.nd rfl (Or.inr rfl) (pe_callC c_l_nodes (hr.mono (by decide)) (by rfl) (pa_cons (pv 0) pa_nil)))
    (pss_cons (ps_if (PW.pt (pw_or (pt_not (pt_val (pe_callB (isiTK K) (by rfl) T.isi bt_isinstance (pa_cons (pv 1) (pa_cons (pe_tup (pa_cons (pe_bltn (v := .ty "list") (by rfl) T.list bt_list rfl) (pa_cons (pe_bltn (v := .ty "tuple") (by rfl) T.tuple bt_tuple rfl) pa_nil))) pa_nil))))) (pw_or1 (pt_not (pt_val (pe_callB (allK K rfl) (by rfl) T.all bt_all (pa_cons (pe_lc (own := [("_law_y", 3)]) rfl sc_l_is_side.nd (pilist K (pv 1)) (blkOk_by (N := N_l_is_side) (sc := defScope s_l_is_side) (by decide +kernel)) (fun _ _ _ _ _ => (pg_name (i := 3) sc_l_is_side.nd rfl (Or.inl rfl))) (fun _ _ _ _ _ => pts_nil) (fun _ _ _ _ _ => (pe_and (pe_callB (isiK K) (by rfl) T.isi bt_isinstance (pa_cons (pv 3) (pa_cons (pe_bltn (v := .ty "str") (by rfl) T.str bt_str rfl) pa_nil))) (pe_one (pe_cmpR (inQ K) (pv 3) (pv 2) rfl))))) pa_nil))))))) (pss_one (ps_ret pe_bl)) pss_nil)
    (pss_one (ps_ret (pe_not (pe_callB (anyK K rfl) (by rfl) T.any bt_any (pa_cons (pe_lc (own := [("_law_at", 4), ("_law_y", 3)]) rfl sc_l_is_side.nd (pienum K (by rfl) T.enumerate (pa_cons (pv 1) pa_nil)) (blkOk_by (N := N_l_is_side) (sc := defScope s_l_is_side) (by decide +kernel)) (fun _ _ _ _ _ => (pgtup K (n := 2) rfl (pgs_cons (pg_name (i := 4) sc_l_is_side.nd rfl (Or.inl rfl)) (pgs_cons (pg_name (i := 3) sc_l_is_side.nd rfl (Or.inl rfl)) pgs_nil)))) (fun _ _ _ _ _ => pts_nil) (fun _ _ _ _ _ => (pe_cmpR (inQ K) (pv 3) (pe_slice (slL K) (pv 1) po_none (po_some (pv 4))) rfl))) pa_nil)))))), ?_⟩
  refine ⟨_, rfl, d, A, rfl, hA, hA20, fun q H1 hq e1 h1 => ?_⟩
  refine ⟨_, rfl, by show 2 ≤ sizeLine; decide, fun tt htt => ?_⟩
  have e2 : Same H _ := e1.trans (Same.new (o := .tup [.ty "list", .ty "tuple"]) htt)
  refine ⟨_, tt, _, _, _, _, rfl, upd_same, .cons (.ty _) (.cons (.ty _) .nil), .base (.lst (e2 _ _ hx)), kit_lt_list, true, rfl, iteF ?_⟩
  refine nt (tbs (cb (ac ?_)))
  refine lc_lst (fun _ => true) (fun _ => V.bl true) (val_var rfl) (e2 _ _ hx) (by rw [List.length_map]; omega) ?_ fun p H2 hp e h => ?_
  · rintro i y H2 hi e R R' hR hR'
    rw [List.getElem?_map] at hi
    obtain ⟨z, hz, rfl⟩ := Option.map_eq_some_iff.mp hi
    refine gn ⟨rfl, yesT ?_⟩
    refine ⟨_, rfl, _, _, _, _, _, rfl, .ty _, .base (.str _), kit_str_str, true, rfl, iteT ?_⟩
    refine ⟨_, rfl, _, rfl, q, _, rfl, .inl (SqL.of (e _ _ ((Same.new (o := .tup [.ty "list", .ty "tuple"]) htt) _ _ h1))), rfl, flat_strs _, ?_⟩
    show R (V.bl (inV (.str z) ((nodesOf A).map V.str))) _
    rw [inV_str, decide_eq_true (hsub z (mem_at hz))]
    exact hR rfl _ (Same.refl _)
  rw [gath_all fun _ => rfl] at h
  have e3 := e2.trans e
  refine ⟨p, (List.range (S.map V.str).length).map fun _ => true, rfl, SqL.of (by rw [h, List.map_map]; rfl), true, by simp, iteF ?_⟩
  refine nx2 ?_
  refine ret ?_
  refine cb (ac ?_)
  refine lc_en (fun _ => true) (fun _ => V.bl false) (val_var rfl) (e3 _ _ hx) (by rw [List.length_map]; omega) ?_ fun p4 H4 hp4 e4 h4 => ?_
  · rintro i y t H4 hi e ht R R' hR hR'
    rw [List.getElem?_map] at hi
    obtain ⟨z, hz, rfl⟩ := Option.map_eq_some_iff.mp hi
    have e5 := Same.new (o := .tup [.int (i : Nat), .str z]) ht
    refine ⟨t, _, rfl, SqT.of upd_same, rfl, _, _, rfl, gn ⟨_, _, rfl, gn ⟨rfl, rfl, yesT ?_⟩⟩⟩
    refine ⟨_, rfl, _, rfl, _, rfl, _, rfl, x, _, rfl, SqL.of (e5 _ _ (e _ _ (e3 _ _ hx))), fun p5 hp5 => ?_⟩
    have ec : cutV (S.map V.str) none (some (i : Int)) = (S.take i).map V.str := by
      have hi' : i ≤ S.length := Nat.le_of_lt (List.getElem?_eq_some_iff.mp hz).1
      rw [cut_take (by rw [List.length_map]; exact hi'), List.map_take]
    rw [ec]
    refine ⟨p5, _, rfl, .inl (SqL.of upd_same), rfl, flat_strs _, ?_⟩
    show R (V.bl (inV (.str z) ((S.take i).map V.str))) _
    rw [inV_str, decide_eq_false (nodup_take_not hn hz)]
    exact hR rfl _ (e5.trans (Same.new hp5))
  rw [gath_all fun _ => rfl] at h4
  refine ⟨p4, (List.range (S.map V.str).length).map fun _ => false, rfl, SqL.of (by rw [h4, List.map_map]; rfl), _, rfl, ?_⟩
  have ef : ((List.range (S.map V.str).length).map fun _ => false).any id = false := by simp
  rw [ef]
  exact k _ (e3.trans e4)
theorem out_into (S : List Str) (a : Arc Str) : bi (a.2.1 ∈ S) - bi (a.2.2 ∈ S) = - into S a := by
  unfold into
  omega
def spIsPlan : Sp := fun vs H Q _ => ∃ (d kn x : Addr) (A : List (Arc Str)) (Ks S : List Str) (a : Arc Str), vs = [.ref d, .ref kn, .str a.1, .ref x] ∧ FArcs H d A ∧ Names A ∧ A.length ≤ 20 ∧ H kn = some (.lst (Ks.map V.str)) ∧ H x = some (.lst (S.map V.str)) ∧ S.length ≤ 100 ∧ a ∈ A ∧
  ((still A Ks a = true ∧ S = []) ∨ (still A Ks a = false ∧ PlanOk A Ks a S)) ∧ ∀ H', Same H H' → Q (.bl true) H'
abbrev N_l_is_plan : List Str := ["_law_arcs", "_law_known", "_law_asked", "_law_x", "_law_live", "_law_crossing", "_law_name_here"]
theorem sc_l_is_plan : FnScope N_l_is_plan ["_law_arcs", "_law_known", "_law_asked", "_law_x"] (defScope s_l_is_plan) := ⟨rfl, rfl, rfl, by decide +kernel, rfl, by decide +kernel, by decide +kernel⟩
theorem live_mem {A : List (Arc Str)} (hN : Names A) {a : Arc Str} (ha : a ∈ A) : (a.1 ∈ (A.filter (liveB A)).map fun b => b.1) ↔ liveB A a = true := by
  rw [List.mem_map]
  constructor
  · rintro ⟨b, hb, e⟩
    obtain ⟨h1, h2⟩ := List.mem_filter.mp hb
    rw [hN.eq ha h1 e.symm]
    exact h2
  · intro h
    exact ⟨a, List.mem_filter.mpr ⟨ha, h⟩, rfl⟩
theorem cal_l_is_plan (T : Txt K mg C) (F : Has K mg "_law_c_is_plan" s_l_is_plan) (c_l_live : Cal P w K mg base "_law_c_live" 2 ["_law_arcs"] spLive) (c_l_is_side : Cal P w K mg base "_law_c_is_side" 2 ["_law_arcs", "_law_x"] spIsSide)
    (c_l_out : Cal P w K mg base "_law_c_out" 1 ["_law_arcs", "_law_name_here", "_law_side"] spOut) : Cal P w K mg base "_law_c_is_plan" 3 ["_law_arcs", "_law_known", "_law_asked", "_law_x"] spIsPlan := by
  refine F.cal sc_l_is_plan (fun vs H Q E h => by obtain ⟨d, kn, x, A, Ks, S, a, rfl, _⟩ := h; rfl) (fun _ _ _ _ _ _ us hl => match us, hl with | [_, _, _, _], _ => rfl) (fun fa cdv Ar outer s0 H vs Q E hr h => ?_)
  obtain ⟨d, kn, x, A, Ks, S, a, rfl, hA, hN, hA20, hkn, hx, hS, ha, hc, k⟩ := h
  refine ⟨_, pss_cons (ps_set (i := 4) sc_l_is_plan.nd rfl (Or.inl rfl) (pe_callC c_l_live (hr.mono (by decide)) (by rfl) (pa_cons (pv 0) pa_nil)))
    (pss_cons (ps_if (pt_not (pt_val (pe_callC c_l_is_side (hr.mono (by decide)) (by rfl) (pa_cons (pv 0) (pa_cons (pv 3) pa_nil))))) (pss_one (ps_ret pe_bl)) pss_nil)
    (pss_cons (ps_if (PW.pt (pw_or (pt_cmpR (inQ K) (pv 2) (pv 1) rfl) (pw_or1 (pt_cmpR (niQ K) (pv 2) (pv 4) rfl)))) (pss_one (ps_ret (pe_cmpR op_eq (pe_callB (lenK K) (by rfl) T.len bt_len (pa_cons (pv 3) pa_nil)) pe_int (nomark _)))) pss_nil)
    (pss_cons (ps_setLc (i := 5) (own := [("_law_name_here", 6)]) rfl sc_l_is_plan.nd rfl rfl (sw_true rfl rfl rfl (by decide +kernel)) (pilist K (pv 4)) (blkOk_by (N := N_l_is_plan) (sc := defScope s_l_is_plan) (by decide +kernel)) (fun _ _ _ _ _ => (pg_name (i := 6) sc_l_is_plan.nd rfl (Or.inl rfl))) (fun _ _ _ _ _ => (pts_one (pt_cmpR op_ne (pe_callC c_l_out (hr.mono (by decide)) (by rfl) (pa_cons (pv 0) (pa_cons (pv 6) (pa_cons (pv 3) pa_nil)))) pe_int (nomark _)))) (fun _ _ _ _ _ => (pv 6)))
    (pss_one (ps_ret (pe_and (pe_cmpR (inQ K) (pv 2) (pv 5) rfl) (pe_one (pe_callB (allK K rfl) (by rfl) T.all bt_all (pa_cons (pe_lc (own := [("_law_name_here", 6)]) rfl sc_l_is_plan.nd (pilist K (pv 5)) (blkOk_by (N := N_l_is_plan) (sc := defScope s_l_is_plan) (by decide +kernel)) (fun _ _ _ _ _ => (pg_name (i := 6) sc_l_is_plan.nd rfl (Or.inl rfl))) (fun _ _ _ _ _ => pts_nil) (fun _ _ _ _ _ => (pe_or (pe_cmpR (inQ K) (pv 6) (pv 1) rfl) (pe_one (pe_cmpR op_eq (pv 6) (pv 2) (nomark _)))))) pa_nil))))))))), ?_⟩
  refine ⟨_, rfl, d, A, rfl, hA, hN, hA20, fun q H1 hq e1 h1 => ?_⟩
  have hside : S.Nodup ∧ ∀ v ∈ S, v ∈ nodesOf A := by
    rcases hc with ⟨_, rfl⟩ | ⟨_, h⟩
    · exact ⟨List.nodup_nil, fun _ z => absurd z (by simp)⟩
    · exact ⟨h.nd, h.sub⟩
  have h1' : H1 q = some (.lst (((A.filter (liveB A)).map fun b => b.1).map V.str)) := by rw [h1, List.map_map]; rfl
  refine ⟨_, rfl, _, rfl, d, x, A, S, rfl, hA.same e1, hA20, e1 _ _ hx, hS, hside.1, hside.2, fun H2 e2 => ⟨true, rfl, iteF ?_⟩⟩
  have e12 := e1.trans e2
  refine ⟨_, rfl, _, rfl, kn, _, rfl, .inl (SqL.of (e12 _ _ hkn)), rfl, flat_strs _, decide (a.1 ∈ Ks), ?_, ?_⟩
  · show V.bl (inV (.str a.1) (Ks.map V.str)) = _
    rw [inV_str]
  have hlen : H2 x = some (.lst (S.map V.str)) := e12 _ _ hx
  have fin0 : S = [] → Q (.bl (decide (V.int ((S.map V.str).length : Nat) = V.int 0))) H2 := fun e => by
    subst e
    exact k _ e12
  by_cases q1 : a.1 ∈ Ks
  · rw [decide_eq_true q1]
    refine iteT (iteT ?_)
    have : S = [] := by
      rcases hc with ⟨_, h⟩ | ⟨h, _⟩
      · exact h
      · exact absurd q1 (not_still h).1
    exact ⟨_, rfl, x, _, rfl, .inl (SqL.of hlen), rfl, fin0 this⟩
  rw [decide_eq_false q1]
  refine iteF ?_
  refine ⟨_, rfl, _, rfl, q, _, rfl, .inl (SqL.of (e2 _ _ h1')), rfl, flat_strs _, !liveB A a, ?_, ?_⟩
  · show V.bl (!inV (.str a.1) (((A.filter (liveB A)).map fun b => b.1).map V.str)) = _
    rw [inV_str]
    congr 2
    cases e : liveB A a with
    | true => exact decide_eq_true ((live_mem hN ha).mpr e)
    | false => exact decide_eq_false fun z => by rw [(live_mem hN ha).mp z] at e; cases e
  cases hl : liveB A a with
  | false =>
    refine iteT ?_
    have : S = [] := by
      rcases hc with ⟨_, h⟩ | ⟨h, _⟩
      · exact h
      · rw [(not_still h).2] at hl; cases hl
    exact ⟨_, rfl, x, _, rfl, .inl (SqL.of hlen), rfl, fin0 this⟩
  | true =>
    refine iteF ?_
    have hp : PlanOk A Ks a S := by
      rcases hc with ⟨h, _⟩ | ⟨_, h⟩
      · unfold still at h
        rw [hl, decide_eq_false q1] at h
        cases h
      · exact h
    have hl5 : (A.filter (liveB A)).length ≤ 20 := Nat.le_trans (List.length_filter_le _ _) hA20
    refine nx2 ?_
    refine sq ?_
    refine asg ?_
    refine lc_lst (cA (A.filter (liveB A)) fun b => decide (into S b ≠ 0)) (fA (A.filter (liveB A)) fun b => V.str b.1) (val_var rfl) (e2 _ _ h1) (by rw [List.length_map]; omega) ?_ fun p3 H3 hp3 e3 h3 => ?_
    · rintro i y H4 hi e R R' hR hR'
      rw [List.getElem?_map] at hi
      obtain ⟨b, hb, rfl⟩ := Option.map_eq_some_iff.mp hi
      rw [cA_eq hb] at hR hR'
      rw [fA_eq hb] at hR
      have hbA : b ∈ A := (List.mem_filter.mp (mem_at hb)).1
      refine gn ⟨rfl, ?_⟩
      have e4 := e12.trans e
      refine ⟨_, rfl, _, rfl, _, rfl, d, x, A, b, S, rfl, hA.same e4, hN, hbA, e4 _ _ hx, fun H5 e5 => ?_⟩
      refine ⟨rfl, decide (into S b ≠ 0), ?_, ?_⟩
      · rw [dec_int, out_into]
        show V.bl (!(- into S b == 0)) = _
        by_cases z : into S b = 0
        · rw [z]; rfl
        · have : - into S b ≠ 0 := by omega
          simp [z, this]
      · by_cases z : into S b ≠ 0
        · rw [decide_eq_true z]
          exact iteT ⟨_, rfl, hR (decide_eq_true z) _ e5⟩
        · rw [decide_eq_false z]
          exact iteF (hR' (decide_eq_false z) _ e5)
    have e23 := e12.trans e3
    have h3' : H3 p3 = some (.lst ((((A.filter (liveB A)).filter fun b => decide (into S b ≠ 0)).map fun b => b.1).map V.str)) := by
      rw [List.length_map, gath_of] at h3
      rw [h3, List.map_map]
      rfl
    refine gn2 ?_
    refine ret ?_
    refine ⟨_, rfl, _, rfl, p3, _, rfl, .inl (SqL.of h3'), rfl, flat_strs _, true, ?_, iteT ?_⟩
    · show V.bl (inV (.str a.1) _) = _
      rw [inV_str]
      exact congrArg V.bl (decide_eq_true (List.mem_map.mpr ⟨a, List.mem_filter.mpr ⟨List.mem_filter.mpr ⟨ha, hl⟩, decide_eq_true hp.ask⟩, rfl⟩))
    refine cb (ac ?_)
    generalize hcr : (A.filter (liveB A)).filter (fun b => decide (into S b ≠ 0)) = cr at h3'
    have hcr20 : cr.length ≤ 20 := by
      rw [← hcr]
      exact Nat.le_trans (List.length_filter_le _ _) hl5
    refine lc_lst (fun _ => true) (fun _ => V.bl true) (val_var rfl) h3' (by simp; omega) ?_ fun p5 H5 hp5 e5 h5 => ?_
    · rintro i y H4 hi e R R' hR hR'
      rw [List.map_map, List.getElem?_map] at hi
      obtain ⟨b, hb, rfl⟩ := Option.map_eq_some_iff.mp hi
      have hb' := mem_at hb
      rw [← hcr] at hb'
      obtain ⟨hb1, hb2⟩ := List.mem_filter.mp hb'
      obtain ⟨hb3, hb4⟩ := List.mem_filter.mp hb1
      refine gn ⟨rfl, yesT ?_⟩
      refine ⟨_, rfl, _, rfl, kn, _, rfl, .inl (SqL.of (e _ _ (e23 _ _ hkn))), rfl, flat_strs _, decide (b.1 ∈ Ks), ?_, ?_⟩
      · show V.bl (inV (.str b.1) (Ks.map V.str)) = _
        rw [inV_str]
      by_cases z : b.1 ∈ Ks
      · rw [decide_eq_true z]
        exact iteT (hR rfl _ (Same.refl _))
      · rw [decide_eq_false z]
        refine iteF ⟨_, rfl, _, rfl, rfl, ?_⟩
        have ez : b.1 = a.1 := (hp.rest b hb3 hb4 (of_decide_eq_true hb2)).resolve_left z
        show R (V.bl (decide (V.str b.1 = V.str a.1))) H4
        rw [show decide (V.str b.1 = V.str a.1) = true from decide_eq_true (by rw [ez])]
        exact hR rfl _ (Same.refl _)
    rw [gath_all fun _ => rfl] at h5
    refine ⟨p5, (List.range ((cr.map fun b => b.1).map V.str).length).map fun _ => true, rfl, SqL.of (by rw [h5, bl_rng]), ?_⟩
    have ef : ((List.range ((cr.map fun b => b.1).map V.str).length).map fun _ => true).all id = true := by simp
    rw [ef]
    exact k _ (e23.trans e5)
end
end K25

namespace K25
open PySem PySem.Spec PyProof.Rows L2
section
variable {P : Program} {w : World} {K : PySem.W.Frag} {mg : Str → Option Value} {base : Heap} {C : Addr}
/-! ### rows -/
def Bd (b : Nat) (r : List Int) : Prop := ∀ x ∈ r, x.natAbs < 2 ^ b
theorem Bd.at {b : Nat} {r : List Int} (h : Bd b r) (j : Nat) : (at0 r j).natAbs < 2 ^ b := by
  unfold at0
  rw [List.getD_eq_getElem?_getD]
  cases e : r[j]? with
  | none => simp; exact Nat.two_pow_pos b
  | some x => exact h x (mem_at e)
theorem less_bd {b : Nat} {r h : List Int} (hr : Bd b r) (hh : Bd b h) (c : Nat) (e : r.length = h.length) : Bd (2 * b + 1) (less r h c) := by
  intro x hx
  obtain ⟨j, hj, rfl⟩ := List.mem_iff_getElem.mp hx
  have e1 : (less r h c)[j] = at0 (less r h c) j := by
    unfold at0
    rw [List.getD_eq_getElem?_getD, List.getElem?_eq_getElem hj]
    rfl
  rw [e1, at0_less c e]
  have h1 := wide_lt (hr.at j) (hh.at c)
  have h2 := wide_lt (hh.at j) (hr.at c)
  have h3 : 2 ^ (2 * b + 1) = 2 ^ (b + b) + 2 ^ (b + b) := by rw [Nat.pow_succ, show 2 * b = b + b by omega]; omega
  rw [h3]
  have h4 := Int.natAbs_sub_le (at0 r j * at0 h c) (at0 h j * at0 r c)
  omega
def RowIs (H : Hp) (y : V) (r : List Int) : Prop := ∃ a, y = .ref a ∧ H a = some (.lst (r.map V.int))
theorem RowIs.same {H H' : Hp} {y : V} {r : List Int} (e : Same H H') (h : RowIs H y r) : RowIs H' y r := by
  obtain ⟨a, h1, h2⟩ := h
  exact ⟨a, h1, e _ _ h2⟩
def RowsAt (H : Hp) (ys : List V) (R : List (List Int)) : Prop := Paired (RowIs H) ys R
theorem RowsAt.same {H H' : Hp} {ys : List V} {R : List (List Int)} (e : Same H H') (h : RowsAt H ys R) : RowsAt H' ys R := Paired.mapP h fun _ _ z => z.same e
theorem paired_at {α β : Type} {F : α → β → Prop} {xs : List α} {ys : List β} (h : Paired F xs ys) : ∀ {i : Nat} {x : α}, xs[i]? = some x → ∃ y, ys[i]? = some y ∧ F x y := by
  induction h with
  | nil => intro i x e; simp at e
  | cons h _ ih =>
    intro i x e
    cases i with
    | zero => simp at e; subst e; exact ⟨_, rfl, h⟩
    | succ i => exact ih (i := i) (by simpa using e)
theorem paired_erase {α β : Type} {F : α → β → Prop} {xs : List α} {ys : List β} (h : Paired F xs ys) : ∀ i : Nat, Paired F (xs.eraseIdx i) (ys.eraseIdx i) := by
  induction h with
  | nil => intro i; exact .nil
  | cons h t ih =>
    intro i
    cases i with
    | zero => exact t
    | succ i => exact .cons h (ih i)
theorem paired_app {α β : Type} {F : α → β → Prop} {xs xs' : List α} {ys ys' : List β} (h : Paired F xs ys) (h' : Paired F xs' ys') : Paired F (xs ++ xs') (ys ++ ys') := by
  induction h with
  | nil => exact h'
  | cons h _ ih => exact .cons h ih
def spLess : Sp := fun vs H Q _ => ∃ (r h : Addr) (c b : Nat) (row head : List Int), vs = [.ref r, .ref h, .int (c : Int)] ∧ H r = some (.lst (row.map V.int)) ∧ H h = some (.lst (head.map V.int)) ∧ row.length = head.length ∧ c < row.length ∧ row.length ≤ 20 ∧ 0 < b ∧ b ≤ 1000 ∧ Bd b row ∧ Bd b head ∧
  ∀ p H', H p = none → Same H H' → H' p = some (.lst ((less row head c).map V.int)) → Q (.ref p) H'
abbrev N_l_less : List Str := ["_law_row", "_law_head", "_law_column", "_law_x", "_law_y"]
theorem sc_l_less : FnScope N_l_less ["_law_row", "_law_head", "_law_column"] (defScope s_l_less) := ⟨rfl, rfl, rfl, by decide +kernel, rfl, by decide +kernel, by decide +kernel⟩
theorem at0_get {l : List Int} {j : Nat} {x : Int} (h : l[j]? = some x) : at0 l j = x := by
  unfold at0
  rw [List.getD_eq_getElem?_getD, h]
  rfl
theorem get_at0 {l : List Int} {j : Nat} (h : j < l.length) : l[j]? = some (at0 l j) := by
  rw [List.getElem?_eq_getElem h, at0_get (List.getElem?_eq_getElem h)]
theorem at_ints {l : List Int} {j : Nat} (h : j < l.length) : atI (l.map V.int) (j : Int) = some (.int (at0 l j)) := atI_nat (by rw [List.getElem?_map, get_at0 h]; rfl)
theorem cal_l_less (T : Txt K mg C) (F : Has K mg "_law_c_less" s_l_less) : Cal P w K mg base "_law_c_less" 1 ["_law_row", "_law_head", "_law_column"] spLess := by
  refine F.cal sc_l_less (fun vs H Q E h => by obtain ⟨r, h, c, b, row, head, rfl, _⟩ := h; rfl) (fun _ _ _ _ _ _ us hl => match us, hl with | [_, _, _], _ => rfl) (fun fa cdv Ar outer s0 H vs Q E hr h => ?_)
  obtain ⟨r, h, c, b, row, head, rfl, h1, h2, hl, hc, hl20, hb0, hb, bd1, bd2, k⟩ := h
  refine ⟨_, pss_one (ps_ret (pe_lc (own := [("_law_x", 3), ("_law_y", 4)]) rfl sc_l_less.nd (pizip K (by rfl) T.zip (pa_cons (pv 0) (pa_cons (pv 1) pa_nil))) (blkOk_by (N := N_l_less) (sc := defScope s_l_less) (by decide +kernel)) (fun _ _ _ _ _ => (pgtup K (n := 2) rfl (pgs_cons (pg_name (i := 3) sc_l_less.nd rfl (Or.inl rfl)) (pgs_cons (pg_name (i := 4) sc_l_less.nd rfl (Or.inl rfl)) pgs_nil)))) (fun _ _ _ _ _ => pts_nil) (fun _ _ _ _ _ => (pe_op op_sub (pe_op op_mulW (pv 3) (pe_ix (ixL K) (pv 1) (pv 2) (fun _ _ => rfl))) (pe_op op_mulW (pv 4) (pe_ix (ixL K) (pv 0) (pv 2) (fun _ _ => rfl))))))), ?_⟩
  refine ret ?_
  refine lc_zp (xs := row.map V.int) (ys := head.map V.int) (by simp [hl]) (fun _ => true) (fA (List.range row.length) fun i => V.int (at0 (less row head c) i)) (val_var rfl) (val_var rfl) h1 h2 (by simp; omega) ?_ fun p H2 hp e hh => ?_
  · rintro i x y t H2 hx hy e ht R R' hR hR'
    rw [List.getElem?_map] at hx hy
    obtain ⟨u, hu, rfl⟩ := Option.map_eq_some_iff.mp hx
    obtain ⟨v, hv, rfl⟩ := Option.map_eq_some_iff.mp hy
    have hi : i < row.length := (List.getElem?_eq_some_iff.mp hu).1
    rw [fA_eq (List.getElem?_range hi)] at hR
    have e5 := Same.new (o := .tup [.int u, .int v]) ht
    have e6 := e.trans e5
    refine ⟨t, _, rfl, SqT.of upd_same, rfl, _, _, rfl, gn ⟨_, _, rfl, gn ⟨rfl, rfl, yesT ?_⟩⟩⟩
    refine ⟨_, rfl, _, rfl, _, rfl, h, _, _, _, rfl, rfl, SqL.of (e6 _ _ h2), at_ints (by omega), _, _, rfl, rfl, wide_mul (bd1 u (mem_at hu)) (bd2.at c) hb0 hb0 (by omega), ?_⟩
    refine ⟨_, rfl, _, rfl, _, rfl, r, _, _, _, rfl, rfl, SqL.of (e6 _ _ h1), at_ints hc, _, _, rfl, rfl, wide_mul (bd2 v (mem_at hv)) (bd1.at c) hb0 hb0 (by omega), ?_⟩
    refine ⟨_, _, rfl, rfl, ?_⟩
    rw [at0_less c hl, at0_get hu, at0_get hv] at hR
    exact hR rfl _ e5
  · refine k p H2 hp e ?_
    rw [hh, List.length_map]
    have e3 := gath_map (List.range row.length) fun i => V.int (at0 (less row head c) i)
    rw [List.length_range] at e3
    rw [e3]
    congr 2
    refine List.ext_getElem? fun j => ?_
    rw [List.getElem?_map, List.getElem?_map]
    by_cases hj : j < row.length
    · rw [List.getElem?_range hj, get_at0 (by rw [len_less c hl]; exact hj)]
      rfl
    · rw [List.getElem?_eq_none (by simp; omega), List.getElem?_eq_none (by rw [len_less c hl]; omega)]
      rfl
/-! ### the rank -/
theorem filt_range (p : Nat → Bool) : ∀ n : Nat, (match (List.range n).filter p with
    | [] => ∀ j, j < n → p j = false
    | i :: _ => i < n ∧ p i = true ∧ ∀ j, j < i → p j = false : Prop)
  | 0 => fun j hj => absurd hj (Nat.not_lt_zero j)
  | n + 1 => by
    have ih := filt_range p n
    rw [List.range_succ, List.filter_append]
    cases e : (List.range n).filter p with
    | nil =>
      rw [e] at ih
      rw [List.nil_append, List.filter_cons]
      cases q : p n with
      | true => exact ⟨Nat.lt_succ_self n, q, ih⟩
      | false =>
        intro j hj
        by_cases z : j = n
        · rw [z]; exact q
        · exact ih j (by omega)
    | cons i l =>
      rw [e] at ih
      obtain ⟨h1, h2, h3⟩ := ih
      exact ⟨by omega, h2, h3⟩
theorem find_filt (L : List (List Int)) (c : Nat) : (match (List.range L.length).filter (cA L (nz c)) with
    | [] => L.findIdx? (nz c) = none
    | i :: _ => i < L.length ∧ L.findIdx? (nz c) = some i : Prop) := by
  have h := filt_range (cA L (nz c)) L.length
  cases e : (List.range L.length).filter (cA L (nz c)) with
  | nil =>
    rw [e] at h
    refine List.findIdx?_eq_none_iff.mpr fun r hr => ?_
    obtain ⟨j, hj, rfl⟩ := List.mem_iff_getElem.mp hr
    have q := h j hj
    rw [cA_eq (List.getElem?_eq_getElem hj)] at q
    exact q
  | cons i l =>
    rw [e] at h
    obtain ⟨h1, h2, h3⟩ := h
    rw [cA_eq (List.getElem?_eq_getElem h1)] at h2
    refine ⟨h1, List.findIdx?_eq_some_iff_getElem.mpr ⟨h1, h2, fun j hj => ?_⟩⟩
    have q := h3 j hj
    rw [cA_eq (List.getElem?_eq_getElem (by omega))] at q
    simpa using q
theorem at_0' {x : V} {l : List V} : atI (x :: l) 0 = some x := atI_nat (j := 0) rfl
theorem paired_ne {H : Hp} {L : Addr} {zs : List V} {left : List (List Int)} (hne : ∀ y ∈ zs, y ≠ .ref L) (h : RowsAt H zs left) : Paired (fun (y : V) row => y ≠ .ref L ∧ RowIs H y row) zs left := by
  unfold RowsAt at h
  induction h with
  | nil => exact .nil
  | @cons y row _ _ h _ ih => exact .cons ⟨hne y List.mem_cons_self, h⟩ (ih fun y hy => hne y (List.mem_cons_of_mem _ hy))
def spRank : Sp := fun vs H Q _ => ∃ (r : Addr) (ys : List V) (R : List (List Int)) (n : Nat), vs = [.ref r] ∧ H r = some (.lst ys) ∧ RowsAt H ys R ∧ R ≠ [] ∧ R.length ≤ 100 ∧ (∀ x ∈ R, x.length = n) ∧ n ≤ 7 ∧ (∀ x ∈ R, Bd 1 x) ∧
  ∀ H', Same H H' → Q (.int (rrun R n).2) H'
abbrev N_l_rank : List Str := ["_law_rows", "_law_left", "_law_found", "_law_column", "_law_spots", "_law_head", "_law_row", "_law_at"]
theorem sc_l_rank : FnScope N_l_rank ["_law_rows"] (defScope s_l_rank) := ⟨rfl, rfl, rfl, by decide +kernel, rfl, by decide +kernel, by decide +kernel⟩
def bits : Nat → Nat
  | 0 => 1
  | c + 1 => 2 * bits c + 1
theorem bits_pos : ∀ c, 0 < bits c
  | 0 => by decide
  | c + 1 => by unfold bits; omega
theorem bits_le : ∀ {c : Nat}, c ≤ 7 → bits c ≤ 1000
  | 0, _ => by decide
  | 1, _ => by decide
  | 2, _ => by decide
  | 3, _ => by decide
  | 4, _ => by decide
  | 5, _ => by decide
  | 6, _ => by decide
  | 7, _ => by decide
  | c + 8, h => absurd h (by omega)
theorem erase_mem {α : Type} {l : List α} {i : Nat} {x : α} (h : x ∈ l.eraseIdx i) : x ∈ l := (List.eraseIdx_sublist l i).subset h
theorem cal_l_rank (T : Txt K mg C) (F : Has K mg "_law_c_rank" s_l_rank) (c_l_less : Cal P w K mg base "_law_c_less" 1 ["_law_row", "_law_head", "_law_column"] spLess) : Cal P w K mg base "_law_c_rank" 2 ["_law_rows"] spRank := by
  refine F.cal sc_l_rank (fun vs H Q E h => by obtain ⟨r, ys, R, n, rfl, _⟩ := h; rfl) (fun _ _ _ _ _ _ us hl => match us, hl with | [_], _ => rfl) (fun fa cdv Ar outer s0 H vs Q E hr h => ?_)
  obtain ⟨r, ys, R, n, rfl, h1, hR, hne, hR100, hn, hn7, hbd, k⟩ := h
  have hlen : ys.length = R.length := Paired.length hR
  refine ⟨_, pss_cons (ps_par (i := 1) (j := 2) rfl sc_l_rank.nd rfl rfl (by decide) rfl rfl (pa_cons (pe_lc (own := [("_law_row", 6)]) rfl sc_l_rank.nd (pilist K (pv 0)) (blkOk_by (N := N_l_rank) (sc := defScope s_l_rank) (by decide +kernel)) (fun _ _ _ _ _ => (pg_name (i := 6) sc_l_rank.nd rfl (Or.inl rfl))) (fun _ _ _ _ _ => pts_nil) (fun _ _ _ _ _ => (pe_callTy (listK K) (by rfl) T.list bt_list (pa_cons (pv 6) pa_nil)))) (pa_cons pe_int pa_nil)) (by rfl))
    (pss_cons (ps_for PassesOwn.never rfl (pi_range1 (by rfl) T.range (pa_cons (pe_ifExp (pt_cmpR (neNil K hr.units0) (pv 0) (pe_lst pa_nil) (nomark _)) (pe_callB (lenK K) (by rfl) T.len bt_len (pa_cons (pe_ix (ixL K) (pv 0) pe_int (fun _ _ => rfl)) pa_nil)) pe_int) pa_nil)) (pg_name (i := 3) sc_l_rank.nd rfl (Or.inr rfl)) (pss_cons (ps_setLc (i := 4) (own := [("_law_at", 7), ("_law_row", 6)]) rfl sc_l_rank.nd rfl rfl (sw_true rfl rfl rfl (by decide +kernel)) (pienum K (by rfl) T.enumerate (pa_cons (pv 1) pa_nil)) (blkOk_by (N := N_l_rank) (sc := defScope s_l_rank) (by decide +kernel)) (fun _ _ _ _ _ => (pgtup K (n := 2) rfl (pgs_cons (pg_name (i := 7) sc_l_rank.nd rfl (Or.inl rfl)) (pgs_cons (pg_name (i := 6) sc_l_rank.nd rfl (Or.inl rfl)) pgs_nil)))) (fun _ _ _ _ _ => (pts_one (pt_cmpR op_ne (pe_ix (ixL K) (pv 6) (pv 3) (fun _ _ => rfl)) pe_int (nomark _)))) (fun _ _ _ _ _ => (pv 7)))
    (pss_one (ps_if (pt_cmpR (neNil K hr.units0) (pv 4) (pe_lst pa_nil) (nomark _)) (pss_cons (ps_asg (pe_tup (pa_cons (pem K PySem.F.plainAttrs_list PySem.F.slot_list_pop PySem.F.type_list_pop mt_popAt (pv 1) (pa_cons (pe_ix (ixL K) (pv 4) pe_int (fun _ _ => rfl)) pa_nil)) (pa_cons (pe_op op_add (pv 2) pe_int) pa_nil))) (pgtup K (n := 2) rfl (pgs_cons (pg_name (i := 5) sc_l_rank.nd rfl (Or.inr rfl)) (pgs_cons (pg_name (i := 2) sc_l_rank.nd rfl (Or.inl rfl)) pgs_nil))))
    (pss_one (ps_setLc (i := 1) (own := [("_law_row", 6)]) rfl sc_l_rank.nd rfl rfl (sw_true rfl rfl rfl (by decide +kernel)) (pilist K (pv 1)) (blkOk_by (N := N_l_rank) (sc := defScope s_l_rank) (by decide +kernel)) (fun _ _ _ _ _ => (pg_name (i := 6) sc_l_rank.nd rfl (Or.inl rfl))) (fun _ _ _ _ _ => pts_nil) (fun _ _ _ _ _ => (pe_callC c_l_less (hr.mono (by decide)) (by rfl) (pa_cons (pv 6) (pa_cons (pv 5) (pa_cons (pv 3) pa_nil)))))))) pss_nil))))
    (pss_one (ps_ret (pv 2)))), ?_⟩
  -- left, found = [list(row) for row in rows], 0
  refine ⟨_, rfl, r, rfl, ⟨_, SqL.of h1⟩, fun D hD => ?_⟩
  refine lcA (walk_list (xs := ys)) (fun i zs H' => ∃ M, Paired (fun (y : V) row => ∃ a, y = .ref a ∧ a ≠ D ∧ H' a = some (.lst (row.map V.int))) zs M ∧ M = R.take i ∧ i ≤ R.length) (Same.refl H) hD (small_lt (by omega)) ?_ ?_ ⟨[], .nil, rfl, Nat.zero_le _⟩ (fun H' e => SqL.of (e _ _ h1)) ?_ ?_
  · rintro i zs H' ⟨M, hp, rfl, hi⟩
    have := Paired.length hp
    rw [List.length_take] at this
    omega
  · rintro i zs H' H'' e ⟨M, hp, rfl, hi⟩
    exact ⟨_, Paired.mapP hp fun y row ⟨a, e1, e2, e3⟩ => ⟨a, e1, e2, e a _ e2 e3⟩, rfl, hi⟩
  · rintro i y H2 H3 zs hi e hD0 hDz ⟨M, hp, rfl, hiR⟩ ⟨rfl, hy⟩ R1 R' hR1 hR'
    obtain ⟨row, hrow, a, rfl, ha⟩ := paired_at hR hy
    refine gn ⟨rfl, yesT ?_⟩
    refine ⟨_, rfl, a, _, rfl, .inl (SqL.of (e _ _ ha)), fun p hpn => ?_⟩
    have e3 := Same.new (o := .lst (row.map V.int)) hpn
    have hi' : i < R.length := (List.getElem?_eq_some_iff.mp hrow).1
    refine hR1 _ _ (e.trans e3) (e3 _ _ hDz) ⟨R.take i ++ [row], paired_app (Paired.mapP hp fun y row ⟨a, f1, f2, f3⟩ => ⟨a, f1, f2, e3 _ _ f3⟩) (.cons ⟨p, rfl, (ne_of_none hDz hpn).symm, upd_same⟩ .nil), (take_snoc hrow).symm, by omega⟩
  rintro zs H2 e hDz ⟨M, hp, rfl, _⟩
  rw [List.take_of_length_le (by omega)] at hp
  refine ⟨_, _, rfl, ?_⟩
  have hp' : RowsAt H2 zs R := Paired.mapP hp fun y row ⟨a, f1, f2, f3⟩ => ⟨a, f1, f3⟩
  -- for column in range(len(rows[0]) if rows != [] else 0)
  refine sq ?_
  refine ⟨_, rfl, Nat.zero_le _, fun q hq => ?_⟩
  have e3 := Same.new (o := .lst []) hq
  have e4 := e.trans e3
  refine ⟨r, q, ys, rfl, rfl, SqL.of (e4 _ _ h1), SqL.of upd_same, true, ?_, iteT ?_⟩
  · cases ys with
    | nil => cases R with
      | nil => exact absurd rfl hne
      | cons _ _ => simp at hlen
    | cons _ _ => rfl
  obtain ⟨row0, hrow0, hn0⟩ : ∃ row0, R[0]? = some row0 ∧ row0.length = n := by
    cases R with
    | nil => exact absurd rfl hne
    | cons a l => exact ⟨a, rfl, hn a List.mem_cons_self⟩
  obtain ⟨y0, hy0, a0, rfl, ha0⟩ : ∃ y0, ys[0]? = some y0 ∧ RowIs H y0 row0 := by
    cases hR with
    | nil => exact absurd rfl hne
    | cons h _ =>
      have : row0 = _ := (Option.some.inj hrow0).symm
      subst this
      exact ⟨_, rfl, h⟩
  refine ⟨_, rfl, r, _, _, _, rfl, rfl, SqL.of (e4 _ _ h1), atI_nat (j := 0) hy0, a0, _, rfl, .inl (SqL.of (e4 _ _ ha0)), ?_⟩
  rw [List.length_map, hn0]
  refine ⟨_, rfl, by omega, by omega, for_range (lo := 0) (n := n) (fun c σ H5 => ∃ v3 v4 v5 v6 v7 L zs left found, σ = [some (.ref r), some (.ref L), some (.int found), v3, v4, v5, v6, v7] ∧ Same H H5 ∧ H L = none ∧ H5 L = some (.lst zs) ∧ RowsAt H5 zs left ∧ rrun R c = (left, found) ∧ (∀ x ∈ left, x.length = n) ∧ (∀ x ∈ left, Bd (bits c) x) ∧ left.length ≤ 100 ∧ ∀ y ∈ zs, y ≠ .ref L)
    ⟨none, none, none, none, none, D, zs, R, 0, rfl, e4, hD, e3 _ _ hDz, hp'.same e3, rfl, hn, hbd, hR100, ?_⟩ ?_ ?_⟩
  · intro y hy ey
    obtain ⟨j, hj, ej⟩ := List.mem_iff_getElem.mp hy
    obtain ⟨row, _, a, ea, na, _⟩ := paired_at hp (List.getElem?_eq_getElem hj)
    rw [ej, ey] at ea
    injection ea with ea
    exact na ea.symm
  · rintro c σ H5 hc ⟨v3, v4, v5, v6, v7, L, zs, left, found, rfl, e5, hL0, hL, hRA, hrr, hln, hbl, hl100, hneL⟩
    have e0 : (0 : Int) + (c : Int) = (c : Int) := Int.zero_add _
    rw [e0]
    have hzl : zs.length = left.length := Paired.length hRA
    refine gn ?_
    refine sq ?_
    refine asg ?_
    refine lc_en (cA left (nz c)) (fun i => V.int (i : Nat)) (val_var rfl) hL (by omega) ?_ fun p6 H6 hp6 e6 h6 => ?_
    · rintro i x t H6 hx e6 ht R1 R' hR1 hR'
      obtain ⟨row, hrow, a, rfl, ha⟩ := paired_at hRA hx
      rw [cA_eq hrow] at hR1 hR'
      have e7 := Same.new (o := .tup [.int (i : Nat), .ref a]) ht
      have hlr := hln row (mem_at hrow)
      refine ⟨t, _, rfl, SqT.of upd_same, rfl, _, _, rfl, gn ⟨_, _, rfl, gn ⟨rfl, rfl, ?_⟩⟩⟩
      refine ⟨_, rfl, _, rfl, a, _, _, _, rfl, rfl, SqL.of (e7 _ _ (e6 _ _ ha)), at_ints (by omega), rfl, nz c row, ?_, ?_⟩
      · unfold nz
        rw [dec_int]
        show V.bl (!(at0 row c == 0)) = _
        by_cases z : at0 row c = 0 <;> simp [z]
      · cases z : nz c row with
        | true => exact iteT ⟨_, rfl, hR1 z _ e7⟩
        | false => exact iteF (hR' z _ e7)
    refine gn2 ?_
    have hg : gath (cA left (nz c)) (fun i => V.int (i : Nat)) zs.length = ((List.range left.length).filter (cA left (nz c))).map fun i => V.int (i : Nat) := by
      rw [hzl]
      rfl
    rw [hg] at h6
    have e56 := e5.trans e6
    have hff := find_filt left c
    refine ⟨_, rfl, Nat.zero_le _, fun q2 hq2 => ?_⟩
    have e7 := Same.new (o := .lst []) hq2
    refine ⟨p6, q2, _, rfl, rfl, SqL.of (e7 _ _ h6), SqL.of upd_same, _, rfl, ?_⟩
    have e67 := e6.trans e7
    cases hsp : (List.range left.length).filter (cA left (nz c)) with
    | nil =>
      rw [hsp] at hff
      refine iteF ?_
      refine ⟨_, _, _, _, _, L, zs, left, found, rfl, e56.trans e7, hL0, e67 _ _ hL, hRA.same e67, ?_, hln, fun x hx => ?_, hl100, hneL⟩
      · rw [rrun_succ, hrr, rstep_none hff]
      · intro y hy
        refine Nat.lt_of_lt_of_le (hbl x hx y hy) (Nat.pow_le_pow_right (by decide) ?_)
        have : bits (c + 1) = 2 * bits c + 1 := rfl
        omega
    | cons j rest =>
      rw [hsp] at hff h6
      obtain ⟨hj, hfi⟩ := hff
      refine iteT ?_
      have hjz : j < zs.length := by omega
      obtain ⟨head, hhead, ah, hah, hah2⟩ := paired_at hRA (List.getElem?_eq_getElem hjz)
      -- head, found = left.pop(spots[0]), found + 1
      refine sq ?_
      refine asg ?_
      refine ⟨_, rfl, .inl ⟨rfl, _, SqL.of (e67 _ _ hL)⟩, ?_⟩
      refine ⟨_, rfl, p6, _, _, _, rfl, rfl, SqL.of (e7 _ _ h6), at_0', ?_⟩
      refine ⟨L, zs, (j : Int), j, _, rfl, rfl, e67 _ _ hL, by omega, by omega, ?_, List.getElem?_eq_getElem hjz, ?_⟩
      · rw [PySem.seqIndex_of (by omega) (by omega), Int.toNat_natCast]
      refine ⟨_, rfl, _, _, rfl, rfl, by show 2 ≤ sizeLine; decide, fun tq htq => ?_⟩
      rw [hah]
      have e8 : Same H (upd (upd H6 q2 (.lst [])) L (.lst (zs.eraseIdx j))) := (e56.trans e7).mut hL0
      have e9 := Same.new (o := .tup [.ref ah, .int (found + 1)]) htq
      refine ⟨tq, _, rfl, SqT.of upd_same, rfl, _, _, rfl, gn ⟨_, _, rfl, gn ⟨rfl, ?_⟩⟩⟩
      have hahL : ah ≠ L := fun z => by
        have : zs[j] ∈ zs := List.getElem_mem hjz
        exact hneL _ this (by rw [hah, z])
      have keep : ∀ a o, a ≠ L → H5 a = some o → upd (upd (upd H6 q2 (.lst [])) L (.lst (zs.eraseIdx j))) tq (.tup [.ref ah, .int (found + 1)]) a = some o := fun a o na ha => e9 _ _ (by rw [upd_ne na]; exact e67 _ _ ha)
      have hLb : upd (upd (upd H6 q2 (.lst [])) L (.lst (zs.eraseIdx j))) tq (.tup [.ref ah, .int (found + 1)]) L = some (.lst (zs.eraseIdx j)) := e9 _ _ upd_same
      have hRE : Paired (fun (y : V) row => ∃ a, y = .ref a ∧ upd (upd (upd H6 q2 (.lst [])) L (.lst (zs.eraseIdx j))) tq (.tup [.ref ah, .int (found + 1)]) a = some (.lst (row.map V.int))) (zs.eraseIdx j) (left.eraseIdx j) := by
        have key := paired_ne hneL hRA
        refine Paired.mapP (paired_erase key j) fun y row ⟨ny, a, f1, f2⟩ => ⟨a, f1, keep a _ (fun z => ny (by rw [f1, z])) f2⟩
      have hHead : upd (upd (upd H6 q2 (.lst [])) L (.lst (zs.eraseIdx j))) tq (.tup [.ref ah, .int (found + 1)]) ah = some (.lst (head.map V.int)) := keep ah _ hahL hah2
      have e10 : Same H (upd (upd (upd H6 q2 (.lst [])) L (.lst (zs.eraseIdx j))) tq (.tup [.ref ah, .int (found + 1)])) := e8.trans e9
      generalize upd (upd (upd H6 q2 (.lst [])) L (.lst (zs.eraseIdx j))) tq (.tup [.ref ah, .int (found + 1)]) = H7 at hLb hRE hHead e10 ⊢
      have hhl := hln head (mem_at hhead)
      have hhb := hbl head (mem_at hhead)
      have hgd : left.getD j [] = head := by rw [List.getD_eq_getElem?_getD, hhead]; rfl
      have hzE : (zs.eraseIdx j).length = (left.eraseIdx j).length := Paired.length hRE
      have hlE : (left.eraseIdx j).length ≤ 100 := Nat.le_trans (List.length_eraseIdx_le _ _) hl100
      -- left = [less(row, head, column) for row in left]
      refine nx2 ?_
      refine asg ?_
      refine ⟨_, rfl, L, rfl, ⟨_, SqL.of hLb⟩, fun D2 hD2 => ?_⟩
      refine lcA (walk_list (xs := zs.eraseIdx j)) (fun i zs' H' => ∃ M, Paired (fun (y : V) row => ∃ a, y = .ref a ∧ a ≠ D2 ∧ H' a = some (.lst (row.map V.int))) zs' M ∧ M = ((left.eraseIdx j).take i).map (fun x => less x head c) ∧ i ≤ (left.eraseIdx j).length) (Same.refl H7) hD2 (small_lt (by omega)) ?_ ?_ ⟨[], .nil, rfl, Nat.zero_le _⟩ (fun H' e => SqL.of (e _ _ hLb)) ?_ ?_
      · rintro i zs' H' ⟨M, hp, rfl, hi⟩
        have := Paired.length hp
        rw [List.length_map, List.length_take] at this
        omega
      · rintro i zs' H' H'' e ⟨M, hp, rfl, hi⟩
        exact ⟨_, Paired.mapP hp fun y row ⟨a, f1, f2, f3⟩ => ⟨a, f1, f2, e a _ f2 f3⟩, rfl, hi⟩
      · rintro i y H8 H9 zs' hi e hD0 hDz ⟨M, hp, rfl, hiR⟩ ⟨rfl, hy⟩ R1 R' hR1 hR'
        obtain ⟨row, hrow, a, rfl, ha⟩ := paired_at hRE hy
        have hrm : row ∈ left := erase_mem (mem_at hrow)
        have hrl := hln row hrm
        have hi' : i < (left.eraseIdx j).length := (List.getElem?_eq_some_iff.mp hrow).1
        refine gn ⟨rfl, yesT ?_⟩
        refine ⟨_, rfl, _, rfl, _, rfl, a, ah, c, bits c, row, head, rfl, e _ _ ha, e _ _ hHead, by omega, by omega, by omega, bits_pos c, bits_le (by omega), hbl row hrm, hhb, fun p H10 hpn e10 h10 => ?_⟩
        refine hR1 _ _ (e.trans e10) (e10 _ _ hDz) ⟨((left.eraseIdx j).take i).map (fun x => less x head c) ++ [less row head c], paired_app (Paired.mapP hp fun y row ⟨a, f1, f2, f3⟩ => ⟨a, f1, f2, e10 _ _ f3⟩) (.cons ⟨p, rfl, (ne_of_none hDz hpn).symm, h10⟩ .nil), ?_, by omega⟩
        rw [take_snoc hrow, List.map_append]
        rfl
      rintro zs' H8 e hDz ⟨M, hp, rfl, _⟩
      rw [List.take_of_length_le (by omega)] at hp
      refine gn ?_
      refine ⟨_, _, _, _, _, D2, zs', _, found + 1, rfl, e10.trans e, e10.free hD2, hDz, Paired.mapP hp fun y row ⟨a, f1, f2, f3⟩ => ⟨a, f1, f3⟩, ?_, fun x hx => ?_, fun x hx => ?_, ?_, ?_⟩
      · rw [rrun_succ, hrr, rstep_some hfi, hgd]
      · obtain ⟨y, hy, rfl⟩ := List.mem_map.mp hx
        rw [len_less c (by rw [hln y (erase_mem hy), hhl])]
        exact hln y (erase_mem hy)
      · obtain ⟨y, hy, rfl⟩ := List.mem_map.mp hx
        exact less_bd (hbl y (erase_mem hy)) hhb c (by rw [hln y (erase_mem hy), hhl])
      · rw [List.length_map]
        exact hlE
      · intro y hy ey
        obtain ⟨m, hm, em⟩ := List.mem_iff_getElem.mp hy
        obtain ⟨row, _, a, ea, na, _⟩ := paired_at hp (List.getElem?_eq_getElem hm)
        rw [em, ey] at ea
        injection ea with ea
        exact na ea.symm
  · rintro σ H5 ⟨v3, v4, v5, v6, v7, L, zs, left, found, rfl, e5, _, _, _, hrr, _⟩
    refine ⟨_, rfl, ?_⟩
    have := k H5 e5
    rw [hrr] at this
    exact this
end
end K25

namespace K25
open PySem PySem.Spec PyProof.Rows L2
section
variable {P : Program} {w : World} {K : PySem.W.Frag} {mg : Str → Option Value} {base : Heap} {C : Addr}
/-! ### whether an arc is a sum of the others -/
def RowsX (D : Addr) (H : Hp) (ys : List V) (M : List (List Int)) : Prop := Paired (fun (y : V) row => ∃ a, y = .ref a ∧ a ≠ D ∧ H a = some (.lst (row.map V.int))) ys M
theorem RowsX.x {D : Addr} {H H' : Hp} {ys : List V} {M : List (List Int)} (e : SameX D H H') (h : RowsX D H ys M) : RowsX D H' ys M := Paired.mapP h fun y row ⟨a, f1, f2, f3⟩ => ⟨a, f1, f2, e a _ f2 f3⟩
theorem RowsX.snoc {D : Addr} {H : Hp} {ys : List V} {M : List (List Int)} (h : RowsX D H ys M) {a : Addr} {row : List Int} (ha : a ≠ D) (hr : H a = some (.lst (row.map V.int))) : RowsX D H (ys ++ [.ref a]) (M ++ [row]) :=
  paired_app h (.cons ⟨a, rfl, ha, hr⟩ .nil)
theorem RowsX.rows {D : Addr} {H : Hp} {ys : List V} {M : List (List Int)} (h : RowsX D H ys M) : RowsAt H ys M := Paired.mapP h fun y row ⟨a, f1, f2, f3⟩ => ⟨a, f1, f3⟩
theorem RowsX.len {D : Addr} {H : Hp} {ys : List V} {M : List (List Int)} (h : RowsX D H ys M) : ys.length = M.length := Paired.length h
theorem bi_bd (p : Prop) [Decidable p] : (bi p).natAbs ≤ 1 := by unfold bi; split <;> decide
theorem bi_if (p : Prop) [Decidable p] : (if decide p = true then (1 : Int) else 0) = bi p := by unfold bi; by_cases q : p <;> simp [q]
theorem rows_bd {A : List (Arc Str)} {Ks : List Str} : ∀ x ∈ rows A Ks, Bd 1 x := by
  intro x hx y hy
  unfold rows at hx
  rcases List.mem_append.mp hx with q | q
  · obtain ⟨a, _, rfl⟩ := List.mem_map.mp q
    obtain ⟨b, _, rfl⟩ := List.mem_map.mp hy
    have := bi_bd (b.1 = a.1)
    show _ < 2
    omega
  · obtain ⟨v, _, rfl⟩ := List.mem_map.mp q
    obtain ⟨b, _, rfl⟩ := List.mem_map.mp hy
    show (wt v b).natAbs < 2
    unfold wt bi
    split <;> split <;> decide
theorem rowE_bd (A : List (Arc Str)) (n : Str) : Bd 1 (rowE A n) := by
  intro y hy
  obtain ⟨b, _, rfl⟩ := List.mem_map.mp hy
  have := bi_bd (b.1 = n)
  show _ < 2
  omega
theorem nodes_len (A : List (Arc Str)) : (nodesOf A).length ≤ 2 * A.length := by
  have := nd2_len A []
  rw [List.length_nil, Nat.zero_add] at this
  exact this
theorem rows_len20 {A : List (Arc Str)} (h : A.length ≤ 7) (Ks : List Str) : (rows A Ks).length ≤ 30 := by
  unfold rows
  rw [List.length_append, List.length_map, List.length_map]
  have h1 := nodes_len A
  have h2 := List.length_filter_le (still A Ks) A
  omega
theorem rows_ne {A : List (Arc Str)} (h : A ≠ []) (Ks : List Str) : rows A Ks ≠ [] := by
  intro e
  unfold rows at e
  have e2 := (List.append_eq_nil_iff.mp e).2
  rw [List.map_eq_nil_iff] at e2
  cases A with
  | nil => exact h rfl
  | cons a l =>
    have : a.2.1 ∈ nodesOf (a :: l) := mem_nodes.mpr ⟨a, List.mem_cons_self, .inl rfl⟩
    rw [e2] at this
    simp at this
def spSpans : Sp := fun vs H Q _ => ∃ (d kn am : Addr) (A : List (Arc Str)) (Ks : List Str) (a : Arc Str), vs = [.ref d, .ref kn, .ref am] ∧ FArcs H d A ∧ Names A ∧ A.length ≤ 7 ∧ a ∈ A ∧ H kn = some (.lst (Ks.map V.str)) ∧ H am = some (.dK [(Sum.inr a.1, .int 1)]) ∧
  ∀ H', Same H H' → Q (.bl (due A Ks a.1)) H'
abbrev N_l_spans : List Str := ["_law_arcs", "_law_known", "_law_amounts", "_law_live", "_law_rows", "_law_name_here", "_law_node", "_law_inner", "_law_outer", "_law_other", "_law_x", "_law_one"]
theorem sc_l_spans : FnScope N_l_spans ["_law_arcs", "_law_known", "_law_amounts"] (defScope s_l_spans) := ⟨rfl, rfl, rfl, by decide +kernel, rfl, by decide +kernel, by decide +kernel⟩
theorem cal_l_spans (T : Txt K mg C) (F : Has K mg "_law_c_spans" s_l_spans) (c_l_live : Cal P w K mg base "_law_c_live" 2 ["_law_arcs"] spLive) (c_l_nodes : Cal P w K mg base "_law_c_nodes" 1 ["_law_arcs"] spNodes)
    (c_l_rank : Cal P w K mg base "_law_c_rank" 2 ["_law_rows"] spRank) : Cal P w K mg base "_law_c_spans" 3 ["_law_arcs", "_law_known", "_law_amounts"] spSpans := by
  refine F.cal sc_l_spans (fun vs H Q E h => by obtain ⟨d, kn, am, A, Ks, a, rfl, _⟩ := h; rfl) (fun _ _ _ _ _ _ us hl => match us, hl with | [_, _, _], _ => rfl) (fun fa cdv Ar outer s0 H vs Q E hr h => ?_)
  obtain ⟨d, kn, am, A, Ks, a, rfl, hA, hN, hA7, ha, hkn, ham, k⟩ := h
  obtain ⟨o, kvs, hd, hk⟩ := id hA
  have hl := hk.len
  have hAne : A ≠ [] := fun z => by rw [z] at ha; simp at ha
  refine ⟨_, pss_cons (ps_par (i := 3) (j := 4) rfl sc_l_spans.nd rfl rfl (by decide) rfl rfl (pa_cons (pe_callC c_l_live (hr.mono (by decide)) (by rfl) (pa_cons (pv 0) pa_nil)) (pa_cons (pe_lst pa_nil) pa_nil)) (by rfl))
    (pss_cons (ps_for PassesOwn.never rfl (pi_keys (pv 0)) (pg_name (i := 5) sc_l_spans.nd rfl (Or.inr rfl)) (pss_one (ps_if (PW.pt (pw_or (pt_cmpR (inQ K) (pv 5) (pv 1) rfl) (pw_or1 (pt_cmpR (niQ K) (pv 5) (pv 3) rfl)))) (pss_one (ps_expr (pem K PySem.F.plainAttrs_list PySem.F.slot_list_append PySem.F.type_list_append mt_append (pv 4) (pa_cons (pe_lc (own := [("_law_other", 9)]) rfl sc_l_spans.nd (pi_keys (pv 0)) (blkOk_by (N := N_l_spans) (sc := defScope s_l_spans) (by decide +kernel)) (fun _ _ _ _ _ => (pg_name (i := 9) sc_l_spans.nd rfl (Or.inl rfl))) (fun _ _ _ _ _ => pts_nil) (fun _ _ _ _ _ => (pe_callTy call_int1 (by rfl) T.int bt_int (pa_cons (pe_cmpR op_eq (pv 9) (pv 5) (nomark _)) pa_nil)))) pa_nil)))) pss_nil)))
    (pss_cons (ps_for PassesOwn.never rfl (pilist K (pe_callC c_l_nodes (hr.mono (by decide)) (by rfl) (pa_cons (pv 0) pa_nil))) (pg_name (i := 6) sc_l_spans.nd rfl (Or.inr rfl)) (pss_cons (ps_par (i := 7) (j := 8) rfl sc_l_spans.nd rfl rfl (by decide) rfl rfl (pa_cons (pe_lc (own := [("_law_x", 10)]) rfl sc_l_spans.nd (pi_keys (pv 0)) (blkOk_by (N := N_l_spans) (sc := defScope s_l_spans) (by decide +kernel)) (fun _ _ _ _ _ => (pg_name (i := 10) sc_l_spans.nd rfl (Or.inl rfl))) (fun _ _ _ _ _ => pts_nil) (fun _ _ _ _ _ => (pe_callTy call_int1 (by rfl) T.int bt_int (pa_cons (pe_cmpR op_eq (pe_ix (ixT K) (pe_dget (hu_of hr) (pv 0) (pv 10) (fun _ _ => rfl)) pe_int (fun _ _ => rfl)) (pv 6) (nomark _)) pa_nil)))) (pa_cons (pe_lc (own := [("_law_x", 10)]) rfl sc_l_spans.nd (pi_keys (pv 0)) (blkOk_by (N := N_l_spans) (sc := defScope s_l_spans) (by decide +kernel)) (fun _ _ _ _ _ => (pg_name (i := 10) sc_l_spans.nd rfl (Or.inl rfl))) (fun _ _ _ _ _ => pts_nil) (fun _ _ _ _ _ => (pe_callTy call_int1 (by rfl) T.int bt_int (pa_cons (pe_cmpR op_eq (pe_ix (ixT K) (pe_dget (hu_of hr) (pv 0) (pv 10) (fun _ _ => rfl)) pe_int (fun _ _ => rfl)) (pv 6) (nomark _)) pa_nil)))) pa_nil)) (by rfl))
    (pss_one (ps_expr (pem K PySem.F.plainAttrs_list PySem.F.slot_list_append PySem.F.type_list_append mt_append (pv 4) (pa_cons (pe_lc (own := [("_law_one", 11), ("_law_other", 9)]) rfl sc_l_spans.nd (pizip K (by rfl) T.zip (pa_cons (pv 7) (pa_cons (pv 8) pa_nil))) (blkOk_by (N := N_l_spans) (sc := defScope s_l_spans) (by decide +kernel)) (fun _ _ _ _ _ => (pgtup K (n := 2) rfl (pgs_cons (pg_name (i := 11) sc_l_spans.nd rfl (Or.inl rfl)) (pgs_cons (pg_name (i := 9) sc_l_spans.nd rfl (Or.inl rfl)) pgs_nil)))) (fun _ _ _ _ _ => pts_nil) (fun _ _ _ _ _ => (pe_op op_sub (pv 11) (pv 9)))) pa_nil))))))
    (pss_one (ps_ret (pe_cmpR op_eq (pe_callC c_l_rank (hr.mono (by decide)) (by rfl) (pa_cons (pv 4) pa_nil)) (pe_callC c_l_rank (hr.mono (by decide)) (by rfl) (pa_cons (pe_op op_cat (pv 4) (pe_lst (pa_cons (pe_lc (own := [("_law_name_here", 5)]) rfl sc_l_spans.nd (pi_keys (pv 0)) (blkOk_by (N := N_l_spans) (sc := defScope s_l_spans) (by decide +kernel)) (fun _ _ _ _ _ => (pg_name (i := 5) sc_l_spans.nd rfl (Or.inl rfl))) (fun _ _ _ _ _ => pts_nil) (fun _ _ _ _ _ => (pe_dget2 (hu_of hr) (pv 2) (pv 5) pe_int ⟨rfl, rfl, rfl, rfl⟩))) pa_nil))) pa_nil)) (nomark _)))))), ?_⟩
  refine ⟨_, rfl, d, A, rfl, hA, hN, by omega, fun lv H1 hlv e1 h1 => ?_⟩
  have h1' : H1 lv = some (.lst (((A.filter (liveB A)).map fun b => b.1).map V.str)) := by rw [h1, List.map_map]; rfl
  refine ⟨Nat.zero_le _, fun L hL => ⟨_, _, rfl, ?_⟩⟩
  have hL0 : H L = none := e1.free hL
  have e2 : Same H (upd H1 L (.lst [])) := e1.mut hL0
  have hlvL : lv ≠ L := ne_of_none h1 hL
  -- for name in arcs
  refine sq ?_
  refine for_keys (H0 := H) (val_var rfl) e2 hd (fun i σ H2 => ∃ v5 v6 v7 v8 v9 v10 v11 ys, σ = [some (.ref d), some (.ref kn), some (.ref am), some (.ref lv), some (.ref L), v5, v6, v7, v8, v9, v10, v11] ∧ Same H H2 ∧ H2 lv = some (.lst (((A.filter (liveB A)).map fun b => b.1).map V.str)) ∧ H2 L = some (.lst ys) ∧ RowsX L H2 ys (((A.take i).filter (still A Ks)).map fun a => rowE A a.1))
    ⟨none, none, none, none, none, none, none, [], rfl, e2, by rw [upd_ne hlvL]; exact h1', upd_same, .nil⟩ (fun i σ H2 _ ⟨_, _, _, _, _, _, _, _, _, e, _⟩ => e) ?_ ?_
  · rintro i ky v σ H2 hi ⟨v5, v6, v7, v8, v9, v10, v11, ys, rfl, e3, hlv3, hL3, hR3⟩
    obtain ⟨b, t, hb, rfl, rfl, ht⟩ := hk.at' hi
    have hbA := mem_at hb
    refine gn ?_
    refine ifs ?_
    refine ⟨_, rfl, _, rfl, kn, _, rfl, .inl (SqL.of (e3 _ _ hkn)), rfl, flat_strs _, decide (b.1 ∈ Ks), ?_, ?_⟩
    · show V.bl (inV (.str b.1) (Ks.map V.str)) = _
      rw [inV_str]
    have app : still A Ks b = true → tDrop (tBM K "list" rAppend (tVar 4) (tCons (tLc (iKeys (tVar 0)) (gName 9) tYes (tCB (fun xs H Q => (∃ i, xs = [.int i] ∧ Q (.int i) H) ∨ ∃ k, xs = [.bl k] ∧ Q (.int (if k then 1 else 0)) H) (tCons (tOp rEq (tVar 9) (tVar 5)) tNil)) [9]) tNil))
        { nx := fun σ H2 => ∃ v5 v6 v7 v8 v9 v10 v11 ys, σ = [some (.ref d), some (.ref kn), some (.ref am), some (.ref lv), some (.ref L), v5, v6, v7, v8, v9, v10, v11] ∧ Same H H2 ∧ H2 lv = some (.lst (((A.filter (liveB A)).map fun b => b.1).map V.str)) ∧ H2 L = some (.lst ys) ∧ RowsX L H2 ys (((A.take (i + 1)).filter (still A Ks)).map fun a => rowE A a.1), rt := Q }
        [some (.ref d), some (.ref kn), some (.ref am), some (.ref lv), some (.ref L), some (.str b.1), v6, v7, v8, v9, v10, v11] H2 := by
      intro hs
      refine ⟨_, rfl, .inl ⟨rfl, _, SqL.of hL3⟩, ac ?_⟩
      refine lc_keys (fun _ => true) (fA A fun x => V.int (bi (x.1 = b.1))) (val_var rfl) (e3 _ _ hd) (by omega) ?_ fun p H4 hp e4 h4 => ?_
      · rintro j ky v H4 hj e R R' hR hR'
        obtain ⟨x, t', hx, rfl, rfl, _⟩ := hk.at' hj
        rw [fA_eq hx] at hR
        refine gn ⟨rfl, yesT ?_⟩
        refine ⟨_, rfl, _, rfl, rfl, .inr ⟨decide (x.1 = b.1), ?_, ?_⟩⟩
        · rw [show kV (Sum.inr x.1) = V.str x.1 from rfl, dec_str]
          by_cases q : x.1 = b.1 <;> simp [q]
        · rw [bi_if]
          exact hR rfl _ (Same.refl _)
      · rw [hl, gath_map] at h4
        refine ⟨L, ys, _, rfl, rfl, e4 _ _ hL3, small_lt ?_, ?_⟩
        · rw [hR3.len, List.length_map]
          have h5 := List.length_filter_le (still A Ks) (A.take i)
          have h6 := List.length_take_le' i A
          omega
        · refine ⟨_, _, _, _, _, _, _, ys ++ [.ref p], rfl, (e3.trans e4).mut hL0, ?_, upd_same, ?_⟩
          · rw [upd_ne hlvL]; exact e4 _ _ hlv3
          · rw [take_snoc hb, List.filter_append, List.map_append, List.filter_cons, if_pos hs]
            refine ((hR3.x (SameX.of e4)).snoc (ne_of_none hL3 hp).symm ?_).x SameX.upd
            rw [h4]
            show _ = some (HO.lst (((A.map fun x => bi (x.1 = b.1))).map V.int))
            rw [List.map_map]
            rfl
    have skip : still A Ks b = false → RowsX L H2 ys (((A.take (i + 1)).filter (still A Ks)).map fun a => rowE A a.1) := by
      intro hs
      rw [take_snoc hb, List.filter_append, List.filter_cons, if_neg (by rw [hs]; decide), List.filter_nil, List.append_nil]
      exact hR3
    by_cases q1 : b.1 ∈ Ks
    · rw [decide_eq_true q1]
      refine iteT ?_
      refine iteT ?_
      exact app (by unfold still; rw [decide_eq_true q1]; rfl)
    · rw [decide_eq_false q1]
      refine iteF ?_
      refine ⟨_, rfl, _, rfl, lv, _, rfl, .inl (SqL.of hlv3), rfl, flat_strs _, !liveB A b, ?_, ?_⟩
      · show V.bl (!inV (.str b.1) (((A.filter (liveB A)).map fun b => b.1).map V.str)) = _
        rw [inV_str]
        congr 2
        cases e : liveB A b with
        | true => exact decide_eq_true ((live_mem hN hbA).mpr e)
        | false => exact decide_eq_false fun z => by rw [(live_mem hN hbA).mp z] at e; cases e
      · cases e : liveB A b with
        | true =>
          refine iteF ?_
          exact ⟨_, _, _, _, _, _, _, ys, rfl, e3, hlv3, hL3, skip (by unfold still; rw [decide_eq_false q1, e]; rfl)⟩
        | false =>
          refine iteT ?_
          exact app (by unfold still; rw [e]; simp)
  · rintro σ H2 ⟨v5, v6, v7, v8, v9, v10, v11, ys, rfl, e3, hlv3, hL3, hR3⟩
    rw [List.take_of_length_le (by omega)] at hR3
    refine sq ?_
    refine ⟨_, rfl, d, A, rfl, hA.same e3, by omega, fun nd H4 hnd e4 h4 => ?_⟩
    have hndL : nd ≠ L := (ne_of_none hL3 hnd).symm
    have hn14 : (nodesOf A).length ≤ 14 := by have := nodes_len A; omega
    have hf7 : (A.filter (still A Ks)).length ≤ 7 := Nat.le_trans (List.length_filter_le _ _) hA7
    refine ⟨nd, rfl, ⟨_, SqL.of h4⟩, for_list (K := K) (a := nd) (xs := (nodesOf A).map V.str) (fun i σ H2 => ∃ v5 v6 v7 v8 v9 v10 v11 ys, σ = [some (.ref d), some (.ref kn), some (.ref am), some (.ref lv), some (.ref L), v5, v6, v7, v8, v9, v10, v11] ∧ Same H H2 ∧ H2 nd = some (.lst ((nodesOf A).map V.str)) ∧ H2 L = some (.lst ys) ∧ RowsX L H2 ys ((A.filter (still A Ks)).map (fun a => rowE A a.1) ++ ((nodesOf A).take i).map (rowB A)))
      ⟨_, _, _, _, _, _, _, ys, rfl, e3.trans e4, h4, e4 _ _ hL3, by rw [List.take_zero, List.map_nil, List.append_nil]; exact hR3.x (SameX.of e4)⟩ (fun i σ H2 _ ⟨_, _, _, _, _, _, _, _, _, _, h, _⟩ => SqL.of h) ?_ ?_⟩
    · rintro i y σ H5 hi ⟨v5, v6, v7, v8, v9, v10, v11, ys, rfl, e5, hnd5, hL5, hR5⟩
      rw [List.getElem?_map] at hi
      obtain ⟨z, hz, rfl⟩ := Option.map_eq_some_iff.mp hi
      refine gn ?_
      refine sq ?_
      refine par (ac ?_)
      refine lc_keys (fun _ => true) (fA A fun x => V.int (bi (x.2.2 = z))) (val_var rfl) (e5 _ _ hd) (by omega) ?_ fun p6 H6 hp6 e6 h6 => ?_
      · rintro j ky v H4 hj e R R' hR hR'
        obtain ⟨x, t', hx, rfl, rfl, _⟩ := hk.at' hj
        rw [fA_eq hx] at hR
        obtain ⟨t', hg', ht'⟩ := (hA.same (e5.trans e)).get hN (mem_at hx)
        refine gn ⟨rfl, yesT ?_⟩
        refine ⟨_, rfl, _, rfl, d, _, rfl, hg', t', _, 1, _, rfl, rfl, SqT.of ht', at_1, _, rfl, rfl, .inr ⟨decide (x.2.2 = z), ?_, ?_⟩⟩
        · rw [dec_str]
          by_cases q : x.2.2 = z <;> simp [q]
        · rw [bi_if]
          exact hR rfl _ (Same.refl _)
      rw [hl, gath_map] at h6
      have e56 := e5.trans e6
      refine ac ?_
      refine lc_keys (fun _ => true) (fA A fun x => V.int (bi (x.2.1 = z))) (val_var rfl) (e56 _ _ hd) (by omega) ?_ fun p7 H7 hp7 e7 h7 => ?_
      · rintro j ky v H4 hj e R R' hR hR'
        obtain ⟨x, t', hx, rfl, rfl, _⟩ := hk.at' hj
        rw [fA_eq hx] at hR
        obtain ⟨t', hg', ht'⟩ := (hA.same (e56.trans e)).get hN (mem_at hx)
        refine gn ⟨rfl, yesT ?_⟩
        refine ⟨_, rfl, _, rfl, d, _, rfl, hg', t', _, 0, _, rfl, rfl, SqT.of ht', at_0, _, rfl, rfl, .inr ⟨decide (x.2.1 = z), ?_, ?_⟩⟩
        · rw [dec_str]
          by_cases q : x.2.1 = z <;> simp [q]
        · rw [bi_if]
          exact hR rfl _ (Same.refl _)
      rw [hl, gath_map] at h7
      have e67 := e6.trans e7
      refine ⟨_, _, rfl, ?_⟩
      refine ⟨_, rfl, .inl ⟨rfl, _, SqL.of (e67 _ _ hL5)⟩, ac ?_⟩
      refine lc_zp (xs := A.map fun x => V.int (bi (x.2.2 = z))) (ys := A.map fun x => V.int (bi (x.2.1 = z))) (by simp) (fun _ => true) (fA A fun x => V.int (wt z x)) (val_var rfl) (val_var rfl) (e7 _ _ h6) h7 (by simp; omega) ?_ fun p8 H8 hp8 e8 h8 => ?_
      · rintro j x y t H4 hx hy e ht R R' hR hR'
        rw [List.getElem?_map] at hx hy
        obtain ⟨u, hu, rfl⟩ := Option.map_eq_some_iff.mp hx
        obtain ⟨u', hu', rfl⟩ := Option.map_eq_some_iff.mp hy
        rw [hu] at hu'
        cases hu'
        rw [fA_eq hu] at hR
        exact ⟨t, _, rfl, SqT.of upd_same, rfl, _, _, rfl, gn ⟨_, _, rfl, gn ⟨rfl, rfl, yesT ⟨_, rfl, _, rfl, _, _, rfl, rfl, hR rfl _ (Same.new ht)⟩⟩⟩⟩
      rw [List.length_map, gath_map] at h8
      have e68 := e67.trans e8
      refine ⟨L, ys, _, rfl, rfl, e68 _ _ hL5, small_lt ?_, ?_⟩
      · rw [hR5.len, List.length_append, List.length_map, List.length_map, List.length_take]
        omega
      · refine ⟨_, _, _, _, _, _, _, ys ++ [.ref p8], rfl, (e5.trans e68).mut hL0, ?_, upd_same, ?_⟩
        · rw [upd_ne hndL]; exact e68 _ _ hnd5
        · rw [take_snoc hz, List.map_append, ← List.append_assoc]
          refine ((hR5.x (SameX.of e68)).snoc (ne_of_none (e67 _ _ hL5) hp8).symm ?_).x SameX.upd
          rw [h8]
          show _ = some (HO.lst ((A.map (wt z)).map V.int))
          rw [List.map_map]
          rfl
    · rintro σ H5 ⟨v5, v6, v7, v8, v9, v10, v11, ys, rfl, e5, hnd5, hL5, hR5⟩
      rw [List.take_of_length_le (by simp)] at hR5
      have hRR : RowsX L H5 ys (rows A Ks) := hR5
      have r30 := rows_len20 hA7 Ks
      have hlen1 : ∀ x ∈ rows A Ks, x.length = A.length := rows_len
      refine ds (ret ?_)
      refine ⟨_, rfl, L, ys, rows A Ks, A.length, rfl, hL5, hRR.rows, rows_ne hAne Ks, by omega, hlen1, hA7, rows_bd, fun H6 e6 => ?_⟩
      have e56 := e5.trans e6
      refine ⟨_, rfl, ?_⟩
      refine ac ?_
      refine lc_keys (fun _ => true) (fA A fun x => V.int (bi (x.1 = a.1))) (val_var rfl) (e56 _ _ hd) (by omega) ?_ fun p7 H7 hp7 e7 h7 => ?_
      · rintro j ky v H4 hj e R R' hR hR'
        obtain ⟨x, t', hx, rfl, rfl, _⟩ := hk.at' hj
        rw [fA_eq hx] at hR
        refine gn ⟨rfl, yesT ?_⟩
        have hg : DGet H4 am (.str x.1) (if x.1 = a.1 then some (.int 1) else none) := by
          refine .inl ⟨_, Sum.inr x.1, .inl (e56.trans e _ _ ham), rfl, ?_⟩
          by_cases q : x.1 = a.1
          · rw [if_pos q, q]
            rw [valV_pos (show (Sum.inr a.1 : Key) = Sum.inr a.1 from rfl)]
          · rw [if_neg q, valV_neg (fun z => q (Sum.inr.inj z).symm)]
            rfl
        refine ⟨_, rfl, am, rfl, (.inl ⟨_, .inl (e56.trans e _ _ ham)⟩), _, rfl, _, hg, ?_⟩
        have ev : (if x.1 = a.1 then some (V.int 1) else none).getD (.int 0) = V.int (bi (x.1 = a.1)) := by
          unfold bi
          split <;> rfl
        rw [ev]
        exact hR rfl _ (Same.refl _)
      rw [hl, gath_map] at h7
      have e67 := e6.trans e7
      refine ⟨by show 1 ≤ sizeLine; decide, fun p8 hp8 => ?_⟩
      have e8 := Same.new (o := .lst [.ref p7]) hp8
      have e78 := e67.trans e8
      refine ⟨L, p8, ys, [.ref p7], rfl, rfl, e78 _ _ hL5, upd_same, ?_, fun p9 hp9 => ?_⟩
      · rw [hRR.len]
        exact small_le (by simp; omega)
      have e9 := Same.new (o := .lst (ys ++ [.ref p7])) hp9
      have hrow : upd (upd H7 p8 (.lst [.ref p7])) p9 (.lst (ys ++ [.ref p7])) p7 = some (.lst ((rowE A a.1).map V.int)) := by
        rw [e9 _ _ (e8 _ _ h7)]
        show _ = some (HO.lst ((A.map fun (x : Arc Str) => bi (x.1 = a.1)).map V.int))
        rw [List.map_map]
        rfl
      refine ⟨p9, ys ++ [.ref p7], rows A Ks ++ [rowE A a.1], A.length, rfl, upd_same, ?_, by simp, by simp; omega, ?_, hA7, ?_, fun H9 e10 => ?_⟩
      · exact paired_app (hRR.rows.same (e78.trans e9)) (.cons ⟨p7, rfl, hrow⟩ .nil)
      · intro x hx
        rcases List.mem_append.mp hx with q | q
        · exact hlen1 x q
        · rw [List.mem_singleton.mp q]; exact List.length_map _
      · intro x hx
        rcases List.mem_append.mp hx with q | q
        · exact rows_bd x q
        · rw [List.mem_singleton.mp q]; exact rowE_bd A a.1
      refine ⟨rfl, ?_⟩
      have ed : V.bl (decide (V.int (rrun (rows A Ks) A.length).2 = V.int (rrun (rows A Ks ++ [rowE A a.1]) A.length).2)) = V.bl (due A Ks a.1) := by
        rw [dec_int]
        unfold due
        by_cases q : (rrun (rows A Ks) A.length).2 = (rrun (rows A Ks ++ [rowE A a.1]) A.length).2 <;> simp [q]
      rw [ed]
      exact k _ ((e56.trans (e7.trans e8)).trans (e9.trans e10))
end
end K25

namespace K25
open PySem PySem.Spec PyProof.Rows L2
/-! ### setdefault, the keys tuples -/
def tDSetdT (td ty tx : TE) : TE := fun σ H Q => td σ H fun x H1 => ∃ a, x = .ref a ∧ IsD H1 a ∧ ty σ H1 fun y H2 => tx σ H2 fun z H3 => ∃ (kvs : List (List Key × V)) (k : List Key) (b : Addr), H3 a = some (.dT kvs) ∧ y = .ref b ∧ H3 b = some (.tup (k.map kV)) ∧ kvs.length < sizeLine ∧
  (∀ v, valV kvs k = some v → Q v H3) ∧ (valV kvs k = none → Q z (upd H3 a (.dT (putK kvs k z))))
section
variable {X : Cx} {pins : List (Addr × Obj)} {σ : L2.St} {H : Hp} {s : Shared} {a b : Addr} {u r : Value} {d : V} {k : List Key} {A : Around} {E : Value → Shared → Prop}
theorem d_setdT {kvs : List (List Key × V)} {Q : Value → Shared → Prop} (hu : A.units + 1 < cLine) (I : Inv X pins σ H s) (e : H a = some (.dT kvs)) (eb : H b = some (.tup (k.map kV))) (rd : RelV d r) (hl : kvs.length < sizeLine)
    (h1 : ∀ v, valV kvs k = some v → ∀ (w' : Value) (s' : Shared), Inv X pins σ H s' → RelV v w' → Q w' s') (h2 : valV kvs k = none → ∀ (w' : Value) (s' : Shared), Inv X pins σ (upd H a (.dT (putK kvs k d))) s' → RelV d w' → Q w' s') :
    wpAny (model X.prog X.w) A (call (.builtin "dict.setdefault") [.ref a, .ref b, r]) Q E s := by
  obtain ⟨z, hd, xs, rel, dd⟩ := dt_of I.hok e
  have hz : xs.length ≤ sizeLine := by rw [← Paired.length rel]; exact z
  have q := rel.val k
  refine call_setdefault_heap (hsz := hz) (tupleKind_room_in1 hu) (key_of I.hok eb) hd dd (fun p hp => ?_) (fun hn h' dd' hs => ?_)
  · rw [hp] at q
    cases q0 : valV kvs k with
    | none =>
      rw [q0] at q
      exact (show False from q).elim
    | some v0 =>
      rw [q0] at q
      exact h1 v0 q0 _ _ (I.tok _) q
  · rw [hn] at q
    cases q0 : valV kvs k with
    | some v0 =>
      rw [q0] at q
      exact (show False from q).elim
    | none =>
      have hl2 : (putK kvs k d).length ≤ sizeLine := by
        have := length_putK kvs k d
        omega
      obtain ⟨q, es, ep, hq, h2', h3, h4, _, h5⟩ := dd'
      refine h2 q0 _ _ (d_write I (by rw [e]; exact True.intro) hs ⟨q, hq⟩ ⟨hl2, hd, _, (rel.put k eb rd).keeps fun c ys ec => ?_, q, es, ep, hq, h2', h3, h4, h5⟩) rd
      rw [upd_ne (ne_of ec e (fun z => nomatch z))]
      exact ec
end
section
variable {X : Cx} {o e f : Expr} {td ty tx : TE} {apos cpos : Pos}
theorem pe_setdT (hu : X.A.units + 1 < cLine) (ho : PE X o td) (he : PE X e ty) (hf : PE X f tx) (m : M2 X o "setdefault" apos e f cpos) : PE X (.Call (.Attribute o "setdefault" apos) [e, f] [] cpos) (tDSetdT td ty tx) := by
  refine ⟨fun pins s σ H Q I h => ?_⟩
  refine wpAny_Call_method m.base m.few m.line PySem.F.plainAttrs_dict PySem.F.slot_dict_setdefault PySem.F.type_dict_setdefault (thn (ho.run pins s σ H _ I h) fun u s1 ⟨x, H1, I1, rx, a, ex, d, q1⟩ => ?_)
  subst ex
  obtain rfl : u = Value.ref a := rx
  obtain ⟨t1, t2, _⟩ := isD_at I1 d
  refine ⟨t1, t2, ?_⟩
  rw [m.trees]
  refine Calls.callWith_builtin rfl (Calls.evalArgs_plain (Calls.spliced_cons (thn (he.run pins s1 σ H1 _ I1 q1) fun iv s2 ⟨y, H2, I2, ry, q2⟩ =>
    Calls.spliced_cons (thn (hf.run pins s2 σ H2 _ I2 q2) fun fv s3 ⟨z, H3, I3, rz, kvs, k, b, ea, ey, eb, hl, q3, q4⟩ => Calls.spliced_nil ?_))))
  subst ey
  cases (show iv = Value.ref b from ry)
  exact d_setdT hu I3 ea eb rz hl (fun v hv w' s4 I4 rw' => ⟨v, _, I4, rw', q3 v hv⟩) fun hn w' s4 I4 rw' => ⟨z, _, I4, rw', q4 hn⟩
end
section
variable (K : PySem.W.Frag) {X : Cx} {o e : Expr} {to te : TE}
def rJoin (K : PySem.W.Frag) : V → List V → Hp → VK → Prop := fun x xs H Q => ∃ a p, ∃ ys : List Str, x = .str a ∧ xs = [.ref p] ∧ (SqL K H p (ys.map V.str) ∨ SqT K H p (ys.map V.str)) ∧
      (ys.map (·.length)).sum + ys.length * a.length ≤ 16777216 ∧ Q (.str (PySem.Txt.join a ys)) H
theorem pejoin {apos pos : Pos} (ho : PE X o to) (he : PE X e te) (hs : starEach [e] X.env = [(false, eval e X.env)] := by rfl) (hbase : attributeBase o "join" X.env (eval o X.env) = eval o X.env := by rfl) (hline : (apos.endLine == pos.line) = true := by rfl) (h : X.K = K := by rfl) :
    PE X (.Call (.Attribute o "join" apos) [e] [] pos) (tM1 (rJoin K) to te) := by
  subst h
  exact pe_join ho he hs hbase hline
def rLenQ (K : PySem.W.Frag) : List V → Hp → VK → Prop := fun xs H Q => rLenK K xs H Q ∨ rLenS xs H Q
theorem lenQ (h : X.K = K := by rfl) : CallR X (.builtin "len") (rLenQ K) := by
  intro pins s σ H xs us Q I r q
  rcases q with q | q
  · exact lenK K h pins s σ H xs us Q I r q
  · exact lenS pins s σ H xs us Q I r q
theorem ixS (h : X.K = K := by rfl) : IxR X (fun x y H Q => rIxL K x y H Q ∨ rIxS x y H Q) := (ixL K h).or ix_str
end
end K25

namespace K25
open PySem PySem.Spec PyProof.Rows L2
/-! ### the stream of draws -/
def Off (ds : List Addr) (H : Hp) : Hp := fun a => if a ∈ ds then none else H a
theorem off_le {ds : List Addr} {H : Hp} : Same (Off ds H) H := fun a o h => by
  unfold Off at h
  split at h
  · cases h
  · exact h
theorem off_at {ds : List Addr} {H : Hp} {a : Addr} (h : a ∉ ds) : Off ds H a = H a := if_neg h
theorem off_in {ds : List Addr} {H : Hp} {a : Addr} (h : a ∈ ds) : Off ds H a = none := if_pos h
theorem off_mono {ds : List Addr} {H H' : Hp} (e : Same H H') : Same (Off ds H) (Off ds H') := fun a o h => by
  have h0 : a ∉ ds := fun z => by rw [off_in z] at h; cases h
  rw [off_at h0] at h ⊢
  exact e a o h
theorem off_mut {ds : List Addr} {H : Hp} {p : Addr} {o : HO} (h : p ∈ ds) : Same (Off ds H) (Off ds (upd H p o)) := fun a u e => by
  have h0 : a ∉ ds := fun z => by rw [off_in z] at e; cases e
  rw [off_at h0] at e ⊢
  have hap : a ≠ p := fun z => h0 (by rw [z]; exact h)
  rw [upd_ne hap]
  exact e
/-- the stream at s, its cells at l, n draws or fewer behind it -/
def StK (H : Hp) (s l : Addr) (n : Nat) : Prop := s ≠ l ∧ ∃ (xs : List Int) (a c e : Int), H s = some (.lst [.ref l, .int a, .int c, .int e]) ∧ H l = some (.lst (xs.map V.int)) ∧ 0 ≤ a ∧ 0 ≤ c ∧ c ≤ n ∧ 0 ≤ e ∧ e < 2147483647
theorem StK.same {H H' : Hp} {s l : Addr} {n : Nat} (e : Same H H') (h : StK H s l n) : StK H' s l n := by
  obtain ⟨h0, xs, a, c, d, h1, h2, r⟩ := h
  exact ⟨h0, xs, a, c, d, e _ _ h1, e _ _ h2, r⟩
theorem StK.mono {H : Hp} {s l : Addr} {n m : Nat} (h : StK H s l n) (e : n ≤ m) : StK H s l m := by
  obtain ⟨h0, xs, a, c, d, h1, h2, h3, h4, h5, h6⟩ := h
  exact ⟨h0, xs, a, c, d, h1, h2, h3, h4, by omega, h6⟩
theorem StK.new {H : Hp} {s l p : Addr} {n : Nat} (h : StK H s l n) (hp : H p = none) : p ∉ [s, l] := by
  obtain ⟨h0, xs, a, c, d, h1, h2, r⟩ := h
  intro z
  rcases List.mem_cons.mp z with e | z
  · rw [e, h1] at hp; cases hp
  · rw [List.mem_singleton.mp z, h2] at hp; cases hp
theorem StK.upd {H : Hp} {s l p : Addr} {n : Nat} {o : HO} (h : StK H s l n) (hp : p ∉ [s, l]) : StK (upd H p o) s l n := by
  obtain ⟨h0, xs, a, c, d, h1, h2, r⟩ := h
  refine ⟨h0, xs, a, c, d, ?_, ?_, r⟩
  · have q : s ≠ p := fun z => hp (by rw [← z]; exact List.mem_cons_self)
    rw [upd_ne q]; exact h1
  · have q : l ≠ p := fun z => hp (by rw [← z]; exact List.mem_cons_of_mem _ List.mem_cons_self)
    rw [upd_ne q]; exact h2
theorem sqT {t u : TS} {D : Ends} {σ : L2.St} {H : Hp} (Pre : L2.St → Hp → Prop) (h : (∀ σ H, Pre σ H → u D σ H) → t { D with nx := u D } σ H) (h2 : ∀ σ H, Pre σ H → u D σ H) : tSeq t u D σ H := h h2
section
variable {P : Program} {w : World} {K : PySem.W.Frag} {mg : Str → Option Value} {base : Heap} {C : Addr}
def spStart : Sp := fun vs H Q _ => ∃ (r : Addr) (xs : List Int), vs = [.ref r] ∧ (SqL K H r (xs.map V.int) ∨ SqT K H r (xs.map V.int)) ∧ ∀ s l H', H s = none → H l = none → Same H H' → StK H' s l 0 → Q (.ref s) H'
abbrev N_l_start : List Str := ["_law_script"]
theorem sc_l_start : FnScope N_l_start ["_law_script"] (defScope s_l_start) := ⟨rfl, rfl, rfl, by decide +kernel, rfl, by decide +kernel, by decide +kernel⟩
theorem cal_l_start (T : Txt K mg C) (F : Has K mg "_law_start" s_l_start) : Cal P w K mg base "_law_start" 1 ["_law_script"] (spStart (K := K)) := by
  refine F.cal sc_l_start (fun vs H Q E h => by obtain ⟨r, xs, rfl, _⟩ := h; rfl) (fun _ _ _ _ _ _ us hl => match us, hl with | [_], _ => rfl) (fun fa cdv Ar outer s0 H vs Q E hr h => ?_)
  obtain ⟨r, xs, rfl, h1, k⟩ := h
  refine ⟨_, pss_one (ps_ret (pe_lst (pa_cons (pe_callTy (listK K) (by rfl) T.list bt_list (pa_cons (pv 0) pa_nil)) (pa_cons pe_int (pa_cons pe_int (pa_cons pe_int pa_nil)))))), ?_⟩
  refine ⟨_, rfl, r, _, rfl, h1, fun l hl => ?_⟩
  refine ⟨by show 4 ≤ sizeLine; decide, fun s hs => ?_⟩
  have e1 := Same.new (o := .lst (xs.map V.int)) hl
  have e2 := Same.new (o := .lst [.ref l, .int 0, .int 0, .int 11]) hs
  have hls : s ≠ l := (ne_of_none (upd_same (H := H) (a := l) (o := .lst (xs.map V.int))) hs).symm
  exact k s l _ (e1.free hs) hl (e1.trans e2) ⟨hls, xs, 0, 0, 11, upd_same, e2 _ _ upd_same, by decide, by decide, by decide, by decide, by decide⟩
def spDraw : Sp := fun vs H Q _ => ∃ (s l : Addr) (m : Int) (n : Nat), vs = [.ref s, .int m] ∧ StK H s l n ∧ 0 < m ∧ m ≤ 1000 ∧ n ≤ 1000000 ∧ ∀ (r : Nat) H', (r : Int) < m → Same (Off [s, l] H) (Off [s, l] H') → StK H' s l (n + 1) → Q (.int (r : Int)) H'
abbrev N_l_draw : List Str := ["_law_stream", "_law_many", "_law_cell", "_law_digit", "_law_mixed_here"]
theorem sc_l_draw : FnScope N_l_draw ["_law_stream", "_law_many"] (defScope s_l_draw) := ⟨rfl, rfl, rfl, by decide +kernel, rfl, by decide +kernel, by decide +kernel⟩
theorem cal_l_draw (T : Txt K mg C) (F : Has K mg "_law_draw" s_l_draw) : Cal P w K mg base "_law_draw" 1 ["_law_stream", "_law_many"] spDraw := by
  refine F.cal sc_l_draw (fun vs H Q E h => by obtain ⟨s, l, m, n, rfl, _⟩ := h; rfl) (fun _ _ _ _ _ _ us hl => match us, hl with | [_, _], _ => rfl) (fun fa cdv Ar outer s0 H vs Q E hr h => ?_)
  obtain ⟨s, l, m, n, rfl, ⟨hsl, xs, a, c, e, h1, h2, ha, hc, hcn, he, he2⟩, hm0, hm, hn, k⟩ := h
  refine ⟨_, pss_cons (ps_asg (pe_op op_add (pe_ix (ixL K) (pv 0) pe_int (fun _ _ => rfl)) pe_int) (pg_sub (pv 0) pe_int set_list))
    (pss_cons (ps_if (PW.pt (pw_and (pt_cmpR op_eq (pe_ix (ixL K) (pv 0) pe_int (fun _ _ => rfl)) pe_int (nomark _)) (pw_and1 (pt_cmpR (neNil K hr.units0) (pe_ix (ixL K) (pv 0) pe_int (fun _ _ => rfl)) (pe_lst pa_nil) (nomark _))))) (pss_cons (ps_set (i := 2) sc_l_draw.nd rfl (Or.inl rfl) (pem K PySem.F.plainAttrs_list PySem.F.slot_list_pop PySem.F.type_list_pop mt_popAt (pe_ix (ixL K) (pv 0) pe_int (fun _ _ => rfl)) (pa_cons pe_int pa_nil)))
    (pss_cons (ps_asg (pe_op op_mod (pe_callTy call_int1 (by rfl) T.int bt_int (pa_cons (pe_op op_add (pe_op op_add (pe_op op_mul (pe_ix (ixL K) (pv 0) pe_int (fun _ _ => rfl)) pe_int) (pv 2)) pe_int) pa_nil)) pe_int) (pg_sub (pv 0) pe_int set_list))
    (pss_one (ps_asg (pe_ifExp (pt_cmpR op_ge (pv 2) (pe_op op_pow pe_int pe_int) (nomark _)) (pv 2) pe_int) (pg_sub (pv 0) pe_int set_list))))) pss_nil)
    (pss_cons (ps_if (pt_cmpR op_gt (pe_ix (ixL K) (pv 0) pe_int (fun _ _ => rfl)) pe_int (nomark _)) (pss_cons (ps_set (i := 3) sc_l_draw.nd rfl (Or.inl rfl) (pe_op op_mod (pe_callTy call_int1 (by rfl) T.int bt_int (pa_cons (pe_ix (ixL K) (pv 0) pe_int (fun _ _ => rfl)) pa_nil)) (pv 1)))
    (pss_cons (ps_asg (pe_op op_fdiv (pe_ix (ixL K) (pv 0) pe_int (fun _ _ => rfl)) (pv 1)) (pg_sub (pv 0) pe_int set_list))
    (pss_one (ps_ret (pv 3))))) pss_nil)
    (pss_cons (ps_set (i := 4) sc_l_draw.nd rfl (Or.inl rfl) (pe_op op_mod (pe_callTy call_int1 (by rfl) T.int bt_int (pa_cons (pe_op op_pow (pe_op op_add (pe_op op_add (pe_ix (ixL K) (pv 0) pe_int (fun _ _ => rfl)) (pe_op op_mul pe_int (pe_ix (ixL K) (pv 0) pe_int (fun _ _ => rfl)))) pe_int) pe_int) pa_nil)) pe_int))
    (pss_one (ps_ret (pe_op op_mod (pe_op op_mod (pe_callTy call_int1 (by rfl) T.int bt_int (pa_cons (pe_op op_pow (pe_op op_add (pe_op op_add (pe_op op_mul (pv 4) pe_int) (pe_op op_mul pe_int (pe_ix (ixL K) (pv 0) pe_int (fun _ _ => rfl)))) pe_int) pe_int) pa_nil)) pe_int) (pv 1))))))), ?_⟩
  refine sq ?_
  refine asg ?_
  refine opn ?_
  refine val_ixL (val_var rfl) val_c (SqL.of h1) rfl _ ?_
  refine ⟨_, _, rfl, rfl, ?_⟩
  refine ⟨_, rfl, s, _, 2, 2, rfl, rfl, h1, rfl, ?_⟩
  have hs1 : upd H s (.lst [.ref l, .int a, .int (c + 1), .int e]) s = some (.lst [.ref l, .int a, .int (c + 1), .int e]) := upd_same
  have hl1 : upd H s (.lst [.ref l, .int a, .int (c + 1), .int e]) l = some (.lst (xs.map V.int)) := by rw [upd_ne hsl.symm]; exact h2
  have o1 : Same (Off [s, l] H) (Off [s, l] (upd H s (.lst [.ref l, .int a, .int (c + 1), .int e]))) := off_mut List.mem_cons_self
  refine ds ?_
  refine sqT (fun σ H2 => ∃ (v2 v3 v4 : Option V) (xs2 : List Int) (a2 e2 : Int), σ = [some (.ref s), some (.int m), v2, v3, v4] ∧ H2 s = some (.lst [.ref l, .int a2, .int (c + 1), .int e2]) ∧ H2 l = some (.lst (xs2.map V.int)) ∧ 0 ≤ a2 ∧ 0 ≤ e2 ∧ e2 < 2147483647 ∧ Same (Off [s, l] H) (Off [s, l] H2)) (fun tail => ?_) ?_
  · refine ifs ?_
    refine val_ixL (val_var rfl) val_c (SqL.of hs1) rfl _ ?_
    refine ⟨rfl, decide (a = 0), ?_, ?_⟩
    · rw [dec_int]
      by_cases q : a = 0 <;> simp [q]
    by_cases q1 : a = 0
    case neg =>
      rw [decide_eq_false q1]
      exact iteF (iteF (tail _ _ ⟨_, _, _, xs, a, e, rfl, hs1, hl1, ha, he, he2, o1⟩))
    rw [decide_eq_true q1]
    refine iteT ?_
    refine val_ixL (val_var rfl) val_c (SqL.of hs1) rfl _ ?_
    refine ⟨Nat.zero_le _, fun q hq => ?_⟩
    have e2' := Same.new (o := .lst []) hq
    refine ⟨l, q, _, rfl, rfl, SqL.of (e2' _ _ hl1), SqL.of upd_same, _, rfl, ?_⟩
    have o2 := o1.trans (off_mono (ds := [s, l]) e2')
    have hs2 := e2' _ _ hs1
    have hl2 := e2' _ _ hl1
    generalize upd _ q (.lst []) = H2 at o2 hs2 hl2
    cases xs with
    | nil => exact iteF (tail _ _ ⟨_, _, _, [], a, e, rfl, hs2, hl2, ha, he, he2, o2⟩)
    | cons x xs =>
      refine iteT ?_
      refine sq ?_
      refine asg ?_
      refine val_ixL (val_var rfl) val_c (SqL.of hs2) rfl _ ?_
      refine ⟨.inl ⟨rfl, _, SqL.of hl2⟩, ?_⟩
      refine ⟨l, _, 0, 0, _, rfl, rfl, hl2, by decide, by decide, seqIndex_of (by decide) (by simp), rfl, ?_⟩
      refine gn2 ?_
      have hls : s ≠ l := hsl
      have hs3 : upd H2 l (.lst (xs.map V.int)) s = some (.lst [.ref l, .int a, .int (c + 1), .int e]) := by rw [upd_ne hls]; exact hs2
      have hl3 : upd H2 l (.lst (xs.map V.int)) l = some (.lst (xs.map V.int)) := upd_same
      have o3 := o2.trans (off_mut (ds := [s, l]) (H := H2) (p := l) (o := .lst (xs.map V.int)) (List.mem_cons_of_mem _ List.mem_cons_self))
      refine sq ?_
      refine asg ?_
      refine opn ?_
      refine cb (ac ?_)
      refine opn ?_
      refine opn ?_
      refine opn ?_
      refine val_ixL (val_var rfl) val_c (SqL.of hs3) rfl _ ?_
      refine ⟨_, _, rfl, rfl, .inr (by decide), ?_⟩
      refine ⟨_, rfl, _, _, rfl, rfl, ?_⟩
      refine ⟨_, _, rfl, rfl, ?_⟩
      refine .inl ⟨_, rfl, ?_⟩
      refine ⟨_, _, rfl, rfl, (by decide : (0 : Int) < 2147483647), ?_⟩
      refine ⟨_, rfl, s, _, 3, 3, rfl, rfl, hs3, rfl, ?_⟩
      have hz0 : 0 ≤ ((e * 8191 + x + 3) % 2147483647) := by omega
      have hz1 : ((e * 8191 + x + 3) % 2147483647) < 2147483647 := by omega
      have o4 := o3.trans (off_mut (ds := [s, l]) (H := upd H2 l (.lst (xs.map V.int))) (p := s) (o := .lst [.ref l, .int a, .int (c + 1), .int ((e * 8191 + x + 3) % 2147483647)]) List.mem_cons_self)
      have hs4 : upd (upd H2 l (.lst (xs.map V.int))) s (.lst [.ref l, .int a, .int (c + 1), .int ((e * 8191 + x + 3) % 2147483647)]) s = some (.lst [.ref l, .int a, .int (c + 1), .int ((e * 8191 + x + 3) % 2147483647)]) := upd_same
      have hl4 : upd (upd H2 l (.lst (xs.map V.int))) s (.lst [.ref l, .int a, .int (c + 1), .int ((e * 8191 + x + 3) % 2147483647)]) l = some (.lst (xs.map V.int)) := by rw [upd_ne hsl.symm]; exact hl3
      refine ds (asg ?_)
      refine ⟨_, rfl, _, _, rfl, rfl, ⟨by decide, by decide, by decide⟩, _, _, rfl, rfl, decide ((10 : Int) ^ 18 ≤ x), rfl, ?_⟩
      by_cases q : (10 : Int) ^ 18 ≤ x
      · rw [decide_eq_true q]
        refine iteT ⟨_, rfl, _, rfl, s, _, 1, 1, rfl, rfl, hs4, rfl, ?_⟩
        refine tail _ _ ⟨_, _, _, xs, x, _, rfl, upd_same, by rw [upd_ne hsl.symm]; exact hl4, by omega, hz0, hz1, o4.trans (off_mut List.mem_cons_self)⟩
      · rw [decide_eq_false q]
        refine iteF ⟨_, rfl, s, _, 1, 1, rfl, rfl, hs4, rfl, ?_⟩
        refine tail _ _ ⟨_, _, _, xs, 0, _, rfl, upd_same, by rw [upd_ne hsl.symm]; exact hl4, by omega, hz0, hz1, o4.trans (off_mut List.mem_cons_self)⟩
  · rintro σ H2 ⟨v2, v3, v4, xs2, a2, e2, rfl, hs2, hl2, ha2, he2', he3, o2⟩
    have stk : ∀ H3, H3 s = some (.lst [.ref l, .int a2, .int (c + 1), .int e2]) → H3 = H2 → StK H3 s l (n + 1) := fun H3 h e => by
      subst e
      exact ⟨hsl, xs2, a2, c + 1, e2, h, hl2, ha2, by omega, by omega, he2', he3⟩
    refine sq ?_
    refine ifs ?_
    refine val_ixL (val_var rfl) val_c (SqL.of hs2) rfl _ ?_
    refine ⟨_, _, rfl, rfl, decide (0 < a2), rfl, ?_⟩
    by_cases q : 0 < a2
    · rw [decide_eq_true q]
      refine iteT ?_
      refine sq ?_
      refine asg ?_
      refine opn ?_
      refine cb (ac ?_)
      refine val_ixL (val_var rfl) val_c (SqL.of hs2) rfl _ ?_
      refine .inl ⟨_, rfl, ?_⟩
      refine ⟨_, rfl, _, _, rfl, rfl, hm0, ?_⟩
      refine gn2 ?_
      refine sq ?_
      refine asg ?_
      refine opn ?_
      refine val_ixL (val_var rfl) val_c (SqL.of hs2) rfl _ ?_
      refine ⟨_, rfl, _, _, rfl, rfl, ⟨hm0, by omega⟩, ?_⟩
      refine ⟨_, rfl, s, _, 1, 1, rfl, rfl, hs2, rfl, ?_⟩
      refine ds (ret ?_)
      refine ⟨_, rfl, ?_⟩
      have e1 : (((a2 % m).toNat : Nat) : Int) = a2 % m := Int.toNat_of_nonneg (Int.emod_nonneg _ (by omega))
      have kk := k (a2 % m).toNat (upd H2 s (.lst [.ref l, .int (a2 / m), .int (c + 1), .int e2])) (by rw [e1]; exact Int.emod_lt_of_pos _ hm0) (o2.trans (off_mut List.mem_cons_self))
        ⟨hsl, xs2, a2 / m, c + 1, e2, upd_same, by rw [upd_ne hsl.symm]; exact hl2, Int.ediv_nonneg ha2 (by omega), by omega, by omega, he2', he3⟩
      rw [e1] at kk
      exact kk
    · rw [decide_eq_false q]
      refine iteF ?_
      refine nx2 ?_
      refine sq ?_
      refine asg ?_
      refine opn ?_
      refine cb (ac ?_)
      refine opn ?_
      refine opn ?_
      refine opn ?_
      refine val_ixL (val_var rfl) val_c (SqL.of hs2) rfl _ ?_
      refine opn ?_
      refine val_c _ ?_
      refine val_ixL (val_var rfl) val_c (SqL.of hs2) rfl _ ?_
      refine ⟨_, _, rfl, rfl, .inl (by decide), ?_⟩
      refine ⟨_, _, rfl, rfl, ?_⟩
      refine ⟨_, _, rfl, rfl, ?_⟩
      refine ⟨_, _, rfl, rfl, ⟨by decide, by decide, by omega⟩, ?_⟩
      refine .inl ⟨_, rfl, ?_⟩
      refine ⟨_, _, rfl, rfl, (by decide : (0 : Int) < 2147483629), ?_⟩
      refine gn2 ?_
      refine ret ?_
      refine opn ?_
      refine opn ?_
      refine cb (ac ?_)
      refine opn ?_
      refine opn ?_
      refine opn ?_
      refine opn ?_
      have hy0 : 0 ≤ ((e2 + 7919 * (c + 1) + 104729) ^ Int.toNat 5 % 2147483629) := Int.emod_nonneg _ (by decide)
      have hy1 : ((e2 + 7919 * (c + 1) + 104729) ^ Int.toNat 5 % 2147483629) < 2147483629 := Int.emod_lt_of_pos _ (by decide)
      refine ⟨_, rfl, _, _, rfl, rfl, .inr (by decide), ?_⟩
      refine opn ?_
      refine val_c _ ?_
      refine val_ixL (val_var rfl) val_c (SqL.of hs2) rfl _ ?_
      refine ⟨_, _, rfl, rfl, .inl (by decide), ?_⟩
      refine ⟨_, _, rfl, rfl, ?_⟩
      refine ⟨_, _, rfl, rfl, ?_⟩
      refine ⟨_, _, rfl, rfl, ⟨by decide, by decide, by omega⟩, ?_⟩
      refine .inl ⟨_, rfl, ?_⟩
      refine ⟨_, _, rfl, rfl, (by decide : (0 : Int) < 1000000007), ?_⟩
      refine ⟨_, rfl, _, _, rfl, rfl, hm0, ?_⟩
      have e1 : ((((((((e2 + 7919 * (c + 1) + 104729) ^ Int.toNat 5 % 2147483629) * 48271 + 30011 * (c + 1) + 29) ^ Int.toNat 3 % 1000000007)) % m).toNat : Nat) : Int) = (((((e2 + 7919 * (c + 1) + 104729) ^ Int.toNat 5 % 2147483629) * 48271 + 30011 * (c + 1) + 29) ^ Int.toNat 3 % 1000000007)) % m := Int.toNat_of_nonneg (Int.emod_nonneg _ (by omega))
      have kk := k ((((((e2 + 7919 * (c + 1) + 104729) ^ Int.toNat 5 % 2147483629) * 48271 + 30011 * (c + 1) + 29) ^ Int.toNat 3 % 1000000007)) % m).toNat H2 (by rw [e1]; exact Int.emod_lt_of_pos _ hm0) o2 (stk H2 hs2 rfl)
      rw [e1] at kk
      exact kk
end
end K25

namespace K25
open PySem PySem.Spec PyProof.Rows L2
section
variable {P : Program} {w : World} {K : PySem.W.Frag} {mg : Str → Option Value} {base : Heap} {C : Addr}
theorem off_sq {s l q : Addr} {H H' : Hp} {o : HO} (hq : q ∉ [s, l]) (e : Same (Off [s, l] H) (Off [s, l] H')) (h : H q = some o) : H' q = some o := by
  have := e q o (by rw [off_at hq]; exact h)
  rw [off_at hq] at this
  exact this
def chrs (z : Str) : List V := z.cps.toList.map fun c => V.str ⟨#[c]⟩
def spPick : Sp := fun vs H Q _ => ∃ (s l : Addr) (n : Nat) (x : V) (ys : List V), vs = [.ref s, x] ∧ StK H s l n ∧ ((∃ q : Addr, x = .ref q ∧ q ∉ [s, l] ∧ H q = some (.lst ys)) ∨ ∃ z : Str, x = .str z ∧ ys = chrs z) ∧ 0 < ys.length ∧ ys.length ≤ 1000 ∧ n ≤ 1000000 ∧
  ∀ y H', y ∈ ys → Same (Off [s, l] H) (Off [s, l] H') → StK H' s l (n + 1) → Q y H'
abbrev N_l_pick : List Str := ["_law_stream", "_law_some"]
theorem sc_l_pick : FnScope N_l_pick ["_law_stream", "_law_some"] (defScope s_l_pick) := ⟨rfl, rfl, rfl, by decide +kernel, rfl, by decide +kernel, by decide +kernel⟩
theorem cal_l_pick (T : Txt K mg C) (F : Has K mg "_law_pick" s_l_pick) (c_l_draw : Cal P w K mg base "_law_draw" 1 ["_law_stream", "_law_many"] spDraw) : Cal P w K mg base "_law_pick" 2 ["_law_stream", "_law_some"] spPick := by
  refine F.cal sc_l_pick (fun vs H Q E h => by obtain ⟨s, l, n, x, ys, rfl, _⟩ := h; rfl) (fun _ _ _ _ _ _ us hl => match us, hl with | [_, _], _ => rfl) (fun fa cdv Ar outer s0 H vs Q E hr h => ?_)
  obtain ⟨s, l, n, x, ys, rfl, hst, hx, hy0, hy1, hn, k⟩ := h
  refine ⟨_, pss_one (ps_ret (pe_ix (ixS K) (pv 1) (pe_callC c_l_draw (hr.mono (by decide)) (by rfl) (pa_cons (pv 0) (pa_cons (pe_callB (lenQ K) (by rfl) T.len bt_len (pa_cons (pv 1) pa_nil)) pa_nil))) (fun _ _ => rfl))), ?_⟩
  refine ret ?_
  refine opn ?_
  refine ⟨_, rfl, _, rfl, _, rfl, ?_⟩
  rcases hx with ⟨q, rfl, hq, hqq⟩ | ⟨z, rfl, rfl⟩
  · refine .inl ⟨q, ys, rfl, .inl (SqL.of hqq), ?_⟩
    refine ⟨s, l, ys.length, n, rfl, hst, by omega, by omega, hn, fun r H' hr o hst' => ?_⟩
    have hr' : r < ys.length := by omega
    exact .inl ⟨q, ys, _, ys[r], rfl, rfl, SqL.of (off_sq hq o hqq), atI_nat (List.getElem?_eq_getElem hr'), k _ _ (List.getElem_mem hr') o hst'⟩
  · have hl : (chrs z).length = z.length := by unfold chrs; rw [List.length_map]; rfl
    refine .inr ⟨z, rfl, small_le (by omega), ?_⟩
    refine ⟨s, l, z.length, n, rfl, hst, by omega, by omega, hn, fun r H' hr o hst' => ?_⟩
    have hr' : r < (chrs z).length := by omega
    have hr2 : r < z.cps.toList.length := by unfold chrs at hr'; rw [List.length_map] at hr'; exact hr'
    refine .inr ⟨z, _, z.cps.toList[r], rfl, rfl, small_le (by omega), atI_nat (List.getElem?_eq_getElem hr2), k _ _ ?_ o hst'⟩
    exact List.mem_map.mpr ⟨_, List.getElem_mem hr2, rfl⟩
theorem erase_perm {α : Type} : ∀ {l : List α} {i : Nat} (h : i < l.length), (l[i] :: l.eraseIdx i).Perm l
  | [], i, h => absurd h (by simp)
  | x :: l, 0, h => List.Perm.refl _
  | x :: l, i + 1, h => by
    have h' : i < l.length := by simpa using h
    show (l[i] :: x :: l.eraseIdx i).Perm (x :: l)
    exact (List.Perm.swap x l[i] _).trans ((erase_perm h').cons x)
/-! a list in any order -/
def spMixed : Sp := fun vs H Q _ => ∃ (s l q : Addr) (n : Nat) (ys : List V), vs = [.ref s, .ref q] ∧ StK H s l n ∧ q ∉ [s, l] ∧ H q = some (.lst ys) ∧ ys.length ≤ 100 ∧ n ≤ 900000 ∧
  ∀ p zs H', H p = none → zs.Perm ys → H' p = some (.lst zs) → Same (Off [s, l] H) (Off [s, l] H') → StK H' s l (n + ys.length) → Q (.ref p) H'
abbrev N_l_mixed : List Str := ["_law_stream", "_law_some", "_law_left", "_law_k"]
theorem sc_l_mixed : FnScope N_l_mixed ["_law_stream", "_law_some"] (defScope s_l_mixed) := ⟨rfl, rfl, rfl, by decide +kernel, rfl, by decide +kernel, by decide +kernel⟩
theorem off_more {a b c : Addr} {H : Hp} : Same (Off [a, b, c] H) (Off [a, b] H) := fun x o h => by
  have h0 : x ∉ [a, b, c] := fun z => by rw [off_in z] at h; cases h
  rw [off_at h0] at h
  rw [off_at (fun z => h0 (by simp at z ⊢; rcases z with z | z <;> simp [z]))]
  exact h
theorem off_drop {a b c : Addr} {H H' : Hp} (hc : H c = none) (e : Same (Off [a, b, c] H) (Off [a, b, c] H')) : Same (Off [a, b] H) (Off [a, b] H') := fun x o h => by
  have h0 : x ∉ [a, b] := fun z => by rw [off_in z] at h; cases h
  rw [off_at h0] at h
  have h1 : x ≠ c := fun z => by rw [z, hc] at h; cases h
  have h2 : x ∉ [a, b, c] := fun z => by simp at z h0; rcases z with z | z | z <;> simp_all
  have q := e x o (by rw [off_at h2]; exact h)
  rw [off_at h2] at q
  rw [off_at h0]
  exact q
theorem off_add {a b c : Addr} {H H' : Hp} (e : Same (Off [a, b] H) (Off [a, b] H')) : Same (Off [a, b, c] H) (Off [a, b, c] H') := fun x o h => by
  have h0 : x ∉ [a, b, c] := fun z => by rw [off_in z] at h; cases h
  rw [off_at h0] at h ⊢
  have h2 : x ∉ [a, b] := fun z => h0 (by simp at z ⊢; rcases z with z | z <;> simp [z])
  have q := e x o (by rw [off_at h2]; exact h)
  rw [off_at h2] at q
  exact q
theorem cal_l_mixed (T : Txt K mg C) (F : Has K mg "_law_mixed" s_l_mixed) (c_l_draw : Cal P w K mg base "_law_draw" 1 ["_law_stream", "_law_many"] spDraw) : Cal P w K mg base "_law_mixed" 2 ["_law_stream", "_law_some"] spMixed := by
  refine F.cal sc_l_mixed (fun vs H Q E h => by obtain ⟨s, l, q, n, ys, rfl, _⟩ := h; rfl) (fun _ _ _ _ _ _ us hl => match us, hl with | [_, _], _ => rfl) (fun fa cdv Ar outer s0 H vs Q E hr h => ?_)
  obtain ⟨s, l, q, n, ys, rfl, hst, hq, hqq, hy1, hn, k⟩ := h
  refine ⟨_, pss_cons (ps_set (i := 2) sc_l_mixed.nd rfl (Or.inr rfl) (pe_callTy (listK K) (by rfl) T.list bt_list (pa_cons (pv 1) pa_nil)))
    (pss_one (ps_ret (pe_lc (own := [("_law_k", 3)]) rfl sc_l_mixed.nd (pi_range1 (by rfl) T.range (pa_cons (pe_callB (lenK K) (by rfl) T.len bt_len (pa_cons (pv 2) pa_nil)) pa_nil)) (blkOk_by (N := N_l_mixed) (sc := defScope s_l_mixed) (by decide +kernel)) (fun _ _ _ _ _ => (pg_name (i := 3) sc_l_mixed.nd rfl (Or.inl rfl))) (fun _ _ _ _ _ => pts_nil) (fun _ _ _ _ _ => (pem K PySem.F.plainAttrs_list PySem.F.slot_list_pop PySem.F.type_list_pop mt_popAt (pv 2) (pa_cons (pe_callC c_l_draw (hr.mono (by decide)) (by rfl) (pa_cons (pv 0) (pa_cons (pe_callB (lenK K) (by rfl) T.len bt_len (pa_cons (pv 2) pa_nil)) pa_nil))) pa_nil)))))), ?_⟩
  refine sq ?_
  refine ⟨_, rfl, q, ys, rfl, .inl (SqL.of hqq), fun L hL => ?_⟩
  refine gn2 ?_
  refine ret ?_
  have hLs := hst.new hL
  have hst1 := hst.upd (o := .lst ys) hLs
  have e1 := Same.new (o := .lst ys) hL
  have hL1 : upd H L (.lst ys) L = some (.lst ys) := upd_same
  generalize hH1 : upd H L (.lst ys) = H1 at *
  refine ⟨_, rfl, L, _, rfl, .inl (SqL.of hL1), ?_⟩
  refine ⟨_, rfl, by omega, by omega, fun D hD => ?_⟩
  have hDs := hst1.new hD
  have hDL : L ≠ D := ne_of_none hL1 hD
  refine lcA (H0 := Off [s, l, L] H1) walk_range (fun i zs H' => StK H' s l (n + i) ∧ ∃ left : List V, H' L = some (.lst left) ∧ (zs ++ left).Perm ys ∧ zs.length = i) off_le hD (small_lt (by omega)) ?_ ?_ ?_ (fun _ _ => trivial) ?_ ?_
  · rintro i zs H' ⟨_, left, _, _, h⟩
    omega
  · rintro i zs H' H'' e ⟨⟨h0, xs, a, c, d, h1, h2, r⟩, left, h3, h4, h5⟩
    exact ⟨⟨h0, xs, a, c, d, e _ _ (fun z => hDs (by simp [z])) h1, e _ _ (fun z => hDs (by simp [z])) h2, r⟩, left, e _ _ hDL h3, h4, h5⟩
  · exact ⟨hst1.upd hDs, ys, by rw [upd_ne hDL]; exact hL1, List.Perm.refl _, rfl⟩
  · rintro i y H2 H3 zs hi e hD0 hDz ⟨hst2, left, hL2, hp, hz⟩ ⟨rfl, rfl⟩ R R' hR hR'
    have hlen : left.length = ys.length - i := by
      have := hp.length_eq
      rw [List.length_append] at this
      omega
    have hi' : i < ys.length := by omega
    refine gn ⟨rfl, yesT ?_⟩
    refine ⟨_, rfl, .inl ⟨rfl, _, SqL.of hL2⟩, ?_⟩
    refine ⟨_, rfl, _, rfl, L, _, rfl, .inl (SqL.of hL2), ?_⟩
    refine ⟨s, l, left.length, n + i, rfl, hst2, by omega, by omega, by omega, fun r H4 hr o hst4 => ?_⟩
    have hr' : r < left.length := by omega
    have hL4 := off_sq hLs o hL2
    refine ⟨L, left, r, r, left[r], rfl, rfl, hL4, by omega, by omega, ?_, List.getElem?_eq_getElem hr', ?_⟩
    · rw [seqIndex_of (by omega) (by omega)]
      simp
    refine hR _ _ ?_ ?_ ⟨hst4.upd hLs |>.mono (by omega), left.eraseIdx r, upd_same, ?_, ?_⟩
    · intro x o' hx
      have h0 : x ∉ [s, l, L] := fun z => by rw [off_in z] at hx; cases hx
      have h1 : x ≠ L := fun z => h0 (by simp [z])
      rw [upd_ne h1]
      exact off_sq (fun z => h0 (by simp at z ⊢; rcases z with z | z <;> simp [z])) o (e x o' hx)
    · rw [upd_ne hDL.symm]
      exact off_sq hDs o hDz
    · have hpr : (left[r] :: left.eraseIdx r).Perm left := erase_perm hr'
      rw [List.append_assoc]
      exact (List.Perm.append_left zs hpr).trans hp
    · rw [List.length_append, hz]; rfl
  · rintro zs H2 e hDz ⟨hst2, left, hL2, hp, hz⟩
    have hleft : left = [] := by
      have := hp.length_eq
      rw [List.length_append] at this
      exact List.eq_nil_of_length_eq_zero (by omega)
    subst hleft
    rw [List.append_nil] at hp
    refine k D zs H2 (e1.free hD) hp hDz ?_ (hst2.mono (by omega))
    intro x o hx
    have h0 : x ∉ [s, l] := fun z => by rw [off_in z] at hx; cases hx
    rw [off_at h0] at hx ⊢
    have h1 : x ≠ L := fun z => by rw [z, hL] at hx; cases hx
    refine e x o ?_
    rw [off_at (fun z => by simp at z h0; rcases z with z | z | z <;> simp_all)]
    exact e1 x o hx
/-! names -/
def letters : Str := "abcdefghijklmnopqrstuvwxyz"
theorem join_chars : ∀ xs : List Nat, (Str.join "" (xs.map fun c => (⟨#[c]⟩ : Str))).cps.toList = xs
  | [] => rfl
  | [c] => rfl
  | c :: d :: xs => by
    have ih := join_chars (d :: xs)
    rw [List.map_cons] at ih ⊢
    rw [List.map_cons]
    have e : Str.join "" ((⟨#[c]⟩ : Str) :: (⟨#[d]⟩ : Str) :: xs.map fun c => (⟨#[c]⟩ : Str)) = (⟨#[c]⟩ : Str) ++ "" ++ Str.join "" ((⟨#[d]⟩ : Str) :: xs.map fun c => (⟨#[c]⟩ : Str)) := rfl
    rw [e]
    show ((#[c] ++ (#[] : Array Nat)) ++ (Str.join "" ((⟨#[d]⟩ : Str) :: xs.map fun c => (⟨#[c]⟩ : Str))).cps).toList = _
    rw [Array.toList_append, ih]
    rfl
theorem letters_sign : ∀ c ∈ letters.cps.toList, c ∈ signs.cps.toList := by decide +kernel
theorem glue_name {xs : List Nat} (h : ∀ c ∈ xs, c ∈ letters.cps.toList) (h0 : 0 < xs.length) (h1 : xs.length ≤ 40) : NameOk (PySem.Txt.join "" (xs.map fun c => (⟨#[c]⟩ : Str))) := by
  have e : PySem.Txt.join "" (xs.map fun c => (⟨#[c]⟩ : Str)) = Str.join "" (xs.map fun c => (⟨#[c]⟩ : Str)) := PySem.StrLaws.glued_eq_join _ _
  rw [e]
  have e2 := join_chars xs
  generalize Str.join "" (xs.map fun c => (⟨#[c]⟩ : Str)) = z at e2
  have hl : z.length = xs.length := by rw [← e2]; rfl
  refine ⟨by omega, by omega, fun c hc => ?_⟩
  rw [e2] at hc
  exact letters_sign c (h c hc)
def spName : Sp := fun vs H Q _ => ∃ (s l : Addr) (n : Nat), vs = [.ref s] ∧ StK H s l n ∧ n ≤ 800000 ∧ ∀ x H', NameOk x → Same (Off [s, l] H) (Off [s, l] H') → StK H' s l (n + 10) → Q (.str x) H'
abbrev N_l_name : List Str := ["_law_stream", "_law_width", "_law_k"]
theorem sc_l_name : FnScope N_l_name ["_law_stream"] (defScope s_l_name) := ⟨rfl, rfl, rfl, by decide +kernel, rfl, by decide +kernel, by decide +kernel⟩
theorem cal_l_name (T : Txt K mg C) (F : Has K mg "_law_name" s_l_name) (c_l_draw : Cal P w K mg base "_law_draw" 1 ["_law_stream", "_law_many"] spDraw) (c_l_pick : Cal P w K mg base "_law_pick" 2 ["_law_stream", "_law_some"] spPick) : Cal P w K mg base "_law_name" 3 ["_law_stream"] spName := by
  refine F.cal sc_l_name (fun vs H Q E h => by obtain ⟨s, l, n, rfl, _⟩ := h; rfl) (fun _ _ _ _ _ _ us hl => match us, hl with | [_], _ => rfl) (fun fa cdv Ar outer s0 H vs Q E hr h => ?_)
  obtain ⟨s, l, n, rfl, hst, hn, k⟩ := h
  refine ⟨_, pss_cons (ps_set (i := 1) sc_l_name.nd rfl (Or.inl rfl) (pe_ix (ixL K) (pe_lst (pa_cons pe_int (pa_cons pe_int (pa_cons pe_int (pa_cons pe_int (pa_cons pe_int (pa_cons pe_int pa_nil))))))) (pe_callC c_l_draw (hr.mono (by decide)) (by rfl) (pa_cons (pv 0) (pa_cons pe_int pa_nil))) (fun _ _ => rfl)))
    (pss_one (ps_ret (pejoin K pe_str (pe_lc (own := [("_law_k", 2)]) rfl sc_l_name.nd (pi_range1 (by rfl) T.range (pa_cons (pv 1) pa_nil)) (blkOk_by (N := N_l_name) (sc := defScope s_l_name) (by decide +kernel)) (fun _ _ _ _ _ => (pg_name (i := 2) sc_l_name.nd rfl (Or.inl rfl))) (fun _ _ _ _ _ => pts_nil) (fun _ _ _ _ _ => (pe_callC c_l_pick (hr.mono (by decide)) (by rfl) (pa_cons (pv 0) (pa_cons pe_str pa_nil)))))))), ?_⟩
  refine sq ?_
  refine asg ?_
  refine opn ?_
  refine ⟨by show 6 ≤ sizeLine; decide, fun p hp => ?_⟩
  have hps := hst.new hp
  have e1 := Same.new (o := .lst [.int 1, .int 1, .int 2, .int 3, .int 5, .int 8]) hp
  have hst1 := hst.upd (o := .lst [.int 1, .int 1, .int 2, .int 3, .int 5, .int 8]) hps
  refine ⟨_, rfl, ?_⟩
  refine ⟨s, l, 6, n, rfl, hst1, by decide, by decide, by omega, fun r H1 hr o hst2 => ?_⟩
  have hp1 := off_sq hps o upd_same
  have hw : ∃ j : Nat, [V.int 1, .int 1, .int 2, .int 3, .int 5, .int 8][r]? = some (.int (j : Int)) ∧ 0 < j ∧ j ≤ 8 := by
    have hr' : r < 6 := by omega
    match r, hr' with
    | 0, _ => exact ⟨1, rfl, by decide, by decide⟩
    | 1, _ => exact ⟨1, rfl, by decide, by decide⟩
    | 2, _ => exact ⟨2, rfl, by decide, by decide⟩
    | 3, _ => exact ⟨3, rfl, by decide, by decide⟩
    | 4, _ => exact ⟨5, rfl, by decide, by decide⟩
    | 5, _ => exact ⟨8, rfl, by decide, by decide⟩
  obtain ⟨j, hj, hj0, hj8⟩ := hw
  refine ⟨p, _, _, _, rfl, rfl, SqL.of hp1, atI_nat hj, ?_⟩
  refine gn2 ?_
  refine ret ?_
  refine ⟨⟨_, rfl⟩, ?_⟩
  refine ⟨_, rfl, _, rfl, by omega, by omega, fun D hD => ?_⟩
  have hDs := hst2.new hD
  have oH1 : Same (Off [s, l] H) (Off [s, l] H1) := (off_mono e1).trans o
  refine lcA (H0 := Off [s, l] H1) walk_range (fun i zs H' => StK H' s l (n + 1 + i) ∧ ∃ cs : List Nat, zs = cs.map (fun c => V.str ⟨#[c]⟩) ∧ cs.length = i ∧ ∀ c ∈ cs, c ∈ letters.cps.toList) off_le hD (small_lt (by omega)) ?_ ?_ ?_ (fun _ _ => trivial) ?_ ?_
  · rintro i zs H' ⟨_, cs, rfl, h, _⟩
    rw [List.length_map]
    omega
  · rintro i zs H' H'' e ⟨⟨h0, xs, a, c, d, h1, h2, r⟩, h3⟩
    exact ⟨⟨h0, xs, a, c, d, e _ _ (fun z => hDs (by simp [z])) h1, e _ _ (fun z => hDs (by simp [z])) h2, r⟩, h3⟩
  · exact ⟨hst2.upd hDs, [], rfl, rfl, fun _ z => absurd z (by simp)⟩
  · rintro i y H2 H3 zs hi e hD0 hDz ⟨hst3, cs, rfl, hcl, hcs⟩ ⟨rfl, rfl⟩ R R' hR hR'
    refine gn ⟨rfl, yesT ?_⟩
    refine ⟨_, rfl, s, l, n + 1 + i, .str letters, chrs letters, rfl, hst3, .inr ⟨letters, rfl, rfl⟩, by decide +kernel, by decide +kernel, by omega, fun y H4 hy o4 hst4 => ?_⟩
    obtain ⟨c, hc, rfl⟩ := List.mem_map.mp hy
    refine hR _ _ (fun x o' hx => ?_) (off_sq hDs o4 hDz) ⟨hst4.mono (by omega), cs ++ [c], by rw [List.map_append]; rfl, by simp [hcl], fun d hd => ?_⟩
    · have h0 : x ∉ [s, l] := fun z => by rw [off_in z] at hx; cases hx
      exact off_sq h0 o4 (e x o' hx)
    · rcases List.mem_append.mp hd with q | q
      · exact hcs d q
      · rw [List.mem_singleton.mp q]; exact hc
  · rintro zs H2 e hDz ⟨hst3, cs, rfl, hcl, hcs⟩
    have hcl' : cs.length = j := by omega
    refine ⟨"", D, cs.map fun c => (⟨#[c]⟩ : Str), rfl, rfl, .inl (SqL.of (by rw [hDz, List.map_map]; rfl)), ?_, ?_⟩
    · have e1 : (List.map (fun x => x.length) (List.map (fun c => (⟨#[c]⟩ : Str)) cs)).sum = cs.length := by
        clear hcl hcs hDz hcl'
        induction cs with
        | nil => rfl
        | cons c cs ih =>
          rw [List.map_cons, List.map_cons, List.sum_cons, ih, List.length_cons]
          show 1 + _ = _
          omega
      rw [e1, List.length_map]
      show cs.length + cs.length * 0 ≤ _
      omega
    · refine k _ _ (glue_name hcs (by omega) (by omega)) ?_ (hst3.mono (by omega))
      refine oH1.trans fun x o' hx => ?_
      have h0 : x ∉ [s, l] := fun z => by rw [off_in z] at hx; cases hx
      rw [off_at h0]
      exact e x o' hx
end
end K25

namespace K25
open PySem PySem.Spec PyProof.Rows L2
section
variable {P : Program} {w : World} {K : PySem.W.Frag} {mg : Str → Option Value} {base : Heap} {C : Addr}
/-! ### unlike names -/
def jq (c : Nat) : Str := (⟨#[c]⟩ : Str) ++ "jq"
def abcs : Str := "abcdefghijklmnop"
def jqs : List Str := abcs.cps.toList.map jq
theorem jqs_nd : jqs.Nodup := by decide +kernel
theorem jqs_len : jqs.length = 16 := by decide +kernel
def nameB (x : Str) : Bool := decide (0 < x.length) && (decide (x.length ≤ 40) && x.cps.toList.all fun c => decide (c ∈ signs.cps.toList))
theorem nameB_ok {x : Str} (h : nameB x = true) : NameOk x := by
  unfold nameB at h
  obtain ⟨h1, h2⟩ := (Bool.and_eq_true _ _).mp h
  obtain ⟨h2, h3⟩ := (Bool.and_eq_true _ _).mp h2
  exact ⟨of_decide_eq_true h1, of_decide_eq_true h2, fun c hc => of_decide_eq_true (List.all_eq_true.mp h3 c hc)⟩
theorem jqs_all : jqs.all nameB = true := by decide +kernel
theorem jqs_ok : ∀ x ∈ jqs, NameOk x := fun x hx => nameB_ok (List.all_eq_true.mp jqs_all x hx)
theorem nd_sub_len {α : Type} [DecidableEq α] : ∀ {l m : List α}, l.Nodup → (∀ x ∈ l, x ∈ m) → l.length ≤ m.length
  | [], _, _, _ => Nat.zero_le _
  | x :: l, m, hn, hs => by
    rw [List.nodup_cons] at hn
    have hx := hs x List.mem_cons_self
    have h1 := nd_sub_len (l := l) (m := m.erase x) hn.2 fun y hy => (List.mem_erase_of_ne (fun z : y = x => hn.1 (by rw [← z]; exact hy))).mpr (hs y (List.mem_cons_of_mem _ hy))
    have h2 := List.length_erase_of_mem hx
    have h3 := List.length_pos_of_mem hx
    rw [List.length_cons]
    omega
theorem spare_new {xs : List Str} (h : xs.length ≤ 15) (x : Str) : (x :: jqs).filter (fun z => !decide (z ∈ xs)) ≠ [] := by
  intro e
  have h1 : ∀ z ∈ jqs, z ∈ xs := fun z hz => Classical.byContradiction fun n => by
    have : z ∈ (x :: jqs).filter (fun z => !decide (z ∈ xs)) := List.mem_filter.mpr ⟨List.mem_cons_of_mem _ hz, by simp [n]⟩
    rw [e] at this
    simp at this
  have h2 := nd_sub_len jqs_nd h1
  rw [jqs_len] at h2
  omega
def spNames : Sp := fun vs H Q _ => ∃ (s l : Addr) (m : Int) (n : Nat), vs = [.ref s, .int m] ∧ StK H s l n ∧ 0 ≤ m ∧ m ≤ 7 ∧ n ≤ 700000 ∧
  ∀ (p : Addr) (xs : List Str) H', H p = none → xs.Nodup → (∀ x ∈ xs, NameOk x) → (xs.length : Int) = m → H' p = some (.lst (xs.map V.str)) → Same (Off [s, l] H) (Off [s, l] H') → StK H' s l (n + 100) → Q (.ref p) H'
abbrev N_l_names : List Str := ["_law_stream", "_law_many", "_law_found", "_law_k", "_law_spare", "_law_letter", "_law_x"]
theorem sc_l_names : FnScope N_l_names ["_law_stream", "_law_many"] (defScope s_l_names) := ⟨rfl, rfl, rfl, by decide +kernel, rfl, by decide +kernel, by decide +kernel⟩
theorem cal_l_names (T : Txt K mg C) (F : Has K mg "_law_names" s_l_names) (c_l_name : Cal P w K mg base "_law_name" 3 ["_law_stream"] spName) : Cal P w K mg base "_law_names" 4 ["_law_stream", "_law_many"] spNames := by
  refine F.cal sc_l_names (fun vs H Q E h => by obtain ⟨s, l, m, n, rfl, _⟩ := h; rfl) (fun _ _ _ _ _ _ us hl => match us, hl with | [_, _], _ => rfl) (fun fa cdv Ar outer s0 H vs Q E hr h => ?_)
  obtain ⟨s, l, m, n, rfl, hst, hm0, hm7, hn, k⟩ := h
  refine ⟨_, pss_cons (ps_set (i := 2) sc_l_names.nd rfl (Or.inr rfl) (pe_lst pa_nil))
    (pss_cons (ps_for PassesOwn.never rfl (pi_range1 (by rfl) T.range (pa_cons (pv 1) pa_nil)) (pg_name (i := 3) sc_l_names.nd rfl (Or.inl rfl)) (pss_cons (ps_set (i := 4) sc_l_names.nd rfl (Or.inl rfl) (pe_op op_cat (pe_lst (pa_cons (pe_callC c_l_name (hr.mono (by decide)) (by rfl) (pa_cons (pv 0) pa_nil)) pa_nil)) (pe_lc (own := [("_law_letter", 5)]) rfl sc_l_names.nd (pi_str pe_str) (blkOk_by (N := N_l_names) (sc := defScope s_l_names) (by decide +kernel)) (fun _ _ _ _ _ => (pg_name (i := 5) sc_l_names.nd rfl (Or.inl rfl))) (fun _ _ _ _ _ => pts_nil) (fun _ _ _ _ _ => (pe_op op_add_str (pv 5) pe_str)))))
    (pss_one (ps_expr (pem K PySem.F.plainAttrs_list PySem.F.slot_list_append PySem.F.type_list_append mt_append (pv 2) (pa_cons (pe_ix (ixL K) (pe_lc (own := [("_law_x", 6)]) rfl sc_l_names.nd (pilist K (pv 4)) (blkOk_by (N := N_l_names) (sc := defScope s_l_names) (by decide +kernel)) (fun _ _ _ _ _ => (pg_name (i := 6) sc_l_names.nd rfl (Or.inl rfl))) (fun _ _ _ _ _ => (pts_one (pt_cmpR (niQ K) (pv 6) (pv 2) rfl))) (fun _ _ _ _ _ => (pv 6))) pe_int (fun _ _ => rfl)) pa_nil))))))
    (pss_one (ps_ret (pv 2)))), ?_⟩
  refine ⟨Nat.zero_le _, fun p hp => gn (sq ?_)⟩
  have hps := hst.new hp
  have e1 : Same (Off [s, l] H) (Off [s, l] (upd H p (.lst []))) := off_mono (Same.new hp)
  refine for_rng (val_var rfl) ⟨hm0, by omega⟩ (fun i σ H1 => ∃ v3 v4 v5 v6 xs, σ = [some (.ref s), some (.int m), some (.ref p), v3, v4, v5, v6] ∧ StK H1 s l (n + 10 * i) ∧ H1 p = some (.lst (xs.map V.str)) ∧ xs.Nodup ∧ (∀ x ∈ xs, NameOk x) ∧ xs.length = i ∧ Same (Off [s, l] H) (Off [s, l] H1))
    ⟨none, none, none, none, [], rfl, hst.upd hps, upd_same, List.nodup_nil, fun _ z => absurd z (by simp), rfl, e1⟩ ?_ ?_
  · rintro i σ H1 hi ⟨v3, v4, v5, v6, xs, rfl, hst1, hp1, hnd, hok, hlen, o1⟩
    refine gn ?_
    refine sq ?_
    refine asg ?_
    refine opn ?_
    refine ac ?_
    refine ⟨_, rfl, s, l, n + 10 * i, rfl, hst1, by omega, fun x H2 hx o2 hst2 => ?_⟩
    have hp2 := off_sq hps o2 hp1
    refine ⟨by show 1 ≤ sizeLine; decide, fun q hq => ?_⟩
    have e3 := Same.new (o := .lst [.str x]) hq
    have hp3 := e3 _ _ hp2
    refine ⟨abcs, rfl, fun D hD => ?_⟩
    refine lcV (walk_str (z := abcs)) (fun _ => true) (fA jqs V.str) (Same.refl _) hD (by show 16 < sizeLine; decide) (fun _ _ => trivial) ?_ (fun H4 e4 h4 => ?_)
    · rintro j y H4 H5 hj e4 ⟨rfl, c, hc, rfl⟩ R R' hR hR'
      have hj2 : jqs[j]? = some (jq c) := by
        unfold jqs
        rw [List.getElem?_map, Array.getElem?_toList, hc]
        rfl
      rw [fA_eq hj2] at hR
      refine gn ⟨rfl, yesT ?_⟩
      exact ⟨_, rfl, _, _, rfl, rfl, by show 3 ≤ sizeLine; decide, hR rfl _ (Same.refl _)⟩
    have hg : gath (fun _ => true) (fA jqs V.str) abcs.cps.size = jqs.map V.str := by
      rw [show abcs.cps.size = jqs.length from rfl, gath_map]
    rw [hg] at h4
    refine ⟨q, D, _, _, rfl, rfl, e4 _ _ upd_same, h4, by rw [List.length_map, jqs_len]; show 1 + 16 ≤ sizeLine; decide, fun p5 hp5 => ?_⟩
    have e5 := Same.new (o := .lst ([.str x] ++ jqs.map V.str)) hp5
    have e35 := (e3.trans e4).trans e5
    have hp5' := e35 _ _ hp2
    have h5 : upd H4 p5 (.lst ([.str x] ++ jqs.map V.str)) p5 = some (.lst ((x :: jqs).map V.str)) := upd_same
    have hst5 := hst2.same e35
    generalize upd H4 p5 (.lst ([.str x] ++ jqs.map V.str)) = H5 at h5 e35 hp5' hst5
    refine gn2 ?_
    refine drop ?_
    refine ⟨_, rfl, .inl ⟨rfl, _, SqL.of hp5'⟩, ac ?_⟩
    refine opn ?_
    refine lc_lst (cA (x :: jqs) fun z => !decide (z ∈ xs)) (fA (x :: jqs) V.str) (val_var rfl) h5 (by rw [List.length_map, List.length_cons, jqs_len]; decide) ?_ fun p6 H6 hp6 e6 h6 => ?_
    · rintro j y H6 hj e6 R R' hR hR'
      rw [List.getElem?_map] at hj
      obtain ⟨z, hz, rfl⟩ := Option.map_eq_some_iff.mp hj
      rw [cA_eq hz] at hR hR'
      rw [fA_eq hz] at hR
      refine gn ⟨rfl, ?_⟩
      refine ⟨_, rfl, _, rfl, p, _, rfl, .inl (SqL.of (e6 _ _ hp5')), rfl, flat_strs _, !decide (z ∈ xs), ?_, ?_⟩
      · show V.bl (!inV (.str z) (xs.map V.str)) = _
        rw [inV_str]
      · cases hb : !decide (z ∈ xs) with
        | true => exact iteT ⟨_, rfl, hR hb _ (Same.refl _)⟩
        | false => exact iteF (hR' hb _ (Same.refl _))
    rw [List.length_map, gath_of] at h6
    have hne := spare_new (xs := xs) (by omega) x
    cases hf : (x :: jqs).filter (fun z => !decide (z ∈ xs)) with
    | nil => exact absurd hf hne
    | cons z zs =>
      rw [hf] at h6
      have hz : z ∈ (x :: jqs).filter (fun z => !decide (z ∈ xs)) := by rw [hf]; exact List.mem_cons_self
      obtain ⟨hz1, hz2⟩ := List.mem_filter.mp hz
      have hz3 : z ∉ xs := by simpa using hz2
      have hzo : NameOk z := by
        rcases List.mem_cons.mp hz1 with q | q
        · rw [q]; exact hx
        · exact jqs_ok z q
      refine ⟨p6, _, 0, _, rfl, rfl, SqL.of h6, at_0', ?_⟩
      have hp6' := e6 _ _ hp5'
      refine ⟨p, _, _, rfl, rfl, hp6', by rw [List.length_map]; exact small_lt (by omega), ?_⟩
      refine ⟨_, _, _, _, xs ++ [z], rfl, ((hst5.same e6).upd hps).mono (by omega), by rw [upd_same, List.map_append]; rfl, nodup_snoc hnd hz3, ?_, by simp [hlen], ?_⟩
      · intro y hy
        rcases List.mem_append.mp hy with q | q
        · exact hok y q
        · rw [List.mem_singleton.mp q]; exact hzo
      · have o3 := ((o1.trans o2).trans (off_mono (e35.trans e6)))
        intro a o ha
        have h0 : a ∉ [s, l] := fun z => by rw [off_in z] at ha; cases ha
        have q := o3 a o ha
        rw [off_at h0] at ha q ⊢
        rw [upd_ne (ne_of_none ha hp)]
        exact q
  · rintro σ H1 ⟨v3, v4, v5, v6, xs, rfl, hst1, hp1, hnd, hok, hlen, o1⟩
    exact ⟨_, rfl, k p xs H1 hp hnd hok (by omega) hp1 o1 (hst1.mono (by omega))⟩
/-! ### the arcs -/
theorem off_ne {H : Hp} {s l q : Addr} {n : Nat} {o : HO} (h : StK H s l n) (hq : H q = some o) (ho : ∀ xs, o ≠ .lst xs) : q ∉ [s, l] := by
  obtain ⟨h0, xs, a, c, d, h1, h2, r⟩ := h
  intro z
  rcases List.mem_cons.mp z with e | z
  · rw [e, h1] at hq; exact ho _ (Option.some.inj hq).symm
  · rw [List.mem_singleton.mp z, h2] at hq; exact ho _ (Option.some.inj hq).symm
theorem off_tup {H H' : Hp} {s l q : Addr} {n : Nat} {xs : List V} (h : StK H s l n) (e : Same (Off [s, l] H) (Off [s, l] H')) (hq : H q = some (.tup xs)) : H' q = some (.tup xs) :=
  off_sq (off_ne h hq fun _ z => by cases z) e hq
theorem off_dK {H H' : Hp} {s l q : Addr} {n : Nat} {xs : List (Key × V)} (h : StK H s l n) (e : Same (Off [s, l] H) (Off [s, l] H')) (hq : H q = some (.dK xs)) : H' q = some (.dK xs) :=
  off_sq (off_ne h hq fun _ z => by cases z) e hq
theorem off_frz {H H' : Hp} {s l q : Addr} {n : Nat} {u : HO} {o : Obj} (h : StK H s l n) (e : Same (Off [s, l] H) (Off [s, l] H')) (hq : H q = some (.frz o u)) : H' q = some (.frz o u) :=
  off_sq (off_ne h hq fun _ z => by cases z) e hq
theorem off_arcs {H H' : Hp} {s l : Addr} {n : Nat} {kvs : List (Key × V)} {A : List (Arc Str)} (h : StK H s l n) (e : Same (Off [s, l] H) (Off [s, l] H')) (ha : ArcsK H kvs A) : ArcsK H' kvs A :=
  ha.mono fun _ _ z => off_tup h e z
theorem ArcsK.snoc {H : Hp} {kvs : List (Key × V)} {A : List (Arc Str)} (h : ArcsK H kvs A) {a : Arc Str} {t : Addr} (ht : H t = some (.tup [.str a.2.1, .str a.2.2])) : ArcsK H (kvs ++ [(Sum.inr a.1, .ref t)]) (A ++ [a]) :=
  paired_app h (.cons ⟨rfl, t, rfl, ht⟩ .nil)
theorem ArcsK.none {H : Hp} {kvs : List (Key × V)} {A : List (Arc Str)} (h : ArcsK H kvs A) {x : Str} (hx : x ∉ A.map (·.1)) : valV kvs (Sum.inr x) = .none := by
  unfold ArcsK at h
  induction h with
  | nil => rfl
  | @cons kv a _ _ h _ ih =>
    rw [List.map_cons, List.mem_cons, not_or] at hx
    rw [valV_neg (fun z => hx.1 (Sum.inr.inj (h.1.symm.trans z)).symm)]
    exact ih hx.2
theorem pick_node {σ : L2.St} {H : Hp} {s l nd : Addr} {n : Nat} {nds : List Str} {j : Int} {ti : TE} {Q : VK} (h0 : σ[0]? = some (some (.ref s))) (h2 : σ[2]? = some (some (.ref nd))) (hi : ∀ H, Val ti σ H (.int j)) (hj : 0 ≤ j) (hst : StK H s l n) (hn : n ≤ 700000)
    (hnd : nd ∉ [s, l]) (hh : H nd = some (.lst (nds.map V.str))) (hl0 : 0 < nds.length) (hl1 : nds.length ≤ 7) (k : ∀ y H', y ∈ nds → Same (Off [s, l] H) (Off [s, l] H') → StK H' s l (n + 2) → Q (.str y) H') :
    tIf (tTest (tOp (rI0 fun i j => V.bl (decide (j < i))) (tCall spDraw [] E0 (tCons (tVar 0) (tCons (tC (.int 3)) tNil))) (tC (.int 0)))) (tOp (rIxL K) (tVar 2) (tOp (rI (fun _ j => 0 < j) fun i j => V.int (i % j)) ti (tCB (rLenK K) (tCons (tVar 2) tNil)))) (tCall spPick [] E0 (tCons (tVar 0) (tCons (tVar 2) tNil))) σ H Q := by
  refine ⟨_, h0, s, l, 3, n, rfl, hst, by decide, by decide, by omega, fun r H1 hr o1 hst1 => ?_⟩
  have h1 := off_sq hnd o1 hh
  refine ⟨_, _, rfl, rfl, decide ((0 : Int) < (r : Int)), rfl, ?_⟩
  by_cases q : (0 : Int) < (r : Int)
  · rw [decide_eq_true q]
    refine iteT ?_
    refine ⟨_, h2, hi _ _ ⟨_, h2, nd, _, rfl, .inl (SqL.of h1), ?_⟩⟩
    rw [List.length_map]
    have hl : (0 : Int) < (nds.length : Int) := by omega
    refine ⟨_, _, rfl, rfl, hl, ?_⟩
    have e1 : (((j % (nds.length : Int)).toNat : Nat) : Int) = j % (nds.length : Int) := Int.toNat_of_nonneg (Int.emod_nonneg _ (by omega))
    have hlt : (j % (nds.length : Int)).toNat < nds.length := by
      have := Int.emod_lt_of_pos j hl
      omega
    have ha : atI (nds.map V.str) (((j % (nds.length : Int)).toNat : Nat) : Int) = some (.str nds[(j % (nds.length : Int)).toNat]) := atI_nat (by rw [List.getElem?_map, List.getElem?_eq_getElem hlt]; rfl)
    have ha : ∃ y ∈ nds, atI (nds.map V.str) (j % (nds.length : Int)) = some (.str y) := ⟨_, List.getElem_mem hlt, by rw [e1] at ha; exact ha⟩
    obtain ⟨y, hy, ha⟩ := ha
    exact ⟨nd, _, _, _, rfl, rfl, SqL.of h1, ha, k _ _ hy o1 (hst1.mono (by omega))⟩
  · rw [decide_eq_false q]
    refine iteF ?_
    refine ⟨_, h0, _, h2, s, l, n + 1, _, nds.map V.str, rfl, hst1, .inl ⟨nd, rfl, hnd, h1⟩, by rw [List.length_map]; exact hl0, by rw [List.length_map]; omega, by omega, fun y H2 hy o2 hst2 => ?_⟩
    obtain ⟨z, hz, rfl⟩ := List.mem_map.mp hy
    exact k z H2 hz (o1.trans o2) (hst2.mono (by omega))
def ArcOk (a : Arc Str) : Prop := NameOk a.1 ∧ NameOk a.2.1 ∧ NameOk a.2.2
def spArcs : Sp := fun vs H Q _ => ∃ (s l : Addr) (n : Nat), vs = [.ref s, .int 7] ∧ StK H s l n ∧ n ≤ 600000 ∧
  ∀ (d : Addr) (kvs : List (Key × V)) (A : List (Arc Str)) H', H d = none → H' d = some (.dK kvs) → ArcsK H' kvs A → Names A → 2 ≤ A.length → A.length ≤ 7 → (∀ a ∈ A, ArcOk a) → Same (Off [s, l] H) (Off [s, l] H') → StK H' s l (n + 1000) → Q (.ref d) H'
abbrev N_l_arcs : List Str := ["_law_stream", "_law_most", "_law_nodes", "_law_names_here", "_law_found", "_law_at", "_law_name_here", "_law_one", "_law_other"]
theorem sc_l_arcs : FnScope N_l_arcs ["_law_stream", "_law_most"] (defScope s_l_arcs) := ⟨rfl, rfl, rfl, by decide +kernel, rfl, by decide +kernel, by decide +kernel⟩
theorem cal_l_arcs (T : Txt K mg C) (F : Has K mg "_law_c_arcs" s_l_arcs) (c_l_draw : Cal P w K mg base "_law_draw" 1 ["_law_stream", "_law_many"] spDraw) (c_l_pick : Cal P w K mg base "_law_pick" 2 ["_law_stream", "_law_some"] spPick)
    (c_l_names : Cal P w K mg base "_law_names" 4 ["_law_stream", "_law_many"] spNames) : Cal P w K mg base "_law_c_arcs" 5 ["_law_stream", "_law_most"] spArcs := by
  refine F.cal sc_l_arcs (fun vs H Q E h => by obtain ⟨s, l, n, rfl, _⟩ := h; rfl) (fun _ _ _ _ _ _ us hl => match us, hl with | [_, _], _ => rfl) (fun fa cdv Ar outer s0 H vs Q E hr h => ?_)
  obtain ⟨s, l, n, rfl, hst, hn, k⟩ := h
  refine ⟨_, pss_cons (ps_set (i := 2) sc_l_arcs.nd rfl (Or.inl rfl) (pe_callC c_l_names (hr.mono (by decide)) (by rfl) (pa_cons (pv 0) (pa_cons (pe_op op_add pe_int (pe_callC c_l_draw (hr.mono (by decide)) (by rfl) (pa_cons (pv 0) (pa_cons pe_int pa_nil)))) pa_nil))))
    (pss_cons (ps_par (i := 3) (j := 4) rfl sc_l_arcs.nd rfl rfl (by decide) rfl rfl (pa_cons (pe_callC c_l_names (hr.mono (by decide)) (by rfl) (pa_cons (pv 0) (pa_cons (pe_op op_add pe_int (pe_callC c_l_draw (hr.mono (by decide)) (by rfl) (pa_cons (pv 0) (pa_cons (pe_op op_sub (pv 1) pe_int) pa_nil)))) pa_nil))) (pa_cons pe_dnewK pa_nil)) (by rfl))
    (pss_cons (ps_for PassesOwn.never rfl (pienum K (by rfl) T.enumerate (pa_cons (pv 3) pa_nil)) (pgtup K (n := 2) rfl (pgs_cons (pg_name (i := 5) sc_l_arcs.nd rfl (Or.inl rfl)) (pgs_cons (pg_name (i := 6) sc_l_arcs.nd rfl (Or.inl rfl)) pgs_nil))) (pss_cons (ps_set (i := 7) sc_l_arcs.nd rfl (Or.inl rfl) (pe_ifExp (pt_cmpR op_gt (pe_callC c_l_draw (hr.mono (by decide)) (by rfl) (pa_cons (pv 0) (pa_cons pe_int pa_nil))) pe_int (nomark _)) (pe_ix (ixL K) (pv 2) (pe_op op_mod (pv 5) (pe_callB (lenK K) (by rfl) T.len bt_len (pa_cons (pv 2) pa_nil))) (fun _ _ => rfl)) (pe_callC c_l_pick (hr.mono (by decide)) (by rfl) (pa_cons (pv 0) (pa_cons (pv 2) pa_nil)))))
    (pss_cons (ps_set (i := 8) sc_l_arcs.nd rfl (Or.inl rfl) (pe_ifExp (pt_cmpR op_gt (pe_callC c_l_draw (hr.mono (by decide)) (by rfl) (pa_cons (pv 0) (pa_cons pe_int pa_nil))) pe_int (nomark _)) (pe_ix (ixL K) (pv 2) (pe_op op_mod (pe_op op_add (pv 5) pe_int) (pe_callB (lenK K) (by rfl) T.len bt_len (pa_cons (pv 2) pa_nil))) (fun _ _ => rfl)) (pe_callC c_l_pick (hr.mono (by decide)) (by rfl) (pa_cons (pv 0) (pa_cons (pv 2) pa_nil)))))
    (pss_one (ps_dput (hu_of hr) (pv 4) (pv 6) (pe_tup (pa_cons (pv 7) (pa_cons (pv 8) pa_nil))) rfl)))))
    (pss_one (ps_ret (pv 4))))), ?_⟩
  refine sq ?_
  refine asg ?_
  refine ⟨_, rfl, _, rfl, s, l, 4, n, rfl, hst, by decide, by decide, by omega, fun r H1 hr o1 hst1 => ?_⟩
  refine ⟨_, _, rfl, rfl, ?_⟩
  refine ⟨s, l, 2 + (r : Int), n + 1, rfl, hst1, by omega, by omega, by omega, fun nd nds H2 hnd0 hnds hndo hndl hnd2 o2 hst2 => ?_⟩
  have hnds' : nd ∉ [s, l] := hst1.new hnd0
  refine gn2 ?_
  refine sq ?_
  refine par (ac ?_)
  refine ⟨_, rfl, _, rfl, _, rfl, _, _, rfl, rfl, ?_⟩
  refine ⟨s, l, 7 - 1, n + 1 + 100, rfl, hst2, by decide, by decide, by omega, fun r2 H3 hr2 o3 hst3 => ?_⟩
  refine ⟨_, _, rfl, rfl, ?_⟩
  refine ⟨s, l, 2 + (r2 : Int), n + 1 + 100 + 1, rfl, hst3, by omega, by omega, by omega, fun nm nms H4 hnm0 hnms hnmo hnml hnm4 o4 hst4 => ?_⟩
  have hnms' : nm ∉ [s, l] := hst3.new hnm0
  refine fun d hd => ⟨_, _, rfl, ?_⟩
  have hds := hst4.new hd
  have hnd4 := off_sq hnds' (o3.trans o4) hnd2
  have o04 := ((o1.trans o2).trans o3).trans o4
  have e5 := Same.new (o := .dK []) hd
  refine sq ?_
  have hd0 : H d = none := by
    cases q : H d with
    | none => rfl
    | some u =>
      have := off_sq hds o04 q
      rw [this] at hd
      cases hd
  have ndl : 0 < nds.length ∧ nds.length ≤ 7 := by omega
  refine for_en (xs := nms.map V.str) (val_var rfl) (SqL.of (e5 _ _ hnm4)) (fun i σ H1 => ∃ v5 v6 v7 v8 kvs A, σ = [some (.ref s), some (.int 7), some (.ref nd), some (.ref nm), some (.ref d), v5, v6, v7, v8] ∧ StK H1 s l (n + 300 + 10 * i) ∧ H1 nd = some (.lst (nds.map V.str)) ∧ H1 nm = some (.lst (nms.map V.str)) ∧ H1 d = some (.dK kvs) ∧ ArcsK H1 kvs A ∧ A.map (·.1) = nms.take i ∧ (∀ a ∈ A, ArcOk a) ∧ Same (Off [s, l] H) (Off [s, l] H1))
    ⟨none, none, none, none, [], [], rfl, (hst4.upd hds).mono (by omega), e5 _ _ hnd4, e5 _ _ hnm4, upd_same, .nil, rfl, (fun _ z => absurd z (by simp)), o04.trans (off_mono e5)⟩ (fun i σ H1 _ ⟨_, _, _, _, _, _, _, _, _, h, _⟩ => SqL.of h) ?_ ?_
  · rintro i x t σ H1 hx ⟨v5, v6, v7, v8, kvs, A, rfl, hst1', hnd1, hnm1, hd1, hk1, hA1, hok1, ho1⟩ ht
    rw [List.getElem?_map] at hx
    obtain ⟨z, hz, rfl⟩ := Option.map_eq_some_iff.mp hx
    have hi7 : i < nms.length := (List.getElem?_eq_some_iff.mp hz).1
    have e6 := Same.new (o := .tup [.int (i : Nat), .str z]) ht
    refine ⟨t, _, rfl, SqT.of upd_same, rfl, _, _, rfl, gn ⟨_, _, rfl, gn ⟨rfl, ?_⟩⟩⟩
    have hst5 := hst1'.same e6
    have hnd5 := e6 _ _ hnd1
    have hnm5 := e6 _ _ hnm1
    have hd5 := e6 _ _ hd1
    have hk5 := hk1.same e6
    have ho5 := ho1.trans (off_mono (ds := [s, l]) e6)
    generalize upd H1 t (.tup [.int (i : Nat), .str z]) = H5 at hst5 hnd5 hnm5 hd5 hk5 ho5
    refine sq ?_
    refine asg ?_
    refine pick_node (j := (i : Int)) rfl rfl (fun _ => val_var rfl) (by omega) hst5 (by omega) hnds' hnd5 ndl.1 ndl.2 fun y1 H6 hy1 o6 hst6 => ?_
    refine gn2 ?_
    refine sq ?_
    refine asg ?_
    have hnd6 := off_sq hnds' o6 hnd5
    refine pick_node (j := (i : Int) + 1) rfl rfl (fun _ _ q => ⟨_, rfl, _, _, rfl, rfl, q⟩) (by omega) hst6 (by omega) hnds' hnd6 ndl.1 ndl.2 fun y2 H7 hy2 o7 hst7 => ?_
    refine gn2 ?_
    refine ⟨_, rfl, _, rfl, by show 2 ≤ sizeLine; decide, fun T hT => ?_⟩
    have e8 := Same.new (o := .tup [.str y1, .str y2]) hT
    have o67 := o6.trans o7
    have hd7 := off_dK hst6 o7 (off_dK hst5 o6 hd5)
    have hk7 := off_arcs hst6 o7 (off_arcs hst5 o6 hk5)
    have hA1' : z ∉ A.map (·.1) := by rw [hA1]; exact nodup_take_not hnms hz
    have hkl : kvs.length < sizeLine := by
      have h1 := hk1.len
      have h2 : A.length = (nms.take i).length := by rw [← hA1, List.length_map]
      have h3 := List.length_take_le' i nms
      exact small_lt (by omega)
    have hTs := hst7.new hT
    refine ⟨_, rfl, _, rfl, d, _, rfl, DPut.k (k := Sum.inr z) (e8 _ _ hd7) hkl, ?_⟩
    rw [putK_new _ (hk7.none hA1')]
    refine ⟨_, _, _, _, kvs ++ [(Sum.inr z, .ref T)], A ++ [(z, y1, y2)], rfl, ?_, ?_, ?_, upd_same, ?_, ?_, ?_, ?_⟩
    · exact ((hst7.upd hTs).upd hds).mono (by omega)
    · have q := e8 _ _ (off_sq hnds' o7 hnd6)
      rw [upd_ne (ne_of q (e8 _ _ hd7) (fun z => nomatch z))]
      exact q
    · have q := e8 _ _ (off_sq hnms' o67 hnm5)
      rw [upd_ne (ne_of q (e8 _ _ hd7) (fun z => nomatch z))]
      exact q
    · have q : ArcsK (upd H7 T (.tup [.str y1, .str y2])) (kvs ++ [(Sum.inr z, .ref T)]) (A ++ [(z, y1, y2)]) := (hk7.same e8).snoc (a := (z, y1, y2)) upd_same
      refine q.mono fun u xs hu => ?_
      rw [upd_ne (ne_of hu (e8 _ _ hd7) (fun z => nomatch z))]
      exact hu
    · rw [List.map_append, hA1, take_snoc hz]
      rfl
    · intro b hb
      rcases List.mem_append.mp hb with q | q
      · exact hok1 b q
      · rw [List.mem_singleton.mp q]
        exact ⟨hnmo z (mem_at hz), hndo y1 hy1, hndo y2 hy2⟩
    · have o8 := (ho5.trans o67).trans (off_mono e8)
      intro a o ha
      have h0 : a ∉ [s, l] := fun z => by rw [off_in z] at ha; cases ha
      have q := o8 a o ha
      rw [off_at h0] at ha q ⊢
      rw [upd_ne (ne_of_none ha hd0)]
      exact q
  · rintro σ H1 ⟨v5, v6, v7, v8, kvs, A, rfl, hst1', hnd1, hnm1, hd1, hk1, hA1, hok1, ho1⟩
    rw [List.take_of_length_le (by simp)] at hA1
    have hAl : A.length = nms.length := by rw [← hA1, List.length_map]
    refine ⟨_, rfl, k d kvs A H1 hd0 hd1 hk1 (by unfold Names; rw [hA1]; exact hnms) (by omega) (by omega) hok1 ho1 (hst1'.mono ?_)⟩
    rw [List.length_map]
    omega
/-! some of the names -/
def spSome : Sp := fun vs H Q _ => ∃ (s l q : Addr) (n : Nat) (xs : List Str), vs = [.ref s, .ref q] ∧ StK H s l n ∧ q ∉ [s, l] ∧ H q = some (.lst (xs.map V.str)) ∧ xs.Nodup ∧ xs.length ≤ 100 ∧ n ≤ 700000 ∧
  ∀ (p : Addr) (zs : List Str) H', H p = none → zs.Nodup → (∀ z ∈ zs, z ∈ xs) → zs.length ≤ 100 → H' p = some (.lst (zs.map V.str)) → Same (Off [s, l] H) (Off [s, l] H') → StK H' s l (n + 200) → Q (.ref p) H'
abbrev N_l_some : List Str := ["_law_stream", "_law_names_here"]
theorem sc_l_some : FnScope N_l_some ["_law_stream", "_law_names_here"] (defScope s_l_some) := ⟨rfl, rfl, rfl, by decide +kernel, rfl, by decide +kernel, by decide +kernel⟩
theorem strs_of {xs : List Str} : ∀ {zs : List V}, (∀ z ∈ zs, z ∈ xs.map V.str) → ∃ ws : List Str, zs = ws.map V.str
  | [], _ => ⟨[], rfl⟩
  | z :: zs, h => by
    obtain ⟨ws, e⟩ := strs_of fun y hy => h y (List.mem_cons_of_mem _ hy)
    obtain ⟨x, _, ex⟩ := List.mem_map.mp (h z List.mem_cons_self)
    exact ⟨x :: ws, by rw [List.map_cons, ex, ← e]⟩
theorem str_inj : ∀ a b : Str, V.str a = V.str b → a = b := fun _ _ e => by cases e; rfl
theorem mem_strs {x : Str} {xs : List Str} (h : V.str x ∈ xs.map V.str) : x ∈ xs := by
  obtain ⟨y, hy, e⟩ := List.mem_map.mp h
  cases e
  exact hy
theorem nd_strs {xs : List Str} (h : xs.Nodup) : (xs.map V.str).Nodup := by
  induction xs with
  | nil => exact List.nodup_nil
  | cons x xs ih =>
    rw [List.nodup_cons] at h
    rw [List.map_cons, List.nodup_cons]
    exact ⟨fun z => h.1 (mem_strs z), ih h.2⟩
theorem strs_nd {xs : List Str} (h : (xs.map V.str).Nodup) : xs.Nodup := by
  induction xs with
  | nil => exact List.nodup_nil
  | cons x xs ih =>
    rw [List.map_cons, List.nodup_cons] at h
    rw [List.nodup_cons]
    exact ⟨fun z => h.1 (List.mem_map.mpr ⟨x, z, rfl⟩), ih h.2⟩
theorem cal_l_some (T : Txt K mg C) (F : Has K mg "_law_c_some" s_l_some) (c_l_draw : Cal P w K mg base "_law_draw" 1 ["_law_stream", "_law_many"] spDraw) (c_l_mixed : Cal P w K mg base "_law_mixed" 2 ["_law_stream", "_law_some"] spMixed) : Cal P w K mg base "_law_c_some" 3 ["_law_stream", "_law_names_here"] spSome := by
  refine F.cal sc_l_some (fun vs H Q E h => by obtain ⟨s, l, q, n, xs, rfl, _⟩ := h; rfl) (fun _ _ _ _ _ _ us hl => match us, hl with | [_, _], _ => rfl) (fun fa cdv Ar outer s0 H vs Q E hr h => ?_)
  obtain ⟨s, l, q, n, xs, rfl, hst, hq, hqq, hnd, hx100, hn, k⟩ := h
  refine ⟨_, pss_one (ps_ret (pe_slice (slL K) (pe_callC c_l_mixed (hr.mono (by decide)) (by rfl) (pa_cons (pv 0) (pa_cons (pv 1) pa_nil))) po_none (po_some (pe_callC c_l_draw (hr.mono (by decide)) (by rfl) (pa_cons (pv 0) (pa_cons (pe_op op_add (pe_callB (lenK K) (by rfl) T.len bt_len (pa_cons (pv 1) pa_nil)) pe_int) pa_nil)))))), ?_⟩
  refine ret ?_
  refine ⟨_, rfl, _, rfl, s, l, q, n, xs.map V.str, rfl, hst, hq, hqq, by rw [List.length_map]; exact hx100, by omega, fun p zs H1 hp hperm hp1 o1 hst1 => ?_⟩
  have hps := hst.new hp
  refine ⟨_, rfl, _, rfl, q, _, rfl, .inl (SqL.of (off_sq hq o1 hqq)), _, _, rfl, rfl, ?_⟩
  rw [List.length_map]
  rw [List.length_map] at hst1
  refine ⟨s, l, (xs.length : Int) + 1, n + xs.length, rfl, hst1, by omega, by omega, by omega, fun r H2 hr o2 hst2 => ?_⟩
  have hp2 := off_sq hps o2 hp1
  have hzl : zs.length = xs.length := by rw [hperm.length_eq, List.length_map]
  refine ⟨_, rfl, p, zs, rfl, SqL.of hp2, fun p3 hp3 => ?_⟩
  rw [cut_take (by omega)]
  obtain ⟨ws, rfl⟩ := strs_of fun z hz => hperm.mem_iff.mp hz
  have hwn : ws.Nodup := strs_nd (hperm.nodup_iff.mpr (nd_strs hnd))
  have e3 := Same.new (o := .lst ((ws.map V.str).take r)) hp3
  have hp0 : H p3 = none := by
    cases h : H p3 with
    | none => rfl
    | some u =>
      have := off_sq (hst2.new hp3) (o1.trans o2) h
      rw [this] at hp3
      cases hp3
  refine k p3 (ws.take r) _ hp0 (hwn.sublist (List.take_sublist _ _)) (fun z hz => ?_) ?_ (by rw [List.map_take]; exact upd_same) ((o1.trans o2).trans (off_mono e3)) ((hst2.same e3).mono (by omega))
  · exact mem_strs (hperm.mem_iff.mp (List.mem_map.mpr ⟨z, List.mem_of_mem_take hz, rfl⟩))
  · have := List.length_take_le' r ws
    rw [List.length_map] at hzl
    omega
end
end K25

namespace K25
open PySem PySem.Spec PyProof.Rows L2
section
variable {P : Program} {w : World} {K : PySem.W.Frag} {mg : Str → Option Value} {base : Heap} {C : Addr}
/-! ### same -/
def spSame : Sp := fun vs H Q _ => ∃ a b : Bool, vs = [.bl a, .bl b] ∧ ∀ H', Same H H' → Q (.bl (a == b)) H'
theorem kit_lt_bool : PySem.W.kitAny K (.type "bool") [.type "list", .type "tuple"] = some false :=
  kitAny_cons (kit_ty (b := "list") (r := false) (by decide +kernel)) (fun _ => kitAny_cons (kit_ty (b := "tuple") (r := false) (by decide +kernel)) (fun _ => rfl) (fun z => nomatch z)) (fun z => nomatch z)
theorem kit_bool_int : PySem.W.kitOne K (.type "bool") (.type "int") = some true := kit_ty (by decide +kernel)
theorem kit_bool_bool : PySem.W.kitOne K (.type "bool") (.type "bool") = some true := kit_ty (by decide +kernel)
abbrev N_l_same : List Str := ["_law_found", "_law_due", "_law_x", "_law_y"]
theorem sc_l_same : FnScope N_l_same ["_law_found", "_law_due"] (defScope s_l_same) := ⟨rfl, rfl, rfl, by decide +kernel, rfl, by decide +kernel, by decide +kernel⟩
theorem cal_l_same (T : Txt K mg C) (F : Has K mg "_law_same" s_l_same) : Cal P w K mg base "_law_same" 1 ["_law_found", "_law_due"] spSame := by
  refine F.cal sc_l_same (fun vs H Q E h => by obtain ⟨a, b, rfl, _⟩ := h; rfl) (fun _ _ _ _ _ _ us hl => match us, hl with | [_, _], _ => rfl) (fun fa cdv Ar outer s0 H vs Q E hr h => ?_)
  obtain ⟨a, b, rfl, k⟩ := h
  refine ⟨_, pss_cons (ps_if (pt_val (pe_callB (isiTK K) (by rfl) T.isi bt_isinstance (pa_cons (pv 1) (pa_cons (pe_tup (pa_cons (pe_bltn (v := .ty "list") (by rfl) T.list bt_list rfl) (pa_cons (pe_bltn (v := .ty "tuple") (by rfl) T.tuple bt_tuple rfl) pa_nil))) pa_nil)))) (pss_cons ps_never
    (pss_one ps_never)) pss_nil)
    (pss_cons (ps_if (pt_val (pe_callB (isiK K) (by rfl) T.isi bt_isinstance (pa_cons (pv 1) (pa_cons (pe_bltn (v := .ty "int") (by rfl) T.int bt_int rfl) pa_nil)))) (pss_one (ps_ret (pe_and (pe_callB (isiK K) (by rfl) T.isi bt_isinstance (pa_cons (pv 0) (pa_cons (pe_bltn (v := .ty "int") (by rfl) T.int bt_int rfl) pa_nil))) (pe_and (pe_cmpR op_eq (pe_callB (isiK K) (by rfl) T.isi bt_isinstance (pa_cons (pv 0) (pa_cons (pe_bltn (v := .ty "bool") (by rfl) T.bool bt_bool rfl) pa_nil))) (pe_callB (isiK K) (by rfl) T.isi bt_isinstance (pa_cons (pv 1) (pa_cons (pe_bltn (v := .ty "bool") (by rfl) T.bool bt_bool rfl) pa_nil))) (nomark _)) (pe_one (pe_cmpR op_eq (pv 0) (pv 1) (nomark _))))))) pss_nil)
    (pss_one ps_never)), ?_⟩
  refine ⟨_, rfl, by show 2 ≤ sizeLine; decide, fun p hp => ?_⟩
  have e := Same.new (o := .tup [.ty "list", .ty "tuple"]) hp
  refine ⟨_, p, _, _, _, _, rfl, upd_same, .cons (.ty _) (.cons (.ty _) .nil), .base (.bl _), kit_lt_bool, false, rfl, iteF ?_⟩
  refine ⟨_, rfl, _, _, _, _, _, rfl, .ty _, .base (.bl _), kit_bool_int, true, rfl, iteT ?_⟩
  refine ⟨_, rfl, _, _, _, _, _, rfl, .ty _, .base (.bl _), kit_bool_int, true, rfl, iteT ?_⟩
  refine ⟨_, rfl, _, _, _, _, _, rfl, .ty _, .base (.bl _), kit_bool_bool, _, rfl, _, _, _, _, _, rfl, .ty _, .base (.bl _), kit_bool_bool, rfl, true, rfl, iteT ?_⟩
  refine ⟨_, rfl, _, rfl, rfl, ?_⟩
  have ed : V.bl (decide (V.bl a = V.bl b)) = V.bl (a == b) := by cases a <;> cases b <;> rfl
  rw [ed]
  exact k _ e
/-! ### all small worlds -/
theorem wkv_snoc {A : List (Arc Str)} {a : Arc Str} (h : a.1 ∉ A.map (·.1)) (f : Str → Int) (m : Int) : wkv A f ++ [(Sum.inr a.1, .int m)] = wkv (A ++ [a]) (fun n => if n = a.1 then m else f n) := by
  unfold wkv
  rw [List.map_append]
  have e : (List.map (fun b : Arc Str => ((Sum.inr b.1 : Key), V.int (if b.1 = a.1 then m else f b.1))) [a]) = [(Sum.inr a.1, .int m)] := by
    rw [List.map_cons, List.map_nil, if_pos rfl]
  rw [e]
  congr 1
  refine List.map_congr_left fun b hb => ?_
  show ((Sum.inr b.1 : Key), V.int (f b.1)) = (Sum.inr b.1, V.int (if b.1 = a.1 then m else f b.1))
  rw [if_neg (fun z => h (by rw [← z]; exact List.mem_map.mpr ⟨b, hb, rfl⟩))]
theorem merge_app : ∀ (more acc : List (Key × V)), ((acc ++ more).map (·.1)).Nodup → mergeK acc more = acc ++ more
  | [], acc, _ => by rw [List.append_nil]; rfl
  | kv :: more, acc, h => by
    have hk : valV acc kv.1 = none := by
      cases q : valV acc kv.1 with
      | none => rfl
      | some v =>
        have hm := valV_in q
        rw [List.map_append, List.nodup_append] at h
        exact absurd rfl (h.2.2 _ hm _ (by rw [List.map_cons]; exact List.mem_cons_self))
    have ih := merge_app more (acc ++ [kv]) (by rw [List.append_assoc]; exact h)
    show mergeK (putK acc kv.1 kv.2) more = _
    rw [putK_new _ hk, ih, List.append_assoc]
    rfl
theorem wkv_keys (A : List (Arc Str)) (f : Str → Int) : (wkv A f).map (·.1) = (A.map (·.1)).map Sum.inr := by
  unfold wkv
  rw [List.map_map, List.map_map]
  rfl
theorem nd_inr {xs : List Str} (h : xs.Nodup) : (xs.map (Sum.inr : Str → Key)).Nodup := by
  induction xs with
  | nil => exact List.nodup_nil
  | cons x xs ih =>
    rw [List.nodup_cons] at h
    rw [List.map_cons, List.nodup_cons]
    refine ⟨fun z => ?_, ih h.2⟩
    obtain ⟨y, hy, e⟩ := List.mem_map.mp z
    cases e
    exact h.1 hy
def DictsAt (H : Hp) (ys : List V) (A : List (Arc Str)) : Prop := ∀ y ∈ ys, ∃ (x : Addr) (f : Str → Int), y = .ref x ∧ H x = some (.dK (wkv A f))
theorem DictsAt.same {H H' : Hp} {ys : List V} {A : List (Arc Str)} (e : ∀ a kvs, H a = some (.dK kvs) → H' a = some (.dK kvs)) (h : DictsAt H ys A) : DictsAt H' ys A := fun y hy => by
  obtain ⟨x, f, h1, h2⟩ := h y hy
  exact ⟨x, f, h1, e _ _ h2⟩
theorem dk_upd {H : Hp} {p : Addr} {xs ys : List V} (h : H p = some (.lst ys)) : ∀ a kvs, H a = some (.dK kvs) → upd H p (.lst xs) a = some (.dK kvs) := fun a kvs ha => by
  rw [upd_ne (ne_of ha h (fun z => nomatch z))]
  exact ha
def WorldsAt (H : Hp) (ys : List V) (A : List (Arc Str)) : Prop := ∀ y ∈ ys, ∃ (x : Addr) (f : Str → Int), y = .ref x ∧ WorldAt H x A f ∧ NetW A f
theorem names_take {A : List (Arc Str)} (h : Names A) (i : Nat) : Names (A.take i) := by
  unfold Names at *
  exact h.sublist ((List.take_sublist i A).map _)
def spWorlds : Sp := fun vs H Q _ => ∃ (d : Addr) (m : Nat) (A : List (Arc Str)), vs = [.ref d, .int (m : Int)] ∧ FArcs H d A ∧ Names A ∧ A.length ≤ 7 ∧ m ≤ 2 ∧ ∀ p ys H', H p = none → Same H H' → H' p = some (.lst ys) → ys.length ≤ 10000 → WorldsAt H' ys A → Q (.ref p) H'
abbrev N_l_worlds : List Str := ["_law_arcs", "_law_most", "_law_found", "_law_name_here", "_law_longer", "_law_x", "_law_much"]
theorem sc_l_worlds : FnScope N_l_worlds ["_law_arcs", "_law_most"] (defScope s_l_worlds) := ⟨rfl, rfl, rfl, by decide +kernel, rfl, by decide +kernel, by decide +kernel⟩
theorem cal_l_worlds (T : Txt K mg C) (F : Has K mg "_law_c_worlds" s_l_worlds) (c_l_is_world : Cal P w K mg base "_law_c_is_world" 2 ["_law_arcs", "_law_x"] spWorld) : Cal P w K mg base "_law_c_worlds" 3 ["_law_arcs", "_law_most"] spWorlds := by
  refine F.cal sc_l_worlds (fun vs H Q E h => by obtain ⟨d, m, A, rfl, _⟩ := h; rfl) (fun _ _ _ _ _ _ us hl => match us, hl with | [_, _], _ => rfl) (fun fa cdv Ar outer s0 H vs Q E hr h => ?_)
  obtain ⟨d, m, A, rfl, hA, hN, hA7, hm, k⟩ := h
  obtain ⟨o, kvs, hd, hk⟩ := id hA
  have hl := hk.len
  refine ⟨_, pss_cons (ps_set (i := 2) sc_l_worlds.nd rfl (Or.inl rfl) (pe_lst (pa_cons pe_dnewK pa_nil)))
    (pss_cons (ps_for PassesOwn.never rfl (pi_keys (pv 0)) (pg_name (i := 3) sc_l_worlds.nd rfl (Or.inr rfl)) (pss_cons (ps_set (i := 4) sc_l_worlds.nd rfl (Or.inl rfl) (pe_lst pa_nil))
    (pss_cons (ps_for PassesOwn.never rfl (pilist K (pv 2)) (pg_name (i := 5) sc_l_worlds.nd rfl (Or.inr rfl)) (pss_one (ps_expr (pem K PySem.F.plainAttrs_list PySem.F.slot_list_extend PySem.F.type_list_extend mt_extend (pv 4) (pa_cons (pe_lc (own := [("_law_much", 6)]) rfl sc_l_worlds.nd (pi_range1 (by rfl) T.range (pa_cons (pe_op op_add (pv 1) pe_int) pa_nil)) (blkOk_by (N := N_l_worlds) (sc := defScope s_l_worlds) (by decide +kernel)) (fun _ _ _ _ _ => (pg_name (i := 6) sc_l_worlds.nd rfl (Or.inl rfl))) (fun _ _ _ _ _ => pts_nil) (fun _ _ _ _ _ => (pe_callTy (dictPK K rfl) (by rfl) T.dict bt_dict (pa_cons (pe_op op_cat (LiI.pe_listItems rfl (pv 5) (by rfl) T.list bt_list) (pe_lst (pa_cons (pe_tup (pa_cons (pv 3) (pa_cons (pv 6) pa_nil))) pa_nil))) pa_nil)))) pa_nil)))))
    (pss_one (ps_set (i := 2) sc_l_worlds.nd rfl (Or.inl rfl) (pv 4))))))
    (pss_one (ps_ret (pe_lc (own := [("_law_x", 5)]) rfl sc_l_worlds.nd (pilist K (pv 2)) (blkOk_by (N := N_l_worlds) (sc := defScope s_l_worlds) (by decide +kernel)) (fun _ _ _ _ _ => (pg_name (i := 5) sc_l_worlds.nd rfl (Or.inl rfl))) (fun _ _ _ _ _ => (pts_one (pt_val (pe_callC c_l_is_world (hr.mono (by decide)) (by rfl) (pa_cons (pv 0) (pa_cons (pv 5) pa_nil)))))) (fun _ _ _ _ _ => (pv 5)))))), ?_⟩
  refine sq ?_
  refine asg ?_
  refine ac ?_
  refine fun x0 hx0 => ?_
  have e1 := Same.new (o := .dK []) hx0
  refine ⟨by show 1 ≤ sizeLine; decide, fun p hp => ?_⟩
  have e2 := Same.new (o := .lst [.ref x0]) hp
  refine gn2 ?_
  refine sq ?_
  refine for_keys (H0 := H) (val_var rfl) (e1.trans e2) hd (fun i σ H1 => ∃ F v3 v4 v5 v6 ys, σ = [some (.ref d), some (.int (m : Int)), some (.ref F), v3, v4, v5, v6] ∧ Same H H1 ∧ H F = none ∧ H1 F = some (.lst ys) ∧ ys.length ≤ 3 ^ i ∧ DictsAt H1 ys (A.take i))
    ⟨p, none, none, none, none, [.ref x0], rfl, e1.trans e2, e1.free hp, upd_same, Nat.le_refl _, ?_⟩ (fun i σ H2 _ ⟨_, _, _, _, _, _, _, e, _⟩ => e) ?_ ?_
  · intro y hy
    refine ⟨x0, fun _ => 0, List.mem_singleton.mp hy, ?_⟩
    exact e2 _ _ upd_same
  · rintro i ky v σ H1 hi ⟨F, v3, v4, v5, v6, ys, rfl, e3, hF0, hF, hylen, hD⟩
    obtain ⟨a, t, ha, rfl, rfl, ht⟩ := hk.at' hi
    have hi7 : i < 7 := by
      have := (List.getElem?_eq_some_iff.mp ha).1
      omega
    have h3i : 3 ^ i ≤ 3 ^ 6 := Nat.pow_le_pow_right (by decide) (by omega)
    have h36 : 3 ^ 6 = 729 := by decide
    refine gn (sq ?_)
    refine ⟨Nat.zero_le _, fun L hL => ?_⟩
    refine gn2 ?_
    have e4 := Same.new (o := .lst []) hL
    have hFL : F ≠ L := ne_of_none hF hL
    have hL0 : H L = none := e3.free hL
    refine sq ?_
    refine for_lst (K := K) (a := F) (xs := ys) (val_var rfl) (SqL.of (e4 _ _ hF)) (fun j σ H2 => ∃ v5 v6 zs, σ = [some (.ref d), some (.int (m : Int)), some (.ref F), some (.str a.1), some (.ref L), v5, v6] ∧ Same H H2 ∧ H2 F = some (.lst ys) ∧ DictsAt H2 ys (A.take i) ∧ H2 L = some (.lst zs) ∧ zs.length ≤ 3 * j ∧ DictsAt H2 zs (A.take (i + 1)))
      ⟨_, _, [], rfl, e3.trans e4, e4 _ _ hF, hD.same fun _ _ z => e4 _ _ z, upd_same, Nat.zero_le _, fun _ z => absurd z (by simp)⟩ (fun j σ H2 _ ⟨_, _, _, _, _, h, _⟩ => SqL.of h) ?_ ?_
    · rintro j y σ H2 hj ⟨v5, v6, zs, rfl, e5, hF2, hD2, hL2, hzl, hDz⟩
      obtain ⟨x, f, rfl, hx⟩ := hD2 y (mem_at hj)
      have hj3 : j < ys.length := (List.getElem?_eq_some_iff.mp hj).1
      refine gn ?_
      refine drop ?_
      refine ⟨_, rfl, .inl ⟨rfl, _, SqL.of hL2⟩, ac ?_⟩
      refine ⟨_, rfl, _, _, rfl, rfl, _, rfl, by omega, by omega, fun D hD => ?_⟩
      have hmm : ((m : Int) + 1).toNat = m + 1 := by omega
      rw [hmm]
      have hat : a.1 ∉ (A.take i).map (·.1) := by
        rw [List.map_take]
        exact nodup_take_not hN (by rw [List.getElem?_map, ha]; rfl)
      have hti : (A.take i).length ≤ 7 := by
        have := List.length_take_le' i A
        omega
      refine lcA (H0 := H2) walk_range (fun r ws H' => ws.length ≤ r ∧ ∀ y ∈ ws, ∃ (x : Addr) (g : Str → Int), y = .ref x ∧ x ≠ D ∧ H' x = some (.dK (wkv (A.take (i + 1)) g))) (Same.refl _) hD (small_lt (by omega)) (fun _ _ _ h => h.1) ?_ ⟨Nat.le_refl _, fun _ z => absurd z (by simp)⟩ (fun _ _ => trivial) ?_ ?_
      · rintro r ws H3 H4 e ⟨h1, h2⟩
        exact ⟨h1, fun y hy => let ⟨x, g, a1, a2, a3⟩ := h2 y hy; ⟨x, g, a1, a2, e _ _ a2 a3⟩⟩
      · rintro r y H3 H4 ws hr e6 hD20 hDw ⟨hwl, hws⟩ ⟨rfl, rfl⟩ R R' hR hR'
        refine gn ⟨rfl, yesT ?_⟩
        refine cb (ac ?_)
        refine opn ?_
        refine ⟨_, rfl, x, _, rfl, e6 _ _ hx, fun H5 q ts keep hq hts hqt hlist hpairs => ?_⟩
        refine ⟨_, rfl, _, rfl, by show 2 ≤ sizeLine; decide, fun t2 ht2 => ?_⟩
        have e7 : Same H4 H5 := fun a o h => keep a o h
        have e8 := Same.new (o := .tup [.str a.1, .int (0 + (r : Int))]) ht2
        refine ⟨by show 1 ≤ sizeLine; decide, fun q2 hq2 => ?_⟩
        have e9 := Same.new (o := .lst [.ref t2]) hq2
        have e89 := e8.trans e9
        have htsl : ts.length = (A.take i).length := by
          have := Paired.length hpairs
          rw [wkv_len] at this
          exact this
        refine ⟨q, q2, _, _, rfl, rfl, e89 _ _ hlist, upd_same, by rw [List.length_map]; show ts.length + 1 ≤ sizeLine; exact small_le (by omega), fun q3 hq3 => ?_⟩
        have e10 := Same.new (o := .lst (ts.map V.ref ++ [.ref t2])) hq3
        have e810 := e89.trans e10
        refine ⟨q3, ts ++ [t2], wkv (A.take i) f ++ [(Sum.inr a.1, .int (0 + (r : Int)))], rfl, SqL.of (by rw [upd_same, List.map_append]; rfl), ?_, fun x2 hx2 => ?_⟩
        · refine paired_app (Paired.mapP hpairs fun u kv hu => SqT.of (e810 _ _ hu)) (.cons (SqT.of ?_) .nil)
          exact e10 _ _ (e9 _ _ upd_same)
        · have e11 := e810.trans (Same.new (o := .dK (mergeK [] (wkv (A.take i) f ++ [(Sum.inr a.1, .int (0 + (r : Int)))]))) hx2)
          have e611 := e7.trans e11
          have hmk : mergeK [] (wkv (A.take i) f ++ [(Sum.inr a.1, .int (0 + (r : Int)))]) = wkv (A.take (i + 1)) (fun n => if n = a.1 then 0 + (r : Int) else f n) := by
            rw [take_snoc ha, ← wkv_snoc hat, merge_app _ [] ?_, List.nil_append]
            rw [List.nil_append, wkv_snoc hat, wkv_keys, ← take_snoc ha]
            exact nd_inr (names_take hN (i + 1))
          refine hR _ _ (e6.trans e611) (e611 _ _ hDw) ⟨by rw [List.length_append]; show ws.length + 1 ≤ r + 1; omega, fun y hy => ?_⟩
          rcases List.mem_append.mp hy with z | z
          · obtain ⟨x3, g, a1, a2, a3⟩ := hws y z
            exact ⟨x3, g, a1, a2, e611 _ _ a3⟩
          · refine ⟨x2, _, List.mem_singleton.mp z, ?_, by rw [upd_same, hmk]⟩
            exact (ne_of_none (e7.trans e810 _ _ hDw) hx2).symm
      · rintro ws H3 e6 hDw ⟨hwl, hws⟩
        refine ⟨L, D, zs, ws, rfl, rfl, e6 _ _ hL2, hDw, small_le (by omega), ?_⟩
        refine ⟨_, _, zs ++ ws, rfl, (e5.trans e6).mut hL0, ?_, ?_, upd_same, ?_, ?_⟩
        · rw [upd_ne hFL]; exact e6 _ _ hF2
        · exact hD2.same fun u kv hu => dk_upd (e6 _ _ hL2) _ _ (e6 _ _ hu)
        · rw [List.length_append]
          omega
        · intro y hy
          rcases List.mem_append.mp hy with z | z
          · obtain ⟨x3, g, a1, a2⟩ := hDz y z
            exact ⟨x3, g, a1, dk_upd (e6 _ _ hL2) _ _ (e6 _ _ a2)⟩
          · obtain ⟨x3, g, a1, _, a2⟩ := hws y z
            exact ⟨x3, g, a1, dk_upd (e6 _ _ hL2) _ _ a2⟩
    · rintro σ H2 ⟨v5, v6, zs, rfl, e5, hF2, hD2, hL2, hzl, hDz⟩
      refine ⟨_, rfl, L, _, _, _, _, zs, rfl, e5, hL0, hL2, ?_, hDz⟩
      rw [Nat.pow_succ]
      omega
  · rintro σ H1 ⟨F, v3, v4, v5, v6, ys, rfl, e3, hF0, hF, hylen, hD⟩
    rw [List.take_of_length_le (by omega)] at hD
    rw [hl] at hylen
    have h37 : 3 ^ A.length ≤ 3 ^ 7 := Nat.pow_le_pow_right (by decide) hA7
    have h38 : 3 ^ 7 = 2187 := by decide
    refine ds (ret ?_)
    refine ⟨_, rfl, F, rfl, ⟨_, SqL.of hF⟩, fun D hDn => ?_⟩
    refine lcA (H0 := H1) (walk_list (xs := ys)) (fun r ws H' => ws.length ≤ r ∧ ∀ y ∈ ws, ∃ (x : Addr) (g : Str → Int), y = .ref x ∧ x ≠ D ∧ WorldAt H' x A g ∧ NetW A g) (Same.refl _) hDn (small_lt (by omega)) (fun _ _ _ h => h.1) ?_ ⟨Nat.le_refl _, fun _ z => absurd z (by simp)⟩ (fun H2 e => SqL.of (e _ _ hF)) ?_ ?_
    · rintro r ws H3 H4 e ⟨h1, h2⟩
      exact ⟨h1, fun y hy => let ⟨x, g, a1, a2, a3, a4⟩ := h2 y hy; ⟨x, g, a1, a2, e _ _ a2 a3, a4⟩⟩
    · rintro r y H3 H4 ws hr e6 hD20 hDw ⟨hwl, hws⟩ ⟨rfl, hy⟩ R R' hR hR'
      obtain ⟨x, g, rfl, hx⟩ := hD y (mem_at hy)
      have e36 := e3.trans e6
      refine gn ⟨rfl, ?_⟩
      refine ⟨_, rfl, _, rfl, d, x, A, g, rfl, hA.same e36, hN, by omega, e6 _ _ hx, fun b H5 e7 hb => ⟨b, rfl, ?_⟩⟩
      cases b with
      | true =>
        refine iteT ⟨_, rfl, hR _ _ (e6.trans e7) (e7 _ _ hDw) ⟨by rw [List.length_append]; show ws.length + 1 ≤ r + 1; omega, fun y hy => ?_⟩⟩
        rcases List.mem_append.mp hy with z | z
        · obtain ⟨x3, g, a1, a2, a3, a4⟩ := hws y z
          exact ⟨x3, g, a1, a2, e7 _ _ a3, a4⟩
        · exact ⟨x, g, List.mem_singleton.mp z, ne_of_none hx hDn, (e6.trans e7) _ _ hx, hb.mp rfl⟩
      | false =>
        refine iteF (hR' _ (e6.trans e7) (e7 _ _ hDw) ⟨by omega, fun y hy => ?_⟩)
        obtain ⟨x3, g, a1, a2, a3, a4⟩ := hws y hy
        exact ⟨x3, g, a1, a2, e7 _ _ a3, a4⟩
    · rintro ws H3 e6 hDw ⟨hwl, hws⟩
      refine k D ws H3 (e3.free hDn) (e3.trans e6) hDw (by omega) fun y hy => ?_
      obtain ⟨x3, g, a1, a2, a3, a4⟩ := hws y hy
      exact ⟨x3, g, a1, a3, a4⟩
end
end K25

namespace K25
open PySem PySem.Spec PyProof.Rows L2
section
variable {P : Program} {w : World} {K : PySem.W.Frag} {mg : Str → Option Value} {base : Heap} {C : Addr}
/-! ### no two worlds alike on the known, apart on the asked -/
def keyW (Ks : List Str) (f : Str → Int) : List Key := Ks.map fun n => Sum.inl (f n)
theorem keyW_kV (Ks : List Str) (f : Str → Int) : (keyW Ks f).map kV = Ks.map fun n => V.int (f n) := by
  unfold keyW
  rw [List.map_map]
  rfl
theorem keyW_eq {Ks : List Str} {f g : Str → Int} (h : keyW Ks f = keyW Ks g) : ∀ n ∈ Ks, f n = g n := by
  unfold keyW at h
  intro n hn
  exact Sum.inl.inj (List.map_inj_left.mp h n hn)
def spNone : Sp := fun vs H Q _ => ∃ (wl kn : Addr) (ys : List V) (A : List (Arc Str)) (Ks : List Str) (a : Arc Str), vs = [.ref wl, .ref kn, .str a.1] ∧ H wl = some (.lst ys) ∧ ys.length ≤ 10000 ∧ WorldsAt H ys A ∧ Names A ∧ a ∈ A ∧ H kn = some (.lst (Ks.map V.str)) ∧ Ks.length ≤ 100 ∧ (∀ n ∈ Ks, n ∈ A.map (·.1)) ∧
  (∀ f g, NetW A f → NetW A g → (∀ n ∈ Ks, f n = g n) → f a.1 = g a.1) ∧ ∀ H', Same H H' → Q (.bl true) H'
abbrev N_l_none_parts : List Str := ["_law_worlds", "_law_known", "_law_asked", "_law_first", "_law_world", "_law_key", "_law_name_here"]
theorem sc_l_none_parts : FnScope N_l_none_parts ["_law_worlds", "_law_known", "_law_asked"] (defScope s_l_none_parts) := ⟨rfl, rfl, rfl, by decide +kernel, rfl, by decide +kernel, by decide +kernel⟩
theorem cal_l_none_parts (T : Txt K mg C) (F : Has K mg "_law_c_none_parts" s_l_none_parts) : Cal P w K mg base "_law_c_none_parts" 1 ["_law_worlds", "_law_known", "_law_asked"] spNone := by
  refine F.cal sc_l_none_parts (fun vs H Q E h => by obtain ⟨wl, kn, ys, A, Ks, a, rfl, _⟩ := h; rfl) (fun _ _ _ _ _ _ us hl => match us, hl with | [_, _, _], _ => rfl) (fun fa cdv Ar outer s0 H vs Q E hr h => ?_)
  obtain ⟨wl, kn, ys, A, Ks, a, rfl, hwl, hy, hW, hN, ha, hkn, hK, hsub, hlaw, k⟩ := h
  refine ⟨_, pss_cons (ps_set (i := 3) sc_l_none_parts.nd rfl (Or.inl rfl) pe_dnewT)
    (pss_cons (ps_for PassesOwn.never rfl (pilist K (pv 0)) (pg_name (i := 4) sc_l_none_parts.nd rfl (Or.inr rfl)) (pss_cons (ps_set (i := 5) sc_l_none_parts.nd rfl (Or.inl rfl) (pe_callTy (tupK K) (by rfl) T.tuple bt_tuple (pa_cons (pe_lc (own := [("_law_name_here", 6)]) rfl sc_l_none_parts.nd (pilist K (pv 1)) (blkOk_by (N := N_l_none_parts) (sc := defScope s_l_none_parts) (by decide +kernel)) (fun _ _ _ _ _ => (pg_name (i := 6) sc_l_none_parts.nd rfl (Or.inl rfl))) (fun _ _ _ _ _ => pts_nil) (fun _ _ _ _ _ => (pe_dget (hu_of hr) (pv 4) (pv 6) (fun _ _ => rfl)))) pa_nil)))
    (pss_one (ps_if (pt_cmpR op_ne (pe_setdT (hu_of hr) (pv 3) (pv 5) (pe_dget (hu_of hr) (pv 4) (pv 2) (fun _ _ => rfl)) ⟨rfl, rfl, rfl, rfl⟩) (pe_dget (hu_of hr) (pv 4) (pv 2) (fun _ _ => rfl)) (nomark _)) (pss_one (ps_ret pe_bl)) pss_nil))))
    (pss_one (ps_ret pe_bl))), ?_⟩
  refine fun F hF => ?_
  refine gn (sq ?_)
  have e1 := Same.new (o := .dT []) hF
  refine for_lst (K := K) (a := wl) (xs := ys) (val_var rfl) (SqL.of (e1 _ _ hwl)) (fun i σ H1 => ∃ v4 v5 v6 kvs, σ = [some (.ref wl), some (.ref kn), some (.str a.1), some (.ref F), v4, v5, v6] ∧ Same H H1 ∧ H1 F = some (.dT kvs) ∧ kvs.length ≤ i ∧ ∀ ky v, valV kvs ky = some v → ∃ f, NetW A f ∧ ky = keyW Ks f ∧ v = .int (f a.1))
    ⟨none, none, none, [], rfl, e1, upd_same, Nat.le_refl _, fun _ _ z => by cases z⟩ (fun i σ H1 _ ⟨_, _, _, _, _, e, _⟩ => SqL.of (e _ _ hwl)) ?_ ?_
  · rintro i y σ H1 hi ⟨v4, v5, v6, kvs, rfl, e2, hF1, hkl, hkv⟩
    obtain ⟨x, f, rfl, hx, hnet⟩ := hW y (mem_at hi)
    have hi2 : i < ys.length := (List.getElem?_eq_some_iff.mp hi).1
    have hx1 := e2 _ _ hx
    refine gn (sq ?_)
    refine asg ?_
    refine cb (ac ?_)
    refine lc_lst (fun _ => true) (fA Ks fun n => V.int (f n)) (val_var rfl) (e2 _ _ hkn) (by rw [List.length_map]; omega) ?_ fun p2 H2 hp2 e3 h2 => ?_
    · rintro j y H2 hj e R R' hR hR'
      rw [List.getElem?_map] at hj
      obtain ⟨n, hn, rfl⟩ := Option.map_eq_some_iff.mp hj
      rw [fA_eq hn] at hR
      obtain ⟨b, hb, eb⟩ := List.mem_map.mp (hsub n (mem_at hn))
      subst eb
      refine gn ⟨rfl, yesT ?_⟩
      exact ⟨_, rfl, _, rfl, x, _, rfl, WorldAt.get (e _ _ hx1) hN hb, hR rfl _ (Same.refl _)⟩
    rw [List.length_map, gath_map] at h2
    refine ⟨p2, _, rfl, .inl ⟨SqL.of h2, fun p3 hp3 => ?_⟩⟩
    have e4 := Same.new (o := .tup (Ks.map fun n => V.int (f n))) hp3
    have e34 := e3.trans e4
    have hF3 := e34 _ _ hF1
    have hx3 := e34 _ _ hx1
    refine gn2 ?_
    refine ifs ?_
    have h3 : upd H2 p3 (.tup (Ks.map fun n => V.int (f n))) p3 = some (.tup ((keyW Ks f).map kV)) := by rw [upd_same, keyW_kV]
    refine ⟨_, rfl, F, rfl, .inr ⟨_, .inl hF3⟩, _, rfl, _, rfl, _, rfl, x, _, rfl, WorldAt.get hx3 hN ha, kvs, keyW Ks f, p3, hF3, rfl, h3, small_lt (by omega), ?_, ?_⟩
    · intro v hv
      obtain ⟨g, hg, ek, rfl⟩ := hkv _ _ hv
      have eq : g a.1 = f a.1 := hlaw g f hg hnet fun n hn => (keyW_eq ek n hn).symm
      refine ⟨_, rfl, _, rfl, x, _, rfl, WorldAt.get hx3 hN ha, rfl, false, ?_, iteF ?_⟩
      · rw [eq]
        simp
      · exact ⟨_, _, _, kvs, rfl, e2.trans e34, hF3, by omega, hkv⟩
    · intro hv
      have hx4 : upd (upd H2 p3 (.tup (Ks.map fun n => V.int (f n)))) F (.dT (putK kvs (keyW Ks f) (.int (f a.1)))) x = some (.dK (wkv A f)) := by
        rw [upd_ne (ne_of hx3 hF3 (fun z => nomatch z))]
        exact hx3
      refine ⟨_, rfl, _, rfl, x, _, rfl, WorldAt.get hx4 hN ha, rfl, false, by simp, iteF ?_⟩
      refine ⟨_, _, _, putK kvs (keyW Ks f) (.int (f a.1)), rfl, (e2.trans e34).mut hF, upd_same, ?_, fun ky v hkv2 => ?_⟩
      · have := length_putK kvs (keyW Ks f) (.int (f a.1))
        omega
      · rw [valV_put] at hkv2
        by_cases q : ky = keyW Ks f
        · rw [if_pos q] at hkv2
          exact ⟨f, hnet, q, (Option.some.inj hkv2).symm⟩
        · rw [if_neg q] at hkv2
          exact hkv _ _ hkv2
  · rintro σ H1 ⟨v4, v5, v6, kvs, rfl, e2, hF1, hkl, hkv⟩
    exact k _ e2
end
end K25

namespace K25
open PySem PySem.Spec PyProof.Rows L2
/-! ### the heap of a walk over arcs -/
theorem strs_len (xs : List Str) : (xs.map V.str).length = xs.length := List.length_map _
section
variable {β : Type} (PA : Hp → Addr → List β → Prop)
def CameK (H : Hp) (kvs : List (Key × V)) (c : Came Str β) : Prop := Paired (fun (kv : Key × V) (vp : Str × List β) => kv.1 = Sum.inr vp.1 ∧ ∃ a : Addr, kv.2 = .ref a ∧ PA H a vp.2) kvs c
def WS (H0 H : Hp) (p w : Addr) (c : Came Str β) (wl : List Str) : Prop := Same H0 H ∧ H0 p = none ∧ H0 w = none ∧ p ≠ w ∧ ∃ kvs, H p = some (.dK kvs) ∧ H w = some (.lst (wl.map V.str)) ∧ CameK PA (Off [p, w] H) kvs c
end
section
variable {β : Type} {PA : Hp → Addr → List β → Prop} (mono : ∀ H H' a q, Same H H' → PA H a q → PA H' a q)
include mono
theorem CameK.same {H H' : Hp} {kvs : List (Key × V)} {c : Came Str β} (e : Same H H') (h : CameK PA H kvs c) : CameK PA H' kvs c := Paired.mapP h fun _ _ ⟨a, x, b, d⟩ => ⟨a, x, b, mono _ _ _ _ e d⟩
theorem WS.same {H0 H H' : Hp} {p w : Addr} {c : Came Str β} {wl : List Str} (e : Same H H') (h : WS PA H0 H p w c wl) : WS PA H0 H' p w c wl := by
  obtain ⟨h1, h2, h3, h4, kvs, h5, h6, h7⟩ := h
  exact ⟨h1.trans e, h2, h3, h4, kvs, e _ _ h5, e _ _ h6, CameK.same mono (off_mono e) h7⟩
omit mono in
theorem CameK.val {H : Hp} {kvs : List (Key × V)} {c : Came Str β} (h : CameK PA H kvs c) (v : Str) : (lk c v = none ∧ valV kvs (Sum.inr v) = none) ∨ ∃ q a, lk c v = some q ∧ valV kvs (Sum.inr v) = some (.ref a) ∧ PA H a q := by
  unfold CameK at h
  induction h with
  | nil => exact .inl ⟨rfl, rfl⟩
  | @cons kv vp _ rc h _ ih =>
    obtain ⟨h1, a, h2, h3⟩ := h
    by_cases e : vp.1 = v
    · refine .inr ⟨vp.2, a, ?_, ?_, h3⟩
      · unfold lk
        rw [List.find?_cons, decide_eq_true e]
        rfl
      · rw [valV_pos (h1.trans (by rw [e])), h2]
    · have e1 : lk (vp :: rc) v = lk rc v := by
        unfold lk
        rw [List.find?_cons, decide_eq_false e]
      rw [valV_neg (fun z => e (Sum.inr.inj (h1.symm.trans z)))]
      rcases ih with ⟨i1, i2⟩ | ⟨q, b, i1, i2, i3⟩
      · exact .inl ⟨e1.trans i1, i2⟩
      · exact .inr ⟨q, b, e1.trans i1, i2, i3⟩
omit mono in
theorem WS.fresh {H0 H : Hp} {p w b : Addr} {c : Came Str β} {wl : List Str} (h : WS PA H0 H p w c wl) (hb : H b = none) : b ∉ [p, w] := by
  obtain ⟨h1, h2, h3, h4, kvs, h5, h6, h7⟩ := h
  intro z
  rcases List.mem_cons.mp z with z | z
  · rw [z, h5] at hb; cases hb
  · rw [List.mem_singleton.mp z, h6] at hb; cases hb
omit mono in
theorem WS.get {H0 H : Hp} {p w : Addr} {c : Came Str β} {wl : List Str} (h : WS PA H0 H p w c wl) {v : Str} {q : List β} (hq : lk c v = some q) : ∃ a, DGet H p (.str v) (some (.ref a)) ∧ PA (Off [p, w] H) a q := by
  obtain ⟨h1, h2, h3, h4, kvs, h5, h6, h7⟩ := h
  rcases h7.val v with ⟨i1, _⟩ | ⟨q', a, i1, i2, i3⟩
  · rw [i1] at hq; cases hq
  · rw [i1] at hq
    cases hq
    exact ⟨a, .inl ⟨kvs, Sum.inr v, .inl h5, rfl, i2.symm⟩, i3⟩
omit mono in
theorem WS.nget {H0 H : Hp} {p w : Addr} {c : Came Str β} {wl : List Str} (h : WS PA H0 H p w c wl) {v : Str} (hq : lk c v = none) : DGet H p (.str v) none := by
  obtain ⟨h1, h2, h3, h4, kvs, h5, h6, h7⟩ := h
  rcases h7.val v with ⟨_, i2⟩ | ⟨q', a, i1, i2, i3⟩
  · exact .inl ⟨kvs, Sum.inr v, .inl h5, rfl, i2.symm⟩
  · rw [i1] at hq; cases hq
theorem WS.put {H0 H : Hp} {p w : Addr} {c : Came Str β} {wl : List Str} (h : WS PA H0 H p w c wl) {v : Str} {a : Addr} {q : List β} (hv : lk c v = none) (hc : c.length ≤ 1000) (ha : PA (Off [p, w] H) a q) : ∃ H4, DPut H p (.str v) (.ref a) H4 ∧ WS PA H0 H4 p w (c ++ [(v, q)]) wl ∧ Same (Off [p, w] H) (Off [p, w] H4) := by
  obtain ⟨h1, h2, h3, h4, kvs, h5, h6, h7⟩ := h
  have hk : valV kvs (Sum.inr v) = none := by
    rcases h7.val v with ⟨_, i2⟩ | ⟨q', a, i1, i2, i3⟩
    · exact i2
    · rw [i1] at hv; cases hv
  have hl : kvs.length = c.length := Paired.length h7
  have hm : Same (Off [p, w] H) (Off [p, w] (upd H p (.dK (kvs ++ [(Sum.inr v, .ref a)])))) := off_mut List.mem_cons_self
  refine ⟨upd H p (.dK (kvs ++ [(Sum.inr v, .ref a)])), ?_, ⟨h1.mut h2, h2, h3, h4, _, upd_same, by rw [upd_ne h4.symm]; exact h6, paired_app (CameK.same mono hm h7) (.cons ⟨rfl, a, rfl, mono _ _ _ _ hm ha⟩ .nil)⟩, hm⟩
  have := DPut.k (k := Sum.inr v) (v := .ref a) h5 (small_lt (by omega))
  rw [putK_new _ hk] at this
  exact this
theorem WS.push {H0 H : Hp} {p w : Addr} {c : Came Str β} {wl : List Str} (h : WS PA H0 H p w c wl) (v : Str) : H w = some (.lst (wl.map V.str)) ∧ WS PA H0 (upd H w (.lst (wl.map V.str ++ [.str v]))) p w c (wl ++ [v]) := by
  obtain ⟨h1, h2, h3, h4, kvs, h5, h6, h7⟩ := h
  have hm : Same (Off [p, w] H) (Off [p, w] (upd H w (.lst (wl.map V.str ++ [.str v])))) := off_mut (List.mem_cons_of_mem _ List.mem_cons_self)
  exact ⟨h6, h1.mut h3, h2, h3, h4, kvs, by rw [upd_ne h4]; exact h5, by rw [upd_same, List.map_append]; rfl, CameK.same mono hm h7⟩
theorem WS.pop {H0 H : Hp} {p w : Addr} {c : Came Str β} {v : Str} {wl : List Str} (h : WS PA H0 H p w c (v :: wl)) : H w = some (.lst (.str v :: wl.map V.str)) ∧ WS PA H0 (upd H w (.lst (wl.map V.str))) p w c wl := by
  obtain ⟨h1, h2, h3, h4, kvs, h5, h6, h7⟩ := h
  have hm : Same (Off [p, w] H) (Off [p, w] (upd H w (.lst (wl.map V.str)))) := off_mut (List.mem_cons_of_mem _ List.mem_cons_self)
  exact ⟨h6, h1.mut h3, h2, h3, h4, kvs, by rw [upd_ne h4]; exact h5, upd_same, CameK.same mono hm h7⟩
end
/-- a way of names -/
def PaF : Hp → Addr → List Str → Prop := fun H a q => H a = some (.lst (q.map V.str))
theorem paF_mono : ∀ (H H' : Hp) (a : Addr) (q : List Str), Same H H' → PaF H a q → PaF H' a q := fun _ _ _ _ e h => e _ _ h
/-- a way of names with signs -/
def TagAt (H : Hp) (y : V) (l : Str × Int) : Prop := ∃ t, y = .ref t ∧ H t = some (.tup [.str l.1, .int l.2])
def PaS : Hp → Addr → List (Str × Int) → Prop := fun H a q => ∃ ys, H a = some (.lst ys) ∧ Paired (TagAt H) ys q
theorem tag_same {H H' : Hp} {ys : List V} {q : List (Str × Int)} (e : Same H H') (h : Paired (TagAt H) ys q) : Paired (TagAt H') ys q := Paired.mapP h fun _ _ ⟨t, a, b⟩ => ⟨t, a, e _ _ b⟩
theorem paS_mono : ∀ (H H' : Hp) (a : Addr) (q : List (Str × Int)), Same H H' → PaS H a q → PaS H' a q := fun _ _ _ _ e ⟨ys, h1, h2⟩ => ⟨ys, e _ _ h1, tag_same e h2⟩
end K25

namespace K25
open PySem PySem.Spec PyProof.Rows L2
section
variable {P : Program} {w : World} {K : PySem.W.Frag} {mg : Str → Option Value} {base : Heap} {C : Addr}
/-! ### a way along the arcs -/
def spAlong : Sp := fun vs H Q _ => ∃ (d : Addr) (A : List (Arc Str)) (s g : Str), vs = [.ref d, .str s, .str g] ∧ FArcs H d A ∧ Names A ∧ A.length ≤ 20 ∧
  ∀ (c : Came Str Str) (v : V) (H' : Hp), Done (movF A) s c → Same H H' → ((lk c g = none ∧ v = .non) ∨ ∃ (q : List Str) (a : Addr), lk c g = some q ∧ v = .ref a ∧ H' a = some (.lst (q.map V.str)) ∧ q.length ≤ 20) → Q v H'
theorem movF_snoc {A : List (Arc Str)} {j : Nat} {a : Arc Str} (h : A[j]? = some a) : movF (A.take (j + 1)) = movF (A.take j) ++ [(a.2.1, a.2.2, a.1)] := by
  rw [take_snoc h]
  unfold movF
  rw [List.map_append]
  rfl
theorem movF_sub (A : List (Arc Str)) (j : Nat) : ∀ m ∈ movF (A.take j), m ∈ movF A := fun m hm => by
  obtain ⟨a, ha, e⟩ := mem_movF.mp hm
  exact mem_movF.mpr ⟨a, List.mem_of_mem_take ha, e⟩
theorem mu_le {M : List (Mv Str β)} {s node : Str} {k : Nat} {c : Came Str β} {w : List Str} (h : bsteps M s k = (c, w)) : mu (M.map (·.2.1)) c w ≤ M.length + 1 := by
  have key : ∀ k, mu (M.map (·.2.1)) (bsteps M s k).1 (bsteps M s k).2 ≤ M.length + 1 := by
    intro k
    induction k with
    | zero =>
      unfold mu bsteps
      have := List.length_filter_le (fun v => decide (v ∉ ks ([(s, [])] : Came Str β))) (M.map (·.2.1))
      rw [List.length_map] at this
      simp only [List.length_singleton]
      omega
    | succ k ih =>
      show mu _ (bstep M (bsteps M s k)).1 (bstep M (bsteps M s k)).2 ≤ _
      generalize bsteps M s k = cw at ih
      obtain ⟨c, w⟩ := cw
      cases w with
      | nil => exact ih
      | cons v w => exact Nat.le_trans (Nat.le_of_lt mu_step) ih
  have q := key k
  rw [h] at q
  exact q
theorem mv1_no {node : Str} {c : Came Str β} {w : List Str} {m : Mv Str β} (h : ¬ (m.1 = node ∧ m.2.1 ∉ ks c)) : mv1 node (c, w) m = (c, w) := if_neg h
theorem mv1_yes {node : Str} {c : Came Str β} {w : List Str} {m : Mv Str β} {q : List β} (h : m.1 = node ∧ m.2.1 ∉ ks c) (hq : lk c node = some q) : mv1 node (c, w) m = (c ++ [(m.2.1, q ++ [m.2.2])], w ++ [m.2.1]) := by
  unfold mv1
  rw [if_pos h]
  dsimp only
  rw [hq]
  rfl
theorem fold_snoc {γ δ : Type} (f : γ → δ → γ) (b : γ) (l : List δ) (x : δ) : (l ++ [x]).foldl f b = f (l.foldl f b) x := by rw [List.foldl_append]; rfl
theorem bstep_cons {M : List (Mv Str β)} {c : Came Str β} {v : Str} {w : List Str} : bstep M (c, v :: w) = M.foldl (mv1 v) (c, w) := rfl
abbrev N_way_along : List Str := ["pairs", "start", "goal", "came", "waiting", "node", "name", "one", "other"]
theorem sc_way_along : FnScope N_way_along ["pairs", "start", "goal"] (defScope s_way_along) := ⟨rfl, rfl, rfl, by decide +kernel, rfl, by decide +kernel, by decide +kernel⟩
theorem cal_way_along (T : Txt K mg C) (F : Has K mg "way_along" s_way_along) : Cal P w K mg base "way_along" 1 ["pairs", "start", "goal"] spAlong := by
  refine F.cal sc_way_along (fun vs H Q E h => by obtain ⟨d, A, s, g, rfl, _⟩ := h; rfl) (fun _ _ _ _ _ _ us hl => match us, hl with | [_, _, _], _ => rfl) (fun fa cdv Ar outer s0 H vs Q E hr h => ?_)
  obtain ⟨d, A, s, g, rfl, hA, hN, hA20, k⟩ := h
  obtain ⟨o, kvs, hd, hk⟩ := id hA
  have hl := hk.len
  refine ⟨_, pss_cons (ps_par (i := 3) (j := 4) rfl sc_way_along.nd rfl rfl (by decide) rfl rfl (pa_cons (pe_disp (pps_cons (pv 1) (pe_lst pa_nil) pps_nil) (by rfl) (by rfl) (fun z => by cases z) (by decide)) (pa_cons (pe_lst (pa_cons (pv 1) pa_nil)) pa_nil)) (by rfl))
    (pss_cons (ps_while PassesOwn.never (pt_cmpR (neNil K hr.units0) (pv 4) (pe_lst pa_nil) (nomark _)) (pss_cons (ps_set (i := 5) sc_way_along.nd rfl (Or.inl rfl) (pem K PySem.F.plainAttrs_list PySem.F.slot_list_pop PySem.F.type_list_pop mt_popAt (pv 4) (pa_cons pe_int pa_nil)))
    (pss_one (ps_for PassesOwn.never rfl (pi_keys (pv 0)) (pg_name (i := 6) sc_way_along.nd rfl (Or.inl rfl)) (pss_cons (ps_asg (pe_dget (hu_of hr) (pv 0) (pv 6) (fun _ _ => rfl)) (pgtup K (n := 2) rfl (pgs_cons (pg_name (i := 7) sc_way_along.nd rfl (Or.inl rfl)) (pgs_cons (pg_name (i := 8) sc_way_along.nd rfl (Or.inl rfl)) pgs_nil))))
    (pss_one (ps_if (PW.pt (pw_and (pt_cmpR op_eq (pv 7) (pv 5) (nomark _)) (pw_and1 (pt_cmp (pc_dnotin (hu_of hr) (pv 8) (pv 3)))))) (pss_cons (ps_dput (hu_of hr) (pv 3) (pv 8) (pe_op op_cat (pe_dget (hu_of hr) (pv 3) (pv 5) (fun _ _ => rfl)) (pe_lst (pa_cons (pv 6) pa_nil))) rfl)
    (pss_one (ps_expr (pem K PySem.F.plainAttrs_list PySem.F.slot_list_append PySem.F.type_list_append mt_append (pv 4) (pa_cons (pv 8) pa_nil))))) pss_nil)))))))
    (pss_one (ps_ret (pe_dget1 (hu_of hr) (pv 3) (pv 2) ⟨rfl, rfl, rfl, rfl⟩)))), ?_⟩
  refine sq ?_
  refine par (ac ?_)
  refine fun p hp => ?_
  refine ⟨_, rfl, Nat.zero_le _, fun a0 ha0 => ?_⟩
  have hpa : p ≠ a0 := ne_of_none upd_same ha0
  refine ⟨by rw [upd_ne hpa]; exact upd_same, [(Sum.inr s, .ref a0)], rfl, by show 1 ≤ 15; decide, ?_⟩
  refine ⟨_, rfl, by show 1 ≤ sizeLine; decide, fun wt hwt => ⟨_, _, rfl, ?_⟩⟩
  have hpw : p ≠ wt := ne_of_none (upd_same (a := p)) hwt
  have haw : a0 ≠ wt := ne_of_none (show upd (upd (upd H p (.dK [])) a0 (.lst [])) p (.dK (mergeK [] [(Sum.inr s, .ref a0)])) a0 = some (.lst []) by rw [upd_ne hpa.symm]; exact upd_same) hwt
  have hws : WS PaF H (upd (upd (upd (upd H p (.dK [])) a0 (.lst [])) p (.dK (mergeK [] [(Sum.inr s, .ref a0)]))) wt (.lst [.str s])) p wt [(s, [])] [s] := by
    have ea := Same.new (H := H) (o := .dK []) hp
    have ha1 : H a0 = none := ea.free ha0
    have hw1 : H wt = none := by
      have e1 : Same H (upd (upd (upd H p (.dK [])) a0 (.lst [])) p (.dK (mergeK [] [(Sum.inr s, .ref a0)]))) := (ea.mut ha1).mut hp
      exact e1.free hwt
    refine ⟨((ea.mut ha1).mut hp).mut hw1, hp, hw1, hpw, [(Sum.inr s, .ref a0)], by rw [upd_ne hpw]; exact upd_same, upd_same, .cons ⟨rfl, a0, rfl, ?_⟩ .nil⟩
    show Off _ _ a0 = some (.lst [])
    rw [off_at (by simp [haw, hpa.symm]), upd_ne haw, upd_ne hpa.symm]
    exact upd_same
  generalize upd (upd (upd (upd H p (.dK [])) a0 (.lst [])) p (.dK (mergeK [] [(Sum.inr s, .ref a0)]))) wt (.lst [.str s]) = H1 at hws
  refine sq ?_
  refine ⟨fun m σ H1 => ∃ v5 v6 v7 v8 c wl, m = mu ((movF A).map (·.2.1)) c wl ∧ σ = [some (.ref d), some (.str s), some (.str g), some (.ref p), some (.ref wt), v5, v6, v7, v8] ∧ (∃ k, bsteps (movF A) s k = (c, wl)) ∧ WS PaF H H1 p wt c wl, ⟨_, none, none, none, none, _, _, rfl, rfl, ⟨0, rfl⟩, hws⟩, ?_⟩
  rintro m σ H2 ⟨v5, v6, v7, v8, c, wl, rfl, rfl, ⟨kk, hkk⟩, hw2⟩
  have hbi : BInv (movF A) s c wl := by
    have q := binv (movF A) s kk
    rw [hkk] at q
    exact q
  have hmu := mu_le (node := s) hkk
  rw [len_movF] at hmu
  refine ⟨_, rfl, Nat.zero_le _, fun q0 hq0 => ?_⟩
  have hw3 := hw2.same paF_mono (Same.new (o := .lst []) hq0)
  have hwl3 : upd H2 q0 (.lst []) wt = some (.lst (wl.map V.str)) := by
    obtain ⟨_, _, _, _, _, _, q, _⟩ := hw3
    exact q
  refine ⟨wt, q0, _, rfl, rfl, SqL.of hwl3, SqL.of upd_same, _, rfl, ?_⟩
  generalize upd H2 q0 (.lst []) = H3 at hw3 hwl3
  cases wl with
  | nil =>
    refine iteF ?_
    refine ds (ret ?_)
    have hfin : Done (movF A) s c := ⟨kk, hkk⟩
    have hsame : Same H H3 := hw3.1
    refine ⟨_, rfl, p, rfl, ?_, _, rfl, ?_⟩
    · obtain ⟨_, _, _, _, kv, q, _⟩ := hw3
      exact .inl ⟨kv, .inl q⟩
    · cases hg : lk c g with
      | none => exact ⟨none, hw3.nget hg, k c .non H3 hfin hsame (.inl ⟨hg, rfl⟩)⟩
      | some q =>
        obtain ⟨a, h1, h2⟩ := hw3.get hg
        have hlen := hbi.len _ _ (lk_mem hg)
        have hsz := hbi.size
        rw [len_movF] at hsz
        exact ⟨some (.ref a), h1, k c (.ref a) H3 hfin hsame (.inr ⟨q, a, hg, rfl, off_le _ _ h2, by omega⟩)⟩
  | cons node wl =>
    refine iteT ?_
    refine ⟨fun σ H1 => ∃ v5 v6 v7 v8 c' wl', (c', wl') = bstep (movF A) (c, node :: wl) ∧ σ = [some (.ref d), some (.str s), some (.str g), some (.ref p), some (.ref wt), v5, v6, v7, v8] ∧ WS PaF H H1 p wt c' wl', ?_, ?_⟩
    · rintro σ' H' ⟨v5, v6, v7, v8, c', wl', hcw, rfl, hw'⟩
      have hmu2 := mu_step (M := movF A) (c := c) (node := node) (w := wl)
      rw [← hcw] at hmu2
      exact ⟨_, hmu2, _, _, _, _, c', wl', rfl, rfl, ⟨kk + 1, by show bstep (movF A) (bsteps (movF A) s kk) = _; rw [hkk, hcw]⟩, hw'⟩
    obtain ⟨hw4, hw5⟩ := hw3.pop paF_mono
    refine sq ?_
    refine asg ?_
    refine ⟨_, rfl, .inl ⟨rfl, _, SqL.of hw4⟩, ?_⟩
    refine ⟨wt, _, 0, 0, _, rfl, rfl, hw4, by decide, by decide, seqIndex_of (by decide) (by simp), rfl, ?_⟩
    refine gn2 ?_
    have hw5 : WS PaF H (upd H3 wt (.lst ((V.str node :: wl.map V.str).eraseIdx 0))) p wt c wl := hw5
    generalize upd H3 wt (.lst ((V.str node :: wl.map V.str).eraseIdx 0)) = H4 at hw5
    have hmid := hbi.pop
    refine for_keys (H0 := H) (val_var rfl) hw5.1 hd (fun j σ H1 => ∃ v6 v7 v8 c' wl', (c', wl') = (movF (A.take j)).foldl (mv1 node) (c, wl) ∧ σ = [some (.ref d), some (.str s), some (.str g), some (.ref p), some (.ref wt), some (.str node), v6, v7, v8] ∧ WS PaF H H1 p wt c' wl')
      ⟨_, _, _, c, wl, rfl, rfl, hw5⟩ (fun j σ H1 _ ⟨_, _, _, _, _, _, _, h⟩ => h.1) ?_ ?_
    · rintro j ky v σ H5 hj ⟨v6, v7, v8, c', wl', hcw, rfl, hw6⟩
      obtain ⟨a, t, ha, rfl, rfl, ht⟩ := hk.at' hj
      have hm2 := hmid.all (L' := movF (A.take j)) (movF_sub A j)
      have hmu3 := mu_fold (U := (movF A).map (·.2.1)) (node := node) (L := movF (A.take j)) (s := (c, wl)) fun m hm => List.mem_map.mpr ⟨m, movF_sub A j m hm, rfl⟩
      rw [← hcw] at hm2 hmu3
      have hwl40 : wl'.length ≤ 40 := by
        have e : mu ((movF A).map (·.2.1)) c (node :: wl) = mu ((movF A).map (·.2.1)) c wl + 1 := by
          unfold mu
          rw [List.length_cons]
          omega
        have h1 : wl'.length ≤ mu ((movF A).map (·.2.1)) c' wl' := by unfold mu; omega
        dsimp only at hmu3
        omega
      have hsz : c'.length ≤ 21 := by
        have := hm2.size
        rw [len_movF] at this
        dsimp only at this
        omega
      have hnode : node ∈ ks c' := hm2.at_
      obtain ⟨q, hq, hqm⟩ := lk_some hnode
      have hqlen := hm2.len _ _ hqm
      dsimp only at hqlen
      obtain ⟨t', hg', ht'⟩ := (hA.same hw6.1).get hN (mem_at ha)
      refine gn ?_
      refine sq ?_
      refine ⟨_, rfl, _, rfl, d, _, rfl, hg', t', _, rfl, SqT.of ht', rfl, _, _, rfl, gn ⟨_, _, rfl, gn ⟨rfl, ?_⟩⟩⟩
      refine ds (ifs ?_)
      refine ⟨_, rfl, _, rfl, rfl, decide (a.2.1 = node), ?_, ?_⟩
      · rw [dec_str]
        by_cases z : a.2.1 = node <;> simp [z]
      have hno : ¬ (a.2.1 = node ∧ a.2.2 ∉ ks c') → ∃ v6 v7 v8 c'' wl'', (c'', wl'') = (movF (A.take (j + 1))).foldl (mv1 node) (c, wl) ∧ [some (V.ref d), some (.str s), some (.str g), some (.ref p), some (.ref wt), some (.str node), some (.str a.1), some (.str a.2.1), some (.str a.2.2)] = [some (.ref d), some (.str s), some (.str g), some (.ref p), some (.ref wt), some (.str node), v6, v7, v8] ∧ WS PaF H H5 p wt c'' wl'' := fun h =>
        ⟨_, _, _, c', wl', by rw [movF_snoc ha, fold_snoc, ← hcw, mv1_no h], rfl, hw6⟩
      by_cases z1 : a.2.1 = node
      case neg =>
        rw [decide_eq_false z1]
        exact iteF (iteF (hno fun h => z1 h.1))
      rw [decide_eq_true z1]
      refine iteT ?_
      by_cases z2 : a.2.2 ∈ ks c'
      · obtain ⟨q2, hq2, _⟩ := lk_some z2
        obtain ⟨a2, hga, _⟩ := hw6.get hq2
        exact ⟨_, rfl, _, rfl, p, _, rfl, hga, false, rfl, iteF (hno fun h => h.2 z2)⟩
      have hq2 := lk_none.mpr z2
      refine ⟨_, rfl, _, rfl, p, _, rfl, hw6.nget hq2, true, rfl, iteT ?_⟩
      refine sq ?_
      obtain ⟨aq, hgq, haq⟩ := hw6.get hq
      refine ⟨_, rfl, _, rfl, p, _, rfl, hgq, _, rfl, by show 1 ≤ sizeLine; decide, fun b1 hb1 => ?_⟩
      have e7 := Same.new (o := .lst [.str a.1]) hb1
      refine ⟨aq, b1, _, _, rfl, rfl, e7 _ _ (off_le _ _ haq), upd_same, by rw [List.length_map]; exact small_le (by show q.length + 1 ≤ _; omega), fun b2 hb2 => ?_⟩
      have e8 := e7.trans (Same.new (o := .lst (q.map V.str ++ [.str a.1])) hb2)
      have hw8 := hw6.same paF_mono e8
      have hb2w : b2 ∉ [p, wt] := (hw6.same paF_mono e7).fresh hb2
      obtain ⟨H9, hput, hw9, _⟩ := hw8.put paF_mono (q := q ++ [a.1]) (a := b2) hq2 (by omega) (by
        show Off _ _ b2 = _
        rw [off_at hb2w, upd_same, List.map_append]
        rfl)
      refine ⟨_, rfl, _, rfl, p, H9, rfl, hput, ?_⟩
      obtain ⟨hwl9, hw10⟩ := hw9.push paF_mono a.2.2
      refine ds (drop ?_)
      refine ⟨_, rfl, .inl ⟨rfl, _, SqL.of hwl9⟩, _, rfl, wt, _, _, rfl, rfl, hwl9, by rw [List.length_map]; exact small_lt (by omega), ?_⟩
      exact ⟨_, _, _, _, _, by rw [movF_snoc ha, fold_snoc, ← hcw, mv1_yes ⟨z1, z2⟩ hq], rfl, hw10⟩
    · rintro σ H5 ⟨v6, v7, v8, c', wl', hcw, rfl, hw6⟩
      refine ⟨_, _, _, _, c', wl', ?_, rfl, hw6⟩
      rw [hcw, List.take_of_length_le (by omega)]
      rfl
end
end K25

namespace K25
open PySem PySem.Spec PyProof.Rows L2
section
variable {P : Program} {w : World} {K : PySem.W.Frag} {mg : Str → Option Value} {base : Heap} {C : Addr}
/-! ### ways from a node, either way along the arcs -/
def spFrom : Sp := fun vs H Q _ => ∃ (d : Addr) (A : List (Arc Str)) (s : Str), vs = [.ref d, .str s] ∧ (∃ kvs, H d = some (.dK kvs) ∧ ArcsK H kvs A) ∧ Names A ∧ A.length ≤ 20 ∧
  ∀ (c : Came Str (Str × Int)) (p : Addr) (kvs : List (Key × V)) (H' : Hp), Done (movS A) s c → Same H H' → H p = none → H' p = some (.dK kvs) → CameK PaS H' kvs c → Q (.ref p) H'
theorem movS_snoc {A : List (Arc Str)} {j : Nat} {a : Arc Str} (h : A[j]? = some a) : movS (A.take (j + 1)) = movS (A.take j) ++ [(a.2.1, a.2.2, (a.1, 1)), (a.2.2, a.2.1, (a.1, -1))] := by
  rw [take_snoc h]
  unfold movS
  rw [List.flatMap_append]
  rfl
theorem movS_sub (A : List (Arc Str)) (j : Nat) : ∀ m ∈ movS (A.take j), m ∈ movS A := fun m hm => by
  obtain ⟨a, ha, e⟩ := mem_movS.mp hm
  exact mem_movS.mpr ⟨a, List.mem_of_mem_take ha, e⟩
theorem same_lock {H H' : Hp} {d : Addr} {o : Obj} {u : HO} (h : H d = some u) (e : Same (upd H d (.frz o u)) H') : Same H (upd H' d u) := fun a x hx => by
  by_cases z : a = d
  · rw [z] at hx ⊢
    rw [hx] at h
    rw [upd_same, ← h]
  · rw [upd_ne z]
    exact e a x (by rw [upd_ne z]; exact hx)
abbrev N_ways_from : List Str := ["pairs", "start", "came", "waiting", "node", "name", "one", "other", "here", "there", "sign"]
theorem sc_ways_from : FnScope N_ways_from ["pairs", "start"] (defScope s_ways_from) := ⟨rfl, rfl, rfl, by decide +kernel, rfl, by decide +kernel, by decide +kernel⟩
theorem cal_ways_from (T : Txt K mg C) (F : Has K mg "ways_from" s_ways_from) : Cal P w K mg base "ways_from" 1 ["pairs", "start"] spFrom := by
  refine F.cal sc_ways_from (fun vs H Q E h => by obtain ⟨d, A, s, rfl, _⟩ := h; rfl) (fun _ _ _ _ _ _ us hl => match us, hl with | [_, _], _ => rfl) (fun fa cdv Ar outer s0 H vs Q E hr h => ?_)
  obtain ⟨d, A, s, rfl, ⟨kvs, hd0, hk0⟩, hN, hA20, k0⟩ := h
  refine ⟨_, pss_lock (pss_cons (ps_par (i := 2) (j := 3) rfl sc_ways_from.nd rfl rfl (by decide) rfl rfl (pa_cons (pe_disp (pps_cons (pv 1) (pe_lst pa_nil) pps_nil) (by rfl) (by rfl) (fun z => by cases z) (by decide)) (pa_cons (pe_lst (pa_cons (pv 1) pa_nil)) pa_nil)) (by rfl))
    (pss_cons (ps_while PassesOwn.never (pt_cmpR (neNil K hr.units0) (pv 3) (pe_lst pa_nil) (nomark _)) (pss_cons (ps_set (i := 4) sc_ways_from.nd rfl (Or.inl rfl) (pem K PySem.F.plainAttrs_list PySem.F.slot_list_pop PySem.F.type_list_pop mt_popAt (pv 3) (pa_cons pe_int pa_nil)))
    (pss_one (ps_for PassesOwn.never rfl (pi_keys (pv 0)) (pg_name (i := 5) sc_ways_from.nd rfl (Or.inl rfl)) (pss_cons (ps_asg (pe_dget (hu_of hr) (pv 0) (pv 5) (fun _ _ => rfl)) (pgtup K (n := 2) rfl (pgs_cons (pg_name (i := 6) sc_ways_from.nd rfl (Or.inl rfl)) (pgs_cons (pg_name (i := 7) sc_ways_from.nd rfl (Or.inl rfl)) pgs_nil))))
    (pss_one (ps_for PassesOwn.never rfl (pitup K (pe_tup (pa_cons (pe_tup (pa_cons (pv 6) (pa_cons (pv 7) (pa_cons pe_int pa_nil)))) (pa_cons (pe_tup (pa_cons (pv 7) (pa_cons (pv 6) (pa_cons (pe_un un_neg pe_int) pa_nil)))) pa_nil)))) (pgtup K (n := 3) rfl (pgs_cons (pg_name (i := 8) sc_ways_from.nd rfl (Or.inl rfl)) (pgs_cons (pg_name (i := 9) sc_ways_from.nd rfl (Or.inl rfl)) (pgs_cons (pg_name (i := 10) sc_ways_from.nd rfl (Or.inl rfl)) pgs_nil)))) (pss_one (ps_if (PW.pt (pw_and (pt_cmpR op_eq (pv 8) (pv 4) (nomark _)) (pw_and1 (pt_cmp (pc_dnotin (hu_of hr) (pv 9) (pv 2)))))) (pss_cons (ps_dput (hu_of hr) (pv 2) (pv 9) (pe_op op_cat (pe_dget (hu_of hr) (pv 2) (pv 4) (fun _ _ => rfl)) (pe_lst (pa_cons (pe_tup (pa_cons (pv 5) (pa_cons (pv 10) pa_nil))) pa_nil))) rfl)
    (pss_one (ps_expr (pem K PySem.F.plainAttrs_list PySem.F.slot_list_append PySem.F.type_list_append mt_append (pv 3) (pa_cons (pv 9) pa_nil))))) pss_nil)))))))))
    (pss_one (ps_ret (pv 2))))), ?_⟩
  refine ⟨d, _, hd0, trivial, fun o => ?_⟩
  have hd : upd H d (.frz o (.dK kvs)) d = some (.frz o (.dK kvs)) := upd_same
  have hk : ArcsK (upd H d (.frz o (.dK kvs))) kvs A := hk0.mono fun t xs ht => by rw [upd_ne (ne_of ht hd0 (fun z => nomatch z))]; exact ht
  have hA : FArcs (upd H d (.frz o (.dK kvs))) d A := ⟨o, kvs, hd, hk⟩
  have hl := hk.len
  have k : ∀ (c : Came Str (Str × Int)) (p : Addr) (kvs2 : List (Key × V)) (H' : Hp), Done (movS A) s c → Same (upd H d (.frz o (.dK kvs))) H' → upd H d (.frz o (.dK kvs)) p = none → H' p = some (.dK kvs2) → CameK PaS H' kvs2 c → H' d = some (.frz o (.dK kvs)) ∧ Q (.ref p) (upd H' d (.dK kvs)) := fun c p kvs2 H' h1 h2 h3 h4 h5 => by
    have hpd : p ≠ d := fun z => by rw [z, hd] at h3; cases h3
    refine ⟨h2 _ _ hd, k0 c p kvs2 _ h1 (same_lock hd0 h2) (by rw [upd_ne hpd] at h3; exact h3) (by rw [upd_ne hpd]; exact h4) (Paired.mapP h5 fun kv vp ⟨a1, b, a2, ys, a3, a4⟩ => ⟨a1, b, a2, ys, ?_, ?_⟩)⟩
    · rw [upd_ne (ne_of a3 (h2 _ _ hd) (fun z => nomatch z))]; exact a3
    · exact Paired.mapP a4 fun y l ⟨t, b1, b2⟩ => ⟨t, b1, by rw [upd_ne (ne_of b2 (h2 _ _ hd) (fun z => nomatch z))]; exact b2⟩
  generalize upd H d (.frz o (.dK kvs)) = H at *
  refine sq ?_
  refine par (ac ?_)
  refine fun p hp => ?_
  refine ⟨_, rfl, Nat.zero_le _, fun a0 ha0 => ?_⟩
  have hpa : p ≠ a0 := ne_of_none upd_same ha0
  refine ⟨by rw [upd_ne hpa]; exact upd_same, [(Sum.inr s, .ref a0)], rfl, by show 1 ≤ 15; decide, ?_⟩
  refine ⟨_, rfl, by show 1 ≤ sizeLine; decide, fun wt hwt => ⟨_, _, rfl, ?_⟩⟩
  have hpw : p ≠ wt := ne_of_none (upd_same (a := p)) hwt
  have haw : a0 ≠ wt := ne_of_none (show upd (upd (upd H p (.dK [])) a0 (.lst [])) p (.dK (mergeK [] [(Sum.inr s, .ref a0)])) a0 = some (.lst []) by rw [upd_ne hpa.symm]; exact upd_same) hwt
  have hws : WS PaS H (upd (upd (upd (upd H p (.dK [])) a0 (.lst [])) p (.dK (mergeK [] [(Sum.inr s, .ref a0)]))) wt (.lst [.str s])) p wt [(s, [])] [s] := by
    have ea := Same.new (H := H) (o := .dK []) hp
    have ha1 : H a0 = none := ea.free ha0
    have hw1 : H wt = none := by
      have e1 : Same H (upd (upd (upd H p (.dK [])) a0 (.lst [])) p (.dK (mergeK [] [(Sum.inr s, .ref a0)]))) := (ea.mut ha1).mut hp
      exact e1.free hwt
    refine ⟨((ea.mut ha1).mut hp).mut hw1, hp, hw1, hpw, [(Sum.inr s, .ref a0)], by rw [upd_ne hpw]; exact upd_same, upd_same, .cons ⟨rfl, a0, rfl, ?_⟩ .nil⟩
    refine ⟨[], ?_, .nil⟩
    show Off _ _ a0 = some (.lst [])
    rw [off_at (by simp [haw, hpa.symm]), upd_ne haw, upd_ne hpa.symm]
    exact upd_same
  generalize upd (upd (upd (upd H p (.dK [])) a0 (.lst [])) p (.dK (mergeK [] [(Sum.inr s, .ref a0)]))) wt (.lst [.str s]) = H1 at hws
  refine sq ?_
  refine ⟨fun m σ H1 => ∃ v4 v5 v6 v7 v8 v9 v10 c wl, m = mu ((movS A).map (·.2.1)) c wl ∧ σ = [some (.ref d), some (.str s), some (.ref p), some (.ref wt), v4, v5, v6, v7, v8, v9, v10] ∧ (∃ k, bsteps (movS A) s k = (c, wl)) ∧ WS PaS H H1 p wt c wl, ⟨_, none, none, none, none, none, none, none, _, _, rfl, rfl, ⟨0, rfl⟩, hws⟩, ?_⟩
  rintro m σ H2 ⟨v4, v5, v6, v7, v8, v9, v10, c, wl, rfl, rfl, ⟨kk, hkk⟩, hw2⟩
  have hbi : BInv (movS A) s c wl := by
    have q := binv (movS A) s kk
    rw [hkk] at q
    exact q
  have hmu := mu_le (node := s) hkk
  rw [len_movS] at hmu
  refine ⟨_, rfl, Nat.zero_le _, fun q0 hq0 => ?_⟩
  have hw3 := hw2.same paS_mono (Same.new (o := .lst []) hq0)
  have hwl3 : upd H2 q0 (.lst []) wt = some (.lst (wl.map V.str)) := by
    obtain ⟨_, _, _, _, _, _, q, _⟩ := hw3
    exact q
  refine ⟨wt, q0, _, rfl, rfl, SqL.of hwl3, SqL.of upd_same, _, rfl, ?_⟩
  generalize upd H2 q0 (.lst []) = H3 at hw3 hwl3
  cases wl with
  | nil =>
    refine iteF ?_
    refine ds (ret ?_)
    obtain ⟨z1, z2, z3, z4, kv, z5, z6, z7⟩ := hw3
    exact ⟨_, rfl, k c p kv H3 ⟨kk, hkk⟩ z1 z2 z5 (CameK.same paS_mono off_le z7)⟩
  | cons node wl =>
    refine iteT ?_
    refine ⟨fun σ H1 => ∃ v4 v5 v6 v7 v8 v9 v10 c' wl', (c', wl') = bstep (movS A) (c, node :: wl) ∧ σ = [some (.ref d), some (.str s), some (.ref p), some (.ref wt), v4, v5, v6, v7, v8, v9, v10] ∧ WS PaS H H1 p wt c' wl', ?_, ?_⟩
    · rintro σ' H' ⟨v4, v5, v6, v7, v8, v9, v10, c', wl', hcw, rfl, hw'⟩
      have hmu2 := mu_step (M := movS A) (c := c) (node := node) (w := wl)
      rw [← hcw] at hmu2
      exact ⟨_, hmu2, _, _, _, _, _, _, _, c', wl', rfl, rfl, ⟨kk + 1, by show bstep (movS A) (bsteps (movS A) s kk) = _; rw [hkk, hcw]⟩, hw'⟩
    obtain ⟨hw4, hw5⟩ := hw3.pop paS_mono
    refine sq ?_
    refine asg ?_
    refine ⟨_, rfl, .inl ⟨rfl, _, SqL.of hw4⟩, ?_⟩
    refine ⟨wt, _, 0, 0, _, rfl, rfl, hw4, by decide, by decide, seqIndex_of (by decide) (by simp), rfl, ?_⟩
    refine gn2 ?_
    have hw5 : WS PaS H (upd H3 wt (.lst ((V.str node :: wl.map V.str).eraseIdx 0))) p wt c wl := hw5
    generalize upd H3 wt (.lst ((V.str node :: wl.map V.str).eraseIdx 0)) = H4 at hw5
    have hmid := hbi.pop
    refine for_keys (H0 := H) (val_var rfl) hw5.1 hd (fun j σ H1 => ∃ v5 v6 v7 v8 v9 v10 c' wl', (c', wl') = (movS (A.take j)).foldl (mv1 node) (c, wl) ∧ σ = [some (.ref d), some (.str s), some (.ref p), some (.ref wt), some (.str node), v5, v6, v7, v8, v9, v10] ∧ WS PaS H H1 p wt c' wl')
      ⟨_, _, _, _, _, _, c, wl, rfl, rfl, hw5⟩ (fun j σ H1 _ ⟨_, _, _, _, _, _, _, _, _, _, h⟩ => h.1) ?_ ?_
    · rintro j ky v σ H5 hj ⟨v5, v6, v7, v8, v9, v10, c', wl', hcw, rfl, hw6⟩
      obtain ⟨a, t, ha, rfl, rfl, ht⟩ := hk.at' hj
      have haA := mem_at ha
      obtain ⟨t', hg', ht'⟩ := (hA.same hw6.1).get hN haA
      refine gn ?_
      refine sq ?_
      refine ⟨_, rfl, _, rfl, d, _, rfl, hg', t', _, rfl, SqT.of ht', rfl, _, _, rfl, gn ⟨_, _, rfl, gn ⟨rfl, ?_⟩⟩⟩
      refine ds ?_
      -- the two moves
      refine ⟨_, rfl, _, rfl, by show 3 ≤ sizeLine; decide, fun t1 ht1 => ?_⟩
      refine ⟨_, rfl, _, rfl, _, rfl, by show 3 ≤ sizeLine; decide, fun t2 ht2 => ?_⟩
      refine ⟨by show 2 ≤ sizeLine; decide, fun tt htt => ?_⟩
      have f1 := Same.new (o := .tup [.str a.2.1, .str a.2.2, .int 1]) ht1
      have f2 := Same.new (o := .tup [.str a.2.2, .str a.2.1, .int (-1)]) ht2
      have f3 := Same.new (o := .tup [.ref t1, .ref t2]) htt
      have g1 := (f2.trans f3) _ _ (upd_same (H := H5) (a := t1) (o := .tup [.str a.2.1, .str a.2.2, .int 1]))
      have g2 := f3 _ _ (upd_same (H := upd H5 t1 (.tup [.str a.2.1, .str a.2.2, .int 1])) (a := t2) (o := .tup [.str a.2.2, .str a.2.1, .int (-1)]))
      have g3 := upd_same (H := upd (upd H5 t1 (.tup [.str a.2.1, .str a.2.2, .int 1])) t2 (.tup [.str a.2.2, .str a.2.1, .int (-1)])) (a := tt) (o := .tup [.ref t1, .ref t2])
      have hw7 := hw6.same paS_mono ((f1.trans f2).trans f3)
      have msub : ∀ m, ∀ x ∈ movS (A.take j) ++ [((a.2.1, a.2.2, (a.1, 1)) : Mv Str (Str × Int)), (a.2.2, a.2.1, (a.1, -1))].take m, x ∈ movS A := fun m x hx => by
        rcases List.mem_append.mp hx with z | z
        · exact movS_sub A j x z
        · have z := List.mem_of_mem_take z
          rcases List.mem_cons.mp z with z | z
          · exact mem_movS.mpr ⟨a, haA, .inl z⟩
          · exact mem_movS.mpr ⟨a, haA, .inr (List.mem_singleton.mp z)⟩
      refine ⟨tt, rfl, ⟨_, SqT.of g3⟩, for_tup (xs := [.ref t1, .ref t2]) (fun m σ H1 => ∃ v8 v9 v10 c'' wl'', (c'', wl'') = (movS (A.take j) ++ [((a.2.1, a.2.2, (a.1, 1)) : Mv Str (Str × Int)), (a.2.2, a.2.1, (a.1, -1))].take m).foldl (mv1 node) (c, wl) ∧
          σ = [some (.ref d), some (.str s), some (.ref p), some (.ref wt), some (.str node), some (.str a.1), some (.str a.2.1), some (.str a.2.2), v8, v9, v10] ∧ WS PaS H H1 p wt c'' wl'' ∧ H1 tt = some (.tup [.ref t1, .ref t2]) ∧ H1 t1 = some (.tup [.str a.2.1, .str a.2.2, .int 1]) ∧ H1 t2 = some (.tup [.str a.2.2, .str a.2.1, .int (-1)]))
        ⟨_, _, _, c', wl', by rw [List.take_zero, List.append_nil]; exact hcw, rfl, hw7, g3, g1, g2⟩ (fun m σ H1 _ ⟨_, _, _, _, _, _, _, _, h, _⟩ => SqT.of h) ?_ ?_⟩
      · rintro m y σ H6 hm ⟨v8, v9, v10, c2, wl2, hcw2, rfl, hw8, q3, q1, q2⟩
        have hy : ∃ (t' : Addr) (u v : Str) (sg : Int), y = .ref t' ∧ H6 t' = some (.tup [.str u, .str v, .int sg]) ∧ [((a.2.1, a.2.2, (a.1, 1)) : Mv Str (Str × Int)), (a.2.2, a.2.1, (a.1, -1))][m]? = some (u, v, (a.1, sg)) := by
          match m, hm with
          | 0, hm => exact ⟨t1, _, _, _, (Option.some.inj hm).symm, q1, rfl⟩
          | 1, hm => exact ⟨t2, _, _, _, (Option.some.inj hm).symm, q2, rfl⟩
        obtain ⟨t', u, v, sg, rfl, ht'', hms⟩ := hy
        have hf : (movS (A.take j) ++ [((a.2.1, a.2.2, (a.1, 1)) : Mv Str (Str × Int)), (a.2.2, a.2.1, (a.1, -1))].take (m + 1)).foldl (mv1 node) (c, wl) = mv1 node (c2, wl2) (u, v, (a.1, sg)) := by
          rw [take_snoc hms, ← List.append_assoc, fold_snoc, ← hcw2]
        have hm2 := hmid.all (msub m)
        have hmu3 := mu_fold (U := (movS A).map (·.2.1)) (node := node) (L := movS (A.take j) ++ [((a.2.1, a.2.2, (a.1, 1)) : Mv Str (Str × Int)), (a.2.2, a.2.1, (a.1, -1))].take m) (s := (c, wl)) fun x hx => List.mem_map.mpr ⟨x, msub m x hx, rfl⟩
        rw [← hcw2] at hm2 hmu3
        have hwl40 : wl2.length ≤ 80 := by
          have e : mu ((movS A).map (·.2.1)) c (node :: wl) = mu ((movS A).map (·.2.1)) c wl + 1 := by
            unfold mu
            rw [List.length_cons]
            omega
          have h1 : wl2.length ≤ mu ((movS A).map (·.2.1)) c2 wl2 := by unfold mu; omega
          dsimp only at hmu3
          omega
        have hsz : c2.length ≤ 41 := by
          have := hm2.size
          rw [len_movS] at this
          dsimp only at this
          omega
        have hnode : node ∈ ks c2 := hm2.at_
        obtain ⟨q, hq, hqm⟩ := lk_some hnode
        have hqlen := hm2.len _ _ hqm
        dsimp only at hqlen
        refine ⟨t', _, rfl, SqT.of ht'', rfl, _, _, rfl, gn ⟨_, _, rfl, gn ⟨_, _, rfl, gn ⟨rfl, ?_⟩⟩⟩⟩
        refine ifs ?_
        refine ⟨_, rfl, _, rfl, rfl, decide (u = node), ?_, ?_⟩
        · rw [dec_str]
          by_cases z : u = node <;> simp [z]
        have hno : ¬ (u = node ∧ v ∉ ks c2) → (c2, wl2) = (movS (A.take j) ++ [((a.2.1, a.2.2, (a.1, 1)) : Mv Str (Str × Int)), (a.2.2, a.2.1, (a.1, -1))].take (m + 1)).foldl (mv1 node) (c, wl) := fun h => by rw [hf, mv1_no h]
        by_cases z1 : u = node
        case neg =>
          rw [decide_eq_false z1]
          exact iteF (iteF ⟨_, _, _, c2, wl2, hno fun h => z1 h.1, rfl, hw8, q3, q1, q2⟩)
        rw [decide_eq_true z1]
        refine iteT ?_
        by_cases z2 : v ∈ ks c2
        · obtain ⟨q2', hq2, _⟩ := lk_some z2
          obtain ⟨a2, hga, _⟩ := hw8.get hq2
          exact ⟨_, rfl, _, rfl, p, _, rfl, hga, false, rfl, iteF ⟨_, _, _, c2, wl2, hno fun h => h.2 z2, rfl, hw8, q3, q1, q2⟩⟩
        have hq2 := lk_none.mpr z2
        refine ⟨_, rfl, _, rfl, p, _, rfl, hw8.nget hq2, true, rfl, iteT ?_⟩
        refine sq ?_
        obtain ⟨aq, hgq, ys, haq, hys⟩ := hw8.get hq
        have hyl : ys.length = q.length := Paired.length hys
        refine ⟨_, rfl, _, rfl, p, _, rfl, hgq, ?_⟩
        refine ⟨_, rfl, _, rfl, by show 2 ≤ sizeLine; decide, fun b0 hb0 => ?_⟩
        have e7 := Same.new (o := .tup [.str a.1, .int sg]) hb0
        refine ⟨by show 1 ≤ sizeLine; decide, fun b1 hb1 => ?_⟩
        have e8 := Same.new (o := .lst [.ref b0]) hb1
        have e78 := e7.trans e8
        refine ⟨aq, b1, ys, [.ref b0], rfl, rfl, e78 _ _ (off_le _ _ haq), upd_same, small_le (by show ys.length + 1 ≤ _; omega), fun b2 hb2 => ?_⟩
        have e9 := Same.new (o := .lst (ys ++ [.ref b0])) hb2
        have e79 := e78.trans e9
        have hw9 := hw8.same paS_mono e79
        have hb2w : b2 ∉ [p, wt] := (hw8.same paS_mono e78).fresh hb2
        have hb0w : b0 ∉ [p, wt] := hw8.fresh hb0
        obtain ⟨H9, hput, hw10, o9⟩ := hw9.put paS_mono (q := q ++ [(a.1, sg)]) (a := b2) hq2 (by omega) ⟨ys ++ [.ref b0], by rw [off_at hb2w]; exact upd_same, paired_app (tag_same (off_mono e79) hys) (.cons ⟨b0, rfl, by rw [off_at hb0w]; exact (e8.trans e9) _ _ upd_same⟩ .nil)⟩
        refine ⟨_, rfl, _, rfl, p, H9, rfl, hput, ?_⟩
        obtain ⟨hwl9, hw11⟩ := hw10.push paS_mono v
        have keep : ∀ (b : Addr) (xs : List V), H6 b = some (.tup xs) → upd H9 wt (.lst (wl2.map V.str ++ [.str v])) b = some (.tup xs) := fun b xs hb => by
          have hb' : b ∉ [p, wt] := by
            obtain ⟨_, _, _, _, kv, x1, x2, _⟩ := hw8
            intro z
            rcases List.mem_cons.mp z with z | z
            · rw [z, x1] at hb; cases hb
            · rw [List.mem_singleton.mp z, x2] at hb; cases hb
          have r1 := o9 b (.tup xs) (by rw [off_at hb']; exact e79 _ _ hb)
          rw [off_at hb'] at r1
          have hbw : b ≠ wt := fun z => hb' (by simp [z])
          rw [upd_ne hbw]
          exact r1
        refine ds (drop ?_)
        refine ⟨_, rfl, .inl ⟨rfl, _, SqL.of hwl9⟩, _, rfl, wt, _, _, rfl, rfl, hwl9, by rw [List.length_map]; exact small_lt (by omega), ?_⟩
        exact ⟨_, _, _, _, _, by rw [hf, mv1_yes ⟨z1, z2⟩ hq], rfl, hw11, keep _ _ q3, keep _ _ q1, keep _ _ q2⟩
      · rintro σ H6 ⟨v8, v9, v10, c2, wl2, hcw2, rfl, hw8, q3, q1, q2⟩
        refine ⟨_, _, _, _, _, _, c2, wl2, ?_, rfl, hw8⟩
        rw [hcw2, movS_snoc ha]
        rfl
    · rintro σ H5 ⟨v5, v6, v7, v8, v9, v10, c', wl', hcw, rfl, hw6⟩
      refine ⟨_, _, _, _, _, _, _, c', wl', ?_, rfl, hw6⟩
      rw [hcw, List.take_of_length_le (by omega)]
      rfl
end
end K25

namespace K25
open PySem PySem.Spec PyProof.Rows L2
section
variable {P : Program} {w : World} {K : PySem.W.Frag} {mg : Str → Option Value} {base : Heap} {C : Addr}
theorem isn {ta : TE} {σ : L2.St} {H : Hp} {Q : VK} (h : ta σ H fun x H1 => Q (.bl (decide (x = .non))) H1) : tIsN ta σ H Q := h
theorem ntn {ta : TE} {σ : L2.St} {H : Hp} {Q : VK} (h : ta σ H fun x H1 => Q (.bl (!decide (x = .non))) H1) : tNotN ta σ H Q := h
/-! ### a way between -/
def OArcs (H : Hp) (d : Addr) (A : List (Arc Str)) : Prop := ∃ kvs, H d = some (.dK kvs) ∧ ArcsK H kvs A
theorem OArcs.same {H H' : Hp} {d : Addr} {A : List (Arc Str)} (e : Same H H') (h : OArcs H d A) : OArcs H' d A := by
  obtain ⟨kvs, h1, h2⟩ := h
  exact ⟨kvs, e _ _ h1, h2.same e⟩
def WayV (H : Hp) (v : V) (r : Option (List (Str × Int))) : Prop := match r with
  | none => v = .non
  | some q => ∃ a ys, v = .ref a ∧ H a = some (.lst ys) ∧ Paired (TagAt H) ys q ∧ q.length ≤ 40
def spBetween : Sp := fun vs H Q _ => ∃ (d : Addr) (A : List (Arc Str)) (s g : Str), vs = [.ref d, .str s, .str g] ∧ OArcs H d A ∧ Names A ∧ A.length ≤ 20 ∧
  ∀ (c : Came Str (Str × Int)) (v : V) (H' : Hp), Done (movS A) s c → Same H H' → WayV H' v (lk c g) → Q v H'
theorem came_get {H : Hp} {p : Addr} {kvs : List (Key × V)} {A : List (Arc Str)} {s : Str} {c : Came Str (Str × Int)} (hA : A.length ≤ 20) (h : H p = some (.dK kvs)) (hc : CameK PaS H kvs c) (d : Done (movS A) s c) (g : Str) : ∃ o, DGet H p (.str g) o ∧ WayV H (o.getD .non) (lk c g) := by
  rcases hc.val g with ⟨i1, i2⟩ | ⟨q, a, i1, i2, ys, i3, i4⟩
  · exact ⟨none, .inl ⟨kvs, Sum.inr g, .inl h, rfl, i2.symm⟩, by rw [i1]; rfl⟩
  · refine ⟨some (.ref a), .inl ⟨kvs, Sum.inr g, .inl h, rfl, i2.symm⟩, ?_⟩
    rw [i1]
    have h1 := d.inv.len _ _ (lk_mem i1)
    have h2 := d.inv.size
    rw [len_movS] at h2
    exact ⟨a, ys, rfl, i3, i4, by omega⟩
abbrev N_way_between : List Str := ["pairs", "start", "goal"]
theorem sc_way_between : FnScope N_way_between ["pairs", "start", "goal"] (defScope s_way_between) := ⟨rfl, rfl, rfl, by decide +kernel, rfl, by decide +kernel, by decide +kernel⟩
theorem cal_way_between (T : Txt K mg C) (F : Has K mg "way_between" s_way_between) (c_ways_from : Cal P w K mg base "ways_from" 1 ["pairs", "start"] spFrom) : Cal P w K mg base "way_between" 2 ["pairs", "start", "goal"] spBetween := by
  refine F.cal sc_way_between (fun vs H Q E h => by obtain ⟨d, A, s, g, rfl, _⟩ := h; rfl) (fun _ _ _ _ _ _ us hl => match us, hl with | [_, _, _], _ => rfl) (fun fa cdv Ar outer s0 H vs Q E hr h => ?_)
  obtain ⟨d, A, s, g, rfl, hA, hN, hA20, k⟩ := h
  refine ⟨_, pss_one (ps_ret (pe_dget1 (hu_of hr) (pe_callC c_ways_from (hr.mono (by decide)) (by rfl) (pa_cons (pv 0) (pa_cons (pv 1) pa_nil))) (pv 2) ⟨rfl, rfl, rfl, rfl⟩)), ?_⟩
  refine ⟨_, rfl, _, rfl, d, A, s, rfl, hA, hN, hA20, fun c p kvs H1 hc e1 hp h1 hk => ?_⟩
  obtain ⟨o, ho, hv⟩ := came_get hA20 h1 hk hc g
  exact ⟨p, rfl, .inl ⟨_, .inl h1⟩, _, rfl, o, ho, k c _ H1 hc e1 hv⟩
/-! ### the net -/
def RingV (H : Hp) (v : V) (r : Option (List Str)) : Prop := match r with
  | none => v = .non
  | some q => ∃ b, v = .ref b ∧ H b = some (.lst (q.map V.str))
theorem RingV.same {H H' : Hp} {v : V} {r : Option (List Str)} (e : Same H H') (h : RingV H v r) : RingV H' v r := by
  cases r with
  | none => exact h
  | some q =>
    obtain ⟨b, h1, h2⟩ := h
    exact ⟨b, h1, e _ _ h2⟩
def RingsK (H : Hp) (kvs : List (Key × V)) (A : List (Arc Str)) (R : Str → Option (List Str)) : Prop := Paired (fun (kv : Key × V) (a : Arc Str) => kv.1 = Sum.inr a.1 ∧ RingV H kv.2 (R a.1)) kvs A
theorem RingsK.same {H H' : Hp} {kvs : List (Key × V)} {A : List (Arc Str)} {R : Str → Option (List Str)} (e : Same H H') (h : RingsK H kvs A R) : RingsK H' kvs A R := Paired.mapP h fun _ _ ⟨a, b⟩ => ⟨a, b.same e⟩
theorem RingsK.val {H : Hp} {kvs : List (Key × V)} {A : List (Arc Str)} {R : Str → Option (List Str)} (h : RingsK H kvs A R) {a : Arc Str} (ha : a ∈ A) : ∃ v, valV kvs (Sum.inr a.1) = some v ∧ RingV H v (R a.1) := by
  unfold RingsK at h
  induction h with
  | nil => exact absurd ha (by simp)
  | @cons kv b _ _ h _ ih =>
    by_cases e : b.1 = a.1
    · exact ⟨kv.2, valV_pos (by rw [h.1, e]), by rw [← e]; exact h.2⟩
    · rcases List.mem_cons.mp ha with q | q
      · exact absurd (by rw [q]) e
      · rw [valV_neg (fun z => e (Sum.inr.inj (h.1.symm.trans z)))]
        exact ih q
def RingsOk (A : List (Arc Str)) (R : Str → Option (List Str)) : Prop := ∀ a ∈ A, RingOk A a (R a.1) ∧ ∀ q, R a.1 = some q → q.length ≤ 20
def FRings (H : Hp) (d : Addr) (A : List (Arc Str)) (R : Str → Option (List Str)) : Prop := ∃ o kvs, H d = some (.frz o (.dK kvs)) ∧ RingsK H kvs A R
theorem FRings.get {H : Hp} {d : Addr} {A : List (Arc Str)} {R : Str → Option (List Str)} (h : FRings H d A R) {a : Arc Str} (ha : a ∈ A) : ∃ v, DGet H d (.str a.1) (some v) ∧ RingV H v (R a.1) := by
  obtain ⟨o, kvs, h1, h2⟩ := h
  obtain ⟨v, h3, h4⟩ := h2.val ha
  exact ⟨v, .inl ⟨kvs, Sum.inr a.1, .inr ⟨o, h1⟩, rfl, h3.symm⟩, h4⟩
theorem FRings.same {H H' : Hp} {d : Addr} {A : List (Arc Str)} {R : Str → Option (List Str)} (e : Same H H') (h : FRings H d A R) : FRings H' d A R := by
  obtain ⟨o, kvs, h1, h2⟩ := h
  exact ⟨o, kvs, e _ _ h1, h2.same e⟩
def nfs (da dn dr : Addr) : List (Str × V) := [("own_arcs", .ref da), ("own_nodes", .ref dn), ("own_rings", .ref dr)]
def NetAt (C : Addr) (H : Hp) (n : Addr) (A : List (Arc Str)) (R : Str → Option (List Str)) : Prop := ∃ dx da dn dr, H n = some (.ins C dx (nfs da dn dr)) ∧ FArcs H da A ∧ H dn = some (.lst ((nodesOf A).map V.str)) ∧ FRings H dr A R
theorem NetAt.same {H H' : Hp} {n : Addr} {A : List (Arc Str)} {R : Str → Option (List Str)} (e : Same H H') (h : NetAt C H n A R) : NetAt C H' n A R := by
  obtain ⟨dx, da, dn, dr, h1, h2, h3, h4⟩ := h
  exact ⟨dx, da, dn, dr, e _ _ h1, h2.same e, e _ _ h3, h4.same e⟩
def NetG (A : List (Arc Str)) (R : Str → Option (List Str)) : Prop := Names A ∧ A.length ≤ 7 ∧ RingsOk A R
def spQuest : Sp := fun vs H Q _ => ∃ (n : Addr) (A : List (Arc Str)) (R : Str → Option (List Str)), vs = [.ref n] ∧ NetAt C H n A R ∧ ∀ p H', H p = none → Same H H' → H' p = some (.lst ((A.map (·.1)).map V.str)) → Q (.ref p) H'
abbrev N_mquestions : List Str := ["self"]
theorem sc_mquestions : FnScope N_mquestions ["self"] (defScope m_questions) := ⟨rfl, rfl, rfl, by decide +kernel, rfl, by decide +kernel, by decide +kernel⟩
theorem lk_A (da dn dr : Addr) : (nfs da dn dr).lookup ("own_arcs" : Str) = some (V.ref da) := by rfl
theorem lk_N (da dn dr : Addr) : (nfs da dn dr).lookup ("own_nodes" : Str) = some (V.ref dn) := by rfl
theorem lk_R (da dn dr : Addr) : (nfs da dn dr).lookup ("own_rings" : Str) = some (V.ref dr) := by rfl
theorem arcs_keys {H : Hp} {kvs : List (Key × V)} {A : List (Arc Str)} (h : ArcsK H kvs A) : (kvs.map fun kv => kV kv.1) = (A.map (·.1)).map V.str := by
  unfold ArcsK at h
  induction h with
  | nil => rfl
  | @cons kv a _ _ h _ ih =>
    rw [List.map_cons, List.map_cons, List.map_cons, ih, h.1]
    rfl
theorem cal_mquestions (T : Txt K mg C) (F : HasM K C "questions" "Net.questions" m_questions) : CalM P w K mg base C "questions" 1 ["self"] (spQuest (C := C)) := by
  refine F.cal sc_mquestions (fun vs H Q E h => by obtain ⟨n, A, R, rfl, _⟩ := h; rfl) (fun _ _ _ _ _ _ us hl => match us, hl with | [_], _ => rfl) (fun fa cdv Ar outer s0 H vs Q E hr h => ?_)
  obtain ⟨n, A, R, rfl, ⟨dx, da, dn, dr, h1, ⟨o, kvs, h2, h3⟩, _, _⟩, k⟩ := h
  refine ⟨_, pss_one (ps_ret (pe_callTy (listD rfl) (by rfl) T.list bt_list (pa_cons (pefld K (pv 0)) pa_nil))), ?_⟩
  refine ret (cb (ac ?_))
  refine val_fld (val_var rfl) h1 T.cl T.nA (K25.lk_A _ _ _) _ ?_
  refine ⟨da, kvs, rfl, .inr ⟨o, h2⟩, fun p hp => k p _ hp (Same.new hp) ?_⟩
  rw [upd_same, arcs_keys h3]
/-! live names -/
def spMLive : Sp := fun vs H Q _ => ∃ (n : Addr) (A : List (Arc Str)) (R : Str → Option (List Str)), vs = [.ref n] ∧ NetAt C H n A R ∧ NetG A R ∧ ∀ p H', H p = none → Same H H' → H' p = some (.lst (((A.filter (liveB A)).map (·.1)).map V.str)) → Q (.ref p) H'
abbrev N_mlive : List Str := ["self", "name"]
theorem sc_mlive : FnScope N_mlive ["self"] (defScope m_live) := ⟨rfl, rfl, rfl, by decide +kernel, rfl, by decide +kernel, by decide +kernel⟩
theorem cal_mlive (T : Txt K mg C) (F : HasM K C "live" "Net.live" m_live) : CalM P w K mg base C "live" 1 ["self"] (spMLive (C := C)) := by
  refine F.cal sc_mlive (fun vs H Q E h => by obtain ⟨n, A, R, rfl, _⟩ := h; rfl) (fun _ _ _ _ _ _ us hl => match us, hl with | [_], _ => rfl) (fun fa cdv Ar outer s0 H vs Q E hr h => ?_)
  obtain ⟨n, A, R, rfl, ⟨dx, da, dn, dr, h1, ⟨o, kvs, h2, h3⟩, h4, h5⟩, ⟨hN, hA7, hR⟩, k⟩ := h
  have hl := h3.len
  refine ⟨_, pss_one (ps_ret (pe_lc (own := [("name", 1)]) rfl sc_mlive.nd (pi_keys (pefld K (pv 0))) (blkOk_by (N := N_mlive) (sc := defScope m_live) (by decide +kernel)) (fun _ _ _ _ _ => (pg_name (i := 1) sc_mlive.nd rfl (Or.inl rfl))) (fun _ _ _ _ _ => (pts_one (pt_cmp (pc_notN (pe_dget (hu_of hr) (pefld K (pv 0)) (pv 1) (fun _ _ => rfl)))))) (fun _ _ _ _ _ => (pv 1)))), ?_⟩
  refine ret ?_
  refine lc_keys (cA A (liveB A)) (fA A fun a => V.str a.1) (val_fld (val_var rfl) h1 T.cl T.nA (K25.lk_A _ _ _)) h2 (by omega) ?_ fun p H2 hp e h => ?_
  · rintro i ky v H2 hi e R' R2 hR1 hR2
    obtain ⟨a, t, ha, rfl, rfl, ht⟩ := h3.at' hi
    rw [cA_eq ha] at hR1 hR2
    rw [fA_eq ha] at hR1
    refine gn ⟨rfl, ?_⟩
    obtain ⟨v, hg, hv⟩ := (h5.same e).get (mem_at ha)
    have hlive := (hR a (mem_at ha)).1.live
    refine tst (ntn ?_)
    refine val_dget (val_fld (val_var rfl) (e _ _ h1) T.cl T.nR (K25.lk_R _ _ _)) (val_var rfl) hg _ ?_
    refine ⟨liveB A a, ?_, ?_⟩
    · cases hr : R a.1 with
      | none =>
        rw [hr] at hv hlive
        have hv : v = .non := hv
        rw [hv, ← hlive]
        rfl
      | some q =>
        rw [hr] at hv hlive
        obtain ⟨b, hv, _⟩ := hv
        rw [hv, ← hlive]
        rfl
    · cases q1 : liveB A a with
      | true => exact iteT ⟨_, rfl, hR1 q1 _ (Same.refl _)⟩
      | false => exact iteF (hR2 q1 _ (Same.refl _))
  · rw [hl, gath_of] at h
    exact k p H2 hp e (by rw [h, List.map_map]; rfl)
end
end K25

namespace K25
open PySem PySem.Spec PyProof.Rows L2
section
variable {P : Program} {w : World} {K : PySem.W.Frag} {mg : Str → Option Value} {base : Heap} {C : Addr}
/-! ### left open -/
def opB (Ks : List Str) (x : Str) (a : Arc Str) : Bool := !decide (a.1 ∈ Ks) && !decide (a.1 = x)
theorem open_filter (A : List (Arc Str)) (Ks : List Str) (x : Str) : (A.filter (liveB A)).filter (opB Ks x) = openA A Ks x := by
  rw [List.filter_filter]
  unfold openA opB
  refine List.filter_congr fun a _ => ?_
  exact Bool.and_comm _ _
theorem dc_lst {H H0 : Hp} {a : Addr} {xs : List V} {td : TE} {g : TG} {tt : TT} {tk tv : TE} {vs : List Nat} {σ : L2.St} {Q : VK} (Acc : Nat → List (Key × V) → Prop) (hv : Val td σ H (.ref a)) (ha : H a = some (.lst xs)) (hn : xs.length < 100000) (len : ∀ i ys, Acc i ys → ys.length ≤ i) (h0 : Acc 0 [])
    (hs : ∀ i x H2 ys, xs[i]? = some x → Same H H2 → Acc i ys → ∀ (R : V → V → Hp → Prop) (R' : Hp → Prop),
      (∀ k z H5, Same H2 H5 → Acc (i + 1) (putK ys k z) → R (kV k) z H5) → (∀ H3, Same H2 H3 → Acc (i + 1) ys → R' H3) →
      g x (wipe σ vs) H2 fun σ2 H2 => wipe σ2 vs = wipe σ vs ∧ tt σ2 H2 fun b H3 => if b = true then tk σ2 H3 fun y H4 => tv σ2 H4 fun z H5 => R y z H5 else R' H3)
    (hd : ∀ p ys H2, H p = none → Same H H2 → H2 p = some (.dK ys) → Acc xs.length ys → Q (.ref p) H2) : tDc (iList K td) g tt tk tv vs σ H Q :=
  hv _ ⟨a, rfl, ⟨xs, SqL.of ha⟩, fun p hp => dcA (walk_list (xs := xs)) (fun i ys _ => Acc i ys) (Same.refl H) hp (small_lt hn) (fun i ys _ h => len i ys h) (fun _ _ _ _ _ h => h) h0 (fun H2 e => SqL.of (e _ _ ha))
    (fun i x H2 H3 ys hi e hD0 hDy hA ⟨e1, hx⟩ R R' hR hR' => by
      subst e1
      exact hs i x _ ys hx e hA R R' (fun k z H5 e5 h5 => hR k z H5 (e.trans e5) (e5 _ _ hDy) h5) (fun H4 e4 h4 => hR' H4 (e.trans e4) (e4 _ _ hDy) h4))
    (fun ys H2 e hy hA => hd p ys H2 hp e hy hA)⟩
theorem dc_keys {H H0 : Hp} {d : Addr} {o : Obj} {kvs : List (Key × V)} {td : TE} {g : TG} {tt : TT} {tk tv : TE} {vs : List Nat} {σ : L2.St} {Q : VK} (Acc : Nat → List (Key × V) → Prop) (hv : Val td σ H (.ref d)) (hd0 : H d = some (.frz o (.dK kvs))) (hn : kvs.length < 100000) (len : ∀ i ys, Acc i ys → ys.length ≤ i) (h0 : Acc 0 [])
    (hs : ∀ i k v H2 ys, kvs[i]? = some (k, v) → Same H H2 → Acc i ys → ∀ (R : V → V → Hp → Prop) (R' : Hp → Prop),
      (∀ k z H5, Same H2 H5 → Acc (i + 1) (putK ys k z) → R (kV k) z H5) → (∀ H3, Same H2 H3 → Acc (i + 1) ys → R' H3) →
      g (kV k) (wipe σ vs) H2 fun σ2 H2 => wipe σ2 vs = wipe σ vs ∧ tt σ2 H2 fun b H3 => if b = true then tk σ2 H3 fun y H4 => tv σ2 H4 fun z H5 => R y z H5 else R' H3)
    (hd : ∀ p ys H2, H p = none → Same H H2 → H2 p = some (.dK ys) → Acc kvs.length ys → Q (.ref p) H2) : tDc (iKeys td) g tt tk tv vs σ H Q :=
  hv _ ⟨d, o, rfl, .inl ⟨kvs, hd0, fun p hp => dcA (walk_keys (d := d) (o := o) (kvs := kvs)) (fun i ys _ => Acc i ys) (Same.refl H) hp (small_lt hn) (fun i ys _ h => len i ys h) (fun _ _ _ _ _ h => h) h0 (fun H2 e => e _ _ hd0)
    (fun i x H2 H3 ys hi e hD0 hDy hA ⟨e1, k, v, hx, ex⟩ R R' hR hR' => by
      subst e1 ex
      exact hs i k v _ ys hx e hA R R' (fun k z H5 e5 h5 => hR k z H5 (e.trans e5) (e5 _ _ hDy) h5) (fun H4 e4 h4 => hR' H4 (e.trans e4) (e4 _ _ hDy) h4))
    (fun ys H2 e hy hA => hd p ys H2 hp e hy hA)⟩⟩
def spOpen : Sp := fun vs H Q _ => ∃ (n kn : Addr) (x : Str) (A : List (Arc Str)) (R : Str → Option (List Str)) (Ks : List Str), vs = [.ref n, .ref kn, .str x] ∧ NetAt C H n A R ∧ NetG A R ∧ H kn = some (.lst (Ks.map V.str)) ∧
  ∀ d H', H d = none → Same H H' → OArcs H' d (openA A Ks x) → Q (.ref d) H'
abbrev N_mleft_open : List Str := ["self", "known", "asked", "name"]
theorem sc_mleft_open : FnScope N_mleft_open ["self", "known", "asked"] (defScope m_left_open) := ⟨rfl, rfl, rfl, by decide +kernel, rfl, by decide +kernel, by decide +kernel⟩
theorem cal_mleft_open (T : Txt K mg C) (F : HasM K C "left_open" "Net.left_open" m_left_open) (mc_live : CalM P w K mg base C "live" 1 ["self"] (spMLive (C := C))) : CalM P w K mg base C "left_open" 2 ["self", "known", "asked"] (spOpen (C := C)) := by
  refine F.cal sc_mleft_open (fun vs H Q E h => by obtain ⟨n, kn, x, A, R, Ks, rfl, _⟩ := h; rfl) (fun _ _ _ _ _ _ us hl => match us, hl with | [_, _, _], _ => rfl) (fun fa cdv Ar outer s0 H vs Q E hr h => ?_)
  obtain ⟨n, kn, x, A, R, Ks, rfl, hnet, hG, hkn, k⟩ := h
  obtain ⟨dx, da, dn, dr, h1, h2, h4, h5⟩ := id hnet
  obtain ⟨hN, hA7, hR⟩ := id hG
  refine ⟨_, pss_one (ps_ret (pe_dc (own := [("name", 3)]) rfl sc_mleft_open.nd (pilist K (pe_methC0 (pv 0) T.cl mc_live (hr.mono (by decide)))) (blkOk_by (N := N_mleft_open) (sc := defScope m_left_open) (by decide +kernel)) (fun _ _ _ _ _ => (pg_name (i := 3) sc_mleft_open.nd rfl (Or.inl rfl))) (fun _ _ _ _ _ => (pts_one (PW.pt (pw_and (pt_cmpR (niQ K) (pv 3) (pv 1) rfl) (pw_and1 (pt_cmpR op_ne (pv 3) (pv 2) (nomark _))))))) (fun _ _ _ _ _ => (pv 3)) (fun _ _ _ _ _ => (pe_dget (hu_of hr) (pefld K (pv 0)) (pv 3) (fun _ _ => rfl))))), ?_⟩
  refine ret ?_
  have hLn : (A.filter (liveB A)).length ≤ 7 := Nat.le_trans (List.length_filter_le _ _) hA7
  refine ⟨_, rfl, n, dx, _, rfl, h1, rfl, n, A, R, rfl, hnet, hG, fun p H1 hp e1 hp1 => ?_⟩
  refine dc_lst (H0 := H) (xs := ((A.filter (liveB A)).map (·.1)).map V.str) (td := fun σ H Q => Q (.ref p) H) (fun i ys => ArcsK H ys (((A.filter (liveB A)).take i).filter (opB Ks x))) (fun Q q => q) hp1 (by simp; omega) ?_ .nil ?_ ?_
  · intro i ys h
    have h6 := h.len
    have h7 := List.length_filter_le (opB Ks x) ((A.filter (liveB A)).take i)
    have h8 := List.length_take_le i (A.filter (liveB A))
    omega
  · rintro i y H2 ys hi e hA R1 R2 hR1 hR2
    rw [List.map_map, List.getElem?_map] at hi
    obtain ⟨b, hb, rfl⟩ := Option.map_eq_some_iff.mp hi
    have hbA : b ∈ A := (List.mem_filter.mp (mem_at hb)).1
    have e12 := e1.trans e
    have hfs : ((A.filter (liveB A)).take (i + 1)).filter (opB Ks x) = ((A.filter (liveB A)).take i).filter (opB Ks x) ++ if opB Ks x b = true then [b] else [] := by
      rw [take_snoc hb, List.filter_append, List.filter_cons, List.filter_nil]
    refine gn ⟨rfl, ?_⟩
    refine ⟨_, rfl, _, rfl, kn, _, rfl, .inl (SqL.of (e12 _ _ hkn)), rfl, flat_strs _, !decide (b.1 ∈ Ks), ?_, ?_⟩
    · show V.bl (!inV (.str b.1) (Ks.map V.str)) = _
      rw [inV_str]
    have hno : opB Ks x b = false → R2 H2 := fun h => hR2 H2 (Same.refl _) (by rw [hfs, h, if_neg (by decide), List.append_nil]; exact hA)
    by_cases q1 : b.1 ∈ Ks
    · rw [decide_eq_true q1]
      refine iteF (iteF (hno (by unfold opB; rw [decide_eq_true q1]; rfl)))
    rw [decide_eq_false q1]
    refine iteT ⟨_, rfl, _, rfl, rfl, !decide (b.1 = x), ?_, ?_⟩
    · show V.bl (!decide (V.str b.1 = V.str x)) = _
      rw [dec_str]
      by_cases q : b.1 = x <;> simp [q]
    by_cases q2 : b.1 = x
    · rw [decide_eq_true q2]
      exact iteF (hno (by unfold opB; rw [decide_eq_true q2]; simp))
    rw [decide_eq_false q2]
    refine iteT ?_
    have hob : opB Ks x b = true := by unfold opB; rw [decide_eq_false q1, decide_eq_false q2]; rfl
    obtain ⟨t, hg, _⟩ := (h2.same e12).get hN hbA
    obtain ⟨t0, hg0, ht0⟩ := h2.get hN hbA
    obtain ⟨o, kvs, h2a, h2b⟩ := h2
    obtain ⟨t1, h2c, h2d⟩ := h2b.val hN hbA
    have hg1 : DGet H2 da (.str b.1) (some (.ref t1)) := .inl ⟨kvs, Sum.inr b.1, .inr ⟨o, e12 _ _ h2a⟩, rfl, h2c.symm⟩
    refine ⟨_, rfl, ?_⟩
    refine val_dget (val_fld (val_var rfl) (e12 _ _ h1) T.cl T.nA (K25.lk_A _ _ _)) (val_var rfl) hg1 _ ?_
    refine hR1 (Sum.inr b.1) _ H2 (Same.refl _) ?_
    have hni : b.1 ∉ (((A.filter (liveB A)).take i).filter (opB Ks x)).map (·.1) := fun z => by
      obtain ⟨c, hc, ec⟩ := List.mem_map.mp z
      have hc2 := (List.mem_filter.mp hc).1
      have hN2 := names_filter hN (liveB A)
      have hn3 : b.1 ∉ ((A.filter (liveB A)).map (·.1)).take i := nodup_take_not hN2 (by rw [List.getElem?_map, hb]; rfl)
      rw [← List.map_take] at hn3
      exact hn3 (List.mem_map.mpr ⟨c, hc2, ec⟩)
    rw [putK_new _ (hA.none hni), hfs, if_pos hob]
    exact hA.snoc h2d
  · rintro d ys H2 hd e hdy hA
    rw [List.length_map, List.length_map, List.take_length, open_filter] at hA
    exact k d H2 (e1.free hd) (e1.trans e) ⟨ys, hdy, hA.same (e1.trans e)⟩
end
end K25

namespace K25
open PySem PySem.Spec PyProof.Rows L2
section
variable {P : Program} {w : World} {K : PySem.W.Frag} {mg : Str → Option Value} {base : Heap} {C : Addr}
/-! ### the home world -/
theorem wkv_put {A : List (Arc Str)} {n : Str} (hn : n ∈ A.map (·.1)) (f : Str → Int) (m : Int) : putK (wkv A f) (Sum.inr n) (.int m) = wkv A fun k => if k = n then m else f k := by
  have hany : ((wkv A f).any fun kv => decide (kv.1 = Sum.inr n)) = true := by
    obtain ⟨a, ha, e⟩ := List.mem_map.mp hn
    refine List.any_eq_true.mpr ⟨(Sum.inr a.1, V.int (f a.1)), List.mem_map.mpr ⟨a, ha, rfl⟩, decide_eq_true (by rw [e])⟩
  unfold putK
  rw [if_pos hany]
  unfold wkv
  rw [List.map_map]
  refine List.map_congr_left fun a _ => ?_
  show (if (Sum.inr a.1 : Key) = Sum.inr n then ((Sum.inr a.1 : Key), V.int m) else (Sum.inr a.1, V.int (f a.1))) = (Sum.inr a.1, V.int (if a.1 = n then m else f a.1))
  by_cases q : a.1 = n
  · rw [if_pos (by rw [q]), if_pos q]
  · rw [if_neg (fun z => q (Sum.inr.inj z)), if_neg q]
theorem wkv_bump {A : List (Arc Str)} {l : Str × Int} (hn : l.1 ∈ A.map (·.1)) (f : Str → Int) : putK (wkv A f) (Sum.inr l.1) (.int (f l.1 + l.2)) = wkv A (bump f l) := by
  rw [wkv_put hn]
  congr 1
  funext k
  unfold bump
  by_cases q : k = l.1
  · rw [if_pos q, if_pos q, q]
  · rw [if_neg q, if_neg q]
theorem path_names {M : List (Mv Str β)} {s v : Str} {p : List β} (h : MPath M s v p) : ∀ l ∈ p, ∃ m ∈ M, m.2.2 = l := by
  induction h with
  | here => intro l hl; exact absurd hl (by simp)
  | @step u p m _ hm _ ih =>
    intro l hl
    rcases List.mem_append.mp hl with q | q
    · exact ih l q
    · exact ⟨m, hm, (List.mem_singleton.mp q).symm⟩
theorem ring_names {A : List (Arc Str)} {a : Arc Str} {q : List Str} (h : RingOk A a (some q)) : ∀ l ∈ q, l ∈ A.map (·.1) := fun l hl => by
  obtain ⟨m, hm, e⟩ := path_names (show MPath (movF A) a.2.2 a.2.1 q from h) l hl
  obtain ⟨b, hb, rfl⟩ := mem_movF.mp hm
  exact List.mem_map.mpr ⟨b, hb, e⟩
theorem homeX_live {A : List (Arc Str)} {R : Str → Option (List Str)} (hR : RingsOk A R) : homeX A R = (A.filter (liveB A)).foldl (homeStep R) fun _ => 0 := by
  unfold homeX
  rw [List.filter_congr fun a ha => (hR a ha).1.live]
def spHome : Sp := fun vs H Q _ => ∃ (n : Addr) (A : List (Arc Str)) (R : Str → Option (List Str)), vs = [.ref n] ∧ NetAt C H n A R ∧ NetG A R ∧ ∀ d H', H d = none → Same H H' → WorldAt H' d A (homeX A R) → Q (.ref d) H'
abbrev N_mhome : List Str := ["self", "found", "name", "step"]
theorem sc_mhome : FnScope N_mhome ["self"] (defScope m_home) := ⟨rfl, rfl, rfl, by decide +kernel, rfl, by decide +kernel, by decide +kernel⟩
theorem cal_mhome (T : Txt K mg C) (F : HasM K C "home" "Net.home" m_home) (mc_live : CalM P w K mg base C "live" 1 ["self"] (spMLive (C := C))) : CalM P w K mg base C "home" 2 ["self"] (spHome (C := C)) := by
  refine F.cal sc_mhome (fun vs H Q E h => by obtain ⟨n, A, R, rfl, _⟩ := h; rfl) (fun _ _ _ _ _ _ us hl => match us, hl with | [_], _ => rfl) (fun fa cdv Ar outer s0 H vs Q E hr h => ?_)
  obtain ⟨n, A, R, rfl, hnet, hG, k⟩ := h
  obtain ⟨dx, da, dn, dr, h1, ⟨o, kvs, h2, h3⟩, h4, h5⟩ := id hnet
  obtain ⟨hN, hA7, hR⟩ := id hG
  have hl := h3.len
  refine ⟨_, pss_cons (ps_setDc (i := 1) (own := [("name", 2)]) rfl sc_mhome.nd rfl rfl (sw_trueD rfl rfl rfl (by decide +kernel)) (pi_keys (pefld K (pv 0))) (blkOk_by (N := N_mhome) (sc := defScope m_home) (by decide +kernel)) (fun _ _ _ _ _ => (pg_name (i := 2) sc_mhome.nd rfl (Or.inl rfl))) (fun _ _ _ _ _ => pts_nil) (fun _ _ _ _ _ => (pv 2)) (fun _ _ _ _ _ => pe_int))
    (pss_cons (ps_for PassesOwn.never rfl (pilist K (pe_methC0 (pv 0) T.cl mc_live (hr.mono (by decide)))) (pg_name (i := 2) sc_mhome.nd rfl (Or.inl rfl)) (pss_one (ps_for PassesOwn.never rfl (pilist K (pe_op op_cat (pe_lst (pa_cons (pv 2) pa_nil)) (pe_dget (hu_of hr) (pefld K (pv 0)) (pv 2) (fun _ _ => rfl)))) (pg_name (i := 3) sc_mhome.nd rfl (Or.inl rfl)) (pss_one (ps_dput (hu_of hr) (pv 1) (pv 3) (pe_op op_add (pe_dget (hu_of hr) (pv 1) (pv 3) (fun _ _ => rfl)) pe_int) rfl)))))
    (pss_one (ps_ret (pv 1)))), ?_⟩
  refine sq ?_
  refine asg ?_
  refine dc_keys (H0 := H) (fun i ys => ys = wkv (A.take i) fun _ => 0) (val_fld (val_var rfl) h1 T.cl T.nA (K25.lk_A _ _ _)) h2 (by omega) ?_ rfl ?_ ?_
  · rintro i ys rfl
    rw [wkv_len]
    exact List.length_take_le i A
  · rintro i ky v H2 ys hi e rfl R1 R2 hR1 hR2
    obtain ⟨a, t, ha, rfl, rfl, ht⟩ := h3.at' hi
    refine gn ⟨rfl, yesT ⟨_, rfl, ?_⟩⟩
    refine hR1 (Sum.inr a.1) _ H2 (Same.refl _) ?_
    have hat : a.1 ∉ (A.take i).map (·.1) := by
      rw [List.map_take]
      exact nodup_take_not hN (by rw [List.getElem?_map, ha]; rfl)
    have hv : valV (wkv (A.take i) fun _ => 0) (Sum.inr a.1) = none := by
      cases q : valV (wkv (A.take i) fun _ => 0) (Sum.inr a.1) with
      | none => rfl
      | some v =>
        have hm := valV_in q
        rw [wkv_keys] at hm
        obtain ⟨y, hy, e⟩ := List.mem_map.mp hm
        cases e
        exact absurd hy hat
    rw [putK_new _ hv, take_snoc ha]
    unfold wkv
    rw [List.map_append]
    rfl
  rintro d ys H1 hd e1 hd1 rfl
  rw [hl, List.take_length] at hd1
  refine gn2 ?_
  refine sq ?_
  have hnet1 := hnet.same e1
  refine ⟨_, rfl, n, dx, _, rfl, e1 _ _ h1, rfl, n, A, R, rfl, hnet1, hG, fun p H2 hp e2 hp2 => ?_⟩
  have hd2 := e2 _ _ hd1
  have e12 := e1.trans e2
  have hLl : (A.filter (liveB A)).length ≤ 7 := Nat.le_trans (List.length_filter_le _ _) hA7
  have hpd : p ≠ d := (ne_of_none hd1 hp).symm
  refine ⟨p, rfl, ⟨_, SqL.of hp2⟩, for_list (K := K) (a := p) (xs := ((A.filter (liveB A)).map (·.1)).map V.str) (fun i σ H3 => ∃ v2 v3, σ = [some (.ref n), some (.ref d), v2, v3] ∧ Same H H3 ∧ H3 p = some (.lst (((A.filter (liveB A)).map (·.1)).map V.str)) ∧ H3 d = some (.dK (wkv A (((A.filter (liveB A)).take i).foldl (homeStep R) fun _ => 0))))
    ⟨_, _, rfl, e12, hp2, hd2⟩ (fun i σ H3 _ ⟨_, _, _, _, h, _⟩ => SqL.of h) ?_ ?_⟩
  · rintro i y σ H3 hi ⟨v2, v3, rfl, e3, hp3, hd3⟩
    rw [List.map_map, List.getElem?_map] at hi
    obtain ⟨a, ha, rfl⟩ := Option.map_eq_some_iff.mp hi
    obtain ⟨haA, haL⟩ := List.mem_filter.mp (mem_at ha)
    refine gn ?_
    obtain ⟨v, hg, hv⟩ := (h5.same e3).get haA
    have hring := (hR a haA).1
    have hlive := hring.live
    cases hr' : R a.1 with
    | none => rw [hr', haL] at hlive; cases hlive
    | some q =>
      rw [hr'] at hv hring
      obtain ⟨b, rfl, hb⟩ := hv
      have hq20 := (hR a haA).2 q hr'
      refine opn ?_
      refine ⟨_, rfl, by show 1 ≤ sizeLine; decide, fun b1 hb1 => ?_⟩
      have e4 := Same.new (o := .lst [.str a.1]) hb1
      have hg4 : DGet (upd H3 b1 (.lst [.str a.1])) dr (.str a.1) (some (.ref b)) := by
        obtain ⟨o2, kvr, x1, x2⟩ := h5
        obtain ⟨v', y1, y2⟩ := (x2.same (e3.trans e4)).val haA
        rw [hr'] at y2
        obtain ⟨v2, z1, z2⟩ := x2.val haA
        have : v' = v2 := Option.some.inj (y1.symm.trans z1)
        rcases hg with ⟨kv', k', w1, w2, w3⟩ | ⟨kv', k', b', w1, w2, w3, w4⟩
        · have hk' : k' = Sum.inr a.1 := by cases k' with
            | inl i => cases w2
            | inr z => cases w2; rfl
          subst hk'
          rcases w1 with w1 | ⟨o3, w1⟩
          · rw [e3 _ _ x1] at w1; cases w1
          · rw [e3 _ _ x1] at w1
            cases w1
            exact .inl ⟨kvr, Sum.inr a.1, .inr ⟨o2, (e3.trans e4) _ _ x1⟩, rfl, w3⟩
        · cases w2
      refine val_dget (val_fld (val_var rfl) ((e3.trans e4) _ _ h1) T.cl T.nR (K25.lk_R _ _ _)) (val_var rfl) hg4 _ ?_
      refine ⟨b1, b, _, _, rfl, rfl, upd_same, e4 _ _ hb, by rw [List.length_map]; exact small_le (by show 1 + q.length ≤ _; omega), fun b2 hb2 => ?_⟩
      have e5 := e4.trans (Same.new (o := .lst ([.str a.1] ++ q.map V.str)) hb2)
      have hb2d : b2 ≠ d := (ne_of_none (e4 _ _ hd3) hb2).symm
      have hxs : ([V.str a.1] ++ q.map V.str) = (a.1 :: q).map V.str := rfl
      have hb2' : upd (upd H3 b1 (.lst [.str a.1])) b2 (.lst ([.str a.1] ++ q.map V.str)) b2 = some (.lst ((a.1 :: q).map V.str)) := upd_same
      refine ⟨b2, rfl, ⟨_, SqL.of hb2'⟩, for_list (K := K) (a := b2) (xs := (a.1 :: q).map V.str) (fun j σ H4 => ∃ v3, σ = [some (.ref n), some (.ref d), some (.str a.1), v3] ∧ Same H H4 ∧ H4 p = some (.lst (((A.filter (liveB A)).map (·.1)).map V.str)) ∧ H4 b2 = some (.lst ((a.1 :: q).map V.str)) ∧ H4 d = some (.dK (wkv A (((a.1 :: q).take j).foldl incr (((A.filter (liveB A)).take i).foldl (homeStep R) fun _ => 0)))))
        ⟨_, rfl, e3.trans e5, e5 _ _ hp3, hb2', e5 _ _ hd3⟩ (fun j σ H4 _ ⟨_, _, _, _, h, _⟩ => SqL.of h) ?_ ?_⟩
      · rintro j y σ H4 hj ⟨v3, rfl, e6, hp6, hb6, hd6⟩
        rw [List.getElem?_map] at hj
        obtain ⟨z, hz, rfl⟩ := Option.map_eq_some_iff.mp hj
        have hzA : z ∈ A.map (·.1) := by
          rcases List.mem_cons.mp (mem_at hz) with e | hz
          · rw [e]; exact List.mem_map.mpr ⟨a, haA, rfl⟩
          · exact ring_names hring z hz
        have hf := foldl_take incr (((A.filter (liveB A)).take i).foldl (homeStep R) fun _ => 0) hz
        generalize ((a.1 :: q).take j).foldl incr (((A.filter (liveB A)).take i).foldl (homeStep R) fun _ => 0) = cur at hd6 hf
        obtain ⟨c, hc, rfl⟩ := List.mem_map.mp hzA
        refine gn ?_
        refine ⟨_, rfl, _, rfl, d, _, rfl, WorldAt.get hd6 hN hc, _, _, rfl, rfl, ?_⟩
        refine ⟨_, rfl, _, rfl, d, _, rfl, DPut.k (k := Sum.inr c.1) hd6 (by rw [wkv_len]; exact small_lt (by omega)), ?_⟩
        refine ⟨_, rfl, e6.mut hd, ?_, ?_, ?_⟩
        · rw [upd_ne hpd]; exact hp6
        · rw [upd_ne hb2d]; exact hb6
        · rw [upd_same, hf]
          exact congrArg (fun z => some (HO.dK z)) (wkv_bump (l := (c.1, 1)) hzA cur)
      · rintro σ H4 ⟨v3, rfl, e6, hp6, hb6, hd6⟩
        refine ⟨_, _, rfl, e6, hp6, ?_⟩
        rw [List.length_map, List.take_length] at hd6
        rw [hd6, foldl_take (homeStep R) (fun _ => 0) ha]
        unfold homeStep
        rw [hr']
        rfl
  · rintro σ H3 ⟨v2, v3, rfl, e3, hp3, hd3⟩
    rw [List.length_map, List.length_map, List.take_length, ← homeX_live hR] at hd3
    exact ⟨_, rfl, k d H3 hd e3 hd3⟩
end
end K25

namespace K25
open PySem PySem.Spec PyProof.Rows L2
section
variable {P : Program} {w : World} {K : PySem.W.Frag} {mg : Str → Option Value} {base : Heap} {C : Addr}
/-! ### the ring through what is asked -/
def RB (A : List (Arc Str)) (Ks : List Str) (a : Arc Str) (r : Option (List (Str × Int))) : Prop := (still A Ks a = true ∧ r = none) ∨ (still A Ks a = false ∧ RingWay A Ks a r)
theorem RB.uniq {A : List (Arc Str)} {Ks : List Str} {a : Arc Str} {r r' : Option (List (Str × Int))} (h : RB A Ks a r) (h' : RB A Ks a r') : r = r' := by
  rcases h with ⟨h1, h2⟩ | ⟨h1, h2⟩ <;> rcases h' with ⟨h3, h4⟩ | ⟨h3, h4⟩
  · rw [h2, h4]
  · rw [h1] at h3; cases h3
  · rw [h1] at h3; cases h3
  · exact h2.uniq h4
def RBV (H : Hp) (v : V) (a : Arc Str) (r : Option (List (Str × Int))) : Prop := match r with
  | none => v = .non
  | some q => ∃ b ys, v = .ref b ∧ H b = some (.lst ys) ∧ Paired (TagAt H) ys ((a.1, 1) :: q) ∧ q.length ≤ 40
def spRing : Sp := fun vs H Q _ => ∃ (n kn : Addr) (a : Arc Str) (A : List (Arc Str)) (R : Str → Option (List Str)) (Ks : List Str), vs = [.ref n, .ref kn, .str a.1] ∧ NetAt C H n A R ∧ NetG A R ∧ a ∈ A ∧ H kn = some (.lst (Ks.map V.str)) ∧
  ∀ v r H', Same H H' → RB A Ks a r → RBV H' v a r → Q v H'
abbrev N_mring_by : List Str := ["self", "known", "asked", "one", "other", "found"]
theorem sc_mring_by : FnScope N_mring_by ["self", "known", "asked"] (defScope m_ring_by) := ⟨rfl, rfl, rfl, by decide +kernel, rfl, by decide +kernel, by decide +kernel⟩
theorem ring_val {H H' : Hp} {dr : Addr} {A : List (Arc Str)} {R : Str → Option (List Str)} (h5 : FRings H dr A R) (hR : RingsOk A R) (e : Same H H') {a : Arc Str} (ha : a ∈ A) : ∃ v, DGet H' dr (.str a.1) (some v) ∧ (v = .non ↔ liveB A a = false) := by
  obtain ⟨v, hg, hv⟩ := (h5.same e).get ha
  refine ⟨v, hg, ?_⟩
  have hl := (hR a ha).1.live
  cases hr : R a.1 with
  | none =>
    rw [hr] at hv hl
    exact ⟨fun _ => hl.symm, fun _ => hv⟩
  | some q =>
    rw [hr] at hv hl
    obtain ⟨b, hv, _⟩ := hv
    rw [hv, ← hl]
    exact ⟨fun z => (by cases z), fun z => (by cases z)⟩
theorem cal_mring_by (T : Txt K mg C) (F : HasM K C "ring_by" "Net.ring_by" m_ring_by) (c_way_between : Cal P w K mg base "way_between" 2 ["pairs", "start", "goal"] spBetween) (mc_left_open : CalM P w K mg base C "left_open" 2 ["self", "known", "asked"] (spOpen (C := C))) :
    CalM P w K mg base C "ring_by" 3 ["self", "known", "asked"] (spRing (C := C)) := by
  refine F.cal sc_mring_by (fun vs H Q E h => by obtain ⟨n, kn, a, A, R, Ks, rfl, _⟩ := h; rfl) (fun _ _ _ _ _ _ us hl => match us, hl with | [_, _, _], _ => rfl) (fun fa cdv Ar outer s0 H vs Q E hr h => ?_)
  obtain ⟨n, kn, a, A, R, Ks, rfl, hnet, hG, ha, hkn, k⟩ := h
  obtain ⟨dx, da, dn, dr, h1, h2, h4, h5⟩ := id hnet
  obtain ⟨hN, hA7, hR⟩ := id hG
  refine ⟨_, pss_cons (ps_if (PW.pt (pw_or (pt_cmpR (inQ K) (pv 2) (pv 1) rfl) (pw_or1 (pt_cmp (pc_isN (pe_dget (hu_of hr) (pefld K (pv 0)) (pv 2) (fun _ _ => rfl))))))) (pss_one (ps_ret pe_non)) pss_nil)
    (pss_cons (ps_asg (pe_dget (hu_of hr) (pefld K (pv 0)) (pv 2) (fun _ _ => rfl)) (pgtup K (n := 2) rfl (pgs_cons (pg_name (i := 3) sc_mring_by.nd rfl (Or.inl rfl)) (pgs_cons (pg_name (i := 4) sc_mring_by.nd rfl (Or.inl rfl)) pgs_nil))))
    (pss_cons (ps_set (i := 5) sc_mring_by.nd rfl (Or.inl rfl) (pe_callC c_way_between (hr.mono (by decide)) (by rfl) (pa_cons (pe_methC (pv 0) T.cl mc_left_open (hr.mono (by decide)) (pa_cons (pv 1) (pa_cons (pv 2) pa_nil))) (pa_cons (pv 4) (pa_cons (pv 3) pa_nil)))))
    (pss_one (ps_ret (pe_ifExp (pt_cmp (pc_isN (pv 5))) pe_non (pe_op op_cat (pe_lst (pa_cons (pe_tup (pa_cons (pv 2) (pa_cons pe_int pa_nil))) pa_nil)) (pv 5))))))), ?_⟩
  refine sq ?_
  refine ifs ?_
  refine ⟨_, rfl, _, rfl, kn, _, rfl, .inl (SqL.of hkn), rfl, flat_strs _, decide (a.1 ∈ Ks), ?_, ?_⟩
  · show V.bl (inV (.str a.1) (Ks.map V.str)) = _
    rw [inV_str]
  by_cases q1 : a.1 ∈ Ks
  · rw [decide_eq_true q1]
    refine iteT (iteT ?_)
    exact k .non none H (Same.refl _) (.inl ⟨by unfold still; rw [decide_eq_true q1]; rfl, rfl⟩) rfl
  rw [decide_eq_false q1]
  refine iteF ?_
  obtain ⟨v, hg, hv⟩ := ring_val h5 hR (Same.refl H) ha
  refine tst (isn ?_)
  refine val_dget (val_fld (val_var rfl) h1 T.cl T.nR (K25.lk_R _ _ _)) (val_var rfl) hg _ ?_
  refine ⟨_, rfl, ?_⟩
  cases hl : liveB A a with
  | false =>
    rw [decide_eq_true (hv.mpr hl)]
    refine iteT ?_
    exact k .non none H (Same.refl _) (.inl ⟨by unfold still; rw [hl]; simp, rfl⟩) rfl
  | true =>
    rw [decide_eq_false (fun z => by rw [hv.mp z] at hl; cases hl)]
    refine iteF ?_
    refine nx2 ?_
    refine sq ?_
    refine asg ?_
    obtain ⟨t, hga, ht⟩ := h2.get hN ha
    refine val_dget (val_fld (val_var rfl) h1 T.cl T.nA (K25.lk_A _ _ _)) (val_var rfl) hga _ ?_
    refine ⟨t, _, rfl, SqT.of ht, rfl, _, _, rfl, gn ⟨_, _, rfl, gn ⟨rfl, ?_⟩⟩⟩
    refine ds (sq ?_)
    refine asg ?_
    refine ⟨_, rfl, n, dx, _, rfl, h1, rfl, _, rfl, _, rfl, n, kn, a.1, A, R, Ks, rfl, hnet, hG, hkn, fun d H1 hd e1 hO => ?_⟩
    have hOl : (openA A Ks a.1).length ≤ 20 := Nat.le_trans (List.length_filter_le _ _) (by omega)
    refine ⟨_, rfl, _, rfl, d, openA A Ks a.1, a.2.2, a.2.1, rfl, hO, names_filter hN _, hOl, fun c v H2 hc e2 hwv => ?_⟩
    have e12 := e1.trans e2
    have hst : still A Ks a = false := by unfold still; rw [hl, decide_eq_false q1]; rfl
    have hrb : RB A Ks a (lk c a.2.1) := .inr ⟨hst, c, hc, rfl⟩
    refine gn2 ?_
    refine ret ?_
    cases hq : lk c a.2.1 with
    | none =>
      rw [hq] at hwv hrb
      have hwv : v = .non := hwv
      subst hwv
      refine ⟨_, rfl, true, rfl, iteT ?_⟩
      exact k .non none H2 e12 hrb rfl
    | some q =>
      rw [hq] at hwv hrb
      obtain ⟨b, ys, rfl, hb, hys, hq40⟩ := hwv
      refine ⟨_, rfl, false, rfl, iteF ?_⟩
      refine ⟨_, rfl, by show 2 ≤ sizeLine; decide, fun t1 ht1 => ?_⟩
      have e3 := Same.new (o := .tup [.str a.1, .int 1]) ht1
      refine ⟨by show 1 ≤ sizeLine; decide, fun b1 hb1 => ?_⟩
      have e4 := Same.new (o := .lst [.ref t1]) hb1
      have e34 := e3.trans e4
      have hyl : ys.length = q.length := Paired.length hys
      refine ⟨_, rfl, b1, b, _, _, rfl, rfl, upd_same, e34 _ _ hb, small_le (by show 1 + ys.length ≤ _; omega), fun b2 hb2 => ?_⟩
      have e5 := Same.new (o := .lst ([.ref t1] ++ ys)) hb2
      refine k (.ref b2) (some q) _ (e12.trans (e34.trans e5)) hrb ⟨b2, _, rfl, upd_same, ?_, hq40⟩
      exact .cons ⟨t1, rfl, (e4.trans e5) _ _ upd_same⟩ (tag_same (e34.trans e5) hys)
/-! the two worlds -/
def spMoved : Sp := fun vs H Q _ => ∃ (n rg : Addr) (A : List (Arc Str)) (R : Str → Option (List Str)) (ys : List V) (L : List (Str × Int)), vs = [.ref n, .ref rg] ∧ NetAt C H n A R ∧ NetG A R ∧ H rg = some (.lst ys) ∧ Paired (TagAt H) ys L ∧ (∀ l ∈ L, l.1 ∈ A.map (·.1)) ∧ L.length ≤ 50 ∧
  ∀ t d1 d2 H', Same H H' → H' t = some (.tup [.ref d1, .ref d2]) → WorldAt H' d1 A (homeX A R) → WorldAt H' d2 A (L.foldl bump (homeX A R)) → Q (.ref t) H'
abbrev N_mmoved : List Str := ["self", "ring", "one", "other", "name", "sign"]
theorem sc_mmoved : FnScope N_mmoved ["self", "ring"] (defScope m_moved) := ⟨rfl, rfl, rfl, by decide +kernel, rfl, by decide +kernel, by decide +kernel⟩
theorem cal_mmoved (T : Txt K mg C) (F : HasM K C "moved" "Net.moved" m_moved) (mc_home : CalM P w K mg base C "home" 2 ["self"] (spHome (C := C))) : CalM P w K mg base C "moved" 3 ["self", "ring"] (spMoved (C := C)) := by
  refine F.cal sc_mmoved (fun vs H Q E h => by obtain ⟨n, rg, A, R, ys, L, rfl, _⟩ := h; rfl) (fun _ _ _ _ _ _ us hl => match us, hl with | [_, _], _ => rfl) (fun fa cdv Ar outer s0 H vs Q E hr h => ?_)
  obtain ⟨n, rg, A, R, ys, L, rfl, hnet, hG, hrg, hys, hLn, hL50, k⟩ := h
  obtain ⟨dx, da, dn, dr, h1, _⟩ := id hnet
  obtain ⟨hN, hA7, hR⟩ := id hG
  refine ⟨_, pss_cons (ps_par (i := 2) (j := 3) rfl sc_mmoved.nd rfl rfl (by decide) rfl rfl (pa_cons (pe_methC0 (pv 0) T.cl mc_home (hr.mono (by decide))) (pa_cons (pe_methC0 (pv 0) T.cl mc_home (hr.mono (by decide))) pa_nil)) (by rfl))
    (pss_cons (ps_for PassesOwn.never rfl (pilist K (pv 1)) (pgtup K (n := 2) rfl (pgs_cons (pg_name (i := 4) sc_mmoved.nd rfl (Or.inl rfl)) (pgs_cons (pg_name (i := 5) sc_mmoved.nd rfl (Or.inl rfl)) pgs_nil))) (pss_one (ps_dput (hu_of hr) (pv 3) (pv 4) (pe_op op_add (pe_dget (hu_of hr) (pv 3) (pv 4) (fun _ _ => rfl)) (pv 5)) rfl)))
    (pss_one (ps_ret (pe_tup (pa_cons (pv 2) (pa_cons (pv 3) pa_nil)))))), ?_⟩
  refine sq ?_
  refine par (ac ?_)
  refine ⟨_, rfl, n, dx, _, rfl, h1, rfl, n, A, R, rfl, hnet, hG, fun d1 H1 hd1 e1 hw1 => ?_⟩
  refine ⟨_, rfl, n, dx, _, rfl, e1 _ _ h1, rfl, n, A, R, rfl, hnet.same e1, hG, fun d2 H2 hd2 e2 hw2 => ⟨_, _, rfl, ?_⟩⟩
  have e12 := e1.trans e2
  have hd20 : H d2 = none := e1.free hd2
  have hd12 : d1 ≠ d2 := ne_of_none hw1 hd2
  have hw12 : WorldAt H2 d1 A (homeX A R) := e2 _ _ hw1
  refine sq ?_
  refine for_lst (K := K) (a := rg) (xs := ys) (val_var rfl) (SqL.of (e12 _ _ hrg)) (fun i σ H3 => ∃ v4 v5, σ = [some (.ref n), some (.ref rg), some (.ref d1), some (.ref d2), v4, v5] ∧ Same H H3 ∧ WorldAt H3 d1 A (homeX A R) ∧ WorldAt H3 d2 A ((L.take i).foldl bump (homeX A R)))
    ⟨_, _, rfl, e12, hw12, hw2⟩ (fun i σ H3 _ ⟨_, _, _, e, _⟩ => SqL.of (e _ _ hrg)) ?_ ?_
  · rintro i y σ H3 hi ⟨v4, v5, rfl, e3, hw3, hw4⟩
    obtain ⟨l, hl, t, rfl, ht⟩ := paired_at hys hi
    refine ⟨t, _, rfl, SqT.of (e3 _ _ ht), rfl, _, _, rfl, gn ⟨_, _, rfl, gn ⟨rfl, ?_⟩⟩⟩
    have hlA := hLn l (mem_at hl)
    obtain ⟨c, hc, ec⟩ := List.mem_map.mp hlA
    have hf := foldl_take bump (homeX A R) hl
    generalize (L.take i).foldl bump (homeX A R) = cur at hw4 hf
    have hg : DGet H3 d2 (.str l.1) (some (.int (cur l.1))) := by
      have q := WorldAt.get hw4 hN hc
      rw [show c.1 = l.1 from ec] at q
      exact q
    refine ⟨_, rfl, _, rfl, d2, _, rfl, hg, _, rfl, _, _, rfl, rfl, ?_⟩
    refine ⟨_, rfl, _, rfl, d2, _, rfl, DPut.k (k := Sum.inr l.1) hw4 (by rw [wkv_len]; exact small_lt (by omega)), ?_⟩
    refine ⟨_, _, rfl, e3.mut hd20, ?_, ?_⟩
    · show upd _ d2 _ d1 = _
      rw [upd_ne hd12]
      exact hw3
    · show upd _ d2 _ d2 = _
      rw [upd_same, hf]
      exact congrArg (fun z => some (HO.dK z)) (wkv_bump hlA cur)
  · rintro σ H3 ⟨v4, v5, rfl, e3, hw3, hw4⟩
    have hl : ys.length = L.length := Paired.length hys
    rw [hl, List.take_length] at hw4
    refine ds (ret ?_)
    refine ⟨_, rfl, _, rfl, by show 2 ≤ sizeLine; decide, fun t ht => ?_⟩
    have e4 := Same.new (o := .tup [.ref d1, .ref d2]) ht
    exact k t d1 d2 _ (e3.trans e4) upd_same (e4 _ _ hw3) (e4 _ _ hw4)
end
end K25

namespace K25
open PySem PySem.Spec PyProof.Rows L2
section
variable {P : Program} {w : World} {K : PySem.W.Frag} {mg : Str → Option Value} {base : Heap} {C : Addr}
/-! ### what the law asks of a net -/
/-- the net, the known, the asked -/
def Ask (C : Addr) (vs : List V) (H : Hp) (n kn : Addr) (a : Arc Str) (A : List (Arc Str)) (R : Str → Option (List Str)) (Ks : List Str) : Prop :=
  vs = [.ref n, .ref kn, .str a.1] ∧ NetAt C H n A R ∧ NetG A R ∧ a ∈ A ∧ (H kn = some (.lst (Ks.map V.str)) ∨ H kn = some (.tup (Ks.map V.str))) ∧ Ks.Nodup ∧ (∀ x ∈ Ks, x ∈ A.map (·.1)) ∧ Ks.length ≤ 100
def spTold : Sp := fun vs H Q _ => ∃ n kn a A R Ks, Ask C vs H n kn a A R Ks ∧ ∀ r H', Same H H' → RB A Ks a r → Q (.bl r.isNone) H'
abbrev N_mis_told : List Str := ["self", "known", "asked"]
theorem sc_mis_told : FnScope N_mis_told ["self", "known", "asked"] (defScope m_is_told) := ⟨rfl, rfl, rfl, by decide +kernel, rfl, by decide +kernel, by decide +kernel⟩
theorem rbv_none {H : Hp} {v : V} {a : Arc Str} {r : Option (List (Str × Int))} (h : RBV H v a r) : decide (v = V.non) = r.isNone := by
  cases r with
  | none =>
    have h : v = .non := h
    rw [h]
    rfl
  | some q =>
    obtain ⟨b, ys, rfl, _⟩ := h
    rfl
theorem cal_mis_told (T : Txt K mg C) (F : HasM K C "is_told" "Net.is_told" m_is_told) (c_checked_both : Cal P w K mg base "checked_both" 3 ["questions", "known", "asked"] spCheckB) (mc_questions : CalM P w K mg base C "questions" 1 ["self"] (spQuest (C := C)))
    (mc_ring_by : CalM P w K mg base C "ring_by" 3 ["self", "known", "asked"] (spRing (C := C))) : CalM P w K mg base C "is_told" 4 ["self", "known", "asked"] (spTold (C := C)) := by
  refine F.cal sc_mis_told (fun vs H Q E h => by obtain ⟨n, kn, a, A, R, Ks, ⟨rfl, _⟩, _⟩ := h; rfl) (fun _ _ _ _ _ _ us hl => match us, hl with | [_, _, _], _ => rfl) (fun fa cdv Ar outer s0 H vs Q E hr h => ?_)
  obtain ⟨n, kn, a, A, R, Ks, ⟨rfl, hnet, hG, ha, hkn, hKn, hKs, hK100⟩, k⟩ := h
  obtain ⟨dx, da, dn, dr, h1, _⟩ := id hnet
  refine ⟨_, pss_one (ps_ret (pe_cmp (pc_isN (pe_methC (pv 0) T.cl mc_ring_by (hr.mono (by decide)) (pa_cons (pe_callC c_checked_both (hr.mono (by decide)) (by rfl) (pa_cons (pe_methC0 (pv 0) T.cl mc_questions (hr.mono (by decide))) (pa_cons (pv 1) (pa_cons (pv 2) pa_nil)))) (pa_cons (pv 2) pa_nil)))))), ?_⟩
  refine ret ?_
  refine isn ?_
  refine ⟨_, rfl, n, dx, _, rfl, h1, rfl, _, rfl, n, dx, _, rfl, h1, rfl, n, A, R, rfl, hnet, fun q H1 hq e1 hq1 => ?_⟩
  have haA : a.1 ∈ A.map (·.1) := List.mem_map.mpr ⟨a, ha, rfl⟩
  refine ⟨_, rfl, _, rfl, q, kn, a.1, _, Ks, rfl, hq1, hkn.imp (e1 _ _) (e1 _ _), hKn, hKs, hK100, haA, fun p H2 hp e2 hp2 => ?_⟩
  have e12 := e1.trans e2
  refine ⟨_, rfl, n, p, a, A, R, Ks, rfl, hnet.same e12, hG, ha, hp2, fun v r H3 e3 hrb hv => ?_⟩
  have kk := k r H3 (e12.trans e3) hrb
  rw [← rbv_none hv] at kk
  exact kk
/-! plan -/
def PlanRes (A : List (Arc Str)) (Ks : List Str) (a : Arc Str) (S : List Str) : Prop := (still A Ks a = true ∧ S = []) ∨ (still A Ks a = false ∧ ∃ c, Done (movS (openA A Ks a.1)) a.2.1 c ∧ S = sideOf A c)
theorem PlanRes.uniq {A : List (Arc Str)} {Ks : List Str} {a : Arc Str} {S S' : List Str} (h : PlanRes A Ks a S) (h' : PlanRes A Ks a S') : S = S' := by
  rcases h with ⟨h1, h2⟩ | ⟨h1, c, h2, h3⟩ <;> rcases h' with ⟨h4, h5⟩ | ⟨h4, c', h5, h6⟩
  · rw [h2, h5]
  · rw [h1] at h4; cases h4
  · rw [h1] at h4; cases h4
  · rw [h3, h6, h2.uniq h5]
def PlanV (A : List (Arc Str)) (Ks : List Str) (a : Arc Str) (H : Hp) (v : V) (r : Option (List (Str × Int))) : Prop := match r with
  | some _ => v = .non
  | none => ∃ p S, v = .ref p ∧ H p = some (.lst (S.map V.str)) ∧ PlanRes A Ks a S ∧ S.length ≤ 14
def spPlan : Sp := fun vs H Q _ => ∃ n kn a A R Ks, Ask C vs H n kn a A R Ks ∧ ∀ v r H', Same H H' → RB A Ks a r → PlanV A Ks a H' v r → Q v H'
abbrev N_mplan : List Str := ["self", "known", "asked", "own", "near", "node"]
theorem sc_mplan : FnScope N_mplan ["self", "known", "asked"] (defScope m_plan) := ⟨rfl, rfl, rfl, by decide +kernel, rfl, by decide +kernel, by decide +kernel⟩
theorem side_len {A : List (Arc Str)} (hA7 : A.length ≤ 7) (c : Came Str (Str × Int)) : (sideOf A c).length ≤ 14 := by
  have h1 := nodes_len A
  have h2 := List.length_filter_le (fun v => decide (v ∈ ks c)) (nodesOf A)
  unfold sideOf
  omega
theorem cal_mplan (T : Txt K mg C) (F : HasM K C "plan" "Net.plan" m_plan) (c_checked_both : Cal P w K mg base "checked_both" 3 ["questions", "known", "asked"] spCheckB) (c_ways_from : Cal P w K mg base "ways_from" 1 ["pairs", "start"] spFrom) (mc_questions : CalM P w K mg base C "questions" 1 ["self"] (spQuest (C := C)))
    (mc_left_open : CalM P w K mg base C "left_open" 2 ["self", "known", "asked"] (spOpen (C := C))) (mc_ring_by : CalM P w K mg base C "ring_by" 3 ["self", "known", "asked"] (spRing (C := C))) : CalM P w K mg base C "plan" 4 ["self", "known", "asked"] (spPlan (C := C)) := by
  refine F.cal sc_mplan (fun vs H Q E h => by obtain ⟨n, kn, a, A, R, Ks, ⟨rfl, _⟩, _⟩ := h; rfl) (fun _ _ _ _ _ _ us hl => match us, hl with | [_, _, _], _ => rfl) (fun fa cdv Ar outer s0 H vs Q E hr h => ?_)
  obtain ⟨n, kn, a, A, R, Ks, ⟨rfl, hnet, hG, ha, hkn, hKn, hKs, hK100⟩, k⟩ := h
  obtain ⟨dx, da, dn, dr, h1, h2, h4, h5⟩ := id hnet
  obtain ⟨hN, hA7, hR⟩ := id hG
  refine ⟨_, pss_cons (ps_set (i := 3) sc_mplan.nd rfl (Or.inl rfl) (pe_callC c_checked_both (hr.mono (by decide)) (by rfl) (pa_cons (pe_methC0 (pv 0) T.cl mc_questions (hr.mono (by decide))) (pa_cons (pv 1) (pa_cons (pv 2) pa_nil)))))
    (pss_cons (ps_if (pt_cmp (pc_notN (pe_methC (pv 0) T.cl mc_ring_by (hr.mono (by decide)) (pa_cons (pv 3) (pa_cons (pv 2) pa_nil))))) (pss_one (ps_ret pe_non)) pss_nil)
    (pss_cons (ps_if (PW.pt (pw_or (pt_cmpR (inQ K) (pv 2) (pv 3) rfl) (pw_or1 (pt_cmp (pc_isN (pe_dget (hu_of hr) (pefld K (pv 0)) (pv 2) (fun _ _ => rfl))))))) (pss_one (ps_ret (pe_lst pa_nil))) pss_nil)
    (pss_cons (ps_set (i := 4) sc_mplan.nd rfl (Or.inr rfl) (pe_callC c_ways_from (hr.mono (by decide)) (by rfl) (pa_cons (pe_methC (pv 0) T.cl mc_left_open (hr.mono (by decide)) (pa_cons (pv 3) (pa_cons (pv 2) pa_nil))) (pa_cons (pe_ix (ixT K) (pe_dget (hu_of hr) (pefld K (pv 0)) (pv 2) (fun _ _ => rfl)) pe_int (fun _ _ => rfl)) pa_nil))))
    (pss_one (ps_ret (pe_lc (own := [("node", 5)]) rfl sc_mplan.nd (pilist K (pefld K (pv 0))) (blkOk_by (N := N_mplan) (sc := defScope m_plan) (by decide +kernel)) (fun _ _ _ _ _ => (pg_name (i := 5) sc_mplan.nd rfl (Or.inl rfl))) (fun _ _ _ _ _ => (pts_one (pt_cmp (pc_din (hu_of hr) (pv 5) (pv 4))))) (fun _ _ _ _ _ => (pv 5)))))))), ?_⟩
  refine sq ?_
  refine asg ?_
  refine ⟨_, rfl, n, dx, _, rfl, h1, rfl, n, A, R, rfl, hnet, fun q H1 hq e1 hq1 => ?_⟩
  have haA : a.1 ∈ A.map (·.1) := List.mem_map.mpr ⟨a, ha, rfl⟩
  refine ⟨_, rfl, _, rfl, q, kn, a.1, _, Ks, rfl, hq1, hkn.imp (e1 _ _) (e1 _ _), hKn, hKs, hK100, haA, fun p H2 hp e2 hp2 => ?_⟩
  have e12 := e1.trans e2
  refine gn2 ?_
  refine sq ?_
  refine ifs ?_
  refine tst (ntn ?_)
  refine ⟨_, rfl, n, dx, _, rfl, e12 _ _ h1, rfl, _, rfl, _, rfl, n, p, a, A, R, Ks, rfl, hnet.same e12, hG, ha, hp2, fun v r H3 e3 hrb hv => ?_⟩
  have e13 := e12.trans e3
  have hp3 := e3 _ _ hp2
  refine ⟨_, rfl, ?_⟩
  rw [rbv_none hv]
  cases r with
  | some w =>
    refine iteT ?_
    exact k .non (some w) H3 e13 hrb rfl
  | none =>
    refine iteF ?_
    refine nx2 ?_
    refine sq ?_
    refine ifs ?_
    refine ⟨_, rfl, _, rfl, p, _, rfl, .inl (SqL.of hp3), rfl, flat_strs _, decide (a.1 ∈ Ks), ?_, ?_⟩
    · show V.bl (inV (.str a.1) (Ks.map V.str)) = _
      rw [inV_str]
    have nil : still A Ks a = true → ∀ p4, H3 p4 = none → Q (.ref p4) (upd H3 p4 (.lst [])) := fun hs p4 hp4 => k _ none _ (e13.trans (Same.new hp4)) hrb ⟨p4, [], rfl, upd_same, .inl ⟨hs, rfl⟩, by decide⟩
    by_cases q1 : a.1 ∈ Ks
    · rw [decide_eq_true q1]
      refine iteT (iteT ?_)
      exact ⟨Nat.zero_le _, fun p4 hp4 => nil (by unfold still; rw [decide_eq_true q1]; rfl) p4 hp4⟩
    rw [decide_eq_false q1]
    refine iteF ?_
    obtain ⟨v2, hg, hv2⟩ := ring_val h5 hR e13 ha
    refine tst (isn ?_)
    refine val_dget (val_fld (val_var rfl) (e13 _ _ h1) T.cl T.nR (K25.lk_R _ _ _)) (val_var rfl) hg _ ?_
    refine ⟨_, rfl, ?_⟩
    cases hl : liveB A a with
    | false =>
      rw [decide_eq_true (hv2.mpr hl)]
      refine iteT ?_
      exact ⟨Nat.zero_le _, fun p4 hp4 => nil (by unfold still; rw [hl]; simp) p4 hp4⟩
    | true =>
      rw [decide_eq_false (fun z => by rw [hv2.mp z] at hl; cases hl)]
      refine iteF ?_
      have hst : still A Ks a = false := by unfold still; rw [hl, decide_eq_false q1]; rfl
      refine nx2 ?_
      refine sq ?_
      refine asg ?_
      refine ⟨_, rfl, n, dx, _, rfl, e13 _ _ h1, rfl, _, rfl, _, rfl, n, p, a.1, A, R, Ks, rfl, hnet.same e13, hG, hp3, fun d H4 hd e4 hO => ?_⟩
      have e14 := e13.trans e4
      have hOl : (openA A Ks a.1).length ≤ 20 := Nat.le_trans (List.length_filter_le _ _) (by omega)
      obtain ⟨t, hga, ht⟩ := (h2.same e14).get hN ha
      refine opn ?_
      refine val_dget (val_fld (val_var rfl) (e14 _ _ h1) T.cl T.nA (K25.lk_A _ _ _)) (val_var rfl) hga _ ?_
      refine ⟨t, _, 0, _, rfl, rfl, SqT.of ht, at_0, ?_⟩
      refine ⟨d, openA A Ks a.1, a.2.1, rfl, hO, names_filter hN _, hOl, fun c p5 kvs H5 hc e5 hp5 hk5 hck => ?_⟩
      have e15 := e14.trans e5
      refine gn2 ?_
      refine ret ?_
      refine lc_lst (cA (nodesOf A) fun v => decide (v ∈ ks c)) (fA (nodesOf A) V.str) (val_fld (val_var rfl) (e15 _ _ h1) T.cl T.nN (K25.lk_N _ _ _)) (e15 _ _ h4) (by have := nodes_len A; rw [List.length_map]; omega) ?_ fun p6 H6 hp6 e6 h6 => ?_
      · rintro i y H6 hi e6 R1 R2 hR1 hR2
        rw [List.getElem?_map] at hi
        obtain ⟨z, hz, rfl⟩ := Option.map_eq_some_iff.mp hi
        rw [cA_eq hz] at hR1 hR2
        rw [fA_eq hz] at hR1
        refine gn ⟨rfl, ?_⟩
        have hd6 := e6 _ _ hk5
        rcases hck.val z with ⟨i1, i2⟩ | ⟨w, b, i1, i2, _⟩
        · have hz2 : z ∉ ks c := lk_none.mp i1
          exact ⟨_, rfl, _, rfl, p5, _, rfl, .inl ⟨kvs, Sum.inr z, .inl hd6, rfl, i2.symm⟩, false, rfl, iteF (hR2 (decide_eq_false hz2) _ (Same.refl _))⟩
        · have hz2 : z ∈ ks c := ks_of_mem (lk_mem i1)
          exact ⟨_, rfl, _, rfl, p5, _, rfl, .inl ⟨kvs, Sum.inr z, .inl hd6, rfl, i2.symm⟩, true, rfl, iteT ⟨_, rfl, hR1 (decide_eq_true hz2) _ (Same.refl _)⟩⟩
      rw [List.length_map, gath_of] at h6
      exact k (.ref p6) none H6 (e15.trans e6) hrb ⟨p6, sideOf A c, rfl, h6, .inr ⟨hst, c, hc, rfl⟩, side_len hA7 c⟩
/-! apart -/
def ApartV (A : List (Arc Str)) (R : Str → Option (List Str)) (a : Arc Str) (H : Hp) (v : V) (r : Option (List (Str × Int))) : Prop := match r with
  | none => v = .non
  | some q => ∃ t d1 d2, v = .ref t ∧ H t = some (.tup [.ref d1, .ref d2]) ∧ WorldAt H d1 A (homeX A R) ∧ WorldAt H d2 A (((a.1, 1) :: q).foldl bump (homeX A R))
def spApart : Sp := fun vs H Q _ => ∃ n kn a A R Ks, Ask C vs H n kn a A R Ks ∧ ∀ v r H', Same H H' → RB A Ks a r → ApartV A R a H' v r → Q v H'
abbrev N_mapart : List Str := ["self", "known", "asked", "ring"]
theorem sc_mapart : FnScope N_mapart ["self", "known", "asked"] (defScope m_apart) := ⟨rfl, rfl, rfl, by decide +kernel, rfl, by decide +kernel, by decide +kernel⟩
theorem cal_mapart (T : Txt K mg C) (F : HasM K C "apart" "Net.apart" m_apart) (c_checked_both : Cal P w K mg base "checked_both" 3 ["questions", "known", "asked"] spCheckB) (mc_questions : CalM P w K mg base C "questions" 1 ["self"] (spQuest (C := C)))
    (mc_moved : CalM P w K mg base C "moved" 3 ["self", "ring"] (spMoved (C := C))) (mc_ring_by : CalM P w K mg base C "ring_by" 3 ["self", "known", "asked"] (spRing (C := C))) : CalM P w K mg base C "apart" 4 ["self", "known", "asked"] (spApart (C := C)) := by
  refine F.cal sc_mapart (fun vs H Q E h => by obtain ⟨n, kn, a, A, R, Ks, ⟨rfl, _⟩, _⟩ := h; rfl) (fun _ _ _ _ _ _ us hl => match us, hl with | [_, _, _], _ => rfl) (fun fa cdv Ar outer s0 H vs Q E hr h => ?_)
  obtain ⟨n, kn, a, A, R, Ks, ⟨rfl, hnet, hG, ha, hkn, hKn, hKs, hK100⟩, k⟩ := h
  obtain ⟨dx, da, dn, dr, h1, h2, h4, h5⟩ := id hnet
  obtain ⟨hN, hA7, hR⟩ := id hG
  refine ⟨_, pss_cons (ps_set (i := 3) sc_mapart.nd rfl (Or.inl rfl) (pe_methC (pv 0) T.cl mc_ring_by (hr.mono (by decide)) (pa_cons (pe_callC c_checked_both (hr.mono (by decide)) (by rfl) (pa_cons (pe_methC0 (pv 0) T.cl mc_questions (hr.mono (by decide))) (pa_cons (pv 1) (pa_cons (pv 2) pa_nil)))) (pa_cons (pv 2) pa_nil))))
    (pss_one (ps_ret (pe_ifExp (pt_cmp (pc_isN (pv 3))) pe_non (pe_methC (pv 0) T.cl mc_moved (hr.mono (by decide)) (pa_cons (pv 3) pa_nil))))), ?_⟩
  refine sq ?_
  refine asg ?_
  refine ⟨_, rfl, n, dx, _, rfl, h1, rfl, _, rfl, n, dx, _, rfl, h1, rfl, n, A, R, rfl, hnet, fun q H1 hq e1 hq1 => ?_⟩
  have haA : a.1 ∈ A.map (·.1) := List.mem_map.mpr ⟨a, ha, rfl⟩
  refine ⟨_, rfl, _, rfl, q, kn, a.1, _, Ks, rfl, hq1, hkn.imp (e1 _ _) (e1 _ _), hKn, hKs, hK100, haA, fun p H2 hp e2 hp2 => ?_⟩
  have e12 := e1.trans e2
  refine ⟨_, rfl, n, p, a, A, R, Ks, rfl, hnet.same e12, hG, ha, hp2, fun v r H3 e3 hrb hv => ?_⟩
  have e13 := e12.trans e3
  refine gn2 ?_
  refine ret ?_
  cases r with
  | none =>
    have hv : v = .non := hv
    subst hv
    refine ⟨_, rfl, true, rfl, iteT ?_⟩
    exact k .non none H3 e13 hrb rfl
  | some w =>
    obtain ⟨b, ys, rfl, hb, hys, hw40⟩ := hv
    refine ⟨_, rfl, false, rfl, iteF ?_⟩
    have hring : RingWay A Ks a (some w) := by
      rcases hrb with ⟨_, z⟩ | ⟨_, z⟩
      · cases z
      · exact z
    have hfac := hring.facts hN
    refine ⟨_, rfl, n, dx, _, rfl, e13 _ _ h1, rfl, _, rfl, n, b, A, R, ys, (a.1, 1) :: w, rfl, hnet.same e13, hG, hb, hys, ?_, by rw [List.length_cons]; omega, fun t d1 d2 H4 e4 ht hw1 hw2 => ?_⟩
    · intro l hl
      rcases List.mem_cons.mp hl with z | z
      · rw [z]; exact haA
      · obtain ⟨_, c, hc, ec, _⟩ := hfac.one l z
        exact List.mem_map.mpr ⟨c, hc, ec⟩
    · exact k (.ref t) (some w) H4 (e13.trans e4) hrb ⟨t, d1, d2, rfl, ht, hw1, hw2⟩
end
end K25

namespace K25
open PySem PySem.Spec PyProof.Rows L2
section
variable {P : Program} {w : World} {K : PySem.W.Frag} {mg : Str → Option Value} {base : Heap} {C : Addr}
/-! ### a net is made -/
def spInit : Sp := fun vs H Q _ => ∃ (x d dx : Addr) (A : List (Arc Str)), vs = [.ref x, .ref d] ∧ H x = some (.ins C dx []) ∧ FArcs H d A ∧ Names A ∧ A ≠ [] ∧ (∀ a ∈ A, ArcOk a) ∧ A.length ≤ 7 ∧
  ∀ (da dn dr : Addr) (kva kvr : List (Key × V)) (R : Str → Option (List Str)) (H' : Hp), (∀ a o, a ≠ x → H a = some o → H' a = some o) → H da = none → H dn = none → H dr = none → da ≠ dr → H' x = some (.ins C dx (nfs da dn dr)) → H' da = some (.dK kva) → ArcsK H' kva A →
    H' dn = some (.lst ((nodesOf A).map V.str)) → H' dr = some (.dK kvr) → RingsK H' kvr A R → RingsOk A R → Q .non H'
theorem put1 (da : Addr) : putF ("own_arcs" : Str) (.ref da) [] = [(("own_arcs" : Str), V.ref da)] := rfl
theorem put2 (da dn : Addr) : putF ("own_nodes" : Str) (.ref dn) [(("own_arcs" : Str), V.ref da)] = [(("own_arcs" : Str), V.ref da), ("own_nodes", V.ref dn)] := by rfl
theorem put3 (da dn dr : Addr) : putF ("own_rings" : Str) (.ref dr) [(("own_arcs" : Str), V.ref da), ("own_nodes", V.ref dn)] = nfs da dn dr := by rfl
theorem lk2_A (da dn : Addr) : [(("own_arcs" : Str), V.ref da), ("own_nodes", V.ref dn)].lookup ("own_arcs" : Str) = some (V.ref da) := by rfl
theorem lk2_N (da dn : Addr) : [(("own_arcs" : Str), V.ref da), ("own_nodes", V.ref dn)].lookup ("own_nodes" : Str) = some (V.ref dn) := by rfl
theorem sameX_off {D : Addr} {H H' : Hp} (e : SameX D H H') : Same (Off [D] H) (Off [D] H') := fun a o h => by
  have h0 : a ∉ [D] := fun z => by rw [off_in z] at h; cases h
  rw [off_at h0] at h ⊢
  exact e a o (fun z => h0 (by simp [z])) h
theorem ring_ok {A : List (Arc Str)} {a : Arc Str} {c : Came Str Str} (d : Done (movF A) a.2.2 c) : RingOk A a (lk c a.2.1) := by
  cases q : lk c a.2.1 with
  | some p => exact d.inv.path _ _ (lk_mem q)
  | none => exact fun z => lk_none.mp q (d.mem.mpr (reach_path.mp z))
abbrev N_minit : List Str := ["self", "arcs", "name", "one", "other", "node"]
theorem sc_minit : FnScope N_minit ["self", "arcs"] (defScope m_init) := ⟨rfl, rfl, rfl, by decide +kernel, rfl, by decide +kernel, by decide +kernel⟩
theorem cal_minit (T : Txt K mg C) (F : ∃ (f : Addr) (fd : FuncData), Mk K C f ∧ mg "Net" = some (.ref C) ∧ FunD K "__init__" "Net.__init__" (defArgs m_init) (defBody m_init) (defScope m_init) [] [] f fd)
    (c_is_name : Cal P w K mg base "is_name" 1 ["thing"] spIsName) (c_is_arc : Cal P w K mg base "is_arc" 2 ["thing"] spIsArc) (c_way_along : Cal P w K mg base "way_along" 1 ["pairs", "start", "goal"] spAlong) : CalI P w K mg base C 3 ["self", "arcs"] (spInit (C := C)) := by
  obtain ⟨f, fd, M, g, F⟩ := F
  refine ⟨f, fd, M, g, F.ok sc_minit (fun vs H Q E h => by obtain ⟨x, d, dx, A, rfl, _⟩ := h; rfl) fun cdv Ar outer s0 H vs Q E hr h => ?_, F.bindsN fun kV doc pm an cdv ct us hl => match us, hl with | [_, _], _ => rfl⟩
  obtain ⟨x, d, dx, A, rfl, hx, hA, hN, hne, hok, hA7, k⟩ := h
  obtain ⟨o, kvs, hd, hk⟩ := id hA
  have hl := hk.len
  suffices z : ∃ t, PSs (cxOf CX0 P w K mg base N_minit "Net.__init__" (defScope m_init) f cdv Ar outer s0 H E).nox (defBody m_init) t ∧ t { nx := fun _ H' => Q .non H', rt := Q } (start N_minit [.ref x, .ref d]) H by
    obtain ⟨t, h1, h2⟩ := z
    exact ⟨t, h1.nox, h2⟩
  refine ⟨_, pss_cons (ps_if (PW.pt (pw_or (pt_not (pt_val (pe_callB (isiK K) (by rfl) T.isi bt_isinstance (pa_cons (pv 1) (pa_cons (pe_bltn (v := .ty "dict") (by rfl) T.dict bt_dict rfl) pa_nil))))) (pw_or1 (pt_cmpR (eqDNil hr.units0) (pv 1) pe_dnewK (nomark _))))) (pss_one ps_never) pss_nil)
    (pss_cons (ps_for PassesOwn.never rfl (pi_keys (pv 1)) (pg_name (i := 2) sc_minit.nd rfl (Or.inl rfl)) (pss_one (ps_if (PW.pt (pw_or (pt_not (pt_val (pe_callC c_is_name (hr.mono (by decide)) (by rfl) (pa_cons (pv 2) pa_nil)))) (pw_or1 (pt_not (pt_val (pe_callC c_is_arc (hr.mono (by decide)) (by rfl) (pa_cons (pe_dget (hu_of hr) (pv 1) (pv 2) (fun _ _ => rfl)) pa_nil))))))) (pss_one ps_never) pss_nil)))
    (pss_cons (psfld K (pv 0) (pe_dc (own := [("name", 2)]) rfl sc_minit.nd (pi_keys (pv 1)) (blkOk_by (N := N_minit) (sc := defScope m_init) (by decide +kernel)) (fun _ _ _ _ _ => (pg_name (i := 2) sc_minit.nd rfl (Or.inl rfl))) (fun _ _ _ _ _ => pts_nil) (fun _ _ _ _ _ => (pv 2)) (fun _ _ _ _ _ => (pe_callTy (tupK K) (by rfl) T.tuple bt_tuple (pa_cons (pe_dget (hu_of hr) (pv 1) (pv 2) (fun _ _ => rfl)) pa_nil)))))
    (pss_cons (psfld K (pv 0) (pe_lst pa_nil))
    (pss_lock (pss_cons (ps_for PassesOwn.never rfl (pi_values (pefld K (pv 0))) (pgtup K (n := 2) rfl (pgs_cons (pg_name (i := 3) sc_minit.nd rfl (Or.inl rfl)) (pgs_cons (pg_name (i := 4) sc_minit.nd rfl (Or.inl rfl)) pgs_nil))) (pss_one (ps_for PassesOwn.never rfl (pitup K (pe_tup (pa_cons (pv 3) (pa_cons (pv 4) pa_nil)))) (pg_name (i := 5) sc_minit.nd rfl (Or.inl rfl)) (pss_one (ps_if (pt_cmpR (niQ K) (pv 5) (pefld K (pv 0)) rfl) (pss_one (ps_expr (pem K PySem.F.plainAttrs_list PySem.F.slot_list_append PySem.F.type_list_append mt_append (pefld K (pv 0)) (pa_cons (pv 5) pa_nil)))) pss_nil)))))
    (pss_one (psfld K (pv 0) (pe_dc (own := [("name", 2), ("one", 3), ("other", 4)]) rfl sc_minit.nd (pi_items (pefld K (pv 0))) (blkOk_by (N := N_minit) (sc := defScope m_init) (by decide +kernel)) (fun _ _ _ _ _ => (pgtup K (n := 2) rfl (pgs_cons (pg_name (i := 2) sc_minit.nd rfl (Or.inl rfl)) (pgs_cons (pgtup K (n := 2) rfl (pgs_cons (pg_name (i := 3) sc_minit.nd rfl (Or.inl rfl)) (pgs_cons (pg_name (i := 4) sc_minit.nd rfl (Or.inl rfl)) pgs_nil))) pgs_nil)))) (fun _ _ _ _ _ => pts_nil) (fun _ _ _ _ _ => (pv 2)) (fun _ _ _ _ _ => (pe_callC c_way_along (hr.mono (by decide)) (by rfl) (pa_cons (pefld K (pv 0)) (pa_cons (pv 4) (pa_cons (pv 3) pa_nil))))))))))))), ?_⟩
  -- the arcs are looked at
  refine sq ?_
  refine ifs ?_
  refine ⟨_, rfl, _, _, _, _, _, rfl, .ty _, .fDict hd, kit_dict_dict, true, rfl, iteF ?_⟩
  have hkne : kvs ≠ [] := fun z => by
    rw [z] at hl
    exact hne (List.eq_nil_of_length_eq_zero hl.symm)
  refine ⟨_, rfl, fun p hp => ?_⟩
  have e1 := Same.new (o := .dK []) hp
  refine ⟨d, p, kvs, rfl, rfl, .inr ⟨o, e1 _ _ hd⟩, .inl upd_same, hkne, false, rfl, iteF ?_⟩
  refine nx2 ?_
  refine sq ?_
  refine for_keys (H0 := H) (val_var rfl) e1 hd (fun i σ H1 => ∃ v2 v3 v4 v5, σ = [some (.ref x), some (.ref d), v2, v3, v4, v5] ∧ Same H H1) ⟨_, _, _, _, rfl, e1⟩ (fun i σ H1 _ ⟨_, _, _, _, _, e⟩ => e) ?_ ?_
  · rintro i ky v σ H1 hi ⟨v2, v3, v4, v5, rfl, e2⟩
    obtain ⟨a, t, ha, rfl, rfl, ht⟩ := hk.at' hi
    obtain ⟨o1, o2, o3⟩ := hok a (mem_at ha)
    refine gn ?_
    refine ifs ?_
    refine ⟨_, rfl, a.1, rfl, o1, fun H2 e3 => ⟨true, rfl, iteF ?_⟩⟩
    have e23 := e2.trans e3
    obtain ⟨t', hg, ht'⟩ := (hA.same e23).get hN (mem_at ha)
    refine ⟨_, rfl, _, rfl, d, _, rfl, hg, t', a.2.1, a.2.2, rfl, ht', o2, o3, fun H3 e4 => ⟨true, rfl, iteF ?_⟩⟩
    exact ⟨_, _, _, _, rfl, e23.trans e4⟩
  rintro σ H1 ⟨v2, v3, v4, v5, rfl, e2⟩
  -- own_arcs
  refine ds (sq ?_)
  have hk1 := hk.same e2
  have hx1 := e2 _ _ hx
  refine dc_keys (H0 := H) (fun i ys => ArcsK H ys (A.take i)) (val_var rfl) (e2 _ _ hd) (by omega) ?_ .nil ?_ ?_
  · intro i ys h
    rw [h.len]
    exact List.length_take_le i A
  · rintro i ky v H2 ys hi e hys R1 R2 hR1 hR2
    obtain ⟨a, t, ha, rfl, rfl, ht⟩ := hk.at' hi
    have e12 := e2.trans e
    obtain ⟨t2, hv2, ht2⟩ := hk.val hN (mem_at ha)
    have hg1 : DGet H2 d (.str a.1) (some (.ref t2)) := .inl ⟨kvs, Sum.inr a.1, .inr ⟨o, e12 _ _ hd⟩, rfl, hv2.symm⟩
    refine gn ⟨rfl, yesT ⟨_, rfl, ?_⟩⟩
    refine ⟨_, rfl, _, rfl, d, _, rfl, hg1, t2, _, rfl, .inr ⟨SqT.of (e12 _ _ ht2), ?_⟩⟩
    refine hR1 (Sum.inr a.1) _ H2 (Same.refl _) ?_
    have hat : a.1 ∉ (A.take i).map (·.1) := by
      rw [List.map_take]
      exact nodup_take_not hN (by rw [List.getElem?_map, ha]; rfl)
    rw [putK_new _ (hys.none hat), take_snoc ha]
    exact hys.snoc ht2
  rintro da kva H2 hda e3 hda2 hka
  rw [hl, List.take_length] at hka
  have e23 := e2.trans e3
  have hda0 : H da = none := e2.free hda
  have hxd : x ≠ da := ne_of_none hx1 hda
  refine ⟨_, rfl, x, C, dx, [], rfl, e23 _ _ hx, T.cl, T.nA, by decide, ?_⟩
  -- own_nodes
  have keepX : ∀ a o, a ≠ x → H a = some o → upd H2 x (.ins C dx (putF "own_arcs" (.ref da) [])) a = some o := fun a o h1 h2 => by rw [upd_ne h1]; exact e23 _ _ h2
  have hx3 : upd H2 x (.ins C dx (putF "own_arcs" (.ref da) [])) x = some (.ins C dx [(("own_arcs" : Str), V.ref da)]) := by rw [upd_same, put1]
  have hda3 : upd H2 x (.ins C dx (putF "own_arcs" (.ref da) [])) da = some (.dK kva) := by rw [upd_ne hxd.symm]; exact hda2
  generalize upd H2 x (.ins C dx (putF "own_arcs" (.ref da) [])) = H3 at keepX hx3 hda3
  refine ds (sq ?_)
  refine ⟨Nat.zero_le _, fun dn hdn => ?_⟩
  have e4 := Same.new (o := .lst []) hdn
  have hdn0 : H dn = none := by
    cases q : H dn with
    | none => rfl
    | some u =>
      have : dn ≠ x := fun z => by rw [z, hx3] at hdn; cases hdn
      rw [keepX _ _ this q] at hdn
      cases hdn
  have hdnx : dn ≠ x := (ne_of_none hx3 hdn).symm
  have hdnda : dn ≠ da := (ne_of_none hda3 hdn).symm
  refine ⟨_, rfl, x, C, dx, _, rfl, e4 _ _ hx3, T.cl, T.nN, by show 1 < 1000; decide, ?_⟩
  have keepX4 : ∀ a o, a ≠ x → H a = some o → upd (upd H3 dn (.lst [])) x (.ins C dx (putF "own_nodes" (.ref dn) [(("own_arcs" : Str), V.ref da)])) a = some o := fun a o h1 h2 => by rw [upd_ne h1]; exact e4 _ _ (keepX _ _ h1 h2)
  have hx4 : upd (upd H3 dn (.lst [])) x (.ins C dx (putF "own_nodes" (.ref dn) [(("own_arcs" : Str), V.ref da)])) x = some (.ins C dx [(("own_arcs" : Str), V.ref da), ("own_nodes", V.ref dn)]) := by rw [upd_same, put2]
  have hda4 : upd (upd H3 dn (.lst [])) x (.ins C dx (putF "own_nodes" (.ref dn) [(("own_arcs" : Str), V.ref da)])) da = some (.dK kva) := by rw [upd_ne hxd.symm]; exact e4 _ _ hda3
  have hdn4 : upd (upd H3 dn (.lst [])) x (.ins C dx (putF "own_nodes" (.ref dn) [(("own_arcs" : Str), V.ref da)])) dn = some (.lst []) := by rw [upd_ne hdnx]; exact upd_same
  generalize upd (upd H3 dn (.lst [])) x (.ins C dx (putF "own_nodes" (.ref dn) [(("own_arcs" : Str), V.ref da)])) = H4 at keepX4 hx4 hda4 hdn4
  -- the arcs are locked
  refine ⟨da, _, hda4, trivial, fun od => ?_⟩
  have keep5 : ∀ a o, a ≠ x → H a = some o → upd H4 da (.frz od (.dK kva)) a = some o := fun a o h1 h2 => by rw [upd_ne (ne_of_none h2 hda0)]; exact keepX4 _ _ h1 h2
  have hx5 : upd H4 da (.frz od (.dK kva)) x = some (.ins C dx [(("own_arcs" : Str), V.ref da), ("own_nodes", V.ref dn)]) := by rw [upd_ne hxd]; exact hx4
  have hda5 : upd H4 da (.frz od (.dK kva)) da = some (.frz od (.dK kva)) := upd_same
  have hdn5 : upd H4 da (.frz od (.dK kva)) dn = some (.lst []) := by rw [upd_ne hdnda]; exact hdn4
  generalize upd H4 da (.frz od (.dK kva)) = H5 at keep5 hx5 hda5 hdn5
  have hka5 : ArcsK H5 kva A := hka.mono fun t xs ht => keep5 _ _ (fun z => by rw [z, hx] at ht; cases ht) ht
  -- all but dn stands
  have hB : Same (Off [dn] H5) H5 := off_le
  have hdaB : Off [dn] H5 da = some (.frz od (.dK kva)) := by rw [off_at (by simp [hdnda.symm])]; exact hda5
  have hlk : kva.length = A.length := hka.len
  refine sq ?_
  refine for_vals (H0 := Off [dn] H5) (d := da) (o := od) (kvs := kva) (val_fld (val_var rfl) hx5 T.cl T.nA (lk2_A _ _)) hB hdaB (fun j σ H6 => ∃ v2 v3 v4 v5, σ = [some (.ref x), some (.ref d), v2, v3, v4, v5] ∧ Same (Off [dn] H5) H6 ∧ H6 dn = some (.lst (((A.take j).foldl nd2 []).map V.str)))
    ⟨_, _, _, _, rfl, hB, hdn5⟩ (fun j σ H2 _ ⟨_, _, _, _, _, e, _⟩ => e) ?_ ?_
  · rintro j ky v σ H6 hj ⟨v2, v3, v4, v5, rfl, e6, hn6⟩
    obtain ⟨a, t, ha, _, rfl, ht⟩ := hka5.at' hj
    have ht6 : H6 t = some (.tup [.str a.2.1, .str a.2.2]) := e6 _ _ (by
      have : t ≠ dn := fun z => by rw [z, hdn5] at ht; cases ht
      rw [off_at (by simp [this])]
      exact ht)
    refine ⟨t, _, rfl, SqT.of ht6, rfl, _, _, rfl, gn ⟨_, _, rfl, gn ⟨rfl, ?_⟩⟩⟩
    have hf := foldl_take nd2 [] ha
    have hlen := nd2_len (A.take j) []
    have hlt := List.length_take_le' j A
    rw [List.length_nil] at hlen
    generalize (A.take j).foldl nd2 [] = cur at hn6 hf hlen
    refine ⟨_, rfl, _, rfl, by show 2 ≤ sizeLine; decide, fun tt htt => ?_⟩
    have e7 := Same.new (o := .tup [.str a.2.1, .str a.2.2]) htt
    have hxH : ∀ H7, Same (Off [dn] H5) H7 → H7 x = some (.ins C dx [(("own_arcs" : Str), V.ref da), ("own_nodes", V.ref dn)]) := fun H7 e => e _ _ (by rw [off_at (by simp [hdnx.symm])]; exact hx5)
    have httd : tt ≠ dn := fun z => by rw [z, hn6] at htt; cases htt
    refine ⟨tt, rfl, ⟨_, SqT.of upd_same⟩, for_tup (xs := [.str a.2.1, .str a.2.2]) (fun m σ H7 => ∃ v5, σ = [some (.ref x), some (.ref d), v2, some (.str a.2.1), some (.str a.2.2), v5] ∧ Same (Off [dn] H5) H7 ∧ H7 tt = some (.tup [.str a.2.1, .str a.2.2]) ∧ H7 dn = some (.lst (([a.2.1, a.2.2].take m).foldl addN cur |>.map V.str)))
      ⟨_, rfl, e6.trans e7, upd_same, e7 _ _ hn6⟩ (fun m σ H7 _ ⟨_, _, _, h, _⟩ => SqT.of h) ?_ ?_⟩
    · rintro m y σ H7 hm ⟨v5, rfl, e8, h8, h9⟩
      have hy : ∃ z, [a.2.1, a.2.2][m]? = some z ∧ y = .str z := by
        match m, hm with
        | 0, hm => exact ⟨_, rfl, (Option.some.inj hm).symm⟩
        | 1, hm => exact ⟨_, rfl, (Option.some.inj hm).symm⟩
      obtain ⟨z, hz, rfl⟩ := hy
      have hf2 := foldl_take addN cur hz
      have hlen2 : (([a.2.1, a.2.2].take m).foldl addN cur).length ≤ 1000 := by
        match m with
        | 0 => simp; omega
        | 1 =>
          have := addN_len cur a.2.1
          simp; omega
        | m + 2 =>
          have h1 := addN_len cur a.2.1
          have h2 := addN_len (addN cur a.2.1) a.2.2
          simp; omega
      generalize ([a.2.1, a.2.2].take m).foldl addN cur = cur2 at h9 hf2 hlen2
      refine gn ?_
      refine ifs ?_
      refine ⟨_, rfl, ?_⟩
      refine val_fld (val_var rfl) (hxH _ e8) T.cl T.nN (lk2_N _ _) _ ?_
      refine ⟨dn, _, rfl, .inl (SqL.of h9), rfl, flat_strs _, !decide (z ∈ cur2), ?_, ?_⟩
      · show V.bl (!inV (.str z) (cur2.map V.str)) = _
        rw [inV_str]
      by_cases hz2 : z ∈ cur2
      · rw [decide_eq_true hz2]
        refine iteF ⟨_, rfl, e8, h8, ?_⟩
        rw [hf2]
        unfold addN
        rw [if_pos hz2]
        exact h9
      · rw [decide_eq_false hz2]
        refine iteT ?_
        refine drop ?_
        refine val_fld (val_var rfl) (hxH _ e8) T.cl T.nN (lk2_N _ _) _ ?_
        refine ⟨.inl ⟨rfl, _, SqL.of h9⟩, _, rfl, dn, _, _, rfl, rfl, h9, by rw [List.length_map]; exact small_lt (by omega), ?_⟩
        refine ⟨_, rfl, e8.mut (off_in (by simp)), ?_, ?_⟩
        · rw [upd_ne httd]; exact h8
        · rw [upd_same, hf2]
          unfold addN
          rw [if_neg hz2, List.map_append]
          rfl
    · rintro σ H7 ⟨v5, rfl, e8, h8, h9⟩
      refine ⟨_, _, _, _, rfl, e8, ?_⟩
      rw [hf]
      exact h9
  rintro σ H6 ⟨v2, v3, v4, v5, rfl, e6, hn6⟩
  rw [List.take_of_length_le (by omega), ← nodes_nd2] at hn6
  -- own_rings
  have hx6 : H6 x = some (.ins C dx [(("own_arcs" : Str), V.ref da), ("own_nodes", V.ref dn)]) := e6 _ _ (by rw [off_at (by simp [hdnx.symm])]; exact hx5)
  have hda6 : H6 da = some (.frz od (.dK kva)) := e6 _ _ hdaB
  have hka6 : ArcsK H6 kva A := hka5.mono fun t xs ht => e6 _ _ (by
    have : t ≠ dn := fun z => by rw [z, hdn5] at ht; cases ht
    rw [off_at (by simp [this])]
    exact ht)
  have hA6 : FArcs H6 da A := ⟨od, kva, hda6, hka6⟩
  refine ds ?_
  refine ⟨_, rfl, x, C, dx, _, _, rfl, hx6, T.cl, T.nA, lk2_A _ _, da, od, kva, rfl, hda6, fun D hD => ?_⟩
  refine dcA (walk_items (d := da) (o := od) (kvs := kva)) (fun i ys H' => ∃ R, RingsK (Off [D] H') ys (A.take i) R ∧ ∀ a ∈ A.take i, RingOk A a (R a.1) ∧ ∀ q, R a.1 = some q → q.length ≤ 20) (Same.refl H6) hD (small_lt (by omega)) ?_ ?_ ⟨fun _ => none, .nil, fun _ z => absurd z (by simp)⟩ (fun H7 e => e _ _ hda6) ?_ ?_
  · rintro i ys H' ⟨R, h, _⟩
    have := Paired.length h
    have h2 := List.length_take_le i A
    omega
  · rintro i ys H' H'' e ⟨R, h1, h2⟩
    exact ⟨R, h1.same (sameX_off e), h2⟩
  · rintro i y H7 H8 ys hi e7 hD6 hD7 ⟨R, hR1, hR2⟩ ⟨T1, y1, y2, rfl, ht1, rfl, hk1', hv1'⟩ R1 R2 hRR1 hRR2
    have hia : i < A.length := by omega
    obtain ⟨t, hkt, htt⟩ := hka6.at (List.getElem?_eq_getElem hia)
    have ha : A[i]? = some A[i] := List.getElem?_eq_getElem hia
    generalize A[i] = a at hkt htt ha
    have hk2 : (kva[i]?.map fun kv => kV kv.1) = some y1 := hk1'
    have hv2 : (kva[i]?.map Prod.snd) = some y2 := hv1'
    rw [hkt] at hk2 hv2
    have hk3 : y1 = .str a.1 := (Option.some.inj hk2).symm
    have hv3 : y2 = .ref t := (Option.some.inj hv2).symm
    subst hk3 hv3
    have e8 := e7.trans (Same.new (o := .tup [.str a.1, .ref t]) ht1)
    have hD8 : D ≠ T1 := ne_of_none hD7 ht1
    refine ⟨T1, _, rfl, SqT.of upd_same, rfl, _, _, rfl, gn ⟨_, _, rfl, ?_⟩⟩
    refine ⟨t, _, rfl, SqT.of (e8 _ _ htt), rfl, _, _, rfl, gn ⟨_, _, rfl, gn ⟨rfl, rfl, rfl, yesT ⟨_, rfl, ?_⟩⟩⟩⟩
    refine ⟨_, rfl, x, C, dx, _, _, rfl, e8 _ _ hx6, T.cl, T.nA, lk2_A _ _, _, rfl, _, rfl, da, A, a.2.2, a.2.1, rfl, hA6.same e8, hN, by omega, fun c v H9 hc e9 hv => ?_⟩
    have hDz : upd H7 T1 (.tup [.str a.1, .ref t]) D = some (.dK ys) := by rw [upd_ne hD8]; exact hD7
    have hat : a.1 ∉ (A.take i).map (·.1) := by
      rw [List.map_take]
      exact nodup_take_not hN (by rw [List.getElem?_map, ha]; rfl)
    refine hRR1 (Sum.inr a.1) v H9 (e8.trans e9) (e9 _ _ hDz) ⟨fun n => if n = a.1 then lk c a.2.1 else R n, ?_, ?_⟩
    · have hys : RingsK (Off [D] H9) ys (A.take i) (fun n => if n = a.1 then lk c a.2.1 else R n) := by
        have h3 : RingsK (Off [D] H9) ys (A.take i) R := (hR1.same (off_mono (Same.new (o := .tup [.str a.1, .ref t]) ht1))).same (off_mono e9)
        have key : ∀ (B : List (Arc Str)) (zs : List (Key × V)), (∀ b ∈ B, b.1 ≠ a.1) → RingsK (Off [D] H9) zs B R → RingsK (Off [D] H9) zs B (fun n => if n = a.1 then lk c a.2.1 else R n) := by
          intro B zs hB hz
          unfold RingsK at hz ⊢
          induction hz with
          | nil => exact .nil
          | @cons kv b _ _ h _ ih =>
            refine .cons ⟨h.1, ?_⟩ (ih fun b hb => hB b (List.mem_cons_of_mem _ hb))
            show RingV _ kv.2 (if b.1 = a.1 then lk c a.2.1 else R b.1)
            rw [if_neg (hB b List.mem_cons_self)]
            exact h.2
        exact key _ _ (fun b hb z => hat (by rw [← z]; exact List.mem_map.mpr ⟨b, hb, rfl⟩)) h3
      have hvn : valV ys (Sum.inr a.1) = none := by
        cases q : valV ys (Sum.inr a.1) with
        | none => rfl
        | some w =>
          have hm := valV_in q
          have key : ∀ (B : List (Arc Str)) (zs : List (Key × V)), RingsK (Off [D] H7) zs B R → zs.map (·.1) = (B.map (·.1)).map Sum.inr := by
            intro B zs hz
            unfold RingsK at hz
            induction hz with
            | nil => rfl
            | @cons kv b _ _ h _ ih => rw [List.map_cons, List.map_cons, List.map_cons, ih, h.1]
          rw [key _ _ hR1] at hm
          obtain ⟨y, hy, e⟩ := List.mem_map.mp hm
          cases e
          exact absurd hy hat
      rw [putK_new _ hvn, take_snoc ha]
      refine paired_app hys (.cons ⟨rfl, ?_⟩ .nil)
      show RingV (Off [D] H9) v (if a.1 = a.1 then lk c a.2.1 else R a.1)
      rw [if_pos rfl]
      rcases hv with ⟨h1, h2⟩ | ⟨q, b, h1, h2, h3, _⟩
      · rw [h1, h2]
        rfl
      · rw [h1, h2]
        refine ⟨b, rfl, ?_⟩
        have : b ≠ D := fun z => by rw [z, e9 _ _ hDz] at h3; cases h3
        rw [off_at (by simp [this])]
        exact h3
    · intro b hb
      rw [take_snoc ha] at hb
      dsimp only
      rcases List.mem_append.mp hb with z | z
      · have hne : b.1 ≠ a.1 := fun w => hat (by rw [← w]; exact List.mem_map.mpr ⟨b, z, rfl⟩)
        rw [if_neg hne]
        exact hR2 b z
      · rw [List.mem_singleton.mp z, if_pos rfl]
        refine ⟨ring_ok hc, fun q hq => ?_⟩
        rcases hv with ⟨h1, _⟩ | ⟨q', _, h1, _, _, h4⟩
        · rw [h1] at hq; cases hq
        · rw [h1] at hq; cases hq; exact h4
  · rintro kvr H7 e7 hD7 ⟨R, hR1, hR2⟩
    rw [hlk, List.take_length] at hR1 hR2
    refine ⟨_, rfl, x, C, dx, _, rfl, e7 _ _ hx6, T.cl, T.nR, by show 2 < 1000; decide, ?_⟩
    have hDx : D ≠ x := (ne_of_none hx6 hD).symm
    have hDda : D ≠ da := (ne_of_none hda6 hD).symm
    have hDdn : D ≠ dn := (ne_of_none hn6 hD).symm
    have hD0 : H D = none := by
      cases q : H D with
      | none => rfl
      | some u =>
        have q2 := e6 D u (by rw [off_at (by simp [hDdn])]; exact keep5 _ _ hDx q)
        rw [hD] at q2
        cases q2
    have hda8 : upd H7 x (.ins C dx (putF "own_rings" (.ref D) [(("own_arcs" : Str), V.ref da), ("own_nodes", V.ref dn)])) da = some (.frz od (.dK kva)) := by rw [upd_ne hxd.symm]; exact e7 _ _ hda6
    refine ⟨hda8, ?_⟩
    have at9 : ∀ a u, a ≠ x → a ≠ da → H7 a = some u → upd (upd H7 x (.ins C dx (putF "own_rings" (.ref D) [(("own_arcs" : Str), V.ref da), ("own_nodes", V.ref dn)]))) da (.dK kva) a = some u := fun a u h1 h2 h3 => by
      rw [upd_ne h2, upd_ne h1]
      exact h3
    have keep9 : ∀ a u, a ≠ x → H a = some u → upd (upd H7 x (.ins C dx (putF "own_rings" (.ref D) [(("own_arcs" : Str), V.ref da), ("own_nodes", V.ref dn)]))) da (.dK kva) a = some u := fun a u h1 h2 => by
      have h3 : a ≠ dn := fun z => by rw [z, hdn0] at h2; cases h2
      refine at9 a u h1 (ne_of_none h2 hda0) (e7 _ _ (e6 _ _ ?_))
      rw [off_at (by simp [h3])]
      exact keep5 _ _ h1 h2
    refine k da dn D kva kvr R _ keep9 hda0 hdn0 hD0 hDda.symm ?_ upd_same ?_ (at9 _ _ hdnx hdnda (e7 _ _ hn6)) (at9 _ _ hDx hDda hD7) ?_ hR2
    · rw [upd_ne hxd, upd_same, put3]
    · exact hka.mono fun t xs ht => keep9 _ _ (fun z => by rw [z, hx] at ht; cases ht) ht
    · refine Paired.mapP hR1 fun kv a ⟨h1, h2⟩ => ⟨h1, ?_⟩
      cases q : R a.1 with
      | none => rw [q] at h2; exact h2
      | some w =>
        rw [q] at h2
        obtain ⟨b, h3, h4⟩ := h2
        have h5 : b ∉ [D] := fun z => by rw [off_in z] at h4; cases h4
        rw [off_at h5] at h4
        exact ⟨b, h3, at9 _ _ (ne_of h4 (e7 _ _ hx6) (fun z => nomatch z)) (ne_of h4 (e7 _ _ hda6) (fun z => nomatch z)) h4⟩
end
end K25

namespace K25
open PySem PySem.Spec PyProof.Rows L2
section
variable (K : PySem.W.Frag) {X : Cx}
theorem eqPlan (hu : X.A.units + 64 < cLine) (h : X.K = K := by rfl) : OpR X (compareOp .Eq) (fun x y H Q => rEq x y H Q ∨ rEqV K x y H Q) := op_eq.or (eqVr K hu h)
theorem eqPair (hu : X.A.units + 64 < cLine) (h : X.K = K := by rfl) : OpR X (compareOp .Eq) (fun x y H Q => rEq x y H Q ∨ rEqTV K x y H Q) := op_eq.or (eqTV K hu h)
end
section
variable {P : Program} {w : World} {K : PySem.W.Frag} {mg : Str → Option Value} {base : Heap} {C : Addr}
/-! ### the net's answers are right -/
theorem kit_tup_tup : PySem.W.kitOne K (.type "tuple") (.type "tuple") = some true := kit_ty (by decide +kernel)
theorem rb_due {A : List (Arc Str)} {Ks : List Str} {a : Arc Str} {r : Option (List (Str × Int))} (hN : Names A) (ha : a ∈ A) (h : RB A Ks a r) : r.isNone = due A Ks a.1 := by
  rcases h with ⟨h1, h2⟩ | ⟨h1, h2⟩
  · rw [h2, due_still ha h1]
    rfl
  · cases r with
    | none => rw [told_due hN ha h2]; rfl
    | some q => rw [(h2.facts hN).due hN ha (not_still h1).1 (not_still h1).2]; rfl
theorem eqV_str (K : PySem.W.Frag) (H : Hp) (xs : List Str) : Paired (EqV K H 1) (xs.map V.str) (xs.map V.str) := by
  induction xs with
  | nil => exact .nil
  | cons x xs ih => exact .cons (.inl ⟨rfl, rfl⟩) ih
theorem eqV_world {K : PySem.W.Frag} {H : Hp} {d d' : Addr} {A : List (Arc Str)} {f : Str → Int} (hN : Names A) (h : WorldAt H d A f) (h' : WorldAt H d' A f) : EqV K H 2 (.ref d) (.ref d') := by
  refine .inr (.inr (.inr ⟨d, d', _, _, rfl, rfl, h, h', rfl, fun p hp => ?_⟩))
  obtain ⟨a, ha, rfl⟩ := List.mem_map.mp hp
  exact ⟨_, wkv_val hN ha f, .inl ⟨rfl, rfl⟩⟩
def spRight : Sp := fun vs H Q _ => ∃ (n d kn : Addr) (a : Arc Str) (A : List (Arc Str)) (R : Str → Option (List Str)) (Ks : List Str), vs = [.ref n, .ref d, .ref kn, .str a.1, .bl (due A Ks a.1)] ∧ NetAt C H n A R ∧ NetG A R ∧ a ∈ A ∧ FArcs H d A ∧ H kn = some (.lst (Ks.map V.str)) ∧ Ks.Nodup ∧ (∀ x ∈ Ks, x ∈ A.map (·.1)) ∧ Ks.length ≤ 100 ∧
  ∀ H', Same H H' → Q (.bl true) H'
abbrev N_l_is_right : List Str := ["_law_net", "_law_arcs", "_law_known", "_law_asked", "_law_due", "_law_plan", "_law_pair", "_law_x"]
theorem sc_l_is_right : FnScope N_l_is_right ["_law_net", "_law_arcs", "_law_known", "_law_asked", "_law_due"] (defScope s_l_is_right) := ⟨rfl, rfl, rfl, by decide +kernel, rfl, by decide +kernel, by decide +kernel⟩
theorem cal_l_is_right (T : Txt K mg C) (F : Has K mg "_law_c_is_right" s_l_is_right) (c_l_is_plan : Cal P w K mg base "_law_c_is_plan" 3 ["_law_arcs", "_law_known", "_law_asked", "_law_x"] spIsPlan) (c_l_is_world : Cal P w K mg base "_law_c_is_world" 2 ["_law_arcs", "_law_x"] spWorld)
    (mc_plan : CalM P w K mg base C "plan" 4 ["self", "known", "asked"] (spPlan (C := C))) (mc_apart : CalM P w K mg base C "apart" 4 ["self", "known", "asked"] (spApart (C := C))) : Cal P w K mg base "_law_c_is_right" 5 ["_law_net", "_law_arcs", "_law_known", "_law_asked", "_law_due"] (spRight (C := C)) := by
  refine F.cal sc_l_is_right (fun vs H Q E h => by obtain ⟨n, d, kn, a, A, R, Ks, rfl, _⟩ := h; rfl) (fun _ _ _ _ _ _ us hl => match us, hl with | [_, _, _, _, _], _ => rfl) (fun fa cdv Ar outer s0 H vs Q E hr h => ?_)
  obtain ⟨n, d, kn, a, A, R, Ks, rfl, hnet, hG, ha, hA, hkn, hKn, hKs, hK100, k⟩ := h
  obtain ⟨dx, da, dn, dr, h1, _⟩ := id hnet
  obtain ⟨hN, hA7, hR⟩ := id hG
  have ask : ∀ H', Same H H' → Ask C [.ref n, .ref kn, .str a.1] H' n kn a A R Ks := fun H' e => ⟨rfl, hnet.same e, hG, ha, .inl (e _ _ hkn), hKn, hKs, hK100⟩
  refine ⟨_, pss_cons (ps_asg (pe_tup (pa_cons (pe_methC (pv 0) T.cl mc_plan (hr.mono (by decide)) (pa_cons (pv 2) (pa_cons (pv 3) pa_nil))) (pa_cons (pe_methC (pv 0) T.cl mc_apart (hr.mono (by decide)) (pa_cons (pv 2) (pa_cons (pv 3) pa_nil))) pa_nil))) (pgtup K (n := 2) rfl (pgs_cons (pg_name (i := 5) sc_l_is_right.nd rfl (Or.inl rfl)) (pgs_cons (pg_name (i := 6) sc_l_is_right.nd rfl (Or.inr rfl)) pgs_nil))))
    (pss_cons (ps_if (PW.pt (pw_or (pt_cmpR op_ne (pe_cmp (pc_notN (pv 5))) (pv 4) (nomark _)) (pw_or1 (pt_cmpR op_ne (pe_cmp (pc_isN (pv 6))) (pv 4) (nomark _))))) (pss_one (ps_ret pe_bl)) pss_nil)
    (pss_cons (ps_if (PW.pt (pw_and (pt_val (pv 4)) (pw_and1 (pt_not (pt_val (pe_callC c_l_is_plan (hr.mono (by decide)) (by rfl) (pa_cons (pv 1) (pa_cons (pv 2) (pa_cons (pv 3) (pa_cons (pv 5) pa_nil)))))))))) (pss_one (ps_ret pe_bl)) pss_nil)
    (pss_cons (ps_if (pt_cmp (pc_notN (pv 6))) (pss_cons (ps_if (PW.pt (pw_or (pt_not (pt_val (pe_callB (isiK K) (by rfl) T.isi bt_isinstance (pa_cons (pv 6) (pa_cons (pe_bltn (v := .ty "tuple") (by rfl) T.tuple bt_tuple rfl) pa_nil))))) (pw_or1 (pt_not (pt_val (pe_callB (allK K rfl) (by rfl) T.all bt_all (pa_cons (pe_lc (own := [("_law_x", 7)]) rfl sc_l_is_right.nd (pitup K (pv 6)) (blkOk_by (N := N_l_is_right) (sc := defScope s_l_is_right) (by decide +kernel)) (fun _ _ _ _ _ => (pg_name (i := 7) sc_l_is_right.nd rfl (Or.inl rfl))) (fun _ _ _ _ _ => pts_nil) (fun _ _ _ _ _ => (pe_callC c_l_is_world (hr.mono (by decide)) (by rfl) (pa_cons (pv 1) (pa_cons (pv 7) pa_nil))))) pa_nil))))))) (pss_one (ps_ret pe_bl)) pss_nil)
    (pss_one (ps_if (PW.pt (pw_or (pt_val (pe_callB (anyK K rfl) (by rfl) T.any bt_any (pa_cons (pe_lc (own := [("_law_x", 7)]) rfl sc_l_is_right.nd (pilist K (pv 2)) (blkOk_by (N := N_l_is_right) (sc := defScope s_l_is_right) (by decide +kernel)) (fun _ _ _ _ _ => (pg_name (i := 7) sc_l_is_right.nd rfl (Or.inl rfl))) (fun _ _ _ _ _ => pts_nil) (fun _ _ _ _ _ => (pe_cmpR op_ne (pe_dget (hu_of hr) (pe_ix (ixT K) (pv 6) pe_int (fun _ _ => rfl)) (pv 7) (fun _ _ => rfl)) (pe_dget (hu_of hr) (pe_ix (ixT K) (pv 6) pe_int (fun _ _ => rfl)) (pv 7) (fun _ _ => rfl)) (nomark _)))) pa_nil))) (pw_or1 (pt_cmpR op_eq (pe_dget (hu_of hr) (pe_ix (ixT K) (pv 6) pe_int (fun _ _ => rfl)) (pv 3) (fun _ _ => rfl)) (pe_dget (hu_of hr) (pe_ix (ixT K) (pv 6) pe_int (fun _ _ => rfl)) (pv 3) (fun _ _ => rfl)) (nomark _))))) (pss_one (ps_ret pe_bl)) pss_nil))) pss_nil)
    (pss_one (ps_ret (pe_and (pe_cmpR (eqPlan K hr.units) (pe_methC (pv 0) T.cl mc_plan (hr.mono (by decide)) (pa_cons (pv 2) (pa_cons (pv 3) pa_nil))) (pv 5) (nomark _)) (pe_one (pe_cmpR (eqPair K hr.units) (pe_methC (pv 0) T.cl mc_apart (hr.mono (by decide)) (pa_cons (pv 2) (pa_cons (pv 3) pa_nil))) (pv 6) (nomark _))))))))), ?_⟩
  refine sq ?_
  refine asg ?_
  refine ⟨_, rfl, n, dx, _, rfl, h1, rfl, _, rfl, _, rfl, n, kn, a, A, R, Ks, ask H (Same.refl _), fun vp r H1 e1 hrb hvp => ?_⟩
  refine ⟨_, rfl, n, dx, _, rfl, e1 _ _ h1, rfl, _, rfl, _, rfl, n, kn, a, A, R, Ks, ask H1 e1, fun va r2 H2 e2 hrb2 hva => ?_⟩
  have e12 := e1.trans e2
  have := hrb.uniq hrb2
  subst this
  have hdue := rb_due hN ha hrb
  refine ⟨by show 2 ≤ sizeLine; decide, fun tt htt => ?_⟩
  have e3 := Same.new (o := .tup [vp, va]) htt
  have e13 := e12.trans e3
  refine ⟨tt, _, rfl, SqT.of upd_same, rfl, _, _, rfl, gn ⟨_, _, rfl, gn ⟨rfl, ?_⟩⟩⟩
  generalize hH3 : upd H2 tt (.tup [vp, va]) = H3 at e3 e13
  -- what they are, in any heap after
  have hvp3 : ∀ H', Same H3 H' → PlanV A Ks a H' vp r := fun H' e => by
    have e' := (e2.trans e3).trans e
    cases r with
    | some q => exact hvp
    | none =>
      obtain ⟨p, S, p1, p2, p3, p4⟩ := hvp
      exact ⟨p, S, p1, e' _ _ p2, p3, p4⟩
  have hva3 : ∀ H', Same H3 H' → ApartV A R a H' va r := fun H' e => by
    have e' := e3.trans e
    cases r with
    | none => exact hva
    | some q =>
      obtain ⟨t, d1, d2, p1, p2, p3, p4⟩ := hva
      exact ⟨t, d1, d2, p1, e' _ _ p2, e' _ _ p3, e' _ _ p4⟩
  have hpn : (!decide (vp = V.non)) = r.isNone := by
    cases r with
    | some q =>
      have hvp : vp = .non := hvp
      rw [hvp]
      rfl
    | none =>
      obtain ⟨p, S, rfl, _⟩ := hvp
      rfl
  have han : decide (va = V.non) = r.isNone := by
    cases r with
    | none =>
      have hva : va = .non := hva
      rw [hva]
      rfl
    | some q =>
      obtain ⟨t, d1, d2, rfl, _⟩ := hva
      rfl
  refine ds (sq ?_)
  refine ifs ?_
  refine ⟨_, rfl, _, rfl, rfl, false, ?_, iteF ?_⟩
  · rw [hpn, hdue]
    simp
  refine ⟨_, rfl, _, rfl, rfl, false, ?_, iteF ?_⟩
  · rw [han, hdue]
    simp
  refine nx2 ?_
  have fin : ∀ (σ : L2.St) (H4 : Hp), σ[0]? = some (some (.ref n)) → σ[2]? = some (some (.ref kn)) → σ[3]? = some (some (.str a.1)) → σ[5]? = some (some vp) → σ[6]? = some (some va) → Same H3 H4 →
      tRet (tAndV (tOp (fun x y H Q => rEq x y H Q ∨ rEqV K x y H Q) (tMeth C "plan" (spPlan (C := C)) [] E0 (tVar 0) (tCons (tVar 2) (tCons (tVar 3) tNil))) (tVar 5)) (tOp (fun x y H Q => rEq x y H Q ∨ rEqTV K x y H Q) (tMeth C "apart" (spApart (C := C)) [] E0 (tVar 0) (tCons (tVar 2) (tCons (tVar 3) tNil))) (tVar 6)))
        { nx := fun _ H' => Q .non H', rt := Q } σ H4 := by
    intro σ H4 s0 s2 s3 s5 s6 e4
    have e14 := e13.trans e4
    refine ret ?_
    refine ⟨_, s0, n, dx, _, rfl, e14 _ _ h1, rfl, _, s2, _, s3, n, kn, a, A, R, Ks, ask H4 e14, fun vp' r' H5 e5 hrb' hvp' => ?_⟩
    have := hrb.uniq hrb'
    subst this
    have e45 := e4.trans e5
    have e15 := e14.trans e5
    have hp5 := hvp3 H5 e45
    have next : tOp (fun x y H Q => rEq x y H Q ∨ rEqTV K x y H Q) (tMeth C "apart" (spApart (C := C)) [] E0 (tVar 0) (tCons (tVar 2) (tCons (tVar 3) tNil))) (tVar 6) σ H5 Q := by
      refine ⟨_, s0, n, dx, _, rfl, e15 _ _ h1, rfl, _, s2, _, s3, n, kn, a, A, R, Ks, ask H5 e15, fun va' r' H6 e6 hrb'' hva' => ?_⟩
      have := hrb.uniq hrb''
      subst this
      have e46 := e45.trans e6
      have e16 := e15.trans e6
      have ha6 := hva3 H6 e46
      refine ⟨_, s6, ?_⟩
      cases r with
      | none =>
        have ha6 : va = .non := ha6
        have hva' : va' = .non := hva'
        rw [ha6, hva']
        exact .inl ⟨rfl, k H6 e16⟩
      | some q =>
        obtain ⟨t, d1, d2, rfl, p2, p3, p4⟩ := ha6
        obtain ⟨t', d1', d2', rfl, p2', p3', p4'⟩ := hva'
        exact .inr ⟨2, t', t, _, _, by decide, rfl, rfl, SqT.of p2', SqT.of p2, .cons (eqV_world hN p3' p3) (.cons (eqV_world hN p4' p4) .nil), k H6 e16⟩
    refine ⟨_, s5, ?_⟩
    cases r with
    | some q =>
      have hp5 : vp = .non := hp5
      have hvp' : vp' = .non := hvp'
      rw [hp5, hvp']
      exact .inl ⟨rfl, true, rfl, iteT next⟩
    | none =>
      obtain ⟨p, S, rfl, p2, p3, p4⟩ := hp5
      obtain ⟨p', S', rfl, p2', p3', p4'⟩ := hvp'
      have := p3.uniq p3'
      subst this
      exact .inr ⟨1, by decide, .inl ⟨p', p, _, _, rfl, rfl, SqL.of p2', SqL.of p2, eqV_str K H5 S⟩, true, rfl, iteT next⟩
  refine sq ?_
  refine ifs ?_
  refine ⟨_, rfl, due A Ks a.1, rfl, ?_⟩
  rw [← hdue]
  cases r with
  | none =>
    have hres := hvp3 H3 (Same.refl _)
    obtain ⟨p, S, rfl, p2, p3, p4⟩ := hres
    have hplan : (still A Ks a = true ∧ S = []) ∨ (still A Ks a = false ∧ PlanOk A Ks a S) := by
      rcases p3 with z | ⟨z, c, hc, rfl⟩
      · exact .inl z
      · refine .inr ⟨z, ?_⟩
        rcases hrb with ⟨y, _⟩ | ⟨_, y⟩
        · rw [y] at z; cases z
        · exact plan_ok hN ha y hc
    refine iteT ?_
    refine ⟨_, rfl, _, rfl, _, rfl, _, rfl, d, kn, p, A, Ks, S, a, rfl, hA.same e13, hN, by omega, e13 _ _ hkn, p2, by omega, ha, hplan, fun H4 e4 => ⟨true, rfl, iteF ?_⟩⟩
    have hva4 : va = .non := hva
    subst hva4
    refine nx2 ?_
    refine sq ?_
    refine ifs ?_
    refine ⟨_, rfl, false, rfl, iteF ?_⟩
    refine nx2 ?_
    exact fin _ H4 rfl rfl rfl rfl rfl e4
  | some q =>
    refine iteF (iteF ?_)
    obtain ⟨t, d1, d2, rfl, p2, p3, p4⟩ := hva3 H3 (Same.refl _)
    have hring : RingWay A Ks a (some q) ∧ still A Ks a = false := by
      rcases hrb with ⟨_, z⟩ | ⟨y, z⟩
      · cases z
      · exact ⟨z, y⟩
    have hfac := hring.1.facts hN
    obtain ⟨hnk, hlv⟩ := not_still hring.2
    obtain ⟨hw1, hw1b⟩ := home_world hN (R := R) fun b hb => (hR b hb).1
    have hw2 := hfac.moved hN ha hlv hw1 hw1b
    refine nx2 ?_
    refine sq ?_
    refine ifs ?_
    refine ⟨_, rfl, true, rfl, iteT ?_⟩
    refine sq ?_
    refine ifs ?_
    refine ⟨_, rfl, _, _, _, _, _, rfl, .ty _, .base (.tup p2), kit_tup_tup, true, rfl, iteF ?_⟩
    refine nt (tbs (cb (ac ?_)))
    refine lc_tupv (xs := [.ref d1, .ref d2]) (fun _ => true) (fun _ => V.bl true) (val_var rfl) p2 (by show 2 < 100000; decide) ?_ fun p5 H5 hp5 e5 h5 => ?_
    · rintro i y H4 hi e4 R1 R2 hR1 hR2
      have e14 := e13.trans e4
      refine gn ⟨rfl, yesT ?_⟩
      have hy : ∃ x f, y = .ref x ∧ WorldAt H4 x A f ∧ NetW A f := by
        match i, hi with
        | 0, hi => exact ⟨d1, _, (Option.some.inj hi).symm, e4 _ _ p3, hw1⟩
        | 1, hi => exact ⟨d2, _, (Option.some.inj hi).symm, e4 _ _ p4, hw2⟩
      obtain ⟨x, f, rfl, hx, hf⟩ := hy
      refine ⟨_, rfl, _, rfl, d, x, A, f, rfl, hA.same e14, hN, by omega, hx, fun b H6 e6 hb => ?_⟩
      rw [hb.mpr hf]
      exact hR1 rfl _ e6
    rw [gath_all fun _ => rfl] at h5
    refine ⟨p5, [true, true], rfl, SqL.of h5, true, rfl, iteF ?_⟩
    have e15 := e13.trans e5
    refine nx2 ?_
    refine ifs ?_
    refine tbs ?_
    refine cb (ac ?_)
    refine lc_lst (fun _ => true) (fun _ => V.bl false) (val_var rfl) (e15 _ _ hkn) (by rw [List.length_map]; omega) ?_ fun p6 H6 hp6 e6 h6 => ?_
    · rintro i y H4 hi e4 R1 R2 hR1 hR2
      rw [List.getElem?_map] at hi
      obtain ⟨z, hz, rfl⟩ := Option.map_eq_some_iff.mp hi
      have e54 := e5.trans e4
      obtain ⟨c, hc, ec⟩ := List.mem_map.mp (hKs z (mem_at hz))
      subst ec
      have hq := hfac.known hnk (homeX A R) (mem_at hz)
      refine gn ⟨rfl, yesT ?_⟩
      refine ⟨_, rfl, t, _, 0, _, rfl, rfl, SqT.of (e54 _ _ p2), at_0, _, rfl, d1, _, rfl, WorldAt.get (e54 _ _ p3) hN hc, ?_⟩
      refine ⟨_, rfl, t, _, 1, _, rfl, rfl, SqT.of (e54 _ _ p2), at_1, _, rfl, d2, _, rfl, WorldAt.get (e54 _ _ p4) hN hc, rfl, ?_⟩
      rw [hq, decide_eq_true rfl]
      exact hR1 rfl _ (Same.refl _)
    rw [gath_all fun _ => rfl, bl_rng] at h6
    refine ⟨p6, _, rfl, SqL.of h6, false, ?_, iteF ?_⟩
    · simp
    have e56 := e5.trans e6
    refine ⟨_, rfl, t, _, 0, _, rfl, rfl, SqT.of (e56 _ _ p2), at_0, _, rfl, d1, _, rfl, WorldAt.get (e56 _ _ p3) hN ha, ?_⟩
    refine ⟨_, rfl, t, _, 1, _, rfl, rfl, SqT.of (e56 _ _ p2), at_1, _, rfl, d2, _, rfl, WorldAt.get (e56 _ _ p4) hN ha, rfl, false, ?_, iteF ?_⟩
    · rw [hfac.ask, dec_int]
      have : homeX A R a.1 ≠ homeX A R a.1 + 1 := by omega
      simp [this]
    · refine nx2 ?_
      exact fin _ H6 rfl rfl rfl rfl rfl e56
end
end K25

namespace K25
open PySem PySem.Spec PyProof.Rows L2
section
variable {P : Program} {w : World} {K : PySem.W.Frag} {mg : Str → Option Value} {base : Heap} {C : Addr}
/-! ### the law -/
def spLaw (K : PySem.W.Frag) : Sp := fun vs H Q _ => ∃ (r : Addr) (xs : List Int), vs = [.ref r] ∧ SqL K H r (xs.map V.int) ∧ ∀ H', Q (.bl true) H'
abbrev N_law : List Str := ["_law_script", "_law_stream", "_law_turn", "_law_arcs", "_law_net", "_law_known", "_law_worlds", "_law_asked", "_law_due", "_law_told"]
theorem sc_law : FnScope N_law ["_law_script"] (defScope s_law) := ⟨rfl, rfl, rfl, by decide +kernel, rfl, by decide +kernel, by decide +kernel⟩
theorem off_nl {H : Hp} {s l q : Addr} {n : Nat} {o : HO} (h : StK H s l n) (hq : H q = some o) (ho : ∀ xs, o ≠ .lst xs) : Off [s, l] H q = some o := by rw [off_at (off_ne h hq ho)]; exact hq
theorem off_fa {H : Hp} {s l d : Addr} {n : Nat} {A : List (Arc Str)} (h : StK H s l n) (hA : FArcs H d A) : FArcs (Off [s, l] H) d A := by
  obtain ⟨o, kvs, h1, h2⟩ := hA
  exact ⟨o, kvs, off_nl h h1 fun _ z => (by cases z), h2.mono fun t xs ht => off_nl h ht fun _ z => (by cases z)⟩
theorem worlds_if {σ : L2.St} {H : Hp} {Q : VK} {d : Addr} {od : Obj} {kvs : List (Key × V)} {A : List (Arc Str)} (h3 : σ[3]? = some (some (.ref d))) (hd : H d = some (.frz od (.dK kvs))) (hA : FArcs H d A) (hN : Names A) (hA7 : A.length ≤ 7)
    (k : ∀ wl ys H10, H wl = none → Same H H10 → H10 wl = some (.lst ys) → ys.length ≤ 10000 → WorldsAt H10 ys A → Q (.ref wl) H10) :
    tIf (tTest (tOp (rI0 fun i j => V.bl (decide (j < i))) (tCB rLenD (tCons (tVar 3) tNil)) (tC (.int 5)))) (tCall spWorlds [] E0 (tCons (tVar 3) (tCons (tC (.int 1)) tNil))) (tCall spWorlds [] E0 (tCons (tVar 3) (tCons (tC (.int 2)) tNil))) σ H Q := by
  refine ⟨_, h3, d, kvs, rfl, .inr ⟨od, hd⟩, _, _, rfl, rfl, decide ((5 : Int) < (kvs.length : Int)), rfl, ?_⟩
  by_cases hbig : (5 : Int) < (kvs.length : Int)
  · rw [decide_eq_true hbig]
    refine iteT ?_
    exact ⟨_, h3, d, 1, A, rfl, hA, hN, hA7, by decide, k⟩
  · rw [decide_eq_false hbig]
    refine iteF ?_
    exact ⟨_, h3, d, 2, A, rfl, hA, hN, hA7, by decide, k⟩
theorem fun_ok {x : Str} {st : Stmt} {N ps : List Str} {k : Nat} {sp : Sp} {f : Addr} {fd : FuncData} (F : FunD K x x (defArgs st) (defBody st) (defScope st) [] [] f fd) (S : FnScope N ps (defScope st)) (len : ∀ vs H Q E, sp vs H Q E → vs.length = ps.length)
    (hbody : ∀ (f : Addr) (cdv : Value) (A : Around) (outer : List Env) (s : Shared) (H : Hp) (vs : List V) (Q : VK) (E : XK), Room k (A.deeper (envOfC x (defScope st) s.heap.objs.size f cdv)) → sp vs H Q E →
      ∃ t, PSs (cxOf CX0 P w K mg base N x (defScope st) f cdv A outer s H E).nox (defBody st) t ∧ t { nx := fun _ H' => Q .non H', rt := Q } (start N vs) H) : FnOk P w K mg base CX0 (k + 1) f fd ps sp := F.ok S len fun cdv A outer s H vs Q E hr h => by
  obtain ⟨t, h1, h2⟩ := hbody f cdv A outer s H vs Q E hr h
  exact ⟨t, h1.nox, h2⟩
theorem cal_law {f : Addr} {fd : FuncData} (T : Txt K mg C) (F : FunD K "law" "law" (defArgs s_law) (defBody s_law) (defScope s_law) [] [] f fd) (c_l_start : Cal P w K mg base "_law_start" 1 ["_law_script"] (spStart (K := K))) (c_l_arcs : Cal P w K mg base "_law_c_arcs" 5 ["_law_stream", "_law_most"] spArcs) (c_Net : CalI P w K mg base C 3 ["self", "arcs"] (spInit (C := C)))
    (c_l_some : Cal P w K mg base "_law_c_some" 3 ["_law_stream", "_law_names_here"] spSome) (c_l_worlds : Cal P w K mg base "_law_c_worlds" 3 ["_law_arcs", "_law_most"] spWorlds) (c_l_spans : Cal P w K mg base "_law_c_spans" 3 ["_law_arcs", "_law_known", "_law_amounts"] spSpans)
    (c_l_pick : Cal P w K mg base "_law_pick" 2 ["_law_stream", "_law_some"] spPick) (mc_is_told : CalM P w K mg base C "is_told" 4 ["self", "known", "asked"] (spTold (C := C))) (c_l_same : Cal P w K mg base "_law_same" 1 ["_law_found", "_law_due"] spSame)
    (c_l_none_parts : Cal P w K mg base "_law_c_none_parts" 1 ["_law_worlds", "_law_known", "_law_asked"] spNone) (c_l_is_right : Cal P w K mg base "_law_c_is_right" 5 ["_law_net", "_law_arcs", "_law_known", "_law_asked", "_law_due"] (spRight (C := C))) : FnOk P w K mg base CX0 6 f fd ["_law_script"] (spLaw K) := by
  refine fun_ok F sc_law (fun vs H Q E h => by obtain ⟨r, xs, rfl, _⟩ := h; rfl) (fun fa cdv Ar outer s0 H vs Q E hr h => ?_)
  obtain ⟨r, xs, rfl, hxs, k⟩ := h
  refine ⟨_, pss_cons (ps_set (i := 1) sc_law.nd rfl (Or.inl rfl) (pe_callC c_l_start (hr.mono (by decide)) (by rfl) (pa_cons (pv 0) pa_nil)))
    (pss_cons (ps_for PassesOwn.never rfl (pi_range1 (by rfl) T.range (pa_cons pe_int pa_nil)) (pg_name (i := 2) sc_law.nd rfl (Or.inl rfl)) (pss_cons (ps_set (i := 3) sc_law.nd rfl (Or.inl rfl) (pe_callC c_l_arcs (hr.mono (by decide)) (by rfl) (pa_cons (pv 1) (pa_cons pe_int pa_nil))))
    (pss_lock (pss_cons (ps_par (i := 4) (j := 5) rfl sc_law.nd rfl rfl (by decide) rfl rfl (pa_cons (pe_lock (pe_makeC c_Net (hr.mono (by decide)) (by rfl) (pa_cons (pv 3) pa_nil))) (pa_cons (pe_callC c_l_some (hr.mono (by decide)) (by rfl) (pa_cons (pv 1) (pa_cons (pe_callTy (listD rfl) (by rfl) T.list bt_list (pa_cons (pv 3) pa_nil)) pa_nil))) pa_nil)) (by rfl))
    (pss_lock (pss_lock (pss_cons (ps_set (i := 6) sc_law.nd rfl (Or.inl rfl) (pe_ifExp (pt_cmpR op_gt (pe_callB lenD (by rfl) T.len bt_len (pa_cons (pv 3) pa_nil)) pe_int (nomark _)) (pe_callC c_l_worlds (hr.mono (by decide)) (by rfl) (pa_cons (pv 3) (pa_cons pe_int pa_nil))) (pe_callC c_l_worlds (hr.mono (by decide)) (by rfl) (pa_cons (pv 3) (pa_cons pe_int pa_nil)))))
    (pss_one (ps_for PassesOwn.never rfl (pi_keys (pv 3)) (pg_name (i := 7) sc_law.nd rfl (Or.inl rfl)) (pss_cons (ps_set (i := 8) sc_law.nd rfl (Or.inl rfl) (pe_callC c_l_spans (hr.mono (by decide)) (by rfl) (pa_cons (pv 3) (pa_cons (pv 5) (pa_cons (pe_callTy (dictPK K rfl) (by rfl) T.dict bt_dict (pa_cons (pe_lst (pa_cons (pe_tup (pa_cons (pv 7) (pa_cons pe_int pa_nil))) pa_nil)) pa_nil)) pa_nil)))))
    (pss_cons (ps_set (i := 9) sc_law.nd rfl (Or.inl rfl) (pe_methC (pv 4) T.cl mc_is_told (hr.mono (by decide)) (pa_cons (pe_callC c_l_pick (hr.mono (by decide)) (by rfl) (pa_cons (pv 1) (pa_cons (pe_lst (pa_cons (pv 5) (pa_cons (pe_callTy (tupK K) (by rfl) T.tuple bt_tuple (pa_cons (pv 5) pa_nil)) pa_nil))) pa_nil))) (pa_cons (pv 7) pa_nil))))
    (pss_cons (ps_if (PW.pt (pw_or (pt_not (pt_val (pe_callC c_l_same (hr.mono (by decide)) (by rfl) (pa_cons (pv 9) (pa_cons (pv 8) pa_nil))))) (pw_or1 (PW.pt (pw_and (pt_val (pv 8)) (pw_and1 (pt_not (pt_val (pe_callC c_l_none_parts (hr.mono (by decide)) (by rfl) (pa_cons (pv 6) (pa_cons (pv 5) (pa_cons (pv 7) pa_nil)))))))))))) (pss_one (ps_ret pe_bl)) pss_nil)
    (pss_one (ps_if (pt_not (pt_val (pe_callC c_l_is_right (hr.mono (by decide)) (by rfl) (pa_cons (pv 4) (pa_cons (pv 3) (pa_cons (pv 5) (pa_cons (pv 7) (pa_cons (pv 8) pa_nil)))))))) (pss_one (ps_ret pe_bl)) pss_nil))))))))))))))
    (pss_one (ps_ret pe_bl))), ?_⟩
  refine sq ?_
  refine asg ?_
  refine ⟨_, rfl, r, xs, rfl, .inl hxs, fun s l H1 hs0 hl0 e1 hst => ?_⟩
  refine gn2 ?_
  refine sq ?_
  refine for_rng (n := 4) val_c ⟨by decide, by decide⟩ (fun i σ H1 => ∃ v2 v3 v4 v5 v6 v7 v8 v9, σ = [some (.ref r), some (.ref s), v2, v3, v4, v5, v6, v7, v8, v9] ∧ StK H1 s l (5000 * i))
    ⟨_, _, _, _, _, _, _, _, rfl, hst⟩ ?_ ?_
  case refine_2 =>
    rintro σ H2 ⟨v2, v3, v4, v5, v6, v7, v8, v9, rfl, _⟩
    exact k H2
  rintro i σ H1 hi ⟨v2, v3, v4, v5, v6, v7, v8, v9, rfl, hst1⟩
  refine gn ?_
  refine sq ?_
  refine asg ?_
  refine ⟨_, rfl, s, l, 5000 * i, rfl, hst1, by omega, fun d kvs A H2 hd0 hd2 hk2 hN hA2 hA7 hok o2 hst2 => ?_⟩
  refine gn2 ?_
  -- the arcs are locked
  refine ⟨d, _, hd2, trivial, fun od => ?_⟩
  have hdn : d ∉ [s, l] := off_ne hst2 hd2 fun _ z => by cases z
  have hst3 : StK (upd H2 d (.frz od (.dK kvs))) s l (5000 * i + 1000) := hst2.upd hdn
  have hd3 : upd H2 d (.frz od (.dK kvs)) d = some (.frz od (.dK kvs)) := upd_same
  have hk3 : ArcsK (upd H2 d (.frz od (.dK kvs))) kvs A := hk2.mono fun t xs ht => by rw [upd_ne (ne_of ht hd2 (fun z => nomatch z))]; exact ht
  generalize upd H2 d (.frz od (.dK kvs)) = H3 at hst3 hd3 hk3
  have hne : A ≠ [] := fun z => by rw [z] at hA2; simp at hA2
  have hlk : kvs.length = A.length := hk3.len
  -- the net
  obtain ⟨hsl, cs, ca, cc, ce, hs3, hl3, hrest⟩ := id hst3
  refine sq ?_
  refine par (ac ?_)
  refine ⟨l, _, hl3, trivial, fun ol => ?_⟩
  have hdl : d ≠ l := fun z => hdn (by simp [z])
  have hds : d ≠ s := fun z => hdn (by simp [z])
  have hs4 : upd H3 l (.frz ol (.lst (cs.map V.int))) s = some (.lst [.ref l, .int ca, .int cc, .int ce]) := by rw [upd_ne hsl]; exact hs3
  have hl4 : upd H3 l (.frz ol (.lst (cs.map V.int))) l = some (.frz ol (.lst (cs.map V.int))) := upd_same
  have hd4 : upd H3 l (.frz ol (.lst (cs.map V.int))) d = some (.frz od (.dK kvs)) := by rw [upd_ne hdl]; exact hd3
  have hk4 : ArcsK (upd H3 l (.frz ol (.lst (cs.map V.int)))) kvs A := hk3.mono fun t xs ht => by rw [upd_ne (ne_of ht hl3 (fun z => nomatch z))]; exact ht
  generalize hH4 : upd H3 l (.frz ol (.lst (cs.map V.int))) = H4 at hs4 hl4 hd4 hk4
  refine ⟨_, rfl, fun x dx hx hdx hxdx => ?_⟩
  have f1 := Same.new (o := .own x) hdx
  have hx4 : upd H4 dx (.own x) x = none := by rw [upd_ne hxdx.symm]; exact hx
  have f2 := Same.new (o := .ins C dx []) hx4
  have f12 := f1.trans f2
  refine ⟨x, d, dx, A, rfl, upd_same, ⟨od, kvs, f12 _ _ hd4, hk4.same f12⟩, hN, hne, hok, hA7, fun da dn dr kva kvr R H5 keep hda0 hdn0 hdr0 hdadr hx5 hda5 hka5 hdn5 hdr5 hRK hRO => ⟨rfl, ?_⟩⟩
  have hxs : x ≠ s := (ne_of_none hs4 hx).symm
  have hxl : x ≠ l := (ne_of_none hl4 hx).symm
  have hxd : x ≠ d := (ne_of_none hd4 hx).symm
  have keep4 : ∀ a o, H4 a = some o → H5 a = some o := fun a o h => keep a o (ne_of_none h hx) (f12 _ _ h)
  have hl5 : H5 l = some (.frz ol (.lst (cs.map V.int))) := keep4 _ _ hl4
  refine ⟨hl5, ?_⟩
  have free4 : ∀ a, upd (upd H4 dx (.own x)) x (.ins C dx []) a = none → H4 a = none := fun a h => f12.free h
  have hda4 := free4 _ hda0
  have hdn4 := free4 _ hdn0
  have hdr4 := free4 _ hdr0
  -- the net in the heap with the cells back
  have nl : ∀ a u, a ≠ l → H5 a = some u → upd H5 l (.lst (cs.map V.int)) a = some u := fun a u h1 h2 => by rw [upd_ne h1]; exact h2
  have hdal : da ≠ l := fun z => by rw [z, hl4] at hda4; cases hda4
  have hdnl : dn ≠ l := fun z => by rw [z, hl4] at hdn4; cases hdn4
  have hdrl : dr ≠ l := fun z => by rw [z, hl4] at hdr4; cases hdr4
  have hdns : dn ≠ s := fun z => by rw [z, hs4] at hdn4; cases hdn4
  have hst6 : StK (upd H5 l (.lst (cs.map V.int))) s l (5000 * i + 1000) := ⟨hsl, cs, ca, cc, ce, nl _ _ hsl (keep4 _ _ hs4), upd_same, hrest⟩
  have hd6 : upd H5 l (.lst (cs.map V.int)) d = some (.frz od (.dK kvs)) := nl _ _ hdl (keep4 _ _ hd4)
  have hk6 : ArcsK (upd H5 l (.lst (cs.map V.int))) kvs A := hk4.mono fun t xs ht => nl _ _ (ne_of ht hl4 (fun z => nomatch z)) (keep4 _ _ ht)
  have hx6 : upd H5 l (.lst (cs.map V.int)) x = some (.ins C dx (nfs da dn dr)) := nl _ _ hxl hx5
  have hda6 : upd H5 l (.lst (cs.map V.int)) da = some (.dK kva) := nl _ _ hdal hda5
  have hka6 : ArcsK (upd H5 l (.lst (cs.map V.int))) kva A := hka5.mono fun t xs ht => nl _ _ (ne_of ht hl5 (fun z => nomatch z)) ht
  have hdn6 : Off [s, l] (upd H5 l (.lst (cs.map V.int))) dn = some (.lst ((nodesOf A).map V.str)) := by
    rw [off_at (by simp [hdns, hdnl])]
    exact nl _ _ hdnl hdn5
  have hdr6 : upd H5 l (.lst (cs.map V.int)) dr = some (.dK kvr) := nl _ _ hdrl hdr5
  have hRK6 : RingsK (Off [s, l] (upd H5 l (.lst (cs.map V.int)))) kvr A R := Paired.mapP hRK fun kv a ⟨h1, h2⟩ => ⟨h1, by
    cases q : R a.1 with
    | none => rw [q] at h2; exact h2
    | some w =>
      rw [q] at h2
      obtain ⟨b, h3, h4⟩ := h2
      have hbl : b ≠ l := fun z => by rw [z, hl5] at h4; cases h4
      have hbs : b ≠ s := fun z => by
        rw [z, keep4 _ _ hs4] at h4
        have := HO.lst.inj (Option.some.inj h4)
        cases w with
        | nil => cases this
        | cons _ _ => cases this
      exact ⟨b, h3, by rw [off_at (by simp [hbs, hbl])]; exact nl _ _ hbl h4⟩⟩
  generalize upd H5 l (.lst (cs.map V.int)) = H6 at hst6 hd6 hk6 hx6 hda6 hka6 hdn6 hdr6 hRK6
  -- the known
  refine ⟨_, rfl, _, rfl, d, kvs, rfl, .inr ⟨od, hd6⟩, fun q hq => ?_⟩
  have hqn := hst6.new hq
  have e7 := Same.new (o := .lst (kvs.map fun kv => kV kv.1)) hq
  have hq7 : upd H6 q (.lst (kvs.map fun kv => kV kv.1)) q = some (.lst ((A.map (·.1)).map V.str)) := by rw [upd_same, arcs_keys hk6]
  have hst7 := hst6.same e7
  refine ⟨s, l, q, _, A.map (fun b : Arc Str => b.1), rfl, hst7, hqn, hq7, hN, by rw [List.length_map]; omega, by omega, fun kn Ks H8 hkn0 hKn hKs hK100 hkn8 o8 hst8 => ⟨_, _, rfl, ?_⟩⟩
  have o68 := (off_mono (ds := [s, l]) e7).trans o8
  have hkns : kn ∉ [s, l] := hst7.new hkn0
  have at8 : ∀ a u, H6 a = some u → (∀ xs, u ≠ .lst xs) → H8 a = some u := fun a u h1 h2 => off_le _ _ (o68 _ _ (off_nl hst6 h1 h2))
  have hd8 := at8 _ _ hd6 fun _ z => by cases z
  have hda8 := at8 _ _ hda6 fun _ z => by cases z
  have hdr8 := at8 _ _ hdr6 fun _ z => by cases z
  have hx8 := at8 _ _ hx6 fun _ z => by cases z
  have hk8 : ArcsK H8 kvs A := hk6.mono fun t xs ht => at8 _ _ ht fun _ z => by cases z
  have hka8 : ArcsK H8 kva A := hka6.mono fun t xs ht => at8 _ _ ht fun _ z => by cases z
  have hdn8 := o68 _ _ hdn6
  have hRK8 := hRK6.same o68
  -- the net is locked
  refine ⟨da, _, hda8, trivial, fun oa => ?_⟩
  have hdar : dr ≠ da := hdadr.symm
  refine ⟨dr, .dK kvr, by rw [upd_ne hdar]; exact hdr8, trivial, fun orr => ?_⟩
  have hd9 : upd (upd H8 da (.frz oa (.dK kva))) dr (.frz orr (.dK kvr)) dr = some (.frz orr (.dK kvr)) := upd_same
  have hda9 : upd (upd H8 da (.frz oa (.dK kva))) dr (.frz orr (.dK kvr)) da = some (.frz oa (.dK kva)) := by rw [upd_ne hdadr]; exact upd_same
  have at9 : ∀ a u, H8 a = some u → (∀ ks, u ≠ .dK ks) → upd (upd H8 da (.frz oa (.dK kva))) dr (.frz orr (.dK kvr)) a = some u := fun a u h1 h2 => by
    have q1 : a ≠ da := fun z => by rw [z, hda8] at h1; exact h2 _ (Option.some.inj h1).symm
    have q2 : a ≠ dr := fun z => by rw [z, hdr8] at h1; exact h2 _ (Option.some.inj h1).symm
    rw [upd_ne q2, upd_ne q1]
    exact h1
  have hdas : da ∉ [s, l] := off_ne hst8 hda8 fun _ z => by cases z
  have hdrs : dr ∉ [s, l] := off_ne hst8 hdr8 fun _ z => by cases z
  have hst9 : StK (upd (upd H8 da (.frz oa (.dK kva))) dr (.frz orr (.dK kvr))) s l (5000 * i + 1000 + 200) := (hst8.upd hdas).upd hdrs
  generalize hH9 : upd (upd H8 da (.frz oa (.dK kva))) dr (.frz orr (.dK kvr)) = H9 at hd9 hda9 at9 hst9
  have off9 : ∀ a u, Off [s, l] H8 a = some u → (∀ ks, u ≠ .dK ks) → Off [s, l] H9 a = some u := fun a u h1 h2 => by
    have h0 : a ∉ [s, l] := fun z => by rw [off_in z] at h1; cases h1
    rw [off_at h0] at h1 ⊢
    exact at9 a u h1 h2
  have hd9' : H9 d = some (.frz od (.dK kvs)) := at9 _ _ hd8 fun _ z => by cases z
  have hk9 : ArcsK H9 kvs A := hk8.mono fun t xs ht => at9 _ _ ht fun _ z => by cases z
  have hA9 : FArcs H9 d A := ⟨od, kvs, hd9', hk9⟩
  have hka9 : ArcsK H9 kva A := hka8.mono fun t xs ht => at9 _ _ ht fun _ z => by cases z
  have hnet9 : NetAt C (Off [s, l] H9) x A R := by
    refine ⟨dx, da, dn, dr, off_nl hst9 (at9 _ _ hx8 fun _ z => by cases z) fun _ z => (by cases z), off_fa hst9 ⟨oa, kva, hda9, hka9⟩, off9 _ _ hdn8 fun _ z => (by cases z), orr, kvr, off_nl hst9 hd9 fun _ z => (by cases z), ?_⟩
    refine Paired.mapP hRK8 fun kv a ⟨h1, h2⟩ => ⟨h1, ?_⟩
    cases q : R a.1 with
    | none => rw [q] at h2; exact h2
    | some w =>
      rw [q] at h2
      obtain ⟨b, h3, h4⟩ := h2
      exact ⟨b, h3, off9 _ _ h4 fun _ z => by cases z⟩
  have hkn9 : Off [s, l] H9 kn = some (.lst (Ks.map V.str)) := by
    rw [off_at hkns]
    exact at9 _ _ hkn8 fun _ z => by cases z
  have hG : NetG A R := ⟨hN, hA7, hRO⟩
  have hlK : kvs.length = A.length := hlk
  -- the worlds
  refine sq ?_
  refine asg ?_
  refine worlds_if rfl hd9' hA9 hN hA7 fun wl ys H10 hwl0 e10 hwl10 hyl hW => ?_
  refine gn2 ?_
  have hst10 := hst9.same e10
  have hwls : wl ∉ [s, l] := hst9.new hwl0
  have hnetB : NetAt C (Off [s, l] H10) x A R := hnet9.same (off_mono e10)
  have hAB : FArcs (Off [s, l] H10) d A := off_fa hst10 (hA9.same e10)
  have hknB : Off [s, l] H10 kn = some (.lst (Ks.map V.str)) := off_mono e10 _ _ hkn9
  have hwlB : Off [s, l] H10 wl = some (.lst ys) := by rw [off_at hwls]; exact hwl10
  have hWB : WorldsAt (Off [s, l] H10) ys A := fun y hy => by
    obtain ⟨x, f, p1, p2, p3⟩ := hW y hy
    exact ⟨x, f, p1, off_nl hst10 p2 fun _ z => (by cases z), p3⟩
  have hdB : Off [s, l] H10 d = some (.frz od (.dK kvs)) := off_nl hst10 (e10 _ _ hd9') fun _ z => (by cases z)
  have hdaB : Off [s, l] H10 da = some (.frz oa (.dK kva)) := off_nl hst10 (e10 _ _ hda9) fun _ z => (by cases z)
  have hdrB : Off [s, l] H10 dr = some (.frz orr (.dK kvr)) := off_nl hst10 (e10 _ _ hd9) fun _ z => (by cases z)
  -- each arc asked
  refine for_keys (H0 := Off [s, l] H10) (val_var rfl) off_le hdB (fun j σ H => ∃ v2 v7 v8 v9, σ = [some (.ref r), some (.ref s), v2, some (.ref d), some (.ref x), some (.ref kn), some (.ref wl), v7, v8, v9] ∧ Same (Off [s, l] H10) H ∧ StK H s l (5000 * i + 2000 + 5 * j))
    ⟨_, _, _, _, rfl, off_le, hst10.mono (by omega)⟩ (fun j σ H _ ⟨_, _, _, _, _, e, _⟩ => e) ?_ ?_
  · rintro j ky v σ H11 hj ⟨v2, v7, v8, v9, rfl, e11, hst11⟩
    obtain ⟨a, t, ha, rfl, rfl, _⟩ := hk9.at' hj
    have haA := mem_at ha
    have hj7 : j < 7 := by have := (List.getElem?_eq_some_iff.mp ha).1; omega
    refine gn ?_
    -- due
    refine sq ?_
    refine asg ?_
    refine ⟨_, rfl, _, rfl, _, rfl, by show 2 ≤ sizeLine; decide, fun t1 ht1 => ?_⟩
    have g1 := Same.new (o := .tup [.str a.1, .int 1]) ht1
    refine ⟨by show 1 ≤ sizeLine; decide, fun l1 hl1 => ?_⟩
    have g2 := Same.new (o := .lst [.ref t1]) hl1
    refine ⟨l1, [t1], [(Sum.inr a.1, .int 1)], rfl, SqL.of upd_same, .cons (SqT.of (g2 _ _ upd_same)) .nil, fun am ham => ?_⟩
    have g3 := Same.new (o := .dK (mergeK [] [(Sum.inr a.1, .int 1)])) ham
    have g13 := (g1.trans g2).trans g3
    have e12 := e11.trans g13
    refine ⟨d, kn, am, A, Ks, a, rfl, hAB.same e12, hN, hA7, haA, e12 _ _ hknB, upd_same, fun H12 g4 => ?_⟩
    have e13 := e12.trans g4
    have hst12 := hst11.same (g13.trans g4)
    refine gn2 ?_
    -- told
    refine sq ?_
    refine asg ?_
    obtain ⟨ddx, fda, fdn, fdr, hxB, _⟩ := id hnetB
    refine ⟨_, rfl, x, ddx, _, rfl, e13 _ _ hxB, rfl, _, rfl, _, rfl, _, rfl, kn, _, rfl, .inl ⟨SqL.of (e13 _ _ hknB), fun tp htp => ?_⟩⟩
    have g5 := Same.new (o := .tup (Ks.map V.str)) htp
    refine ⟨by show 2 ≤ sizeLine; decide, fun lq hlq => ?_⟩
    have hst13 := hst12.same g5
    have hlqs := hst13.new hlq
    have g6 := Same.new (o := .lst [.ref kn, .ref tp]) hlq
    have g56 := g5.trans g6
    have e14 := e13.trans g56
    have htp6 := g6 _ _ (upd_same (H := H12) (a := tp) (o := .tup (Ks.map V.str)))
    refine ⟨s, l, _, .ref lq, [.ref kn, .ref tp], rfl, hst13.same g6, .inl ⟨lq, rfl, hlqs, upd_same⟩, by show 0 < 2; decide, by show 2 ≤ 1000; decide, by omega, fun y H15 hy o15 hst15 => ?_⟩
    have e15 : Same (Off [s, l] H10) H15 := fun u w hu => by
      have h0 : u ∉ [s, l] := fun z => by rw [off_in z] at hu; cases hu
      exact off_sq h0 o15 (e14 _ _ hu)
    have htp15 := off_tup (hst13.same g6) o15 htp6
    have hyk : ∃ y', y = .ref y' ∧ (H15 y' = some (.lst (Ks.map V.str)) ∨ H15 y' = some (.tup (Ks.map V.str))) := by
      rcases List.mem_cons.mp hy with z | z
      · exact ⟨kn, z, .inl (e15 _ _ hknB)⟩
      · exact ⟨tp, List.mem_singleton.mp z, .inr htp15⟩
    obtain ⟨y', rfl, hy'⟩ := hyk
    refine ⟨_, rfl, x, y', a, A, R, Ks, ⟨rfl, hnetB.same e15, hG, haA, hy', hKn, hKs, hK100⟩, fun rr H16 g7 hrb => ?_⟩
    have e16 := e15.trans g7
    have hst16 := hst15.same g7
    have hdue := rb_due hN haA hrb
    refine gn2 ?_
    -- the same
    refine sq ?_
    refine ifs ?_
    refine ⟨_, rfl, _, rfl, rr.isNone, due A Ks a.1, rfl, fun H17 g8 => ⟨true, by rw [hdue]; simp, iteF ?_⟩⟩
    have e17 := e16.trans g8
    have hst17 := hst16.same g8
    refine ⟨_, rfl, due A Ks a.1, rfl, ?_⟩
    have right : ∀ (σ : L2.St) (H18 : Hp) (D : Ends), σ[3]? = some (some (.ref d)) → σ[4]? = some (some (.ref x)) → σ[5]? = some (some (.ref kn)) → σ[7]? = some (some (.str a.1)) → σ[8]? = some (some (.bl (due A Ks a.1))) → Same (Off [s, l] H10) H18 → StK H18 s l (5000 * i + 2000 + 5 * j + 1) →
        (∀ H19, Same (Off [s, l] H10) H19 → StK H19 s l (5000 * i + 2000 + 5 * j + 1) → D.nx σ H19) →
        tIfS (tNot (tB (tCall (spRight (C := C)) [] E0 (tCons (tVar 4) (tCons (tVar 3) (tCons (tVar 5) (tCons (tVar 7) (tCons (tVar 8) tNil)))))))) (tRet (tC (.bl false))) tNext D σ H18 := by
      intro σ H18 D q3 q4 q5 q7 q8 e18 hst18 hnx
      refine ⟨_, q4, _, q3, _, q5, _, q7, _, q8, x, d, kn, a, A, R, Ks, rfl, hnetB.same e18, hG, haA, hAB.same e18, e18 _ _ hknB, hKn, hKs, hK100, fun H19 g9 => ⟨true, rfl, iteF ?_⟩⟩
      exact hnx H19 (e18.trans g9) (hst18.same g9)
    have hnext : ∀ (b8 b9 : Option V) H19, Same (Off [s, l] H10) H19 → StK H19 s l (5000 * i + 2000 + 5 * j + 1) → ∃ v2' v7 v8 v9, [some (V.ref r), some (.ref s), v2, some (.ref d), some (.ref x), some (.ref kn), some (.ref wl), some (.str a.1), b8, b9] = [some (.ref r), some (.ref s), v2', some (.ref d), some (.ref x), some (.ref kn), some (.ref wl), v7, v8, v9] ∧ Same (Off [s, l] H10) H19 ∧ StK H19 s l (5000 * i + 2000 + 5 * (j + 1)) :=
      fun b8 b9 H19 e h => ⟨_, _, _, _, rfl, e, h.mono (by omega)⟩
    cases hdd : due A Ks a.1 with
    | false =>
      refine iteF (iteF ?_)
      refine nx2 ?_
      exact right _ H17 _ rfl rfl rfl rfl (by rw [hdd]; rfl) e17 hst17 fun H19 e h => hnext _ _ H19 e h
    | true =>
      refine iteT ?_
      have hWS : WorldsAt H17 ys A := fun y hy => by
        obtain ⟨x, f, p1, p2, p3⟩ := hWB y hy
        exact ⟨x, f, p1, e17 _ _ p2, p3⟩
      refine ⟨_, rfl, _, rfl, _, rfl, wl, kn, ys, A, Ks, a, rfl, e17 _ _ hwlB, hyl, hWS, hN, haA, e17 _ _ hknB, hK100, hKs, fun f g hf hg hfg => due_worlds hN haA hdd hf hg hfg, fun H18 g9 => ⟨true, rfl, iteF ?_⟩⟩
      refine nx2 ?_
      exact right _ H18 _ rfl rfl rfl rfl (by rw [hdd]; rfl) (e17.trans g9) (hst17.same g9) fun H19 e h => hnext _ _ H19 e h
  · rintro σ H11 ⟨v2, v7, v8, v9, rfl, e11, hst11⟩
    have p1 := e11 _ _ hdrB
    have p2 := e11 _ _ hdaB
    have p3 := e11 _ _ hdB
    have hd_da : d ≠ da := fun z => by rw [z, hda8] at hd8; cases hd8
    have hd_dr : d ≠ dr := fun z => by rw [z, hdr8] at hd8; cases hd8
    refine ⟨p1, ?_, ?_, _, _, _, _, _, _, _, _, rfl, ?_⟩
    · rw [upd_ne hdadr]; exact p2
    · rw [upd_ne hd_da, upd_ne hd_dr]; exact p3
    · exact (((hst11.upd hdrs).upd hdas).upd hdn).mono (by omega)
end
end K25

namespace K25
open PySem PySem.Spec PyProof.Rows L2
/-! ### the head: facts by names, the run -/
def ds_is_list : He.DefD := ⟨("is_list", none), "is_list", "is_list", defArgs s_is_list, defBody s_is_list, defScope s_is_list, [], []⟩
def ds_is_name : He.DefD := ⟨("is_name", none), "is_name", "is_name", defArgs s_is_name, defBody s_is_name, defScope s_is_name, [], []⟩
def ds_checked_file : He.DefD := ⟨("checked_file", none), "checked_file", "checked_file", defArgs s_checked_file, defBody s_checked_file, defScope s_checked_file, [], []⟩
def ds_check_question : He.DefD := ⟨("check_question", none), "check_question", "check_question", defArgs s_check_question, defBody s_check_question, defScope s_check_question, [], []⟩
def ds_checked_both : He.DefD := ⟨("checked_both", none), "checked_both", "checked_both", defArgs s_checked_both, defBody s_checked_both, defScope s_checked_both, [], []⟩
def ds_is_arc : He.DefD := ⟨("is_arc", none), "is_arc", "is_arc", defArgs s_is_arc, defBody s_is_arc, defScope s_is_arc, [], []⟩
def ds_way_along : He.DefD := ⟨("way_along", none), "way_along", "way_along", defArgs s_way_along, defBody s_way_along, defScope s_way_along, [], []⟩
def ds_way_between : He.DefD := ⟨("way_between", none), "way_between", "way_between", defArgs s_way_between, defBody s_way_between, defScope s_way_between, [], []⟩
def ds_ways_from : He.DefD := ⟨("ways_from", none), "ways_from", "ways_from", defArgs s_ways_from, defBody s_ways_from, defScope s_ways_from, [], []⟩
def ds_l_start : He.DefD := ⟨("_law_start", none), "_law_start", "_law_start", defArgs s_l_start, defBody s_l_start, defScope s_l_start, [], []⟩
def ds_l_draw : He.DefD := ⟨("_law_draw", none), "_law_draw", "_law_draw", defArgs s_l_draw, defBody s_l_draw, defScope s_l_draw, [], []⟩
def ds_l_pick : He.DefD := ⟨("_law_pick", none), "_law_pick", "_law_pick", defArgs s_l_pick, defBody s_l_pick, defScope s_l_pick, [], []⟩
def ds_l_mixed : He.DefD := ⟨("_law_mixed", none), "_law_mixed", "_law_mixed", defArgs s_l_mixed, defBody s_l_mixed, defScope s_l_mixed, [], []⟩
def ds_l_same : He.DefD := ⟨("_law_same", none), "_law_same", "_law_same", defArgs s_l_same, defBody s_l_same, defScope s_l_same, [], []⟩
def ds_l_name : He.DefD := ⟨("_law_name", none), "_law_name", "_law_name", defArgs s_l_name, defBody s_l_name, defScope s_l_name, [], []⟩
def ds_l_names : He.DefD := ⟨("_law_names", none), "_law_names", "_law_names", defArgs s_l_names, defBody s_l_names, defScope s_l_names, [], []⟩
def ds_l_arcs : He.DefD := ⟨("_law_c_arcs", none), "_law_c_arcs", "_law_c_arcs", defArgs s_l_arcs, defBody s_l_arcs, defScope s_l_arcs, [], []⟩
def ds_l_leads : He.DefD := ⟨("_law_c_leads", none), "_law_c_leads", "_law_c_leads", defArgs s_l_leads, defBody s_l_leads, defScope s_l_leads, [], []⟩
def ds_l_live : He.DefD := ⟨("_law_c_live", none), "_law_c_live", "_law_c_live", defArgs s_l_live, defBody s_l_live, defScope s_l_live, [], []⟩
def ds_l_nodes : He.DefD := ⟨("_law_c_nodes", none), "_law_c_nodes", "_law_c_nodes", defArgs s_l_nodes, defBody s_l_nodes, defScope s_l_nodes, [], []⟩
def ds_l_is_world : He.DefD := ⟨("_law_c_is_world", none), "_law_c_is_world", "_law_c_is_world", defArgs s_l_is_world, defBody s_l_is_world, defScope s_l_is_world, [], []⟩
def ds_l_rank : He.DefD := ⟨("_law_c_rank", none), "_law_c_rank", "_law_c_rank", defArgs s_l_rank, defBody s_l_rank, defScope s_l_rank, [], []⟩
def ds_l_less : He.DefD := ⟨("_law_c_less", none), "_law_c_less", "_law_c_less", defArgs s_l_less, defBody s_l_less, defScope s_l_less, [], []⟩
def ds_l_spans : He.DefD := ⟨("_law_c_spans", none), "_law_c_spans", "_law_c_spans", defArgs s_l_spans, defBody s_l_spans, defScope s_l_spans, [], []⟩
def ds_l_some : He.DefD := ⟨("_law_c_some", none), "_law_c_some", "_law_c_some", defArgs s_l_some, defBody s_l_some, defScope s_l_some, [], []⟩
def ds_l_out : He.DefD := ⟨("_law_c_out", none), "_law_c_out", "_law_c_out", defArgs s_l_out, defBody s_l_out, defScope s_l_out, [], []⟩
def ds_l_is_side : He.DefD := ⟨("_law_c_is_side", none), "_law_c_is_side", "_law_c_is_side", defArgs s_l_is_side, defBody s_l_is_side, defScope s_l_is_side, [], []⟩
def ds_l_is_plan : He.DefD := ⟨("_law_c_is_plan", none), "_law_c_is_plan", "_law_c_is_plan", defArgs s_l_is_plan, defBody s_l_is_plan, defScope s_l_is_plan, [], []⟩
def ds_l_worlds : He.DefD := ⟨("_law_c_worlds", none), "_law_c_worlds", "_law_c_worlds", defArgs s_l_worlds, defBody s_l_worlds, defScope s_l_worlds, [], []⟩
def ds_l_none_parts : He.DefD := ⟨("_law_c_none_parts", none), "_law_c_none_parts", "_law_c_none_parts", defArgs s_l_none_parts, defBody s_l_none_parts, defScope s_l_none_parts, [], []⟩
def ds_l_is_right : He.DefD := ⟨("_law_c_is_right", none), "_law_c_is_right", "_law_c_is_right", defArgs s_l_is_right, defBody s_l_is_right, defScope s_l_is_right, [], []⟩
def ds_law : He.DefD := ⟨("law", none), "law", "law", defArgs s_law, defBody s_law, defScope s_law, [], []⟩
def dm_init : He.DefD := ⟨("Net", some "__init__"), "__init__", "Net.__init__", defArgs m_init, defBody m_init, defScope m_init, [], []⟩
def dm_questions : He.DefD := ⟨("Net", some "questions"), "questions", "Net.questions", defArgs m_questions, defBody m_questions, defScope m_questions, [], []⟩
def dm_live : He.DefD := ⟨("Net", some "live"), "live", "Net.live", defArgs m_live, defBody m_live, defScope m_live, [], []⟩
def dm_left_open : He.DefD := ⟨("Net", some "left_open"), "left_open", "Net.left_open", defArgs m_left_open, defBody m_left_open, defScope m_left_open, [], []⟩
def dm_home : He.DefD := ⟨("Net", some "home"), "home", "Net.home", defArgs m_home, defBody m_home, defScope m_home, [], []⟩
def dm_ring_by : He.DefD := ⟨("Net", some "ring_by"), "ring_by", "Net.ring_by", defArgs m_ring_by, defBody m_ring_by, defScope m_ring_by, [], []⟩
def dm_moved : He.DefD := ⟨("Net", some "moved"), "moved", "Net.moved", defArgs m_moved, defBody m_moved, defScope m_moved, [], []⟩
def dm_is_told : He.DefD := ⟨("Net", some "is_told"), "is_told", "Net.is_told", defArgs m_is_told, defBody m_is_told, defScope m_is_told, [], []⟩
def dm_plan : He.DefD := ⟨("Net", some "plan"), "plan", "Net.plan", defArgs m_plan, defBody m_plan, defScope m_plan, [], []⟩
def dm_apart : He.DefD := ⟨("Net", some "apart"), "apart", "Net.apart", defArgs m_apart, defBody m_apart, defScope m_apart, [], []⟩
def fn : List He.DefD := [ds_is_list, ds_is_name, ds_checked_file, ds_check_question, ds_checked_both, ds_is_arc, ds_way_along, ds_way_between, ds_ways_from, ds_l_start, ds_l_draw, ds_l_pick, ds_l_mixed, ds_l_same, ds_l_name, ds_l_names, ds_l_arcs, ds_l_leads, ds_l_live, ds_l_nodes, ds_l_is_world, ds_l_rank, ds_l_less, ds_l_spans, ds_l_some, ds_l_out, ds_l_is_side, ds_l_is_plan, ds_l_worlds, ds_l_none_parts, ds_l_is_right, ds_law, dm_init, dm_questions, dm_live, dm_left_open, dm_home, dm_ring_by, dm_moved, dm_is_told, dm_plan, dm_apart]
def fa1 : List He.Fa := [.glo "is_list", .glo "is_name", .glo "checked_file", .glo "check_question", .glo "checked_both", .glo "is_arc", .glo "way_along", .glo "way_between", .glo "ways_from", .glo "_law_start", .glo "_law_draw", .glo "_law_pick", .glo "_law_mixed", .glo "_law_same", .glo "_law_name", .glo "_law_names", .glo "_law_c_arcs", .glo "_law_c_leads", .glo "_law_c_live", .glo "_law_c_nodes", .glo "_law_c_is_world", .glo "_law_c_rank", .glo "_law_c_less", .glo "_law_c_spans", .glo "_law_c_some", .glo "_law_c_out", .glo "_law_c_is_side", .glo "_law_c_is_plan", .glo "_law_c_worlds", .glo "_law_c_none_parts", .glo "_law_c_is_right", .glo "law"]
def fa2 : List He.Fa := [.glo "Net", .cls "Net", .mkr "Net", .noat "Net" "own_arcs", .noat "Net" "own_nodes", .noat "Net" "own_rings", .meth "Net" "questions", .meth "Net" "live", .meth "Net" "left_open", .meth "Net" "home", .meth "Net" "ring_by", .meth "Net" "moved", .meth "Net" "is_told", .meth "Net" "plan", .meth "Net" "apart", .free "len", .free "isinstance", .free "list", .free "tuple", .free "dict", .free "int", .free "bool", .free "str", .free "all", .free "any", .free "range", .free "enumerate", .free "zip", .free "sum", .free "set", .str "NAME_SIGNS" "abcdefghijklmnopqrstuvwxyz0123456789."]
def fa : List He.Fa := fa1 ++ fa2
def loose1 : List Str := ["_wall", "WorldError", "BadWorld", "BadKnown", "NoQuestion", "BadPlan", "BadAnswers", "BadArc", "NAME_SIGNS", "is_integer", "is_list", "is_name", "is_number_from", "checked_file", "check_question", "checked_both", "is_arc", "way_along", "way_between", "ways_from", "Net", "_law_start", "_law_draw", "_law_pick", "_law_mixed", "_law_same", "_law_name", "_law_names", "_law_c_arcs", "_law_c_leads"]
def loose2 : List Str := ["_law_c_live", "_law_c_nodes", "_law_c_is_world", "_law_c_rank", "_law_c_less", "_law_c_spans", "_law_c_some", "_law_c_out", "_law_c_is_side", "_law_c_is_plan", "_law_c_worlds", "_law_c_none_parts", "_law_c_is_right"]
def loose : List Str := loose1 ++ loose2
abbrev R : PySem.W.OpenRow := PySem.W.OpenLaw.row PySem.Challenge.rw_twoworlds_k25_whole_arcs_told
abbrev hk : PySem.W.Hook := He.hookD 4 fa fn
def ob (s : PySem.W.SharedT) : He.AlD := He.obsDG 4 fa fn (HandSHeadRun.getT s)
theorem ob_eq (s : PySem.W.SharedT) : ob s = hk.obs s.abs := He.obsDG_eq (HandSHeadRun.getT_eq s)
theorem run (w : World) : HandSHeadRun.RunEq R (PySem.W.view R.prog [48]) hk ob 6000 loose w := by
  intro os
  kernel_rfl
theorem facts {P : Program} {w : World} {K : PySem.W.Frag} {h : Heap} {mg : Str → Option Value} {f : Addr} (X : K.In h) (G : h.Ns mainGlobals mg) (hfa : mg ("law" : Str) = some (.ref f)) (c : He.SaysD fa fn K) :
    ∃ fd : FuncData, (∀ (s : Shared) (v : Value), BindsTo s fd ⟨[v], []⟩ [("_law_script", v)]) ∧ ∀ base : Heap, K.In base → base.Ns mainGlobals mg → FnOk P w K mg base CX0 6 f fd ["_law_script"] (spLaw K) := by
  have T : Txt K mg (He.ga K "Net") := ⟨He.free_ok X G (c.fact 47 (f := .free "len") rfl), He.free_ok X G (c.fact 48 (f := .free "isinstance") rfl), He.free_ok X G (c.fact 49 (f := .free "list") rfl), He.free_ok X G (c.fact 50 (f := .free "tuple") rfl), He.free_ok X G (c.fact 51 (f := .free "dict") rfl), He.free_ok X G (c.fact 52 (f := .free "int") rfl), He.free_ok X G (c.fact 53 (f := .free "bool") rfl), He.free_ok X G (c.fact 54 (f := .free "str") rfl), He.free_ok X G (c.fact 55 (f := .free "all") rfl), He.free_ok X G (c.fact 56 (f := .free "any") rfl), He.free_ok X G (c.fact 57 (f := .free "range") rfl), He.free_ok X G (c.fact 58 (f := .free "enumerate") rfl), He.free_ok X G (c.fact 59 (f := .free "zip") rfl), He.free_ok X G (c.fact 60 (f := .free "sum") rfl), He.str_ok X G (c.fact 62 (f := .str "NAME_SIGNS" signs) rfl), He.cls_ok (c.fact 33 (f := .cls "Net") rfl), He.noat_ok (c.fact 35 (f := .noat "Net" "own_arcs") rfl), He.noat_ok (c.fact 36 (f := .noat "Net" "own_nodes") rfl), He.noat_ok (c.fact 37 (f := .noat "Net" "own_rings") rfl), He.glo_ok X G (c.fact 32 (f := .glo "Net") rfl)⟩
  have hs_is_list : Has K mg "is_list" s_is_list := let ⟨fd, F⟩ := c.def_ 0 (d := ds_is_list) rfl; ⟨_, fd, He.glo_ok X G (c.fact 0 (f := .glo "is_list") rfl), F⟩
  have hs_is_name : Has K mg "is_name" s_is_name := let ⟨fd, F⟩ := c.def_ 1 (d := ds_is_name) rfl; ⟨_, fd, He.glo_ok X G (c.fact 1 (f := .glo "is_name") rfl), F⟩
  have hs_checked_file : Has K mg "checked_file" s_checked_file := let ⟨fd, F⟩ := c.def_ 2 (d := ds_checked_file) rfl; ⟨_, fd, He.glo_ok X G (c.fact 2 (f := .glo "checked_file") rfl), F⟩
  have hs_check_question : Has K mg "check_question" s_check_question := let ⟨fd, F⟩ := c.def_ 3 (d := ds_check_question) rfl; ⟨_, fd, He.glo_ok X G (c.fact 3 (f := .glo "check_question") rfl), F⟩
  have hs_checked_both : Has K mg "checked_both" s_checked_both := let ⟨fd, F⟩ := c.def_ 4 (d := ds_checked_both) rfl; ⟨_, fd, He.glo_ok X G (c.fact 4 (f := .glo "checked_both") rfl), F⟩
  have hs_is_arc : Has K mg "is_arc" s_is_arc := let ⟨fd, F⟩ := c.def_ 5 (d := ds_is_arc) rfl; ⟨_, fd, He.glo_ok X G (c.fact 5 (f := .glo "is_arc") rfl), F⟩
  have hs_way_along : Has K mg "way_along" s_way_along := let ⟨fd, F⟩ := c.def_ 6 (d := ds_way_along) rfl; ⟨_, fd, He.glo_ok X G (c.fact 6 (f := .glo "way_along") rfl), F⟩
  have hs_way_between : Has K mg "way_between" s_way_between := let ⟨fd, F⟩ := c.def_ 7 (d := ds_way_between) rfl; ⟨_, fd, He.glo_ok X G (c.fact 7 (f := .glo "way_between") rfl), F⟩
  have hs_ways_from : Has K mg "ways_from" s_ways_from := let ⟨fd, F⟩ := c.def_ 8 (d := ds_ways_from) rfl; ⟨_, fd, He.glo_ok X G (c.fact 8 (f := .glo "ways_from") rfl), F⟩
  have hs_l_start : Has K mg "_law_start" s_l_start := let ⟨fd, F⟩ := c.def_ 9 (d := ds_l_start) rfl; ⟨_, fd, He.glo_ok X G (c.fact 9 (f := .glo "_law_start") rfl), F⟩
  have hs_l_draw : Has K mg "_law_draw" s_l_draw := let ⟨fd, F⟩ := c.def_ 10 (d := ds_l_draw) rfl; ⟨_, fd, He.glo_ok X G (c.fact 10 (f := .glo "_law_draw") rfl), F⟩
  have hs_l_pick : Has K mg "_law_pick" s_l_pick := let ⟨fd, F⟩ := c.def_ 11 (d := ds_l_pick) rfl; ⟨_, fd, He.glo_ok X G (c.fact 11 (f := .glo "_law_pick") rfl), F⟩
  have hs_l_mixed : Has K mg "_law_mixed" s_l_mixed := let ⟨fd, F⟩ := c.def_ 12 (d := ds_l_mixed) rfl; ⟨_, fd, He.glo_ok X G (c.fact 12 (f := .glo "_law_mixed") rfl), F⟩
  have hs_l_same : Has K mg "_law_same" s_l_same := let ⟨fd, F⟩ := c.def_ 13 (d := ds_l_same) rfl; ⟨_, fd, He.glo_ok X G (c.fact 13 (f := .glo "_law_same") rfl), F⟩
  have hs_l_name : Has K mg "_law_name" s_l_name := let ⟨fd, F⟩ := c.def_ 14 (d := ds_l_name) rfl; ⟨_, fd, He.glo_ok X G (c.fact 14 (f := .glo "_law_name") rfl), F⟩
  have hs_l_names : Has K mg "_law_names" s_l_names := let ⟨fd, F⟩ := c.def_ 15 (d := ds_l_names) rfl; ⟨_, fd, He.glo_ok X G (c.fact 15 (f := .glo "_law_names") rfl), F⟩
  have hs_l_arcs : Has K mg "_law_c_arcs" s_l_arcs := let ⟨fd, F⟩ := c.def_ 16 (d := ds_l_arcs) rfl; ⟨_, fd, He.glo_ok X G (c.fact 16 (f := .glo "_law_c_arcs") rfl), F⟩
  have hs_l_leads : Has K mg "_law_c_leads" s_l_leads := let ⟨fd, F⟩ := c.def_ 17 (d := ds_l_leads) rfl; ⟨_, fd, He.glo_ok X G (c.fact 17 (f := .glo "_law_c_leads") rfl), F⟩
  have hs_l_live : Has K mg "_law_c_live" s_l_live := let ⟨fd, F⟩ := c.def_ 18 (d := ds_l_live) rfl; ⟨_, fd, He.glo_ok X G (c.fact 18 (f := .glo "_law_c_live") rfl), F⟩
  have hs_l_nodes : Has K mg "_law_c_nodes" s_l_nodes := let ⟨fd, F⟩ := c.def_ 19 (d := ds_l_nodes) rfl; ⟨_, fd, He.glo_ok X G (c.fact 19 (f := .glo "_law_c_nodes") rfl), F⟩
  have hs_l_is_world : Has K mg "_law_c_is_world" s_l_is_world := let ⟨fd, F⟩ := c.def_ 20 (d := ds_l_is_world) rfl; ⟨_, fd, He.glo_ok X G (c.fact 20 (f := .glo "_law_c_is_world") rfl), F⟩
  have hs_l_rank : Has K mg "_law_c_rank" s_l_rank := let ⟨fd, F⟩ := c.def_ 21 (d := ds_l_rank) rfl; ⟨_, fd, He.glo_ok X G (c.fact 21 (f := .glo "_law_c_rank") rfl), F⟩
  have hs_l_less : Has K mg "_law_c_less" s_l_less := let ⟨fd, F⟩ := c.def_ 22 (d := ds_l_less) rfl; ⟨_, fd, He.glo_ok X G (c.fact 22 (f := .glo "_law_c_less") rfl), F⟩
  have hs_l_spans : Has K mg "_law_c_spans" s_l_spans := let ⟨fd, F⟩ := c.def_ 23 (d := ds_l_spans) rfl; ⟨_, fd, He.glo_ok X G (c.fact 23 (f := .glo "_law_c_spans") rfl), F⟩
  have hs_l_some : Has K mg "_law_c_some" s_l_some := let ⟨fd, F⟩ := c.def_ 24 (d := ds_l_some) rfl; ⟨_, fd, He.glo_ok X G (c.fact 24 (f := .glo "_law_c_some") rfl), F⟩
  have hs_l_out : Has K mg "_law_c_out" s_l_out := let ⟨fd, F⟩ := c.def_ 25 (d := ds_l_out) rfl; ⟨_, fd, He.glo_ok X G (c.fact 25 (f := .glo "_law_c_out") rfl), F⟩
  have hs_l_is_side : Has K mg "_law_c_is_side" s_l_is_side := let ⟨fd, F⟩ := c.def_ 26 (d := ds_l_is_side) rfl; ⟨_, fd, He.glo_ok X G (c.fact 26 (f := .glo "_law_c_is_side") rfl), F⟩
  have hs_l_is_plan : Has K mg "_law_c_is_plan" s_l_is_plan := let ⟨fd, F⟩ := c.def_ 27 (d := ds_l_is_plan) rfl; ⟨_, fd, He.glo_ok X G (c.fact 27 (f := .glo "_law_c_is_plan") rfl), F⟩
  have hs_l_worlds : Has K mg "_law_c_worlds" s_l_worlds := let ⟨fd, F⟩ := c.def_ 28 (d := ds_l_worlds) rfl; ⟨_, fd, He.glo_ok X G (c.fact 28 (f := .glo "_law_c_worlds") rfl), F⟩
  have hs_l_none_parts : Has K mg "_law_c_none_parts" s_l_none_parts := let ⟨fd, F⟩ := c.def_ 29 (d := ds_l_none_parts) rfl; ⟨_, fd, He.glo_ok X G (c.fact 29 (f := .glo "_law_c_none_parts") rfl), F⟩
  have hs_l_is_right : Has K mg "_law_c_is_right" s_l_is_right := let ⟨fd, F⟩ := c.def_ 30 (d := ds_l_is_right) rfl; ⟨_, fd, He.glo_ok X G (c.fact 30 (f := .glo "_law_c_is_right") rfl), F⟩
  have hm_init : ∃ (f : Addr) (fd : FuncData), Mk K (He.ga K "Net") f ∧ mg "Net" = some (.ref (He.ga K "Net")) ∧ FunD K "__init__" "Net.__init__" (defArgs m_init) (defBody m_init) (defScope m_init) [] [] f fd := let ⟨fd, F⟩ := c.def_ 32 (d := dm_init) rfl; ⟨_, fd, He.mkr_ok (c.fact 34 (f := .mkr "Net") rfl), T.mgC, F⟩
  have hm_questions : HasM K (He.ga K "Net") "questions" "Net.questions" m_questions := let ⟨fd, F⟩ := c.def_ 33 (d := dm_questions) rfl; ⟨_, fd, He.meth_ok (c.fact 38 (f := .meth "Net" "questions") rfl), F⟩
  have hm_live : HasM K (He.ga K "Net") "live" "Net.live" m_live := let ⟨fd, F⟩ := c.def_ 34 (d := dm_live) rfl; ⟨_, fd, He.meth_ok (c.fact 39 (f := .meth "Net" "live") rfl), F⟩
  have hm_left_open : HasM K (He.ga K "Net") "left_open" "Net.left_open" m_left_open := let ⟨fd, F⟩ := c.def_ 35 (d := dm_left_open) rfl; ⟨_, fd, He.meth_ok (c.fact 40 (f := .meth "Net" "left_open") rfl), F⟩
  have hm_home : HasM K (He.ga K "Net") "home" "Net.home" m_home := let ⟨fd, F⟩ := c.def_ 36 (d := dm_home) rfl; ⟨_, fd, He.meth_ok (c.fact 41 (f := .meth "Net" "home") rfl), F⟩
  have hm_ring_by : HasM K (He.ga K "Net") "ring_by" "Net.ring_by" m_ring_by := let ⟨fd, F⟩ := c.def_ 37 (d := dm_ring_by) rfl; ⟨_, fd, He.meth_ok (c.fact 42 (f := .meth "Net" "ring_by") rfl), F⟩
  have hm_moved : HasM K (He.ga K "Net") "moved" "Net.moved" m_moved := let ⟨fd, F⟩ := c.def_ 38 (d := dm_moved) rfl; ⟨_, fd, He.meth_ok (c.fact 43 (f := .meth "Net" "moved") rfl), F⟩
  have hm_is_told : HasM K (He.ga K "Net") "is_told" "Net.is_told" m_is_told := let ⟨fd, F⟩ := c.def_ 39 (d := dm_is_told) rfl; ⟨_, fd, He.meth_ok (c.fact 44 (f := .meth "Net" "is_told") rfl), F⟩
  have hm_plan : HasM K (He.ga K "Net") "plan" "Net.plan" m_plan := let ⟨fd, F⟩ := c.def_ 40 (d := dm_plan) rfl; ⟨_, fd, He.meth_ok (c.fact 45 (f := .meth "Net" "plan") rfl), F⟩
  have hm_apart : HasM K (He.ga K "Net") "apart" "Net.apart" m_apart := let ⟨fd, F⟩ := c.def_ 41 (d := dm_apart) rfl; ⟨_, fd, He.meth_ok (c.fact 46 (f := .meth "Net" "apart") rfl), F⟩
  obtain ⟨fd, F⟩ := c.def_ 31 (d := ds_law) rfl
  have e := hfa.symm.trans (He.glo_ok X G (c.fact 31 (f := .glo "law") rfl))
  cases e
  have b := FunD.bindsA (ps := ["_law_script"]) F fun _ _ _ _ _ _ us hl => match us, hl with | [_], _ => rfl
  refine ⟨fd, fun s v => b s [v] rfl, fun base _ _ => ?_⟩
  have c_is_list := cal_is_list (P := P) (w := w) (base := base) T hs_is_list
  have c_is_name := cal_is_name (P := P) (w := w) (base := base) T hs_is_name
  have c_is_arc := cal_is_arc (P := P) (w := w) (base := base) T hs_is_arc c_is_list c_is_name
  have c_check_question := cal_check_question (P := P) (w := w) (base := base) T hs_check_question
  have c_checked_file := cal_checked_file (P := P) (w := w) (base := base) T hs_checked_file c_is_list
  have c_checked_both := cal_checked_both (P := P) (w := w) (base := base) hs_checked_both c_checked_file c_check_question
  have c_way_along := cal_way_along (P := P) (w := w) (base := base) T hs_way_along
  have c_ways_from := cal_ways_from (P := P) (w := w) (base := base) T hs_ways_from
  have c_way_between := cal_way_between (P := P) (w := w) (base := base) T hs_way_between c_ways_from
  have c_l_start := cal_l_start (P := P) (w := w) (base := base) T hs_l_start
  have c_l_draw := cal_l_draw (P := P) (w := w) (base := base) T hs_l_draw
  have c_l_pick := cal_l_pick (P := P) (w := w) (base := base) T hs_l_pick c_l_draw
  have c_l_mixed := cal_l_mixed (P := P) (w := w) (base := base) T hs_l_mixed c_l_draw
  have c_l_same := cal_l_same (P := P) (w := w) (base := base) T hs_l_same
  have c_l_name := cal_l_name (P := P) (w := w) (base := base) T hs_l_name c_l_draw c_l_pick
  have c_l_names := cal_l_names (P := P) (w := w) (base := base) T hs_l_names c_l_name
  have c_l_arcs := cal_l_arcs (P := P) (w := w) (base := base) T hs_l_arcs c_l_draw c_l_pick c_l_names
  have c_l_leads := cal_l_leads (P := P) (w := w) (base := base) T hs_l_leads
  have c_l_live := cal_l_live (P := P) (w := w) (base := base) hs_l_live c_l_leads
  have c_l_nodes := cal_l_nodes (P := P) (w := w) (base := base) T hs_l_nodes
  have c_l_is_world := cal_l_is_world (P := P) (w := w) (base := base) T hs_l_is_world c_l_nodes
  have c_l_less := cal_l_less (P := P) (w := w) (base := base) T hs_l_less
  have c_l_rank := cal_l_rank (P := P) (w := w) (base := base) T hs_l_rank c_l_less
  have c_l_spans := cal_l_spans (P := P) (w := w) (base := base) T hs_l_spans c_l_live c_l_nodes c_l_rank
  have c_l_some := cal_l_some (P := P) (w := w) (base := base) T hs_l_some c_l_draw c_l_mixed
  have c_l_out := cal_l_out (P := P) (w := w) (base := base) T hs_l_out
  have c_l_is_side := cal_l_is_side (P := P) (w := w) (base := base) T hs_l_is_side c_l_nodes
  have c_l_is_plan := cal_l_is_plan (P := P) (w := w) (base := base) T hs_l_is_plan c_l_live c_l_is_side c_l_out
  have c_l_worlds := cal_l_worlds (P := P) (w := w) (base := base) T hs_l_worlds c_l_is_world
  have c_l_none_parts := cal_l_none_parts (P := P) (w := w) (base := base) T hs_l_none_parts
  have c_Net := cal_minit (P := P) (w := w) (base := base) T hm_init c_is_name c_is_arc c_way_along
  have mc_questions := cal_mquestions (P := P) (w := w) (base := base) T hm_questions
  have mc_live := cal_mlive (P := P) (w := w) (base := base) T hm_live
  have mc_left_open := cal_mleft_open (P := P) (w := w) (base := base) T hm_left_open mc_live
  have mc_home := cal_mhome (P := P) (w := w) (base := base) T hm_home mc_live
  have mc_ring_by := cal_mring_by (P := P) (w := w) (base := base) T hm_ring_by c_way_between mc_left_open
  have mc_moved := cal_mmoved (P := P) (w := w) (base := base) T hm_moved mc_home
  have mc_is_told := cal_mis_told (P := P) (w := w) (base := base) T hm_is_told c_checked_both mc_questions mc_ring_by
  have mc_plan := cal_mplan (P := P) (w := w) (base := base) T hm_plan c_checked_both c_ways_from mc_questions mc_left_open mc_ring_by
  have mc_apart := cal_mapart (P := P) (w := w) (base := base) T hm_apart c_checked_both mc_questions mc_moved mc_ring_by
  have c_l_is_right := cal_l_is_right (P := P) (w := w) (base := base) T hs_l_is_right c_l_is_plan c_l_is_world mc_plan mc_apart
  have c_law := cal_law (P := P) (w := w) (base := base) T F c_l_start c_l_arcs c_Net c_l_some c_l_worlds c_l_spans c_l_pick mc_is_told c_l_same c_l_none_parts c_l_is_right
  exact c_law
end K25
open PySem PySem.W PySem.Calls PyProof.Rows
theorem PySem.Challenge.cw_twoworlds_k25_whole_arcs_told_holds : PySem.Challenge.rw_twoworlds_k25_whole_arcs_told.Holds := by
  w_on; o_law
  refine HandSHeadRun.head_any (r := OpenLaw.row PySem.Challenge.rw_twoworlds_k25_whole_arcs_told) (q := view (OpenLaw.row PySem.Challenge.rw_twoworlds_k25_whole_arcs_told).prog [48]) (H := K25.hk) (ob := K25.ob) (M := 6000) (loose := K25.loose) (d := HandSHeadRun.topDef (OpenLaw.row PySem.Challenge.rw_twoworlds_k25_whole_arcs_told).prog 48) (kwd := []) K25.ob_eq
    (by kernel_rfl) (fun s => by kernel_rfl) K25.run (by kernel_rfl) (by kernel_rfl) (by kernel_rfl) (by rfl) (by first | assumption | decide +kernel) (by decide +kernel) ⟨rfl, rfl, rfl, rfl, rfl, by decide +kernel⟩ ?hw ?hc
  case hw => w_witness2
  case hc =>
    refine L2.walk_ofE (l := PySem.Challenge.rw_twoworlds_k25_whole_arcs_told) (n := 63) (k := 6) (x := "_law_script") (CX := L2.CX0) rfl (by decide) (by kernel_rfl) ⟨rfl, by decide, by decide⟩ ?F (fun _ _ _ _ z => z)
    intro w mg fa h Y G hmg0
    obtain ⟨K, KX, c⟩ := Y
    have hmg : mg ("law" : PySem.Str) = some (.ref fa) := by
      have e : (HandSHeadRun.topDef (OpenLaw.row PySem.Challenge.rw_twoworlds_k25_whole_arcs_told).prog 48).name = ("law" : PySem.Str) := by kernel_rfl
      rw [← e]
      exact hmg0
    obtain ⟨fd, hb, hF⟩ := K25.facts (P := (PySem.Challenge.rw_twoworlds_k25_whole_arcs_told).prog) (w := w) KX G hmg c
    exact ⟨K, fd, K25.spLaw K, KX, hb, fun H a ns hl _ hS => ⟨a, ns, rfl, hS, fun _ => rfl⟩, hF⟩

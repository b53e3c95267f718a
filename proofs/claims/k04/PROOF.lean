import PyProof.Rows.All
import Wide.All
import OpenK.AllK
import Wide.FinOn
import HandS.ForMost
import HandS.IsInst
import HandS.Wide
import HandS.WordsExc
import HandS.TryMany
import KE.KeyNested
import KE.SortData
import KE.DataCmp
import KE.DataEq
import KE.LtData
import KE.DataAny
import PyProof.ReprRoads
import HandS.TupAny
import HandS.TupLe
import HandS.TupMul
import HandS.Conv
import HandS.ReCall
import HandS.Text
import HandS.Style
import HandS.Steps
import HandS.RaiseMore
import PyProof.ReprBulk
import HandS.Flow
import HandS.Zip
import HandS.Set
import HandS.SetFor
import HandS.SortInts
import KE.KDictPairs
import HandS.ListItems
import HandS.Exc
import HandS.ExcInit
import KE.KExcSuper
import HandS.ExcField
import KE.KDictWalk
import KE.KDictSum
import HandS.Words
import HandS.Defaults
import HandS.Head0
import HandS.Head1
import HandS.Head2
import HandS.HeadEnd
import HandS.HeadHook1
import HandS.HeadHook2
import HandS.Codes
import HandS.Ends
import PySem.Challenge.RW_wishsure_k04_errors_of_terms
set_option Elab.async false
set_option linter.all false
set_option maxRecDepth 100000
set_option maxHeartbeats 4000000
/-! Pe, part A: pure values (trees), what is computed of them, how they lie in the abstract heap. -/
namespace Pe
open PySem PySem.Spec PyProof.Rows L2

abbrev St := L2.St
/-- pure values -/
inductive D where
  | non | bl (b : Bool) | int (i : Int) | str (s : List Nat)
  | tup (xs : List D) | lst (xs : List D) | dic (ks vs : List D) | set (xs : List D)
  | scr (xs : List D)
  | fn (i : Nat) | cls (i : Nat) | clo (i : Nat) (caps : List D) | ins (c : Nat) (fs : List D)

abbrev txt (cs : List Nat) : Str := ⟨cs.toArray⟩
/-- a written text as codes -/
def cds (s : String) : List Nat := s.toList.map Char.toNat
abbrev D.s (s : String) : D := .str (cds s)

/-! ### data that == , < and repr read -/
mutual
/-- no dict, set, function or instance within, at most n deep -/
def fits : Nat → D → Bool
  | _, .non => true
  | _, .bl _ => true
  | _, .int _ => true
  | _, .str _ => true
  | 0, .tup _ => false
  | 0, .lst _ => false
  | n + 1, .tup xs => fitsL n xs
  | n + 1, .lst xs => fitsL n xs
  | _, _ => false
def fitsL : Nat → List D → Bool
  | _, [] => true
  | n, x :: xs => fits n x && fitsL n xs
end
mutual
def py : D → PyData
  | .non => .none
  | .bl b => .bool b
  | .int i => .int i
  | .str s => .str (txt s)
  | .tup xs => .tuple (pyL xs)
  | .lst xs => .list (pyL xs)
  | .dic ks vs => .dict ((pyL ks).zip (pyL vs))
  | _ => .none
def pyL : List D → List PyData
  | [] => []
  | x :: xs => py x :: pyL xs
end
theorem pyL_map : ∀ xs : List D, pyL xs = xs.map py
  | [] => rfl
  | x :: xs => by rw [pyL, pyL_map xs]; rfl
theorem pyL_len (xs : List D) : (pyL xs).length = xs.length := by rw [pyL_map, List.length_map]

mutual
/-- == of fitting data -/
def eqv : D → D → Bool
  | .non, .non => true
  | .bl a, .bl b => a == b
  | .bl a, .int j => (if a then 1 else 0) == j
  | .int i, .bl b => i == (if b then 1 else 0)
  | .int i, .int j => i == j
  | .str x, .str y => x == y
  | .lst xs, .lst ys => eqvL xs ys
  | .tup xs, .tup ys => eqvL xs ys
  | _, _ => false
def eqvL : List D → List D → Bool
  | [], [] => true
  | x :: xs, y :: ys => eqv x y && eqvL xs ys
  | _, _ => false
end
theorem str_beq (x y : List Nat) : (txt x == txt y) = (x == y) := by
  rw [Bool.eq_iff_iff, beq_iff_eq, beq_iff_eq]
  exact ⟨fun h => by simpa [txt] using h, fun h => by rw [h]⟩
mutual
theorem eqv_py : ∀ (n m : Nat) (x y : D), fits n x = true → fits m y = true → PyData.eqv (py x) (py y) = eqv x y
  | n, m, x, y, hx, hy => by
    cases x <;> cases y <;> first
      | rfl
      | (simp only [py, PyData.eqv, eqv, str_beq]; done)
      | (exfalso; cases n <;> simp [fits] at hx; done)
      | (exfalso; cases m <;> simp [fits] at hy; done)
      | skip
    · rename_i xs ys
      cases n with
      | zero => simp [fits] at hx
      | succ n =>
        cases m with
        | zero => simp [fits] at hy
        | succ m =>
          simp only [py, PyData.eqv, eqv]
          exact eqvL_py n m xs ys (by simpa [fits] using hx) (by simpa [fits] using hy)
    · rename_i xs ys
      cases n with
      | zero => simp [fits] at hx
      | succ n =>
        cases m with
        | zero => simp [fits] at hy
        | succ m =>
          simp only [py, PyData.eqv, eqv]
          exact eqvL_py n m xs ys (by simpa [fits] using hx) (by simpa [fits] using hy)
theorem eqvL_py : ∀ (n m : Nat) (xs ys : List D), fitsL n xs = true → fitsL m ys = true → PyData.eqvAll (pyL xs) (pyL ys) = eqvL xs ys
  | _, _, [], [], _, _ => by simp only [pyL, PyData.eqvAll, eqvL]
  | _, _, [], _ :: _, _, _ => by simp only [pyL, PyData.eqvAll, eqvL]
  | _, _, _ :: _, [], _, _ => by simp only [pyL, PyData.eqvAll, eqvL]
  | n, m, x :: xs, y :: ys, hx, hy => by
    have h1 : fits n x = true ∧ fitsL n xs = true := by simpa [fitsL] using hx
    have h2 : fits m y = true ∧ fitsL m ys = true := by simpa [fitsL] using hy
    simp only [pyL, PyData.eqvAll, eqvL]
    rw [eqv_py n m x y h1.1 h2.1, eqvL_py n m xs ys h1.2 h2.2]
end
mutual
theorem fits_plain : ∀ (n : Nat) (x : D), fits n x = true → (py x).plain = true ∧ (py x).depth ≤ n
  | n, x, h => by
    cases x <;> first
      | exact ⟨rfl, Nat.zero_le _⟩
      | (exfalso; cases n <;> simp [fits] at h; done)
      | skip
    · rename_i xs
      cases n with
      | zero => simp [fits] at h
      | succ n =>
        obtain ⟨a, b⟩ := fitsL_plain n xs (by simpa [fits] using h)
        simp only [py, PyData.plain, PyData.depth]
        exact ⟨a, Nat.succ_le_succ b⟩
    · rename_i xs
      cases n with
      | zero => simp [fits] at h
      | succ n =>
        obtain ⟨a, b⟩ := fitsL_plain n xs (by simpa [fits] using h)
        simp only [py, PyData.plain, PyData.depth]
        exact ⟨a, Nat.succ_le_succ b⟩
theorem fitsL_plain : ∀ (n : Nat) (xs : List D), fitsL n xs = true → PyData.plainAll (pyL xs) = true ∧ PyData.depthAll (pyL xs) ≤ n
  | _, [], _ => ⟨rfl, Nat.zero_le _⟩
  | n, x :: xs, h => by
    have h1 : fits n x = true ∧ fitsL n xs = true := by simpa [fitsL] using h
    obtain ⟨a, b⟩ := fits_plain n x h1.1
    obtain ⟨c, d⟩ := fitsL_plain n xs h1.2
    simp only [pyL, PyData.plainAll, PyData.depthAll]
    exact ⟨by rw [a, c]; rfl, Nat.max_le.mpr ⟨b, d⟩⟩
end
end Pe

set_option linter.all false
set_option maxRecDepth 100000
set_option maxHeartbeats 4000000
namespace Pe
open PySem PySem.Spec PyProof.Rows L2

/-! ### order and sorting -/
mutual
/-- < may be asked -/
def alk : D → D → Bool
  | .bl _, .bl _ => true
  | .int _, .int _ => true
  | .str _, .str _ => true
  | .lst xs, .lst ys => alkL xs ys
  | .tup xs, .tup ys => alkL xs ys
  | .non, .non => true
  | _, _ => false
def alkL : List D → List D → Bool
  | x :: xs, y :: ys => alk x y && alkL xs ys
  | _, _ => true
end
mutual
def ltd : D → D → Bool
  | .bl a, .bl b => !a && b
  | .int a, .int b => decide (a < b)
  | .str a, .str b => decide (a < b)
  | .lst xs, .lst ys => ltdL xs ys
  | .tup xs, .tup ys => ltdL xs ys
  | _, _ => false
def ltdL : List D → List D → Bool
  | [], [] => false
  | [], _ :: _ => true
  | _ :: _, [] => false
  | x :: xs, y :: ys => if eqv x y then ltdL xs ys else ltd x y
end
mutual
theorem alk_py : ∀ (n m : Nat) (x y : D), fits n x = true → fits m y = true → PySem.W.alike (py x) (py y) = alk x y
  | n, m, x, y, hx, hy => by
    cases x <;> cases y <;> first
      | rfl
      | (exfalso; cases n <;> simp [fits] at hx; done)
      | (exfalso; cases m <;> simp [fits] at hy; done)
      | (simp only [py, PySem.W.alike, alk]; done)
      | skip
    all_goals
      rename_i xs ys
      cases n with
      | zero => simp [fits] at hx
      | succ n =>
        cases m with
        | zero => simp [fits] at hy
        | succ m =>
          simp only [py, PySem.W.alike, alk]
          exact alkL_py n m xs ys (by simpa [fits] using hx) (by simpa [fits] using hy)
theorem alkL_py : ∀ (n m : Nat) (xs ys : List D), fitsL n xs = true → fitsL m ys = true → PySem.W.alikeAll (pyL xs) (pyL ys) = alkL xs ys
  | _, _, [], [], _, _ => by simp only [pyL, PySem.W.alikeAll, alkL]
  | _, _, [], _ :: _, _, _ => by simp only [pyL, PySem.W.alikeAll, alkL]
  | _, _, _ :: _, [], _, _ => by simp only [pyL, PySem.W.alikeAll, alkL]
  | n, m, x :: xs, y :: ys, hx, hy => by
    have h1 : fits n x = true ∧ fitsL n xs = true := by simpa [fitsL] using hx
    have h2 : fits m y = true ∧ fitsL m ys = true := by simpa [fitsL] using hy
    simp only [pyL, PySem.W.alikeAll, alkL]
    rw [alk_py n m x y h1.1 h2.1, alkL_py n m xs ys h1.2 h2.2]
end
open PySem.W in
mutual
theorem ltd_py : ∀ (n m : Nat) (x y : D), fits n x = true → fits m y = true → alk x y = true → dataLt (py x) (py y) = ltd x y
  | n, m, x, y, hx, hy, h => by
    cases x <;> cases y <;> first
      | (exfalso; simp [alk] at h; done)
      | skip
    · show PyProof.Rows.lexLt itemOrd [] [] = _
      rw [lex_irrefl]; rfl
    · rename_i a b
      show dataLt (.bool a) (.bool b) = _
      rw [dataLt_bool]; cases a <;> cases b <;> rfl
    · rename_i a b
      show dataLt (.int a) (.int b) = _
      rw [dataLt_int]; rfl
    · rename_i a b
      show dataLt (.str (txt a)) (.str (txt b)) = _
      rw [dataLt_str]
      show decide (a.toArray.toList < b.toArray.toList) = decide (a < b)
      rfl
    · rename_i xs ys
      cases n with
      | zero => simp [fits] at hx
      | succ n =>
        cases m with
        | zero => simp [fits] at hy
        | succ m =>
          show dataLt (.tuple (pyL xs)) (.tuple (pyL ys)) = _
          rw [dataLt_tuple]
          exact ltdL_py n m xs ys (by simpa [fits] using hx) (by simpa [fits] using hy) (by simpa [alk] using h)
    · rename_i xs ys
      cases n with
      | zero => simp [fits] at hx
      | succ n =>
        cases m with
        | zero => simp [fits] at hy
        | succ m =>
          show dataLt (.list (pyL xs)) (.list (pyL ys)) = _
          rw [dataLt_list]
          exact ltdL_py n m xs ys (by simpa [fits] using hx) (by simpa [fits] using hy) (by simpa [alk] using h)
theorem ltdL_py : ∀ (n m : Nat) (xs ys : List D), fitsL n xs = true → fitsL m ys = true → alkL xs ys = true →
    PyProof.Rows.lexLt itemOrd (keyToksAll (pyL xs)) (keyToksAll (pyL ys)) = ltdL xs ys
  | _, _, [], [], _, _, _ => lex_irrefl _
  | _, _, [], y :: ys, _, _, _ => by
    simp only [pyL]
    rw [toks_all_cons]
    simp only [keyToksAll]
    rw [lex_diff (O := itemOrd) (by simp)]
    rfl
  | _, _, x :: xs, [], _, _, _ => by
    simp only [pyL]
    rw [toks_all_cons]
    simp only [keyToksAll]
    rw [lex_diff (O := itemOrd) (by simp)]
    rfl
  | n, m, x :: xs, y :: ys, hx, hy, h => by
    have h1 : fits n x = true ∧ fitsL n xs = true := by simpa [fitsL] using hx
    have h2 : fits m y = true ∧ fitsL m ys = true := by simpa [fitsL] using hy
    have h3 : alk x y = true ∧ alkL xs ys = true := by simpa [alkL] using h
    simp only [pyL]
    have ha : alike (py x) (py y) = true := by rw [alk_py n m x y h1.1 h2.1]; exact h3.1
    rw [dataLt_cons ha, eqv_py n m x y h1.1 h2.1, ltdL_py n m xs ys h1.2 h2.2 h3.2, ltd_py n m x y h1.1 h2.1 h3.1]
    rfl
end
mutual
theorem alk_eq : ∀ (n m : Nat) (x y : D), fits n x = true → fits m y = true → alk x y = true → eqv x y = true → x = y
  | n, m, x, y, hx, hy, h, e => by
    cases x <;> cases y <;> first
      | rfl
      | (exfalso; simp [alk] at h; done)
      | (simp only [eqv, beq_iff_eq] at e; rw [e]; done)
      | skip
    all_goals
      rename_i xs ys
      cases n with
      | zero => simp [fits] at hx
      | succ n =>
        cases m with
        | zero => simp [fits] at hy
        | succ m =>
          rw [alkL_eq n m xs ys (by simpa [fits] using hx) (by simpa [fits] using hy) (by simpa [alk] using h) (by simpa [eqv] using e)]
theorem alkL_eq : ∀ (n m : Nat) (xs ys : List D), fitsL n xs = true → fitsL m ys = true → alkL xs ys = true → eqvL xs ys = true → xs = ys
  | _, _, [], [], _, _, _, _ => rfl
  | _, _, [], _ :: _, _, _, _, e => by simp [eqvL] at e
  | _, _, _ :: _, [], _, _, _, e => by simp [eqvL] at e
  | n, m, x :: xs, y :: ys, hx, hy, h, e => by
    have h1 : fits n x = true ∧ fitsL n xs = true := by simpa [fitsL] using hx
    have h2 : fits m y = true ∧ fitsL m ys = true := by simpa [fitsL] using hy
    have h3 : alk x y = true ∧ alkL xs ys = true := by simpa [alkL] using h
    have h4 : eqv x y = true ∧ eqvL xs ys = true := by simpa [eqvL] using e
    rw [alk_eq n m x y h1.1 h2.1 h3.1 h4.1, alkL_eq n m xs ys h1.2 h2.2 h3.2 h4.2]
end
/-- insertion, stable -/
def ins1 (le : D → D → Bool) (x : D) : List D → List D
  | [] => [x]
  | y :: ys => if le x y then x :: y :: ys else y :: ins1 le x ys
def isort (le : D → D → Bool) : List D → List D
  | [] => []
  | x :: xs => ins1 le x (isort le xs)
def leD (x y : D) : Bool := !ltd y x
theorem ins1_perm (le : D → D → Bool) (x : D) : ∀ ys, (ins1 le x ys).Perm (x :: ys)
  | [] => .refl _
  | y :: ys => by
    unfold ins1
    split
    · exact .refl _
    · exact ((ins1_perm le x ys).cons y).trans (.swap x y ys)
theorem isort_perm (le : D → D → Bool) : ∀ xs, (isort le xs).Perm xs
  | [] => .refl _
  | x :: xs => (ins1_perm le x _).trans ((isort_perm le xs).cons x)

section
open PySem.W
variable {β : Type}
theorem dle_total (a b : D) : (dataLe false py a b || dataLe false py b a) = true := by
  show (!dataLt (py b) (py a) || !dataLt (py a) (py b)) = true
  cases h1 : dataLt (py b) (py a) with
  | false => rfl
  | true =>
    cases h2 : dataLt (py a) (py b) with
    | false => rfl
    | true =>
      have q := (listOrd itemOrd).trans _ _ _ h1 h2
      have z := (listOrd itemOrd).irrefl (keyToks (py b))
      rw [z] at q; cases q
theorem dle_trans (a b c : D) (h1 : dataLe false py a b = true) (h2 : dataLe false py b c = true) : dataLe false py a c = true := by
  have e1 : (!dataLt (py b) (py a)) = true := h1
  have e2 : (!dataLt (py c) (py b)) = true := h2
  show (!dataLt (py c) (py a)) = true
  cases h : dataLt (py c) (py a) with
  | false => rfl
  | true =>
    rcases (listOrd itemOrd).negTrans (keyToks (py c)) (keyToks (py b)) (keyToks (py a)) h with q | q
    · have q' : dataLt (py c) (py b) = true := q
      rw [q'] at e2; cases e2
    · have q' : dataLt (py b) (py a) = true := q
      rw [q'] at e1; cases e1
theorem toks_inj {x y : PyData} (ha : alike x y = true) (e : keyToks x = keyToks y) : PyData.eqv x y = true := by
  cases h : PyData.eqv x y with
  | true => rfl
  | false =>
    have q := (toks_eqv x y ha).2 h [] [Sum.inl 0]
    rw [e, lex_pre, lex_irrefl] at q
    rw [show PyProof.Rows.lexLt itemOrd [] [Sum.inl 0] = true from rfl] at q
    cases q
theorem ins1_pw {le : D → D → Bool} (ht : ∀ a b c, le a b = true → le b c = true → le a c = true) (hh : ∀ a b, (le a b || le b a) = true) (x : D) :
    ∀ ys, ys.Pairwise (fun a b => le a b = true) → (ins1 le x ys).Pairwise (fun a b => le a b = true)
  | [], _ => by simp [ins1]
  | y :: ys, h => by
    unfold ins1
    split
    · rename_i q
      refine List.pairwise_cons.mpr ⟨fun b hb => ?_, h⟩
      rcases List.mem_cons.mp hb with e | hb
      · rw [e]; exact q
      · exact ht _ _ _ q ((List.pairwise_cons.mp h).1 b hb)
    · rename_i q
      refine List.pairwise_cons.mpr ⟨fun b hb => ?_, ins1_pw ht hh x ys (List.pairwise_cons.mp h).2⟩
      rcases List.mem_cons.mp ((ins1_perm le x ys).mem_iff.mp hb) with e | hb
      · rw [e]
        have z := hh x y
        rw [Bool.eq_false_iff.mpr q] at z
        simpa using z
      · exact (List.pairwise_cons.mp h).1 b hb
theorem isort_pw {le : D → D → Bool} (ht : ∀ a b c, le a b = true → le b c = true → le a c = true) (hh : ∀ a b, (le a b || le b a) = true) :
    ∀ xs, (isort le xs).Pairwise (fun a b => le a b = true)
  | [] => .nil
  | x :: xs => ins1_pw ht hh x _ (isort_pw ht hh xs)
theorem ins1_congr {le le' : D → D → Bool} (x : D) : ∀ ys, (∀ y ∈ ys, le x y = le' x y) → ins1 le x ys = ins1 le' x ys
  | [], _ => rfl
  | y :: ys, h => by
    unfold ins1
    rw [h y List.mem_cons_self, ins1_congr x ys fun z hz => h z (List.mem_cons_of_mem _ hz)]
theorem isort_congr {le le' : D → D → Bool} : ∀ xs, (∀ x ∈ xs, ∀ y ∈ xs, le x y = le' x y) → isort le xs = isort le' xs
  | [], _ => rfl
  | x :: xs, h => by
    unfold isort
    rw [isort_congr xs fun a ha b hb => h a (List.mem_cons_of_mem _ ha) b (List.mem_cons_of_mem _ hb)]
    exact ins1_congr x _ fun y hy => h x List.mem_cons_self y (List.mem_cons_of_mem _ ((isort_perm le' xs).mem_iff.mp hy))
/-- every two may be compared -/
def alkAll (xs : List D) : Bool := xs.all fun x => xs.all fun y => alk x y
theorem alkAll_mem {xs : List D} (h : alkAll xs = true) {x y : D} (hx : x ∈ xs) (hy : y ∈ xs) : alk x y = true := by
  have := List.all_eq_true.mp h x hx
  exact List.all_eq_true.mp this y hy
theorem fitsL_mem {n : Nat} : ∀ {xs : List D}, fitsL n xs = true → ∀ {x : D}, x ∈ xs → fits n x = true
  | [], _, _, hx => by cases hx
  | y :: ys, h, x, hx => by
    have h1 : fits n y = true ∧ fitsL n ys = true := by simpa [fitsL] using h
    rcases List.mem_cons.mp hx with e | hx
    · rw [e]; exact h1.1
    · exact fitsL_mem h1.2 hx
theorem sort_perm {n : Nat} {xs ys : List D} (hf : fitsL n xs = true) (ha : alkAll xs = true) (p : ys.Perm xs) : ys.mergeSort (dataLe false py) = isort leD xs := by
  have e1 : isort leD xs = isort (dataLe false py) xs := isort_congr xs fun x hx y hy => by
    show (!ltd y x) = !dataLt (py y) (py x)
    rw [ltd_py n n y x (fitsL_mem hf hy) (fitsL_mem hf hx) (alkAll_mem ha hy hx)]
  rw [e1]
  refine List.Perm.eq_of_pairwise (le := fun a b => dataLe false py a b = true) (fun a b h1 h2 l1 l2 => ?_) (List.pairwise_mergeSort dle_trans dle_total ys) (isort_pw dle_trans dle_total xs) (((List.mergeSort_perm ys _).trans p).trans (isort_perm _ xs).symm)
  have m1 : a ∈ xs := p.mem_iff.mp ((List.mergeSort_perm ys _).mem_iff.mp h1)
  have m2 : b ∈ xs := (isort_perm _ xs).mem_iff.mp h2
  have k1 : (!dataLt (py b) (py a)) = true := l1
  have k2 : (!dataLt (py a) (py b)) = true := l2
  have ab := alkAll_mem ha m1 m2
  have ab' : alike (py a) (py b) = true := by rw [alk_py n n a b (fitsL_mem hf m1) (fitsL_mem hf m2)]; exact ab
  have t : keyToks (py a) = keyToks (py b) := (listOrd itemOrd).total _ _ (show dataLt (py a) (py b) = false by simpa using k2) (show dataLt (py b) (py a) = false by simpa using k1)
  have q := toks_inj ab' t
  rw [eqv_py n n a b (fitsL_mem hf m1) (fitsL_mem hf m2)] at q
  exact alk_eq n n a b (fitsL_mem hf m1) (fitsL_mem hf m2) ab q
theorem sort_eq {n : Nat} {xs : List D} (hf : fitsL n xs = true) (ha : alkAll xs = true) : xs.mergeSort (dataLe false py) = isort leD xs := sort_perm hf ha (.refl _)
end
end Pe

set_option linter.all false
set_option maxRecDepth 100000
set_option maxHeartbeats 4000000
namespace Pe
open PySem PySem.Spec PyProof.Rows L2

/-! ### keys -/
mutual
/-- a key of a dict or a set: None, whole numbers, texts, tuples of such -/
def isKey : Nat → D → Bool
  | _, .non => true
  | _, .int _ => true
  | _, .str _ => true
  | n + 1, .tup xs => isKeyL n xs
  | _, _ => false
def isKeyL : Nat → List D → Bool
  | _, [] => true
  | n, x :: xs => isKey n x && isKeyL n xs
end
mutual
def nk : D → NestedKey
  | .int i => .num i
  | .str s => .text (txt s)
  | .tup xs => .tup (nkL xs)
  | _ => .none
def nkL : List D → List NestedKey
  | [] => []
  | x :: xs => nk x :: nkL xs
end

/-! ### how values lie -/
/-- a dict, by its object's entries alone -/
def dO (a : Addr) (E : List DictEntry) : HO := .ext fun h => (a == sysModules) = false ∧ ∃ o es ep, h.get? a = some o ∧ o.ExactDict ∧ o.data = .dict es ep ∧ es.toList = E
/-- what is fixed: the written part, the world, where defs and classes stand -/
structure Cfg where
  K : PySem.W.Frag
  w : World
  fa : Nat → Addr
  ca : Nat → Addr

/-- a list from outside, or of the written part: read alone -/
def Scr (K : PySem.W.Frag) (H : Hp) (a : Addr) (vs : List V) : Prop := (∃ o, H a = some (.frz o (.lst vs))) ∨
  ∃ (o : Obj) (its : Array Value) (n : Nat), K.lookup a = some o ∧ o.cls = .type "list" ∧ o.dict = none ∧ o.data = .seq its n ∧ its.size ≤ sizeLine ∧ Vals vs its.toList
theorem Scr.sq {K : PySem.W.Frag} {H : Hp} {a : Addr} {vs : List V} (h : Scr K H a vs) : SqL K H a vs := by
  rcases h with h | h
  · exact .inl (.inr h)
  · exact .inr h
/-- the keys of a dict -/
def KOk (ks : List D) : Prop := (ks.map nk).Nodup ∧ ∀ k ∈ ks, isKey 8 k = true
/-- a tuple, its object told wholly -/
def xT (its : Array Value) (vs : List V) : HO := .frz { cls := .type "tuple", data := .seq its } (.tup vs)
def TpX (K : PySem.W.Frag) (H : Hp) (a : Addr) (vs : List V) : Prop := (∃ its, H a = some (xT its vs)) ∨
  ∃ (o : Obj) (its : Array Value) (n : Nat), K.lookup a = some o ∧ o.cls = .type "tuple" ∧ o.dict = none ∧ o.data = .seq its n ∧ its.size ≤ sizeLine ∧ Vals vs its.toList
theorem TpX.sqt {K : PySem.W.Frag} {H : Hp} {a : Addr} {vs : List V} (h : TpX K H a vs) : SqT K H a vs := by
  rcases h with ⟨its, h⟩ | ⟨o, its, n, e1, e2, e3, e4, e5, e6⟩
  · exact .inl (.inr ⟨_, h⟩)
  · exact .inr ⟨o, its, n, e1, e2, e4, e5, e6⟩
theorem TpX.new {K : PySem.W.Frag} {H : Hp} {a : Addr} {its : Array Value} {vs : List V} : TpX K (upd H a (xT its vs)) a vs := .inl ⟨its, upd_same⟩
/-- a pair whose first is no tuple -/
def pairS : List D → Bool
  | [.tup _, _] => false
  | [_, _] => true
  | _ => false
mutual
inductive RD (G : Cfg) (H : Hp) (T : Addr → Prop) : D → V → Prop
  | non : RD G H T .non .non
  | bl (b : Bool) : RD G H T (.bl b) (.bl b)
  | int (i : Int) : RD G H T (.int i) (.int i)
  | str (s : List Nat) : s.length ≤ sizeLine → RD G H T (.str s) (.str (txt s))
  | tup {a : Addr} {vs : List V} {ds : List D} : TpX G.K H a vs → vs.length ≤ sizeLine → RDs G H T ds vs → RD G H T (.tup ds) (.ref a)
  | tupS {a : Addr} {vs : List V} {ds : List D} : SqT G.K H a vs → vs.length ≤ sizeLine → pairS ds = true → RDs G H T ds vs → RD G H T (.tup ds) (.ref a)
  | set {a : Addr} {vs : List V} {ds : List D} : SqT G.K H a vs → vs.length ≤ sizeLine → RDs G H T ds vs → RD G H T (.set ds) (.ref a)
  | lst {a : Addr} {vs : List V} {ds : List D} : H a = some (.lst vs) → ¬ T a → vs.length ≤ sizeLine → RDs G H T ds vs → RD G H T (.lst ds) (.ref a)
  | scr {a : Addr} {vs : List V} {ds : List D} : Scr G.K H a vs → vs.length ≤ sizeLine → RDs G H T ds vs → RD G H T (.scr ds) (.ref a)
  | dic {a : Addr} {E : List DictEntry} {ks vs : List D} : H a = some (dO a E) → ¬ T a → (E.length ≤ sizeLine ∧ KOk ks) → RDe G H T ks vs E → RD G H T (.dic ks vs) (.ref a)
  | fn (i : Nat) : RD G H T (.fn i) (.ref (G.fa i))
  | cls (i : Nat) : RD G H T (.cls i) (.ref (G.ca i))
inductive RDs (G : Cfg) (H : Hp) (T : Addr → Prop) : List D → List V → Prop
  | nil : RDs G H T [] []
  | cons {d : D} {ds : List D} {v : V} {vs : List V} : RD G H T d v → RDs G H T ds vs → RDs G H T (d :: ds) (v :: vs)
inductive RDe (G : Cfg) (H : Hp) (T : Addr → Prop) : List D → List D → List DictEntry → Prop
  | nil : RDe G H T [] [] []
  | cons {k d : D} {ks ds : List D} {e : DictEntry} {es : List DictEntry} {kv vv : V} : e.hash = (nk k).hash G.w → RD G H T k kv → RelV kv e.key → RD G H T d vv → RelV vv e.val → RDe G H T ks ds es → RDe G H T (k :: ks) (d :: ds) (e :: es)
end

/-- not a dict that is just being made -/
def nK : HO → Prop
  | .dK _ => False
  | _ => True
/-- what else stays: everything that stands and may not change -/
structure Grow (T : Addr → Prop) (H : Hp) (T' : Addr → Prop) (H' : Hp) : Prop where
  keep : ∀ a o, H a = some o → nK o → ¬ T a → H' a = some o
  new : ∀ a, T' a → T a ∨ ∀ o, H a = some o → ¬ nK o
theorem Grow.refl {T : Addr → Prop} {H : Hp} : Grow T H T H := ⟨fun _ _ h _ _ => h, fun _ h => .inl h⟩
theorem Grow.trans {T T' T2 : Addr → Prop} {H H' H2 : Hp} (a : Grow T H T' H') (b : Grow T' H' T2 H2) : Grow T H T2 H2 where
  keep := fun c o h k n => b.keep c o (a.keep c o h k n) k fun t => by
    rcases a.new c t with z | z
    · exact n z
    · exact z o h k
  new := fun c t => by
    rcases b.new c t with z | z
    · exact a.new c z
    · by_cases n : T c
      · exact .inl n
      · exact .inr fun o h k => z o (a.keep c o h k n) k
theorem Grow.nt {T T' : Addr → Prop} {H H' : Hp} (g : Grow T H T' H') {a : Addr} {o : HO} (h : H a = some o) (k : nK o) (n : ¬ T a) : ¬ T' a := fun t => by
  rcases g.new a t with z | z
  · exact n z
  · exact z o h k
/-- tuples never change; those that may change hold no tuple -/
def NoTup (T : Addr → Prop) (H : Hp) : Prop := ∀ a, T a → ∀ xs, H a ≠ some (.tup xs) ∧ ∀ o u, H a ≠ some (.frz o u)
section
variable {G : Cfg} {T T' : Addr → Prop} {H H' : Hp}
theorem sqT_grow (n : NoTup T H) (g : Grow T H T' H') {a : Addr} {vs : List V} (h : SqT G.K H a vs) : SqT G.K H' a vs := by
  rcases h with (h | ⟨o, h⟩) | h
  · exact .inl (.inl (g.keep a _ h trivial fun t => (n a t vs).1 h))
  · exact .inl (.inr ⟨o, g.keep a _ h trivial fun t => (n a t vs).2 _ _ h⟩)
  · exact .inr h
theorem scr_grow (n : NoTup T H) (g : Grow T H T' H') {a : Addr} {vs : List V} (h : Scr G.K H a vs) : Scr G.K H' a vs := by
  rcases h with ⟨o, h⟩ | h
  · exact .inl ⟨o, g.keep a _ h trivial fun t => (n a t vs).2 _ _ h⟩
  · exact .inr h
theorem tpx_grow (n : NoTup T H) (g : Grow T H T' H') {a : Addr} {vs : List V} (h : TpX G.K H a vs) : TpX G.K H' a vs := by
  rcases h with ⟨its, h⟩ | h
  · exact .inl ⟨its, g.keep a _ h trivial fun t => (n a t vs).2 _ _ h⟩
  · exact .inr h
mutual
theorem RD.grow (n : NoTup T H) (g : Grow T H T' H') : ∀ {d : D} {v : V}, RD G H T d v → RD G H' T' d v
  | _, _, .non => .non
  | _, _, .bl b => .bl b
  | _, _, .int i => .int i
  | _, _, .str s h => .str s h
  | _, _, .tup a b c => .tup (tpx_grow n g a) b (RDs.grow n g c)
  | _, _, .tupS a b e c => .tupS (sqT_grow n g a) b e (RDs.grow n g c)
  | _, _, .set a b c => .set (sqT_grow n g a) b (RDs.grow n g c)
  | _, _, .lst a b z c => .lst (g.keep _ _ a trivial b) (g.nt a trivial b) z (RDs.grow n g c)
  | _, _, .scr a b c => .scr (scr_grow n g a) b (RDs.grow n g c)
  | _, _, .dic a b z c => .dic (g.keep _ _ a trivial b) (g.nt a trivial b) z (RDe.grow n g c)
  | _, _, .fn i => .fn i
  | _, _, .cls i => .cls i
theorem RDs.grow (n : NoTup T H) (g : Grow T H T' H') : ∀ {ds : List D} {vs : List V}, RDs G H T ds vs → RDs G H' T' ds vs
  | _, _, .nil => .nil
  | _, _, .cons a b => .cons (RD.grow n g a) (RDs.grow n g b)
theorem RDe.grow (n : NoTup T H) (g : Grow T H T' H') : ∀ {ks ds : List D} {es : List DictEntry}, RDe G H T ks ds es → RDe G H' T' ks ds es
  | _, _, _, .nil => .nil
  | _, _, _, .cons a b c d e f => .cons a (RD.grow n g b) c (RD.grow n g d) e (RDe.grow n g f)
end
theorem RDs.len : ∀ {ds : List D} {vs : List V}, RDs G H T ds vs → ds.length = vs.length
  | _, _, .nil => rfl
  | _, _, .cons _ b => by rw [List.length_cons, List.length_cons, b.len]
theorem RDs.append : ∀ {ds es : List D} {vs ws : List V}, RDs G H T ds vs → RDs G H T es ws → RDs G H T (ds ++ es) (vs ++ ws)
  | _, _, _, _, .nil, h => h
  | _, _, _, _, .cons a b, h => .cons a (b.append h)
theorem RDs.get : ∀ {ds : List D} {vs : List V}, RDs G H T ds vs → ∀ {i : Nat} {d : D}, ds[i]? = some d → ∃ v, vs[i]? = some v ∧ RD G H T d v
  | _, _, .nil, _, _, h => by simp at h
  | _, _, .cons a _, 0, _, h => by simp at h; subst h; exact ⟨_, rfl, a⟩
  | _, _, .cons _ b, i + 1, _, h => by
    obtain ⟨v, h1, h2⟩ := b.get (i := i) (by simpa using h)
    exact ⟨v, by simpa using h1, h2⟩
theorem RDs.at : ∀ {ds : List D} {vs : List V}, RDs G H T ds vs → ∀ {i : Nat} {v : V}, vs[i]? = some v → ∃ d, ds[i]? = some d ∧ RD G H T d v
  | _, _, .nil, _, _, h => by simp at h
  | _, _, .cons a _, 0, _, h => by simp at h; subst h; exact ⟨_, rfl, a⟩
  | _, _, .cons _ b, i + 1, _, h => by
    obtain ⟨v, h1, h2⟩ := b.at (i := i) (by simpa using h)
    exact ⟨v, by simpa using h1, h2⟩
theorem RDs.take : ∀ {ds : List D} {vs : List V}, RDs G H T ds vs → ∀ n : Nat, RDs G H T (ds.take n) (vs.take n)
  | _, _, _, 0 => .nil
  | _, _, .nil, _ + 1 => .nil
  | _, _, .cons a b, n + 1 => .cons a (b.take n)
theorem RDs.drop : ∀ {ds : List D} {vs : List V}, RDs G H T ds vs → ∀ n : Nat, RDs G H T (ds.drop n) (vs.drop n)
  | _, _, h, 0 => h
  | _, _, .nil, _ + 1 => .nil
  | _, _, .cons _ b, n + 1 => b.drop n
theorem RDs.set : ∀ {ds : List D} {vs : List V}, RDs G H T ds vs → ∀ (i : Nat) {d : D} {v : V}, RD G H T d v → RDs G H T (ds.set i d) (vs.set i v)
  | _, _, .nil, _, _, _, _ => .nil
  | _, _, .cons _ b, 0, _, _, h => .cons h b
  | _, _, .cons a b, i + 1, _, _, h => .cons a (b.set i h)
theorem RDe.len : ∀ {ks ds : List D} {es : List DictEntry}, RDe G H T ks ds es → ks.length = es.length ∧ ds.length = es.length
  | _, _, _, .nil => ⟨rfl, rfl⟩
  | _, _, _, .cons _ _ _ _ _ f => ⟨by rw [List.length_cons, List.length_cons, f.len.1], by rw [List.length_cons, List.length_cons, f.len.2]⟩
end

theorem RD.tup_ {G : Cfg} {T : Addr → Prop} {H : Hp} {xs : List D} {v : V} (r : RD G H T (.tup xs) v) : ∃ a vs, v = .ref a ∧ SqT G.K H a vs ∧ vs.length ≤ sizeLine ∧ RDs G H T xs vs := by
  cases r with
  | tup a b c => exact ⟨_, _, rfl, a.sqt, b, c⟩
  | tupS a b _ c => exact ⟨_, _, rfl, a, b, c⟩
/-! ### values read as data -/
section
variable {X : Cx} {G : Cfg} {pins : List (Addr × Obj)} {σ : St} {H : Hp} {s : Shared} {T : Addr → Prop}
mutual
theorem RD.dp (hK : G.K = X.K) : ∀ (n : Nat) (d : D) (v : V), fits n d = true → RD G H T d v → Dp X.K H v (py d)
  | _, _, _, _, .non => .non
  | _, _, _, _, .bl b => .bl b
  | _, _, _, _, .int i => .int i
  | _, _, _, _, .str s _ => .str _
  | n, _, _, h, .tup a _ c => by
    cases n with
    | zero => simp [fits] at h
    | succ n =>
      rw [hK] at a
      simp only [py]
      exact .tup a.sqt (RDs.dp hK n _ _ (by simpa [fits] using h) c)
  | n, _, _, h, .tupS a _ _ c => by
    cases n with
    | zero => simp [fits] at h
    | succ n =>
      rw [hK] at a
      simp only [py]
      exact .tup a (RDs.dp hK n _ _ (by simpa [fits] using h) c)
  | n, _, _, h, .set _ _ _ => by cases n <;> simp [fits] at h
  | n, _, _, h, .lst a _ _ c => by
    cases n with
    | zero => simp [fits] at h
    | succ n =>
      simp only [py]
      exact .lst (.of a) (RDs.dp hK n _ _ (by simpa [fits] using h) c)
  | n, _, _, h, .scr _ _ _ => by cases n <;> simp [fits] at h
  | n, _, _, h, .dic _ _ _ _ => by cases n <;> simp [fits] at h
  | n, _, _, h, .fn _ => by cases n <;> simp [fits] at h
  | n, _, _, h, .cls _ => by cases n <;> simp [fits] at h
theorem RDs.dp (hK : G.K = X.K) : ∀ (n : Nat) (ds : List D) (vs : List V), fitsL n ds = true → RDs G H T ds vs → DpAll X.K H vs (pyL ds)
  | _, _, _, _, .nil => .nil
  | n, d :: ds, _, h, .cons a b => by
    have h1 : fits n d = true ∧ fitsL n ds = true := by simpa [fitsL] using h
    simp only [pyL]
    exact .cons (RD.dp hK n d _ h1.1 a) (RDs.dp hK n ds _ h1.2 b)
end
theorem RD.reads (I : Inv X pins σ H s) (hK : G.K = X.K) {n : Nat} {d : D} {v : V} {u : Value} (h : fits n d = true) (r : RD G H T d v) (rv : RelV v u) : ∃ as, Reads s.heap u (py d) as :=
  Dp.reads I _ _ _ (RD.dp hK n d v h r) rv
theorem RDs.reads (I : Inv X pins σ H s) (hK : G.K = X.K) {n : Nat} {ds : List D} {vs : List V} {us : List Value} (h : fitsL n ds = true) (r : RDs G H T ds vs) (rv : Vals vs us) : ∃ as, ReadsAll s.heap us (pyL ds) as :=
  Dp.readsAll I _ _ _ (RDs.dp hK n ds vs h r) rv
end
end Pe

set_option linter.all false
set_option maxRecDepth 100000
set_option maxHeartbeats 4000000
namespace Pe
open PySem PySem.Spec PyProof.Rows L2

/-! ### what may change -/
inductive Ob where
  | lst (xs : List D) | dic (ks vs : List D) | fz (d : D)
abbrev Hh := List Ob
/-- a value of the evaluator: data, or the n-th thing that may change -/
inductive W where
  | d (v : D) | r (n : Nat)
abbrev Sl := List (Option W)
def Ob.mut : Ob → Bool
  | .fz _ => false
  | _ => true
def Ob.val : Ob → D
  | .lst xs => .lst xs
  | .dic ks vs => .dic ks vs
  | .fz d => d
def Trk (τ : List Addr) (h : Hh) (a : Addr) : Prop := ∃ (i : Nat) (o : Ob), τ[i]? = some a ∧ h[i]? = some o ∧ o.mut = true
inductive ObAt (G : Cfg) (H : Hp) (T : Addr → Prop) : Ob → Addr → Prop
  | lst {a : Addr} {xs : List D} {vs : List V} : H a = some (.lst vs) → vs.length ≤ sizeLine → RDs G H T xs vs → ObAt G H T (.lst xs) a
  | dic {a : Addr} {ks vs : List D} {E : List DictEntry} : H a = some (dO a E) → (E.length ≤ sizeLine ∧ KOk ks) → RDe G H T ks vs E → ObAt G H T (.dic ks vs) a
  | fz {a : Addr} {d : D} : RD G H T d (.ref a) → ObAt G H T (.fz d) a
structure HR (G : Cfg) (H : Hp) (τ : List Addr) (h : Hh) : Prop where
  len : τ.length = h.length
  ob : ∀ (i : Nat) (a : Addr) (o : Ob), τ[i]? = some a → h[i]? = some o → ObAt G H (Trk τ h) o a
  inj : ∀ (i j : Nat) (a : Addr) (o u : Ob), τ[i]? = some a → τ[j]? = some a → h[i]? = some o → h[j]? = some u → o.mut = true → u.mut = true → i = j
inductive RW (G : Cfg) (H : Hp) (τ : List Addr) (h : Hh) : W → V → Prop
  | d {x : D} {v : V} : RD G H (Trk τ h) x v → RW G H τ h (.d x) v
  | r {n : Nat} {a : Addr} : τ[n]? = some a → RW G H τ h (.r n) (.ref a)
structure SR (G : Cfg) (H : Hp) (τ : List Addr) (h : Hh) (σa : Sl) (σ : St) : Prop where
  len : σa.length = σ.length
  at_ : ∀ (i : Nat) (w : W), σa[i]? = some (some w) → ∃ v, σ[i]? = some (some v) ∧ RW G H τ h w v
structure Ext (H : Hp) (τ : List Addr) (h : Hh) (H' : Hp) (τ' : List Addr) (h' : Hh) : Prop where
  g : Grow (Trk τ h) H (Trk τ' h') H'
  p : ∀ (i : Nat) (a : Addr), τ[i]? = some a → τ'[i]? = some a
  k : ∀ a, H a = some (.dK []) → H' a = some (.dK [])
section
variable {G : Cfg} {H H' H2 : Hp} {τ τ' τ2 : List Addr} {h h' h2 : Hh}
theorem Ext.refl : Ext H τ h H τ h := ⟨Grow.refl, fun _ _ e => e, fun _ e => e⟩
theorem Ext.trans (a : Ext H τ h H' τ' h') (b : Ext H' τ' h' H2 τ2 h2) : Ext H τ h H2 τ2 h2 := ⟨a.g.trans b.g, fun i c e => b.p i c (a.p i c e), fun c e => b.k c (a.k c e)⟩
theorem HR.noTup (R : HR G H τ h) : NoTup (Trk τ h) H := fun a ⟨i, o, e1, e2, m⟩ xs => by
  cases R.ob i a o e1 e2 with
  | lst e _ _ => exact ⟨fun q => (by rw [e] at q; cases q), fun _ _ q => (by rw [e] at q; cases q)⟩
  | dic e _ _ => exact ⟨fun q => (by rw [e] at q; cases q), fun _ _ q => (by rw [e] at q; cases q)⟩
  | fz _ => cases m
theorem HR.there (R : HR G H τ h) {a : Addr} (t : Trk τ h a) : H a ≠ none := by
  obtain ⟨i, o, e1, e2, m⟩ := t
  cases R.ob i a o e1 e2 with
  | lst e _ _ => rw [e]; simp
  | dic e _ _ => rw [e]; simp
  | fz _ => cases m
theorem RW.grow (R : HR G H τ h) (g : Ext H τ h H' τ' h') {w : W} {v : V} (r : RW G H τ h w v) : RW G H' τ' h' w v := by
  cases r with
  | d r => exact .d (r.grow R.noTup g.g)
  | r e => exact .r (g.p _ _ e)
theorem SR.grow (R : HR G H τ h) (g : Ext H τ h H' τ' h') {σa : Sl} {σ : St} (r : SR G H τ h σa σ) : SR G H' τ' h' σa σ :=
  ⟨r.len, fun i w e => let ⟨v, e1, e2⟩ := r.at_ i w e; ⟨v, e1, e2.grow R g⟩⟩
end

/-! ### results -/
inductive Rs (α : Type) where
  | ok (a : α) (h : Hh) | ex (c : Nat) (v : D) (h : Hh) | no
def Rs.bind {α β : Type} (r : Rs α) (f : α → Hh → Rs β) : Rs β := match r with
  | .ok a h => f a h
  | .ex c v h => .ex c v h
  | .no => .no
abbrev M := Sl → Hh → Rs W
/-- what a class's exceptions keep: the attribute's name -/
abbrev PnT := Nat → Option Str
def XRel (G : Cfg) (pn : PnT) (H : Hp) (T : Addr → Prop) (c : Nat) (x : D) (cls : Value) (d : Option Addr) : Prop :=
  cls = .ref (G.ca c) ∧ ((pn c = none ∧ x = .non) ∨ ∃ (dd : Addr) (nm : Str) (vv : V), pn c = some nm ∧ d = some dd ∧ H dd = some (.xd [(nm, vv)]) ∧ ¬ T dd ∧ RD G H T x vv)
/-- static context of the readings -/
structure Rg where
  G : Cfg
  pn : PnT
  W : WX
def Fin (g : Rg) (σ : St) (H : Hp) (τ : List Addr) (h : Hh) (r : Rs W) (Q : VK) : Prop := match r with
  | .ok w h' => ∀ τ' H' v, Ext H τ h H' τ' h' → HR g.G H' τ' h' → RW g.G H' τ' h' w v → Q v H'
  | .ex c x h' => ∀ τ' H' cls d, Ext H τ h H' τ' h' → HR g.G H' τ' h' → XRel g.G g.pn H' (Trk τ' h') c x cls d → g.W cls d σ H'
  | .no => False
def tE (g : Rg) (m : M) : TE := fun σ H Q => ∃ τ h σa, HR g.G H τ h ∧ SR g.G H τ h σa σ ∧ Fin g σ H τ h (m σa h) Q
/-- results of lists of expressions, of tests, .. -/
def FinP {α β : Type} (g : Rg) (rel : Hp → List Addr → Hh → α → β → Prop) (σ : St) (H : Hp) (τ : List Addr) (h : Hh) (r : Rs α) (Q : β → Hp → Prop) : Prop := match r with
  | .ok w h' => ∀ τ' H' v, Ext H τ h H' τ' h' → HR g.G H' τ' h' → rel H' τ' h' w v → Q v H'
  | .ex c x h' => ∀ τ' H' cls d, Ext H τ h H' τ' h' → HR g.G H' τ' h' → XRel g.G g.pn H' (Trk τ' h') c x cls d → g.W cls d σ H'
  | .no => False
inductive RWs (G : Cfg) (H : Hp) (τ : List Addr) (h : Hh) : List W → List V → Prop
  | nil : RWs G H τ h [] []
  | cons {w : W} {ws : List W} {v : V} {vs : List V} : RW G H τ h w v → RWs G H τ h ws vs → RWs G H τ h (w :: ws) (v :: vs)
theorem RWs.grow {G : Cfg} {H H' : Hp} {τ τ' : List Addr} {h h' : Hh} (R : HR G H τ h) (g : Ext H τ h H' τ' h') : ∀ {ws : List W} {vs : List V}, RWs G H τ h ws vs → RWs G H' τ' h' ws vs
  | _, _, .nil => .nil
  | _, _, .cons a b => .cons (a.grow R g) (b.grow R g)
theorem RWs.len {G : Cfg} {H : Hp} {τ : List Addr} {h : Hh} : ∀ {ws : List W} {vs : List V}, RWs G H τ h ws vs → ws.length = vs.length
  | _, _, .nil => rfl
  | _, _, .cons _ b => by rw [List.length_cons, List.length_cons, b.len]
def tAr (g : Rg) (m : Sl → Hh → Rs (List W)) : TA := fun σ H Q => ∃ τ h σa, HR g.G H τ h ∧ SR g.G H τ h σa σ ∧ FinP g (fun H' τ' h' => RWs g.G H' τ' h') σ H τ h (m σa h) Q
def tTs (g : Rg) (m : Sl → Hh → Rs Bool) : TT := fun σ H Q => ∃ τ h σa, HR g.G H τ h ∧ SR g.G H τ h σa σ ∧ FinP g (fun _ _ _ (a b : Bool) => a = b) σ H τ h (m σa h) Q
section
variable {g : Rg} {σ : St} {H : Hp} {τ : List Addr} {h : Hh} {σa : Sl}
/-- the state behind a step -/
structure Nxt (g : Rg) (σ : St) (σa : Sl) (H : Hp) (τ : List Addr) (h : Hh) (H1 : Hp) (τ1 : List Addr) (h1 : Hh) : Prop where
  e : Ext H τ h H1 τ1 h1
  r : HR g.G H1 τ1 h1
  s : SR g.G H1 τ1 h1 σa σ
/-- one step of many: a result's further way, from the state behind it -/
theorem Fin.ext {r : Rs W} {Q : VK} {H1 : Hp} {τ1 : List Addr} {h1 : Hh} (e : Ext H τ h H1 τ1 h1) (f : Fin g σ H τ h r Q) : Fin g σ H1 τ1 h1 r Q := by
  cases r with
  | ok w h' => exact fun τ' H' v e' => f τ' H' v (e.trans e')
  | ex c x h' => exact fun τ' H' cls d e' => f τ' H' cls d (e.trans e')
  | no => exact f
theorem FinP.ext {α β : Type} {rel : Hp → List Addr → Hh → α → β → Prop} {r : Rs α} {Q : β → Hp → Prop} {H1 : Hp} {τ1 : List Addr} {h1 : Hh} (e : Ext H τ h H1 τ1 h1) (f : FinP g rel σ H τ h r Q) : FinP g rel σ H1 τ1 h1 r Q := by
  cases r with
  | ok w h' => exact fun τ' H' v e' => f τ' H' v (e.trans e')
  | ex c x h' => exact fun τ' H' cls d e' => f τ' H' cls d (e.trans e')
  | no => exact f
theorem Fin.mono {r : Rs W} {Q Q' : VK} (f : Fin g σ H τ h r Q) (k : ∀ v H', Q v H' → Q' v H') : Fin g σ H τ h r Q' := by
  cases r with
  | ok w h' => exact fun τ' H' v a b c => k _ _ (f τ' H' v a b c)
  | ex c x h' => exact f
  | no => exact f
/-- an expression's reading, then more: r.bind f ends so -/
theorem tE.step {m : M} {β δ : Type} {rel : Hp → List Addr → Hh → β → δ → Prop} {f : W → Hh → Rs β} {Q : δ → Hp → Prop} (R : HR g.G H τ h) (S : SR g.G H τ h σa σ) (F : FinP g rel σ H τ h ((m σa h).bind f) Q)
    {Q1 : VK} (k : ∀ H1 τ1 h1 w v, Nxt g σ σa H τ h H1 τ1 h1 → RW g.G H1 τ1 h1 w v → FinP g rel σ H1 τ1 h1 (f w h1) Q → Q1 v H1) : tE g m σ H Q1 := by
  refine ⟨τ, h, σa, R, S, ?_⟩
  cases e : m σa h with
  | ok w h' =>
    rw [e] at F
    exact fun τ' H' v a b c => k H' τ' h' w v ⟨a, b, S.grow R a⟩ c (FinP.ext a F)
  | ex c x h' => rw [e] at F; exact F
  | no => rw [e] at F; exact F
theorem tAr.step {m : Sl → Hh → Rs (List W)} {β δ : Type} {rel : Hp → List Addr → Hh → β → δ → Prop} {f : List W → Hh → Rs β} {Q : δ → Hp → Prop} (R : HR g.G H τ h) (S : SR g.G H τ h σa σ) (F : FinP g rel σ H τ h ((m σa h).bind f) Q)
    {Q1 : List V → Hp → Prop} (k : ∀ H1 τ1 h1 w v, Nxt g σ σa H τ h H1 τ1 h1 → RWs g.G H1 τ1 h1 w v → FinP g rel σ H1 τ1 h1 (f w h1) Q → Q1 v H1) : tAr g m σ H Q1 := by
  refine ⟨τ, h, σa, R, S, ?_⟩
  cases e : m σa h with
  | ok w h' =>
    rw [e] at F
    exact fun τ' H' v a b c => k H' τ' h' w v ⟨a, b, S.grow R a⟩ c (FinP.ext a F)
  | ex c x h' => rw [e] at F; exact F
  | no => rw [e] at F; exact F
theorem tTs.step {m : Sl → Hh → Rs Bool} {β δ : Type} {rel : Hp → List Addr → Hh → β → δ → Prop} {f : Bool → Hh → Rs β} {Q : δ → Hp → Prop} (R : HR g.G H τ h) (S : SR g.G H τ h σa σ) (F : FinP g rel σ H τ h ((m σa h).bind f) Q)
    {Q1 : Bool → Hp → Prop} (k : ∀ H1 τ1 h1 w, Nxt g σ σa H τ h H1 τ1 h1 → FinP g rel σ H1 τ1 h1 (f w h1) Q → Q1 w H1) : tTs g m σ H Q1 := by
  refine ⟨τ, h, σa, R, S, ?_⟩
  cases e : m σa h with
  | ok w h' =>
    rw [e] at F
    intro τ' H' v a b c
    cases c
    exact k H' τ' h' w ⟨a, b, S.grow R a⟩ (FinP.ext a F)
  | ex c x h' => rw [e] at F; exact F
  | no => rw [e] at F; exact F
theorem fin_P {r : Rs W} {Q : VK} : Fin g σ H τ h r Q ↔ FinP g (fun H' τ' h' => RW g.G H' τ' h') σ H τ h r Q := by cases r <;> exact Iff.rfl
end
/-- a weaker reading -/
theorem pe_weak {X : Cx} {e : Expr} {t t' : TE} (p : PE X e t) (k : ∀ σ H Q, t' σ H Q → t σ H Q) : PE X e t' := ⟨fun pins s σ H Q I hq => p.run pins s σ H Q I (k σ H Q hq)⟩
theorem pt_weak {X : Cx} {e : Expr} {t t' : TT} (p : PT X e t) (k : ∀ σ H Q, t' σ H Q → t σ H Q) : PT X e t' := ⟨fun pins s σ H Q I hq => p.run pins s σ H Q I (k σ H Q hq)⟩
theorem pa_weak {X : Cx} {e : List Expr} {t t' : TA} (p : PA X e t) (k : ∀ σ H Q, t' σ H Q → t σ H Q) : PA X e t' := ⟨fun pos pins s σ H Q I hq => p.run pos pins s σ H Q I (k σ H Q hq)⟩
theorem ps_weak {X : Cx} {e : Stmt} {t t' : TS} (p : PS X e t) (k : ∀ D σ H, t' D σ H → t D σ H) : PS X e t' := ⟨fun pins s σ H D I hq => p.run pins s σ H D I (k D σ H hq)⟩
theorem pss_weak {X : Cx} {e : List Stmt} {t t' : TS} (p : PSs X e t) (k : ∀ D σ H, t' D σ H → t D σ H) : PSs X e t' := ⟨fun pins s σ H D I hq => p.run pins s σ H D I (k D σ H hq)⟩
end Pe

set_option linter.all false
set_option maxRecDepth 100000
set_option maxHeartbeats 4000000
namespace Pe
open PySem PySem.Spec PyProof.Rows L2

/-! ### the heap's moves -/
section
variable {G : Cfg} {H H' : Hp} {τ : List Addr} {h : Hh} {T T' : Addr → Prop}
theorem RD.less (n : NoTup T H) (l : ∀ a, T' a → T a) {d : D} {v : V} (r : RD G H T d v) : RD G H T' d v := r.grow n ⟨fun _ _ e _ _ => e, fun a t => .inl (l a t)⟩
theorem RDs.less (n : NoTup T H) (l : ∀ a, T' a → T a) {d : List D} {v : List V} (r : RDs G H T d v) : RDs G H T' d v := r.grow n ⟨fun _ _ e _ _ => e, fun a t => .inl (l a t)⟩
theorem RDe.less (n : NoTup T H) (l : ∀ a, T' a → T a) {ks d : List D} {v : List DictEntry} (r : RDe G H T ks d v) : RDe G H T' ks d v := r.grow n ⟨fun _ _ e _ _ => e, fun a t => .inl (l a t)⟩
theorem ObAt.grow (n : NoTup T H) (g : Grow T H T' H') {o : Ob} {a : Addr} (k : H' a = H a) (x : ObAt G H T o a) : ObAt G H' T' o a := by
  cases x with
  | lst e z r => exact .lst (k.trans e) z (r.grow n g)
  | dic e z r => exact .dic (k.trans e) z (r.grow n g)
  | fz r => exact .fz (r.grow n g)
/-- a new thing that changes nothing of what stands (a tuple, ..) -/
theorem HR.beside (R : HR G H τ h) {p : Addr} {o : HO} (n : H p = none) : Ext H τ h (upd H p o) τ h ∧ HR G (upd H p o) τ h := by
  have g : Grow (Trk τ h) H (Trk τ h) (upd H p o) := ⟨fun a u e _ _ => by rw [upd_ne (ne_of_none e n)]; exact e, fun _ t => .inl t⟩
  refine ⟨⟨g, fun _ _ e => e, fun a e => by rw [upd_ne (ne_of_none e n)]; exact e⟩, R.len, fun i a u e1 e2 => ?_, R.inj⟩
  have x := R.ob i a u e1 e2
  cases x with
  | lst e z r => exact .lst (by rw [upd_ne (ne_of_none e n)]; exact e) z (r.grow R.noTup g)
  | dic e z r => exact .dic (by rw [upd_ne (ne_of_none e n)]; exact e) z (r.grow R.noTup g)
  | fz r => exact .fz (r.grow R.noTup g)
theorem trk_push {p : Addr} {o : Ob} (hl : τ.length = h.length) {a : Addr} : Trk (τ ++ [p]) (h ++ [o]) a → Trk τ h a ∨ a = p := by
  rintro ⟨i, u, e1, e2, m⟩
  by_cases hi : i < τ.length
  · rw [List.getElem?_append_left hi] at e1
    rw [List.getElem?_append_left (by omega)] at e2
    exact .inl ⟨i, u, e1, e2, m⟩
  · rw [List.getElem?_append_right (by omega)] at e1
    cases q : i - τ.length with
    | zero => rw [q] at e1; simp at e1; exact .inr e1.symm
    | succ k => rw [q] at e1; simp at e1
theorem trk_old {p : Addr} {o : Ob} {a : Addr} : Trk τ h a → Trk (τ ++ [p]) (h ++ [o]) a := by
  rintro ⟨i, u, e1, e2, m⟩
  refine ⟨i, u, ?_, ?_, m⟩
  · rw [List.getElem?_append_left (List.getElem?_eq_some_iff.mp e1).1]; exact e1
  · rw [List.getElem?_append_left (List.getElem?_eq_some_iff.mp e2).1]; exact e2
/-- a new thing that may change -/
theorem HR.adopt (R : HR G H τ h) {p : Addr} {o : Ob} {u : HO} (n : ∀ o, H p = some o → ¬ nK o) (hu : ∀ xs, u ≠ .tup xs) (x : ObAt G (upd H p u) (Trk (τ ++ [p]) (h ++ [o])) o p) :
    Grow (Trk τ h) H (Trk (τ ++ [p]) (h ++ [o])) (upd H p u) ∧ (∀ (i : Nat) (a : Addr), τ[i]? = some a → (τ ++ [p])[i]? = some a) ∧ HR G (upd H p u) (τ ++ [p]) (h ++ [o]) ∧ RW G (upd H p u) (τ ++ [p]) (h ++ [o]) (.r h.length) (.ref p) := by
  have hp : ¬ Trk τ h p := by
    rintro ⟨i, w, e1, e2, m⟩
    cases R.ob i p w e1 e2 with
    | lst e _ _ => exact n _ e trivial
    | dic e _ _ => exact n _ e trivial
    | fz _ => cases m
  have off : ∀ {a : Addr} {v : HO}, H a = some v → nK v → a ≠ p := fun e k z => n _ (by rw [← z]; exact e) k
  have g : Grow (Trk τ h) H (Trk (τ ++ [p]) (h ++ [o])) (upd H p u) := ⟨fun a v e k _ => by rw [upd_ne (off e k)]; exact e, fun a t => (trk_push R.len t).imp id fun e => by rw [e]; exact n⟩
  refine ⟨g, fun i a e => by rw [List.getElem?_append_left (List.getElem?_eq_some_iff.mp e).1]; exact e, ⟨by rw [List.length_append, List.length_append, R.len]; rfl, fun i a v e1 e2 => ?_, fun i j a v v' e1 e2 e3 e4 m m' => ?_⟩, .r (by rw [← R.len]; simp)⟩
  · by_cases hi : i < τ.length
    · rw [List.getElem?_append_left hi] at e1
      rw [List.getElem?_append_left (by rw [← R.len]; exact hi)] at e2
      cases R.ob i a v e1 e2 with
      | lst e z r => exact .lst (by rw [upd_ne (off e trivial)]; exact e) z (r.grow R.noTup g)
      | dic e z r => exact .dic (by rw [upd_ne (off e trivial)]; exact e) z (r.grow R.noTup g)
      | fz r => exact .fz (r.grow R.noTup g)
    · have z1 : i = τ.length := by
        have := (List.getElem?_eq_some_iff.mp e1).1
        rw [List.length_append, List.length_singleton] at this
        omega
      subst z1
      rw [List.getElem?_append_right (Nat.le_refl _)] at e1
      rw [R.len, List.getElem?_append_right (Nat.le_refl _)] at e2
      simp at e1 e2
      subst e1; subst e2
      exact x
  · have side : ∀ {k : Nat} {b : Addr} {q : Ob}, (τ ++ [p])[k]? = some b → (h ++ [o])[k]? = some q → q.mut = true → (k < τ.length ∧ τ[k]? = some b ∧ h[k]? = some q) ∨ (k = τ.length ∧ b = p) := fun {k b q} f1 f2 _ => by
      by_cases hk : k < τ.length
      · rw [List.getElem?_append_left hk] at f1
        rw [List.getElem?_append_left (by rw [← R.len]; exact hk)] at f2
        exact .inl ⟨hk, f1, f2⟩
      · have z1 : k = τ.length := by
          have := (List.getElem?_eq_some_iff.mp f1).1
          rw [List.length_append, List.length_singleton] at this
          omega
        subst z1
        rw [List.getElem?_append_right (Nat.le_refl _)] at f1
        simp at f1
        exact .inr ⟨rfl, f1.symm⟩
    rcases side e1 e3 m with ⟨_, q1, q2⟩ | ⟨q1, q2⟩
    · rcases side e2 e4 m' with ⟨_, q3, q4⟩ | ⟨q3, q4⟩
      · exact R.inj i j a v v' q1 q3 q2 q4 m m'
      · subst q4; exact absurd ⟨i, v, q1, q2, m⟩ hp
    · rcases side e2 e4 m' with ⟨_, q3, q4⟩ | ⟨q3, q4⟩
      · subst q2; exact absurd ⟨j, v', q3, q4, m'⟩ hp
      · omega
theorem HR.alloc (R : HR G H τ h) {p : Addr} {o : Ob} {u : HO} (n : H p = none) (hu : ∀ xs, u ≠ .tup xs) (x : ObAt G (upd H p u) (Trk (τ ++ [p]) (h ++ [o])) o p) :
    Ext H τ h (upd H p u) (τ ++ [p]) (h ++ [o]) ∧ HR G (upd H p u) (τ ++ [p]) (h ++ [o]) ∧ RW G (upd H p u) (τ ++ [p]) (h ++ [o]) (.r h.length) (.ref p) := by
  obtain ⟨a, b, c, d⟩ := R.adopt (fun o e => by rw [n] at e; cases e) hu x
  exact ⟨⟨a, b, fun q e => by rw [upd_ne (ne_of_none e n)]; exact e⟩, c, d⟩
/-- things forgotten -/
theorem trk_take {n : Nat} {a : Addr} : Trk (τ.take n) (h.take n) a → Trk τ h a := by
  rintro ⟨i, u, e1, e2, m⟩
  refine ⟨i, u, ?_, ?_, m⟩
  · rw [List.getElem?_take] at e1; split at e1; exact e1; cases e1
  · rw [List.getElem?_take] at e2; split at e2; exact e2; cases e2
theorem HR.take (R : HR G H τ h) (n : Nat) : HR G H (τ.take n) (h.take n) := by
  have l : ∀ {i : Nat} {α : Type} {xs : List α} {x : α}, (xs.take n)[i]? = some x → xs[i]? = some x := fun e => by
    rw [List.getElem?_take] at e; split at e; exact e; cases e
  have g : Grow (Trk τ h) H (Trk (τ.take n) (h.take n)) H := ⟨fun _ _ e _ _ => e, fun a t => .inl (trk_take t)⟩
  refine ⟨by rw [List.length_take, List.length_take, R.len], fun i a o e1 e2 => (R.ob i a o (l e1) (l e2)).grow R.noTup g rfl, fun i j a o u e1 e2 e3 e4 => R.inj i j a o u (l e1) (l e2) (l e3) (l e4)⟩
theorem Ext.take {H0 : Hp} {τ0 : List Addr} {h0 : Hh} (e : Ext H0 τ0 h0 H τ h) {n : Nat} (hn : τ0.length ≤ n) : Ext H0 τ0 h0 H (τ.take n) (h.take n) :=
  ⟨⟨e.g.keep, fun a t => e.g.new a (trk_take t)⟩, (fun i a q => by
    rw [List.getElem?_take, if_pos (Nat.lt_of_lt_of_le (List.getElem?_eq_some_iff.mp q).1 hn)]; exact e.p i a q), e.k⟩
/-- a thing changes no more -/
theorem trk_fz {n : Nat} {d : D} {a : Addr} : Trk τ (h.set n (.fz d)) a → Trk τ h a := by
  rintro ⟨i, u, e1, e2, m⟩
  by_cases hi : n = i
  · subst hi
    rw [List.getElem?_set] at e2
    simp only [if_true] at e2
    split at e2
    · cases e2; cases m
    · cases e2
  · rw [List.getElem?_set_ne hi] at e2
    exact ⟨i, u, e1, e2, m⟩
theorem trk_fz_not {n : Nat} {d : D} {a : Addr} {o : Ob} (R : HR G H τ h) (e1 : τ[n]? = some a) (e2 : h[n]? = some o) (m : o.mut = true) : ¬ Trk τ (h.set n (.fz d)) a := by
  rintro ⟨i, u, q1, q2, m'⟩
  by_cases hi : n = i
  · subst hi
    rw [List.getElem?_set] at q2
    simp only [if_true] at q2
    split at q2
    · cases q2; cases m'
    · cases q2
  · rw [List.getElem?_set_ne hi] at q2
    exact hi (R.inj n i a o u e1 q1 e2 q2 m m')
theorem HR.freeze (R : HR G H τ h) {n : Nat} {a : Addr} {o : Ob} (e1 : τ[n]? = some a) (e2 : h[n]? = some o) :
    Ext H τ h H τ (h.set n (.fz o.val)) ∧ HR G H τ (h.set n (.fz o.val)) ∧ RD G H (Trk τ (h.set n (.fz o.val))) o.val (.ref a) := by
  have g : Grow (Trk τ h) H (Trk τ (h.set n (.fz o.val))) H := ⟨fun _ _ e _ _ => e, fun b t => .inl (trk_fz t)⟩
  have main : RD G H (Trk τ (h.set n (.fz o.val))) o.val (.ref a) := by
    cases q : R.ob n a o e1 e2 with
    | lst e z r => exact .lst e (trk_fz_not R e1 e2 rfl) z (r.grow R.noTup g)
    | dic e z r => exact .dic e (trk_fz_not R e1 e2 rfl) z (r.grow R.noTup g)
    | fz r => exact r.grow R.noTup g
  refine ⟨⟨g, fun _ _ e => e, fun _ e => e⟩, ⟨by rw [List.length_set]; exact R.len, fun i b u q1 q2 => ?_, fun i j b u v q1 q2 q3 q4 m1 m2 => ?_⟩, main⟩
  · by_cases hi : n = i
    · subst hi
      rw [e1] at q1; cases q1
      rw [List.getElem?_set_self (List.getElem?_eq_some_iff.mp e2).1] at q2; cases q2
      exact .fz main
    · rw [List.getElem?_set_ne hi] at q2
      exact (R.ob i b u q1 q2).grow R.noTup g rfl
  · have back : ∀ {k : Nat} {x : Ob}, (h.set n (.fz o.val))[k]? = some x → x.mut = true → h[k]? = some x := fun {k x} f m => by
      by_cases hk : n = k
      · subst hk
        rw [List.getElem?_set_self (List.getElem?_eq_some_iff.mp e2).1] at f; cases f; cases m
      · rw [List.getElem?_set_ne hk] at f; exact f
    exact R.inj i j b u v q1 q2 (back q3 m1) (back q4 m2) m1 m2
/-- a thing is changed in place -/
theorem HR.change (R : HR G H τ h) {n : Nat} {a : Addr} {o o' : Ob} {u' : HO} (e1 : τ[n]? = some a) (e2 : h[n]? = some o) (m : o.mut = true) (m' : o'.mut = true) (hx : ∀ H1 T1, Grow (Trk τ h) H T1 H1 → H1 a = some u' → ObAt G H1 T1 o' a) :
    Ext H τ h (upd H a u') τ (h.set n o') ∧ HR G (upd H a u') τ (h.set n o') := by
  have tt : ∀ {b : Addr}, Trk τ (h.set n o') b → Trk τ h b := by
    rintro b ⟨i, v, q1, q2, m2⟩
    by_cases hi : n = i
    · subst hi
      rw [e1] at q1; cases q1
      exact ⟨n, o, e1, e2, m⟩
    · rw [List.getElem?_set_ne hi] at q2
      exact ⟨i, v, q1, q2, m2⟩
  have ta : Trk τ h a := ⟨n, o, e1, e2, m⟩
  have g : Grow (Trk τ h) H (Trk τ (h.set n o')) (upd H a u') := ⟨fun b v e _ nt => by rw [upd_ne (fun z => nt (by rw [z]; exact ta))]; exact e, fun b t => .inl (tt t)⟩
  have na : H a ≠ some (.dK []) := fun z => by
    cases R.ob n a o e1 e2 with
    | lst q _ _ => rw [q] at z; cases z
    | dic q _ _ => rw [q] at z; cases z
    | fz _ => cases m
  refine ⟨⟨g, fun _ _ e => e, fun b e => by rw [upd_ne (fun z => na (by rw [← z]; exact e))]; exact e⟩, ⟨by rw [List.length_set]; exact R.len, fun i b v q1 q2 => ?_, fun i j b v w q1 q2 q3 q4 m1 m2 => ?_⟩⟩
  · by_cases hi : n = i
    · subst hi
      rw [e1] at q1; cases q1
      rw [List.getElem?_set_self (List.getElem?_eq_some_iff.mp e2).1] at q2; cases q2
      exact hx _ _ g upd_same
    · rw [List.getElem?_set_ne hi] at q2
      have hb : v.mut = true → b ≠ a := fun mv z => hi (R.inj n i a o v e1 (by rw [← z]; exact q1) e2 q2 m mv)
      cases R.ob i b v q1 q2 with
      | lst e z r => exact .lst (by rw [upd_ne (hb rfl)]; exact e) z (r.grow R.noTup g)
      | dic e z r => exact .dic (by rw [upd_ne (hb rfl)]; exact e) z (r.grow R.noTup g)
      | fz r => exact .fz (r.grow R.noTup g)
  · have back : ∀ {k : Nat} {x : Ob}, (h.set n o')[k]? = some x → x.mut = true → ∃ y, h[k]? = some y ∧ y.mut = true := fun {k x} f mx => by
      by_cases hk : n = k
      · subst hk; exact ⟨o, e2, m⟩
      · rw [List.getElem?_set_ne hk] at f; exact ⟨x, f, mx⟩
    obtain ⟨y1, a1, b1⟩ := back q3 m1
    obtain ⟨y2, a2, b2⟩ := back q4 m2
    exact R.inj i j b y1 y2 q1 q2 a1 a2 b1 b2
end
end Pe

set_option linter.all false
set_option maxRecDepth 100000
set_option maxHeartbeats 4000000
namespace Pe
open PySem PySem.Spec PyProof.Rows L2 HT
/-! ### rules that make tuples, the object told wholly -/
section
variable {X : Cx} {es : List Expr} {pos : Pos}
def tTupX (t : TA) : TE := fun σ H Q => t σ H fun xs H1 => xs.length ≤ sizeLine ∧ ∀ p its, H1 p = none → Q (.ref p) (upd H1 p (xT its xs))
theorem pe_tupX {x1 : Nat} {t : TA} (h : PA X es t) : PE X (.Tuple es x1 pos) (tTupX t) := by
  refine ⟨fun pins s σ H Q I hq => ?_⟩
  refine wpAny_Tuple_spliced (thn (h.run pos pins s σ H _ I hq) fun us s1 ⟨xs, H1, I1, r, z, q⟩ => ⟨by rw [← r.length]; exact z, ?_⟩)
  have hf : H1 s1.heap.objs.size = none := I1.hok.fresh (Nat.le_refl _)
  refine ⟨.ref s1.heap.objs.size, upd H1 s1.heap.objs.size (xT us.toArray xs), I1.laid (t' := s1.toks) (fun b u e => Heap.get?_push_of_some _ e) (Nat.le_refl _) ?_, rfl, q _ _ hf⟩
  exact ⟨Heap.get?_push_size _ rfl, z, us, r, ⟨_, Heap.get?_push_size _ rfl, rfl, _, rfl⟩⟩
def rCatX (K : PySem.W.Frag) : R2 := fun x y H Q => ∃ a b xs ys, x = .ref a ∧ y = .ref b ∧ SqT K H a xs ∧ SqT K H b ys ∧ xs.length + ys.length ≤ sizeLine ∧
  (xs = [] → Q (.ref b) H) ∧ (xs ≠ [] → ys = [] → Q (.ref a) H) ∧ (xs ≠ [] → ys ≠ [] → ∀ p its, H p = none → Q (.ref p) (upd H p (xT its (xs ++ ys))))
theorem op_catX : OpR X (binaryOp .Add) (rCatX X.K) := by
  intro pins s σ H x y v u Q I rx ry h
  obtain ⟨a, b, xs, ys, rfl, rfl, ha, hb, hz, q0, q1, q2⟩ := h
  cases rx
  cases ry
  obtain ⟨its, r1, p1, _⟩ := I.tuple ha
  obtain ⟨its2, r2, p2, _⟩ := I.tuple hb
  by_cases hx : xs = []
  · subst hx
    cases r1
    exact cat_tup0 p1 p2 ⟨.ref b, H, I, rfl, q0 rfl⟩
  · refine HT.cat_tup p1 p2 (fun z => hx (r1.nil_iff.mp z)) (fun z => ⟨.ref a, H, I, rfl, q1 hx (r2.nil_iff.mp z)⟩) (fun z => ?_) (by rw [← r1.length, ← r2.length]; exact hz)
    refine ⟨.ref s.heap.objs.size, _, I.laid (t' := s.toks) (o := xT (its ++ its2).toArray (xs ++ ys)) (fun b ob q => Heap.get?_push_of_some _ q) (Nat.le_refl _) ?_, rfl, q2 hx (fun w => z (r2.nil_iff.mpr w)) _ _ (I.hok.fresh (Nat.le_refl _))⟩
    exact ⟨by first | exact Heap.get?_push_size _ rfl | (rw [List.append_toArray] <;> exact Heap.get?_push_size _ rfl), by rw [List.length_append]; exact hz, _, r1.append r2, IsTup.new _ _⟩
def rSlX (K : PySem.W.Frag) : V → Option Int → Option Int → Hp → VK → Prop := fun x lo hi H Q => ∃ a xs, x = .ref a ∧ SqT K H a xs ∧
  (HT.sIx xs.length 0 lo = 0 ∧ HT.sIx xs.length xs.length hi = xs.length → Q (.ref a) H) ∧ (¬ (HT.sIx xs.length 0 lo = 0 ∧ HT.sIx xs.length xs.length hi = xs.length) → ∀ p its, H p = none → Q (.ref p) (upd H p (xT its (cutV xs lo hi))))
theorem sl_tupX : SlR X (rSlX X.K) := by
  intro pins s σ H x v vl vu lo hi sl Q I rx hs pl pu h
  obtain ⟨a, xs, rfl, hx, q1, q2⟩ := h
  cases rx
  obtain ⟨its, r, ht, hz⟩ := I.tuple hx
  have hlen : its.toArray.size = xs.length := by rw [List.size_toArray]; exact r.length.symm
  refine ⟨"tuple", _, PyProof.Rows.slot_tuple_getitem.lookup, ht.typeIs, ?_⟩
  by_cases hw : HT.sIx xs.length 0 lo = 0 ∧ HT.sIx xs.length xs.length hi = xs.length
  · exact getItem_tuple_whole ht hs pl pu (by rw [hlen]; exact hw) ⟨.ref a, H, I, rfl, q1 hw⟩
  · refine HT.getItem_tuple_cut ht hs pl pu (by rw [hlen]; exact hw) ?_ (by rw [hlen]; exact hz)
    rw [hlen]
    refine ⟨.ref s.heap.objs.size, _, I.laid (t' := s.toks) (o := xT ((its.drop (HT.sIx xs.length 0 lo)).take (HT.sIx xs.length xs.length hi - HT.sIx xs.length 0 lo)).toArray (cutV xs lo hi)) (fun b ob q => Heap.get?_push_of_some _ q) (Nat.le_refl _) ?_, rfl, q2 hw _ _ (I.hok.fresh (Nat.le_refl _))⟩
    exact ⟨Heap.get?_push_size _ rfl, Nat.le_trans (cutV_length xs lo hi) hz, _, (r.drop (HT.sIx xs.length 0 lo)).take (HT.sIx xs.length xs.length hi - HT.sIx xs.length 0 lo), IsTup.new _ _⟩
theorem call_tupleX : CallR X (.type "tuple") (fun xs H Q => ∃ p ys, xs = [.ref p] ∧ ((SqL X.K H p ys ∧ ∀ l its, H l = none → Q (.ref l) (upd H l (xT its ys))) ∨ (SqT X.K H p ys ∧ Q (.ref p) H))) := by
  intro pins s σ H xs us Q I r h
  obtain ⟨p, ys, rfl, h⟩ := h
  obtain ⟨u, rfl, rx⟩ := vals1 r
  cases rx
  rcases h with ⟨hq, q⟩ | ⟨hq, q⟩
  · obtain ⟨its, r', pl, hz⟩ := I.list hq
    have hlen := r'.length
    refine call_tuple_list pl.isList (fun h' kp => ?_) (by simp only [List.size_toArray] <;> omega)
    have I1 : Inv X pins σ H { s with heap := h' } := I.kept (t' := s.toks) kp
    have I2 : Inv X pins σ (upd H h'.objs.size (xT its.toArray ys)) { s with heap := h'.push { cls := .type "tuple", data := .seq its.toArray } } :=
      I1.laid (t' := s.toks) (fun b o e => Heap.get?_push_of_some _ e) (Nat.le_refl _) (show ObjOk X.prog X.w _ _ _ (xT its.toArray ys) from ⟨Heap.get?_push_size _ rfl, hz, its, r', IsTup.new _ _⟩)
    exact ⟨.ref h'.objs.size, _, I2, rfl, q _ _ (I1.hok.fresh (Nat.le_refl _))⟩
  · obtain ⟨its, r', pl, hz⟩ := I.tuple hq
    exact call_tuple_same pl ⟨.ref p, H, I, rfl, q⟩
def tTupRgX (te : St → Hp → (Int → Int → Hp → Prop) → Prop) : TE := fun σ H Q => te σ H fun a b H1 => RgOk a b ∧ ∀ p its, H1 p = none → Q (.ref p) (upd H1 p (xT its (rgV a b)))
theorem pe_tupRgX {e : Expr} {te : St → Hp → (Int → Int → Hp → Prop) → Prop} {p pos : Pos} (hc : X.calm = true) (hg : Gl X "tuple") (hm : X.mg "tuple" = none) (he : PRg X e te) (na : starEach [e] X.env = (false, eval e X.env) :: starEach [] X.env) : PE X (.Call (.Name "tuple" p) [e] [] pos) (tTupRgX te) := by
  refine ⟨fun pins s σ H Q I h => ?_⟩
  refine Call_ (ld_blt I hg hm boot_tuple (PyProof.Rows.callWith_type1 (args_cons (thn (he pins s σ H _ I h) fun x s1 ⟨r, a, b, t, u, v, H1, ex, hr, I1, ok, q⟩ => args_nil ?_) na) na))
  subst ex
  obtain ⟨b1, b2, b3, b4, b5⟩ := ok
  refine call_tuple_range (n := (b - a).toNat) (I1.ok.hd hc) hr (small_one b1 b2 b3 b4) (rangeSize_nat a b) b5 fun h' tk acc hk hi => ?_
  have I2 : Inv X pins σ H1 { s1 with heap := h', toks := tk } := I1.kept hk
  refine ⟨.ref h'.objs.size, upd H1 h'.objs.size (xT acc (rgV a b)), I2.laid (t' := tk) (fun c o e => Heap.get?_push_of_some _ e) (Nat.le_refl _) (show ObjOk X.prog X.w _ _ _ (xT acc (rgV a b)) from ⟨Heap.get?_push_size _ rfl, ?_, acc.toList, vals_rg hi, ?_⟩), rfl, q _ _ (I2.hok.fresh (Nat.le_refl _))⟩
  · rw [rgV_length, sizeLine_eq]; omega
  · rw [Array.toArray_toList]; exact IsTup.new _ _
def rRepX (K : PySem.W.Frag) : R2 := fun x y H Q => ∃ l k xs, x = .ref l ∧ y = .int k ∧ SqT K H l xs ∧ xs ≠ [] ∧ 2 ≤ k ∧ k ≤ 1000 ∧ xs.length ≤ 1000 ∧ ∀ p its, H p = none → Q (.ref p) (upd H p (xT its (List.replicate k.toNat xs).flatten))
theorem op_repX : OpR X (binaryOp .Mult) (rRepX X.K) := by
  intro pins s σ H x y v u Q I rx ry h
  obtain ⟨l, k, xs, rfl, rfl, hT, hne, h1, h2, hz, q⟩ := h
  cases rx
  obtain ⟨t, rfl⟩ := ry
  obtain ⟨its, r, ⟨⟨cls, dd, data, sl⟩, ho, hc, n, hd⟩, hs⟩ := I.tuple hT
  simp only at hc hd
  subst hc hd
  have hle : its.length = xs.length := r.length.symm
  have hn : its ≠ [] := fun e => hne (by
    rw [e] at hle
    exact List.eq_nil_of_length_eq_zero hle.symm)
  have hi : its.toArray.isEmpty = false := by
    cases its with
    | nil => exact absurd rfl hn
    | cons a b => rfl
  have hsz0 : its.toArray.size = xs.length := by rw [List.size_toArray, hle]
  have hm : ((its.toArray.size : Nat) : Int) * k ≤ 1000000 := by
    rw [hsz0]
    have a1 : ((xs.length : Nat) : Int) * k ≤ 1000 * k := Int.mul_le_mul_of_nonneg_right (by omega) (by omega)
    omega
  have flen : (List.replicate k.toNat its).flatten.length ≤ sizeLine := by
    rw [PyProof.Rows.lm_len_rep_flat, hle, sizeLine_eq]
    have a1 : k.toNat * xs.length ≤ 1000 * 1000 := Nat.mul_le_mul (by omega) hz
    omega
  have c0 : (decide (k < -(2 ^ 63)) || decide (k ≥ 2 ^ 63)) = false := by
    rw [decide_eq_false (by omega), decide_eq_false (by omega)] <;> rfl
  have c1 : (its.toArray.isEmpty || k == 1) = false := by
    rw [hi, Bool.false_or]
    exact beq_eq_false_iff_ne.mpr (by omega)
  have c2 : (decide (k ≤ 0) || its.toArray.isEmpty) = false := by
    rw [hi, Bool.or_false]
    exact decide_eq_false (by omega)
  have c4 : Builtin.Tuple.tupleTooMany (((its.toArray.size : Nat) : Int) * k) = false := by
    unfold Builtin.Tuple.tupleTooMany
    rw [sizeLine_eq]
    exact decide_eq_false (by omega)
  refine wpAny_binaryOp_repeat_ref (T := "tuple") (U := "int") (by decide) ⟨_, ho, rfl⟩ (fun s' => typeIs_int s' k t) noFill_tuple_mul F.fills_int_mul F.slot_int_rmul repeat_tuple F.slot_int_index.lookup
    (call_meets F.slot_int_rmul (typeIs_int s k t) F.entry_int_rmul (F.args_int_rmul_2 _ _) (int_rmul_tuple k t l its.toArray n dd sl)
      ⟨ho, rfl, ⟨_, ho, rfl⟩, call_meets F.slot_tuple_mul ⟨_, ho, rfl⟩ F.entry_tuple_mul (F.args_tuple_mul_2 _ _) (tuple_mulW l its.toArray n dd sl k t c0 c1 c2 (by omega) c4 (by rw [size_rep, List.size_toArray]; exact flen)) ⟨ho, ?_⟩⟩)
  rw [size_rep]
  refine ⟨.ref s.heap.objs.size, _, I.laid (t' := s.toks) (o := xT (List.replicate k.toNat its).flatten.toArray (List.replicate k.toNat xs).flatten) (fun b ob q => Heap.get?_push_of_some _ q) (Nat.le_refl _) ?_, rfl, q _ _ (I.hok.fresh (Nat.le_refl _))⟩
  exact ⟨Heap.get?_push_size _ rfl, by rw [PyProof.Rows.lm_len_rep_flat, sizeLine_eq]; have a1 : k.toNat * xs.length ≤ 1000 * 1000 := Nat.mul_le_mul (by omega) hz; omega, _, r.rep k.toNat, IsTup.new _ _⟩
end
end Pe

set_option linter.all false
set_option maxRecDepth 100000
set_option maxHeartbeats 4000000
namespace Pe
open PySem PySem.Spec PyProof.Rows L2

abbrev SZ : Nat := 16777216
theorem szEq : sizeLine = SZ := sizeLine_eq

/-! ### a value as it is read -/
inductive VW (G : Cfg) (H : Hp) (T : Addr → Prop) : D → V → Prop
  | rd {d : D} {v : V} : RD G H T d v → VW G H T d v
  | lst {a : Addr} {xs : List D} {vs : List V} : H a = some (.lst vs) → vs.length ≤ sizeLine → RDs G H T xs vs → VW G H T (.lst xs) (.ref a)
  | dic {a : Addr} {ks vs : List D} {E : List DictEntry} : H a = some (dO a E) → (E.length ≤ sizeLine ∧ KOk ks) → RDe G H T ks vs E → VW G H T (.dic ks vs) (.ref a)
def W.val (w : W) (h : Hh) : Option D := match w with
  | .d v => some v
  | .r n => h[n]?.map Ob.val
section
variable {G : Cfg} {H : Hp} {τ : List Addr} {h : Hh} {T : Addr → Prop} {X : Cx}
theorem RW.view (R : HR G H τ h) {w : W} {v : V} {d : D} (r : RW G H τ h w v) (e : w.val h = some d) : VW G H (Trk τ h) d v := by
  cases r with
  | d r => cases e; exact .rd r
  | @r n a q =>
    have e' : h[n]?.map Ob.val = some d := e
    cases z : h[n]? with
    | none => rw [z] at e'; cases e'
    | some o =>
      rw [z] at e'
      have e2 : o.val = d := by simpa using e'
      subst e2
      cases R.ob n a o q z with
      | lst a b c => exact .lst a b c
      | dic a b c => exact .dic a b c
      | fz r => exact .rd r
/-- tuples and lists -/
def D.seq? : D → Option (List D)
  | .tup xs => some xs
  | .lst xs => some xs
  | .scr xs => some xs
  | _ => none
theorem VW.seq {d : D} {v : V} {xs : List D} (r : VW G H T d v) (e : d.seq? = some xs) : ∃ a vs, v = .ref a ∧ (SqL G.K H a vs ∨ SqT G.K H a vs) ∧ vs.length ≤ sizeLine ∧ RDs G H T xs vs := by
  cases r with
  | rd r =>
    cases r with
    | tup a b c => cases e; exact ⟨_, _, rfl, .inr a.sqt, b, c⟩
    | tupS a b _ c => cases e; exact ⟨_, _, rfl, .inr a, b, c⟩
    | lst a _ b c => cases e; exact ⟨_, _, rfl, .inl (.of a), b, c⟩
    | scr a b c => cases e; exact ⟨_, _, rfl, .inl a.sq, b, c⟩
    | _ => cases e
  | lst a b c => cases e; exact ⟨_, _, rfl, .inl (.of a), b, c⟩
  | dic _ _ _ => cases e
theorem VW.seqX {d : D} {v : V} {xs : List D} (r : VW G H T d v) (e : d.seq? = some xs) : ∃ a vs, v = .ref a ∧ (SqL G.K H a vs ∨ (SqT G.K H a vs ∧ RD G H T (.tup xs) (.ref a))) ∧ vs.length ≤ sizeLine ∧ RDs G H T xs vs := by
  cases r with
  | rd r =>
    cases r with
    | tup a b c => cases e; exact ⟨_, _, rfl, .inr ⟨a.sqt, .tup a b c⟩, b, c⟩
    | tupS a b q c => cases e; exact ⟨_, _, rfl, .inr ⟨a, .tupS a b q c⟩, b, c⟩
    | lst a _ b c => cases e; exact ⟨_, _, rfl, .inl (.of a), b, c⟩
    | scr a b c => cases e; exact ⟨_, _, rfl, .inl a.sq, b, c⟩
    | _ => cases e
  | lst a b c => cases e; exact ⟨_, _, rfl, .inl (.of a), b, c⟩
  | dic _ _ _ => cases e
theorem VW.tup {v : V} {xs : List D} (r : VW G H T (.tup xs) v) : ∃ a vs, v = .ref a ∧ SqT G.K H a vs ∧ vs.length ≤ sizeLine ∧ RDs G H T xs vs := by
  cases r with
  | rd r => exact r.tup_
theorem VW.set {v : V} {xs : List D} (r : VW G H T (.set xs) v) : ∃ a vs, v = .ref a ∧ SqT G.K H a vs ∧ vs.length ≤ sizeLine ∧ RDs G H T xs vs := by
  cases r with
  | rd r => cases r with
    | set a b c => exact ⟨_, _, rfl, a, b, c⟩
theorem VW.rd_tup {v : V} {xs : List D} (r : VW G H T (.tup xs) v) : RD G H T (.tup xs) v := by
  cases r with
  | rd r => exact r
theorem VW.lst_ {v : V} {xs : List D} (r : VW G H T (.lst xs) v) : ∃ a vs, v = .ref a ∧ H a = some (.lst vs) ∧ vs.length ≤ sizeLine ∧ RDs G H T xs vs := by
  cases r with
  | rd r => cases r with
    | lst a _ b c => exact ⟨_, _, rfl, a, b, c⟩
  | lst a b c => exact ⟨_, _, rfl, a, b, c⟩
theorem VW.scr {v : V} {xs : List D} (r : VW G H T (.scr xs) v) : ∃ a vs, v = .ref a ∧ SqL G.K H a vs ∧ vs.length ≤ sizeLine ∧ RDs G H T xs vs := by
  cases r with
  | rd r => cases r with
    | scr a b c => exact ⟨_, _, rfl, a.sq, b, c⟩
theorem VW.dict {v : V} {ks vs : List D} (r : VW G H T (.dic ks vs) v) : ∃ a E, v = .ref a ∧ H a = some (dO a E) ∧ (E.length ≤ sizeLine ∧ KOk ks) ∧ RDe G H T ks vs E := by
  cases r with
  | rd r => cases r with
    | dic a _ b c => exact ⟨_, _, rfl, a, b, c⟩
  | dic a b c => exact ⟨_, _, rfl, a, b, c⟩
theorem VW.int {v : V} {i : Int} (r : VW G H T (.int i) v) : v = .int i := by
  cases r with | rd r => cases r; rfl
theorem VW.bl {v : V} {i : Bool} (r : VW G H T (.bl i) v) : v = .bl i := by
  cases r with | rd r => cases r; rfl
theorem VW.non {v : V} (r : VW G H T .non v) : v = .non := by
  cases r with | rd r => cases r; rfl
theorem VW.str {v : V} {s : List Nat} (r : VW G H T (.str s) v) : v = .str (txt s) ∧ s.length ≤ sizeLine := by
  cases r with | rd r => cases r with | str _ z => exact ⟨rfl, z⟩
theorem VW.dp (hK : G.K = X.K) {n : Nat} {d : D} {v : V} (f : fits n d = true) (r : VW G H T d v) : Dp X.K H v (py d) := by
  cases r with
  | rd r => exact r.dp hK n d v f
  | lst a _ c =>
    cases n with
    | zero => simp [fits] at f
    | succ n =>
      simp only [py]
      exact .lst (.of a) (RDs.dp hK n _ _ (by simpa [fits] using f) c)
  | dic _ _ _ => cases n <;> simp [fits] at f
end

/-! ### operations by values -/
abbrev Op1 := D → Hh → Rs W
abbrev Op2 := D → D → Hh → Rs W
def op1 (f : Op1) (a : W) (h : Hh) : Rs W := match a.val h with
  | some x => f x h
  | none => .no
def op2 (f : Op2) (a b : W) (h : Hh) : Rs W := match a.val h, b.val h with
  | some x, some y => f x y h
  | _, _ => .no
def r1 (g : Rg) (f : W → Hh → Rs W) : V → Hp → VK → Prop := fun x H Q => ∃ σ τ h w, HR g.G H τ h ∧ RW g.G H τ h w x ∧ Fin g σ H τ h (f w h) Q
def r2 (g : Rg) (f : W → W → Hh → Rs W) : R2 := fun x y H Q => ∃ σ τ h w1 w2, HR g.G H τ h ∧ RW g.G H τ h w1 x ∧ RW g.G H τ h w2 y ∧ Fin g σ H τ h (f w1 w2 h) Q
section
variable {X : Cx} {g : Rg} {σ : St} {H : Hp} {τ : List Addr} {h : Hh}
/-- the common opening of a rule for two values -/
theorem r2.op {f : Op2} {x y : V} {Q : VK} (q : r2 g (op2 f) x y H Q) : ∃ σ τ h a b, HR g.G H τ h ∧ VW g.G H (Trk τ h) a x ∧ VW g.G H (Trk τ h) b y ∧ Fin g σ H τ h (f a b h) Q := by
  obtain ⟨σ, τ, h, w1, w2, R, a, b, F⟩ := q
  unfold op2 at F
  split at F
  · rename_i d1 d2 e1 e2
    exact ⟨σ, τ, h, d1, d2, R, a.view R e1, b.view R e2, F⟩
  · exact F.elim
theorem r1.op {f : Op1} {x : V} {Q : VK} (q : r1 g (op1 f) x H Q) : ∃ σ τ h a, HR g.G H τ h ∧ VW g.G H (Trk τ h) a x ∧ Fin g σ H τ h (f a h) Q := by
  obtain ⟨σ, τ, h, w1, R, a, F⟩ := q
  unfold op1 at F
  split at F
  · rename_i d1 e1
    exact ⟨σ, τ, h, d1, R, a.view R e1, F⟩
  · exact F.elim
/-- a value that changes nothing -/
theorem Fin.val {d : D} {v : V} {Q : VK} (R : HR g.G H τ h) (F : Fin g σ H τ h (.ok (.d d) h) Q) (r : RD g.G H (Trk τ h) d v) : Q v H := F τ H v Ext.refl R (.d r)
/-- a new tuple -/
theorem Fin.tup {ds : List D} {vs : List V} {p : Addr} {Q : VK} (R : HR g.G H τ h) (F : Fin g σ H τ h (.ok (.d (.tup ds)) h) Q) (r : RDs g.G H (Trk τ h) ds vs) (z : vs.length ≤ sizeLine) {its : Array Value} (n : H p = none) : Q (.ref p) (upd H p (xT its vs)) := by
  obtain ⟨e, R'⟩ := R.beside (o := xT its vs) n
  exact F τ _ _ e R' (.d (.tup .new z (r.grow R.noTup e.g)))
/-- a new list, that may change -/
theorem Fin.lst {ds : List D} {vs : List V} {p : Addr} {Q : VK} (R : HR g.G H τ h) (F : Fin g σ H τ h (.ok (.r h.length) (h ++ [.lst ds])) Q) (r : RDs g.G H (Trk τ h) ds vs) (z : vs.length ≤ sizeLine) (n : H p = none) : Q (.ref p) (upd H p (.lst vs)) := by
  obtain ⟨e, R', w⟩ := R.alloc (o := .lst ds) (u := .lst vs) n (fun _ q => nomatch q) (.lst upd_same z (r.grow R.noTup (T' := Trk (τ ++ [p]) (h ++ [.lst ds])) (H' := upd H p (.lst vs))
    ⟨fun a v e _ _ => by rw [upd_ne (ne_of_none e n)]; exact e, fun a t => (trk_push R.len t).imp id fun e => by rw [e]; exact fun o q => by rw [n] at q; cases q⟩))
  exact F _ _ _ e R' w
theorem Fin.int {i : Int} {Q : VK} (R : HR g.G H τ h) (F : Fin g σ H τ h (.ok (.d (.int i)) h) Q) : Q (.int i) H := F.val R (.int i)
theorem Fin.bl {i : Bool} {Q : VK} (R : HR g.G H τ h) (F : Fin g σ H τ h (.ok (.d (.bl i)) h) Q) : Q (.bl i) H := F.val R (.bl i)

/-! #### + -/
def oAdd : Op2 := fun a b h => match a, b with
  | .int i, .int j => .ok (.d (.int (i + j))) h
  | .str x, .str y => if x.length + y.length ≤ SZ then .ok (.d (.str (x ++ y))) h else .no
  | .tup x, .tup y => if x.length + y.length ≤ SZ then .ok (.d (.tup (x ++ y))) h else .no
  | .lst x, .lst y => if x.length + y.length ≤ SZ then .ok (.r h.length) (h ++ [.lst (x ++ y)]) else .no
  | _, _ => .no
theorem txt_len (s : List Nat) : (txt s).length = s.length := by simp [Str.length]
theorem txt_add (x y : List Nat) : txt x ++ txt y = txt (x ++ y) := by
  show Str.mk (x.toArray ++ y.toArray) = _
  simp
theorem op_oAdd (hK : g.G.K = X.K) : OpR X (binaryOp .Add) (r2 g (op2 oAdd)) := by
  intro pins s σ' H x y v u Q I rx ry q
  obtain ⟨σ, τ, h, a, b, R, va, vb, F⟩ := q.op
  unfold oAdd at F
  split at F
  · rw [va.int] at rx; rw [vb.int] at ry
    exact op_add pins s σ' H _ _ v u Q I rx ry ⟨_, _, rfl, rfl, F.int R⟩
  · obtain ⟨e1, z1⟩ := va.str
    obtain ⟨e2, z2⟩ := vb.str
    rw [e1] at rx; rw [e2] at ry
    split at F
    · rename_i hz
      refine op_add_str pins s σ' H _ _ v u Q I rx ry ⟨_, _, rfl, rfl, by rw [txt_len, txt_len, szEq]; exact hz, ?_⟩
      rw [txt_add]
      exact F.val R (.str _ (by rw [List.length_append, szEq]; exact hz))
    · exact F.elim
  · obtain ⟨p, vs, rfl, t1, z1, l1⟩ := va.tup
    obtain ⟨p2, vs2, rfl, t2, z2, l2⟩ := vb.tup
    rename_i xs ys
    split at F
    · rename_i hz
      rw [hK] at t1 t2
      have hz' : vs.length + vs2.length ≤ sizeLine := by rw [← l1.len, ← l2.len, szEq]; exact hz
      refine op_catX pins s σ' H _ _ v u Q I rx ry ⟨p, p2, vs, vs2, rfl, rfl, t1, t2, hz', fun e => ?_, fun _ e => ?_, fun _ _ q its nq => ?_⟩
      · subst e; cases l1
        exact F.val R vb.rd_tup
      · subst e; cases l2
        rw [List.append_nil] at F
        exact F.val R va.rd_tup
      · exact F.tup R (l1.append l2) (by rw [List.length_append]; exact hz') nq
    · exact F.elim
  · obtain ⟨p, vs, rfl, t1, z1, l1⟩ := va.lst_
    obtain ⟨p2, vs2, rfl, t2, z2, l2⟩ := vb.lst_
    split at F
    · rename_i hz
      have hz' : vs.length + vs2.length ≤ sizeLine := by rw [← l1.len, ← l2.len, szEq]; exact hz
      exact op_cat pins s σ' H _ _ v u Q I rx ry ⟨p, p2, vs, vs2, rfl, rfl, t1, t2, hz', fun q nq => F.lst R (l1.append l2) (by rw [List.length_append]; exact hz') nq⟩
    · exact F.elim
  · exact F.elim

/-! #### - * // % ** -/
def oSub : Op2 := fun a b h => match a, b with
  | .int i, .int j => .ok (.d (.int (i - j))) h
  | _, _ => .no
theorem op_oSub : OpR X (binaryOp .Sub) (r2 g (op2 oSub)) := by
  intro pins s σ' H x y v u Q I rx ry q
  obtain ⟨σ, τ, h, a, b, R, va, vb, F⟩ := q.op
  unfold oSub at F
  split at F
  · rw [va.int] at rx; rw [vb.int] at ry
    exact op_sub pins s σ' H _ _ v u Q I rx ry ⟨_, _, rfl, rfl, F.int R⟩
  · exact F.elim
def oMod : Op2 := fun a b h => match a, b with
  | .int i, .int j => if 0 < j then .ok (.d (.int (i % j))) h else .no
  | _, _ => .no
theorem op_oMod : OpR X (binaryOp .Mod) (r2 g (op2 oMod)) := by
  intro pins s σ' H x y v u Q I rx ry q
  obtain ⟨σ, τ, h, a, b, R, va, vb, F⟩ := q.op
  unfold oMod at F
  split at F
  · rw [va.int] at rx; rw [vb.int] at ry
    split at F
    · rename_i hj
      exact op_mod pins s σ' H _ _ v u Q I rx ry ⟨_, _, rfl, rfl, hj, F.int R⟩
    · exact F.elim
  · exact F.elim
def oDiv : Op2 := fun a b h => match a, b with
  | .int i, .int j => if 0 < j ∧ j.natAbs.log2 < 9000 then .ok (.d (.int (i / j))) h else .no
  | _, _ => .no
theorem op_oDiv : OpR X (binaryOp .FloorDiv) (r2 g (op2 oDiv)) := by
  intro pins s σ' H x y v u Q I rx ry q
  obtain ⟨σ, τ, h, a, b, R, va, vb, F⟩ := q.op
  unfold oDiv at F
  split at F
  · rw [va.int] at rx; rw [vb.int] at ry
    split at F
    · rename_i hj
      exact op_fdivW pins s σ' H _ _ v u Q I rx ry ⟨_, _, rfl, rfl, hj, F.int R⟩
    · exact F.elim
  · exact F.elim
def oPow : Op2 := fun a b h => match a, b with
  | .int i, .int j => if 0 ≤ j ∧ (i.natAbs.log2 + 1) * j.toNat ≤ 1000000 then .ok (.d (.int (i ^ j.toNat))) h else .no
  | _, _ => .no
theorem bits_le (x : Int) : Builtin.Int.intBits x ≤ x.natAbs.log2 + 1 := by
  unfold Builtin.Int.intBits
  split <;> omega
theorem op_oPow : OpR X (binaryOp .Pow) (r2 g (op2 oPow)) := by
  intro pins s σ' H x y v u Q I rx ry q
  obtain ⟨σ, τ, h, a, b, R, va, vb, F⟩ := q.op
  unfold oPow at F
  split at F
  · rw [va.int] at rx; rw [vb.int] at ry
    rename_i i j
    split at F
    · rename_i hj
      obtain ⟨t, rfl⟩ := rx
      obtain ⟨t', rfl⟩ := ry
      have hb := bits_le i
      have hz : (Builtin.Int.intBits i : Int) * j ≤ 2 ^ 27 := by
        have e : j = (j.toNat : Int) := (Int.toNat_of_nonneg hj.1).symm
        have k : Builtin.Int.intBits i * j.toNat ≤ 1000000 := Nat.le_trans (Nat.mul_le_mul_right _ hb) hj.2
        have k' : ((Builtin.Int.intBits i * j.toNat : Nat) : Int) ≤ 1000000 := Int.ofNat_le.mpr k
        rw [Int.natCast_mul] at k'
        rw [e]
        have : (1000000 : Int) ≤ 2 ^ 27 := by decide
        exact Int.le_trans k' this
      exact pow_int hj.1 hz ⟨.int _, H, I.tok _, ⟨_, rfl⟩, F.int R⟩
    · exact F.elim
  · exact F.elim
end
end Pe

set_option linter.all false
set_option maxRecDepth 100000
set_option maxHeartbeats 4000000
namespace Pe
open PySem PySem.Spec PyProof.Rows L2
section
variable {X : Cx} {g : Rg} {σ : St} {H : Hp} {τ : List Addr} {h : Hh}
/-! #### * and - -/
def oMul : Op2 := fun a b h => match a, b with
  | .int i, .int j => if i.natAbs.log2 + j.natAbs.log2 < 1000000 then .ok (.d (.int (i * j))) h else .no
  | .lst xs, .int k => if 0 ≤ k ∧ xs.length * k.toNat ≤ SZ ∧ k ≤ 1000000 then .ok (.r h.length) (h ++ [.lst (List.replicate k.toNat xs).flatten]) else .no
  | .tup xs, .int k => if xs ≠ [] ∧ 2 ≤ k ∧ k ≤ 1000 ∧ xs.length ≤ 1000 then .ok (.d (.tup (List.replicate k.toNat xs).flatten)) h else .no
  | .str x, .int k => if 0 ≤ k ∧ k ≤ 1000000 ∧ x.length * k.toNat ≤ 1000000 then .ok (.d (.str (List.replicate k.toNat x).flatten)) h else .no
  | _, _ => .no
theorem RDs.rep {G : Cfg} {H : Hp} {T : Addr → Prop} {ds : List D} {vs : List V} (r : RDs G H T ds vs) : ∀ k : Nat, RDs G H T (List.replicate k ds).flatten (List.replicate k vs).flatten
  | 0 => .nil
  | k + 1 => by
    rw [List.replicate_succ, List.replicate_succ, List.flatten_cons, List.flatten_cons]
    exact r.append (r.rep k)
theorem rep_len {α : Type} (xs : List α) : ∀ k : Nat, (List.replicate k xs).flatten.length = k * xs.length
  | 0 => by simp
  | k + 1 => by rw [List.replicate_succ, List.flatten_cons, List.length_append, rep_len xs k, Nat.succ_mul, Nat.add_comm]
theorem rep_codes (x : List Nat) : ∀ (k : Nat) (acc : Array Nat), (List.replicate k x.toArray).foldl (· ++ ·) acc = acc ++ (List.replicate k x).flatten.toArray
  | 0, acc => by simp
  | k + 1, acc => by
    rw [List.replicate_succ, List.foldl_cons, rep_codes x k, List.replicate_succ, List.flatten_cons]
    simp
theorem op_oMul (hK : g.G.K = X.K) : OpR X (binaryOp .Mult) (r2 g (op2 oMul)) := by
  intro pins s σ' H x y v u Q I rx ry q
  obtain ⟨σ, τ, h, a, b, R, va, vb, F⟩ := q.op
  unfold oMul at F
  split at F
  · rw [va.int] at rx; rw [vb.int] at ry
    split at F
    · rename_i hj
      exact op_mulW pins s σ' H _ _ v u Q I rx ry ⟨_, _, rfl, rfl, hj, F.int R⟩
    · exact F.elim
  · rw [vb.int] at ry
    obtain ⟨p, vs, rfl, t1, z1, l1⟩ := va.lst_
    split at F
    · rename_i xs k hz
      obtain ⟨h0, hz, hk⟩ := hz
      have hz' : vs.length * k.toNat ≤ sizeLine := by rw [← l1.len, szEq]; exact hz
      exact op_rep pins s σ' H _ _ v u Q I rx ry ⟨p, k, vs, rfl, rfl, t1, by omega, by omega, hz', fun q nq => F.lst R (l1.rep _) (by rw [rep_len, Nat.mul_comm]; exact hz') nq⟩
    · exact F.elim
  · rw [vb.int] at ry
    obtain ⟨p, vs, rfl, t1, z1, l1⟩ := va.tup
    split at F
    · rename_i xs k hz
      obtain ⟨hne, h2, hk, hl⟩ := hz
      rw [hK] at t1
      refine op_repX pins s σ' H _ _ v u Q I rx ry ⟨p, k, vs, rfl, rfl, t1, fun e => hne ?_, h2, hk, by rw [← l1.len]; exact hl, fun q its nq => F.tup R (l1.rep _) ?_ nq⟩
      · subst e; cases l1; rfl
      · rw [rep_len, ← l1.len, szEq]
        have : k.toNat * xs.length ≤ 1000 * 1000 := Nat.mul_le_mul (by omega) hl
        exact Nat.le_trans this (by decide)
    · exact F.elim
  · rw [vb.int] at ry
    obtain ⟨ex, zx⟩ := va.str
    rw [ex] at rx
    split at F
    · rename_i xs k hz
      obtain ⟨h0, hk, hl⟩ := hz
      obtain ⟨t, rfl⟩ := rx
      obtain ⟨t', rfl⟩ := ry
      have hlen : (List.replicate k.toNat xs).flatten.length ≤ sizeLine := by
        rw [rep_len, Nat.mul_comm, szEq]
        exact Nat.le_trans hl (by decide)
      have fin : ∀ (tk : Tok) (s' : Shared) (y : Str), y = txt (List.replicate k.toNat xs).flatten → Inv X pins σ' H s' → EP X pins σ' Q (.str y tk) s' := fun tk s' y e J => by
        subst e
        exact ⟨.str (txt (List.replicate k.toNat xs).flatten), H, J, ⟨tk, rfl⟩, F.val R (.str _ hlen)⟩
      have c0 : (decide (k < -(2 ^ 63 : Int)) || decide (k ≥ 2 ^ 63)) = false := by
        have h1 : ¬ k < -(2 ^ 63 : Int) := by omega
        have h2 : ¬ k ≥ 2 ^ 63 := by omega
        rw [decide_eq_false h1, decide_eq_false h2]; rfl
      refine PySem.P.mul_str c0 (fun h1 _ => ?_) (fun h1 _ => ?_) ?_
      · rw [txt_len]
        intro z
        have e : k = (k.toNat : Int) := (Int.toNat_of_nonneg h0).symm
        have h3 : (2 ^ 63 - 1) / k * k ≤ 2 ^ 63 - 1 := Int.ediv_mul_le _ (by omega)
        have h4 : ((2 : Int) ^ 63 - 1) / k + 1 ≤ xs.length := z
        have h5 : (((2 : Int) ^ 63 - 1) / k + 1) * k ≤ xs.length * k := Int.mul_le_mul_of_nonneg_right h4 h0
        have h6 : (2 : Int) ^ 63 - 1 < (((2 : Int) ^ 63 - 1) / k + 1) * k := Int.lt_ediv_add_one_mul_self _ (by omega)
        have h7 : (xs.length : Int) * k ≤ 1000000 := by
          rw [e, ← Int.natCast_mul]
          exact Int.ofNat_le.mpr hl
        have : (1000000 : Int) < 2 ^ 63 - 1 := by decide
        omega
      · rw [txt_len]
        unfold Builtin.Str.tooLong
        refine decide_eq_false ?_
        have : (1000000 : Nat) ≤ sizeLine := by rw [szEq]; decide
        omega
      · split
        · rename_i h1
          have e0 : k.toNat = 0 := by omega
          refine ⟨by decide, fin _ _ _ ?_ (I.tok _)⟩
          rw [e0]; rfl
        · split
          · rename_i h1 h2
            refine fin _ _ _ ?_ I
            rw [Bool.or_eq_true] at h2
            rcases h2 with h2 | h2
            · have : k = 1 := by simpa using h2
              subst this
              simp
            · have : xs.length = 0 := by simpa [txt_len] using h2
              have : xs = [] := List.eq_nil_of_length_eq_zero this
              subst this
              simp
          · have e1 : (Str.mk ((List.replicate k.toNat (txt xs).cps).foldl (· ++ ·) #[])) = txt (List.replicate k.toNat xs).flatten := by
              show Str.mk ((List.replicate k.toNat xs.toArray).foldl (· ++ ·) #[]) = _
              rw [rep_codes]
              simp
            refine ⟨?_, fin _ _ _ e1 (I.tok _)⟩
            rw [e1, txt_len]; exact hlen
    · exact F.elim
  · exact F.elim
def oNeg : Op1 := fun a h => match a with
  | .int i => .ok (.d (.int (-i))) h
  | _ => .no
theorem un_oNeg : UnR X (unaryOp .USub) (r1 g (op1 oNeg)) := by
  intro pins s σ' H x v Q I rx q
  obtain ⟨σ, τ, h, a, R, va, F⟩ := q.op
  unfold oNeg at F
  split at F
  · rw [va.int] at rx
    exact un_neg pins s σ' H _ v Q I rx ⟨_, rfl, F.int R⟩
  · exact F.elim
/-! #### comparisons -/
def oEq (neg : Bool) : Op2 := fun a b h => if fits 100 a && fits 100 b then .ok (.d (.bl (if neg then !eqv a b else eqv a b))) h else .no
theorem room_eq {A : Around} {x y : PyData} (hu : A.units + 200 < cLine) (hx : x.depth ≤ 100) : A.units + min x.depth y.depth < cLine := by
  have : min x.depth y.depth ≤ x.depth := Nat.min_le_left _ _
  omega
theorem op_oEq (hK : g.G.K = X.K) (hu : X.A.units + 200 < cLine) : OpR X (compareOp .Eq) (r2 g (op2 (oEq false))) := by
  intro pins s σ' H x y v u Q I rx ry q
  obtain ⟨σ, τ, h, a, b, R, va, vb, F⟩ := q.op
  unfold oEq at F
  split at F
  · rename_i hf
    have hf' : fits 100 a = true ∧ fits 100 b = true := by simpa using hf
    obtain ⟨as, ra⟩ := Dp.reads I _ _ _ (va.dp hK hf'.1) rx
    obtain ⟨bs, rb⟩ := Dp.reads I _ _ _ (vb.dp hK hf'.2) ry
    obtain ⟨p1, d1⟩ := fits_plain _ _ hf'.1
    obtain ⟨p2, d2⟩ := fits_plain _ _ hf'.2
    refine SeqAt.eq_plain ra rb p1 p2 (room_eq hu d1) ⟨.bl _, H, I, rfl, ?_⟩
    rw [eqv_py _ _ _ _ hf'.1 hf'.2]
    exact F.bl R
  · exact F.elim
theorem op_oNe (hK : g.G.K = X.K) (hu : X.A.units + 200 < cLine) : OpR X (compareOp .NotEq) (r2 g (op2 (oEq true))) := by
  intro pins s σ' H x y v u Q I rx ry q
  obtain ⟨σ, τ, h, a, b, R, va, vb, F⟩ := q.op
  unfold oEq at F
  split at F
  · rename_i hf
    have hf' : fits 100 a = true ∧ fits 100 b = true := by simpa using hf
    obtain ⟨as, ra⟩ := Dp.reads I _ _ _ (va.dp hK hf'.1) rx
    obtain ⟨bs, rb⟩ := Dp.reads I _ _ _ (vb.dp hK hf'.2) ry
    obtain ⟨p1, d1⟩ := fits_plain _ _ hf'.1
    obtain ⟨p2, d2⟩ := fits_plain _ _ hf'.2
    refine SeqAt.ne_plain ra rb p1 p2 (room_eq hu d1) ⟨.bl _, H, I, rfl, ?_⟩
    rw [eqv_py _ _ _ _ hf'.1 hf'.2]
    exact F.bl R
  · exact F.elim
/-- < (0), > (1), <= (2), >= (3) -/
def cmpD (k : Nat) (a b : D) : Bool := match k with
  | 0 => ltd a b
  | 1 => ltd b a
  | 2 => !ltd b a
  | _ => !ltd a b
def notNon : D → Bool
  | .non => false
  | _ => true
def oCmp (k : Nat) : Op2 := fun a b h => if fits 100 a && fits 100 b && alk a b && notNon a then .ok (.d (.bl (cmpD k a b))) h else .no
def cmpOf : Nat → CmpOp
  | 0 => .Lt
  | 1 => .Gt
  | 2 => .LtE
  | _ => .GtE
theorem alk_comm : ∀ (n m : Nat) (a b : D), fits n a = true → fits m b = true → alk a b = alk b a := fun n m a b ha hb => by
  rw [← alk_py n m a b ha hb, ← alk_py m n b a hb ha, PySem.W.alike_comm]
theorem op_oCmp (hK : g.G.K = X.K) (hu : X.A.units + 200 < cLine) (k : Nat) : OpR X (compareOp (cmpOf k)) (r2 g (op2 (oCmp k))) := by
  intro pins s σ' H x y v u Q I rx ry q
  obtain ⟨σ, τ, h, a, b, R, va, vb, F⟩ := q.op
  unfold oCmp at F
  split at F
  · rename_i hf
    have hf' : ((fits 100 a = true ∧ fits 100 b = true) ∧ alk a b = true) ∧ notNon a = true := by simpa using hf
    obtain ⟨⟨⟨fa, fb⟩, al⟩, nn⟩ := hf'
    obtain ⟨as, ra⟩ := Dp.reads I _ _ _ (va.dp hK fa) rx
    obtain ⟨bs, rb⟩ := Dp.reads I _ _ _ (vb.dp hK fb) ry
    obtain ⟨p1, d1⟩ := fits_plain _ _ fa
    have al' : PySem.W.alike (py a) (py b) = true := by rw [alk_py _ _ _ _ fa fb]; exact al
    have nn' : py a ≠ .none := by
      cases a <;> first | (intro e; cases e; done) | (cases nn; done) | (simp [fits] at fa; done) | skip
    have l1 : PySem.W.dataLt (py a) (py b) = ltd a b := ltd_py _ _ _ _ fa fb al
    have l2 : PySem.W.dataLt (py b) (py a) = ltd b a := ltd_py _ _ _ _ fb fa (by rw [alk_comm _ _ _ _ fb fa]; exact al)
    have fin : ∀ c, c = cmpD k a b → EP X pins σ' Q (.bool c) s := fun c e => by
      subst e
      exact ⟨.bl _, H, I, rfl, F.bl R⟩
    match k, fin with
    | 0, fin => exact PySem.W.lt_data ra rb al' nn' (room_eq hu d1) (fin _ l1)
    | 1, fin => exact PySem.W.gt_data ra rb al' nn' (room_eq hu d1) (fin _ l2)
    | 2, fin => exact PySem.W.le_data ra rb al' nn' (room_eq hu d1) (fin _ (by rw [l2]; rfl))
    | k + 3, fin => exact PySem.W.ge_data ra rb al' nn' (room_eq hu d1) (fin _ (by rw [l1]; rfl))
  · exact F.elim
end
end Pe

set_option linter.all false
set_option maxRecDepth 100000
set_option maxHeartbeats 4000000
namespace Pe
open PySem PySem.Spec PyProof.Rows L2
/-! ### keys, dicts -/
mutual
theorem eqv_nk : ∀ (n m : Nat) (x y : D), isKey n x = true → isKey m y = true → eqv x y = NestedKey.beq (nk x) (nk y)
  | n, m, x, y, hx, hy => by
    cases x <;> cases y <;> first
      | rfl
      | (exfalso; cases n <;> simp [isKey] at hx; done)
      | (exfalso; cases m <;> simp [isKey] at hy; done)
      | skip
    · rename_i a b
      show (a == b) = decide (txt a = txt b)
      rw [← str_beq]
      exact rfl
    · rename_i xs ys
      cases n with
      | zero => simp [isKey] at hx
      | succ n =>
        cases m with
        | zero => simp [isKey] at hy
        | succ m =>
          simp only [eqv, nk, NestedKey.beq]
          exact eqvL_nk n m xs ys (by simpa [isKey] using hx) (by simpa [isKey] using hy)
theorem eqvL_nk : ∀ (n m : Nat) (xs ys : List D), isKeyL n xs = true → isKeyL m ys = true → eqvL xs ys = NestedKey.beqAll (nkL xs) (nkL ys)
  | _, _, [], [], _, _ => rfl
  | _, _, [], _ :: _, _, _ => rfl
  | _, _, _ :: _, [], _, _ => rfl
  | n, m, x :: xs, y :: ys, hx, hy => by
    have h1 : isKey n x = true ∧ isKeyL n xs = true := by simpa [isKeyL] using hx
    have h2 : isKey m y = true ∧ isKeyL m ys = true := by simpa [isKeyL] using hy
    simp only [eqvL, nkL, NestedKey.beqAll]
    rw [eqv_nk n m x y h1.1 h2.1, eqvL_nk n m xs ys h1.2 h2.2]
end
theorem eqv_dec {n m : Nat} {x y : D} (hx : isKey n x = true) (hy : isKey m y = true) : eqv x y = decide (nk x = nk y) := by
  rw [NestedKey.decide_eq]; exact eqv_nk n m x y hx hy
section
variable {X : Cx} {G : Cfg} {pins : List (Addr × Obj)} {σ : St} {H : Hp} {s : Shared} {T : Addr → Prop}
mutual
theorem RD.nested (hK : G.K = X.K) (I : Inv X pins σ H s) : ∀ (n : Nat) (d : D) (v : V) (u : Value), isKey n d = true → RD G H T d v → RelV v u → NestedIs s.heap (nk d) u ∧ (nk d).depth ≤ n
  | _, .non, v, _, _, r, l => by cases r; cases l; exact ⟨.none, Nat.zero_le _⟩
  | _, .int i, v, _, _, r, l => by cases r; obtain ⟨t, rfl⟩ := l; exact ⟨.int _ _, Nat.zero_le _⟩
  | _, .str x, v, _, _, r, l => by cases r; obtain ⟨t, rfl⟩ := l; exact ⟨.text _ _, Nat.zero_le _⟩
  | 0, .tup xs, v, _, h, r, l => by simp [isKey] at h
  | n + 1, .tup xs, v, _, h, r, l => by
    obtain ⟨a0, vs0, rfl, a, _, c⟩ := r.tup_
    · cases l
      rw [hK] at a
      obtain ⟨its, rv, ⟨o, ho, hc, k, hd⟩, _⟩ := I.tuple a
      obtain ⟨q, z⟩ := RDs.nested hK I n xs _ _ (by simpa [isKey] using h) c rv
      simp only [nk, NestedKey.depth]
      exact ⟨.tup ho hc hd q, Nat.succ_le_succ z⟩
  | n, .bl b, _, _, h, _, _ => by cases n <;> simp [isKey] at h
  | n, .lst _, _, _, h, _, _ => by cases n <;> simp [isKey] at h
  | n, .scr _, _, _, h, _, _ => by cases n <;> simp [isKey] at h
  | n, .dic _ _, _, _, h, _, _ => by cases n <;> simp [isKey] at h
  | n, .set _, _, _, h, _, _ => by cases n <;> simp [isKey] at h
  | n, .fn _, _, _, h, _, _ => by cases n <;> simp [isKey] at h
  | n, .cls _, _, _, h, _, _ => by cases n <;> simp [isKey] at h
  | n, .clo _ _, _, _, h, _, _ => by cases n <;> simp [isKey] at h
  | n, .ins _ _, _, _, h, _, _ => by cases n <;> simp [isKey] at h
theorem RDs.nested (hK : G.K = X.K) (I : Inv X pins σ H s) : ∀ (n : Nat) (d : List D) (v : List V) (u : List Value), isKeyL n d = true → RDs G H T d v → Vals v u → NestedAll s.heap (nkL d) u ∧ NestedKey.depthAll (nkL d) ≤ n
  | _, [], _, _, _, r, l => by cases r; cases l; exact ⟨.nil, Nat.zero_le _⟩
  | n, d :: ds, _, _, h, r, l => by
    cases r with
    | cons a b =>
      cases l with
      | cons r1 r2 =>
        have h1 : isKey n d = true ∧ isKeyL n ds = true := by simpa [isKeyL] using h
        obtain ⟨q1, z1⟩ := RD.nested hK I n d _ _ h1.1 a r1
        obtain ⟨q2, z2⟩ := RDs.nested hK I n ds _ _ h1.2 b r2
        simp only [nkL, NestedKey.depthAll]
        exact ⟨.cons q1 q2, Nat.max_le.mpr ⟨z1, z2⟩⟩
end
/-- the object of a tracked dict -/
theorem dob (I : Inv X pins σ H s) {a : Addr} {E : List DictEntry} (h : H a = some (dO a E)) : (a == sysModules) = false ∧ ∃ o es ep, s.heap.get? a = some o ∧ o.ExactDict ∧ o.data = .dict es ep ∧ es.toList = E :=
  (show ObjOk X.prog X.w H s.heap a (dO a E) from I.hok a _ h).1
end
/-- 1: whole numbers and texts, 2: tuples -/
def kc : D → Nat
  | .int _ => 1
  | .str _ => 1
  | .tup _ => 2
  | _ => 0
def sk : D → Key
  | .int i => .inl i
  | .str x => .inr (txt x)
  | _ => .inl 0
def skN : Key → NestedKey
  | .inl i => .num i
  | .inr x => .text x
theorem nk_sk {d : D} (h : kc d = 1) : nk d = skN (sk d) := by
  cases d <;> first | rfl | (exact absurd h (by simp [kc]))
theorem skN_inj {a b : Key} (h : skN a = skN b) : a = b := by
  cases a <;> cases b <;> first | (cases h; rfl) | (cases h)
def dget : List D → List D → D → Option D
  | k :: ks, v :: vs, x => if eqv k x then some v else dget ks vs x
  | _, _, _ => none
def dhas (ks : List D) (x : D) : Bool := ks.any fun k => eqv k x
def dput (ks vs : List D) (x y : D) : List D × List D := if dhas ks x then (ks, List.zipWith (fun k v => if eqv k x then y else v) ks vs) else (ks ++ [x], vs ++ [y])
/-- x may be asked of a dict with these keys -/
def okKey (ks : List D) (x : D) : Bool := isKey 8 x && (kc x != 0) && ks.all fun k => kc k == kc x
theorem okKey_spec {ks : List D} {x : D} (h : okKey ks x = true) : isKey 8 x = true ∧ ((kc x = 1 ∧ ∀ k ∈ ks, kc k = 1) ∨ (kc x = 2 ∧ ∀ k ∈ ks, kc k = 2)) := by
  have h' : (isKey 8 x = true ∧ ¬ kc x = 0) ∧ ∀ k ∈ ks, kc k = kc x := by simpa [okKey] using h
  obtain ⟨⟨a, b⟩, c⟩ := h'
  refine ⟨a, ?_⟩
  cases x <;> first | (exact absurd rfl b) | (exact .inl ⟨rfl, c⟩) | (exact .inr ⟨rfl, c⟩)
section
variable {X : Cx} {G : Cfg} {pins : List (Addr × Obj)} {σ : St} {H : Hp} {s : Shared} {T : Addr → Prop}
def kvsS (ks : List D) (E : List DictEntry) : List (Key × Value) := (ks.map sk).zip (E.map (·.val))
theorem kvsS_fst : ∀ {ks : List D} {E : List DictEntry}, ks.length = E.length → (kvsS ks E).map (·.1) = ks.map sk
  | [], [], _ => rfl
  | k :: ks, e :: E, h => by
    show sk k :: (kvsS ks E).map (·.1) = _
    rw [kvsS_fst (by simpa using h)]; rfl
theorem nodup_sk {ks : List D} (h : (ks.map nk).Nodup) (hc : ∀ k ∈ ks, kc k = 1) : (ks.map sk).Nodup := by
  have e : ks.map nk = (ks.map sk).map skN := by
    rw [List.map_map]
    exact List.map_congr_left fun k hk => nk_sk (hc k hk)
  rw [e] at h
  exact List.Pairwise.of_map (S := fun a b => a ≠ b) skN (fun a b hab q => hab (by rw [q])) h
theorem rel_sk {k : D} {v : V} (h : kc k = 1) (r : RD G H T k v) : v = kV (sk k) := by
  cases r <;> first | rfl | (exact absurd h (by simp [kc]))
theorem pairsS (P : Program) : ∀ (ks : List D) {vs : List D} {E : List DictEntry}, (∀ k ∈ ks, kc k = 1) → RDe G H T ks vs E → Pairs (mixKind P G.w) E (kvsS ks E) ∧ ∀ e ∈ E, ∃ k, (mixKind P G.w).is k e.key = true ∧ e.hash = (mixKind P G.w).hash k
  | [], _, _, _, r => by cases r; exact ⟨.nil, fun _ h => nomatch h⟩
  | k :: ks, _, _, hc, r => by
    cases r with
    | cons hh r1 l1 r2 l2 rest =>
      obtain ⟨a, b⟩ := pairsS P ks (fun k hk => hc k (List.mem_cons_of_mem _ hk)) rest
      have c1 := hc k List.mem_cons_self
      have ek := rel_sk c1 r1
      rw [ek] at l1
      refine ⟨.cons (kV_is l1) rfl a, fun e he => ?_⟩
      rcases List.mem_cons.mp he with q | he
      · subst q
        refine ⟨sk k, kV_is l1, ?_⟩
        rw [hh, nk_sk c1]
        cases sk k <;> rfl
      · exact b e he
theorem dictS (hw : G.w = X.w) (I : Inv X pins σ H s) {a : Addr} {ks vs : List D} {E : List DictEntry} (h : H a = some (dO a E)) (ko : KOk ks) (hc : ∀ k ∈ ks, kc k = 1) (r : RDe G H T ks vs E) : s.heap.DictOf (mixKind X.prog X.w) a (kvsS ks E) := by
  obtain ⟨_, o, es, ep, h1, h2, h3, h4⟩ := dob I h
  obtain ⟨p, q⟩ := pairsS (G := G) X.prog ks hc r
  rw [hw] at p q
  exact ⟨o, es, ep, h1, h2, h3, fun e he => q e (by rw [← h4]; exact Array.mem_toList_iff.mpr he), by rw [h4]; exact p, by rw [kvsS_fst r.len.1]; exact nodup_sk ko.1 hc⟩
/-- what is found -/
def Found (G : Cfg) (H : Hp) (T : Addr → Prop) (d : Option D) (u : Option Value) : Prop := match d with
  | some d => ∃ v u', u = some u' ∧ RelV v u' ∧ RD G H T d v
  | none => u = none
theorem foundS (x : D) : ∀ (ks : List D) {vs : List D} {E : List DictEntry}, (∀ k ∈ ks, kc k = 1 ∧ isKey 8 k = true) → kc x = 1 → isKey 8 x = true → RDe G H T ks vs E → Found G H T (dget ks vs x) (valueAt (kvsS ks E) (sk x))
  | [], _, _, _, _, _, r => by cases r; exact rfl
  | k :: ks, _, _, hc, hx, ix, r => by
    cases r with
    | cons hh r1 l1 r2 l2 rest =>
      rename_i d ds e es kv vv
      obtain ⟨ck, ik⟩ := hc k List.mem_cons_self
      have ih := foundS x ks (fun k hk => hc k (List.mem_cons_of_mem _ hk)) hx ix rest
      have e1 : eqv k x = decide (sk k = sk x) := by
        rw [eqv_dec ik ix, nk_sk ck, nk_sk hx]
        exact decide_eq_decide.mpr ⟨fun q => skN_inj q, fun q => by rw [q]⟩
      show Found G H T (if eqv k x then some d else dget ks ds x) (valueAt ((sk k, e.val) :: kvsS ks es) (sk x))
      by_cases q : sk k = sk x
      · rw [e1, decide_eq_true q]
        have : valueAt ((sk k, e.val) :: kvsS ks es) (sk x) = some e.val := by simp [valueAt, List.find?_cons, q]
        rw [this]
        exact ⟨_, _, rfl, l2, r2⟩
      · rw [e1, decide_eq_false q]
        have : valueAt ((sk k, e.val) :: kvsS ks es) (sk x) = valueAt (kvsS ks es) (sk x) := by simp [valueAt, List.find?_cons, q]
        rw [this]
        exact ih
theorem Found.some_iff {d : Option D} {u : Option Value} (f : Found G H T d u) : u.isSome = d.isSome := by
  cases d with
  | none => have : u = none := f; rw [this]; rfl
  | some d => obtain ⟨v, u', e, _⟩ := f; rw [e]; rfl
/-- tuples as keys -/
def tlsN : List D → List DictEntry → List (NestedKey × Addr × Value)
  | k :: ks, e :: E => (nk k, (match e.key with | .ref b => b | _ => 0), e.val) :: tlsN ks E
  | _, _ => []
theorem tlsN_spec (hK : G.K = X.K) (hw : G.w = X.w) (I : Inv X pins σ H s) : ∀ (ks : List D) {vs : List D} {E : List DictEntry}, (∀ k ∈ ks, kc k = 2 ∧ isKey 8 k = true) → RDe G H T ks vs E →
    E = (tlsN ks E).map (entryOfKey (nestedKind X.prog X.w)) ∧ (∀ x ∈ tlsN ks E, (nestedKind X.prog X.w).is s.heap x.1 x.2.1) ∧ (tlsN ks E).map (·.1) = ks.map nk
  | [], _, _, _, r => by cases r; exact ⟨rfl, (fun _ h => nomatch h), rfl⟩
  | k :: ks, _, _, hc, r => by
    cases r with
    | cons hh r1 l1 r2 l2 rest =>
      rename_i d ds e es kv vv
      obtain ⟨a, b, c⟩ := tlsN_spec hK hw I ks (fun k hk => hc k (List.mem_cons_of_mem _ hk)) rest
      obtain ⟨ck, ik⟩ := hc k List.mem_cons_self
      have hn := RD.nested hK I 8 _ _ _ ik r1 l1
      have hb : ∃ b, e.key = .ref b := by
        cases r1 <;> first | (exfalso; simp [kc] at ck; done) | exact ⟨_, l1⟩
      obtain ⟨b', eb⟩ := hb
      obtain ⟨eh, ek, ev⟩ := e
      simp only at eb hh
      subst eb
      refine ⟨?_, fun x hx => ?_, ?_⟩
      · show _ = _ :: (tlsN ks es).map _
        rw [← a, hh, hw]; rfl
      · rcases List.mem_cons.mp hx with q | hx
        · subst q; exact hn
        · exact b x hx
      · show _ :: (tlsN ks es).map (·.1) = _
        rw [c]; rfl
theorem dictN (hK : G.K = X.K) (hw : G.w = X.w) (I : Inv X pins σ H s) {a : Addr} {ks vs : List D} {E : List DictEntry} (h : H a = some (dO a E)) (ko : KOk ks) (hc : ∀ k ∈ ks, kc k = 2) (r : RDe G H T ks vs E) : s.heap.DictOfH (nestedKind X.prog X.w) a (tlsN ks E) := by
  obtain ⟨_, o, es, ep, h1, h2, h3, h4⟩ := dob I h
  obtain ⟨p, q, c⟩ := tlsN_spec hK hw I ks (fun k hk => ⟨hc k hk, ko.2 k hk⟩) r
  exact ⟨o, es, ep, h1, h2, h3, by rw [h4]; exact p, q, by rw [c]; exact ko.1⟩
theorem foundN (x : D) : ∀ (ks : List D) {vs : List D} {E : List DictEntry}, (∀ k ∈ ks, isKey 8 k = true) → isKey 8 x = true → RDe G H T ks vs E → Found G H T (dget ks vs x) ((atKey (tlsN ks E) (nk x)).map (·.2))
  | [], _, _, _, _, r => by cases r; exact rfl
  | k :: ks, _, _, hc, ix, r => by
    cases r with
    | cons hh r1 l1 r2 l2 rest =>
      rename_i d ds e es kv vv
      have ik := hc k List.mem_cons_self
      have ih := foundN x ks (fun k hk => hc k (List.mem_cons_of_mem _ hk)) ix rest
      have e1 : eqv k x = decide (nk k = nk x) := eqv_dec ik ix
      show Found G H T (if eqv k x then some d else dget ks ds x) ((atKey ((nk k, _, e.val) :: tlsN ks es) (nk x)).map (·.2))
      by_cases q : nk k = nk x
      · rw [e1, decide_eq_true q]
        have : (atKey ((nk k, (match e.key with | .ref b => b | _ => 0), e.val) :: tlsN ks es) (nk x)).map (·.2) = some e.val := by simp [atKey, List.find?_cons, q]
        rw [this]
        exact ⟨_, _, rfl, l2, r2⟩
      · rw [e1, decide_eq_false q]
        have : atKey ((nk k, (match e.key with | .ref b => b | _ => 0), e.val) :: tlsN ks es) (nk x) = atKey (tlsN ks es) (nk x) := by simp [atKey, List.find?_cons, q]
        rw [this]
        exact ih
/-- how a key's value stands: for the library's rules -/
theorem keyS {P : Program} {x : D} {v : V} {u : Value} {w : World} (hx : kc x = 1) (r : RD G H T x v) (l : RelV v u) : (mixKind P w).is (sk x) u = true := by
  rw [rel_sk hx r] at l
  exact kV_is l
theorem keyN (hK : G.K = X.K) (I : Inv X pins σ H s) {x : D} {v : V} {u : Value} (hx : kc x = 2) (ix : isKey 8 x = true) (r : RD G H T x v) (l : RelV v u) : ∃ b, u = .ref b ∧ (nestedKind X.prog X.w).is s.heap (nk x) b := by
  have hn := RD.nested hK I 8 _ _ _ ix r l
  cases r <;> first | (exfalso; simp [kc] at hx; done) | (cases l; exact ⟨_, rfl, hn⟩)
theorem roomN {A : Around} (hu : A.units + 200 < cLine) : (nestedKind X.prog X.w).room A.in1 := by
  show A.units + 1 + 8 < cLine
  omega
end
end Pe

set_option linter.all false
set_option maxRecDepth 100000
set_option maxHeartbeats 4000000
namespace Pe
open PySem PySem.Spec PyProof.Rows L2
/-! ### a dict is stored to -/
section
variable {X : Cx} {G : Cfg} {pins : List (Addr × Obj)} {σ : St} {H : Hp} {s : Shared} {T : Addr → Prop}
theorem dO_ok {P : Program} {w : World} {H' : Hp} {h' : Heap} {a : Addr} {o : Obj} {es : Array DictEntry} {ep : Nat} (hd : (a == sysModules) = false) (h1 : h'.get? a = some o) (h2 : o.ExactDict) (h3 : o.data = .dict es ep) : ObjOk P w H' h' a (dO a es.toList) := by
  refine ⟨⟨hd, o, es, ep, h1, h2, h3, rfl⟩, ⟨o, h1⟩, fun ha hb ⟨z, q, es', ep', e1, e2, e3, e4⟩ k => ⟨z, q, es', ep', k _ e1, e2, e3, e4⟩⟩
inductive KVr (G : Cfg) (H : Hp) (T : Addr → Prop) : List D → List D → List (Key × Value) → Prop
  | nil : KVr G H T [] [] []
  | cons {k d : D} {ks ds : List D} {u : Value} {v : V} {r : List (Key × Value)} : kc k = 1 → RD G H T k (kV (sk k)) → RelV v u → RD G H T d v → KVr G H T ks ds r → KVr G H T (k :: ks) (d :: ds) ((sk k, u) :: r)
theorem RDe.kvr : ∀ (ks : List D) {vs : List D} {E : List DictEntry}, (∀ k ∈ ks, kc k = 1) → RDe G H T ks vs E → KVr G H T ks vs (kvsS ks E)
  | [], _, _, _, r => by cases r; exact .nil
  | k :: ks, _, _, hc, r => by
    cases r with
    | cons hh r1 l1 r2 l2 rest =>
      have c1 := hc k List.mem_cons_self
      have ek := rel_sk c1 r1
      rw [ek] at r1
      exact .cons c1 r1 l2 r2 (RDe.kvr ks (fun k hk => hc k (List.mem_cons_of_mem _ hk)) rest)
theorem KVr.back {P : Program} {w : World} (hw : G.w = w) : ∀ {ks vs : List D} {r : List (Key × Value)}, KVr G H T ks vs r → ∀ {E : List DictEntry}, Pairs (mixKind P w) E r → (∀ e ∈ E, ∃ k, (mixKind P w).is k e.key = true ∧ e.hash = (mixKind P w).hash k) → RDe G H T ks vs E
  | _, _, _, .nil, _, p, _ => by cases p; exact .nil
  | _, _, _, .cons (k := k) c1 r1 l2 r2 rest, _, p, q => by
    cases p with
    | @cons e _ es _ p1 p2 p3 =>
      obtain ⟨k', z1, z2⟩ := q e List.mem_cons_self
      have : k' = sk k := (mixKind P w).inj _ _ _ z1 p1
      subst this
      have hl : RelV (kV (sk k)) e.key := by
        rcases keyIs_shape (show keyIs (sk k) e.key = true from p1) with ⟨i, t, e1, e2⟩ | ⟨x, t, e1, e2⟩ <;> rw [e1, e2] <;> exact ⟨t, rfl⟩
      refine .cons ?_ r1 hl r2 (by rw [p2]; exact l2) (KVr.back hw rest p3 fun e he => q e (List.mem_cons_of_mem _ he))
      rw [z2, nk_sk c1, hw]
      cases sk k <;> rfl
theorem KVr.snoc : ∀ {ks vs : List D} {r : List (Key × Value)}, KVr G H T ks vs r → ∀ {k d : D} {u : Value} {v : V}, kc k = 1 → RD G H T k (kV (sk k)) → RelV v u → RD G H T d v → KVr G H T (ks ++ [k]) (vs ++ [d]) (r ++ [(sk k, u)])
  | _, _, _, .nil, _, _, _, _, a, b, c, d => .cons a b c d .nil
  | _, _, _, .cons a b c d e, _, _, _, _, a', b', c', d' => .cons a b c d (e.snoc a' b' c' d')
theorem KVr.repl {x y : D} {u : Value} {v : V} (hx : kc x = 1) (ix : isKey 8 x = true) (l : RelV v u) (ry : RD G H T y v) : ∀ {ks vs : List D} {r : List (Key × Value)}, KVr G H T ks vs r → (∀ k ∈ ks, isKey 8 k = true) →
    KVr G H T ks (List.zipWith (fun k v => if eqv k x then y else v) ks vs) (r.map fun kv => if kv.1 = sk x then (kv.1, u) else kv)
  | _, _, _, .nil, _ => .nil
  | _, _, _, .cons (k := k) a b c d e, hk => by
    have e1 : eqv k x = decide (sk k = sk x) := by
      rw [eqv_dec (hk k List.mem_cons_self) ix, nk_sk a, nk_sk hx]
      exact decide_eq_decide.mpr ⟨fun q => skN_inj q, fun q => by rw [q]⟩
    rw [List.zipWith_cons_cons, List.map_cons, e1]
    have ih := KVr.repl hx ix l ry e fun k h => hk k (List.mem_cons_of_mem _ h)
    by_cases q : sk k = sk x
    · rw [if_pos (decide_eq_true q), if_pos q]; exact .cons a b l ry ih
    · rw [if_neg (by simp [q]), if_neg q]; exact .cons a b c d ih
theorem KVr.any {x : D} (hx : kc x = 1) (ix : isKey 8 x = true) : ∀ {ks vs : List D} {r : List (Key × Value)}, KVr G H T ks vs r → (∀ k ∈ ks, isKey 8 k = true) → dhas ks x = r.any fun kv => decide (kv.1 = sk x)
  | _, _, _, .nil, _ => rfl
  | _, _, _, .cons (k := k) a b c d e, hk => by
    have e1 : eqv k x = decide (sk k = sk x) := by
      rw [eqv_dec (hk k List.mem_cons_self) ix, nk_sk a, nk_sk hx]
      exact decide_eq_decide.mpr ⟨fun q => skN_inj q, fun q => by rw [q]⟩
    have ih := KVr.any hx ix e fun k h => hk k (List.mem_cons_of_mem _ h)
    unfold dhas at ih ⊢
    rw [List.any_cons, List.any_cons, e1, ih]
theorem KVr.put {x y : D} {u : Value} {v : V} (hx : kc x = 1) (ix : isKey 8 x = true) (rx : RD G H T x (kV (sk x))) (l : RelV v u) (ry : RD G H T y v) {ks vs : List D} {r : List (Key × Value)} (q : KVr G H T ks vs r) (hk : ∀ k ∈ ks, isKey 8 k = true) :
    KVr G H T (dput ks vs x y).1 (dput ks vs x y).2 (stored r (sk x) u) := by
  unfold dput stored
  rw [q.any hx ix hk]
  split
  · exact q.repl hx ix l ry hk
  · exact q.snoc hx rx l ry
theorem kok_put {ks vs : List D} {x y : D} (h : KOk ks) (ix : isKey 8 x = true) : KOk (dput ks vs x y).1 := by
  unfold dput
  split
  · exact h
  · rename_i hn
    refine ⟨?_, fun k hk => ?_⟩
    · show ((ks ++ [x]).map nk).Nodup
      rw [List.map_append]
      refine List.nodup_append.mpr ⟨h.1, by simp, fun a ha b hb => ?_⟩
      rw [List.map_cons, List.map_nil, List.mem_singleton] at hb
      subst hb
      obtain ⟨k, hk, rfl⟩ := List.mem_map.mp ha
      intro e
      refine hn (List.any_eq_true.mpr ⟨k, hk, ?_⟩)
      rw [eqv_dec (h.2 k hk) ix, e]
      simp
    · rcases List.mem_append.mp hk with hk | hk
      · exact h.2 k hk
      · rw [List.mem_singleton] at hk; rw [hk]; exact ix
inductive KVn (G : Cfg) (H : Hp) (T : Addr → Prop) : List D → List D → List (NestedKey × Addr × Value) → Prop
  | nil : KVn G H T [] [] []
  | cons {k d : D} {ks ds : List D} {b : Addr} {u : Value} {v : V} {r : List (NestedKey × Addr × Value)} : RD G H T k (.ref b) → RelV v u → RD G H T d v → KVn G H T ks ds r → KVn G H T (k :: ks) (d :: ds) ((nk k, b, u) :: r)
theorem RDe.kvn : ∀ (ks : List D) {vs : List D} {E : List DictEntry}, (∀ k ∈ ks, kc k = 2) → RDe G H T ks vs E → KVn G H T ks vs (tlsN ks E)
  | [], _, _, _, r => by cases r; exact .nil
  | k :: ks, _, _, hc, r => by
    cases r with
    | cons hh r1 l1 r2 l2 rest =>
      rename_i d ds e es kv vv
      have c1 := hc k List.mem_cons_self
      have ih := RDe.kvn ks (fun k hk => hc k (List.mem_cons_of_mem _ hk)) rest
      obtain ⟨b, rfl⟩ : ∃ b, kv = .ref b := by
        cases r1 <;> first | (exfalso; simp [kc] at c1; done) | exact ⟨_, rfl⟩
      have eb : e.key = .ref b := l1
      show KVn G H T (k :: ks) (d :: ds) ((nk k, (match e.key with | .ref b => b | _ => 0), e.val) :: tlsN ks es)
      rw [eb]
      exact .cons r1 l2 r2 ih
theorem KVn.back {P : Program} {w : World} (hw : G.w = w) : ∀ {ks vs : List D} {r : List (NestedKey × Addr × Value)}, KVn G H T ks vs r → RDe G H T ks vs (r.map (entryOfKey (nestedKind P w)))
  | _, _, _, .nil => .nil
  | _, _, _, .cons a b c d => .cons (by rw [hw]; rfl) a rfl c b (KVn.back hw d)
theorem KVn.snoc : ∀ {ks vs : List D} {r : List (NestedKey × Addr × Value)}, KVn G H T ks vs r → ∀ {k d : D} {b : Addr} {u : Value} {v : V}, RD G H T k (.ref b) → RelV v u → RD G H T d v → KVn G H T (ks ++ [k]) (vs ++ [d]) (r ++ [(nk k, b, u)])
  | _, _, _, .nil, _, _, _, _, _, b, c, d => .cons b c d .nil
  | _, _, _, .cons b c d e, _, _, _, _, _, b', c', d' => .cons b c d (e.snoc b' c' d')
theorem KVn.repl {x y : D} {u : Value} {v : V} (ix : isKey 8 x = true) (l : RelV v u) (ry : RD G H T y v) : ∀ {ks vs : List D} {r : List (NestedKey × Addr × Value)}, KVn G H T ks vs r → (∀ k ∈ ks, isKey 8 k = true) →
    KVn G H T ks (List.zipWith (fun k v => if eqv k x then y else v) ks vs) (r.map (putAt (nk x) u))
  | _, _, _, .nil, _ => .nil
  | _, _, _, .cons (k := k) b c d e, hk => by
    rw [List.zipWith_cons_cons, List.map_cons, eqv_dec (hk k List.mem_cons_self) ix]
    have ih := KVn.repl ix l ry e fun k h => hk k (List.mem_cons_of_mem _ h)
    unfold putAt
    by_cases q : nk k = nk x
    · rw [if_pos (decide_eq_true q), if_pos q]; exact .cons b l ry ih
    · rw [if_neg (by simp [q]), if_neg q]; exact .cons b c d ih
theorem KVn.any {x : D} (ix : isKey 8 x = true) : ∀ {ks vs : List D} {r : List (NestedKey × Addr × Value)}, KVn G H T ks vs r → (∀ k ∈ ks, isKey 8 k = true) → dhas ks x = (atKey r (nk x)).isSome
  | _, _, _, .nil, _ => rfl
  | _, _, _, .cons (k := k) (b := b0) (u := u0) (r := r0) b c d e, hk => by
    have ih := KVn.any ix e fun k h => hk k (List.mem_cons_of_mem _ h)
    unfold dhas at ih ⊢
    rw [List.any_cons, ih, eqv_dec (hk k List.mem_cons_self) ix]
    by_cases q : nk k = nk x
    · have : atKey ((nk k, b0, u0) :: r0) (nk x) = some (b0, u0) := by simp [atKey, List.find?_cons, q]
      rw [this]; simp [q]
    · have : atKey ((nk k, b0, u0) :: r0) (nk x) = atKey r0 (nk x) := by simp [atKey, List.find?_cons, q]
      rw [this]; simp [q]
theorem KVn.put {x y : D} {b : Addr} {u : Value} {v : V} (ix : isKey 8 x = true) (rx : RD G H T x (.ref b)) (l : RelV v u) (ry : RD G H T y v) {ks vs : List D} {r : List (NestedKey × Addr × Value)} (q : KVn G H T ks vs r) (hk : ∀ k ∈ ks, isKey 8 k = true) :
    KVn G H T (dput ks vs x y).1 (dput ks vs x y).2 (storedH r (nk x) b u) := by
  unfold dput storedH
  rw [q.any ix hk]
  split
  · exact q.repl ix l ry hk
  · exact q.snoc rx l ry
/-- d[x] = y, on the heap -/
theorem dict_store {A : Around} {E0 : Value → Shared → Prop} {a : Addr} {ks vs : List D} {E : List DictEntry} {x y : D} {xv yv : V} {xu yu : Value} {Q : Unit → Shared → Prop} (hK : G.K = X.K) (hw : G.w = X.w) (hu : A.units + 200 < cLine) (I : Inv X pins σ H s)
    (h : H a = some (dO a E)) (ko : KOk ks) (hz : E.length ≤ sizeLine) (r : RDe G H T ks vs E) (ok : okKey ks x = true) (rx : RD G H T x xv) (lx : RelV xv xu) (ry : RD G H T y yv) (ly : RelV yv yu)
    (hq : ∀ E' s', Inv X pins σ (upd H a (dO a E')) s' → RDe G H T (dput ks vs x y).1 (dput ks vs x y).2 E' → Q () s') : wpAny (model X.prog X.w) A (setItem (.ref a) xu yu) Q E0 s := by
  obtain ⟨ix, c⟩ := okKey_spec ok
  obtain ⟨hd, _⟩ := dob I h
  have mu : Mut (H a) := by rw [h]; exact True.intro
  rcases c with ⟨cx, ck⟩ | ⟨cx, ck⟩
  · have dd := dictS hw I h ko ck r
    have hl : (kvsS ks E).length ≤ sizeLine := by
      unfold kvsS
      rw [List.length_zip, List.length_map, List.length_map]
      exact Nat.le_trans (Nat.min_le_right _ _) hz
    refine wpAny_setItem_pairs (hsz := hl) (keyS cx rx lx) dd fun h' dd' hs => ?_
    obtain ⟨o, es, ep, h1, h2, h3, h4, h5, h6⟩ := dd'
    have ek := rel_sk cx rx
    rw [ek] at rx
    refine hq es.toList _ (I.write (x := a) (e := a) mu (.inl rfl) (fun b q hb z => (hs.2 b hb).trans z) ⟨o, h1⟩ (dO_ok hd h1 h2 h3)) ?_
    exact ((RDe.kvr ks ck r).put cx ix rx ly ry ko.2).back hw h5 fun e he => h4 e (Array.mem_toList_iff.mp he)
  · have dd := dictN hK hw I h ko ck r
    obtain ⟨b, eb, kb⟩ := keyN hK I cx ix rx lx
    subst eb
    obtain ⟨e1, _, _⟩ := tlsN_spec hK hw I ks (fun k hk => ⟨ck k hk, ko.2 k hk⟩) r
    have hl : (tlsN ks E).length ≤ sizeLine := by
      have := congrArg List.length e1
      rw [List.length_map] at this
      omega
    refine wpAny_setItem_heap (hsz := hl) (roomN hu) kb dd fun h' dd' hs => ?_
    obtain ⟨o, es, ep, h1, h2, h3, h4, _, h6⟩ := dd'
    have ev : xv = .ref b := by
      cases rx <;> first | (exfalso; simp [kc] at cx; done) | (cases lx; rfl)
    subst ev
    refine hq es.toList _ (I.write (x := a) (e := a) mu (.inl rfl) (fun b q hb z => (hs.2 b hb).trans z) ⟨o, h1⟩ (dO_ok hd h1 h2 h3)) ?_
    rw [h4]
    exact ((RDe.kvn ks ck r).put ix rx ly ry ko.2).back hw
/-- what is found, on the heap: d[x] there, x in d, d.get -/
theorem dict_get {A : Around} {E0 : Value → Shared → Prop} {a : Addr} {ks vs : List D} {E : List DictEntry} {x y : D} {xv : V} {xu : Value} {Q : Value → Shared → Prop} (hK : G.K = X.K) (hw : G.w = X.w) (hu : A.units + 200 < cLine) (I : Inv X pins σ H s)
    (h : H a = some (dO a E)) (ko : KOk ks) (r : RDe G H T ks vs E) (ok : okKey ks x = true) (rx : RD G H T x xv) (lx : RelV xv xu) (e : dget ks vs x = some y)
    (hq : ∀ u v s', Inv X pins σ H s' → RelV v u → RD G H T y v → Q u s') : s.TypeIs (.ref a) "dict" ∧ wpAny (model X.prog X.w) A (getItem (.ref a) xu) Q E0 s := by
  obtain ⟨ix, c⟩ := okKey_spec ok
  rcases c with ⟨cx, ck⟩ | ⟨cx, ck⟩
  · have dd := dictS hw I h ko ck r
    have f := foundS x ks (fun k hk => ⟨ck k hk, ko.2 k hk⟩) cx ix r
    rw [e] at f
    obtain ⟨v, u', f1, f2, f3⟩ := f
    exact ⟨dd.typeIs, wpAny_getItem_of (keyS cx rx lx) dd.mapOf f1 (hq _ _ _ (I.tok _) f2 f3)⟩
  · have dd := dictN hK hw I h ko ck r
    obtain ⟨b, eb, kb⟩ := keyN hK I cx ix rx lx
    subst eb
    have f := foundN x ks ko.2 ix r
    rw [e] at f
    obtain ⟨v, u', f1, f2, f3⟩ := f
    obtain ⟨p, hp, hp2⟩ := Option.map_eq_some_iff.mp f1
    refine ⟨dd.typeIs, wpAny_getItem_heap (roomN hu) kb dd hp ?_⟩
    rw [hp2]
    exact hq _ _ _ (I.tok _) f2 f3
theorem dict_has {A : Around} {E0 : Value → Shared → Prop} {a : Addr} {ks vs : List D} {E : List DictEntry} {x : D} {xv : V} {xu : Value} {Q : Value → Shared → Prop} (neg : Bool) (hK : G.K = X.K) (hw : G.w = X.w) (hu : A.units + 200 < cLine) (I : Inv X pins σ H s)
    (h : H a = some (dO a E)) (ko : KOk ks) (r : RDe G H T ks vs E) (ok : okKey ks x = true) (rx : RD G H T x xv) (lx : RelV xv xu)
    (hq : ∀ s', Inv X pins σ H s' → Q (.bool (if neg then !(dget ks vs x).isSome else (dget ks vs x).isSome)) s') : wpAny (model X.prog X.w) A (compareOp (if neg then .NotIn else .In) xu (.ref a)) Q E0 s := by
  obtain ⟨ix, c⟩ := okKey_spec ok
  obtain ⟨hd, _⟩ := dob I h
  rcases c with ⟨cx, ck⟩ | ⟨cx, ck⟩
  · have dd := dictS hw I h ko ck r
    have f := (foundS x ks (fun k hk => ⟨ck k hk, ko.2 k hk⟩) cx ix r).some_iff
    cases neg with
    | true => exact wpAny_notIn_of (keyS cx rx lx) hd dd.mapOf (by rw [f]; exact hq _ (I.tok _))
    | false => exact wpAny_in_of (keyS cx rx lx) hd dd.mapOf (by rw [f]; exact hq _ (I.tok _))
  · have dd := dictN hK hw I h ko ck r
    obtain ⟨b, eb, kb⟩ := keyN hK I cx ix rx lx
    subst eb
    have f := (foundN x ks ko.2 ix r).some_iff
    rw [Option.isSome_map] at f
    cases neg with
    | true => exact wpAny_notIn_heap (roomN hu) kb hd dd (by rw [f]; exact hq _ (I.tok _))
    | false => exact wpAny_in_heap (roomN hu) kb hd dd (by rw [f]; exact hq _ (I.tok _))
/-- d.get(x), d.get(x, z) -/
theorem dict_getm {A : Around} {E0 : Value → Shared → Prop} {a : Addr} {ks vs : List D} {E : List DictEntry} {x z : D} {xv zv : V} {xu zu : Value} {Q : Value → Shared → Prop} (two : Bool) (hK : G.K = X.K) (hw : G.w = X.w) (hu : A.units + 200 < cLine) (I : Inv X pins σ H s)
    (h : H a = some (dO a E)) (ko : KOk ks) (r : RDe G H T ks vs E) (ok : okKey ks x = true) (rx : RD G H T x xv) (lx : RelV xv xu) (rz : RD G H T z zv) (lz : RelV zv zu) (h1 : two = false → z = .non ∧ zu = .none)
    (hq : ∀ u v s', Inv X pins σ H s' → RelV v u → RD G H T ((dget ks vs x).getD z) v → Q u s') : wpAny (model X.prog X.w) A (call (.builtin "dict.get") (if two then [.ref a, xu, zu] else [.ref a, xu])) Q E0 s := by
  obtain ⟨ix, c⟩ := okKey_spec ok
  obtain ⟨hd, _⟩ := dob I h
  have fin : ∀ {u : Option Value} {s' : Shared}, Found G H T (dget ks vs x) u → Inv X pins σ H s' → Q (u.getD zu) s' := fun {u s'} f J => by
    cases e : dget ks vs x with
    | none =>
      rw [e] at f
      have f' : u = none := f
      subst f'
      refine hq zu zv s' J lz ?_
      rw [e]; exact rz
    | some d =>
      rw [e] at f
      obtain ⟨v, u', f1, f2, f3⟩ := f
      subst f1
      refine hq u' v s' J f2 ?_
      rw [e]; exact f3
  rcases c with ⟨cx, ck⟩ | ⟨cx, ck⟩
  · have dd := dictS hw I h ko ck r
    have f := foundS x ks (fun k hk => ⟨ck k hk, ko.2 k hk⟩) cx ix r
    cases two with
    | true => exact call_meetsIn PySem.F.slot_dict_get dd.typeIs PySem.F.entry_dict_get (PySem.F.args_dict_get_3 _ _ _) (meets_dict_get_default (mixKind X.prog X.w) a (keyS cx rx lx) hd zu) ⟨_, dd.mapOf, fin f (I.tok _)⟩
    | false =>
      obtain ⟨_, e2⟩ := h1 rfl
      subst e2
      exact call_meetsIn PySem.F.slot_dict_get dd.typeIs PySem.F.entry_dict_get (PySem.F.args_dict_get_2 _ _) (meets_dict_get (mixKind X.prog X.w) a (keyS cx rx lx) hd) ⟨_, dd.mapOf, fin f (I.tok _)⟩
  · have dd := dictN hK hw I h ko ck r
    obtain ⟨b, eb, kb⟩ := keyN hK I cx ix rx lx
    subst eb
    have f := foundN x ks ko.2 ix r
    cases two with
    | true => exact call_meetsIn PySem.F.slot_dict_get dd.typeIs PySem.F.entry_dict_get (PySem.F.args_dict_get_3 _ _ _) (meetsH_dict_get_default (nestedKind X.prog X.w) a b hd zu) ⟨roomN hu, nk x, _, kb, dd, fin f (I.tok _)⟩
    | false =>
      obtain ⟨_, e2⟩ := h1 rfl
      subst e2
      exact call_meetsIn PySem.F.slot_dict_get dd.typeIs PySem.F.entry_dict_get (PySem.F.args_dict_get_2 _ _) (meetsH_dict_get (nestedKind X.prog X.w) a b hd) ⟨roomN hu, nk x, _, kb, dd, fin f (I.tok _)⟩
end
end Pe

set_option linter.all false
set_option maxRecDepth 100000
set_option maxHeartbeats 4000000
namespace Pe
open PySem PySem.Spec PyProof.Rows L2
section
variable {X : Cx} {g : Rg} {σ : St} {H : Hp} {τ : List Addr} {h : Hh}
/-! ### in, is, subscripts, truth -/
def oIn (neg : Bool) : Op2 := fun a b h => match b with
  | .str z => match a with
    | .str [c] => .ok (.d (.bl (if neg then !decide (c ∈ z) else decide (c ∈ z)))) h
    | _ => .no
  | .dic ks vs => if okKey ks a then .ok (.d (.bl (if neg then !(dget ks vs a).isSome else (dget ks vs a).isSome))) h else .no
  | .tup xs => if fits 100 a && fitsL 100 xs then .ok (.d (.bl (if neg then !(xs.any fun y => eqv y a) else xs.any fun y => eqv y a))) h else .no
  | .lst xs => if fits 100 a && fitsL 100 xs then .ok (.d (.bl (if neg then !(xs.any fun y => eqv y a) else xs.any fun y => eqv y a))) h else .no
  | _ => .no
/-- in of lists and tuples, by the items' data -/
theorem any_py (a : D) (fa : fits 100 a = true) : ∀ xs : List D, fitsL 100 xs = true → ((pyL xs).any fun y => PyData.eqv y (py a)) = xs.any fun y => eqv y a
  | [], _ => rfl
  | x :: xs, h => by
    have h1 : fits 100 x = true ∧ fitsL 100 xs = true := by simpa [fitsL] using h
    simp only [pyL, List.any_cons]
    rw [any_py a fa xs h1.2, eqv_py 100 100 x a h1.1 fa]
theorem op_oIn (neg : Bool) (hK : g.G.K = X.K) (hw : g.G.w = X.w) (hu : X.A.units + 200 < cLine) : OpR X (compareOp (if neg then .NotIn else .In)) (r2 g (op2 (oIn neg))) := by
  intro pins s σ' H x y v u Q I rx ry q
  obtain ⟨σ, τ, h, a, b, R, va, vb, F⟩ := q.op
  unfold oIn at F
  split at F
  · obtain ⟨e2, z2⟩ := vb.str
    rw [e2] at ry
    split at F
    · rename_i z c
      obtain ⟨e1, z1⟩ := va.str
      rw [e1] at rx
      cases neg with
      | true => exact op_notIn_sign pins s σ' H _ _ v u Q I rx ry ⟨_, _, rfl, rfl, by simpa [txt] using F.bl R⟩
      | false => exact op_in_sign pins s σ' H _ _ v u Q I rx ry ⟨_, _, rfl, rfl, by simpa [txt] using F.bl R⟩
    · exact F.elim
  · rename_i ks vs
    obtain ⟨p, E, rfl, h1, ⟨z, ko⟩, r⟩ := vb.dict
    cases ry
    split at F
    · rename_i ok
      have ra : RD g.G H (Trk τ h) a x := by
        cases va with
        | rd r => exact r
        | lst _ _ _ => exact absurd (okKey_spec ok).1 (by simp [isKey])
        | dic _ _ _ => exact absurd (okKey_spec ok).1 (by simp [isKey])
      exact dict_has neg hK hw hu I h1 ko r ok ra rx fun s' J => ⟨.bl _, H, J, rfl, F.bl R⟩
    · exact F.elim
  · rename_i xs
    obtain ⟨p, vs, rfl, t1, z1, l1⟩ := vb.tup
    split at F
    · rename_i hf
      have hf' : fits 100 a = true ∧ fitsL 100 xs = true := by simpa using hf
      obtain ⟨as, ra⟩ := Dp.reads I _ _ _ (va.dp hK hf'.1) rx
      have dpt : Dp X.K H (.ref p) (py (.tup xs)) := by
        rw [hK] at t1
        simp only [py]
        exact .tup t1 (RDs.dp hK 100 _ _ hf'.2 l1)
      obtain ⟨bs, rb⟩ := Dp.reads I _ _ _ dpt ry
      obtain ⟨p1, d1⟩ := fits_plain _ _ hf'.1
      obtain ⟨p2, d2⟩ := fitsL_plain _ _ hf'.2
      simp only [py] at rb
      have hum : X.A.units + 1 + min (PyData.depthAll (pyL xs)) (py a).depth < cLine := by
        have : min (PyData.depthAll (pyL xs)) (py a).depth ≤ PyData.depthAll (pyL xs) := Nat.min_le_left _ _
        omega
      cases neg with
      | true => exact SeqAt.notIn_tuple_data rb ra p2 p1 hum ⟨.bl _, H, I, rfl, by rw [any_py a hf'.1 xs hf'.2]; exact F.bl R⟩
      | false => exact SeqAt.in_tuple_data rb ra p2 p1 hum ⟨.bl _, H, I, rfl, by rw [any_py a hf'.1 xs hf'.2]; exact F.bl R⟩
    · exact F.elim
  · rename_i xs
    obtain ⟨p, vs, rfl, t1, z1, l1⟩ := vb.lst_
    split at F
    · rename_i hf
      have hf' : fits 100 a = true ∧ fitsL 100 xs = true := by simpa using hf
      obtain ⟨as, ra⟩ := Dp.reads I _ _ _ (va.dp hK hf'.1) rx
      have dpt : Dp X.K H (.ref p) (py (.lst xs)) := by
        simp only [py]
        exact .lst (.of t1) (RDs.dp hK 100 _ _ hf'.2 l1)
      obtain ⟨bs, rb⟩ := Dp.reads I _ _ _ dpt ry
      obtain ⟨p1, d1⟩ := fits_plain _ _ hf'.1
      obtain ⟨p2, d2⟩ := fitsL_plain _ _ hf'.2
      simp only [py] at rb
      have hum : X.A.units + 1 + min (PyData.depthAll (pyL xs)) (py a).depth < cLine := by
        have : min (PyData.depthAll (pyL xs)) (py a).depth ≤ PyData.depthAll (pyL xs) := Nat.min_le_left _ _
        omega
      cases neg with
      | true => exact SeqAt.notIn_list_data rb ra p2 p1 hum ⟨.bl _, H, I, rfl, by rw [any_py a hf'.1 xs hf'.2]; exact F.bl R⟩
      | false => exact SeqAt.in_list_data rb ra p2 p1 hum ⟨.bl _, H, I, rfl, by rw [any_py a hf'.1 xs hf'.2]; exact F.bl R⟩
    · exact F.elim
  · exact F.elim
/-- is None, is True -/
def oIs (neg : Bool) : Op2 := fun a b h => match b with
  | .non => .ok (.d (.bl (if neg then notNon a else !notNon a))) h
  | .bl y => match a with
    | .bl x => .ok (.d (.bl (if neg then !decide (x = y) else decide (x = y)))) h
    | _ => .no
  | _ => .no
theorem isNon_rd {G : Cfg} {T : Addr → Prop} {d : D} {v : V} (r : VW G H T d v) : decide (v = .non) = !notNon d := by
  cases r with
  | rd r => cases r <;> rfl
  | lst _ _ _ => rfl
  | dic _ _ _ => rfl
theorem op_oIs (neg : Bool) : OpR X (compareOp (if neg then .IsNot else .Is)) (r2 g (op2 (oIs neg))) := by
  intro pins s σ' H x y v u Q I rx ry q
  obtain ⟨σ, τ, h, a, b, R, va, vb, F⟩ := q.op
  unfold oIs at F
  split at F
  · rw [vb.non] at ry
    have e := isNon_rd va
    cases neg with
    | true =>
      refine op_notN1 pins s σ' H _ _ v u Q I rx ry ⟨rfl, ?_⟩
      rw [e, Bool.not_not]
      exact F.bl R
    | false =>
      refine op_isN1 pins s σ' H _ _ v u Q I rx ry ⟨rfl, ?_⟩
      rw [e]
      exact F.bl R
  · rw [vb.bl] at ry
    split at F
    · rw [va.bl] at rx
      cases neg with
      | true => exact op_isnot_bl pins s σ' H _ _ v u Q I rx ry ⟨_, _, rfl, rfl, F.bl R⟩
      | false => exact op_is_bl pins s σ' H _ _ v u Q I rx ry ⟨_, _, rfl, rfl, F.bl R⟩
    · exact F.elim
  · exact F.elim
def oIx : Op2 := fun a b h => match a with
  | .dic ks vs => if okKey ks b then (match dget ks vs b with | some y => .ok (.d y) h | none => .no) else .no
  | .str z => match b with
    | .int i => match atI z i with
      | some c => .ok (.d (.str [c])) h
      | none => .no
    | _ => .no
  | .tup xs => match b with
    | .int i => match atI xs i with
      | some y => .ok (.d y) h
      | none => .no
    | _ => .no
  | .lst xs => match b with
    | .int i => match atI xs i with
      | some y => .ok (.d y) h
      | none => .no
    | _ => .no
  | .scr xs => match b with
    | .int i => match atI xs i with
      | some y => .ok (.d y) h
      | none => .no
    | _ => .no
  | _ => .no
theorem RDs.atI_ {G : Cfg} {T : Addr → Prop} {ds : List D} {vs : List V} (r : RDs G H T ds vs) {i : Int} {y : D} (e : atI ds i = some y) : ∃ v, atI vs i = some v ∧ RD G H T y v := by
  unfold atI at e ⊢
  rw [← r.len]
  cases q : ixN ds.length i with
  | none => rw [q] at e; cases e
  | some j =>
    rw [q] at e
    obtain ⟨v, e1, e2⟩ := r.get (show ds[j]? = some y from e)
    exact ⟨v, e1, e2⟩
theorem ix_oIx (hK : g.G.K = X.K) (hw : g.G.w = X.w) (hu : X.A.units + 200 < cLine) : IxR X (r2 g (op2 oIx)) := by
  intro value slice pins s σ' H x y v u Q I rx ry q hs
  obtain ⟨σ, τ, h, a, b, R, va, vb, F⟩ := q.op
  unfold oIx at F
  split at F
  · rename_i ks vs
    obtain ⟨p, E, rfl, h1, ⟨z, ko⟩, r⟩ := va.dict
    cases rx
    split at F
    · rename_i ok
      have rb : RD g.G H (Trk τ h) b y := by
        cases vb with
        | rd r => exact r
        | lst _ _ _ => exact absurd (okKey_spec ok).1 (by simp [isKey])
        | dic _ _ _ => exact absurd (okKey_spec ok).1 (by simp [isKey])
      split at F
      · rename_i w e
        obtain ⟨ht, hg⟩ := dict_get (A := X.A) (E0 := X.xe) (Q := EP X pins σ' Q) hK hw hu I h1 ko r ok rb ry e fun u' v' s' J l rd => ⟨v', H, J, l, F.val R rd⟩
        exact tail_any ht PySem.F.slot_dict_getitem.lookup hg hs
      · exact F.elim
    · exact F.elim
  · obtain ⟨e1, z1⟩ := va.str
    rw [e1] at rx
    split at F
    · rw [vb.int] at ry
      split at F
      · rename_i e
        exact ix_str value slice pins s σ' H _ _ v u Q I rx ry ⟨_, _, _, rfl, rfl, by rw [txt_len]; exact z1, by simpa [txt] using e, F.val R (.str _ (by rw [szEq]; exact (by decide : 1 ≤ SZ)))⟩ hs
      · exact F.elim
    · exact F.elim
  · obtain ⟨p, vs, rfl, t1, z1, l1⟩ := va.tup
    split at F
    · rw [vb.int] at ry
      split at F
      · rename_i e
        obtain ⟨w', e', rw'⟩ := l1.atI_ e
        rw [hK] at t1
        exact ix_tup value slice pins s σ' H _ _ v u Q I rx ry ⟨p, vs, _, w', rfl, rfl, t1, e', F.val R rw'⟩ hs
      · exact F.elim
    · exact F.elim
  · obtain ⟨p, vs, rfl, t1, z1, l1⟩ := va.lst_
    split at F
    · rw [vb.int] at ry
      split at F
      · rename_i e
        obtain ⟨w', e', rw'⟩ := l1.atI_ e
        exact ix_list value slice pins s σ' H _ _ v u Q I rx ry ⟨p, vs, _, w', rfl, rfl, .of t1, e', F.val R rw'⟩ hs
      · exact F.elim
    · exact F.elim
  · obtain ⟨p, vs, rfl, t1, z1, l1⟩ := va.scr
    split at F
    · rw [vb.int] at ry
      split at F
      · rename_i e
        obtain ⟨w', e', rw'⟩ := l1.atI_ e
        rw [hK] at t1
        exact ix_list value slice pins s σ' H _ _ v u Q I rx ry ⟨p, vs, _, w', rfl, rfl, t1, e', F.val R rw'⟩ hs
      · exact F.elim
    · exact F.elim
  · exact F.elim
/-- truth -/
def D.tru : D → Option Bool
  | .non => some false
  | .bl b => some b
  | .int i => some (i != 0)
  | .str s => some !s.isEmpty
  | .tup xs => some !xs.isEmpty
  | .lst xs => some !xs.isEmpty
  | .scr xs => some !xs.isEmpty
  | _ => none
def W.tru (w : W) (h : Hh) : Option Bool := (w.val h).bind D.tru
theorem emp_len {α β : Type} {xs : List α} {ys : List β} (h : xs.length = ys.length) : xs.isEmpty = ys.isEmpty := by
  cases xs <;> cases ys <;> first | rfl | cases h
theorem VW.truV (hK : g.G.K = X.K) {T : Addr → Prop} {d : D} {v : V} {b : Bool} (r : VW g.G H T d v) (e : d.tru = some b) : TruV X.K v H b := by
  cases d with
  | non => rw [r.non]; cases e; rfl
  | bl c => rw [r.bl]; cases e; rfl
  | int c => rw [r.int]; cases e; rfl
  | str c =>
    obtain ⟨e1, z⟩ := r.str
    rw [e1]
    cases e
    refine ⟨by rw [txt_len]; exact z, ?_⟩
    rw [txt_len]
    cases c with
    | nil => rfl
    | cons a c =>
      show (!false) = _
      rw [List.length_cons]
      symm
      simp
      omega
  | tup xs =>
    obtain ⟨p, vs, rfl, t1, z1, l1⟩ := r.tup
    rw [hK] at t1
    cases e
    exact .inr (.inl ⟨vs, t1, by rw [emp_len l1.len]⟩)
  | lst xs =>
    obtain ⟨p, vs, rfl, t1, z1, l1⟩ := r.lst_
    cases e
    exact .inl ⟨vs, .of t1, by rw [emp_len l1.len]⟩
  | scr xs =>
    obtain ⟨p, vs, rfl, t1, z1, l1⟩ := r.scr
    rw [hK] at t1
    cases e
    exact .inl ⟨vs, t1, by rw [emp_len l1.len]⟩
  | _ => cases e
end
end Pe

set_option linter.all false
set_option maxRecDepth 100000
set_option maxHeartbeats 4000000
namespace Pe
open PySem PySem.Spec PyProof.Rows L2
/-! ### built-in functions -/
abbrev OpL := List D → Hh → Rs W
def valsW : List W → Hh → Option (List D)
  | [], _ => some []
  | w :: ws, h => match w.val h with
    | some d => match valsW ws h with
      | some ds => some (d :: ds)
      | none => none
    | none => none
def opL (f : OpL) (ws : List W) (h : Hh) : Rs W := match valsW ws h with
  | some ds => f ds h
  | none => .no
inductive VWs (G : Cfg) (H : Hp) (T : Addr → Prop) : List D → List V → Prop
  | nil : VWs G H T [] []
  | cons {d : D} {ds : List D} {v : V} {vs : List V} : VW G H T d v → VWs G H T ds vs → VWs G H T (d :: ds) (v :: vs)
def rB (g : Rg) (f : List W → Hh → Rs W) : List V → Hp → VK → Prop := fun xs H Q => ∃ σ τ h ws, HR g.G H τ h ∧ RWs g.G H τ h ws xs ∧ Fin g σ H τ h (f ws h) Q
section
variable {X : Cx} {g : Rg} {σ : St} {H : Hp} {τ : List Addr} {h : Hh}
theorem RWs.views (R : HR g.G H τ h) : ∀ {ws : List W} {vs : List V} {ds : List D}, RWs g.G H τ h ws vs → valsW ws h = some ds → VWs g.G H (Trk τ h) ds vs
  | _, _, _, .nil, e => by cases e; exact .nil
  | w :: ws, _, _, .cons a b, e => by
    unfold valsW at e
    split at e
    · rename_i d e1
      split at e
      · rename_i ds e2
        cases e
        exact .cons (a.view R e1) (b.views R e2)
      · cases e
    · cases e
theorem rB.op {f : OpL} {xs : List V} {Q : VK} (q : rB g (opL f) xs H Q) : ∃ σ τ h ds, HR g.G H τ h ∧ VWs g.G H (Trk τ h) ds xs ∧ Fin g σ H τ h (f ds h) Q := by
  obtain ⟨σ, τ, h, ws, R, a, F⟩ := q
  unfold opL at F
  split at F
  · rename_i ds e
    exact ⟨σ, τ, h, ds, R, a.views R e, F⟩
  · exact F.elim
theorem VWs.one {G : Cfg} {T : Addr → Prop} {d : D} {xs : List V} (r : VWs G H T [d] xs) : ∃ v, xs = [v] ∧ VW G H T d v := by
  cases r with
  | cons a b => cases b; exact ⟨_, rfl, a⟩
theorem VWs.two {G : Cfg} {T : Addr → Prop} {d e : D} {xs : List V} (r : VWs G H T [d, e] xs) : ∃ v u, xs = [v, u] ∧ VW G H T d v ∧ VW G H T e u := by
  cases r with
  | cons a b =>
    obtain ⟨u, rfl, c⟩ := b.one
    exact ⟨_, u, rfl, a, c⟩
/-- len -/
def bLen : OpL := fun ds h => match ds with
  | [.str s] => .ok (.d (.int s.length)) h
  | [.tup xs] => .ok (.d (.int xs.length)) h
  | [.lst xs] => .ok (.d (.int xs.length)) h
  | [.scr xs] => .ok (.d (.int xs.length)) h
  | _ => .no
theorem cr_bLen (hK : g.G.K = X.K) : CallR X (.builtin "len") (rB g (opL bLen)) := by
  intro pins s σ' H xs us Q I r q
  obtain ⟨σ, τ, h, ds, R, vl, F⟩ := q.op
  unfold bLen at F
  split at F
  · obtain ⟨v, rfl, va⟩ := vl.one
    obtain ⟨rfl, z⟩ := va.str
    exact call_len_str pins s σ' H _ us Q I r ⟨_, rfl, by rw [txt_len]; exact z, by rw [txt_len]; exact F.int R⟩
  · obtain ⟨v, rfl, va⟩ := vl.one
    obtain ⟨p, vs, rfl, t1, z1, l1⟩ := va.tup
    rw [hK] at t1
    exact call_len_seq pins s σ' H _ us Q I r ⟨p, vs, rfl, .inr t1, by rw [← l1.len]; exact F.int R⟩
  · obtain ⟨v, rfl, va⟩ := vl.one
    obtain ⟨p, vs, rfl, t1, z1, l1⟩ := va.lst_
    exact call_len_seq pins s σ' H _ us Q I r ⟨p, vs, rfl, .inl (.of t1), by rw [← l1.len]; exact F.int R⟩
  · obtain ⟨v, rfl, va⟩ := vl.one
    obtain ⟨p, vs, rfl, t1, z1, l1⟩ := va.scr
    rw [hK] at t1
    exact call_len_seq pins s σ' H _ us Q I r ⟨p, vs, rfl, .inl t1, by rw [← l1.len]; exact F.int R⟩
  · exact F.elim
/-- int(x), x an int or a bool -/
def bInt : OpL := fun ds h => match ds with
  | [.int i] => .ok (.d (.int i)) h
  | [.bl b] => .ok (.d (.int (if b then 1 else 0))) h
  | _ => .no
theorem cr_bInt : CallR X (.type "int") (rB g (opL bInt)) := by
  intro pins s σ' H xs us Q I r q
  obtain ⟨σ, τ, h, ds, R, vl, F⟩ := q.op
  unfold bInt at F
  split at F
  · obtain ⟨v, rfl, va⟩ := vl.one
    rw [va.int] at r
    exact call_int1 pins s σ' H _ us Q I r (.inl ⟨_, rfl, F.int R⟩)
  · obtain ⟨v, rfl, va⟩ := vl.one
    rw [va.bl] at r
    exact call_int1 pins s σ' H _ us Q I r (.inr ⟨_, rfl, F.int R⟩)
  · exact F.elim
def bAbs : OpL := fun ds h => match ds with
  | [.int i] => .ok (.d (.int (if i < 0 then -i else i))) h
  | _ => .no
theorem cr_bAbs : CallR X (.builtin "abs") (rB g (opL bAbs)) := by
  intro pins s σ' H xs us Q I r q
  obtain ⟨σ, τ, h, ds, R, vl, F⟩ := q.op
  unfold bAbs at F
  split at F
  · obtain ⟨v, rfl, va⟩ := vl.one
    rw [va.int] at r
    exact call_abs pins s σ' H _ us Q I r ⟨_, rfl, F.int R⟩
  · exact F.elim
/-- all ints -/
def ints? : List D → Option (List Int)
  | [] => some []
  | .int i :: xs => match ints? xs with
    | some ns => some (i :: ns)
    | none => none
  | _ => none
def bls? : List D → Option (List Bool)
  | [] => some []
  | .bl i :: xs => match bls? xs with
    | some ns => some (i :: ns)
    | none => none
  | _ => none
theorem RDs.ints_ {G : Cfg} {T : Addr → Prop} : ∀ {ds : List D} {vs : List V} {ns : List Int}, RDs G H T ds vs → ints? ds = some ns → vs = ns.map V.int
  | _, _, _, .nil, e => by cases e; rfl
  | d :: ds, _, _, .cons a b, e => by
    cases d with
    | int i =>
      unfold ints? at e
      split at e
      · rename_i ns e2
        cases e
        cases a
        rw [List.map_cons, ← b.ints_ e2]
      · cases e
    | _ => simp [ints?] at e
theorem RDs.bls_ {G : Cfg} {T : Addr → Prop} : ∀ {ds : List D} {vs : List V} {ns : List Bool}, RDs G H T ds vs → bls? ds = some ns → vs = ns.map V.bl
  | _, _, _, .nil, e => by cases e; rfl
  | d :: ds, _, _, .cons a b, e => by
    cases d with
    | bl i =>
      unfold bls? at e
      split at e
      · rename_i ns e2
        cases e
        cases a
        rw [List.map_cons, ← b.bls_ e2]
      · cases e
    | _ => simp [bls?] at e
def ahead (big : Bool) (m x : Int) : Bool := match big with
  | true => decide (m < x)
  | false => decide (x < m)
def best (big : Bool) : Int → List Int → Int
  | m, [] => m
  | m, x :: xs => match ahead big m x with
    | true => best big x xs
    | false => best big m xs
def upto (big : Bool) (y m : Int) : Prop := match big with
  | true => y ≤ m
  | false => m ≤ y
theorem upto_refl (big : Bool) (y : Int) : upto big y y := by cases big <;> exact Int.le_refl _
theorem upto_trans {big : Bool} {x y z : Int} (a : upto big x y) (b : upto big y z) : upto big x z := by
  cases big
  · exact Int.le_trans b a
  · exact Int.le_trans a b
theorem ahead_upto {big : Bool} {m x : Int} : (ahead big m x = true → upto big m x) ∧ (ahead big m x = false → upto big x m) := by
  cases big <;> simp [ahead, upto] <;> omega
theorem best_spec (big : Bool) : ∀ (xs : List Int) (m : Int), best big m xs ∈ m :: xs ∧ ∀ y ∈ m :: xs, upto big y (best big m xs)
  | [], m => ⟨List.mem_singleton.mpr rfl, fun y hy => by rw [List.mem_singleton] at hy; subst hy; exact upto_refl _ _⟩
  | x :: xs, m => by
    unfold best
    cases c : ahead big m x with
    | true =>
      obtain ⟨a, b⟩ := best_spec big xs x
      refine ⟨List.mem_cons_of_mem _ a, fun y hy => ?_⟩
      rcases List.mem_cons.mp hy with e | hy
      · subst e
        exact upto_trans (ahead_upto.1 c) (b x List.mem_cons_self)
      · exact b y hy
    | false =>
      obtain ⟨a, b⟩ := best_spec big xs m
      refine ⟨?_, fun y hy => ?_⟩
      · rcases List.mem_cons.mp a with e | a
        · show best big m xs ∈ _
          rw [e]; exact List.mem_cons_self
        · exact List.mem_cons_of_mem _ (List.mem_cons_of_mem _ a)
      · rcases List.mem_cons.mp hy with e | hy
        · subst e; exact b y List.mem_cons_self
        · rcases List.mem_cons.mp hy with e | hy
          · subst e
            exact upto_trans (ahead_upto.2 c) (b m List.mem_cons_self)
          · exact b y (List.mem_cons_of_mem _ hy)
/-- max, min: of two ints, of a list of ints -/
def bBest (big : Bool) : OpL := fun ds h => match ds with
  | [.int i, .int j] => .ok (.d (.int (if big then (if j > i then j else i) else (if j < i then j else i)))) h
  | [.lst xs] => match ints? xs with
    | some (n :: ns) => .ok (.d (.int (best big n ns))) h
    | _ => .no
  | _ => .no
theorem cr_bMax (hc : X.calm = true) : CallR X (.builtin "max") (rB g (opL (bBest true))) := by
  intro pins s σ' H xs us Q I r q
  obtain ⟨σ, τ, h, ds, R, vl, F⟩ := q.op
  unfold bBest at F
  split at F
  · obtain ⟨v, u, rfl, va, vb⟩ := vl.two
    rw [va.int, vb.int] at r
    exact call_max2 hc pins s σ' H _ us Q I r ⟨_, _, rfl, F.int R⟩
  · obtain ⟨v, rfl, va⟩ := vl.one
    obtain ⟨p, vs, rfl, t1, z1, l1⟩ := va.lst_
    split at F
    · rename_i n ns e
      have e2 := l1.ints_ e
      subst e2
      refine cr_max hc pins s σ' H _ us Q I r ⟨p, n :: ns, rfl, .of t1, by simp, fun m hm hb => ?_⟩
      obtain ⟨a, b⟩ := best_spec true ns n
      have h1 := hb _ a
      have h2 : m ≤ best true n ns := b m hm
      have : m = best true n ns := by omega
      subst this
      exact F.int R
    · exact F.elim
  · exact F.elim
theorem cr_bMin (hc : X.calm = true) : CallR X (.builtin "min") (rB g (opL (bBest false))) := by
  intro pins s σ' H xs us Q I r q
  obtain ⟨σ, τ, h, ds, R, vl, F⟩ := q.op
  unfold bBest at F
  split at F
  · obtain ⟨v, u, rfl, va, vb⟩ := vl.two
    rw [va.int, vb.int] at r
    exact call_min2 hc pins s σ' H _ us Q I r ⟨_, _, rfl, F.int R⟩
  · obtain ⟨v, rfl, va⟩ := vl.one
    obtain ⟨p, vs, rfl, t1, z1, l1⟩ := va.lst_
    split at F
    · rename_i n ns e
      have e2 := l1.ints_ e
      subst e2
      refine cr_min hc pins s σ' H _ us Q I r ⟨p, n :: ns, rfl, .of t1, by simp, fun m hm hb => ?_⟩
      obtain ⟨a, b⟩ := best_spec false ns n
      have h1 := hb _ a
      have h2 : best false n ns ≤ m := b m hm
      have : m = best false n ns := by omega
      subst this
      exact F.int R
    · exact F.elim
  · exact F.elim
/-- sum, all, any of a list -/
def bSum : OpL := fun ds h => match ds with
  | [.lst xs] => match ints? xs with
    | some ns => .ok (.d (.int ns.sum)) h
    | _ => .no
  | [.scr xs] => match ints? xs with
    | some ns => .ok (.d (.int ns.sum)) h
    | _ => .no
  | _ => .no
theorem cr_bSum (hK : g.G.K = X.K) (hc : X.calm = true) : CallR X (.builtin "sum") (rB g (opL bSum)) := by
  intro pins s σ' H xs us Q I r q
  obtain ⟨σ, τ, h, ds, R, vl, F⟩ := q.op
  unfold bSum at F
  split at F
  · obtain ⟨v, rfl, va⟩ := vl.one
    obtain ⟨p, vs, rfl, t1, z1, l1⟩ := va.lst_
    split at F
    · rename_i ns e
      have e2 := l1.ints_ e
      subst e2
      exact cr_sum hc pins s σ' H _ us Q I r ⟨p, ns, rfl, .of t1, F.int R⟩
    · exact F.elim
  · obtain ⟨v, rfl, va⟩ := vl.one
    obtain ⟨p, vs, rfl, t1, z1, l1⟩ := va.scr
    rw [hK] at t1
    split at F
    · rename_i ns e
      have e2 := l1.ints_ e
      subst e2
      exact cr_sum hc pins s σ' H _ us Q I r ⟨p, ns, rfl, t1, F.int R⟩
    · exact F.elim
  · exact F.elim
def bQ (ev : Bool) : OpL := fun ds h => match ds with
  | [.lst xs] => match bls? xs with
    | some ns => .ok (.d (.bl (if ev then ns.all id else ns.any id))) h
    | _ => .no
  | _ => .no
theorem cr_bAll (hc : X.calm = true) : CallR X (.builtin "all") (rB g (opL (bQ true))) := by
  intro pins s σ' H xs us Q I r q
  obtain ⟨σ, τ, h, ds, R, vl, F⟩ := q.op
  unfold bQ at F
  split at F
  · obtain ⟨v, rfl, va⟩ := vl.one
    obtain ⟨p, vs, rfl, t1, z1, l1⟩ := va.lst_
    split at F
    · rename_i ns e
      have e2 := l1.bls_ e
      subst e2
      exact cr_all hc pins s σ' H _ us Q I r ⟨p, ns, rfl, .of t1, F.bl R⟩
    · exact F.elim
  · exact F.elim
theorem cr_bAny (hc : X.calm = true) : CallR X (.builtin "any") (rB g (opL (bQ false))) := by
  intro pins s σ' H xs us Q I r q
  obtain ⟨σ, τ, h, ds, R, vl, F⟩ := q.op
  unfold bQ at F
  split at F
  · obtain ⟨v, rfl, va⟩ := vl.one
    obtain ⟨p, vs, rfl, t1, z1, l1⟩ := va.lst_
    split at F
    · rename_i ns e
      have e2 := l1.bls_ e
      subst e2
      exact cr_any hc pins s σ' H _ us Q I r ⟨p, ns, rfl, .of t1, F.bl R⟩
    · exact F.elim
  · exact F.elim
/-- list(x), tuple(x) -/
def bList : OpL := fun ds h => match ds with
  | [d] => match d.seq? with
    | some xs => .ok (.r h.length) (h ++ [.lst xs])
    | none => .no
  | _ => .no
theorem cr_bList (hK : g.G.K = X.K) : CallR X (.type "list") (rB g (opL bList)) := by
  intro pins s σ' H xs us Q I r q
  obtain ⟨σ, τ, h, ds, R, vl, F⟩ := q.op
  unfold bList at F
  split at F
  · obtain ⟨v, rfl, va⟩ := vl.one
    split at F
    · rename_i e
      obtain ⟨p, vs, rfl, t1, z1, l1⟩ := va.seq e
      rw [hK] at t1
      exact call_list_of pins s σ' H _ us Q I r ⟨p, vs, rfl, t1, fun l nl => F.lst R l1 z1 nl⟩
    · exact F.elim
  · exact F.elim
def bTup : OpL := fun ds h => match ds with
  | [d] => match d.seq? with
    | some xs => .ok (.d (.tup xs)) h
    | none => .no
  | _ => .no
theorem cr_bTup (hK : g.G.K = X.K) : CallR X (.type "tuple") (rB g (opL bTup)) := by
  intro pins s σ' H xs us Q I r q
  obtain ⟨σ, τ, h, ds, R, vl, F⟩ := q.op
  unfold bTup at F
  split at F
  · obtain ⟨v, rfl, va⟩ := vl.one
    split at F
    · rename_i e
      obtain ⟨p, vs, rfl, t1, z1, l1⟩ := va.seqX e
      rcases t1 with t1 | ⟨t1, rd1⟩
      · rw [hK] at t1
        exact call_tupleX pins s σ' H _ us Q I r ⟨p, vs, rfl, .inl ⟨t1, fun l its nl => F.tup R l1 z1 nl⟩⟩
      · have F' := F.val R rd1
        rw [hK] at t1
        exact call_tupleX pins s σ' H _ us Q I r ⟨p, vs, rfl, .inr ⟨t1, F'⟩⟩
    · exact F.elim
  · exact F.elim
/-! #### repr -/
mutual
def bulkD : D → Nat
  | .str x => x.length
  | .lst xs => bulkDL xs
  | .tup xs => bulkDL xs
  | _ => 0
def bulkDL : List D → Nat
  | [] => 0
  | x :: xs => bulkD x + 1 + bulkDL xs
end
mutual
/-- what repr may be asked of -/
def shw : D → Bool
  | .non => true
  | .bl _ => true
  | .int i => decide (i.natAbs.log2 < 1920)
  | .str x => x.all fun c => decide (c < 4294967296)
  | .lst xs => shwL xs
  | .tup xs => shwL xs
  | _ => false
def shwL : List D → Bool
  | [] => true
  | x :: xs => shw x && shwL xs
end
mutual
theorem shw_ok : ∀ d : D, shw d = true → (py d).showable = true ∧ (py d).leavesShort 1921 = true ∧ (py d).bulk = bulkD d ∧ (py d).hasDict = false
  | .non, _ => ⟨rfl, rfl, rfl, rfl⟩
  | .bl _, _ => ⟨rfl, rfl, rfl, rfl⟩
  | .int i, h => by
    have h' : i.natAbs.log2 < 1920 := by simpa [shw] using h
    refine ⟨by simpa [py, PyData.showable] using h', ?_, rfl, rfl⟩
    have k := int_text_length_le (a := i) (k := 1920) (by decide) h'
    have e := PySem.ofString_length (toString i)
    have z : (PyData.shown (.int i)).length ≤ 1921 := by
      show (Str.ofString (toString i)).length ≤ 1921
      omega
    exact decide_eq_true z
  | .str x, h => by
    have h' : ∀ c ∈ x, c < 4294967296 := by simpa [shw] using h
    refine ⟨rfl, ?_, ?_, rfl⟩
    · simp only [py, PyData.leavesShort, List.all_eq_true, decide_eq_true_eq]
      intro c hc
      have : c ∈ x := by simpa [txt] using hc
      exact Nat.lt_of_lt_of_le (h' c this) (by decide)
    · simp [py, PyData.bulk, bulkD]
  | .lst xs, h => by
    obtain ⟨a, b, c, e⟩ := shwL_ok xs (by simpa [shw] using h)
    simp only [py, PyData.showable, PyData.leavesShort, PyData.bulk, PyData.hasDict, bulkD]
    exact ⟨a, b, c, e⟩
  | .tup xs, h => by
    obtain ⟨a, b, c, e⟩ := shwL_ok xs (by simpa [shw] using h)
    simp only [py, PyData.showable, PyData.leavesShort, PyData.bulk, PyData.hasDict, bulkD]
    exact ⟨a, b, c, e⟩
  | .scr _, h => by simp [shw] at h
  | .dic _ _, h => by simp [shw] at h
  | .set _, h => by simp [shw] at h
  | .fn _, h => by simp [shw] at h
  | .cls _, h => by simp [shw] at h
  | .clo _ _, h => by simp [shw] at h
  | .ins _ _, h => by simp [shw] at h
theorem shwL_ok : ∀ ds : List D, shwL ds = true → PyData.showableAll (pyL ds) = true ∧ PyData.leavesShortAll 1921 (pyL ds) = true ∧ PyData.bulkAll (pyL ds) = bulkDL ds ∧ PyData.hasDictAll (pyL ds) = false
  | [], _ => ⟨rfl, rfl, rfl, rfl⟩
  | d :: ds, h => by
    have h1 : shw d = true ∧ shwL ds = true := by simpa [shwL] using h
    obtain ⟨a, b, c, e⟩ := shw_ok d h1.1
    obtain ⟨a', b', c', e'⟩ := shwL_ok ds h1.2
    simp only [pyL, PyData.showableAll, PyData.leavesShortAll, PyData.bulkAll, PyData.hasDictAll, bulkDL]
    exact ⟨by rw [a, a']; rfl, by rw [b, b']; rfl, by rw [c, c'], by rw [e, e']; rfl⟩
end
def shows (d : D) : Bool := fits 100 d && shw d && decide (bulkD d ≤ 8000)
theorem shown_ok {d : D} (h : shows d = true) : fits 100 d = true ∧ (py d).showable = true ∧ (py d).hasDict = false ∧ (py d).shown.length ≤ sizeLine := by
  have h' : (fits 100 d = true ∧ shw d = true) ∧ bulkD d ≤ 8000 := by simpa [shows] using h
  obtain ⟨⟨a, b⟩, c⟩ := h'
  obtain ⟨e1, e2, e3, e4⟩ := shw_ok d b
  refine ⟨a, e1, e4, ?_⟩
  have := PyData.shown_le_bulk 1921 (by decide) (py d) e2
  rw [e3] at this
  have k : (1921 + 2) * bulkD d ≤ (1921 + 2) * 8000 := Nat.mul_le_mul_left _ c
  rw [szEq]
  have : (py d).shown.length ≤ 1923 * 8000 + 1921 := by omega
  exact Nat.le_trans this (by decide)
/-- repr(x) at the values' level -/
theorem call_repr_any (hg : X.A.guards = some []) (hu : X.A.units + 200 < cLine) : CallR X (.builtin "repr") (fun xs H Q => ∃ (v : V) (d : D), xs = [v] ∧ shows d = true ∧ Dp X.K H v (py d) ∧ Q (.str (py d).shown) H) := by
  intro pins s σ H xs us Q I r q
  obtain ⟨v, d, rfl, hs, dp, q⟩ := q
  obtain ⟨f, e1, e2, e3⟩ := shown_ok hs
  obtain ⟨u, rfl, ru⟩ := vals1 r
  obtain ⟨as, rd⟩ := Dp.reads I _ _ _ dp ru
  have dd := (fits_plain _ _ f).2
  cases d with
  | non =>
    cases dp; cases ru
    exact PySem.P.repr_of_none ⟨.str _, H, I.tok _, ⟨_, rfl⟩, q⟩
  | bl b =>
    cases dp; cases ru
    exact PySem.P.repr_of_bool ⟨.str _, H, I.tok _, ⟨_, rfl⟩, q⟩
  | int i =>
    cases dp
    obtain ⟨t, rfl⟩ := ru
    exact PySem.P.repr_of_int (by simpa [py, PyData.showable] using e1) ⟨.str _, H, I.tok _, ⟨_, rfl⟩, q⟩
  | str x =>
    cases dp
    obtain ⟨t, rfl⟩ := ru
    exact PySem.P.repr_of_str ⟨.str _, H, I.tok _, ⟨_, rfl⟩, q⟩ e3
  | lst xs =>
    cases dp
    cases ru
    exact repr_of_reads' rd e1 (PyData.noDict_hsm e2) hg (by omega) (fun _ _ e => e) (fun h' u tk hk => ⟨.str _, H, I.kept hk, ⟨_, rfl⟩, q⟩) e3
  | tup xs =>
    cases dp
    cases ru
    exact repr_of_reads' rd e1 (PyData.noDict_hsm e2) hg (by omega) (fun _ _ e => e) (fun h' u tk hk => ⟨.str _, H, I.kept hk, ⟨_, rfl⟩, q⟩) e3
  | _ => exact absurd f (by simp [fits])
end
end Pe

set_option linter.all false
set_option maxRecDepth 100000
set_option maxHeartbeats 4000000
namespace Pe
open PySem PySem.Spec PyProof.Rows L2
/-! ### meanings put together -/
abbrev ML := Sl → Hh → Rs (List W)
abbrev MT := Sl → Hh → Rs Bool
def mVar (i : Nat) : M := fun σ h => match σ[i]? with
  | some (some w) => .ok w h
  | _ => .no
def mCon (d : D) : M := fun _ h => .ok (.d d) h
def mBin (f : W → W → Hh → Rs W) (a b : M) : M := fun σ h => (a σ h).bind fun x h1 => (b σ h1).bind fun y h2 => f x y h2
def mUn (f : W → Hh → Rs W) (a : M) : M := fun σ h => (a σ h).bind fun x h1 => f x h1
/-- data come: what was made on the way is forgotten -/
def clR (n : Nat) : Rs W → Rs W
  | .ok (.d v) h => .ok (.d v) (h.take n)
  | r => r
def mCl (m : M) : M := fun σ h => clR h.length (m σ h)
/-- what comes may change no more -/
def fzW (w : W) (h : Hh) : Option (D × Hh) := match w with
  | .d v => some (v, h)
  | .r n => match h[n]? with
    | some o => some (o.val, h.set n (.fz o.val))
    | none => none
def fzR (n : Nat) : Rs W → Rs W
  | .ok w h => match fzW w h with
    | some (v, h') => .ok (.d v) (h'.take n)
    | none => .no
  | r => r
def mFz (m : M) : M := fun σ h => fzR h.length (m σ h)
def mNil : ML := fun _ h => .ok [] h
def mCons (a : M) (r : ML) : ML := fun σ h => (a σ h).bind fun x h1 => (r σ h1).bind fun xs h2 => .ok (x :: xs) h2
def fzL : List W → Hh → Option (List D × Hh)
  | [], h => some ([], h)
  | w :: ws, h => match fzW w h with
    | some (v, h1) => match fzL ws h1 with
      | some (vs, h2) => some (v :: vs, h2)
      | none => none
    | none => none
def tupR (ws : List W) (h : Hh) : Rs W := match fzL ws h with
  | some (vs, h') => if vs.length ≤ SZ then .ok (.d (.tup vs)) h' else .no
  | none => .no
def lstR (ws : List W) (h : Hh) : Rs W := match fzL ws h with
  | some (vs, h') => if vs.length ≤ SZ then .ok (.r h'.length) (h' ++ [.lst vs]) else .no
  | none => .no
def mArg (f : List W → Hh → Rs W) (a : ML) : M := fun σ h => (a σ h).bind fun ws h1 => f ws h1
/-! tests -/
def tru (w : W) (h : Hh) : Rs Bool := match w.tru h with
  | some b => .ok b h
  | none => .no
def clB (n : Nat) : Rs Bool → Rs Bool
  | .ok v h => .ok v (h.take n)
  | r => r
def mTru (m : M) : MT := fun σ h => clB h.length ((m σ h).bind fun w h1 => tru w h1)
def mTNot (t : MT) : MT := fun σ h => (t σ h).bind fun b h1 => .ok (!b) h1
def mTAnd (t u : MT) : MT := fun σ h => (t σ h).bind fun b h1 => match b with
  | true => u σ h1
  | false => .ok false h1
def mTOr (t u : MT) : MT := fun σ h => (t σ h).bind fun b h1 => match b with
  | true => .ok true h1
  | false => u σ h1
def mTIf (t u v : MT) : MT := fun σ h => (t σ h).bind fun b h1 => match b with
  | true => u σ h1
  | false => v σ h1
def mIf (t : MT) (u v : M) : M := fun σ h => (t σ h).bind fun b h1 => match b with
  | true => u σ h1
  | false => v σ h1
/-- and, or, not as values -/
def mAnd (a b : M) : M := fun σ h => (a σ h).bind fun w h1 => match w.tru h1 with
  | some true => b σ h1
  | some false => .ok w h1
  | none => .no
def mOr (a b : M) : M := fun σ h => (a σ h).bind fun w h1 => match w.tru h1 with
  | some true => .ok w h1
  | some false => b σ h1
  | none => .no
def mNot (a : M) : M := fun σ h => (a σ h).bind fun w h1 => match w.tru h1 with
  | some b => .ok (.d (.bl !b)) h1
  | none => .no
/-- a < b < c -/
def chK (k : Hh → Rs W) : W → Hh → Rs W
  | .d (.bl true), h => k h
  | .d (.bl false), h => .ok (.d (.bl false)) h
  | _, _ => .no
def mChn (f f' : W → W → Hh → Rs W) (a b c : M) : M := fun σ h => (a σ h).bind fun x h1 => (b σ h1).bind fun y h2 => (f x y h2).bind (chK fun h3 => (c σ h3).bind fun u h4 => f' y u h4)

structure Good (g : Rg) (X : Cx) : Prop where
  hK : g.G.K = X.K
  hw : g.G.w = X.w
  nd : X.N.Nodup
  hu : X.A.units + 200 < cLine
  gu : X.A.guards = some []
  calm : X.calm = true

section
variable {X : Cx} {g : Rg} {σ : St} {H : Hp} {τ : List Addr} {h : Hh} {σa : Sl}
theorem FinP.mono {α β : Type} {rel : Hp → List Addr → Hh → α → β → Prop} {r : Rs α} {Q Q' : β → Hp → Prop} (f : FinP g rel σ H τ h r Q) (k : ∀ v H', Q v H' → Q' v H') : FinP g rel σ H τ h r Q' := by
  cases r with
  | ok w h' => exact fun τ' H' v a b c => k _ _ (f τ' H' v a b c)
  | ex c x h' => exact f
  | no => exact f
theorem tE.step' {m : M} {f : W → Hh → Rs W} {Q : VK} (R : HR g.G H τ h) (S : SR g.G H τ h σa σ) (F : Fin g σ H τ h ((m σa h).bind f) Q)
    {Q1 : VK} (k : ∀ H1 τ1 h1 w v, Nxt g σ σa H τ h H1 τ1 h1 → RW g.G H1 τ1 h1 w v → Fin g σ H1 τ1 h1 (f w h1) Q → Q1 v H1) : tE g m σ H Q1 :=
  tE.step R S (fin_P.mp F) fun H1 τ1 h1 w v n r f => k H1 τ1 h1 w v n r (fin_P.mpr f)
theorem tAr.step' {m : ML} {f : List W → Hh → Rs W} {Q : VK} (R : HR g.G H τ h) (S : SR g.G H τ h σa σ) (F : Fin g σ H τ h ((m σa h).bind f) Q)
    {Q1 : List V → Hp → Prop} (k : ∀ H1 τ1 h1 w v, Nxt g σ σa H τ h H1 τ1 h1 → RWs g.G H1 τ1 h1 w v → Fin g σ H1 τ1 h1 (f w h1) Q → Q1 v H1) : tAr g m σ H Q1 :=
  tAr.step R S (fin_P.mp F) fun H1 τ1 h1 w v n r f => k H1 τ1 h1 w v n r (fin_P.mpr f)
theorem tTs.step' {m : MT} {f : Bool → Hh → Rs W} {Q : VK} (R : HR g.G H τ h) (S : SR g.G H τ h σa σ) (F : Fin g σ H τ h ((m σa h).bind f) Q)
    {Q1 : Bool → Hp → Prop} (k : ∀ H1 τ1 h1 w, Nxt g σ σa H τ h H1 τ1 h1 → Fin g σ H1 τ1 h1 (f w h1) Q → Q1 w H1) : tTs g m σ H Q1 :=
  tTs.step R S (fin_P.mp F) fun H1 τ1 h1 w n f => k H1 τ1 h1 w n (fin_P.mpr f)
theorem tE.of {m : M} {H1 : Hp} {τ1 : List Addr} {h1 : Hh} {Q : VK} (n : Nxt g σ σa H τ h H1 τ1 h1) (F : Fin g σ H1 τ1 h1 (m σa h1) Q) : tE g m σ H1 Q := ⟨τ1, h1, σa, n.r, n.s, F⟩
/-! #### forgetting, freezing -/
theorem RW.cut (R : HR g.G H τ h) {d : D} {v : V} (r : RW g.G H τ h (.d d) v) (n : Nat) : RW g.G H (τ.take n) (h.take n) (.d d) v := by
  cases r with
  | d r => exact .d (r.less R.noTup fun _ t => trk_take t)
theorem Fin.clR {r : Rs W} {Q : VK} (hl : τ.length = h.length) (F : Fin g σ H τ h (clR h.length r) Q) : Fin g σ H τ h r Q := by
  cases r with
  | ok w h' =>
    cases w with
    | d v => exact fun τ' H' u e R r => F _ H' u (e.take (by rw [hl]; exact Nat.le_refl _)) (R.take _) (r.cut R _)
    | r n => exact F
  | ex c x h' => exact F
  | no => exact F
theorem tE.cl {m : M} {Q : VK} (q : tE g (mCl m) σ H Q) : tE g m σ H Q := by
  obtain ⟨τ, h, σa, R, S, F⟩ := q
  exact ⟨τ, h, σa, R, S, F.clR R.len⟩
theorem fzW_ok (R : HR g.G H τ h) {w : W} {v : V} {d : D} {h' : Hh} (r : RW g.G H τ h w v) (e : fzW w h = some (d, h')) : Ext H τ h H τ h' ∧ HR g.G H τ h' ∧ RD g.G H (Trk τ h') d v := by
  cases r with
  | d r => cases e; exact ⟨Ext.refl, R, r⟩
  | @r n a q =>
    unfold fzW at e
    simp only at e
    split at e
    · rename_i o z
      cases e
      exact R.freeze q z
    · cases e
theorem fzL_ok : ∀ {ws : List W} {vs : List V} {ds : List D} {h h' : Hh}, HR g.G H τ h → RWs g.G H τ h ws vs → fzL ws h = some (ds, h') → Ext H τ h H τ h' ∧ HR g.G H τ h' ∧ RDs g.G H (Trk τ h') ds vs
  | _, _, _, _, _, R, .nil, e => by cases e; exact ⟨Ext.refl, R, .nil⟩
  | w :: ws, _, _, h, _, R, .cons a b, e => by
    unfold fzL at e
    split at e
    · rename_i v h1 e1
      obtain ⟨x1, R1, r1⟩ := fzW_ok R a e1
      split at e
      · rename_i vs h2 e2
        cases e
        obtain ⟨x2, R2, r2⟩ := fzL_ok R1 (b.grow R x1) e2
        exact ⟨x1.trans x2, R2, .cons (r1.grow R1.noTup x2.g) r2⟩
      · cases e
    · cases e
theorem Fin.fzR {r : Rs W} {Q : VK} (hl : τ.length = h.length) (F : Fin g σ H τ h (fzR h.length r) Q) : Fin g σ H τ h r Q := by
  cases r with
  | ok w h' =>
    intro τ' H' u e R r
    have k : Pe.fzR h.length (.ok w h') = (match fzW w h' with | some (v, h') => .ok (.d v) (h'.take h.length) | none => .no) := rfl
    rw [k] at F
    cases z : fzW w h' with
    | some p =>
      obtain ⟨v, h2⟩ := p
      rw [z] at F
      obtain ⟨x, R', rd⟩ := fzW_ok R r z
      exact F _ H' u ((e.trans x).take (by rw [hl]; exact Nat.le_refl _)) (R'.take _) ((RW.d rd).cut R' _)
    | none => rw [z] at F; exact absurd F id
  | ex c x h' => exact F
  | no => exact F
theorem tE.fz {m : M} {Q : VK} (q : tE g (mFz m) σ H Q) : tE g m σ H Q := by
  obtain ⟨τ, h, σa, R, S, F⟩ := q
  exact ⟨τ, h, σa, R, S, F.fzR R.len⟩
variable {e a b c : Expr} {es rest : List Expr} {pos : Pos} {m ma mb mc : M} {ml : ML} {x : Str} {i : Nat}
theorem pe_cl (p : PE X e (tE g m)) : PE X e (tE g (mCl m)) := pe_weak p fun _ _ _ q => q.cl
theorem pe_fz (p : PE X e (tE g m)) : PE X e (tE g (mFz m)) := pe_weak p fun _ _ _ q => q.fz
/-! #### names, constants -/
theorem pe_mVar (hN : X.N[i]? = some x) (hv : Vis X.env.scope x) (hd : (x == ("__debug__" : Str)) = false) (hcd : (x == ("__classdict__" : Str)) = false) : PE X (.Name x pos) (tE g (mVar i)) :=
  pe_weak (pe_var hN hv hd hcd) fun σ H Q q => by
    obtain ⟨τ, h, σa, R, S, F⟩ := q
    unfold mVar at F
    split at F
    · rename_i w e
      obtain ⟨v, e1, r⟩ := S.at_ i w e
      exact ⟨v, e1, F τ H v Ext.refl R r⟩
    · exact F.elim
theorem tC_of {d : D} {v : V} {Q : VK} (r : ∀ H T, RD g.G H T d v) (q : tE g (mCon d) σ H Q) : tC v σ H Q := by
  obtain ⟨τ, h, σa, R, S, F⟩ := q
  exact F τ H v Ext.refl R (.d (r _ _))
theorem pe_mInt {n : Int} {j : Nat} : PE X (.Constant (.int n) j pos) (tE g (mCon (.int n))) := pe_weak pe_int fun _ _ _ q => tC_of (fun _ _ => .int n) q
theorem pe_mBl {n : Bool} {j : Nat} : PE X (.Constant (.bool n) j pos) (tE g (mCon (.bl n))) := pe_weak pe_bl fun _ _ _ q => tC_of (fun _ _ => .bl n) q
theorem pe_mNon {j : Nat} : PE X (.Constant .none j pos) (tE g (mCon .non)) := pe_weak pe_non fun _ _ _ q => tC_of (fun _ _ => .non) q
theorem pe_mStr {z : List Nat} {j : Nat} (hz : z.length ≤ sizeLine) : PE X (.Constant (.str (txt z)) j pos) (tE g (mCon (.str z))) := pe_weak pe_str fun _ _ _ q => tC_of (fun _ _ => .str z hz) q
theorem pe_mGlo {d : D} {v : V} {u : Value} (hg : Gl X x) (hm : X.mg x = some u) (l : RelV v u) (r : ∀ H T, RD g.G H T d v) (hd : (x == ("__debug__" : Str)) = false) : PE X (.Name x pos) (tE g (mCon d)) :=
  pe_weak (pe_glob hg hm l hd) fun _ _ _ q => tC_of r q
/-! #### operations -/
theorem tOp_of {f : W → W → Hh → Rs W} {Q : VK} (q : tE g (mBin f ma mb) σ H Q) : tOp (r2 g f) (tE g ma) (tE g mb) σ H Q := by
  obtain ⟨τ, h, σa, R, S, F⟩ := q
  exact tE.step' R S F fun H1 τ1 h1 w v n r F1 => tE.step' n.r n.s F1 fun H2 τ2 h2 w2 v2 n2 r2 F2 => ⟨σ, τ2, h2, w, w2, n2.r, r.grow n.r n2.e, r2, F2⟩
theorem tUn_of {f : W → Hh → Rs W} {Q : VK} (q : tE g (mUn f ma) σ H Q) : tUn (r1 g f) (tE g ma) σ H Q := by
  obtain ⟨τ, h, σa, R, S, F⟩ := q
  exact tE.step' R S F fun H1 τ1 h1 w v n r F1 => ⟨σ, τ1, h1, w, n.r, r, F1⟩
theorem pe_mOp {op : Operator} {f : W → W → Hh → Rs W} (ho : OpR X (binaryOp op) (r2 g f)) (ha : PE X a (tE g ma)) (hb : PE X b (tE g mb)) : PE X (.BinOp a op b pos) (tE g (mBin f ma mb)) := pe_weak (pe_op ho ha hb) fun _ _ _ q => tOp_of q
theorem pe_mUn {op : UnaryOp} {f : W → Hh → Rs W} (ho : UnR X (unaryOp op) (r1 g f)) (ha : PE X a (tE g ma)) : PE X (.UnaryOp op a pos) (tE g (mUn f ma)) := pe_weak (pe_un ho ha) fun _ _ _ q => tUn_of q
theorem pe_mCmp {op : CmpOp} {f : W → W → Hh → Rs W} (ho : OpR X (compareOp op) (r2 g f)) (ha : PE X a (tE g ma)) (hb : PE X b (tE g mb)) (hm : behindInMarks op b = false) : PE X (.Compare a [op] [b] pos) (tE g (mBin f ma mb)) := pe_weak (pe_cmpR ho ha hb hm) fun _ _ _ q => tOp_of q
theorem pe_mIx {f : W → W → Hh → Rs W} (ho : IxR X (r2 g f)) (ha : PE X a (tE g ma)) (hb : PE X b (tE g mb)) (hs : PlainIx b) : PE X (.Subscript a b pos) (tE g (mBin f ma mb)) := pe_weak (pe_ix ho ha hb hs) fun _ _ _ q => tOp_of q
theorem tChn_of {f f' : W → W → Hh → Rs W} {Q : VK} (q : tE g (mChn f f' ma mb mc) σ H Q) : tChain (r2 g f) (r2 g f') (tE g ma) (tE g mb) (tE g mc) σ H Q := by
  obtain ⟨τ, h, σa, R, S, F⟩ := q
  refine tE.step' R S F fun H1 τ1 h1 w v n r F1 => tE.step' n.r n.s F1 fun H2 τ2 h2 w2 v2 n2 r2 F2 => ⟨σ, τ2, h2, w, w2, n2.r, r.grow n.r n2.e, r2, ?_⟩
  cases z : f w w2 h2 with
  | ok y h3 =>
    rw [z] at F2
    intro τ3 H3 v3 e3 R3 r3
    have F3 := Fin.ext e3 (show Fin g σ H2 τ2 h2 (chK (fun h3 => (mc σa h3).bind fun u h4 => f' w2 u h4) y h3) Q from F2)
    clear F2 z
    unfold chK at F3
    split at F3
    · cases r3 with
      | d r3 =>
        cases r3
        refine ⟨true, rfl, ?_⟩
        rw [if_pos rfl]
        exact tE.step' R3 (n2.s.grow n2.r e3) F3 fun H4 τ4 h4 w4 v4 n4 r4 F4 => ⟨σ, τ4, h4, w2, w4, n4.r, (r2.grow n2.r e3).grow R3 n4.e, r4, F4⟩
    · cases r3 with
      | d r3 =>
        cases r3
        refine ⟨false, rfl, ?_⟩
        rw [if_neg (by simp)]
        exact F3.bl R3
    · exact F3.elim
  | ex c x h3 => rw [z] at F2; exact F2
  | no => rw [z] at F2; exact F2
theorem pe_mChn {op op' : CmpOp} {f f' : W → W → Hh → Rs W} (ho : OpR X (compareOp op) (r2 g f)) (ho' : OpR X (compareOp op') (r2 g f')) (ha : PE X a (tE g ma)) (hb : PE X b (tE g mb)) (hc : PE X c (tE g mc)) (hm : lastMarks [op, op'] [b, c] = false) : PE X (.Compare a [op, op'] [b, c] pos) (tE g (mChn f f' ma mb mc)) :=
  pe_weak (pe_chain ho ho' ha hb hc hm) fun _ _ _ q => tChn_of q
/-! #### truth -/
theorem W.truV (G : Good g X) (R : HR g.G H τ h) {w : W} {v : V} {k : Bool} (r : RW g.G H τ h w v) (e : w.tru h = some k) : TruV X.K v H k := by
  unfold W.tru at e
  cases z : w.val h with
  | none => rw [z] at e; cases e
  | some d => rw [z] at e; exact VW.truV G.hK (r.view R z) e
theorem FinP.clB {r : Rs Bool} {Q : Bool → Hp → Prop} (hl : τ.length = h.length) (F : FinP g (fun _ _ _ (a b : Bool) => a = b) σ H τ h (clB h.length r) Q) : FinP g (fun _ _ _ (a b : Bool) => a = b) σ H τ h r Q := by
  cases r with
  | ok w h' => exact fun τ' H' u e R r => F _ H' u (e.take (by rw [hl]; exact Nat.le_refl _)) (R.take _) r
  | ex c x h' => exact F
  | no => exact F
theorem tTru_of (G : Good g X) {Q : Bool → Hp → Prop} (q : tTs g (mTru ma) σ H Q) : tE g ma σ H fun x H' => ∃ k, TruV X.K x H' k ∧ Q k H' := by
  obtain ⟨τ, h, σa, R, S, F⟩ := q
  refine tE.step R S (FinP.clB R.len F) fun H1 τ1 h1 w v n r F1 => ?_
  unfold tru at F1
  split at F1
  · rename_i k e
    exact ⟨k, W.truV G n.r r e, F1 τ1 H1 k Ext.refl n.r rfl⟩
  · exact F1.elim
theorem pt_mTru (G : Good g X) (ha : PE X a (tE g ma)) (he : ∀ whole, isTrue a X.env whole = (do let v ← whole; standAt a.pos; holding [v] (truthy v))) : PT X a (tTs g (mTru ma)) :=
  pt_weak (pt_truth ha he) fun _ _ _ q => tTru_of G q
variable {ta tb tc : MT}
theorem pt_mCmp (G : Good g X) {op : CmpOp} {f : W → W → Hh → Rs W} (hf : ∀ w w2 h y h', f w w2 h = .ok y h' → ∃ k, y = .d (.bl k)) (ho : OpR X (compareOp op) (r2 g f)) (ha : PE X a (tE g ma)) (hb : PE X b (tE g mb)) (hm : behindInMarks op b = false) :
    PT X (.Compare a [op] [b] pos) (tTs g (mTru (mBin f ma mb))) :=
  pt_weak (pt_cmpR ho ha hb hm) fun σ H Q q => by
    obtain ⟨τ, h, σa, R, S, F⟩ := q
    have F := FinP.clB R.len F
    refine tOp_of ⟨τ, h, σa, R, S, ?_⟩
    cases z : mBin f ma mb σa h with
    | ok y h3 =>
      rw [z] at F
      intro τ3 H3 v3 e3 R3 r3
      obtain ⟨k, ek⟩ : ∃ k, y = .d (.bl k) := by
        unfold mBin at z
        cases z1 : ma σa h with
        | ok w1 h1 =>
          rw [z1] at z
          cases z2 : mb σa h1 with
          | ok w2 h2 =>
            simp only [Rs.bind, z2] at z
            exact hf _ _ _ _ _ z
          | ex _ _ _ => simp [Rs.bind, z2] at z
          | no => simp [Rs.bind, z2] at z
        | ex _ _ _ => rw [z1] at z; simp [Rs.bind] at z
        | no => rw [z1] at z; simp [Rs.bind] at z
      subst ek
      cases r3 with
      | d r3 =>
        cases r3
        exact ⟨k, rfl, F τ3 H3 k e3 R3 rfl⟩
    | ex c x h3 => rw [z] at F; exact F
    | no => rw [z] at F; exact F
theorem pt_mNot (ha : PT X a (tTs g ta)) : PT X (.UnaryOp .Not a pos) (tTs g (mTNot ta)) :=
  pt_weak (pt_not ha) fun σ H Q q => by
    obtain ⟨τ, h, σa, R, S, F⟩ := q
    exact tTs.step R S F fun H1 τ1 h1 w n F1 => F1 τ1 H1 (!w) Ext.refl n.r rfl
theorem tTAnd_of {Q : Bool → Hp → Prop} (q : tTs g (mTAnd ta tb) σ H Q) : tAnd (tTs g ta) (tTs g tb) σ H Q := by
  obtain ⟨τ, h, σa, R, S, F⟩ := q
  refine tTs.step R S F fun H1 τ1 h1 w n F1 => ?_
  cases w with
  | true => exact ⟨τ1, h1, σa, n.r, n.s, F1⟩
  | false => exact F1 τ1 H1 false Ext.refl n.r rfl
theorem tTOr_of {Q : Bool → Hp → Prop} (q : tTs g (mTOr ta tb) σ H Q) : tOr (tTs g ta) (tTs g tb) σ H Q := by
  obtain ⟨τ, h, σa, R, S, F⟩ := q
  refine tTs.step R S F fun H1 τ1 h1 w n F1 => ?_
  cases w with
  | false => exact ⟨τ1, h1, σa, n.r, n.s, F1⟩
  | true => exact F1 τ1 H1 true Ext.refl n.r rfl
theorem pw_weak {t t' : TT} (p : PW X e t) (k : ∀ σ H Q, t' σ H Q → t σ H Q) : PW X e t' := ⟨fun wh pins s σ H Q I hq => p.run wh pins s σ H Q I (k σ H Q hq)⟩
theorem pw_mAnd (ha : PT X a (tTs g ta)) (hb : PW X (.BoolOp .And (b :: rest) pos) (tTs g tb)) : PW X (.BoolOp .And (a :: b :: rest) pos) (tTs g (mTAnd ta tb)) := pw_weak (pw_and ha hb) fun _ _ _ q => tTAnd_of q
theorem pw_mOr (ha : PT X a (tTs g ta)) (hb : PW X (.BoolOp .Or (b :: rest) pos) (tTs g tb)) : PW X (.BoolOp .Or (a :: b :: rest) pos) (tTs g (mTOr ta tb)) := pw_weak (pw_or ha hb) fun _ _ _ q => tTOr_of q
theorem pe_mIf (hc : PT X c (tTs g tc)) (ha : PE X a (tE g ma)) (hb : PE X b (tE g mb)) : PE X (.IfExp c a b pos) (tE g (mIf tc ma mb)) :=
  pe_weak (pe_ifExp hc ha hb) fun σ H Q q => by
    obtain ⟨τ, h, σa, R, S, F⟩ := q
    refine tTs.step' R S F fun H1 τ1 h1 w n F1 => ?_
    cases w with
    | true => exact ⟨τ1, h1, σa, n.r, n.s, F1⟩
    | false => exact ⟨τ1, h1, σa, n.r, n.s, F1⟩
theorem pe_mAnd (G : Good g X) (ha : PE X a (tE g ma)) (hb : PE X (.BoolOp .And (b :: rest) pos) (tE g mb)) : PE X (.BoolOp .And (a :: b :: rest) pos) (tE g (mAnd ma mb)) :=
  pe_weak (pe_andT ha hb) fun σ H Q q => by
    obtain ⟨τ, h, σa, R, S, F⟩ := q
    refine tE.step' R S F fun H1 τ1 h1 w v n r F1 => ?_
    split at F1
    · rename_i e
      exact ⟨true, W.truV G n.r r e, by rw [if_pos rfl]; exact ⟨τ1, h1, σa, n.r, n.s, F1⟩⟩
    · rename_i e
      exact ⟨false, W.truV G n.r r e, by rw [if_neg (by simp)]; exact F1 τ1 H1 v Ext.refl n.r r⟩
    · exact F1.elim
theorem pe_mOr (G : Good g X) (ha : PE X a (tE g ma)) (hb : PE X (.BoolOp .Or (b :: rest) pos) (tE g mb)) : PE X (.BoolOp .Or (a :: b :: rest) pos) (tE g (mOr ma mb)) :=
  pe_weak (pe_orT ha hb) fun σ H Q q => by
    obtain ⟨τ, h, σa, R, S, F⟩ := q
    refine tE.step' R S F fun H1 τ1 h1 w v n r F1 => ?_
    split at F1
    · rename_i e
      exact ⟨true, W.truV G n.r r e, by rw [if_pos rfl]; exact F1 τ1 H1 v Ext.refl n.r r⟩
    · rename_i e
      exact ⟨false, W.truV G n.r r e, by rw [if_neg (by simp)]; exact ⟨τ1, h1, σa, n.r, n.s, F1⟩⟩
    · exact F1.elim
theorem pe_mNot (G : Good g X) (ha : PE X a (tE g ma)) : PE X (.UnaryOp .Not a pos) (tE g (mNot ma)) :=
  pe_weak (pe_notT ha) fun σ H Q q => by
    obtain ⟨τ, h, σa, R, S, F⟩ := q
    refine tE.step' R S F fun H1 τ1 h1 w v n r F1 => ?_
    split at F1
    · rename_i e
      exact ⟨_, W.truV G n.r r e, F1.bl n.r⟩
    · exact F1.elim
/-! #### lists of expressions, displays, built-in functions -/
theorem pa_mNil : PA X [] (tAr g mNil) := pa_weak pa_nil fun σ H Q q => by
  obtain ⟨τ, h, σa, R, S, F⟩ := q
  exact F τ H [] Ext.refl R .nil
theorem pa_mCons (ha : PE X e (tE g ma)) (hr : PA X es (tAr g ml)) (hs : starEach (e :: es) X.env = (false, eval e X.env) :: starEach es X.env) : PA X (e :: es) (tAr g (mCons ma ml)) :=
  pa_weak (pa_cons ha hr hs) fun σ H Q q => by
    obtain ⟨τ, h, σa, R, S, F⟩ := q
    refine tE.step R S F fun H1 τ1 h1 w v n r F1 => tAr.step n.r n.s F1 fun H2 τ2 h2 ws vs n2 r2 F2 => ?_
    exact F2 τ2 H2 _ Ext.refl n2.r (.cons (r.grow n.r n2.e) r2)
theorem pe_mTup {k : Nat} (p : PA X es (tAr g ml)) : PE X (.Tuple es k pos) (tE g (mArg tupR ml)) :=
  pe_weak (pe_tupX p) fun σ H Q q => by
    obtain ⟨τ, h, σa, R, S, F⟩ := q
    refine tAr.step' R S F fun H1 τ1 h1 ws vs n r F1 => ?_
    unfold tupR at F1
    split at F1
    · rename_i ds h2 e
      obtain ⟨x, R2, rd⟩ := fzL_ok n.r r e
      split at F1
      · rename_i z
        have z' : vs.length ≤ sizeLine := by rw [← rd.len, szEq]; exact z
        exact ⟨z', fun p its np => Fin.tup R2 (Fin.ext x F1) rd z' np⟩
      · exact F1.elim
    · exact F1.elim
theorem pe_mLst (p : PA X es (tAr g ml)) : PE X (.List es pos) (tE g (mArg lstR ml)) :=
  pe_weak (pe_lst p) fun σ H Q q => by
    obtain ⟨τ, h, σa, R, S, F⟩ := q
    refine tAr.step' R S F fun H1 τ1 h1 ws vs n r F1 => ?_
    unfold lstR at F1
    split at F1
    · rename_i ds h2 e
      obtain ⟨x, R2, rd⟩ := fzL_ok n.r r e
      split at F1
      · rename_i z
        have z' : vs.length ≤ sizeLine := by rw [← rd.len, szEq]; exact z
        exact ⟨z', fun p np => Fin.lst R2 (Fin.ext x F1) rd z' np⟩
      · exact F1.elim
    · exact F1.elim
theorem tCB_of {f : List W → Hh → Rs W} {Q : VK} (q : tE g (mArg f ml) σ H Q) : tCB (rB g f) (tAr g ml) σ H Q := by
  obtain ⟨τ, h, σa, R, S, F⟩ := q
  exact tAr.step' R S F fun H1 τ1 h1 ws vs n r F1 => ⟨σ, τ1, h1, ws, n.r, r, F1⟩
theorem pe_mB {id : String} {f : List W → Hh → Rs W} {p : Pos} (hc : CallR X (.builtin id) (rB g f)) (hg : Gl X x) (hm : X.mg x = none) (hv : bootBuiltins x = some (.builtin id)) (ha : PA X (e :: es) (tAr g ml)) (hn : x ≠ "__name__") (hdb : (x == ("__debug__" : Str)) = false)
    (he : starEach (e :: es) X.env = (false, eval e X.env) :: starEach es X.env) (hpl : (backTo pos (starEach es X.env)).any (·.1) = false) : PE X (.Call (.Name x p) (e :: es) [] pos) (tE g (mArg f ml)) :=
  pe_weak (pe_callB hc hg hm hv ha hn hdb he hpl) fun _ _ _ q => tCB_of q
theorem pe_mTy {id : String} {f : List W → Hh → Rs W} {p : Pos} (hc : CallR X (.type id) (rB g f)) (hg : Gl X x) (hm : X.mg x = none) (hv : bootBuiltins x = some (.type id)) (ha : PA X (e :: es) (tAr g ml)) (hn : x ≠ "__name__") (hdb : (x == ("__debug__" : Str)) = false)
    (he : starEach (e :: es) X.env = (false, eval e X.env) :: starEach es X.env) (hpl : (backTo pos (starEach es X.env)).any (·.1) = false) : PE X (.Call (.Name x p) (e :: es) [] pos) (tE g (mArg f ml)) :=
  pe_weak (pe_callTy hc hg hm hv ha hn hdb he hpl) fun _ _ _ q => tCB_of q
end
end Pe

set_option linter.all false
set_option maxRecDepth 100000
set_option maxHeartbeats 4000000
namespace Pe
open PySem PySem.Spec PyProof.Rows L2
/-! ### targets -/
mutual
inductive Tg where
  | v (i : Nat) | t (l : TgL)
inductive TgL where
  | nil | cons (t : Tg) (l : TgL)
end
def TgL.len : TgL → Nat
  | .nil => 0
  | .cons _ l => l.len + 1
mutual
def Tg.sl : Tg → List Nat
  | .v i => [i]
  | .t l => TgL.sl l
def TgL.sl : TgL → List Nat
  | .nil => []
  | .cons t l => Tg.sl t ++ TgL.sl l
end
mutual
def bT (h : Hh) : Tg → W → Sl → Option Sl
  | .v i, w, σ => some (σ.set i (some w))
  | .t l, w, σ => match w.val h with
    | some (.tup ds) => bTL h l ds σ
    | some (.set ds) => bTL h l ds σ
    | _ => none
def bTL (h : Hh) : TgL → List D → Sl → Option Sl
  | .nil, [], σ => some σ
  | .cons t l, d :: ds, σ => match bT h t (.d d) σ with
    | some σ' => bTL h l ds σ'
    | none => none
  | _, _, _ => none
end
mutual
def gT (K : PySem.W.Frag) : Tg → TG
  | .v i => gName i
  | .t l => gTup K l.len (gTL K l)
def gTL (K : PySem.W.Frag) : TgL → TGs
  | .nil => gNil
  | .cons t l => gCons (gT K t) (gTL K l)
end
theorem wipe_set {σ : St} {i : Nat} {v : Option V} : ∀ {vs : List Nat}, i ∈ vs → wipe (σ.set i v) vs = wipe σ vs
  | [], h => nomatch h
  | j :: vs, h => by
    show (wipe (σ.set i v) vs).set j none = (wipe σ vs).set j none
    by_cases hj : i ∈ vs
    · rw [wipe_set hj]
    · have e : i = j := by
        rcases List.mem_cons.mp h with h | h
        · exact h
        · exact absurd h hj
      subst e
      have comm : ∀ {us : List Nat}, i ∉ us → wipe (σ.set i v) us = (wipe σ us).set i v := by
        intro us
        induction us with
        | nil => intro _; rfl
        | cons k us ih =>
          intro hk
          have h1 : i ≠ k := fun z => hk (by rw [z]; exact List.mem_cons_self)
          have h2 : i ∉ us := fun z => hk (List.mem_cons_of_mem _ z)
          show (wipe (σ.set i v) us).set k none = ((wipe σ us).set k none).set i v
          rw [ih h2, List.set_comm _ _ h1]
      rw [comm hj, List.set_set]
section
variable {X : Cx} {g : Rg} {σ : St} {H : Hp} {τ : List Addr} {h : Hh} {σa σb : Sl}
theorem SR.set (S : SR g.G H τ h σa σ) {w : W} {x : V} (r : RW g.G H τ h w x) (i : Nat) : SR g.G H τ h (σa.set i (some w)) (σ.set i (some x)) := by
  refine ⟨by rw [List.length_set, List.length_set]; exact S.len, fun j u e => ?_⟩
  by_cases hj : i = j
  · subst hj
    by_cases hl : i < σa.length
    · rw [List.getElem?_set_self hl] at e
      cases e
      exact ⟨x, by rw [List.getElem?_set_self (by rw [← S.len]; exact hl)], r⟩
    · rw [List.getElem?_eq_none (by rw [List.length_set]; omega)] at e
      cases e
  · rw [List.getElem?_set_ne hj] at e ⊢
    exact S.at_ j u e
theorem bTL_len : ∀ (l : TgL) {ds : List D} {σa σb : Sl}, bTL h l ds σa = some σb → ds.length = l.len
  | .nil, [], _, _, _ => rfl
  | .nil, _ :: _, _, _, e => by simp [bTL] at e
  | .cons _ _, [], _, _, e => by simp [bTL] at e
  | .cons t l, d :: ds, σa, σb, e => by
    unfold bTL at e
    split at e
    · rw [List.length_cons, bTL_len l e]; rfl
    · cases e
mutual
theorem gT_of (hK : g.G.K = X.K) (R : HR g.G H τ h) : ∀ (t : Tg) {w : W} {x : V} {σ : St} {σa σb : Sl} {k : St → Hp → Prop}, bT h t w σa = some σb → SR g.G H τ h σa σ → RW g.G H τ h w x →
    (∀ σ', SR g.G H τ h σb σ' → (∀ vs, (∀ i ∈ t.sl, i ∈ vs) → wipe σ' vs = wipe σ vs) → k σ' H) → gT X.K t x σ H k
  | .v i, w, x, σ, σa, σb, k, e, S, r, q => by
    unfold bT at e
    cases e
    unfold gT
    exact q _ (S.set r i) fun vs hv => wipe_set (hv i (by unfold Tg.sl; exact List.mem_singleton.mpr rfl))
  | .t l, w, x, σ, σa, σb, k, e, S, r, q => by
    unfold bT at e
    split at e
    · rename_i ds z
      obtain ⟨p, vs, rfl, t1, z1, l1⟩ := (r.view R z).tup
      rw [hK] at t1
      unfold gT
      exact ⟨p, vs, rfl, t1, by rw [← l1.len]; exact bTL_len l e, gTL_of hK R l e S l1 fun σ' S' hw => q σ' S' fun vs hv => hw vs (by unfold Tg.sl at hv; exact hv)⟩
    · rename_i ds z
      obtain ⟨p, vs, rfl, t1, z1, l1⟩ := (r.view R z).set
      rw [hK] at t1
      unfold gT
      exact ⟨p, vs, rfl, t1, by rw [← l1.len]; exact bTL_len l e, gTL_of hK R l e S l1 fun σ' S' hw => q σ' S' fun vs hv => hw vs (by unfold Tg.sl at hv; exact hv)⟩
    · cases e
theorem gTL_of (hK : g.G.K = X.K) (R : HR g.G H τ h) : ∀ (l : TgL) {ds : List D} {xs : List V} {σ : St} {σa σb : Sl} {k : St → Hp → Prop}, bTL h l ds σa = some σb → SR g.G H τ h σa σ → RDs g.G H (Trk τ h) ds xs →
    (∀ σ', SR g.G H τ h σb σ' → (∀ vs, (∀ i ∈ l.sl, i ∈ vs) → wipe σ' vs = wipe σ vs) → k σ' H) → gTL X.K l xs σ H k
  | .nil, [], xs, σ, σa, σb, k, e, S, r, q => by
    unfold bTL at e
    cases e
    cases r
    unfold gTL
    exact ⟨rfl, q _ S fun _ _ => rfl⟩
  | .nil, _ :: _, _, _, _, _, _, e, _, _, _ => by simp [bTL] at e
  | .cons _ _, [], _, _, _, _, _, e, _, _, _ => by simp [bTL] at e
  | .cons t l, d :: ds, xs, σ, σa, σb, k, e, S, r, q => by
    unfold bTL at e
    split at e
    · rename_i σ1 e1
      cases r with
      | cons r1 r2 =>
        rename_i v vs
        unfold gTL
        exact ⟨v, vs, rfl, gT_of hK R t e1 S (.d r1) fun σ' S' hw => gTL_of hK R l e S' r2 fun σ2 S2 hw2 => q σ2 S2 fun us hu => by
          unfold TgL.sl at hu
          rw [hw2 us fun i hi => hu i (List.mem_append_right _ hi), hw us fun i hi => hu i (List.mem_append_left _ hi)]⟩
    · cases e
end
end
end Pe

set_option linter.all false
set_option maxRecDepth 100000
set_option maxHeartbeats 4000000
namespace Pe
open PySem PySem.Spec PyProof.Rows L2
/-! ### what is walked -/
abbrev ItF := Nat → Hh → Option (Option W)
def itD (xs : List D) : ItF := fun i _ => some (xs[i]?.map W.d)
def itR (n : Nat) : ItF := fun i h => match h[n]? with
  | some (.lst xs) => some (xs[i]?.map W.d)
  | _ => none
def itS (s : List Nat) : ItF := fun i _ => some (s[i]?.map fun c => W.d (.str [c]))
def itN (lo : Int) (n : Nat) : ItF := fun i _ => if i < n then some (some (.d (.int (lo + i)))) else some none
def itZ (xs ys : List D) : ItF := fun i _ => match xs[i]?, ys[i]? with
  | some x, some y => some (some (.d (.set [x, y])))
  | _, _ => some none
def ItR (g : Rg) (it : ItF) (J : It) (H0 : Hp) (τ0 : List Addr) (h0 : Hh) : Prop := ∀ (i : Nat) (H : Hp) (τ : List Addr) (h : Hh), Ext H0 τ0 h0 H τ h → HR g.G H τ h → match it i h with
  | some (some w) => J.go i H ∧ ∀ x H', J.yld i H x H' → Ext H τ h H' τ h ∧ HR g.G H' τ h ∧ RW g.G H' τ h w x
  | some none => J.stop i H
  | none => True
abbrev MI := Sl → Hh → Rs ItF
def tI (g : Rg) (m : MI) : TI := fun σ H R => ∃ τ h σa, HR g.G H τ h ∧ SR g.G H τ h σa σ ∧ FinP g (fun H' τ' h' it J => ItR g it J H' τ' h') σ H τ h (m σa h) R
/-- a list, a tuple, a text -/
def itOf : D → Option ItF
  | .lst xs => some (itD xs)
  | .tup xs => some (itD xs)
  | .scr xs => some (itD xs)
  | .str s => some (itS s)
  | _ => none
def itW (w : W) (h : Hh) : Rs ItF := match w with
  | .d d => match itOf d with
    | some it => .ok it h
    | none => .no
  | .r n => match h[n]? with
    | some (.lst _) => .ok (itR n) h
    | some (.fz d) => match itOf d with
      | some it => .ok it h
      | none => .no
    | _ => .no
def mItE (m : M) : MI := fun σ h => (m σ h).bind fun w h1 => itW w h1
/-- range -/
def rng1 (ws : List W) (h : Hh) : Rs ItF := match ws with
  | [.d (.int j)] => if j < 4611686018427387904 ∧ -4611686018427387904 ≤ j then .ok (itN 0 j.toNat) h else .no
  | _ => .no
def rng2 (ws : List W) (h : Hh) : Rs ItF := match ws with
  | [.d (.int i), .d (.int j)] => if -4611686018427387904 ≤ i ∧ i < 4611686018427387904 ∧ -4611686018427387904 ≤ j ∧ j < 4611686018427387904 then .ok (itN i (j - i).toNat) h else .no
  | _ => .no
def zipR (ws : List W) (h : Hh) : Rs ItF := match ws with
  | [.d (.tup xs), .d (.tup ys)] => .ok (itZ xs ys) h
  | [.d (.lst xs), .d (.lst ys)] => .ok (itZ xs ys) h
  | _ => .no
theorem RWs.two {G : Cfg} {H : Hp} {τ : List Addr} {h : Hh} {d e : D} {vs : List V} (r : RWs G H τ h [.d d, .d e] vs) : ∃ v u, vs = [v, u] ∧ RD G H (Trk τ h) d v ∧ RD G H (Trk τ h) e u := by
  cases r with | cons a b => cases b with | cons b c => cases c; cases a with | d a => cases b with | d b => exact ⟨_, _, rfl, a, b⟩
def mItA (f : List W → Hh → Rs ItF) (a : ML) : MI := fun σ h => (a σ h).bind fun ws h1 => f ws h1
section
variable {X : Cx} {g : Rg} {σ : St} {H H0 : Hp} {τ τ0 : List Addr} {h h0 : Hh} {σa : Sl} {tg e : Expr} {ma : M} {ml : ML}
theorem ItR.list {ds : List D} {a : Addr} (r : ∀ H τ h, Ext H0 τ0 h0 H τ h → HR g.G H τ h → ∃ vs, SqL X.K H a vs ∧ RDs g.G H (Trk τ h) ds vs) : ItR g (itD ds) (Itl X.K a) H0 τ0 h0 := by
  intro i H τ h e R
  obtain ⟨vs, q, rd⟩ := r H τ h e R
  unfold itD
  cases z : ds[i]? with
  | none => exact ⟨vs, q, by rw [← rd.len]; exact List.getElem?_eq_none_iff.mp z⟩
  | some d =>
    obtain ⟨v, ev, rv⟩ := rd.get z
    refine ⟨⟨vs, v, q, ev⟩, fun x H' y => ?_⟩
    obtain ⟨e1, e2⟩ := y
    subst e1
    have e3 := e2 vs q
    rw [ev] at e3
    cases e3
    exact ⟨Ext.refl, R, .d rv⟩
theorem ItR.tup {ds : List D} {a : Addr} (r : ∀ H τ h, Ext H0 τ0 h0 H τ h → HR g.G H τ h → ∃ vs, SqT X.K H a vs ∧ RDs g.G H (Trk τ h) ds vs) : ItR g (itD ds) (Itt X.K a) H0 τ0 h0 := by
  intro i H τ h e R
  obtain ⟨vs, q, rd⟩ := r H τ h e R
  unfold itD
  cases z : ds[i]? with
  | none => exact ⟨vs, q, by rw [← rd.len]; exact List.getElem?_eq_none_iff.mp z⟩
  | some d =>
    obtain ⟨v, ev, rv⟩ := rd.get z
    refine ⟨⟨vs, v, q, ev⟩, fun x H' y => ?_⟩
    obtain ⟨e1, e2⟩ := y
    subst e1
    have e3 := e2 vs q
    rw [ev] at e3
    cases e3
    exact ⟨Ext.refl, R, .d rv⟩
theorem ItR.str {s : List Nat} : ItR g (itS s) (Its (txt s)) H0 τ0 h0 := by
  intro i H τ h e R
  unfold itS
  cases z : s[i]? with
  | none =>
    have : s.length ≤ i := List.getElem?_eq_none_iff.mp z
    show (txt s).cps.size ≤ i
    simpa [txt] using this
  | some c =>
    have hl : i < s.length := (List.getElem?_eq_some_iff.mp z).1
    refine ⟨by show i < (txt s).cps.size; simpa [txt] using hl, fun x H' y => ?_⟩
    obtain ⟨e1, c', e2, e3⟩ := y
    subst e1
    have e4 : s[i]? = some c' := by simpa [txt] using e2
    rw [z] at e4
    cases e4
    subst e3
    exact ⟨Ext.refl, R, .d (.str [c] (by rw [szEq]; exact (by decide : 1 ≤ SZ)))⟩
theorem ItR.range {lo : Int} {n : Nat} : ItR g (itN lo n) (Itr lo n) H0 τ0 h0 := by
  intro i H τ h e R
  unfold itN
  split
  · rename_i heq
    split at heq
    · rename_i hi
      cases heq
      refine ⟨hi, fun x H' y => ?_⟩
      obtain ⟨e1, e2⟩ := y
      subst e1
      subst e2
      exact ⟨Ext.refl, R, .d (.int _)⟩
    · cases heq
  · rename_i heq
    split at heq
    · cases heq
    · rename_i hi
      exact Nat.le_of_not_lt hi
  · trivial
/-- any of a list, a tuple, a text, by its value -/
theorem itOf_ok (G : Good g X) {d : D} {it : ItF} (ei : itOf d = some it) (pins : List (Addr × Obj)) (s : Shared) (Rr : It → Hp → Prop) (he : PE X e (tE g ma)) (I : Inv X pins σ H s)
    (run : ∀ Q : VK, (∀ v H1 τ1 h1, Ext H τ h H1 τ1 h1 → HR g.G H1 τ1 h1 → RD g.G H1 (Trk τ1 h1) d v → (∀ J, ItR g it J H1 τ1 h1 → Rr J H1) → Q v H1) → tE g ma σ H Q) :
    wpAny (model X.prog X.w) X.A (eval e X.env) (fun v s1 => wpAny (model X.prog X.w) X.A (pyIter v) (PIE X pins σ tg Rr) X.xe s1) X.xe s := by
  cases d with
  | lst xs =>
    cases ei
    refine (pi_list he).run pins s σ H Rr I (run _ fun v H1 τ1 h1 x R r k => ?_)
    cases r with
    | lst a b c l => exact ⟨_, rfl, ⟨_, .of a⟩, k _ (ItR.list fun H2 τ2 h2 x2 R2 => ⟨_, .of (x2.g.keep _ _ a trivial b), l.grow R.noTup x2.g⟩)⟩
  | scr xs =>
    cases ei
    refine (pi_list he).run pins s σ H Rr I (run _ fun v H1 τ1 h1 x R r k => ?_)
    cases r with
    | scr a b l =>
      refine ⟨_, rfl, ⟨_, by rw [← G.hK]; exact a.sq⟩, k _ (ItR.list fun H2 τ2 h2 x2 R2 => ⟨_, ?_, l.grow R.noTup x2.g⟩)⟩
      rw [← G.hK]
      exact (scr_grow R.noTup x2.g a).sq
  | tup xs =>
    cases ei
    refine (pi_tup he).run pins s σ H Rr I (run _ fun v H1 τ1 h1 x R r k => ?_)
    obtain ⟨a0, vs0, rfl, a, b, l⟩ := r.tup_
    · refine ⟨_, rfl, ⟨_, by rw [← G.hK]; exact a⟩, k _ (ItR.tup fun H2 τ2 h2 x2 R2 => ⟨_, ?_, l.grow R.noTup x2.g⟩)⟩
      rw [← G.hK]
      exact sqT_grow R.noTup x2.g a
  | str x =>
    cases ei
    refine (pi_str he).run pins s σ H Rr I (run _ fun v H1 τ1 h1 x R r k => ?_)
    cases r with
    | str _ z => exact ⟨_, rfl, k _ ItR.str⟩
  | _ => cases ei
theorem pi_mItE (G : Good g X) (he : PE X e (tE g ma)) : PI X tg e (tI g (mItE ma)) := by
  refine ⟨fun pins s σ H Rr I q => ?_⟩
  obtain ⟨τ, h, σa, R, S, F⟩ := q
  unfold mItE at F
  cases z : ma σa h with
  | no => rw [z] at F; exact F.elim
  | ex c x h' =>
    rw [z] at F
    refine (pi_list he).run pins s σ H Rr I ⟨τ, h, σa, R, S, ?_⟩
    rw [z]
    exact F
  | ok w h1 =>
    rw [z] at F
    have F : FinP g (fun H' τ' h' it J => ItR g it J H' τ' h') σ H τ h (itW w h1) Rr := F
    unfold itW at F
    cases w with
    | d d =>
      simp only at F
      split at F
      · rename_i it ei
        refine itOf_ok (τ := τ) (h := h) G ei pins s Rr he I fun Q k => ⟨τ, h, σa, R, S, ?_⟩
        rw [z]
        intro τ1 H1 v x R1 r
        cases r with
        | d r => exact k v H1 τ1 h1 x R1 r fun J j => F τ1 H1 J x R1 j
      · exact F.elim
    | r n =>
      simp only at F
      split at F
      · rename_i xs en
        refine (pi_list he).run pins s σ H Rr I ⟨τ, h, σa, R, S, ?_⟩
        rw [z]
        intro τ1 H1 v x R1 r
        cases r with
        | @r _ a ea =>
          have there : ∀ H2 τ2 h2, Ext H1 τ1 h1 H2 τ2 h2 → HR g.G H2 τ2 h2 → ∀ ys, h2[n]? = some (.lst ys) → ∃ vs, SqL X.K H2 a vs ∧ RDs g.G H2 (Trk τ2 h2) ys vs := fun H2 τ2 h2 x2 R2 ys e2 => by
            cases R2.ob n a _ (x2.p _ _ ea) e2 with
            | lst p q l => exact ⟨_, .of p, l⟩
          refine ⟨a, rfl, ?_, F τ1 H1 _ x R1 fun i H2 τ2 h2 x2 R2 => ?_⟩
          · obtain ⟨vs, q, _⟩ := there H1 τ1 h1 Ext.refl R1 _ en
            exact ⟨vs, q⟩
          · unfold itR
            cases e2 : h2[n]? with
            | none => trivial
            | some o =>
              cases o with
              | lst ys =>
                obtain ⟨vs, q, rd⟩ := there H2 τ2 h2 x2 R2 ys e2
                simp only
                cases zi : ys[i]? with
                | none => exact ⟨vs, q, by rw [← rd.len]; exact List.getElem?_eq_none_iff.mp zi⟩
                | some d =>
                  obtain ⟨v, ev, rv⟩ := rd.get zi
                  refine ⟨⟨vs, v, q, ev⟩, fun x H' y => ?_⟩
                  obtain ⟨e1, e2⟩ := y
                  subst e1
                  have e3 := e2 vs q
                  rw [ev] at e3
                  cases e3
                  exact ⟨Ext.refl, R2, .d rv⟩
              | _ => trivial
      · rename_i d en
        split at F
        · rename_i it ei
          refine itOf_ok (τ := τ) (h := h) G ei pins s Rr he I fun Q k => ⟨τ, h, σa, R, S, ?_⟩
          rw [z]
          intro τ1 H1 v x R1 r
          cases r with
          | @r _ a ea =>
            cases R1.ob n a _ ea en with
            | fz rd => exact k _ H1 τ1 h1 x R1 rd fun J j => F τ1 H1 J x R1 j
        · exact F.elim
      · exact F.elim
theorem tItA_of {Rr : It → Hp → Prop} {f : List W → Hh → Rs ItF} (q : tI g (mItA f ml) σ H Rr) {Q1 : List V → Hp → Prop}
    (k : ∀ H1 τ1 h1 ws vs, HR g.G H1 τ1 h1 → RWs g.G H1 τ1 h1 ws vs → FinP g (fun H' τ' h' it J => ItR g it J H' τ' h') σ H1 τ1 h1 (f ws h1) Rr → Q1 vs H1) : tAr g ml σ H Q1 := by
  obtain ⟨τ, h, σa, R, S, F⟩ := q
  exact tAr.step R S F fun H1 τ1 h1 ws vs n r F1 => k H1 τ1 h1 ws vs n.r r F1
theorem RWs.ints1 {i : Int} {vs : List V} (r : RWs g.G H τ h [.d (.int i)] vs) : vs = [.int i] := by
  cases r with | cons a b => cases b; cases a with | d a => cases a; rfl
theorem RWs.ints2 {i j : Int} {vs : List V} (r : RWs g.G H τ h [.d (.int i), .d (.int j)] vs) : vs = [.int i, .int j] := by
  cases r with | cons a b => rw [b.ints1]; cases a with | d a => cases a; rfl
variable {p pos : Pos}
theorem pi_mR1 {a : Expr} (hg : Gl X "range") (hm : X.mg "range" = none) (ha : PA X [a] (tAr g ml)) (hs : starEach [a] X.env = [(false, eval a X.env)]) : PI X tg (.Call (.Name "range" p) [a] [] pos) (tI g (mItA rng1 ml)) := by
  refine ⟨fun pins s σ H Rr I q => (pi_range1 hg hm ha hs).run pins s σ H Rr I (tItA_of q fun H1 τ1 h1 ws vs R r F => ?_)⟩
  unfold rng1 at F
  split at F
  · split at F
    · rename_i hz
      exact ⟨_, r.ints1, by omega, by omega, F τ1 H1 _ Ext.refl R ItR.range⟩
    · exact F.elim
  · exact F.elim
theorem pi_mR2 {a b : Expr} (hg : Gl X "range") (hm : X.mg "range" = none) (ha : PA X [a, b] (tAr g ml)) (hs : starEach [a, b] X.env = [(false, eval a X.env), (false, eval b X.env)]) (hs2 : starEach [b] X.env = [(false, eval b X.env)]) : PI X tg (.Call (.Name "range" p) [a, b] [] pos) (tI g (mItA rng2 ml)) := by
  refine ⟨fun pins s σ H Rr I q => (pi_range2 hg hm ha hs hs2).run pins s σ H Rr I (tItA_of q fun H1 τ1 h1 ws vs R r F => ?_)⟩
  unfold rng2 at F
  split at F
  · split at F
    · rename_i hz
      exact ⟨_, _, r.ints2, by omega, F τ1 H1 _ Ext.refl R ItR.range⟩
    · exact F.elim
  · exact F.elim
theorem VWs.pair {G : Cfg} {T : Addr → Prop} {d e : D} {xs : List V} (r : VWs G H T [d, e] xs) : ∃ v u, xs = [v, u] ∧ VW G H T d v ∧ VW G H T e u := r.two
/-- zip of two tuples, of two lists (that change no more) -/
theorem pi_mZip (G : Good g X) {a b : Expr} {elts : List Expr} {kk : Nat} {tpos : Pos} (hg : Gl X "zip") (hm : X.mg "zip" = none) (ha : PA X [a, b] (tAr g ml)) (hs : starEach [a, b] X.env = (false, eval a X.env) :: starEach [b] X.env) (hpl : (backTo pos (starEach [b] X.env)).any (·.1) = false) :
    PI X (.Tuple elts kk tpos) (.Call (.Name "zip" p) [a, b] [] pos) (tI g (mItA zipR ml)) := by
  refine ⟨fun pins s σ H Rr I q => (RZ.pi_zipA hg hm ha hs hpl).run pins s σ H Rr I (tItA_of q fun H1 τ1 h1 ws vs R r F => ?_)⟩
  unfold zipR at F
  split at F
  · rename_i xs ys
    obtain ⟨v, u, rfl, va, vb⟩ := r.two
    obtain ⟨a1, vs1, rfl, t1, z1, l1⟩ := (VW.rd va).tup
    obtain ⟨a2, vs2, rfl, t2, z2, l2⟩ := (VW.rd vb).tup
    refine ⟨a1, a2, vs1, vs2, rfl, .inr ⟨by rw [← G.hK]; exact t1, by rw [← G.hK]; exact t2, F τ1 H1 _ Ext.refl R fun i H2 τ2 h2 x2 R2 => ?_⟩⟩
    have q1 : SqT X.K H2 a1 vs1 := by rw [← G.hK]; exact sqT_grow R.noTup x2.g t1
    have q2 : SqT X.K H2 a2 vs2 := by rw [← G.hK]; exact sqT_grow R.noTup x2.g t2
    have m1 := l1.grow R.noTup x2.g
    have m2 := l2.grow R.noTup x2.g
    unfold itZ
    cases e1 : xs[i]? with
    | none => exact ⟨vs1, vs2, q1, q2, .inl (by rw [← l1.len]; exact List.getElem?_eq_none_iff.mp e1)⟩
    | some x =>
      cases e2 : ys[i]? with
      | none => exact ⟨vs1, vs2, q1, q2, .inr (by rw [← l2.len]; exact List.getElem?_eq_none_iff.mp e2)⟩
      | some y =>
        obtain ⟨v1, k1, r1⟩ := m1.get e1
        obtain ⟨v2, k2, r2⟩ := m2.get e2
        refine ⟨⟨vs1, vs2, v1, v2, q1, q2, k1, k2⟩, fun w H' yl => ?_⟩
        obtain ⟨T, x', y', rfl, hT, rfl, f1, f2⟩ := yl
        have g1 := f1 vs1 q1
        have g2 := f2 vs2 q2
        rw [k1] at g1; cases g1
        rw [k2] at g2; cases g2
        obtain ⟨ex, R3⟩ := R2.beside (o := .tup [v1, v2]) hT
        exact ⟨ex, R3, .d (.set (.inl (.inl upd_same)) (by rw [szEq]; exact (by decide : 2 ≤ SZ)) (.cons (r1.grow R2.noTup ex.g) (.cons (r2.grow R2.noTup ex.g) .nil)))⟩
  · rename_i xs ys
    obtain ⟨v, u, rfl, va, vb⟩ := r.two
    cases va with
    | @lst a1 vs1 _ t1 n1 z1 l1 =>
      cases vb with
      | @lst a2 vs2 _ t2 n2 z2 l2 =>
        refine ⟨a1, a2, vs1, vs2, rfl, .inl ⟨.of t1, .of t2, F τ1 H1 _ Ext.refl R fun i H2 τ2 h2 x2 R2 => ?_⟩⟩
        have q1 : SqL X.K H2 a1 vs1 := .of (x2.g.keep _ _ t1 trivial n1)
        have q2 : SqL X.K H2 a2 vs2 := .of (x2.g.keep _ _ t2 trivial n2)
        have m1 := l1.grow R.noTup x2.g
        have m2 := l2.grow R.noTup x2.g
        unfold itZ
        cases e1 : xs[i]? with
        | none => exact ⟨vs1, vs2, q1, q2, .inl (by rw [← l1.len]; exact List.getElem?_eq_none_iff.mp e1)⟩
        | some x =>
          cases e2 : ys[i]? with
          | none => exact ⟨vs1, vs2, q1, q2, .inr (by rw [← l2.len]; exact List.getElem?_eq_none_iff.mp e2)⟩
          | some y =>
            obtain ⟨v1, k1, r1⟩ := m1.get e1
            obtain ⟨v2, k2, r2⟩ := m2.get e2
            refine ⟨⟨vs1, vs2, v1, v2, q1, q2, k1, k2⟩, fun w H' yl => ?_⟩
            obtain ⟨T, x', y', rfl, hT, rfl, f1, f2⟩ := yl
            have g1 := f1 vs1 q1
            have g2 := f2 vs2 q2
            rw [k1] at g1; cases g1
            rw [k2] at g2; cases g2
            obtain ⟨ex, R3⟩ := R2.beside (o := .tup [v1, v2]) hT
            exact ⟨ex, R3, .d (.set (.inl (.inl upd_same)) (by rw [szEq]; exact (by decide : 2 ≤ SZ)) (.cons (r1.grow R2.noTup ex.g) (.cons (r2.grow R2.noTup ex.g) .nil)))⟩
  · exact F.elim
end
end Pe

set_option linter.all false
set_option maxRecDepth 100000
set_option maxHeartbeats 4000000
namespace Pe
open PySem PySem.Spec PyProof.Rows L2
/-! ### list comprehensions -/
def FU : Nat := 20000000
def wipeA (σ : Sl) : List Nat → Sl
  | [] => σ
  | v :: vs => (wipeA σ vs).set v none
/-- a turn: what the clause's test and the element give -/
def lcTurn (t : Tg) (c : MT) (e : M) (σ : Sl) (n : Nat) (w : W) (h : Hh) : Option Hh := match bT h t w σ with
  | none => none
  | some σ1 => match c σ1 h with
    | .ok false h1 => some (h1.take (n + 1))
    | .ok true h1 => match e σ1 h1 with
      | .ok w h2 => match fzW w h2 with
        | some (d, h3) => match h3[n]? with
          | some (.lst acc) => if acc.length < SZ then some ((h3.set n (.lst (acc ++ [d]))).take (n + 1)) else none
          | _ => none
        | none => none
      | _ => none
    | _ => none
def lcGo (f : ItF) (t : Tg) (c : MT) (e : M) (σ : Sl) (n : Nat) : Nat → Nat → Hh → Rs W
  | 0, _, _ => .no
  | k + 1, i, h => match f i h with
    | none => .no
    | some none => .ok (.r n) h
    | some (some w) => match lcTurn t c e σ n w h with
      | some h' => lcGo f t c e σ n k (i + 1) h'
      | none => .no
def mLc (it : MI) (t : Tg) (c : MT) (e : M) (own : List Nat) : M := fun σ h => (it σ h).bind fun f h1 => lcGo f t c e (wipeA σ own) h1.length FU 0 (h1 ++ [.lst []])
def Rg.nx (g : Rg) : Rg := ⟨g.G, g.pn, fun _ _ _ _ => False⟩
section
variable {X : Cx} {g : Rg} {σ : St} {H H0 : Hp} {τ τ0 : List Addr} {h h0 : Hh} {σa : Sl}
theorem wipeA_len (σ : Sl) : ∀ vs : List Nat, (wipeA σ vs).length = σ.length
  | [] => rfl
  | v :: vs => by unfold wipeA; rw [List.length_set, wipeA_len σ vs]
theorem wipeA_some {σ : Sl} {i : Nat} {x : W} : ∀ {vs : List Nat}, (wipeA σ vs)[i]? = some (some x) → σ[i]? = some (some x) ∧ i ∉ vs
  | [], h => ⟨h, by simp⟩
  | v :: vs, h => by
    unfold wipeA at h
    by_cases hi : v = i
    · subst hi
      by_cases hv : v < (wipeA σ vs).length
      · rw [List.getElem?_set_self hv] at h; cases h
      · rw [List.getElem?_eq_none (by simpa using hv)] at h; cases h
    · rw [List.getElem?_set_ne hi] at h
      obtain ⟨a, b⟩ := wipeA_some h
      exact ⟨a, fun q => (List.mem_cons.mp q).elim (fun q => hi q.symm) b⟩
theorem SR.wipe (S : SR g.G H τ h σa σ) (vs : List Nat) : SR g.G H τ h (wipeA σa vs) (wipe σ vs) := by
  refine ⟨by rw [wipeA_len, wipe_length]; exact S.len, fun i w e => ?_⟩
  obtain ⟨e1, e2⟩ := wipeA_some e
  obtain ⟨v, e3, r⟩ := S.at_ i w e1
  exact ⟨v, by rw [wipe_out e2]; exact e3, r⟩
theorem wipe_wipe {σ : St} (vs : List Nat) : wipe (wipe σ vs) vs = wipe σ vs := by
  have : ∀ us : List Nat, (∀ i ∈ us, i ∈ vs) → wipe (wipe σ us) vs = wipe σ vs := by
    intro us
    induction us with
    | nil => intro _; rfl
    | cons u us ih =>
      intro hu
      show L2.wipe ((L2.wipe σ us).set u none) vs = _
      rw [wipe_set (hu u List.mem_cons_self)]
      exact ih fun i hi => hu i (List.mem_cons_of_mem _ hi)
  exact this vs fun _ hi => hi
theorem tI.step {m : MI} {f : ItF → Hh → Rs W} {Q : VK} (R : HR g.G H τ h) (S : SR g.G H τ h σa σ) (F : Fin g σ H τ h ((m σa h).bind f) Q)
    {Q1 : It → Hp → Prop} (k : ∀ H1 τ1 h1 it J, Nxt g σ σa H τ h H1 τ1 h1 → ItR g it J H1 τ1 h1 → Fin g σ H1 τ1 h1 (f it h1) Q → Q1 J H1) : tI g m σ H Q1 := by
  refine ⟨τ, h, σa, R, S, ?_⟩
  cases e : m σa h with
  | ok w h' =>
    rw [e] at F
    exact fun τ' H' v a b c => k H' τ' h' w v ⟨a, b, S.grow R a⟩ c (Fin.ext a F)
  | ex c x h' => rw [e] at F; exact F
  | no => rw [e] at F; exact F
theorem take_len {α : Type} {xs : List α} {n : Nat} {x : α} (h : xs[n]? = some x) : (xs.take (n + 1)).length = n + 1 := by
  have := (List.getElem?_eq_some_iff.mp h).1
  rw [List.length_take]
  omega
/-- what a turn leaves, as the library's rule asks it -/
theorem lc_turn (hK : g.G.K = X.K) {t : Tg} {c : MT} {e : M} {n : Nat} {D : Addr} {w : W} {x : V} {h' : Hh} {vs : List Nat} {Nx : Hp → Prop} (hown : ∀ i ∈ t.sl, i ∈ vs) (R : HR g.G H τ h) (S : SR g.G H τ h σa (wipe σ vs)) (r : RW g.G H τ h w x) (hD : τ[n]? = some D) (hn : h.length = n + 1)
    (E : lcTurn t c e σa n w h = some h') (k : ∀ H1 τ1, Ext H τ h H1 τ1 h' → HR g.G H1 τ1 h' → h'.length = n + 1 → Nx H1) :
    gT X.K t x (wipe σ vs) H fun σ2 H2 => wipe σ2 vs = wipe σ vs ∧ tTs g.nx c σ2 H2 fun b H3 => if b = true then tE g.nx e σ2 H3 fun y H4 => ∃ acc, H4 D = some (.lst acc) ∧ acc.length < sizeLine ∧ Nx (upd H4 D (.lst (acc ++ [y]))) else Nx H3 := by
  unfold lcTurn at E
  split at E
  · cases E
  · rename_i σ1 eb
    refine gT_of hK R t eb S r fun σ2 S2 hw => ⟨by rw [hw vs hown, wipe_wipe], ?_⟩
    refine ⟨τ, h, σ1, R, S2, ?_⟩
    have hτ : τ.length = n + 1 := by rw [R.len]; exact hn
    cases ec : c σ1 h with
    | no => rw [ec] at E; cases E
    | ex _ _ _ => rw [ec] at E; cases E
    | ok b h1 =>
      rw [ec] at E
      intro τ1 H1 b' x1 R1 eq
      subst eq
      cases b with
      | false =>
        cases E
        rw [if_neg (by simp)]
        have hD1 := x1.p _ _ hD
        refine k H1 (τ1.take (n + 1)) (x1.take (by omega)) (R1.take _) ?_
        have : h1[n]? ≠ none := by
          intro z
          have := List.getElem?_eq_none_iff.mp z
          have h2 := (List.getElem?_eq_some_iff.mp hD1).1
          have h3 := R1.len
          omega
        cases z : h1[n]? with
        | none => exact absurd z this
        | some o => exact take_len z
      | true =>
        rw [if_pos rfl]
        have S3 := S2.grow R x1
        refine ⟨τ1, h1, σ1, R1, S3, ?_⟩
        simp only at E
        cases ee : e σ1 h1 with
        | no => rw [ee] at E; cases E
        | ex _ _ _ => rw [ee] at E; cases E
        | ok w2 h2 =>
          rw [ee] at E
          simp only at E
          intro τ2 H2 v2 x2 R2 r2
          split at E
          · rename_i d h3 ef
            obtain ⟨x3, R3, rd⟩ := fzW_ok R2 r2 ef
            have hD2 := x2.p _ _ (x1.p _ _ hD)
            split at E
            · rename_i acc en
              split at E
              · rename_i hz
                cases E
                cases R3.ob n D _ hD2 en with
                | @lst _ _ us p z l =>
                  have lz : us.length < sizeLine := by rw [← l.len, szEq]; exact hz
                  refine ⟨us, p, lz, ?_⟩
                  obtain ⟨x4, R4⟩ := R3.change (u' := .lst (us ++ [v2])) (o' := .lst (acc ++ [d])) hD2 en rfl rfl fun H5 T5 gr e5 =>
                    .lst e5 (by rw [List.length_append, List.length_singleton]; omega) ((l.grow R3.noTup gr).append (.cons (rd.grow R3.noTup gr) .nil))
                  refine k _ (τ2.take (n + 1)) ((((x1.trans x2).trans x3).trans x4).take (by omega)) (R4.take _) ?_
                  have : n < h3.length := (List.getElem?_eq_some_iff.mp en).1
                  rw [List.length_take, List.length_set]
                  omega
              · cases E
            · cases E
          · cases E
theorem tLc_of (hK : g.G.K = X.K) {it : MI} {t : Tg} {c : MT} {e : M} {vs : List Nat} {Q : VK} (hown : ∀ i ∈ t.sl, i ∈ vs) (q : tE g (mLc it t c e vs) σ H Q) : tLc (tI g it) (gT X.K t) (tTs g.nx c) (tE g.nx e) vs σ H Q := by
  obtain ⟨τ, h, σa, R, S, F⟩ := q
  refine tI.step R S F fun H1 τ1 h1 f J n0 ir F1 D hD => ?_
  obtain ⟨x1, R1, rw1⟩ := n0.r.alloc (o := .lst []) (u := .lst []) hD (fun _ q => nomatch q) (.lst upd_same (Nat.zero_le _) .nil)
  have hDn : (τ1 ++ [D])[h1.length]? = some D := by rw [← n0.r.len]; simp
  refine ⟨fun i m H2 => ∃ τ2 h2, Ext (upd H1 D (.lst [])) (τ1 ++ [D]) (h1 ++ [.lst []]) H2 τ2 h2 ∧ HR g.G H2 τ2 h2 ∧ h2.length = h1.length + 1 ∧ Fin g σ H2 τ2 h2 (lcGo f t c e (wipeA σa vs) h1.length m i h2) Q,
    ⟨FU, _, _, Ext.refl, R1, by simp, Fin.ext x1 F1⟩, ?_⟩
  rintro i m H2 ⟨τ2, h2, x2, R2, hl, F2⟩
  have ex := x1.trans x2
  cases m with
  | zero => exact F2.elim
  | succ m =>
    have J2 := ir i H2 τ2 h2 ex R2
    unfold lcGo at F2
    split at F2
    · exact F2.elim
    · rename_i ei
      rw [ei] at J2
      exact .inl ⟨J2, F2 τ2 H2 (.ref D) Ext.refl R2 (.r (x2.p _ _ hDn))⟩
    · rename_i w ei
      rw [ei] at J2
      obtain ⟨jg, jy⟩ := J2
      split at F2
      · rename_i h3 et
        refine .inr ⟨jg, fun H3 => ∃ τ3, Ext H2 τ2 h2 H3 τ3 h3 ∧ HR g.G H3 τ3 h3 ∧ h3.length = h1.length + 1, fun H3 ⟨τ3, x3, R3, l3⟩ => ⟨m, Nat.lt_succ_self m, τ3, h3, x2.trans x3, R3, l3, Fin.ext x3 F2⟩, fun x H' y => ?_⟩
        obtain ⟨y1, y2, y3⟩ := jy x H' y
        have S2 : SR g.G H' τ2 h2 σa σ := ((S.grow R n0.e).grow n0.r ex).grow R2 y1
        exact lc_turn hK hown y2 (S2.wipe vs) y3 (x2.p _ _ hDn) hl et fun H5 τ5 x5 R5 l5 => ⟨τ5, y1.trans x5, R5, l5⟩
      · exact F2.elim
end
end Pe

set_option linter.all false
set_option maxRecDepth 100000
set_option maxHeartbeats 4000000
namespace Pe
open PySem PySem.Spec PyProof.Rows L2
/-! ### statements -/
inductive RsS where
  | nx (σ : Sl) (h : Hh) | rt (w : W) (h : Hh) | bk (σ : Sl) (h : Hh) | ct (σ : Sl) (h : Hh) | ex (c : Nat) (v : D) (σ : Sl) (h : Hh) | no
abbrev MS := Sl → Hh → RsS
def RsS.of {α : Type} (σ : Sl) (r : Rs α) (f : α → Hh → RsS) : RsS := match r with
  | .ok a h => f a h
  | .ex c v h => .ex c v σ h
  | .no => .no
def RsS.thn (r : RsS) (f : Sl → Hh → RsS) : RsS := match r with
  | .nx σ h => f σ h
  | r => r
def FinS (g : Rg) (D : Ends) (H : Hp) (τ : List Addr) (h : Hh) (r : RsS) : Prop := match r with
  | .nx σa h' => ∀ τ' H' σ, Ext H τ h H' τ' h' → HR g.G H' τ' h' → SR g.G H' τ' h' σa σ → D.nx σ H'
  | .rt w h' => ∀ τ' H' v, Ext H τ h H' τ' h' → HR g.G H' τ' h' → RW g.G H' τ' h' w v → D.rt v H'
  | .bk σa h' => ∀ τ' H' σ, Ext H τ h H' τ' h' → HR g.G H' τ' h' → SR g.G H' τ' h' σa σ → D.bk σ H'
  | .ct σa h' => ∀ τ' H' σ, Ext H τ h H' τ' h' → HR g.G H' τ' h' → SR g.G H' τ' h' σa σ → D.ct σ H'
  | .ex c x σa h' => ∀ τ' H' σ cls d, Ext H τ h H' τ' h' → HR g.G H' τ' h' → SR g.G H' τ' h' σa σ → XRel g.G g.pn H' (Trk τ' h') c x cls d → g.W cls d σ H'
  | .no => False
def tS (g : Rg) (m : MS) : TS := fun D σ H => ∃ τ h σa, HR g.G H τ h ∧ SR g.G H τ h σa σ ∧ FinS g D H τ h (m σa h)
def sNil : MS := fun σ h => .nx σ h
def sSeq (a b : MS) : MS := fun σ h => (a σ h).thn b
def sSet (t : Tg) (m : M) : MS := fun σ h => .of σ (m σ h) fun w h1 => match bT h1 t w σ with
  | some σ' => .nx σ' h1
  | none => .no
def sPar (i j : Nat) (ml : ML) : MS := fun σ h => .of σ (ml σ h) fun ws h1 => match ws with
  | [a, b] => .nx ((σ.set i (some a)).set j (some b)) h1
  | _ => .no
def sDrop (m : M) : MS := fun σ h => .of σ (m σ h) fun _ h1 => .nx σ h1
def sRet (m : M) : MS := fun σ h => .of σ (m σ h) fun w h1 => .rt w h1
def sRetN : MS := fun _ h => .rt (.d .non) h
def sIf (t : MT) (a b : MS) : MS := fun σ h => .of σ (t σ h) fun k h1 => match k with
  | true => a σ h1
  | false => b σ h1
def sBk : MS := fun σ h => .bk σ h
def sCt : MS := fun σ h => .ct σ h
def sNo : MS := fun _ _ => .no
/-- d[i] = v, xs[i] = v -/
def stR (w wo wi : W) (h : Hh) : Option Hh := match fzW w h with
  | some (d, h1) => match wo with
    | .r n => match h1[n]? with
      | some (.lst xs) => match wi with
        | .d (.int k) => match ixN xs.length k with
          | some j => some (h1.set n (.lst (xs.set j d)))
          | none => none
        | _ => none
      | some (.dic ks vs) => match wi with
        | .d x => if okKey ks x && decide ((dput ks vs x d).1.length ≤ SZ) then some (h1.set n (.dic (dput ks vs x d).1 (dput ks vs x d).2)) else none
        | _ => none
      | _ => none
    | _ => none
  | none => none
def sPut (mo mi m : M) : MS := fun σ h => .of σ (m σ h) fun w h1 => .of σ (mo σ h1) fun wo h2 => .of σ (mi σ h2) fun wi h3 => match stR w wo wi h3 with
  | some h4 => .nx σ h4
  | none => .no
/-- for -/
def forGo (f : ItF) (t : Tg) (b : MS) : Nat → Nat → Sl → Hh → RsS
  | 0, _, _, _ => .no
  | k + 1, i, σ, h => match f i h with
    | none => .no
    | some none => .nx σ h
    | some (some w) => match bT h t w σ with
      | none => .no
      | some σ1 => match b σ1 h with
        | .nx σ2 h2 => forGo f t b k (i + 1) σ2 h2
        | .ct σ2 h2 => forGo f t b k (i + 1) σ2 h2
        | .bk σ2 h2 => .nx σ2 h2
        | r => r
def sFor (it : MI) (t : Tg) (b : MS) : MS := fun σ h => .of σ (it σ h) fun f h1 => forGo f t b FU 0 σ h1
/-- while -/
def whGo (t : MT) (b : MS) : Nat → Sl → Hh → RsS
  | 0, _, _ => .no
  | k + 1, σ, h => match t σ h with
    | .no => .no
    | .ex c v h1 => .ex c v σ h1
    | .ok false h1 => .nx σ h1
    | .ok true h1 => match b σ h1 with
      | .nx σ2 h2 => whGo t b k σ2 h2
      | .ct σ2 h2 => whGo t b k σ2 h2
      | .bk σ2 h2 => .nx σ2 h2
      | r => r
def sWh (t : MT) (b : MS) : MS := fun σ h => whGo t b FU σ h

section
variable {X : Cx} {g : Rg} {σ : St} {H : Hp} {τ : List Addr} {h : Hh} {σa : Sl} {D : Ends}
theorem FinS.ext {r : RsS} {H1 : Hp} {τ1 : List Addr} {h1 : Hh} (e : Ext H τ h H1 τ1 h1) (f : FinS g D H τ h r) : FinS g D H1 τ1 h1 r := by
  cases r with
  | nx σa h' => exact fun τ' H' σ e' => f τ' H' σ (e.trans e')
  | rt w h' => exact fun τ' H' v e' => f τ' H' v (e.trans e')
  | bk σa h' => exact fun τ' H' σ e' => f τ' H' σ (e.trans e')
  | ct σa h' => exact fun τ' H' σ e' => f τ' H' σ (e.trans e')
  | ex c x σa h' => exact fun τ' H' σ cls d e' => f τ' H' σ cls d (e.trans e')
  | no => exact f
theorem FinS.ends {r : RsS} {D' : Ends} (f : FinS g D H τ h r) (k1 : ∀ σ H, D.nx σ H → D'.nx σ H) (k2 : ∀ v H, D.rt v H → D'.rt v H) (k3 : ∀ σ H, D.bk σ H → D'.bk σ H) (k4 : ∀ σ H, D.ct σ H → D'.ct σ H) : FinS g D' H τ h r := by
  cases r with
  | nx σa h' => exact fun τ' H' σ a b c => k1 _ _ (f τ' H' σ a b c)
  | rt w h' => exact fun τ' H' v a b c => k2 _ _ (f τ' H' v a b c)
  | bk σa h' => exact fun τ' H' σ a b c => k3 _ _ (f τ' H' σ a b c)
  | ct σa h' => exact fun τ' H' σ a b c => k4 _ _ (f τ' H' σ a b c)
  | ex c x σa h' => exact f
  | no => exact f
/-- an expression's reading, then a statement's -/
theorem tE.stepS {m : M} {f : W → Hh → RsS} (R : HR g.G H τ h) (S : SR g.G H τ h σa σ) (F : FinS g D H τ h (.of σa (m σa h) f))
    {Q1 : VK} (k : ∀ H1 τ1 h1 w v, Nxt g σ σa H τ h H1 τ1 h1 → RW g.G H1 τ1 h1 w v → FinS g D H1 τ1 h1 (f w h1) → Q1 v H1) : tE g m σ H Q1 := by
  refine ⟨τ, h, σa, R, S, ?_⟩
  cases e : m σa h with
  | ok w h' =>
    rw [e] at F
    exact fun τ' H' v a b c => k H' τ' h' w v ⟨a, b, S.grow R a⟩ c (FinS.ext a F)
  | ex c x h' =>
    rw [e] at F
    exact fun τ' H' cls d a b c => F τ' H' σ cls d a b (S.grow R a) c
  | no => rw [e] at F; exact F
theorem tAr.stepS {m : ML} {f : List W → Hh → RsS} (R : HR g.G H τ h) (S : SR g.G H τ h σa σ) (F : FinS g D H τ h (.of σa (m σa h) f))
    {Q1 : List V → Hp → Prop} (k : ∀ H1 τ1 h1 w v, Nxt g σ σa H τ h H1 τ1 h1 → RWs g.G H1 τ1 h1 w v → FinS g D H1 τ1 h1 (f w h1) → Q1 v H1) : tAr g m σ H Q1 := by
  refine ⟨τ, h, σa, R, S, ?_⟩
  cases e : m σa h with
  | ok w h' =>
    rw [e] at F
    exact fun τ' H' v a b c => k H' τ' h' w v ⟨a, b, S.grow R a⟩ c (FinS.ext a F)
  | ex c x h' =>
    rw [e] at F
    exact fun τ' H' cls d a b c => F τ' H' σ cls d a b (S.grow R a) c
  | no => rw [e] at F; exact F
theorem tTs.stepS {m : MT} {f : Bool → Hh → RsS} (R : HR g.G H τ h) (S : SR g.G H τ h σa σ) (F : FinS g D H τ h (.of σa (m σa h) f))
    {Q1 : Bool → Hp → Prop} (k : ∀ H1 τ1 h1 w, Nxt g σ σa H τ h H1 τ1 h1 → FinS g D H1 τ1 h1 (f w h1) → Q1 w H1) : tTs g m σ H Q1 := by
  refine ⟨τ, h, σa, R, S, ?_⟩
  cases e : m σa h with
  | ok w h' =>
    rw [e] at F
    intro τ' H' v a b c
    cases c
    exact k H' τ' h' w ⟨a, b, S.grow R a⟩ (FinS.ext a F)
  | ex c x h' =>
    rw [e] at F
    exact fun τ' H' cls d a b c => F τ' H' σ cls d a b (S.grow R a) c
  | no => rw [e] at F; exact F
theorem tI.stepS {m : MI} {f : ItF → Hh → RsS} (R : HR g.G H τ h) (S : SR g.G H τ h σa σ) (F : FinS g D H τ h (.of σa (m σa h) f))
    {Q1 : It → Hp → Prop} (k : ∀ H1 τ1 h1 w v, Nxt g σ σa H τ h H1 τ1 h1 → ItR g w v H1 τ1 h1 → FinS g D H1 τ1 h1 (f w h1) → Q1 v H1) : tI g m σ H Q1 := by
  refine ⟨τ, h, σa, R, S, ?_⟩
  cases e : m σa h with
  | ok w h' =>
    rw [e] at F
    exact fun τ' H' v a b c => k H' τ' h' w v ⟨a, b, S.grow R a⟩ c (FinS.ext a F)
  | ex c x h' =>
    rw [e] at F
    exact fun τ' H' cls d a b c => F τ' H' σ cls d a b (S.grow R a) c
  | no => rw [e] at F; exact F
variable {st : Stmt} {sts : List Stmt} {a b : MS} {m : M} {e : Expr} {pos : Pos}
theorem pss_sNil : PSs X [] (tS g sNil) := pss_weak pss_nil fun D σ H ⟨τ, h, σa, R, S, F⟩ => F τ H σ Ext.refl R S
theorem pss_sSeq (h1 : PS X st (tS g a)) (h2 : PSs X sts (tS g b)) : PSs X (st :: sts) (tS g (sSeq a b)) := pss_weak (pss_cons h1 h2) fun D σ H ⟨τ, h, σa, R, S, F⟩ => by
  refine ⟨τ, h, σa, R, S, ?_⟩
  unfold sSeq at F
  cases e : a σa h with
  | nx σ1 h1 =>
    rw [e] at F
    exact fun τ' H' σ' x R' S' => ⟨τ', h1, σ1, R', S', FinS.ext x F⟩
  | _ => rw [e] at F; exact F
theorem tAsg_of (hK : g.G.K = X.K) {t : Tg} (q : tS g (sSet t m) D σ H) : tAsg (tE g m) (gT X.K t) D σ H := by
  obtain ⟨τ, h, σa, R, S, F⟩ := q
  refine tE.stepS R S F fun H1 τ1 h1 w v n r F1 => ?_
  split at F1
  · rename_i σ1 eb
    exact gT_of hK n.r t eb n.s r fun σ' S' _ => F1 τ1 H1 σ' Ext.refl n.r S'
  · exact F1.elim
theorem ps_sSet (hK : g.G.K = X.K) {t : Tg} {tg : Expr} (he : PE X e (tE g m)) (hg : PG X tg (gT X.K t)) (hs : swapsWithSole [tg] e pos.line X.env = pure false) (hw : swappedStores [tg] e X.env = pure none) (h1 : (assignEach [tg] X.env).map (·.2) = [assign tg X.env]) :
    PS X (.Assign [tg] e pos) (tS g (sSet t m)) := ps_weak (ps_asg he hg hs hw h1) fun D σ H q => tAsg_of hK q
theorem ps_sDrop (he : PE X e (tE g m)) (hs : swapsWith e none pos.line X.env = pure false) : PS X (.Expr e pos) (tS g (sDrop m)) := ps_weak (ps_expr he hs) fun D σ H ⟨τ, h, σa, R, S, F⟩ =>
  tE.stepS R S F fun H1 τ1 h1 w v n r F1 => F1 τ1 H1 σ Ext.refl n.r n.s
theorem ps_sRet (he : PE X e (tE g m)) : PS X (.Return (some e) pos) (tS g (sRet m)) := ps_weak (ps_ret he) fun D σ H ⟨τ, h, σa, R, S, F⟩ =>
  tE.stepS R S F fun H1 τ1 h1 w v n r F1 => F1 τ1 H1 v Ext.refl n.r r
theorem ps_sRetN : PS X (.Return none pos) (tS g sRetN) := ps_weak ps_retN fun D σ H ⟨τ, h, σa, R, S, F⟩ => F τ H .non Ext.refl R (.d .non)
theorem ps_sIf {t : MT} {xs ys : List Stmt} (hc : PT X e (tTs g t)) (ha : PSs X xs (tS g a)) (hb : PSs X ys (tS g b)) : PS X (.If e xs ys pos) (tS g (sIf t a b)) := ps_weak (ps_if hc ha hb) fun D σ H ⟨τ, h, σa, R, S, F⟩ =>
  tTs.stepS R S F fun H1 τ1 h1 k n F1 => by
    cases k with
    | true => rw [if_pos rfl]; exact ⟨τ1, h1, σa, n.r, n.s, F1⟩
    | false => rw [if_neg (by simp)]; exact ⟨τ1, h1, σa, n.r, n.s, F1⟩
theorem ps_sPass : PS X (.Pass pos) (tS g sNil) := ps_weak ps_pass fun D σ H ⟨τ, h, σa, R, S, F⟩ => F τ H σ Ext.refl R S
theorem ps_sBk : PS X (.Break pos) (tS g sBk) := ps_weak ps_break fun D σ H ⟨τ, h, σa, R, S, F⟩ => F τ H σ Ext.refl R S
theorem ps_sCt : PS X (.Continue pos) (tS g sCt) := ps_weak ps_continue fun D σ H ⟨τ, h, σa, R, S, F⟩ => F τ H σ Ext.refl R S
theorem ps_sNo : PS X st (tS g sNo) := ps_weak ps_never fun D σ H ⟨τ, h, σa, R, S, F⟩ => F
theorem ps_sPar (G : Good g X) {ml : ML} {i j : Nat} {x y : Str} {a b : Expr} {px py pt : Pos} {kt k2 pt2} (hi : X.N[i]? = some x) (hj : X.N[j]? = some y) (hij : i ≠ j)
    (hx : X.env.scope.names.lookup x = some .local) (hy : X.env.scope.names.lookup y = some .local) (ha : PA X [a, b] (tAr g ml))
    (hw : swappedStores [.Tuple [.Name x px, .Name y py] kt pt] (.Tuple [a, b] k2 pt2) X.env = pure (some [x, y]))
    (hs : swapsWithSole [.Tuple [.Name x px, .Name y py] kt pt] (.Tuple [a, b] k2 pt2) pos.line X.env = pure false) : PS X (.Assign [.Tuple [.Name x px, .Name y py] kt pt] (.Tuple [a, b] k2 pt2) pos) (tS g (sPar i j ml)) :=
  ps_weak (ps_par G.calm G.nd hi hj hij hx hy ha hw hs) fun D σ H ⟨τ, h, σa, R, S, F⟩ => tAr.stepS R S F fun H1 τ1 h1 ws vs n r F1 => by
    split at F1
    · cases r with
      | cons ra rb =>
        cases rb with
        | cons rb rc =>
          cases rc
          exact ⟨_, _, rfl, F1 τ1 H1 _ Ext.refl n.r ((n.s.set ra i).set rb j)⟩
    · exact F1.elim
/-! #### loops -/
theorem tFor_of (hK : g.G.K = X.K) {it : MI} {t : Tg} {b : MS} (q : tS g (sFor it t b) D σ H) : tFor (tI g it) (gT X.K t) (tS g b) D σ H := by
  obtain ⟨τ, h, σa, R, S, F⟩ := q
  refine tI.stepS R S F fun H1 τ1 h1 f J n0 ir F1 => ?_
  refine ⟨fun i m σ2 H2 => ∃ τ2 h2 σb, Ext H1 τ1 h1 H2 τ2 h2 ∧ HR g.G H2 τ2 h2 ∧ SR g.G H2 τ2 h2 σb σ2 ∧ FinS g D H2 τ2 h2 (forGo f t b m i σb h2), ⟨FU, τ1, h1, σa, Ext.refl, n0.r, n0.s, F1⟩, ?_⟩
  rintro i m σ2 H2 ⟨τ2, h2, σb, x2, R2, S2, F2⟩
  cases m with
  | zero => exact F2.elim
  | succ m =>
    have J2 := ir i H2 τ2 h2 x2 R2
    unfold forGo at F2
    split at F2
    · exact F2.elim
    · rename_i ei
      rw [ei] at J2
      exact .inl ⟨J2, F2 τ2 H2 σ2 Ext.refl R2 S2⟩
    · rename_i w ei
      rw [ei] at J2
      obtain ⟨jg, jy⟩ := J2
      split at F2
      · exact F2.elim
      · rename_i σ1 eb
        refine .inr ⟨jg, fun σ3 H3 => ∃ m', m' < m + 1 ∧ ∃ τ3 h3 σc, Ext H1 τ1 h1 H3 τ3 h3 ∧ HR g.G H3 τ3 h3 ∧ SR g.G H3 τ3 h3 σc σ3 ∧ FinS g D H3 τ3 h3 (forGo f t b m' (i + 1) σc h3), fun _ _ q => q, fun x H' y => ?_⟩
        obtain ⟨y1, y2, y3⟩ := jy x H' y
        refine gT_of hK y2 t eb (S2.grow R2 y1) y3 fun σ3 S3 _ => ⟨τ2, h2, σ1, y2, S3, ?_⟩
        have go : ∀ {σ4 : Sl} {h4 : Hh}, FinS g D H2 τ2 h2 (forGo f t b m (i + 1) σ4 h4) → ∀ τ' H5 σ5, Ext H' τ2 h2 H5 τ' h4 → HR g.G H5 τ' h4 → SR g.G H5 τ' h4 σ4 σ5 → ∃ m', m' < m + 1 ∧ ∃ τ3 h3 σc, Ext H1 τ1 h1 H5 τ3 h3 ∧ HR g.G H5 τ3 h3 ∧ SR g.G H5 τ3 h3 σc σ5 ∧ FinS g D H5 τ3 h3 (forGo f t b m' (i + 1) σc h3) :=
          fun {σ4 h4} F3 τ' H5 σ5 x5 R5 S5 => ⟨m, Nat.lt_succ_self m, τ', h4, σ4, (x2.trans y1).trans x5, R5, S5, FinS.ext (y1.trans x5) F3⟩
        cases er : b σ1 h2 with
        | nx σ4 h4 => rw [er] at F2; exact go F2
        | ct σ4 h4 => rw [er] at F2; exact go F2
        | bk σ4 h4 => rw [er] at F2; exact fun τ' H5 σ5 x5 R5 S5 => F2 τ' H5 σ5 (y1.trans x5) R5 S5
        | rt w h4 => rw [er] at F2; exact fun τ' H5 v x5 R5 r5 => F2 τ' H5 v (y1.trans x5) R5 r5
        | ex c v σ4 h4 => rw [er] at F2; exact fun τ' H5 σ5 cls d x5 R5 S5 xr => F2 τ' H5 σ5 cls d (y1.trans x5) R5 S5 xr
        | no => rw [er] at F2; exact F2
theorem ps_sFor (G : Good g X) {it : MI} {t : Tg} {b : MS} {tg iter : Expr} {body : List Stmt} (hp : PassesOwn (model X.prog X.w) X.A X.env X.xe) (hi : PI X tg iter (tI g it)) (hg : PG X tg (gT X.K t)) (hb : PSs X body (tS g b)) (hs : ∀ x, foldedSetIterable iter X.env x = pure x) : PS X (.For tg iter body [] pos) (tS g (sFor it t b)) :=
  ps_weak (ps_for hp G.calm hi hg hb hs) fun D σ H q => tFor_of G.hK q
theorem tWhile_of {t : MT} {b : MS} (q : tS g (sWh t b) D σ H) : tWhile (tTs g t) (tS g b) D σ H := by
  obtain ⟨τ, h, σa, R, S, F⟩ := q
  refine ⟨fun m σ2 H2 => ∃ τ2 h2 σb, HR g.G H2 τ2 h2 ∧ SR g.G H2 τ2 h2 σb σ2 ∧ FinS g D H2 τ2 h2 (whGo t b m σb h2), ⟨FU, τ, h, σa, R, S, F⟩, ?_⟩
  rintro m σ2 H2 ⟨τ2, h2, σb, R2, S2, F2⟩
  cases m with
  | zero => exact F2.elim
  | succ m =>
    refine ⟨τ2, h2, σb, R2, S2, ?_⟩
    unfold whGo at F2
    split at F2
    · exact F2.elim
    · rename_i e
      rw [e]
      exact fun τ' H' cls d x R' xr => F2 τ' H' σ2 cls d x R' (S2.grow R2 x) xr
    · rename_i h3 e
      rw [e]
      intro τ' H' k x R' ek
      cases ek
      rw [if_neg (by simp)]
      exact F2 τ' H' σ2 x R' (S2.grow R2 x)
    · rename_i h3 e
      rw [e]
      intro τ' H' k x R' ek
      cases ek
      rw [if_pos rfl]
      refine ⟨fun σ4 H4 => ∃ τ4 h4 σc, HR g.G H4 τ4 h4 ∧ SR g.G H4 τ4 h4 σc σ4 ∧ FinS g D H4 τ4 h4 (whGo t b m σc h4), fun σ4 H4 ⟨τ4, h4, σc, a, b, c⟩ => ⟨m, Nat.lt_succ_self m, τ4, h4, σc, a, b, c⟩, τ', h3, σb, R', S2.grow R2 x, ?_⟩
      cases er : b σb h3 with
      | nx σ4 h4 => rw [er] at F2; exact fun τ5 H5 σ5 x5 R5 S5 => ⟨τ5, h4, σ4, R5, S5, FinS.ext (x.trans x5) F2⟩
      | ct σ4 h4 => rw [er] at F2; exact fun τ5 H5 σ5 x5 R5 S5 => ⟨τ5, h4, σ4, R5, S5, FinS.ext (x.trans x5) F2⟩
      | bk σ4 h4 => rw [er] at F2; exact fun τ5 H5 σ5 x5 R5 S5 => F2 τ5 H5 σ5 (x.trans x5) R5 S5
      | rt w h4 => rw [er] at F2; exact fun τ5 H5 v x5 R5 r5 => F2 τ5 H5 v (x.trans x5) R5 r5
      | ex c v σ4 h4 => rw [er] at F2; exact fun τ5 H5 σ5 cls d x5 R5 S5 xr => F2 τ5 H5 σ5 cls d (x.trans x5) R5 S5 xr
      | no => rw [er] at F2; exact F2
theorem ps_sWh {t : MT} {b : MS} {body : List Stmt} (hp : PassesOwn (model X.prog X.w) X.A X.env X.xe) (hc : PT X e (tTs g t)) (hb : PSs X body (tS g b)) : PS X (.While e body [] pos) (tS g (sWh t b)) :=
  ps_weak (ps_while hp hc hb) fun D σ H q => tWhile_of q
/-! #### stores -/
def rStR (g : Rg) : V → V → V → Hp → (Hp → Prop) → Prop := fun o i v H Q => ∃ τ h w wo wi h', HR g.G H τ h ∧ RW g.G H τ h w v ∧ RW g.G H τ h wo o ∧ RW g.G H τ h wi i ∧ stR w wo wi h = some h' ∧ ∀ τ' H', Ext H τ h H' τ' h' → HR g.G H' τ' h' → Q H'
theorem set_any (G : Good g X) : PSet X (rStR g) := by
  intro pins s σ H o i v ov iv u Q I ro ri rv q
  obtain ⟨τ, h, w, wo, wi, h', R, rw_, rwo, rwi, e, q⟩ := q
  unfold stR at e
  split at e
  · rename_i d h1 ef
    obtain ⟨x1, R1, rd⟩ := fzW_ok R rw_ ef
    have rwo := rwo.grow R x1
    have rwi := rwi.grow R x1
    cases wo with
    | d _ => cases e
    | r n =>
      simp only at e
      cases rwo with
      | @r _ a ea =>
        cases ro
        split at e
        · rename_i xs en
          cases wi with
          | r _ => cases e
          | d di =>
            cases di with
            | int k =>
              simp only at e
              split at e
              · rename_i j ej
                cases e
                cases R1.ob n a _ ea en with
                | @lst _ _ us p z l =>
                  cases rwi with
                  | d ri2 =>
                    cases ri2
                    obtain ⟨x2, R2⟩ := R1.change (u' := .lst (us.set j v)) (o' := .lst (xs.set j d)) ea en rfl rfl fun H5 T5 gr e5 =>
                      .lst e5 (by rw [List.length_set]; exact z) ((l.grow R1.noTup gr).set j (rd.grow R1.noTup gr))
                    exact set_list pins s σ H (.ref a) (.int k) v (.ref a) iv u Q I rfl ri rv ⟨a, us, k, j, rfl, rfl, p, by rw [← l.len]; exact ej, q _ _ (x1.trans x2) R2⟩
              · cases e
            | _ => cases e
        · rename_i ks vs en
          cases wi with
          | r _ => cases e
          | d x =>
            simp only at e
            split at e
            · rename_i hc
              cases e
              have hc' : okKey ks x = true ∧ (dput ks vs x d).1.length ≤ SZ := by simpa using hc
              cases R1.ob n a _ ea en with
              | @dic _ _ _ E p z l =>
                cases rwi with
                | d ri2 =>
                  refine dict_store G.hK G.hw G.hu I p z.2 z.1 l hc'.1 ri2 ri rd rv fun E' s' J l' => ?_
                  obtain ⟨x2, R2⟩ := R1.change (u' := dO a E') (o' := .dic (dput ks vs x d).1 (dput ks vs x d).2) ea en rfl rfl fun H5 T5 gr e5 =>
                    .dic e5 ⟨by rw [← (l'.grow R1.noTup gr).len.1, szEq]; exact hc'.2, kok_put z.2 (okKey_spec hc'.1).1⟩ (l'.grow R1.noTup gr)
                  exact ⟨_, J, q _ _ (x1.trans x2) R2⟩
            · cases e
        · cases e
  · cases e
theorem tPut_of (G : Good g X) {mo mi m : M} (q : tS g (sPut mo mi m) D σ H) : tAsg (tE g m) (gSub (tE g mo) (tE g mi) (rStR g)) D σ H := by
  obtain ⟨τ, h, σa, R, S, F⟩ := q
  refine tE.stepS R S F fun H1 τ1 h1 w v n r F1 => tE.stepS n.r n.s F1 fun H2 τ2 h2 wo vo n2 r2 F2 => tE.stepS n2.r n2.s F2 fun H3 τ3 h3 wi vi n3 r3 F3 => ?_
  split at F3
  · rename_i h4 e
    exact ⟨τ3, h3, w, wo, wi, h4, n3.r, (r.grow n.r n2.e).grow n2.r n3.e, r2.grow n2.r n3.e, r3, e, fun τ' H' x R' => F3 τ' H' σ x R' (n3.s.grow n3.r x)⟩
  · exact F3.elim
theorem ps_sPut (G : Good g X) {mo mi m : M} {o i e : Expr} {p2 : Pos} (ho : PE X o (tE g mo)) (hi : PE X i (tE g mi)) (he : PE X e (tE g m)) (hw : swappedStores [.Subscript o i p2] e X.env = pure none) (hs : swapsWithSole [.Subscript o i p2] e pos.line X.env = pure false)
    (h1 : (assignEach [.Subscript o i p2] X.env).map (·.2) = [assign (.Subscript o i p2) X.env])
    (ha : ∀ v, assign (.Subscript o i p2) X.env v = (do
      let ov ← holding [v] (eval o X.env)
      let iv ← holding [v, ov] (eval i X.env)
      standAt p2; holding [v, ov, iv] (setItem ov iv v); release [v, ov, iv] [])) : PS X (.Assign [.Subscript o i p2] e pos) (tS g (sPut mo mi m)) :=
  ps_weak (ps_asg he (pg_sub ho hi (set_any G) ha) hs hw h1) fun D σ H q => tPut_of G q
end
end Pe

set_option linter.all false
set_option maxRecDepth 100000
set_option maxHeartbeats 4000000
namespace Pe
open PySem PySem.Spec PyProof.Rows L2
/-! ### defs -/
/-- a def's promise where the guards are told -/
structure FnG (P : Program) (w : World) (K : PySem.W.Frag) (mg : Str → Option Value) (base : Heap) (k : Nat) (f : Addr) (fd : FuncData) (ps : List Str) (sp : Sp) : Prop where
  len : ∀ vs H Q E, sp vs H Q E → vs.length = ps.length
  run : ∀ (A : Around) (outer : List Env) (s : Shared) (H : Hp) (args : Args) (us : List Value) (vs : List V) (Q : VK) (E : XK), Room k A → A.guards = some [] → Env0 P w K mg base A outer s H →
    BindsTo s fd args (ps.zip us) → Vals vs us → sp vs H Q E → codeAny (model P w) A (.call (.ref f) args) (CR (L2.CX P w) outer P w H s Q E) s
theorem FnG.mono {P : Program} {w : World} {K : PySem.W.Frag} {mg : Str → Option Value} {base : Heap} {j k : Nat} {f : Addr} {fd : FuncData} {ps : List Str} {sp : Sp} (F : FnG P w K mg base j f fd ps sp) (h : j ≤ k) : FnG P w K mg base k f fd ps sp :=
  ⟨F.len, fun A outer s H args us vs Q E hr => F.run A outer s H args us vs Q E (hr.mono h)⟩
theorem guards_deeper (A : Around) (env : Env) : (A.deeper env).guards = A.guards := by first | rfl | (cases A; rfl)
theorem FnG.of {P : Program} {w : World} {K : PySem.W.Frag} {mg : Str → Option Value} {base : Heap} {k : Nat} {f : Addr} {name qual : Str} {params : Arguments} {body : List Stmt} {scope : Scope} {dV kV doc pm cdv ct oc : Value} {an od : Option Addr}
    {osl : Array (Option Value)} {N ps : List Str} {sp : Sp} (lk : K.lookup f = some ⟨oc, od, .func (PySem.W.fnOf name qual params body scope dV kV doc pm an cdv ct), osl⟩) (hcd : PySem.W.codeIn K cdv qual = true) (S : FnScope N ps scope)
    (len : ∀ vs H Q E, sp vs H Q E → vs.length = ps.length)
    (hbody : ∀ (A : Around) (outer : List Env) (s : Shared) (H : Hp) (vs : List V) (Q : VK) (E : XK), Room k (A.deeper (envOfC qual scope s.heap.objs.size f cdv)) → A.guards = some [] → sp vs H Q E →
      ∃ t, PSs (cxOf (L2.CX P w) P w K mg base N qual scope f cdv A outer s H E) body t ∧ t { nx := fun _ H' => Q .non H', rt := Q } (start N vs) H) :
    FnG P w K mg base (k + 1) f (PySem.W.fnOf name qual params body scope dV kV doc pm an cdv ct) ps sp := by
  constructor
  · exact len
  intro A outer s H args us vs Q E room gu e0 hb r hsp
  have hl := len _ _ _ _ hsp
  have inK : K.In s.heap := e0.mod.kin.keeps fun b o q => (e0.bs b o q).1
  have few : s.heap.NoLimit := e0.mod.nolimit.keeps fun b o q => (e0.bs b o q).1
  have kinds : ∀ y ∈ ps.zip us, scope.names.lookup y.1 = some .local ∨ (scope.names.lookup y.1 = some .cell ∧ ((cellsFrom (s.heap.objs.size + 1) scope.names []).lookup y.1).isSome = true) := by
    intro y hy
    obtain ⟨n, v⟩ := y
    have z := S.par n (List.of_mem_zip hy).1
    exact z.imp id fun q => ⟨q, PySem.W.cellsFrom_some _ _ _ (.inl q)⟩
  have rec_ := PySem.W.codeRec_of inK hcd
  apply codeAny_call_function room.depth (inK _ _ lk) rfl S.co S.gen rfl rec_
  apply hb
  apply wpAny_newFunctionEnv_cells S.kind kinds
  intro env he s1 x
  subst he
  refine ⟨few.keeps x.toInCall.keep, codeAny_func ?_⟩
  obtain ⟨t, ht, hq⟩ := hbody A outer s H vs Q E (room.deeper _) gu hsp
  have J : Inv (cxOf (L2.CX P w) P w K mg base N qual scope f cdv A outer s H E) [] (start N vs) H s1 := inv_start S room.hd e0 hl r x
  refine wpAny_mono (ht.run [] s1 (start N vs) H _ J hq) ?_ (fun _ _ q => q)
  intro fl s' hs
  match fl, hs with
  | .ret u, ⟨v, σ', H', J', rv, q⟩ => exact ⟨v, H', J'.os, J'.bare, J'.base, J'.hok, rv, q⟩
  | .next, ⟨σ', H', J', q⟩ => exact ⟨.non, H', J'.os, J'.bare, J'.base, J'.hok, rfl, q⟩
  | .brk, ⟨_, _, _, q⟩ => exact q.elim
  | .cont, ⟨_, _, _, q⟩ => exact q.elim
/-- a call's result -/
def FinC (G : Cfg) (pn : PnT) (H : Hp) (τ : List Addr) (h : Hh) (r : Rs W) (Q : VK) (E : XK) : Prop := match r with
  | .ok w h' => ∀ τ' H' v, Ext H τ h H' τ' h' → HR G H' τ' h' → RW G H' τ' h' w v → Q v H'
  | .ex c x h' => ∀ τ' H' cls d, Ext H τ h H' τ' h' → HR G H' τ' h' → XRel G pn H' (Trk τ' h') c x cls d → E cls d H'
  | .no => False
def spF (G : Cfg) (pn : PnT) (np : Nat) (F : List W → Hh → Rs W) : Sp := fun vs H Q E => vs.length = np ∧ ∃ τ h ws, HR G H τ h ∧ RWs G H τ h ws vs ∧ FinC G pn H τ h (F ws h) Q E
/-- what a def gives back -/
def retR (keep : Bool) (n : Nat) (r : RsS) : Rs W := match r with
  | .rt w h => match keep with
    | true => .ok w h
    | false => fzR n (.ok w h)
  | .nx _ h => .ok (.d .non) (h.take n)
  | .ex c x _ h => .ex c x (h.take n)
  | _ => .no
def startA (n : Nat) (ws : List W) : Sl := ws.map some ++ List.replicate (n - ws.length) none
def fnM (n np : Nat) (keep : Bool) (b : MS) (ws : List W) (h : Hh) : Rs W := match ws.length == np with
  | true => retR keep h.length (b (startA n ws) h)
  | false => .no
section
variable {X : Cx} {g : Rg} {σ : St} {H : Hp} {τ : List Addr} {h : Hh} {σa : Sl}
theorem start_SR {G : Cfg} {N : List Str} {ws : List W} {vs : List V} (r : RWs G H τ h ws vs) : SR G H τ h (startA N.length ws) (start N vs) := by
  refine ⟨by unfold startA L2.start; simp [r.len], fun i w e => ?_⟩
  unfold startA at e
  unfold L2.start
  have base : ∀ {ws : List W} {vs : List V}, RWs G H τ h ws vs → ∀ (i : Nat) (w : W), (ws.map some)[i]? = some (some w) → ∃ v, (vs.map some)[i]? = some (some v) ∧ RW G H τ h w v := by
    intro ws vs r
    induction r with
    | nil => intro i w e; simp at e
    | cons a b ih =>
      intro i w e
      cases i with
      | zero => simp at e; subst e; exact ⟨_, by simp, a⟩
      | succ i =>
        obtain ⟨v, e1, e2⟩ := ih i w (by simpa using e)
        exact ⟨v, by simpa using e1, e2⟩
  by_cases hi : i < (ws.map (some : W → Option W)).length
  · rw [List.getElem?_append_left hi] at e
    obtain ⟨v, e1, e2⟩ := base r i w e
    refine ⟨v, ?_, e2⟩
    rw [List.getElem?_append_left (by rw [List.length_map] at hi ⊢; rw [← r.len]; exact hi)]
    exact e1
  · rw [List.getElem?_append_right (by omega)] at e
    have := List.mem_of_getElem? e
    rw [List.mem_replicate] at this
    cases this.2
theorem XRel.less {G : Cfg} {pn : PnT} {T T' : Addr → Prop} (n : NoTup T H) (l : ∀ a, T' a → T a) {c : Nat} {x : D} {cls : Value} {d : Option Addr} (q : XRel G pn H T c x cls d) : XRel G pn H T' c x cls d := by
  obtain ⟨e, q⟩ := q
  refine ⟨e, q.imp id fun ⟨dd, nm, vv, a, b, c, t, r⟩ => ⟨dd, nm, vv, a, b, c, fun z => t (l _ z), r.less n l⟩⟩
/-- a body's reading keeps the def's promise -/
theorem body_of {G : Cfg} {pn : PnT} {N : List Str} {np : Nat} {keep : Bool} {b : MS} {vs : List V} {Q : VK} {E : XK} (q : spF G pn np (fnM N.length np keep b) vs H Q E) :
    tS ⟨G, pn, fun cls d _ H' => E cls d H'⟩ b { nx := fun _ H' => Q .non H', rt := Q } (start N vs) H := by
  obtain ⟨hl, τ, h, ws, R, r, F⟩ := q
  refine ⟨τ, h, startA N.length ws, R, start_SR r, ?_⟩
  unfold fnM at F
  split at F
  · have hn : τ.length ≤ h.length := by rw [R.len]; exact Nat.le_refl _
    cases e : b (startA N.length ws) h with
    | nx σ1 h1 =>
      rw [e] at F
      exact fun τ' H' σ' x R' S' => F _ H' .non (x.take hn) (R'.take _) (.d .non)
    | rt w h1 =>
      rw [e] at F
      cases keep with
      | true => exact F
      | false =>
        intro τ' H' v x R' rw'
        have F : FinC G pn H τ h (fzR h.length (.ok w h1)) Q E := F
        have k : fzR h.length (.ok w h1) = (match fzW w h1 with | some (v, h') => .ok (.d v) (h'.take h.length) | none => .no) := rfl
        rw [k] at F
        cases z : fzW w h1 with
        | some p =>
          obtain ⟨v2, h2⟩ := p
          rw [z] at F
          obtain ⟨x2, R2, rd⟩ := fzW_ok (g := ⟨G, pn, fun _ _ _ _ => False⟩) R' rw' z
          exact F _ H' v ((x.trans x2).take hn) (R2.take _) ((RW.d rd).cut (g := ⟨G, pn, fun _ _ _ _ => False⟩) R2 _)
        | none => rw [z] at F; exact absurd F id
    | ex c xx σ1 h1 =>
      rw [e] at F
      exact fun τ' H' σ' cls d x R' S' xr => F _ H' cls d (x.take hn) (R'.take _) (xr.less R'.noTup fun _ t => trk_take t)
    | bk _ _ => rw [e] at F; exact absurd F id
    | ct _ _ => rw [e] at F; exact absurd F id
    | no => rw [e] at F; exact absurd F id
  · exact absurd F id
/-! #### calls -/
theorem tFnG {k np : Nat} {f : Addr} {fd : FuncData} {ps : List Str} {F : List W → Hh → Rs W} {pins : List (Addr × Obj)} {s : Shared} {Q : VK} {us : List Value} {vs : List V} {ws : List W} (Fn : FnG X.prog X.w X.K X.mg X.base k f fd ps (spF g.G g.pn np F)) (hr : Room k X.A) (gu : X.A.guards = some [])
    (hb : Binds X.K fd ps []) (tk : Takes X g.W) (hnp : ps.length = np) (I : Inv X pins σ H s) (r : Vals vs us) (R : HR g.G H τ h) (rw_ : RWs g.G H τ h ws vs) (hw : ws.length = np) (q : Fin g σ H τ h (F ws h) Q) : wpAny (model X.prog X.w) X.A (call (.ref f) us) (EP X pins σ Q) X.xe s := by
  have hl : vs.length = np := by rw [← rw_.len]; exact hw
  have b := hb s us I.kIn (by rw [List.append_nil, ← r.length, hl, hnp])
  rw [List.append_nil] at b
  have sp : spF g.G g.pn np F vs H Q (fun cls d H' => g.W cls d σ H') := ⟨hl, τ, h, ws, R, rw_, by
    cases e : F ws h with
    | ok w h' => rw [e] at q; exact q
    | ex c x h' => rw [e] at q; exact q
    | no => rw [e] at q; exact q⟩
  refine wpAny_call (codeAny_mono (Fn.run X.A X.stack s H ⟨us, []⟩ us vs Q _ hr gu I.env0 b r sp) fun res s' hq => ?_)
  match res, hq with
  | .error e, hq => exact passAt tk σ pins H s e s' I hq
  | .ok (.ret u), hq => exact I.after hq
  | .ok .next, hq => exact hq.elim
  | .ok .brk, hq => exact hq.elim
  | .ok .cont, hq => exact hq.elim
theorem pe_mCall {k np : Nat} {f : Addr} {fd : FuncData} {ps : List Str} {F : List W → Hh → Rs W} {x : Str} {p pos : Pos} {e : Expr} {es : List Expr} {ml : ML} (G : Good g X) (Fn : FnG X.prog X.w X.K X.mg X.base k f fd ps (spF g.G g.pn np F)) (hr : Room k X.A)
    (hb : Binds X.K fd ps []) (tk : Takes X g.W) (hnp : ps.length = np) (hF : ∀ ws h, ws.length ≠ np → F ws h = .no) (hg : Gl X x) (hm : X.mg x = some (.ref f)) (hk : PySem.W.keepIn X.K (.ref f) = true) (ha : PA X (e :: es) (tAr g ml)) (hd : (x == ("__debug__" : Str)) = false)
    (he : starEach (e :: es) X.env = (false, eval e X.env) :: starEach es X.env) (hpl : (backTo pos (starEach es X.env)).any (·.1) = false) : PE X (.Call (.Name x p) (e :: es) [] pos) (tE g (mArg F ml)) := by
  refine ⟨fun pins s σ H Q I ⟨τ, h, σa, R, S, q⟩ => ?_⟩
  refine wpAny_Call_Name_kw (ld_glob I hg hm ?_ hd)
  have main : tAr g ml σ H fun vs H1 => ∃ τ1 h1 ws, HR g.G H1 τ1 h1 ∧ RWs g.G H1 τ1 h1 ws vs ∧ Fin g σ H1 τ1 h1 (F ws h1) Q := tAr.step' R S q fun H1 τ1 h1 ws vs n r F1 => ⟨τ1, h1, ws, n.r, r, F1⟩
  refine PySem.W.callWith_K (h₀ := X.base) I.ok.mod.kin hk (thn (ha.run pos pins s σ H _ I main) fun us s1 ⟨vs, H1, I1, r, τ1, h1, ws, R1, rw1, F1⟩ => ⟨I1.kIn, ?_⟩) he hpl
  by_cases hw : ws.length = np
  · exact tFnG Fn hr G.gu hb tk hnp I1 r R1 rw1 hw F1
  · rw [hF ws h1 hw] at F1
    exact absurd F1 id
theorem pe_mCall0 {k : Nat} {f : Addr} {fd : FuncData} {ps : List Str} {F : List W → Hh → Rs W} {x : Str} {p pos : Pos} (G : Good g X) (Fn : FnG X.prog X.w X.K X.mg X.base k f fd ps (spF g.G g.pn 0 F)) (hr : Room k X.A)
    (hb : Binds X.K fd ps []) (tk : Takes X g.W) (hnp : ps.length = 0) (hg : Gl X x) (hm : X.mg x = some (.ref f)) (hk : PySem.W.keepIn X.K (.ref f) = true) (hd : (x == ("__debug__" : Str)) = false) : PE X (.Call (.Name x p) [] [] pos) (tE g (mArg F mNil)) := by
  refine ⟨fun pins s σ H Q I ⟨τ, h, σa, R, S, q⟩ => ?_⟩
  refine wpAny_Call_Name_kw (ld_glob I hg hm ?_ hd)
  refine PySem.W.callWith_K0 I.kIn hk ?_
  have q : Fin g σ H τ h (F [] h) Q := q
  exact tFnG Fn hr G.gu hb tk hnp I .nil R .nil rfl q
end
end Pe

set_option linter.all false
set_option maxRecDepth 100000
set_option maxHeartbeats 4000000
namespace Pe
open PySem PySem.Spec PyProof.Rows L2
/-! ### slices -/
def cutG {α : Type} (xs : List α) (lo hi : Option Int) : List α := (xs.drop (HT.sIx xs.length 0 lo)).take (HT.sIx xs.length xs.length hi - HT.sIx xs.length 0 lo)
def MO := Sl → Hh → Rs (Option Int)
def mNoPart : MO := fun _ h => .ok none h
def mPart (m : M) : MO := fun σ h => (m σ h).bind fun w h1 => match w with
  | .d (.int i) => .ok (some i) h1
  | _ => .no
def oSl (d : D) (lo hi : Option Int) (h : Hh) : Rs W := match d with
  | .str s => .ok (.d (.str (cutG s lo hi))) h
  | .tup xs => .ok (.d (.tup (cutG xs lo hi))) h
  | .lst xs => .ok (.r h.length) (h ++ [.lst (cutG xs lo hi)])
  | .scr xs => .ok (.r h.length) (h ++ [.lst (cutG xs lo hi)])
  | _ => .no
def opSl (w : W) (lo hi : Option Int) (h : Hh) : Rs W := match w.val h with
  | some d => oSl d lo hi h
  | none => .no
def mSl (m : M) (a b : MO) : M := fun σ h => (m σ h).bind fun w h1 => (a σ h1).bind fun lo h2 => (b σ h2).bind fun hi h3 => opSl w lo hi h3
def tO (g : Rg) (m : MO) : TO := fun σ H Q => ∃ τ h σa, HR g.G H τ h ∧ SR g.G H τ h σa σ ∧ FinP g (fun _ _ _ (a b : Option Int) => a = b) σ H τ h (m σa h) Q
section
variable {X : Cx} {g : Rg} {σ : St} {H : Hp} {τ : List Addr} {h : Hh} {σa : Sl} {e : Expr} {m : M} {pos p2 : Pos}
theorem RDs.cut {G : Cfg} {T : Addr → Prop} {ds : List D} {vs : List V} (r : RDs G H T ds vs) (lo hi : Option Int) : RDs G H T (cutG ds lo hi) (cutV vs lo hi) := by
  unfold cutG cutV
  rw [r.len]
  exact (r.drop _).take _
theorem tO.step {m : MO} {f : Option Int → Hh → Rs W} {Q : VK} (R : HR g.G H τ h) (S : SR g.G H τ h σa σ) (F : Fin g σ H τ h ((m σa h).bind f) Q)
    {Q1 : Option Int → Hp → Prop} (k : ∀ H1 τ1 h1 w, Nxt g σ σa H τ h H1 τ1 h1 → Fin g σ H1 τ1 h1 (f w h1) Q → Q1 w H1) : tO g m σ H Q1 := by
  refine ⟨τ, h, σa, R, S, ?_⟩
  cases e : m σa h with
  | ok w h' =>
    rw [e] at F
    intro τ' H' v a b c
    cases c
    exact k H' τ' h' w ⟨a, b, S.grow R a⟩ (Fin.ext a F)
  | ex c x h' => rw [e] at F; exact F
  | no => rw [e] at F; exact F
theorem po_mNone : PO X none (tO g mNoPart) := ⟨fun pins s σ H Q I ⟨τ, h, σa, R, S, F⟩ => po_none.run pins s σ H Q I (F τ H none Ext.refl R rfl)⟩
theorem po_mSome (he : PE X e (tE g m)) : PO X (some e) (tO g (mPart m)) := ⟨fun pins s σ H Q I ⟨τ, h, σa, R, S, F⟩ => (po_some he).run pins s σ H Q I (by
  refine tE.step R S F fun H1 τ1 h1 w v n r F1 => ?_
  split at F1
  · cases r with
    | d r => cases r; exact ⟨_, rfl, F1 τ1 H1 _ Ext.refl n.r rfl⟩
  · exact F1.elim)⟩
def rSl (g : Rg) : V → Option Int → Option Int → Hp → VK → Prop := fun x lo hi H Q => ∃ σ τ h w, HR g.G H τ h ∧ RW g.G H τ h w x ∧ Fin g σ H τ h (opSl w lo hi h) Q
theorem cut_txt (s : List Nat) (lo hi : Option Int) : cutS (txt s) lo hi = txt (cutG s lo hi) := by
  unfold cutS cutG
  rw [txt_len]
theorem cut_whole {α : Type} {xs : List α} {lo hi : Option Int} (h : HT.sIx xs.length 0 lo = 0 ∧ HT.sIx xs.length xs.length hi = xs.length) : cutG xs lo hi = xs := by
  unfold cutG
  rw [h.1, h.2, List.drop_zero, Nat.sub_zero, List.take_length]
theorem cut_len {α : Type} (xs : List α) (lo hi : Option Int) : (cutG xs lo hi).length ≤ xs.length := by
  unfold cutG
  rw [List.length_take, List.length_drop]
  omega
theorem sl_any (G : Good g X) : SlR X (rSl g) := by
  intro pins s σ' H x v vl vu lo hi sl Q I rx hs pl pu q
  obtain ⟨σ, τ, h, w, R, r, F⟩ := q
  unfold opSl at F
  split at F
  · rename_i d ev
    have va := r.view R ev
    unfold oSl at F
    split at F
    · obtain ⟨e1, z⟩ := va.str
      rw [e1] at rx
      exact sl_str pins s σ' H _ v vl vu lo hi sl Q I rx hs pl pu ⟨_, rfl, by rw [txt_len]; exact z, by rw [cut_txt]; exact F.val R (.str _ (Nat.le_trans (cut_len _ _ _) z))⟩
    · obtain ⟨p, vs, rfl, t1, z1, l1⟩ := va.tup
      refine sl_tupX pins s σ' H _ v vl vu lo hi sl Q I rx hs pl pu ⟨p, vs, rfl, by rw [← G.hK]; exact t1, fun hw => ?_, fun _ p its np => F.tup R (l1.cut lo hi) (Nat.le_trans (cutV_length _ _ _) z1) np⟩
      rw [← l1.len] at hw
      rw [cut_whole hw] at F
      exact F.val R va.rd_tup
    · obtain ⟨p, vs, rfl, t1, z1, l1⟩ := va.lst_
      exact sl_list pins s σ' H _ v vl vu lo hi sl Q I rx hs pl pu ⟨p, vs, rfl, .of t1, fun p np => F.lst R (l1.cut lo hi) (Nat.le_trans (cutV_length _ _ _) z1) np⟩
    · obtain ⟨p, vs, rfl, t1, z1, l1⟩ := va.scr
      exact sl_list pins s σ' H _ v vl vu lo hi sl Q I rx hs pl pu ⟨p, vs, rfl, by rw [← G.hK]; exact t1, fun p np => F.lst R (l1.cut lo hi) (Nat.le_trans (cutV_length _ _ _) z1) np⟩
    · exact F.elim
  · exact F.elim
theorem pe_mSl (G : Good g X) {lo hi : Option Expr} {a b : MO} (he : PE X e (tE g m)) (hl : PO X lo (tO g a)) (hu : PO X hi (tO g b)) : PE X (.Subscript e (.Slice lo hi none p2) pos) (tE g (mSl m a b)) :=
  pe_weak (pe_slice (sl_any G) he hl hu) fun σ H Q ⟨τ, h, σa, R, S, F⟩ => tE.step' R S F fun H1 τ1 h1 w v n r F1 => tO.step n.r n.s F1 fun H2 τ2 h2 lo n2 F2 => tO.step n2.r n2.s F2 fun H3 τ3 h3 hi n3 F3 =>
    ⟨σ, τ3, h3, w, n3.r, (r.grow n.r n2.e).grow n2.r n3.e, F3⟩
/-! ### isinstance -/
/-- 0 NoneType, 1 bool, 2 int, 3 str, 4 tuple, 5 list, 6 dict -/
def tyN : D → Option Nat
  | .non => some 0
  | .bl _ => some 1
  | .int _ => some 2
  | .str _ => some 3
  | .tup _ => some 4
  | .lst _ => some 5
  | .scr _ => some 5
  | .dic _ _ => some 6
  | _ => none
def tyS : Nat → String
  | 0 => "NoneType"
  | 1 => "bool"
  | 2 => "int"
  | 3 => "str"
  | 4 => "tuple"
  | 5 => "list"
  | _ => "dict"
def isN (a b : Nat) : Bool := a == b || (a == 1 && b == 2)
theorem isN_ok : ((List.range 7).all fun a => (List.range 7).all fun b => decide (kitB (tyS a) (tyS b) = some (isN a b))) = true := by decide +kernel
theorem isN_kit {K : PySem.W.Frag} {a b : Nat} (ha : a < 7) (hb : b < 7) : PySem.W.kitOne K (.type (tyS a)) (.type (tyS b)) = some (isN a b) := by
  have h := List.all_eq_true.mp isN_ok a (List.mem_range.mpr ha)
  have h2 := List.all_eq_true.mp h b (List.mem_range.mpr hb)
  exact kit_ty (of_decide_eq_true h2)
def isiR (b : Nat) (w : W) (h : Hh) : Rs W := match w.val h with
  | some d => match tyN d with
    | some a => .ok (.d (.bl (isN a b))) h
    | none => .no
  | none => .no
theorem tyN_lt {d : D} {a : Nat} (h : tyN d = some a) : a < 7 := by
  cases d <;> (first | (cases h; decide) | (cases h))
/-- what the library's isinstance wants of a value -/
theorem kitD (hK : g.G.K = X.K) {T : Addr → Prop} {pins : List (Addr × Obj)} {s : Shared} {d : D} {v : V} {u : Value} {a : Nat} (I : Inv X pins σ H s) (ru : RelV v u) (r : VW g.G H T d v) (e : tyN d = some a) :
    ∃ P : Heap → Prop, PySem.W.KitX X.K u (.type (tyS a)) P ∧ P s.heap ∧ u ≠ .builtin "__main__.__loader__#opaque" := by
  have base : ∀ {t : Value}, TyX X.K H v t → ∃ P : Heap → Prop, PySem.W.KitX X.K u t P ∧ P s.heap ∧ u ≠ .builtin "__main__.__loader__#opaque" := fun ty => kit_of I ru ty
  have seqL : ∀ {p : Addr} {vs : List V}, v = .ref p → SqL X.K H p vs → ∃ P : Heap → Prop, PySem.W.KitX X.K u (.type "list") P ∧ P s.heap ∧ u ≠ .builtin "__main__.__loader__#opaque" := fun {p vs} ev q => by
    subst ev
    cases ru
    obtain ⟨its, rv, pl, hz⟩ := I.list q
    obtain ⟨o, ho, hc, _⟩ := pl.isList
    exact ⟨_, PySem.W.kitx_list, ⟨o, ho, hc⟩, fun z => nomatch z⟩
  cases d with
  | non => rw [r.non] at ru base; cases e; exact kit_of I ru (.base .non)
  | bl b => rw [r.bl] at ru base; cases e; exact kit_of I ru (.base (.bl b))
  | int b => rw [r.int] at ru base; cases e; exact kit_of I ru (.base (.int b))
  | str b => rw [r.str.1] at ru base; cases e; exact kit_of I ru (.base (.str _))
  | tup xs =>
    cases e
    obtain ⟨p, vs, rfl, t1, z1, l1⟩ := r.tup
    rw [hK] at t1
    cases ru
    obtain ⟨its, rv, ⟨o, ho, hc, _⟩, hz⟩ := I.tuple t1
    exact ⟨_, PySem.W.kitx_tuple, ⟨o, ho, hc⟩, fun z => nomatch z⟩
  | lst xs =>
    cases e
    obtain ⟨p, vs, rfl, t1, z1, l1⟩ := r.lst_
    exact seqL rfl (.of t1)
  | scr xs =>
    cases e
    obtain ⟨p, vs, rfl, t1, z1, l1⟩ := r.scr
    rw [hK] at t1
    exact seqL rfl t1
  | dic ks vs =>
    cases e
    obtain ⟨p, E, rfl, h1, _, _⟩ := r.dict
    cases ru
    obtain ⟨_, o, es, ep, e1, e2, _⟩ := dob I h1
    exact ⟨_, PySem.W.kitx_dict, ⟨o, e1, e2.1⟩, fun z => nomatch z⟩
  | _ => cases e
/-- isinstance(a, T), T a built-in type -/
theorem pe_mIsi (G : Good g X) {a T : Expr} {ta : TE} {b : Nat} {x : Str} {p : Pos} (hb : b < 7) (hg : Gl X x) (hm : X.mg x = none) (hv : bootBuiltins x = some (.builtin "isinstance")) (ha : PE X a (tE g m)) (hT : PE X T (tC (.ty (tyS b)))) (hn : x ≠ "__name__") (hdb : (x == ("__debug__" : Str)) = false)
    (h1 : starEach [a, T] X.env = (false, eval a X.env) :: starEach [T] X.env) (h2 : starEach [T] X.env = (false, eval T X.env) :: starEach [] X.env) (hpl : (backTo pos (starEach [T] X.env)).any (·.1) = false) :
    PE X (.Call (.Name x p) [a, T] [] pos) (tE g (mUn (isiR b) m)) := by
  have hc : CallR X (.builtin "isinstance") (fun xs H Q => ∃ (v : V) (d : D) (k : Nat) (T : Addr → Prop), xs = [v, .ty (tyS b)] ∧ VW g.G H T d v ∧ tyN d = some k ∧ Q (.bl (isN k b)) H) := by
    intro pins s σ H xs us Q I r q
    obtain ⟨v, d, k, T, rfl, va, e, q⟩ := q
    obtain ⟨u1, u2, rfl, r1, r2⟩ := vals2 r
    cases (show u2 = Value.type (tyS b) from r2)
    obtain ⟨P, Z, p, hx⟩ := kitD G.hK I r1 va e
    exact PySem.W.kia_one Z I.kIn p (isN_kit (tyN_lt e) hb) hx fun tk => ⟨.bl _, H, I.tok tk, rfl, q⟩
  refine pe_weak (pe_callB hc hg hm hv (pa_cons ha (pa_cons hT pa_nil h2) h1) hn hdb h1 hpl) fun σ H Q ⟨τ, h, σa, R, S, F⟩ => tE.step' R S F fun H1 τ1 h1 w v n r F1 => ?_
  unfold isiR at F1
  split at F1
  · rename_i d ev
    split at F1
    · rename_i k e
      exact ⟨v, d, k, _, rfl, r.view n.r ev, e, F1.bl n.r⟩
    · exact F1.elim
  · exact F1.elim
/-! ### methods -/
def rM (g : Rg) (f : W → List W → Hh → Rs W) : V → List V → Hp → VK → Prop := fun x xs H Q => ∃ σ τ h w ws, HR g.G H τ h ∧ RW g.G H τ h w x ∧ RWs g.G H τ h ws xs ∧ Fin g σ H τ h (f w ws h) Q
/-- 5 list, 6 dict, 3 str -/
def isTy (k : Nat) (w : W) (h : Hh) : Bool := match w.val h with
  | some d => tyN d == some k
  | none => false
def mMt (k : Nat) (f : W → List W → Hh → Rs W) (mo : M) (ml : ML) : M := fun σ h => (mo σ h).bind fun w h1 => match isTy k w h1 with
  | true => (ml σ h1).bind fun ws h2 => f w ws h2
  | false => .no
def tyR (g : Rg) (k : Nat) : V → Hp → Prop := fun x H => ∃ τ h w, HR g.G H τ h ∧ RW g.G H τ h w x ∧ isTy k w h = true
theorem ty_ok (G : Good g X) {k : Nat} (hk : k = 3 ∨ k = 5 ∨ k = 6) : TyOk X (tyS k) (tyR g k) := by
  intro pins σ H s x v I r ⟨τ, h, w, R, rw_, e⟩
  unfold isTy at e
  split at e
  · rename_i d ev
    have va := rw_.view R ev
    have e' : tyN d = some k := by simpa using e
    rcases hk with rfl | rfl | rfl
    · cases d with
      | str z =>
        rw [va.str.1] at r
        exact tyV_is I r (show tyV X.K "str" (.str (txt z)) H from rfl)
      | _ => cases e'
    · cases d with
      | lst z =>
        obtain ⟨p, vs, rfl, t1, _, _⟩ := va.lst_
        exact tyV_is I r (show tyV X.K "list" (.ref p) H from .inl ⟨rfl, vs, .of t1⟩)
      | scr z =>
        obtain ⟨p, vs, rfl, t1, _, _⟩ := va.scr
        rw [G.hK] at t1
        exact tyV_is I r (show tyV X.K "list" (.ref p) H from .inl ⟨rfl, vs, t1⟩)
      | _ => cases e'
    · cases d with
      | dic z z2 =>
        obtain ⟨p, E, rfl, h1, _, _⟩ := va.dict
        cases r
        obtain ⟨_, o, es, ep, e1, e2, _⟩ := dob I h1
        exact ⟨⟨o, e1, e2.1⟩, fun a ea => by cases ea; exact ⟨o, e1, e2.2.1⟩⟩
      | _ => cases e'
  · cases e
variable {o : Expr} {es : List Expr} {ml : ML} {mo : M} {name : Str} {apos cpos : Pos} {id : String} {f : W → List W → Hh → Rs W} {k : Nat}
theorem pe_mMt0 (G : Good g X) (hk : k = 3 ∨ k = 5 ∨ k = 6) (pa : PlainAttrs (tyS k)) (slot : Slot (tyS k) name id) (hty : typeOf (.builtin id) = pure (.type "method_descriptor")) (hm : MtR X id (rM g f)) (ho : PE X o (tE g mo))
    (hbase : attributeBase o name X.env (eval o X.env) = eval o X.env) (hline : (apos.endLine == cpos.line) = true) : PE X (.Call (.Attribute o name apos) [] [] cpos) (tE g (mMt k f mo mNil)) :=
  pe_weak (pe_mG0 (ty_ok G hk) pa slot hty hm ho hbase hline) fun σ H Q ⟨τ, h, σa, R, S, F⟩ => tE.step' R S F fun H1 τ1 h1 w v n r F1 => by
    split at F1
    · rename_i e
      exact ⟨⟨τ1, h1, w, n.r, r, e⟩, σ, τ1, h1, w, [], n.r, r, .nil, F1⟩
    · exact F1.elim
theorem pe_mMt (G : Good g X) (hk : k = 3 ∨ k = 5 ∨ k = 6) (pa : PlainAttrs (tyS k)) (slot : Slot (tyS k) name id) (hty : typeOf (.builtin id) = pure (.type "method_descriptor")) (hm : MtR X id (rM g f)) (ho : PE X o (tE g mo)) (ha : PA X (e :: es) (tAr g ml))
    (hbase : attributeBase o name X.env (eval o X.env) = eval o X.env)
    (hfew : ((backTo cpos (starEach (e :: es) X.env)).all (fun x => !x.1) && (backToKw cpos (keywordEach [] X.env)).all (fun x => x.1.isSome)
      && decide ((e :: es).length + ([] : List Keyword).length + (if ([] : List Keyword).isEmpty then 0 else 1) < 30)) = true)
    (hline : (apos.endLine == cpos.line) = true) (hs : starEach (e :: es) X.env = (false, eval e X.env) :: starEach es X.env) (hplain : (backTo cpos (starEach es X.env)).any (·.1) = false) : PE X (.Call (.Attribute o name apos) (e :: es) [] cpos) (tE g (mMt k f mo ml)) :=
  pe_weak (pe_mG (ty_ok G hk) pa slot hty hm ho ha hbase hfew hline hs hplain) fun σ H Q ⟨τ, h, σa, R, S, F⟩ => tE.step' R S F fun H1 τ1 h1 w v n r F1 => by
    split at F1
    · rename_i ey
      exact ⟨⟨τ1, h1, w, n.r, r, ey⟩, tAr.step' n.r n.s F1 fun H2 τ2 h2 ws vs n2 r2 F2 => ⟨σ, τ2, h2, w, ws, n2.r, r.grow n.r n2.e, r2, F2⟩⟩
    · exact F1.elim
/-! the methods -/
def tAppend (w : W) (ws : List W) (h : Hh) : Rs W := match w with
  | .r n => match ws with
    | [x] => match fzW x h with
      | some (d, h1) => match h1[n]? with
        | some (.lst xs) => if xs.length < SZ then .ok (.d .non) (h1.set n (.lst (xs ++ [d]))) else .no
        | _ => .no
      | none => .no
    | _ => .no
  | _ => .no
theorem RWs.one {G : Cfg} {H : Hp} {τ : List Addr} {h : Hh} {w : W} {vs : List V} (r : RWs G H τ h [w] vs) : ∃ v, vs = [v] ∧ RW G H τ h w v := by
  cases r with | cons a b => cases b; exact ⟨_, rfl, a⟩
theorem mt_tAppend : MtR X "list.append" (rM g tAppend) := by
  intro pins s σ' H x xs v us Q I rx rv q
  obtain ⟨σ, τ, h, w, ws, R, r, rs, F⟩ := q
  unfold tAppend at F
  cases w with
  | d _ => exact F.elim
  | r n =>
    simp only at F
    split at F
    · obtain ⟨y, rfl, ry⟩ := rs.one
      split at F
      · rename_i d h1 ef
        obtain ⟨x1, R1, rd⟩ := fzW_ok R ry ef
        have r := r.grow R x1
        split at F
        · rename_i zs en
          split at F
          · rename_i hz
            cases r with
            | @r _ a ea =>
              cases R1.ob n a _ ea en with
              | @lst _ _ vs p z l =>
                have lz : vs.length < sizeLine := by rw [← l.len, szEq]; exact hz
                obtain ⟨x2, R2⟩ := R1.change (u' := .lst (vs ++ [y])) (o' := .lst (zs ++ [d])) ea en rfl rfl fun H5 T5 gr e5 =>
                  .lst e5 (by rw [List.length_append, List.length_singleton]; omega) ((l.grow R1.noTup gr).append (.cons (rd.grow R1.noTup gr) .nil))
                exact mt_append pins s σ' H _ _ v us Q I rx rv ⟨a, vs, y, rfl, rfl, p, lz, F τ _ .non (x1.trans x2) R2 (.d .non)⟩
          · exact F.elim
        · exact F.elim
      · exact F.elim
    · exact F.elim
def tExtend (w : W) (ws : List W) (h : Hh) : Rs W := match w with
  | .r n => match ws with
    | [x] => match fzW x h with
      | some (.lst ys, h1) => match h1[n]? with
        | some (.lst xs) => if xs.length + ys.length ≤ SZ then .ok (.d .non) (h1.set n (.lst (xs ++ ys))) else .no
        | _ => .no
      | _ => .no
    | _ => .no
  | _ => .no
theorem mt_tExtend : MtR X "list.extend" (rM g tExtend) := by
  intro pins s σ' H x xs v us Q I rx rv q
  obtain ⟨σ, τ, h, w, ws, R, r, rs, F⟩ := q
  unfold tExtend at F
  cases w with
  | d _ => exact F.elim
  | r n =>
    simp only at F
    split at F
    · obtain ⟨y, rfl, ry⟩ := rs.one
      split at F
      · rename_i ys h1 ef
        obtain ⟨x1, R1, rd⟩ := fzW_ok R ry ef
        have r := r.grow R x1
        split at F
        · rename_i zs en
          split at F
          · rename_i hz
            cases r with
            | @r _ a ea =>
              cases R1.ob n a _ ea en with
              | @lst _ _ vs p z l =>
                cases rd with
                | @lst b us _ t1 nt z1 l1 =>
                  have lz : vs.length + us.length ≤ sizeLine := by rw [← l.len, ← l1.len, szEq]; exact hz
                  obtain ⟨x2, R2⟩ := R1.change (u' := .lst (vs ++ us)) (o' := .lst (zs ++ ys)) ea en rfl rfl fun H5 T5 gr e5 =>
                    .lst e5 (by rw [List.length_append]; exact lz) ((l.grow R1.noTup gr).append (l1.grow R1.noTup gr))
                  exact mt_extend pins s σ' H _ _ v _ Q I rx rv ⟨a, b, vs, us, rfl, rfl, p, t1, lz, F τ _ .non (x1.trans x2) R2 (.d .non)⟩
          · exact F.elim
        · exact F.elim
      · exact F.elim
    · exact F.elim
def tGet (w : W) (ws : List W) (h : Hh) : Rs W := match w.val h with
  | some (.dic ks vs) => match ws with
    | [.d x] => if okKey ks x then .ok (.d ((dget ks vs x).getD .non)) h else .no
    | [.d x, .d z] => if okKey ks x then .ok (.d ((dget ks vs x).getD z)) h else .no
    | _ => .no
  | _ => .no
theorem mt_tGet (G : Good g X) : MtR X "dict.get" (rM g tGet) := by
  intro pins s σ' H x xs v us Q I rx rv q
  obtain ⟨σ, τ, h, w, ws, R, r, rs, F⟩ := q
  unfold tGet at F
  split at F
  · rename_i ks vs ev
    obtain ⟨p, E, rfl, h1, ⟨z, ko⟩, rd⟩ := (r.view R ev).dict
    cases rx
    split at F
    · obtain ⟨y, rfl, ry⟩ := rs.one
      split at F
      · rename_i ok
        cases ry with
        | d ry =>
          obtain ⟨u, rfl, ru⟩ := rv.one
          exact dict_getm (z := .non) (zv := .non) (zu := .none) false G.hK G.hw G.hu I h1 ko rd ok ry ru .non rfl (fun _ => ⟨rfl, rfl⟩) fun u' v' s' J l rd' => ⟨v', H, J, l, F.val R rd'⟩
      · exact F.elim
    · obtain ⟨y, y2, rfl, ry, ry2⟩ := rs.two
      split at F
      · rename_i ok
        obtain ⟨u, u2, rfl, ru, ru2⟩ := rv.two
        exact dict_getm true G.hK G.hw G.hu I h1 ko rd ok ry ru ry2 ru2 (fun e => by cases e) fun u' v' s' J l rd' => ⟨v', H, J, l, F.val R rd'⟩
      · exact F.elim
    · exact F.elim
  · exact F.elim
end
end Pe

set_option linter.all false
set_option maxRecDepth 100000
set_option maxHeartbeats 4000000
namespace Pe
open PySem PySem.Spec PyProof.Rows L2
/-! ### sets whose members a kind of keys tells -/
section
variable {P : Program} {w : World} {κ : Type} [DecidableEq κ] {knd : KeyKind P w κ}
/-- an entry stands for a key -/
def Ent (knd : KeyKind P w κ) (e : Int × Value) (k : κ) : Prop := knd.is k e.2 = true ∧ e.1 = knd.hash k ∧ e.2.scannable = true
theorem pair_perm {α β : Type} {R : α → β → Prop} {l l' : List α} (p : l'.Perm l) : ∀ {ks : List β}, Paired R l ks → ∃ ks', ks'.Perm ks ∧ Paired R l' ks' := by
  induction p with
  | nil => intro ks h; exact ⟨ks, .refl _, h⟩
  | cons x _ ih =>
    intro ks h
    cases h with
    | cons a b =>
      obtain ⟨k2, p2, r2⟩ := ih b
      exact ⟨_ :: k2, p2.cons _, .cons a r2⟩
  | swap x y l =>
    intro ks h
    cases h with
    | cons a b =>
      cases b with
      | cons b c => exact ⟨_, List.Perm.swap _ _ _, .cons b (.cons a c)⟩
  | trans _ _ ih1 ih2 =>
    intro ks h
    obtain ⟨k1, p1, r1⟩ := ih2 h
    obtain ⟨k2, p2, r2⟩ := ih1 r1
    exact ⟨k2, p2.trans p1, r2⟩
theorem pair_at {α β : Type} {R : α → β → Prop} : ∀ {l : List α} {ks : List β}, Paired R l ks → (∀ x ∈ l, ∃ k ∈ ks, R x k) ∧ ∀ k ∈ ks, ∃ x ∈ l, R x k
  | _, _, .nil => ⟨(fun _ h => nomatch h), fun _ h => nomatch h⟩
  | _, _, .cons a b => by
    obtain ⟨h1, h2⟩ := pair_at b
    refine ⟨fun x hx => ?_, fun k hk => ?_⟩
    · rcases List.mem_cons.mp hx with e | hx
      · rw [e]; exact ⟨_, List.mem_cons_self, a⟩
      · obtain ⟨k, hk, r⟩ := h1 x hx
        exact ⟨k, List.mem_cons_of_mem _ hk, r⟩
    · rcases List.mem_cons.mp hk with e | hk
      · rw [e]; exact ⟨_, List.mem_cons_self, a⟩
      · obtain ⟨x, hx, r⟩ := h2 k hk
        exact ⟨x, List.mem_cons_of_mem _ hx, r⟩
/-- the members as they stand in the set's table -/
def SetQ (knd : KeyKind P w κ) (h : Heap) (a : Addr) (ks : List κ) : Prop := ∃ o es ep t, h.get? a = some o ∧ o.ExactSet ∧ o.data = .set es ep t ∧ Paired (Ent knd) es.toList ks ∧ ks.Nodup ∧ es.size < scanBound ∧ t.fits es.size = true ∧ Ris t.place.toList ∧ (w.params.followText "set-order" = true ∨ t.led = true)
theorem SetQ.keep {h h' : Heap} {a : Addr} {ks : List κ} (q : SetQ knd h a ks) (k : ∀ o, h.get? a = some o → h'.get? a = some o) : SetQ knd h' a ks := by
  obtain ⟨o, es, ep, t, ho, r⟩ := q
  exact ⟨o, es, ep, t, k o ho, r⟩
theorem ents {es : List (Int × Value)} {ks : List κ} (p : Paired (Ent knd) es ks) : ElemsOf knd es := fun e he => by
  obtain ⟨k, _, a, b, c⟩ := (pair_at p).1 e he
  exact ⟨⟨k, a, b⟩, c⟩
variable {A : Around} {E : Value → Shared → Prop} {s : Shared} {a : Addr} {ks : List κ}
/-- the entries stored, the table laid anew if it is too full -/
theorem q_store {g : Bool → Sem Unit} (quiet : ∀ (b : Bool) (z : Shared) (R : Unit → Shared → Prop), R () z → wpAny (model P w) A (g b) R E z) {o : Obj} {es es1 : Array (Int × Value)} {ep : Nat} {t t1 : SetTable} {ks1 : List κ} {stale : Bool} {Q : Option Bool → Shared → Prop}
    (at_a : s.heap.get? a = some o) (ex : o.ExactSet) (dat : o.data = .set es ep t) (p1 : Paired (Ent knd) es1.toList ks1) (nd : ks1.Nodup) (few : es1.size < scanBound) (fit : t1.fits es1.size = true) (ris : Ris t1.place.toList) (led : w.params.followText "set-order" = true ∨ t1.led = true)
    (hQ : ∀ h' ks2, Heap.SameBut a s.heap h' → ks2.Perm ks1 → SetQ knd h' a ks2 → Q (some true) { s with heap := h' }) :
    wpAny (model P w) A (do
      storeSet a es1 t1
      if (!stale && t1.tooFull) = true then do g (relayAll t1 es1 (SetTable.grown es1.size)).2.2; storeSet a (relayAll t1 es1 (SetTable.grown es1.size)).1 (relayAll t1 es1 (SetTable.grown es1.size)).2.1; pure (some true)
      else pure (some true)) Q E s := by
  apply wpAny_bind
  refine wpAny_storeSet_of at_a dat ?_ (fits_of_scanBound few)
  have here := store_at (es' := es1) (t' := t1) at_a dat
  have other := Heap.SameBut.update s.heap a (Obj.putSet es1 t1)
  by_cases full : (!stale && t1.tooFull) = true
  · rw [if_pos full]
    have m1 := relayAll_perm t1 es1 (SetTable.grown es1.size)
    have m2 := relayAll_fits t1 es1 (SetTable.grown es1.size)
    have m3 := relayAll_ris t1 es1 (SetTable.grown es1.size)
    have m4 := relayAll_led t1 es1 (SetTable.grown es1.size)
    revert m1 m2 m3 m4
    generalize relayAll t1 es1 (SetTable.grown es1.size) = z
    rcases z with ⟨es2, t2, gone⟩
    intro m1 m2 m3 m4
    have same : es2.size = es1.size := by simpa using m1.length_eq
    have few2 : es2.size < scanBound := same ▸ few
    obtain ⟨ks2, pk, p2⟩ := pair_perm m1 p1
    refine wpAny_bind (quiet _ _ _ ?_)
    refine wpAny_bind (wpAny_storeSet_of here rfl ?_ (fits_of_scanBound few2))
    refine wpAny_pure (hQ _ ks2 (other.trans (Heap.SameBut.update _ a _)) pk ?_)
    exact ⟨_, es2, _, t2, store_at (es' := es2) (t' := t2) here rfl, ex, rfl, p2, pk.nodup_iff.mpr nd, few2, m2, m3, led.imp id fun q => m4.trans q⟩
  · rw [if_neg full]
    exact wpAny_pure (hQ _ ks1 other (.refl _) ⟨_, es1, _, t1, here, ex, rfl, p1, nd, few, fit, ris, led⟩)
/-- a key is added -/
theorem q_add {x : Value} {k : κ} {Q : Bool → Shared → Prop} (isk : knd.is k x = true) (sc : x.scannable = true) (S : SetQ knd s.heap a ks) (room : ks.length + 1 < scanBound)
    (hQ : ∀ h' ks2 b, Heap.SameBut a s.heap h' → SetQ knd h' a ks2 → ks2.Perm (if k ∈ ks then ks else k :: ks) → Q b { s with heap := h' }) : wpAny (model P w) A (setAddHashed a x (knd.hash k)) Q E s := by
  obtain ⟨o, es, ep, t, at_a, ex, dat, p0, nd, few, fit, ris, led⟩ := id S
  have elems := ents p0
  have len : es.size = ks.length := by
    have := Paired.length p0
    simpa using this
  unfold setAddHashed setAddHashedIn
  refine wpAny_holding (wpAny_bind (wpAny_setState_of at_a dat fit ?_))
  dsimp only
  rw [byScan_of sc few elems]
  simp only [↓reduceIte]
  unfold setAddByScan
  refine wpAny_bind (wpAny_bind (wpAny_rule (wpAny_bind (wpAny_setScan_of isk at_a dat fit elems ?_))))
  have there : (∃ e ∈ es.toList, knd.is k e.2 = true) → k ∈ ks := fun ⟨e, he, ie⟩ => by
    obtain ⟨k2, hk2, r⟩ := (pair_at p0).1 e he
    rw [knd.inj e.2 k k2 ie r.1]
    exact hk2
  cases fi : es.toList.findIdx? (fun e => knd.is k e.2) with
  | some j =>
    obtain ⟨hj, pj, _⟩ := List.findIdx?_eq_some_iff_getElem.mp fi
    have hk := there ⟨_, List.getElem_mem hj, pj⟩
    dsimp only
    refine wpAny_pure (wpAny_pure (hQ s.heap ks false (Heap.SameBut.refl a s.heap) S ?_))
    rw [if_pos hk]
  | none =>
    have hk : k ∉ ks := fun hk => by
      obtain ⟨e, he, r⟩ := (pair_at p0).2 k hk
      have := List.findIdx?_eq_none_iff.mp fi e he
      rw [r.1] at this
      cases this
    dsimp only
    have m1 := layNew_perm t es (knd.hash k) x
    have m2 := layNew_fits t es (knd.hash k) x
    have m3 := layNew_ris t es (knd.hash k) x ris
    have m4 := layNew_led t es (knd.hash k) x
    revert m1 m2 m3 m4
    generalize layNew t es (knd.hash k) x = z
    rcases z with ⟨es1, t1, stale, gone⟩
    intro m1 m2 m3 m4
    dsimp only at m1 m2 m3 m4 ⊢
    have m1' : es1.toList.Perm ((knd.hash k, x) :: es.toList) := by
      rw [Array.toList_push] at m1
      exact m1.trans (List.perm_append_singleton _ _)
    obtain ⟨ks1, pk, p1⟩ := pair_perm m1' (Paired.cons (show Ent knd (knd.hash k, x) k from ⟨isk, rfl, sc⟩) p0)
    have nd1 : ks1.Nodup := pk.nodup_iff.mpr (List.nodup_cons.mpr ⟨hk, nd⟩)
    have few1 : es1.size < scanBound := by
      have := m1'.length_eq
      rw [Array.length_toList, List.length_cons, Array.length_toList] at this
      omega
    have led1 : w.params.followText "set-order" = true ∨ t1.led = true := led.imp id fun q => m4.trans q
    have done : ∀ h' ks2, Heap.SameBut a s.heap h' → ks2.Perm ks1 → SetQ knd h' a ks2 → Q true { s with heap := h' } := fun h' ks2 sb pp q => hQ h' ks2 true sb q (by rw [if_neg hk]; exact pp.trans pk)
    refine wpAny_bind ?_
    have calm : ∀ (b : Bool) (z : Shared) (R : Unit → Shared → Prop), R () z → wpAny (model P w) A (match b with | true => rule "set.scan.the-table-gave-way" | false => pure ()) R E z := fun b z R r => by
      cases b
      · exact wpAny_pure r
      · exact wpAny_rule r
    refine calm gone _ _ ?_
    split
    · refine wpAny_bind ?_
      rw [hashByValue_scannable 8 sc]
      refine wpAny_pure ?_
      refine q_store (knd := knd) (ks1 := ks1) ?_ at_a ex dat p1 nd1 few1 ?_ ?_ ?_ ?_
      · intro b z R r; cases b <;> first | exact wpAny_pure r | exact wpAny_rule r
      · first | (split <;> first | exact m2 | exact SetTable.fits_plain_off m2) | exact m2
      · first | (split <;> exact m3) | exact m3
      · first | (split <;> exact led1) | exact led1
      · intro h' ks2 sb pp q; dsimp only; exact wpAny_pure (done h' ks2 sb pp q)
    · refine wpAny_bind (wpAny_pure ?_)
      simp only [↓reduceIte]
      refine q_store (knd := knd) (ks1 := ks1) ?_ at_a ex dat p1 nd1 few1 m2 m3 led1 ?_
      · intro b z R r; cases b <;> first | exact wpAny_pure r | exact wpAny_rule r
      · intro h' ks2 sb pp q; dsimp only; exact wpAny_pure (done h' ks2 sb pp q)
end
end Pe

set_option linter.all false
set_option maxRecDepth 100000
set_option maxHeartbeats 4000000
namespace Pe
open PySem PySem.Spec PyProof.Rows L2
/-! ### set(xs), by keys -/
section
variable {P : Program} {w : World} {κ : Type} [DecidableEq κ] {knd : KeyKind P w κ} {A : Around} {E : Value → Shared → Prop} {s : Shared}
/-- the empty set's object -/
abbrev set0 (w : World) : Obj := { cls := .type "set", dict := none, data := .set #[] 0 (.fresh 0 0 (!w.params.followText "set-order")) }
theorem q_empty {h : Heap} {a : Addr} (at_a : h.get? a = some (set0 w)) : SetQ knd h a [] := by
  refine ⟨_, #[], 0, _, at_a, ⟨rfl, rfl, rfl⟩, rfl, .nil, List.nodup_nil, by decide, rfl, List.Pairwise.nil, ?_⟩
  show _ ∨ (!w.params.followText "set-order") = true
  cases w.params.followText "set-order" <;> simp
/-- items taken one by one -/
theorem q_loop {I : Addr} {fp wr : List Addr} {G : Array GenState → Array GenState → Prop} {n : Nat} {Pv : Nat → Value → Prop} {St : Nat → Shared → Prop} {R : Result → Shared → Prop} (Wk : WalksS P w A.in1 I fp wr G n Pv St) (S : Addr) (off : S ∉ fp) (keys : List κ) (hn : n = keys.length) (room : keys.length + 1 < scanBound)
    (val : ∀ i v, Pv i v → ∃ k, keys[i]? = some k ∧ knd.is k v = true ∧ v.scannable = true)
    (_u : Unit := ()) :
    ∀ (m i : Nat) (s : Shared), n - i = m → i ≤ n → St i s → (∃ ks, SetQ knd s.heap S ks ∧ (∀ k, k ∈ ks ↔ k ∈ keys.take i) ∧ ks.length ≤ i) →
      (∀ s' ks, Moved (S :: wr) G s s' → SetQ knd s'.heap S ks → (∀ k, k ∈ ks ↔ k ∈ keys) → ks.length ≤ n → R (.ok (.ret .none)) s') → codeAny (model P w) A (.builtin "set.update.loop" ⟨[.ref S, .ref I], []⟩) R s := by
  have offw : S ∉ wr := fun h => off (Wk.sub _ h)
  intro m
  induction m with
  | zero =>
    rintro i s hm hi st ⟨ks, q, mem, len⟩ ret
    obtain rfl : i = n := by omega
    apply codeAny_builtin F.entry_set_update_loop
    rw [Around.under_plainId F.plain_set_update_loop _]
    refine wpAny_bind (m := pyNext (.ref I)) (Wk.done s _ _ st fun s' mv => ?_)
    refine wpAny_pure (ret s' ks (mv.mono fun b hb => List.mem_cons_of_mem _ hb) (q.keep fun o e => mv.heap S o offw e) (fun k => ?_) len)
    rw [mem, List.take_of_length_le (by omega)]
  | succ m ih =>
    rintro i s hm hi st ⟨ks, q, mem, len⟩ ret
    have lt : i < n := by omega
    apply codeAny_builtin F.entry_set_update_loop
    rw [Around.under_plainId F.plain_set_update_loop _]
    refine wpAny_bind (m := pyNext (.ref I)) (Wk.item i s _ _ lt st fun v s' pv st' mv => ?_)
    obtain ⟨k, hk, isk, sc⟩ := val i v pv
    have q' := q.keep (h' := s'.heap) fun o e => mv.heap S o offw e
    refine wpAny_bind (m := holding [v] (setAdd S v)) (wpAny_holding ?_)
    unfold setAdd
    refine wpAny_holding (wpAny_bind (knd.pyHash (k := k) isk ?_))
    refine q_add (s := { s' with toks := s'.toks + 1 }) isk sc q' (by omega) fun h' ks2 b sb q2 pp => ?_
    have mem2 : ∀ k', k' ∈ ks2 ↔ k' ∈ keys.take (i + 1) := fun k' => by
      rw [pp.mem_iff, List.take_add_one, hk, List.mem_append]
      split
      · rename_i had
        rw [mem]
        refine ⟨.inl, fun z => z.elim id fun z => ?_⟩
        have : k' = k := by simpa using z
        rw [this, ← mem]
        exact had
      · rw [List.mem_cons, mem]
        simp [or_comm]
    have len2 : ks2.length ≤ i + 1 := by
      rw [pp.length_eq]
      split
      · omega
      · rw [List.length_cons]; omega
    refine wpAny_pure ⟨plainId_quiet F.plain_set_update_loop _, ih (i + 1) _ (by omega) lt (Wk.frame _ s' _ _ st' (Nat.le_succ _) fun c hc o e => ?_) ⟨ks2, q2, mem2, len2⟩ fun s'' ks3 mv2 q3 m3 l3 => ?_⟩
    · have : c ≠ S := fun z => off (z ▸ hc)
      rw [sb.2 c this]; exact e
    · refine ret s'' ks3 (Moved.trans Wk.gtrans ((mv.mono fun b hb => List.mem_cons_of_mem _ hb).then_heap (Nat.le_succ _) fun c o hc e => ?_) mv2) q3 m3 l3
      have : c ≠ S := fun z => hc (z ▸ List.mem_cons_self)
      rw [sb.2 c this]; exact e
/-- what set(xs) is to leave -/
def MadeQ (knd : KeyKind P w κ) (s : Shared) (keys : List κ) (Q : Value → Shared → Prop) : Prop :=
  ∀ (h' : Heap) (tk : Nat) (ks : List κ), SetQ knd h' s.heap.objs.size ks → (∀ k, k ∈ ks ↔ k ∈ keys) → ks.length ≤ keys.length → (∀ b o, s.heap.get? b = some o → h'.get? b = some o) → Q (.ref s.heap.objs.size) { s with heap := h', toks := tk }
/-- the heap behind set.__new__ -/
abbrev hp1 (w : World) (s : Shared) : Heap := s.heap.push (set0 w)
/-- .. behind the iterator -/
abbrev hp2 (w : World) (s : Shared) (T : String) (l : Addr) : Heap := (hp1 w s).push { cls := .type T, data := .fields #[.ref l, .int 0 0] }
theorem hp_ne {s : Shared} {b : Addr} (hb : b < s.heap.objs.size) : b ≠ s.heap.objs.size ∧ b ≠ (hp1 w s).objs.size := by
  refine ⟨Nat.ne_of_lt hb, ?_⟩
  have z1 : (hp1 w s).objs.size = s.heap.objs.size + 1 := Heap.size_push ..
  rw [z1]
  exact Nat.ne_of_lt (Nat.lt_succ_of_lt hb)
/-- the filling, from the iterator on -/
theorem q_fill {l : Addr} {keys : List κ} {Pv : Nat → Value → Prop} {T : String} {St : Nat → Heap → Prop} {A' : Around} {R : Result → Shared → Prop} (hlt : l < s.heap.objs.size) (room : keys.length + 1 < scanBound) (val : ∀ i v, Pv i v → ∃ k, keys[i]? = some k ∧ knd.is k v = true ∧ v.scannable = true)
    (Wk : Walks P w A'.in1 (hp1 w s).objs.size [(hp1 w s).objs.size, l] [(hp1 w s).objs.size] keys.length Pv St) (st0 : St 0 (hp2 w s T l))
    (fin : ∀ (s' : Shared) (ks : List κ), s'.gens = s.gens → s'.drawn = s.drawn → s'.os = s.os → SetQ knd s'.heap s.heap.objs.size ks → (∀ k, k ∈ ks ↔ k ∈ keys) → ks.length ≤ keys.length → (∀ b o, s.heap.get? b = some o → s'.heap.get? b = some o) → R (.ok (.ret .none)) s') :
    codeAny (model P w) A' (.builtin "set.update.loop" ⟨[.ref s.heap.objs.size, .ref (hp1 w s).objs.size], []⟩) R { s with heap := hp2 w s T l } := by
  have z1 : (hp1 w s).objs.size = s.heap.objs.size + 1 := Heap.size_push ..
  have off : s.heap.objs.size ∉ [(hp1 w s).objs.size, l] := by
    intro hm
    rcases List.mem_cons.mp hm with e | hm
    · rw [z1] at e
      exact absurd e (Nat.ne_of_lt (Nat.lt_succ_self _))
    · exact absurd (List.mem_singleton.mp hm) (Nat.ne_of_gt hlt)
  refine q_loop (knd := knd) Wk.toS s.heap.objs.size off keys rfl room val () (keys.length - 0) 0 _ rfl (Nat.zero_le _) st0 ⟨[], q_empty (Heap.get?_push_of_some _ (Heap.get?_push_size _ rfl)), by simp, Nat.le_refl _⟩ fun s' ks mv q mem len => ?_
  refine fin s' ks mv.gens mv.drawn mv.os q mem len fun b o e => ?_
  obtain ⟨n1, n2⟩ := hp_ne (w := w) (s := s) (Heap.lt_size e)
  refine mv.heap b o (fun hm => ?_) (Heap.get?_push_of_some _ (Heap.get?_push_of_some _ e))
  rcases List.mem_cons.mp hm with e1 | hm
  · exact n1 e1
  · exact n2 (List.mem_singleton.mp hm)
set_option maxHeartbeats 16000000 in
/-- set(xs) of a list or a tuple -/
theorem q_set {l : Addr} {items : Array Value} {keys : List κ} {tup : Bool} {Q : Value → Shared → Prop} (calm : A.handled = none) (seq : if tup then s.heap.IsTuple l items else s.heap.IsList l items) (len : items.size = keys.length) (room : keys.length + 1 < scanBound)
    (val : ∀ (i : Nat) (v : Value), items[i]? = some v → ∃ k, keys[i]? = some k ∧ knd.is k v = true ∧ v.scannable = true) (hQ : MadeQ knd s keys Q) : wpAny (model P w) A (call (.type "set") [.ref l]) Q E s := by
  obtain ⟨mc, mt, hmro⟩ := F.called_set.mro
  have made := F.called_set.made
  have subs := F.called_set.sub
  refine wpAny_call (codeAny_of_tree ?_)
  show wpAny _ _ (callAny (.type "set") _) _ _ _
  refine wpAny_pure ⟨Code.quiet_builtin _ (by decide +kernel), codeAny_builtin F.entry_type_call ?_⟩
  rw [Around.under_plain (weight_type_call_type "set" [.ref l] []) rfl]
  have nt := F.called_set.notType
  have cc := F.called_set.canCreate
  have tc := F.typeCall_set_1 (.ref l)
  repeat (any_goals (first | assumption | wp_step))
  refine codeAny_mono (code_set_led1 (.ref l) (E := E) (Q₁ := fun v z => v = .ref s.heap.objs.size ∧ z = { s with heap := hp1 w s }) ⟨rfl, rfl⟩) fun r z hz => ?_
  match r, hz with
  | .error _, hz => exact hz
  | .ok .next, hz => exact hz.elim
  | .ok .brk, hz => exact hz.elim
  | .ok .cont, hz => exact hz.elim
  | .ok (.ret _), ⟨e1, e2⟩ =>
    subst e1 e2
    have fresh : (hp1 w s).get? s.heap.objs.size = some (set0 w) := Heap.get?_push_size _ rfl
    have isSet : Shared.TypeIs { s with heap := hp1 w s } (.ref s.heap.objs.size) "set" := ⟨_, fresh, rfl⟩
    have lk := F.called_set.init.lookup
    have bd := F.called_set.init.bind (.ref s.heap.objs.size)
    repeat (any_goals (first | assumption | wp_step))
    refine codeAny_mono (codeAny_call_builtin (R := wants (fun v z => v = .none ∧ ∃ h' tk ks, z = { s with heap := h', toks := tk } ∧ SetQ knd h' s.heap.objs.size ks ∧ (∀ k, k ∈ ks ↔ k ∈ keys) ∧ ks.length ≤ keys.length ∧ ∀ b o, s.heap.get? b = some o → h'.get? b = some o) E)
      F.called_set.init.plain F.entry_set_init (check_set_init_1 isSet ?_)) fun r2 z2 hz2 => ?_
    · have close : ∀ (s' : Shared) (ks : List κ), s'.gens = s.gens → s'.drawn = s.drawn → s'.os = s.os → SetQ knd s'.heap s.heap.objs.size ks → (∀ k, k ∈ ks ↔ k ∈ keys) → ks.length ≤ keys.length → (∀ b o, s.heap.get? b = some o → s'.heap.get? b = some o) →
          ∃ h' tk ks, s' = { s with heap := h', toks := tk } ∧ SetQ knd h' s.heap.objs.size ks ∧ (∀ k, k ∈ ks ↔ k ∈ keys) ∧ ks.length ≤ keys.length ∧ ∀ b o, s.heap.get? b = some o → h'.get? b = some o := by
        rintro ⟨h', g', d', tk', os'⟩ ks rfl rfl rfl q mem few old
        exact ⟨h', tk', ks, rfl, q, mem, few, old⟩
      cases tup with
      | true =>
        obtain ⟨⟨oc, od, dt, sl⟩, ho, hc, nl, hd⟩ := (show s.heap.IsTuple l items from seq)
        simp only at hc hd
        subst hc hd
        have there : (hp1 w s).get? l = some ⟨.type "tuple", od, .seq items nl, sl⟩ := Heap.get?_push_of_some _ ho
        have f1 := F.sub_tuple_set
        have f2 := F.sub_tuple_frozenset
        have f3 : (Value.type "tuple" == Value.type "dict") = false := by decide
        have still : (hp1 w s).IsTuple l items := ⟨_, there, rfl, nl, rfl⟩
        unfold Builtin.«set.__init__» noKeywords Builtin.Frozenset.updateFrom
        generalize hPI : pyIter = PI
        wp_walk
        subst hPI
        refine wpAny_pyIter_tuple still ?_
        refine wpAny_bind (wpAny_runValue ?_)
        have ne : l ≠ (hp1 w s).objs.size := (hp_ne (Heap.lt_size ho)).2
        have Wk := Walks.tuple (prog := P) (w := w) (A := A.in1.in1.in1) (by simp [calm]) _ l ne items
        rw [len] at Wk
        refine q_fill (knd := knd) (T := "tuple_iterator") (Heap.lt_size ho) room val Wk ⟨⟨_, Heap.get?_push_size _ rfl, rfl, rfl⟩, still.push _⟩ fun s' ks a1 a2 a3 a4 a5 a6 a7 => ?_
        show wpAny _ _ _ _ _ _
        refine wpAny_pure ?_
        show wpAny _ _ (ret Value.none) _ _ _
        exact wpAny_pure ⟨rfl, close s' ks a1 a2 a3 a4 a5 a6 a7⟩
      | false =>
        obtain ⟨⟨oc, od, dt, sl⟩, ho, hc, nl, hd⟩ := (show s.heap.IsList l items from seq)
        simp only at hc hd
        subst hc hd
        have there : (hp1 w s).get? l = some ⟨.type "list", od, .seq items nl, sl⟩ := Heap.get?_push_of_some _ ho
        have f1 := F.sub_list_set
        have f2 := F.sub_list_frozenset
        have f3 : (Value.type "list" == Value.type "dict") = false := by decide
        have still : (hp1 w s).IsList l items := ⟨_, there, rfl, nl, rfl⟩
        unfold Builtin.«set.__init__» noKeywords Builtin.Frozenset.updateFrom
        generalize hPI : pyIter = PI
        wp_walk
        subst hPI
        refine wpAny_pyIter_list still ?_
        refine wpAny_bind (wpAny_runValue ?_)
        have ne : l ≠ (hp1 w s).objs.size := (hp_ne (Heap.lt_size ho)).2
        have Wk := Walks.list (prog := P) (w := w) (A := A.in1.in1.in1) (by simp [calm]) _ l ne items
        rw [len] at Wk
        refine q_fill (knd := knd) (T := "list_iterator") (Heap.lt_size ho) room val Wk ⟨⟨_, Heap.get?_push_size _ rfl, rfl, rfl⟩, still.push _⟩ fun s' ks a1 a2 a3 a4 a5 a6 a7 => ?_
        show wpAny _ _ _ _ _ _
        refine wpAny_pure ?_
        show wpAny _ _ (ret Value.none) _ _ _
        exact wpAny_pure ⟨rfl, close s' ks a1 a2 a3 a4 a5 a6 a7⟩
    · match r2, hz2 with
      | .error _, hz2 => exact hz2
      | .ok .next, hz2 => exact hz2.elim
      | .ok .brk, hz2 => exact hz2.elim
      | .ok .cont, hz2 => exact hz2.elim
      | .ok (.ret _), ⟨e1, h', tk, ks, e2, q, mem, few, old⟩ =>
        subst e1 e2
        repeat (any_goals (first | assumption | wp_step))
        exact hQ h' tk ks q mem few old
end
end Pe

set_option linter.all false
set_option maxRecDepth 100000
set_option maxHeartbeats 4000000
namespace Pe
open PySem PySem.Spec PyProof.Rows L2
/-! ### sorted(xs), sorted(set(xs)), len(set(xs)) -/
def sortB (xs : List D) : Bool := xs.all (fun d => match d with
  | .tup (_ :: _) => true
  | _ => false) || xs.all fun d => match d with
  | .bl _ => true
  | .int _ => true
  | .str _ => true
  | .lst _ => true
  | _ => false
def bSort : OpL := fun ds h => match ds with
  | [.lst xs] => if fitsL 99 xs && alkAll xs && sortB xs then .ok (.r h.length) (h ++ [.lst (isort leD xs)]) else .no
  | _ => .no
theorem sortB_ok {xs : List D} (h : sortB xs = true) : PySem.W.Sortable (xs.map py) := by
  unfold sortB at h
  rcases Bool.or_eq_true_iff.mp h with h | h
  · refine .inl fun d hd => ?_
    obtain ⟨x, hx, rfl⟩ := List.mem_map.mp hd
    have := List.all_eq_true.mp h x hx
    split at this
    · exact ⟨_, _, rfl⟩
    · cases this
  · refine .inr fun d hd => ?_
    obtain ⟨x, hx, rfl⟩ := List.mem_map.mp hd
    have := List.all_eq_true.mp h x hx
    cases x <;> first | (cases this; done) | (refine ⟨fun e => ?_, fun _ e => ?_⟩ <;> cases e)
theorem alike_all {n : Nat} {xs : List D} (hf : fitsL n xs = true) (ha : alkAll xs = true) : PySem.W.AllAlike (xs.map py) := by
  intro d hd d' hd'
  obtain ⟨x, hx, rfl⟩ := List.mem_map.mp hd
  obtain ⟨y, hy, rfl⟩ := List.mem_map.mp hd'
  rw [alk_py n n x y (fitsL_mem hf hx) (fitsL_mem hf hy)]
  exact alkAll_mem ha hx hy
/-- values beside their data -/
def Fit (G : Cfg) (H : Hp) (T : Addr → Prop) (u : Value) (d : D) : Prop := ∃ v, RelV v u ∧ RD G H T d v
section
variable {X : Cx} {g : Rg} {σ : St} {H : Hp} {τ : List Addr} {h : Hh} {G : Cfg} {T : Addr → Prop}
theorem fit_all : ∀ {ds : List D} {vs : List V} {us : List Value}, RDs G H T ds vs → Vals vs us → PySem.W.EachIs (Fit G H T) us ds
  | [], _, _, a, r => by cases a; cases r; exact .nil
  | d :: ds, _, _, a, r => by
    cases a with
    | cons a b => cases r with
      | cons r s => exact .cons ⟨_, r, a⟩ (fit_all b s)
theorem fit_back : ∀ {us : List Value} {ds : List D}, PySem.W.EachIs (Fit G H T) us ds → ∃ vs, Vals vs us ∧ RDs G H T ds vs
  | _, [], a => by cases a; exact ⟨[], .nil, .nil⟩
  | _, d :: ds, a => by
    cases a with
    | cons a b =>
      obtain ⟨v, r, d⟩ := a
      obtain ⟨vs, rs, ds⟩ := fit_back b
      exact ⟨v :: vs, .cons r rs, .cons d ds⟩
theorem fit_reads {pins : List (Addr × Obj)} {σ : St} {s : Shared} (hK : G.K = X.K) (I : Inv X pins σ H s) {n : Nat} : ∀ {us : List Value} {ds : List D}, PySem.W.EachIs (Fit G H T) us ds → fitsL n ds = true → PySem.W.EachIs (fun v b => ∃ as, Reads s.heap v (py b) as) us ds
  | _, [], a, _ => by cases a; exact .nil
  | _, d :: ds, a, hf => by
    have hf' : fits n d = true ∧ fitsL n ds = true := by simpa [fitsL] using hf
    cases a with
    | cons a b =>
      obtain ⟨v, r, rd⟩ := a
      exact .cons (rd.reads I hK hf'.1 r) (fit_reads hK I b hf'.2)
theorem bound_fit {n k : Nat} {A : Around} (hu : A.units + 200 < cLine) (hk : k ≤ 3) {ds : List D} (hn : n ≤ 99) (hf : fitsL n ds = true) : ∀ b, b ∈ ds → A.units + k + (py b).depth < cLine := fun b hb => by
  have := (fits_plain n b (fitsL_mem hf hb)).2
  omega
theorem cr_bSort (Gd : Good g X) : CallR X (.builtin "sorted") (rB g (opL bSort)) := by
  intro pins s σ' H xs us Q I r q
  obtain ⟨σ, τ, h, ds, R, vl, F⟩ := q.op
  unfold bSort at F
  split at F
  · rename_i zs
    obtain ⟨v, rfl, va⟩ := vl.one
    obtain ⟨p, vs, rfl, t1, z1, l1⟩ := va.lst_
    split at F
    · rename_i hc
      simp only [Bool.and_eq_true] at hc
      obtain ⟨⟨c1, c2⟩, c3⟩ := hc
      obtain ⟨u, rfl, ru⟩ := vals1 r
      cases ru
      obtain ⟨its, rv, pl, hz⟩ := I.list (.of t1 : SqL X.K H p vs)
      have fit := fit_all l1 rv
      refine PySem.W.sorted_data (enc := py) pl.isList fit (fit_reads Gd.hK I fit c1) (alike_all c1 c2) (sortB_ok c3) (by rw [l1.len]; exact hz) (bound_fit Gd.hu (by decide) (Nat.le_refl _) c1) fun out ho eo => ?_
      rw [sort_eq c1 c2] at eo
      obtain ⟨ws, rw_, rd⟩ := fit_back eo
      obtain ⟨ep, he⟩ := PyProof.Rows.sortedAll_at s.heap its out.toArray
      have hl : ws.length ≤ sizeLine := by rw [rw_.length, ho, l1.len]; exact hz
      exact ⟨.ref _, upd H (s.heap.objs.size + 1) (.lst ws), I.laid (t' := s.toks) (fun _ _ => PyProof.Rows.sortedAll_old) (Nat.le_succ _) ⟨hl, out, ep, rw_, he⟩, rfl, F.lst R rd hl (I.hok.fresh (Nat.le_succ _))⟩
    · exact F.elim
  · exact F.elim
/-! sets -/
def dk : Key → D
  | .inl i => .int i
  | .inr x => .str x.cps.toList
theorem sk_dk (k : Key) : sk (dk k) = k := by
  cases k with
  | inl i => rfl
  | inr x => show Sum.inr (txt x.cps.toList) = _; simp [txt]
theorem dk_sk {d : D} (h : kc d = 1) : dk (sk d) = d := by
  cases d <;> first | rfl | (exact absurd h (by simp [kc])) | simp [sk, dk, txt]
/-- each once -/
def ddup : List D → List D
  | [] => []
  | x :: xs => match xs.any fun y => eqv y x with
    | true => ddup xs
    | false => x :: ddup xs
def setB (xs : List D) : Bool := (xs.all fun d => kc d == 1) && decide (xs.length < 4000)
theorem key1 {d : D} (h : kc d = 1) : isKey 8 d = true := by cases d <;> first | rfl | (exact absurd h (by simp [kc]))
theorem eqv_sk {x y : D} (hx : kc x = 1) (hy : kc y = 1) : eqv x y = decide (sk x = sk y) := by
  rw [eqv_dec (key1 hx) (key1 hy), nk_sk hx, nk_sk hy]
  exact decide_eq_decide.mpr ⟨fun q => skN_inj q, fun q => by rw [q]⟩
theorem ddup_spec : ∀ {xs : List D}, (∀ d ∈ xs, kc d = 1) → (∀ d, d ∈ ddup xs → d ∈ xs) ∧ ((ddup xs).map sk).Nodup ∧ ∀ k, k ∈ (ddup xs).map sk ↔ k ∈ xs.map sk
  | [], _ => ⟨fun _ h => h, List.nodup_nil, fun _ => Iff.rfl⟩
  | x :: xs, h => by
    obtain ⟨a, b, c⟩ := ddup_spec (xs := xs) fun d hd => h d (List.mem_cons_of_mem _ hd)
    have hx := h x List.mem_cons_self
    have e : (xs.any fun y => eqv y x) = true ↔ sk x ∈ xs.map sk := by
      rw [List.any_eq_true, List.mem_map]
      constructor
      · rintro ⟨y, hy, q⟩
        rw [eqv_sk (h y (List.mem_cons_of_mem _ hy)) hx] at q
        exact ⟨y, hy, of_decide_eq_true q⟩
      · rintro ⟨y, hy, q⟩
        exact ⟨y, hy, by rw [eqv_sk (h y (List.mem_cons_of_mem _ hy)) hx]; exact decide_eq_true q⟩
    unfold ddup
    by_cases m : sk x ∈ xs.map sk
    · rw [e.mpr m]
      refine ⟨fun d hd => List.mem_cons_of_mem _ (a d hd), b, fun k => ?_⟩
      rw [c, List.map_cons, List.mem_cons]
      exact ⟨.inr, fun z => z.elim (fun z => by rw [z]; exact m) id⟩
    · have e0 : (xs.any fun y => eqv y x) = false := by
        cases q : xs.any fun y => eqv y x with
        | true => exact absurd (e.mp q) m
        | false => rfl
      rw [e0]
      refine ⟨fun d hd => ?_, ?_, fun k => ?_⟩
      · rcases List.mem_cons.mp hd with q | q
        · rw [q]; exact List.mem_cons_self
        · exact List.mem_cons_of_mem _ (a d q)
      · rw [List.map_cons, List.nodup_cons]
        exact ⟨fun z => m ((c _).mp z), b⟩
      · rw [List.map_cons, List.map_cons, List.mem_cons, List.mem_cons, c]
theorem perm_same {α : Type} [DecidableEq α] : ∀ {l m : List α}, l.Nodup → m.Nodup → (∀ k, k ∈ l ↔ k ∈ m) → l.Perm m := by
  intro l m hl hm h
  rw [List.perm_iff_count]
  intro a
  by_cases q : a ∈ l
  · rw [List.Nodup.count hl, List.Nodup.count hm, if_pos q, if_pos ((h a).mp q)]
  · rw [List.Nodup.count hl, List.Nodup.count hm, if_neg q, if_neg fun z => q ((h a).mpr z)]
/-- the keys of a set made of data, as data -/
theorem ddup_perm {xs : List D} (h : ∀ d ∈ xs, kc d = 1) {ks : List Key} (nd : ks.Nodup) (mem : ∀ k, k ∈ ks ↔ k ∈ xs.map sk) : (ks.map dk).Perm (ddup xs) := by
  obtain ⟨a, b, c⟩ := ddup_spec h
  have p : ks.Perm ((ddup xs).map sk) := perm_same nd b fun k => (mem k).trans (c k).symm
  have q := p.map dk
  rw [List.map_map] at q
  have e : (ddup xs).map (dk ∘ sk) = ddup xs := by
    conv => rhs; rw [← List.map_id (ddup xs)]
    exact List.map_congr_left fun d hd => dk_sk (h d (a d hd))
  rw [e] at q
  exact q
theorem setB_ok {xs : List D} (h : setB xs = true) : (∀ d ∈ xs, kc d = 1) ∧ xs.length < 4000 := by
  unfold setB at h
  rw [Bool.and_eq_true] at h
  exact ⟨fun d hd => by simpa using List.all_eq_true.mp h.1 d hd, of_decide_eq_true h.2⟩
theorem set_vals {P : Program} {w : World} : ∀ {ds : List D} {vs : List V} {us : List Value}, (∀ d ∈ ds, kc d = 1) → RDs G H T ds vs → Vals vs us → ∀ (i : Nat) (v : Value), us[i]? = some v → ∃ k, (ds.map sk)[i]? = some k ∧ (mixKind P w).is k v = true ∧ v.scannable = true
  | [], _, _, _, a, r, i, v, e => by cases a; cases r; simp at e
  | d :: ds, _, _, hc, a, r, i, v, e => by
    cases a with
    | cons a b => cases r with
      | cons r s =>
        rename_i v0 vs0 u0 us0
        have c1 := hc d List.mem_cons_self
        cases i with
        | zero =>
          have e' : u0 = v := by simpa using e
          subst e'
          refine ⟨sk d, by simp, keyS c1 a r, ?_⟩
          cases d with
          | int n => cases a; obtain ⟨t, rfl⟩ := r; rfl
          | str n => cases a; obtain ⟨t, rfl⟩ := r; rfl
          | _ => exact absurd c1 (by simp [kc])
        | succ i =>
          obtain ⟨k, h1, h2⟩ := set_vals (P := P) (w := w) (fun d hd => hc d (List.mem_cons_of_mem _ hd)) b s i v (by simpa using e)
          exact ⟨k, by simpa using h1, h2⟩
/-- the set at a, by its keys -/
def SetH (P : Program) (w : World) (a : Addr) (ks : List Key) : HO := .ext fun h => SetQ (mixKind P w) h a ks
theorem setH_ok {P : Program} {w : World} {H : Hp} {h : Heap} {a : Addr} {ks : List Key} (q : SetQ (mixKind P w) h a ks) : ObjOk P w H h a (SetH P w a ks) := by
  obtain ⟨o, _, _, _, ho, _⟩ := id q
  exact ⟨q, ⟨o, ho⟩, fun h1 h2 p k => SetQ.keep p k⟩
/-- set(xs) -/
def rSetQ (P : Program) (w : World) (g : Rg) : List V → Hp → VK → Prop := fun vs H Q => ∃ (T : Addr → Prop) (v : V) (d : D) (xs : List D), vs = [v] ∧ VW g.G H T d v ∧ d.seq? = some xs ∧ setB xs = true ∧
  ∀ p ks, H p = none → ks.Nodup → (∀ k, k ∈ ks ↔ k ∈ xs.map sk) → Q (.ref p) (upd H p (SetH P w p ks))
theorem cr_setQ (Gd : Good g X) : CallR X (.type "set") (rSetQ X.prog X.w g) := by
  intro pins s σ H vs us Q I r q
  obtain ⟨T, v, d, xs, rfl, va, es, hs, q⟩ := q
  obtain ⟨u, rfl, ru⟩ := vals1 r
  obtain ⟨a, ws, rfl, sq, hz, rd⟩ := va.seq es
  cases ru
  obtain ⟨h1, h2⟩ := setB_ok hs
  have made : ∀ its : List Value, Vals ws its → (if d.seq? = none then True else True) → MadeQ (mixKind X.prog X.w) s (xs.map sk) (EP X pins σ Q) := by
    intro its rv _ h' tk ks sq' mem few old
    obtain ⟨o, es, ep, t, a1, a2, a3, a4, a5, a6⟩ := id sq'
    exact ⟨.ref s.heap.objs.size, upd H s.heap.objs.size (SetH X.prog X.w s.heap.objs.size ks), I.laid (t' := tk) old (Nat.le_refl _) (setH_ok sq'), rfl, q _ ks (I.hok.fresh (Nat.le_refl _)) a5 mem⟩
  have room : (xs.map sk).length + 1 < scanBound := by
    rw [List.length_map]
    have : scanBound = 4096 := rfl
    omega
  rw [Gd.hK] at sq
  rcases sq with sq | sq
  · obtain ⟨its, rv, pl, hz2⟩ := I.list sq
    refine q_set (tup := false) (items := its.toArray) (I.ok.hd Gd.calm) pl.isList (by rw [List.size_toArray, List.length_map, ← rv.length, rd.len]) room (fun i v e => ?_) (made its rv (by split <;> trivial))
    exact set_vals h1 rd rv i v (by simpa using e)
  · obtain ⟨its, rv, pl, hz2⟩ := I.tuple sq
    refine q_set (tup := true) (items := its.toArray) (I.ok.hd Gd.calm) (show s.heap.IsTuple a its.toArray from pl) (by rw [List.size_toArray, List.length_map, ← rv.length, rd.len]) room (fun i v e => ?_) (made its rv (by split <;> trivial))
    exact set_vals h1 rd rv i v (by simpa using e)
end
end Pe

set_option linter.all false
set_option maxRecDepth 100000
set_option maxHeartbeats 4000000
namespace Pe
open PySem PySem.Spec PyProof.Rows L2
section
variable {X : Cx} {g : Rg} {σ : St} {H : Hp} {τ : List Addr} {h : Hh} {G : Cfg} {T : Addr → Prop}
/-- a value beside its datum, both of a key -/
def Kd (P : Program) (w : World) (v : Value) (d : D) : Prop := kc d = 1 ∧ (mixKind P w).is (sk d) v = true
theorem Kd.rel {P : Program} {w : World} {v : Value} {d : D} (k : Kd P w v d) : RelV (kV (sk d)) v := relV_key k.2
theorem Kd.reads {P : Program} {w : World} {hp : Heap} {v : Value} {d : D} (k : Kd P w v d) : Reads hp v (py d) [] := by
  obtain ⟨c, i⟩ := k
  have r := relV_key (k := sk d) i
  cases d with
  | int n => obtain ⟨t, rfl⟩ := r; exact .int _ _
  | str n => obtain ⟨t, rfl⟩ := r; exact .str _ _
  | _ => exact absurd c (by simp [kc])
theorem kd_vals {P : Program} {w : World} : ∀ {us : List Value} {ds : List D}, PySem.W.EachIs (Kd P w) us ds → Vals (ds.map fun d => kV (sk d)) us
  | _, [], a => by cases a; exact .nil
  | _, d :: ds, a => by
    cases a with
    | cons a b => exact .cons a.rel (kd_vals b)
theorem kd_reads {P : Program} {w : World} {hp : Heap} {c : Addr} : ∀ {us : List Value} {ds : List D}, PySem.W.EachIs (Kd P w) us ds → PySem.W.EachIs (fun v b => ∃ as, Reads hp v (py b) as ∧ c ∉ as) us ds
  | _, [], a => by cases a; exact .nil
  | _, d :: ds, a => by
    cases a with
    | cons a b => exact .cons ⟨[], a.reads, by simp⟩ (kd_reads b)
theorem kd_of {P : Program} {w : World} : ∀ {us : List Value} {ks : List Key}, Paired (fun v k => (mixKind P w).is k v = true) us ks → PySem.W.EachIs (Kd P w) us (ks.map dk)
  | _, [], a => by cases a; exact .nil
  | _, k :: ks, a => by
    cases a with
    | cons a b => exact .cons ⟨by cases k <;> rfl, by rw [sk_dk]; exact a⟩ (kd_of b)
theorem pair_map {α β γ : Type} {R : α → β → Prop} {R' : γ → β → Prop} {f : α → γ} (hf : ∀ a b, R a b → R' (f a) b) : ∀ {l : List α} {m : List β}, Paired R l m → Paired R' (l.map f) m
  | _, _, .nil => .nil
  | _, _, .cons a b => .cons (hf _ _ a) (pair_map hf b)
/-- data of keys, laid from a list's -/
theorem rd_sub {xs : List D} {vs : List V} (r : RDs G H T xs vs) (hc : ∀ d ∈ xs, kc d = 1) : ∀ {ys : List D}, (∀ d ∈ ys, d ∈ xs) → RDs G H T ys (ys.map fun d => kV (sk d))
  | [], _ => .nil
  | y :: ys, hy => by
    have hm := hy y List.mem_cons_self
    obtain ⟨i, hi⟩ := List.getElem?_of_mem hm
    obtain ⟨v, _, rv⟩ := r.get hi
    rw [rel_sk (hc y hm) rv] at rv
    exact .cons rv (rd_sub r hc fun d hd => hy d (List.mem_cons_of_mem _ hd))
/-- the members of a set gathered and sorted -/
theorem cr_sortH (Gd : Good g X) : CallR X (.builtin "sorted") (fun vs H Q => ∃ (a : Addr) (ks : List Key) (xs : List D), vs = [.ref a] ∧ H a = some (SetH X.prog X.w a ks) ∧ (∀ d ∈ xs, kc d = 1) ∧ xs.length < 4000 ∧ ks.Nodup ∧ (∀ k, k ∈ ks ↔ k ∈ xs.map sk) ∧
    fitsL 99 (ddup xs) = true ∧ alkAll (ddup xs) = true ∧ ∀ p, H p = none → Q (.ref p) (upd H p (.lst ((isort leD (ddup xs)).map fun d => kV (sk d))))) := by
  intro pins s σ H vs us Q I r q
  obtain ⟨a, ks, xs, rfl, ha, hc, few, nd, mem, hf, al, q⟩ := q
  obtain ⟨u, rfl, ru⟩ := vals1 r
  cases ru
  have sq : SetQ (mixKind X.prog X.w) s.heap a ks := (show ObjOk X.prog X.w H s.heap a (SetH X.prog X.w a ks) from I.hok a _ ha).1
  obtain ⟨o, es, ep, t, at_a, ex, dat, pr, nd2, small, fit, ris, led⟩ := sq
  have perm := ddup_perm hc nd mem
  refine Calls.call_function_entry kind_sorted plain_sorted entry_sorted (args_sorted1 _) ?_
  unfold Builtin.«sorted»
  refine wpAny_bind (m := checkCount "sorted" 1 1 _) (wpAny_pure ?_)
  refine wpAny_bind (collect_set (A := X.A.in1) (I.ok.hd Gd.calm) ⟨o, at_a, ex.1, dat⟩ fit small ris led fun s1 out old sz g1 o1 pm => ?_)
  have vp := pair_map (f := Prod.snd) (R' := fun v k => (mixKind X.prog X.w).is k v = true) (fun e k (z : Ent (mixKind X.prog X.w) e k) => z.1) pr
  obtain ⟨ks2, p2, vp2⟩ := pair_perm pm vp
  have kd := kd_of vp2
  have perm2 : (ks2.map dk).Perm (ddup xs) := (p2.map dk).trans perm
  have hlen : out.length = (ddup xs).length := by
    rw [← perm2.length_eq, List.length_map]
    exact Paired.length vp2
  have dl : (ddup xs).length < 4096 := by
    rw [← perm2.length_eq, List.length_map, p2.length_eq, ← Paired.length pr, Array.length_toList]
    exact small
  refine wpAny_bind (wpAny_newList ?_ (by rw [hlen, szEq]; exact Nat.le_of_lt (Nat.lt_of_lt_of_le dl (by decide))))
  have lay : (s1.heap.push (seqObj "list" out.toArray 0)).get? s1.heap.objs.size = some (seqObj "list" out.toArray 0) := Heap.get?_push_size _ rfl
  have hf2 : fitsL 99 (ks2.map dk) = true := by
    have all : ∀ (ys : List D), (∀ d ∈ ys, fits 99 d = true) → fitsL 99 ys = true := by
      intro ys
      induction ys with
      | nil => intro _; rfl
      | cons y ys ih => intro hy; simp only [fitsL, Bool.and_eq_true]; exact ⟨hy y List.mem_cons_self, ih fun d hd => hy d (List.mem_cons_of_mem _ hd)⟩
    exact all _ fun d hd => fitsL_mem hf (perm2.mem_iff.mp hd)
  have al2 : alkAll (ks2.map dk) = true := List.all_eq_true.mpr fun x hx => List.all_eq_true.mpr fun y hy => alkAll_mem al (perm2.mem_iff.mp hx) (perm2.mem_iff.mp hy)
  have srt : PySem.W.Sortable ((ks2.map dk).map py) := .inr fun d hd => by
    rw [List.map_map] at hd
    obtain ⟨k, _, rfl⟩ := List.mem_map.mp hd
    cases k <;> exact ⟨(fun e => by cases e), (fun _ e => by cases e)⟩
  refine wpAny_bind (wpAny_holding (PySem.W.list_sort_data (enc := py) lay kd (kd_reads kd) (alike_all hf2 al2) srt (by rw [List.length_map, ← Paired.length vp2, hlen, szEq]; exact Nat.le_of_lt (Nat.lt_of_lt_of_le dl (by decide)))
    (fun b hb => by
      have := (fits_plain 99 b (fitsL_mem hf2 hb)).2
      have := Gd.hu
      show X.A.units + 1 + 1 + _ < cLine
      omega) fun out2 l2 eo => ?_))
  rw [sort_perm hf al perm2] at eo
  obtain ⟨c, at_c⟩ := sortedHeap_at (vs := out) (out := out2.toArray) lay
  have vals := kd_vals eo
  have old2 : ∀ b u, s.heap.get? b = some u → (sortedHeap (s1.heap.push (seqObj "list" out.toArray 0)) s1.heap.objs.size out out2.toArray).get? b = some u := fun b u e => by
    have q1 := old b u e
    have lt := Heap.lt_size q1
    rw [sortedHeap_old (Nat.ne_of_lt lt) (by rw [size_push']; exact Nat.lt_succ_of_lt lt)]
    exact Heap.get?_push_of_some _ q1
  have free : H s1.heap.objs.size = none := I.hok.fresh sz
  have few2 : ((isort leD (ddup xs)).map fun d => kV (sk d)).length ≤ sizeLine := by
    rw [List.length_map, (isort_perm leD _).length_eq, szEq]
    exact Nat.le_of_lt (Nat.lt_of_lt_of_le dl (by decide))
  refine wpAny_pure ⟨_, rfl, .ref s1.heap.objs.size, upd H s1.heap.objs.size (.lst ((isort leD (ddup xs)).map fun d => kV (sk d))), ?_, rfl, q _ free⟩
  have J := I.call (g' := s1.gens) (d' := s1.drawn) (t' := s1.toks) (ch := []) (Un.laid (fs := frs X.stack) (ex := []) (o := .lst ((isort leD (ddup xs)).map fun d => kV (sk d))) old2 sz free) (I.hok.laid old2 sz ⟨few2, out2, c, vals, at_c⟩) (by rw [g1]; exact I.bare) (fun _ z => nomatch z)
  have e : ({ s1 with heap := sortedHeap (s1.heap.push (seqObj "list" out.toArray 0)) s1.heap.objs.size out out2.toArray } : Shared) = { s with heap := sortedHeap (s1.heap.push (seqObj "list" out.toArray 0)) s1.heap.objs.size out out2.toArray, gens := s1.gens, drawn := s1.drawn, toks := s1.toks } := by
    cases s1
    cases s
    cases o1
    rfl
  exact e ▸ J
/-- len(set) -/
theorem cr_lenH : CallR X (.builtin "len") (fun vs H Q => ∃ (a : Addr) (ks : List Key), vs = [.ref a] ∧ H a = some (SetH X.prog X.w a ks) ∧ Q (.int ks.length) H) := by
  intro pins s σ H vs us Q I r q
  obtain ⟨a, ks, rfl, ha, q⟩ := q
  obtain ⟨u, rfl, ru⟩ := vals1 r
  cases ru
  have sq : SetQ (mixKind X.prog X.w) s.heap a ks := (show ObjOk X.prog X.w H s.heap a (SetH X.prog X.w a ks) from I.hok a _ ha).1
  obtain ⟨o, es, ep, t, at_a, ex, dat, pr, nd2, small, fit, ris, led⟩ := sq
  have hn : es.size = ks.length := by simpa using Paired.length pr
  have hb : scanBound = 4096 := rfl
  exact call_len_set at_a ex dat fit (by omega) ⟨.int ks.length, H, I.tok _, ⟨_, by rw [hn]⟩, q⟩
/-! the two in a row -/
def ssetR (w : W) (h : Hh) : Rs W := match w.val h with
  | some d => match d.seq? with
    | some xs => if setB xs && fitsL 99 (ddup xs) && alkAll (ddup xs) then .ok (.r h.length) (h ++ [.lst (isort leD (ddup xs))]) else .no
    | none => .no
  | none => .no
def lsetR (w : W) (h : Hh) : Rs W := match w.val h with
  | some d => match d.seq? with
    | some xs => if setB xs then .ok (.d (.int (ddup xs).length)) h else .no
    | none => .no
  | none => .no
variable {m : M} {a : Expr} {p p2 q pos : Pos} {x y : Str}
theorem pe_mSSet (Gd : Good g X) (hg : Gl X "sorted") (hm : X.mg "sorted" = none) (hg2 : Gl X "set") (hm2 : X.mg "set" = none) (ha : PE X a (tE g m)) (na : starEach [a] X.env = (false, eval a X.env) :: starEach [] X.env) :
    PE X (.Call (.Name "sorted" p) [.Call (.Name "set" p2) [a] [] q] [] pos) (tE g (mUn ssetR m)) := by
  have inner := pe_callTy (p := p2) (pos := q) (cr_setQ Gd) hg2 hm2 PyProof.Rows.boot_set (pa_cons ha pa_nil na) (by decide) (by decide) na rfl
  refine pe_weak (pe_callB (cr_sortH Gd) hg hm PyProof.Rows.boot_sorted (pa_cons inner pa_nil rfl) (by decide) (by decide) rfl rfl) fun σ H Q ⟨τ, h, σa, R, S, F⟩ => tE.step' R S F fun H1 τ1 h1 w v n r F1 => ?_
  unfold ssetR at F1
  split at F1
  · rename_i d ev
    split at F1
    · rename_i xs es
      split at F1
      · rename_i hc
        simp only [Bool.and_eq_true] at hc
        obtain ⟨⟨c1, c2⟩, c3⟩ := hc
        have va := r.view n.r ev
        refine ⟨Trk τ1 h1, v, d, xs, rfl, va, es, c1, fun p0 ks hp nd mem => ?_⟩
        obtain ⟨k1, k2⟩ := setB_ok c1
        refine ⟨p0, ks, xs, rfl, upd_same, k1, k2, nd, mem, c2, c3, fun p1 np => ?_⟩
        obtain ⟨b, vs, rfl, _, hz, rd⟩ := va.seq es
        obtain ⟨e1, R1⟩ := n.r.beside (o := SetH X.prog X.w p0 ks) hp
        have sub : ∀ d ∈ isort leD (ddup xs), d ∈ xs := fun d hd => (ddup_spec k1).1 d ((isort_perm leD _).mem_iff.mp hd)
        refine Fin.lst R1 (Fin.ext e1 F1) (rd_sub (rd.grow n.r.noTup e1.g) k1 sub) ?_ np
        have : (ddup xs).length ≤ xs.length := by
          have dl : ∀ ys : List D, (ddup ys).length ≤ ys.length := by
            intro ys
            induction ys with
            | nil => exact Nat.le_refl _
            | cons y ys ih =>
              unfold ddup
              split
              · exact Nat.le_succ_of_le ih
              · exact Nat.succ_le_succ ih
          exact dl xs
        rw [List.length_map, (isort_perm leD _).length_eq, szEq]
        exact Nat.le_trans this (Nat.le_of_lt (Nat.lt_of_lt_of_le k2 (by decide)))
      · exact F1.elim
    · exact F1.elim
  · exact F1.elim
theorem pe_mLSet (Gd : Good g X) (hg : Gl X "len") (hm : X.mg "len" = none) (hg2 : Gl X "set") (hm2 : X.mg "set" = none) (ha : PE X a (tE g m)) (na : starEach [a] X.env = (false, eval a X.env) :: starEach [] X.env) :
    PE X (.Call (.Name "len" p) [.Call (.Name "set" p2) [a] [] q] [] pos) (tE g (mUn lsetR m)) := by
  have inner := pe_callTy (p := p2) (pos := q) (cr_setQ Gd) hg2 hm2 PyProof.Rows.boot_set (pa_cons ha pa_nil na) (by decide) (by decide) na rfl
  refine pe_weak (pe_callB cr_lenH hg hm boot_len (pa_cons inner pa_nil rfl) (by decide) (by decide) rfl rfl) fun σ H Q ⟨τ, h, σa, R, S, F⟩ => tE.step' R S F fun H1 τ1 h1 w v n r F1 => ?_
  unfold lsetR at F1
  split at F1
  · rename_i d ev
    split at F1
    · rename_i xs es
      split at F1
      · rename_i c1
        have va := r.view n.r ev
        refine ⟨Trk τ1 h1, v, d, xs, rfl, va, es, c1, fun p0 ks hp nd mem => ?_⟩
        obtain ⟨k1, k2⟩ := setB_ok c1
        obtain ⟨e1, R1⟩ := n.r.beside (o := SetH X.prog X.w p0 ks) hp
        have pl := (ddup_perm k1 nd mem).length_eq
        rw [List.length_map] at pl
        refine ⟨p0, ks, rfl, upd_same, ?_⟩
        rw [pl]
        exact Fin.int R1 (Fin.ext e1 F1)
      · exact F1.elim
    · exact F1.elim
  · exact F1.elim
end
end Pe

set_option linter.all false
set_option maxRecDepth 100000
set_option maxHeartbeats 4000000
namespace Pe
open PySem PySem.Spec PyProof.Rows L2
/-! ### repr -/
def shc (d : D) : List Nat := (py d).shown.cps.toList
theorem txt_shc (d : D) : txt (shc d) = (py d).shown := by simp [txt, shc]
/-- .. and {} -/
def shows0 : D → Bool
  | .dic [] [] => true
  | d => shows d
def shc0 : D → List Nat
  | .dic [] [] => [123, 125]
  | d => shc d
def bRepr : OpL := fun ds h => match ds with
  | [d] => if shows0 d then .ok (.d (.str (shc0 d))) h else .no
  | _ => .no
mutual
def same : D → D → Bool
  | .non, .non => true
  | .bl a, .bl b => a == b
  | .int a, .int b => a == b
  | .str a, .str b => a == b
  | .tup a, .tup b => sameL a b
  | .lst a, .lst b => sameL a b
  | _, _ => false
def sameL : List D → List D → Bool
  | [], [] => true
  | x :: xs, y :: ys => same x y && sameL xs ys
  | _, _ => false
end
mutual
theorem same_eq : ∀ {a b : D}, same a b = true → a = b
  | .non, b, h => by cases b <;> first | rfl | cases h
  | .bl a, b, h => by cases b <;> first | (have e := eq_of_beq (show (_ == _) = true from h); rw [e]) | cases h
  | .int a, b, h => by cases b <;> first | (have e := eq_of_beq (show (_ == _) = true from h); rw [e]) | cases h
  | .str a, b, h => by cases b <;> first | (have e := eq_of_beq (show (_ == _) = true from h); rw [e]) | cases h
  | .tup a, b, h => by cases b <;> first | (rw [sameL_eq (show sameL _ _ = true from h)]) | cases h
  | .lst a, b, h => by cases b <;> first | (rw [sameL_eq (show sameL _ _ = true from h)]) | cases h
  | .dic _ _, b, h => by cases b <;> cases h
  | .set _, b, h => by cases b <;> cases h
  | .scr _, b, h => by cases b <;> cases h
  | .fn _, b, h => by cases b <;> cases h
  | .cls _, b, h => by cases b <;> cases h
  | .clo _ _, b, h => by cases b <;> cases h
  | .ins _ _, b, h => by cases b <;> cases h
theorem sameL_eq : ∀ {a b : List D}, sameL a b = true → a = b
  | [], [], _ => rfl
  | [], _ :: _, h => by cases h
  | _ :: _, [], h => by cases h
  | x :: xs, y :: ys, h => by
    have h' : same x y = true ∧ sameL xs ys = true := by simpa [sameL] using h
    rw [same_eq h'.1, sameL_eq h'.2]
end
/-- repr(a) == repr(b), repr(a) != repr(b), where the data are one -/
def rcR (neg : Bool) (x : D) (w : W) (h : Hh) : Rs W := match w.val h with
  | some y => if shows y && same x y then .ok (.d (.bl !neg)) h else .no
  | none => .no
def mRc (neg : Bool) (a b : M) : M := fun σ h => (a σ h).bind fun w h1 => match w.val h1 with
  | some x => if shows x then (b σ h1).bind (rcR neg x) else .no
  | none => .no
section
variable {X : Cx} {g : Rg} {σ : St} {H : Hp} {τ : List Addr} {h : Hh}
theorem shows0_cases {d : D} (h : shows0 d = true) : d = .dic [] [] ∨ (shows d = true ∧ shc0 d = shc d) := by
  unfold shows0 at h
  split at h
  · exact .inl rfl
  · rename_i hn
    refine .inr ⟨h, ?_⟩
    unfold shc0
    split
    · exact absurd rfl hn
    · rfl
theorem shc0_len {d : D} (h : shows0 d = true) : (shc0 d).length ≤ sizeLine := by
  rcases shows0_cases h with rfl | ⟨a, b⟩
  · rw [szEq]; decide
  · obtain ⟨_, _, _, hz⟩ := shown_ok a
    rw [b, ← txt_len, txt_shc]; exact hz
theorem call_repr0 (hK : g.G.K = X.K) (hg : X.A.guards = some []) (hu : X.A.units + 200 < cLine) : CallR X (.builtin "repr") (fun xs H Q => ∃ (v : V) (d : D) (T : Addr → Prop), xs = [v] ∧ shows0 d = true ∧ VW g.G H T d v ∧ Q (.str (txt (shc0 d))) H) := by
  intro pins s σ' H xs us Q I r q
  obtain ⟨v, d, T, rfl, hs, rd, q⟩ := q
  rcases shows0_cases hs with rfl | ⟨a, b⟩
  · obtain ⟨u, rfl, ru⟩ := vals1 r
    obtain ⟨a, E, rfl, e, z, l⟩ := rd.dict
    cases l
    cases ru
    · have _ := e
      obtain ⟨hm, o, es, ep, h1, h2, h3, h4⟩ := dob I e
      have rd : Reads s.heap (.ref _) (.dict []) _ := .dict (kvs := []) h1 h2.1 h3 (by rw [h4]; exact .nil) (by rw [h4]; exact .nil)
      refine repr_of_reads' rd rfl (fun _ => ?_) hg (Nat.lt_of_le_of_lt (Nat.add_le_add_left (show PyData.depth (.dict []) + 1 ≤ 200 by decide) _) hu) (fun _ _ e => e) (fun h' u tk hk => ⟨.str _, H, I.kept hk, ⟨_, rfl⟩, q⟩) (by rw [szEq]; decide)
      intro m
      have : sysModules = a := by simpa using m
      rw [← this] at hm
      simp at hm
  · obtain ⟨f, _, _, hz⟩ := shown_ok a
    refine call_repr_any hg hu pins s σ' H _ us Q I r ⟨v, d, rfl, a, rd.dp hK f, ?_⟩
    rw [← txt_shc, ← b]
    exact q
theorem cr_bRepr (Gd : Good g X) : CallR X (.builtin "repr") (rB g (opL bRepr)) := by
  intro pins s σ' H xs us Q I r q
  obtain ⟨σ, τ, h, ds, R, vl, F⟩ := q.op
  unfold bRepr at F
  split at F
  · rename_i d
    obtain ⟨v, rfl, va⟩ := vl.one
    split at F
    · rename_i hs
      exact call_repr0 Gd.hK Gd.gu Gd.hu pins s σ' H _ us Q I r ⟨v, d, _, rfl, hs, va, F.val R (.str _ (shc0_len hs))⟩
    · exact F.elim
  · exact F.elim
theorem eq_txt (neg : Bool) (Gd : Good g X) : OpR X (compareOp (if neg then .NotEq else .Eq)) (fun x y H Q => ∃ s : List Nat, s.length ≤ sizeLine ∧ x = .str (txt s) ∧ y = .str (txt s) ∧ Q (.bl !neg) H) := by
  intro pins st σ H x y v u Q I rx ry q
  obtain ⟨s, hz, rfl, rfl, q⟩ := q
  obtain ⟨t, rfl⟩ := rx
  obtain ⟨t', rfl⟩ := ry
  have room : X.A.units + min (PyData.depth (.str (txt s))) (PyData.depth (.str (txt s))) < cLine := by
    show X.A.units + min 0 0 < cLine
    have := Gd.hu
    simp only [Nat.min_self]
    omega
  have e : PyData.eqv (.str (txt s)) (.str (txt s)) = true := by simp [PyData.eqv]
  cases neg with
  | true => exact SeqAt.ne_plain (.str _ t) (.str _ t') rfl rfl room ⟨.bl _, H, I, rfl, by rw [e]; exact q⟩
  | false => exact SeqAt.eq_plain (.str _ t) (.str _ t') rfl rfl room ⟨.bl _, H, I, rfl, by rw [e]; exact q⟩
variable {ma mb : M} {a b : Expr} {p p2 q1 q2 pos : Pos}
theorem both {x : Expr} {t t2 : TE} (c : PE X x t) (d : PT X x (tTest t)) (core : ∀ σ H Q, t2 σ H Q → t σ H Q) : PE X x t2 ∧ PT X x (tTest t2) := ⟨pe_weak c core, pt_weak d fun σ H Q q => core _ _ _ q⟩
theorem test_of {m : M} (hf : ∀ σa h y h', m σa h = .ok y h' → ∃ k, y = .d (.bl k)) {Q : Bool → Hp → Prop} (q : tTs g (mTru m) σ H Q) : tTest (tE g m) σ H Q := by
  obtain ⟨τ, h, σa, R, S, F⟩ := q
  have F := FinP.clB R.len F
  refine ⟨τ, h, σa, R, S, ?_⟩
  cases z : m σa h with
  | ok y h3 =>
    rw [z] at F
    intro τ3 H3 v3 e3 R3 r3
    obtain ⟨k, ek⟩ := hf _ _ _ _ z
    subst ek
    cases r3 with
    | d r3 =>
      cases r3
      exact ⟨k, rfl, F τ3 H3 k e3 R3 rfl⟩
  | ex c x h3 => rw [z] at F; exact F
  | no => rw [z] at F; exact F
theorem mRc_bl (neg : Bool) (σa : Sl) (h : Hh) (y : W) (h' : Hh) (e : mRc neg ma mb σa h = .ok y h') : ∃ k, y = .d (.bl k) := by
  unfold mRc at e
  cases z : ma σa h with
  | ok w h1 =>
    rw [z] at e
    simp only [Rs.bind] at e
    split at e
    · split at e
      · cases z2 : mb σa h1 with
        | ok w2 h2 =>
          simp only [z2] at e
          unfold rcR at e
          split at e
          · split at e
            · cases e; exact ⟨_, rfl⟩
            · cases e
          · cases e
        | ex _ _ _ => simp [z2] at e
        | no => simp [z2] at e
      · cases e
    · cases e
  | ex _ _ _ => rw [z] at e; cases e
  | no => rw [z] at e; cases e
theorem pe_mRc (neg : Bool) (Gd : Good g X) (hg : Gl X "repr") (hm : X.mg "repr" = none) (ha : PE X a (tE g ma)) (hb : PE X b (tE g mb)) (na : starEach [a] X.env = (false, eval a X.env) :: starEach [] X.env) (nb : starEach [b] X.env = (false, eval b X.env) :: starEach [] X.env) :
    PE X (.Compare (.Call (.Name "repr" p) [a] [] q1) [if neg then .NotEq else .Eq] [.Call (.Name "repr" p2) [b] [] q2] pos) (tE g (mRc neg ma mb)) ∧ PT X (.Compare (.Call (.Name "repr" p) [a] [] q1) [if neg then .NotEq else .Eq] [.Call (.Name "repr" p2) [b] [] q2] pos) (tTs g (mTru (mRc neg ma mb))) := by
  have A := pe_callB (p := p) (pos := q1) (call_repr_any (X := X) Gd.gu Gd.hu) hg hm PyProof.Rows.boot_repr (pa_cons ha pa_nil na) (by decide) (by decide) na rfl
  have B := pe_callB (p := p2) (pos := q2) (call_repr_any (X := X) Gd.gu Gd.hu) hg hm PyProof.Rows.boot_repr (pa_cons hb pa_nil nb) (by decide) (by decide) nb rfl
  refine (fun z => ⟨z.1, pt_weak z.2 fun σ H Q q => test_of (mRc_bl neg) q⟩ : _ ∧ _ → _ ∧ _) (both (t2 := tE g (mRc neg ma mb)) (pe_cmpR (eq_txt neg Gd) A B (by cases neg <;> rfl)) (pt_cmpR (eq_txt neg Gd) A B (by cases neg <;> rfl)) ?_)
  refine fun σ H Q ⟨τ, h, σa, R, S, F⟩ => tE.step' R S F fun H1 τ1 h1 w v n r F1 => ?_
  split at F1
  · rename_i x ev
    split at F1
    · rename_i hs
      obtain ⟨f, _, _, hz⟩ := shown_ok hs
      refine ⟨v, x, rfl, hs, (r.view n.r ev).dp Gd.hK f, tE.step' n.r n.s F1 fun H2 τ2 h2 w2 v2 n2 r2 F2 => ?_⟩
      unfold rcR at F2
      split at F2
      · rename_i y ev2
        split at F2
        · rename_i hc
          rw [Bool.and_eq_true] at hc
          obtain ⟨f2, _, _, hz2⟩ := shown_ok hc.1
          have e := same_eq hc.2
          subst e
          refine ⟨v2, x, rfl, hc.1, (r2.view n2.r ev2).dp Gd.hK f2, shc x, by rw [← txt_len, txt_shc]; exact hz, by rw [txt_shc], by rw [txt_shc], F2.bl n2.r⟩
        · exact F2.elim
      · exact F2.elim
    · exact F1.elim
  · exact F1.elim
end
end Pe

set_option linter.all false
set_option maxRecDepth 100000
set_option maxHeartbeats 4000000
namespace Pe
open PySem PySem.Spec PyProof.Rows L2
/-! ### dicts made -/
inductive KVk (G : Cfg) (H : Hp) (T : Addr → Prop) : List D → List D → List (Key × V) → Prop
  | nil : KVk G H T [] [] []
  | cons {k d : D} {ks ds : List D} {v : V} {r : List (Key × V)} : kc k = 1 → RD G H T k (kV (sk k)) → RD G H T d v → KVk G H T ks ds r → KVk G H T (k :: ks) (d :: ds) ((sk k, v) :: r)
def dmerge : List D → List D → List D → List D → List D × List D
  | ks, vs, x :: xs, y :: ys => dmerge (dput ks vs x y).1 (dput ks vs x y).2 xs ys
  | ks, vs, _, _ => (ks, vs)
section
variable {X : Cx} {g : Rg} {σ : St} {H : Hp} {τ : List Addr} {h : Hh} {G : Cfg} {T : Addr → Prop}
theorem KVk.keys : ∀ {ks ds : List D} {r : List (Key × V)}, KVk G H T ks ds r → (∀ k ∈ ks, kc k = 1) ∧ r.map (·.1) = ks.map sk ∧ ks.length = ds.length
  | _, _, _, .nil => ⟨(fun _ h => by cases h), rfl, rfl⟩
  | _, _, _, .cons a b c d => by
    obtain ⟨h1, h2, h3⟩ := d.keys
    refine ⟨fun k hk => ?_, by rw [List.map_cons, List.map_cons, h2], by rw [List.length_cons, List.length_cons, h3]⟩
    rcases List.mem_cons.mp hk with e | hk
    · rw [e]; exact a
    · exact h1 k hk
theorem KVk.snoc : ∀ {ks ds : List D} {r : List (Key × V)}, KVk G H T ks ds r → ∀ {k d : D} {v : V}, kc k = 1 → RD G H T k (kV (sk k)) → RD G H T d v → KVk G H T (ks ++ [k]) (ds ++ [d]) (r ++ [(sk k, v)])
  | _, _, _, .nil, _, _, _, a, b, c => .cons a b c .nil
  | _, _, _, .cons a b c d, _, _, _, a', b', c' => .cons a b c (d.snoc a' b' c')
theorem KVk.repl {x y : D} {v : V} (hx : kc x = 1) (ry : RD G H T y v) : ∀ {ks ds : List D} {r : List (Key × V)}, KVk G H T ks ds r →
    KVk G H T ks (List.zipWith (fun k u => if eqv k x then y else u) ks ds) (r.map fun kv => if kv.1 = sk x then (kv.1, v) else kv)
  | _, _, _, .nil => .nil
  | _, _, _, .cons (k := k) a b c d => by
    rw [List.zipWith_cons_cons, List.map_cons, eqv_sk a hx]
    have ih := KVk.repl hx ry d
    by_cases q : sk k = sk x
    · rw [if_pos (decide_eq_true q), if_pos q]; exact .cons a b ry ih
    · rw [if_neg (by simp [q]), if_neg q]; exact .cons a b c ih
theorem KVk.any {x : D} (hx : kc x = 1) : ∀ {ks ds : List D} {r : List (Key × V)}, KVk G H T ks ds r → dhas ks x = r.any fun kv => decide (kv.1 = sk x)
  | _, _, _, .nil => rfl
  | _, _, _, .cons (k := k) a b c d => by
    have ih := KVk.any hx d
    unfold dhas at ih ⊢
    rw [List.any_cons, List.any_cons, eqv_sk a hx, ih]
theorem KVk.put {x y : D} {v : V} (hx : kc x = 1) (rx : RD G H T x (kV (sk x))) (ry : RD G H T y v) {ks ds : List D} {r : List (Key × V)} (q : KVk G H T ks ds r) : KVk G H T (dput ks ds x y).1 (dput ks ds x y).2 (putK r (sk x) v) := by
  unfold dput putK
  rw [q.any hx]
  split
  · exact q.repl hx ry
  · exact q.snoc hx rx ry
theorem KVk.merge : ∀ {xs ys : List D} {more : List (Key × V)} {ks ds : List D} {r : List (Key × V)}, KVk G H T xs ys more → KVk G H T ks ds r → KVk G H T (dmerge ks ds xs ys).1 (dmerge ks ds xs ys).2 (mergeK r more)
  | [], ys, _, _, _, _, m, q => by cases m; unfold dmerge; exact q
  | x :: xs, _, _, _, _, _, m, q => by
    cases m with
    | cons a b c d =>
      unfold dmerge
      have z := KVk.merge d (q.put a b c)
      exact z
theorem KVk.kvr : ∀ {ks ds : List D} {r : List (Key × V)} {vs : List (Key × Value)}, KVk G H T ks ds r → KV r vs → KVr G H T ks ds vs
  | [], _, _, _, m, kv => by cases m; cases kv; exact .nil
  | k :: ks, _, _, _, m, kv => by
    cases m with
    | cons a b c d =>
      cases kv with
      | @cons p q ps qs h t =>
        obtain ⟨q1, q2⟩ := q
        obtain ⟨e1, l⟩ := h
        have e1 : sk k = q1 := e1
        subst e1
        exact .cons a b l c (KVk.kvr d t)
/-- a dict of the library's, told by its entries -/
theorem dk_conv {pins : List (Addr × Obj)} {s : Shared} (hw : G.w = X.w) {H1 : Hp} (I : Inv X pins σ H1 s) {p : Addr} {kvs : List (Key × V)} {ks ds : List D} (e : H1 p = some (.dK kvs)) (q : KVk G H T ks ds kvs) :
    ∃ E, Inv X pins σ (upd H1 p (dO p E)) s ∧ E.length ≤ sizeLine ∧ KOk ks ∧ RDe G H T ks ds E := by
  obtain ⟨hz, hd, vs, kv, o, es, ep, h1, h2, h3, h4, h5, h6⟩ := (show ObjOk X.prog X.w H1 s.heap p (.dK kvs) from I.hok p _ e)
  have r := (q.kvr kv).back hw h5 fun z hz => h4 z (Array.mem_toList_iff.mp hz)
  obtain ⟨k1, k2, k3⟩ := q.keys
  refine ⟨es.toList, I.write (x := p) (e := p) (t' := s.toks) (by rw [e]; exact True.intro) (.inl rfl) (fun b o _ z => z) ⟨o, h1⟩ (dO_ok hd h1 h2 h3), ?_, ⟨?_, fun k hk => key1 (k1 k hk)⟩, r⟩
  · rw [← r.len.1]
    have := congrArg List.length k2
    rw [List.length_map, List.length_map] at this
    rw [← this]
    exact hz
  · have ek : vs.map (·.1) = ks.map sk := by
      rw [← k2]
      have : ∀ {a : List (Key × V)} {b : List (Key × Value)}, KV a b → b.map (·.1) = a.map (·.1) := by
        intro a b z
        unfold KV at z
        induction z with
        | nil => rfl
        | cons a b ih => rw [List.map_cons, List.map_cons, a.1, ih]
      exact this kv
    rw [ek] at h6
    have en : ks.map nk = (ks.map sk).map skN := by
      rw [List.map_map]
      exact List.map_congr_left fun k hk => nk_sk (k1 k hk)
    rw [en]
    exact List.Pairwise.map skN (fun a b hab z => hab (skN_inj z)) h6
/-- a dict at a new place -/
theorem Fin.dic0 {ks ds : List D} {E : List DictEntry} {p : Addr} {Q : VK} (R : HR g.G H τ h) (F : Fin g σ H τ h (.ok (.r h.length) (h ++ [.dic ks ds])) Q) (n : H p = none) (r : RDe g.G H (Trk τ h) ks ds E) (z : E.length ≤ sizeLine) (ko : KOk ks) : Q (.ref p) (upd H p (dO p E)) := by
  have gr : Grow (Trk τ h) H (Trk (τ ++ [p]) (h ++ [.dic ks ds])) (upd H p (dO p E)) := ⟨fun a v e _ _ => by rw [upd_ne (ne_of_none e n)]; exact e, fun a t => (trk_push R.len t).imp id fun e => by rw [e]; exact fun o q => by rw [n] at q; cases q⟩
  obtain ⟨e, R', w⟩ := R.alloc (o := .dic ks ds) (u := dO p E) n (fun _ q => nomatch q) (.dic upd_same ⟨z, ko⟩ (r.grow R.noTup gr))
  exact F _ _ _ e R' w
/-! dict(a tuple of pairs) -/
theorem tupleX {pins : List (Addr × Obj)} {σ : St} {s : Shared} (I : Inv X pins σ H s) {a : Addr} {xs : List V} (h : TpX X.K H a xs) : ∃ its : List Value, Vals xs its ∧ PySem.PlainSeq "tuple" s.heap a its.toArray ∧ xs.length ≤ sizeLine := by
  rcases h with ⟨its, h⟩ | ⟨o, its, n, e1, e2, e3, e4, e5, r⟩
  · obtain ⟨e, z, its', r, o', e', c', n', d'⟩ := (show ObjOk X.prog X.w H s.heap a (xT its xs) from I.hok a _ h)
    rw [e] at e'
    cases e'
    have d2 : Data.seq its 0 = Data.seq its'.toArray n' := d'
    cases d2
    exact ⟨its', r, ⟨_, _, e, rfl, rfl, rfl⟩, z⟩
  · refine ⟨its.toList, r, ⟨o, n, I.kIn a o e1, e2, e3, by simpa using e4⟩, ?_⟩
    have e := r.length
    simp only [Array.length_toList] at e
    omega
theorem pairs_raw {pins : List (Addr × Obj)} {σ : St} {H : Hp} {s : Shared} (I : Inv X pins σ H s) : ∀ {ps : List Addr} {kvs : List (Key × V)}, Paired (fun p kv => SqT X.K H p [kV kv.1, kv.2]) ps kvs →
    ∃ (prs : List (Key × Value)) (raw : List (Value × Value)), KV kvs prs ∧ prs.length = ps.length ∧ raw.length = ps.length ∧ ∀ (j : Nat) (k v : Value), raw[j]? = some (k, v) → ∃ (b : Addr) (q : Key), ps[j]? = some b ∧ prs[j]? = some (q, v) ∧ IsTup s.heap b #[k, v] ∧ keyIs q k = true
  | _, _, .nil => ⟨[], [], .nil, rfl, rfl, fun j k v e => by simp at e⟩
  | _, _, .cons (a := p) (b := kv) h t => by
    obtain ⟨prs, raw, r, hl, hl2, hp⟩ := pairs_raw I t
    obtain ⟨its, rv, ht, _⟩ := I.tuple h
    obtain ⟨u, y, ei, ru, ry⟩ := vals2 rv
    subst ei
    refine ⟨(kv.1, y) :: prs, (u, y) :: raw, .cons ⟨rfl, ry⟩ r, by rw [List.length_cons, List.length_cons, hl], by rw [List.length_cons, List.length_cons, hl2], fun j k v e => ?_⟩
    cases j with
    | zero =>
      have e' : (u, y) = (k, v) := Option.some.inj e
      cases e'
      exact ⟨p, kv.1, rfl, rfl, ht, kV_is (P := X.prog) (w := X.w) ru⟩
    | succ j =>
      obtain ⟨b, q, e1, e2, e3⟩ := hp j k v (by simpa using e)
      exact ⟨b, q, by simpa using e1, by simpa using e2, e3⟩
theorem call_dictPT (hcalm : X.calm = true) : CallR X (.type "dict") (fun xs H Q => ∃ (a : Addr) (ps : List Addr) (kvs : List (Key × V)), xs = [.ref a] ∧ TpX X.K H a (ps.map V.ref) ∧ Paired (fun p kv => SqT X.K H p [kV kv.1, kv.2]) ps kvs ∧
    ∀ p, H p = none → Q (.ref p) (upd H p (.dK (mergeK [] kvs)))) := by
  intro pins s σ H xs us Q I r q
  obtain ⟨a, ps, kvs, ex, hq, hp, q⟩ := q
  subst ex
  obtain ⟨u, eu, rx⟩ := vals1 r
  subst eu
  cases rx
  obtain ⟨its, rv, pl, hz⟩ := tupleX I hq
  have ei := refs_at rv
  subst ei
  rw [List.length_map] at hz
  obtain ⟨prs, raw, rel, hl, hl2, hpr⟩ := pairs_raw I hp
  refine PySem.call_dict_pairs (knd := mixKind X.prog X.w) (kvs := prs) (PySem.PairArg.tuple a (ps.map Value.ref).toArray (fun j => ps.getD j 0) raw) (I.ok.hd hcalm) ⟨pl, ?_, fun j k v e => ?_⟩ ⟨by rw [hl, hl2], fun i k v e => ?_⟩ (by rw [hl2]; exact hz) fun h' tk hd' k => ?_
  · rw [List.size_toArray, List.length_map, hl2]
  · obtain ⟨b, q', e1, e2, e3, e4⟩ := hpr j k v e
    have eg : ps.getD j 0 = b := by rw [List.getD_eq_getElem?_getD, e1]; rfl
    exact ⟨by simp [e1], .inl (by show s.heap.IsTuple (ps.getD j 0) _; rw [eg]; exact e3)⟩
  · obtain ⟨b, q', e1, e2, e3, e4⟩ := hpr i k v e
    exact ⟨q', e2, e4⟩
  · have hm : (s.heap.objs.size == sysModules) = false := beq_eq_false_iff_ne.mpr (Nat.ne_of_gt I.big)
    have hlen : (mergeK [] kvs).length ≤ sizeLine := by
      refine Nat.le_trans (length_mergeK kvs []) ?_
      rw [List.length_nil, Nat.zero_add, rel.length, hl]
      exact hz
    exact ⟨.ref s.heap.objs.size, upd H s.heap.objs.size (.dK (mergeK [] kvs)), I.laid (t' := tk) (fun b o e => k b o (fun z => nomatch z) e) (Nat.le_refl _) (show ObjOk X.prog X.w _ _ _ (.dK (mergeK [] kvs)) from ⟨hlen, hm, merged [] prs, KV.merge rel .nil, hd'⟩), rfl, q _ (I.hok.fresh (Nat.le_refl _))⟩
/-! dict(pairs) -/
def prs : List D → Option (List D × List D)
  | [] => some ([], [])
  | .tup [k, v] :: r => match prs r with
    | some (ks, vs) => some (k :: ks, v :: vs)
    | none => none
  | _ => none
theorem dput_len (ks vs : List D) (x y : D) : (dput ks vs x y).1.length ≤ ks.length + 1 := by
  unfold dput
  split
  · exact Nat.le_succ _
  · simp
theorem dmerge_len : ∀ (xs ys ks vs : List D), (dmerge ks vs xs ys).1.length ≤ ks.length + xs.length
  | [], ys, ks, vs => by unfold dmerge; exact Nat.le_refl _
  | x :: xs, [], ks, vs => by unfold dmerge; exact Nat.le_add_right _ _
  | x :: xs, y :: ys, ks, vs => by
    unfold dmerge
    have a := dmerge_len xs ys (dput ks vs x y).1 (dput ks vs x y).2
    have b := dput_len ks vs x y
    rw [List.length_cons]
    omega
/-- .. whose keys are tuples -/
theorem pairs_N {pins : List (Addr × Obj)} {σ : St} {s : Shared} (hK : G.K = X.K) (I : Inv X pins σ H s) : ∀ {xs ks ds : List D} {vs : List V} {us : List Value}, prs xs = some (ks, ds) → (∀ k ∈ ks, kc k = 2) → RDs G H T xs vs → Vals vs us →
    ∃ (ps : List (NestedKey × Addr × Value)) (Ts : List Addr), us = Ts.map Value.ref ∧ Ts.length = ps.length ∧ KVn G H T ks ds ps ∧ ∀ (j : Nat) (p : NestedKey × Addr × Value), ps[j]? = some p → ∃ t, Ts[j]? = some t ∧ IsTup s.heap t #[.ref p.2.1, p.2.2]
  | [], ks, ds, vs, us, e, hc, r, rv => by
    cases e; cases r; cases rv
    exact ⟨[], [], rfl, rfl, .nil, fun j p e => by simp at e⟩
  | x :: xs, ks, ds, vs, us, e, hc, r, rv => by
    unfold prs at e
    split at e
    · cases ‹x :: xs = []›
    · rename_i k v r0 heq
      cases heq
      split at e
      · rename_i k0 v0 e2
        cases e
        cases r with
        | cons a b =>
          cases rv with
          | cons rv1 rv2 =>
            obtain ⟨ps, Ts, e3, e4, e5, e6⟩ := pairs_N hK I e2 (fun k hk => hc k (List.mem_cons_of_mem _ hk)) b rv2
            obtain ⟨p, us0, rfl, t, z, l⟩ := a.tup_
            cases rv1
            cases l with
            | @cons _ _ v1 _ l1 l2 =>
              cases l2 with
              | cons l2 l3 =>
                cases l3
                rw [hK] at t
                obtain ⟨its, rw_, it, _⟩ := I.tuple t
                obtain ⟨u, y, ei, ru, ry⟩ := vals2 rw_
                subst ei
                have c1 := hc k List.mem_cons_self
                obtain ⟨kb, ekb⟩ : ∃ kb, v1 = V.ref kb := by
                  cases l1 <;> first | exact ⟨_, rfl⟩ | (exfalso; simp [kc] at c1; done)
                subst ekb
                cases ru
                refine ⟨(nk k, kb, y) :: ps, p :: Ts, by rw [e3]; rfl, by rw [List.length_cons, List.length_cons, e4], .cons l1 ry l2 e5, fun j q e => ?_⟩
                cases j with
                | zero =>
                  have e' : (nk k, kb, y) = q := Option.some.inj e
                  cases e'
                  exact ⟨p, rfl, it⟩
                | succ j => exact e6 j q (by simpa using e)
      · cases e
    · cases e
theorem KVn.merge : ∀ {xs ys : List D} {ps : List (NestedKey × Addr × Value)}, KVn G H T xs ys ps → ∀ {ks vs : List D} {r : List (NestedKey × Addr × Value)}, KVn G H T ks vs r → KOk ks → (∀ k ∈ xs, isKey 8 k = true) →
    KVn G H T (dmerge ks vs xs ys).1 (dmerge ks vs xs ys).2 (PySem.storedAllH r ps) ∧ KOk (dmerge ks vs xs ys).1
  | _, _, _, .nil, ks, vs, r, q, ko, _ => ⟨q, ko⟩
  | _, _, _, .cons (k := x) a b c d, ks, vs, r, q, ko, hk => by
    unfold dmerge
    have ix := hk x List.mem_cons_self
    exact KVn.merge d (q.put ix a b c ko.2) (kok_put ko ix) fun k h => hk k (List.mem_cons_of_mem _ h)
theorem KVn.key {pins : List (Addr × Obj)} {σ : St} {s : Shared} (hK : G.K = X.K) (I : Inv X pins σ H s) : ∀ {xs ys : List D} {ps : List (NestedKey × Addr × Value)}, KVn G H T xs ys ps → (∀ k ∈ xs, kc k = 2 ∧ isKey 8 k = true) → ∀ p ∈ ps, (nestedKind X.prog X.w).is s.heap p.1 p.2.1
  | _, _, _, .nil, _, p, hp => nomatch hp
  | _, _, _, .cons (k := x) a b c d, hk, p, hp => by
    rcases List.mem_cons.mp hp with e | hp
    · obtain ⟨h1, h2⟩ := hk x List.mem_cons_self
      obtain ⟨b, eb, kb⟩ := keyN hK I h1 h2 a (show RelV _ (.ref _) from rfl)
      cases eb
      rw [e]
      exact kb
    · exact KVn.key hK I d (fun k h => hk k (List.mem_cons_of_mem _ h)) p hp
theorem KVn.len : ∀ {xs ys : List D} {ps : List (NestedKey × Addr × Value)}, KVn G H T xs ys ps → xs.length = ps.length
  | _, _, _, .nil => rfl
  | _, _, _, .cons _ _ _ d => by rw [List.length_cons, List.length_cons, d.len]
theorem roomN2 {P : Program} {w : World} {A : Around} (hu : A.units + 200 < cLine) : (nestedKind P w).room A.in1.in1 := by
  show A.units + 1 + 1 + 8 < cLine
  omega
theorem dictN_core {pins : List (Addr × Obj)} {σ : St} {s : Shared} {Ty : String} {a : Addr} {fp : List Addr} {OK : Heap → Prop} {E0 : Value → Shared → Prop} {xs ys : List D} {ps : List (NestedKey × Addr × Value)} {Q : Value → Shared → Prop} (hK : G.K = X.K) (hw : G.w = X.w) (hc : X.calm = true) (hu : X.A.units + 200 < cLine) (I : Inv X pins σ H s)
    (P : PySem.PairArg X.prog X.w Ty a fp [] (ps.map fun p => (Value.ref p.2.1, p.2.2)).length (PySem.PairRel (ps.map fun p => (Value.ref p.2.1, p.2.2))) OK) (ok : OK s.heap) (q : KVn G H T xs ys ps) (hk : ∀ k ∈ xs, kc k = 2 ∧ isKey 8 k = true) (hz : ps.length ≤ sizeLine)
    (k : ∀ E s' p, Inv X pins σ (upd H p (dO p E)) s' → H p = none → RDe G H T (dmerge [] [] xs ys).1 (dmerge [] [] xs ys).2 E → E.length ≤ sizeLine → KOk (dmerge [] [] xs ys).1 → Q (.ref p) s') : wpAny (model X.prog X.w) X.A (call (.type "dict") [.ref a]) Q E0 s := by
  refine PySem.call_dict_pairsH (knd := nestedKind X.prog X.w) (ps := ps) P (I.ok.hd hc) (roomN2 hu) ok ⟨by rw [List.length_map], fun i key v e => ?_⟩ (fun h' hk' p hp => ?_) (by rw [List.length_map]; exact hz) fun h' tk hd' hk' => ?_
  · have e' : (ps.map fun p => (Value.ref p.2.1, p.2.2))[i]? = some (key, v) := e
    rw [List.getElem?_map] at e'
    cases e2 : ps[i]? with
    | none => rw [e2] at e'; cases e'
    | some p =>
      rw [e2] at e'
      cases e'
      exact ⟨p.1, p.2.1, rfl, rfl⟩
  · exact KVn.key hK (I.kept (h' := h') (t' := s.toks) fun b o e => hk' b o (Nat.ne_of_lt (Heap.lt_size e)) (fun z => nomatch z) e) q hk p hp
  · obtain ⟨m1, m2⟩ := KVn.merge q (.nil : KVn G H T [] [] []) ⟨List.nodup_nil, fun _ h => nomatch h⟩ fun k h => (hk k h).2
    obtain ⟨o, es, ep, h1, h2, h3, h4, _, h6⟩ := hd'
    have rd := m1.back (P := X.prog) hw
    rw [← h4] at rd
    have hm : (s.heap.objs.size == sysModules) = false := beq_eq_false_iff_ne.mpr (Nat.ne_of_gt I.big)
    refine k es.toList _ _ (I.laid (t' := tk) (o := dO s.heap.objs.size es.toList) (fun b o e => hk' b o (fun z => nomatch z) e) (Nat.le_refl _) (dO_ok hm h1 h2 h3)) (I.hok.fresh (Nat.le_refl _)) rd ?_ m2
    rw [← rd.len.1]
    exact Nat.le_trans (dmerge_len xs ys [] []) (by rw [List.length_nil, Nat.zero_add, q.len]; exact hz)
def bDict : OpL := fun ds h => match ds with
  | [.lst xs] => match prs xs with
    | some (ks, vs) => if (ks.all fun k => kc k == 1) || (ks.all fun k => kc k == 2 && isKey 8 k) then .ok (.r h.length) (h ++ [.dic (dmerge [] [] ks vs).1 (dmerge [] [] ks vs).2]) else .no
    | none => .no
  | [.tup xs] => match prs xs with
    | some (ks, vs) => if (ks.all fun k => kc k == 1) || (ks.all fun k => kc k == 2 && isKey 8 k) then .ok (.r h.length) (h ++ [.dic (dmerge [] [] ks vs).1 (dmerge [] [] ks vs).2]) else .no
    | none => .no
  | _ => .no
theorem prs_ok {K : PySem.W.Frag} (hK : G.K = K) : ∀ {xs ks ds : List D} {vs : List V}, prs xs = some (ks, ds) → (∀ k ∈ ks, kc k = 1) → RDs G H T xs vs → ∃ (ps : List Addr) (kvs : List (Key × V)), vs = ps.map V.ref ∧ Paired (fun p kv => SqT K H p [kV kv.1, kv.2]) ps kvs ∧ KVk G H T ks ds kvs
  | [], ks, ds, vs, e, hc, r => by
    cases e; cases r
    exact ⟨[], [], rfl, .nil, .nil⟩
  | x :: xs, ks, ds, vs, e, hc, r => by
    unfold prs at e
    split at e
    · cases ‹x :: xs = []›
    · rename_i k v r0 heq
      cases heq
      split at e
      · rename_i ks2 vs2 e2
        cases e
        cases r with
        | cons a b =>
          obtain ⟨ps, kvs, e3, e4, e5⟩ := prs_ok hK e2 (fun k hk => hc k (List.mem_cons_of_mem _ hk)) b
          obtain ⟨p, us, rfl, t, z, l⟩ := a.tup_
          · cases l with
            | cons l1 l2 =>
              cases l2 with
              | cons l2 l3 =>
                cases l3
                have c1 := hc k List.mem_cons_self
                have ek := rel_sk c1 l1
                subst ek
                refine ⟨p :: ps, (sk k, _) :: kvs, by rw [e3]; rfl, .cons (by rw [← hK]; exact t) e4, .cons c1 l1 l2 e5⟩
      · cases e
    · cases e
theorem VW.prs_tup {v : V} {xs ks ds : List D} (r : VW G H T (.tup xs) v) (e : prs xs = some (ks, ds)) : ∃ a vs, v = .ref a ∧ TpX G.K H a vs ∧ vs.length ≤ sizeLine ∧ RDs G H T xs vs := by
  cases r.rd_tup with
  | tup a b c => exact ⟨_, _, rfl, a, b, c⟩
  | tupS a b q c =>
    exfalso
    unfold pairS at q
    split at q
    · cases q
    · rename_i x y hn
      unfold prs at e
      split at e
      · rename_i heq; cases heq
      · rename_i k v r0 heq
        cases heq
        exact hn _ rfl
      · cases e
    · cases q
theorem cr_bDict (Gd : Good g X) : CallR X (.type "dict") (rB g (opL bDict)) := by
  intro pins s σ' H xs us Q I r q
  obtain ⟨σ, τ, h, ds, R, vl, F⟩ := q.op
  unfold bDict at F
  split at F
  · rename_i zs
    obtain ⟨v, rfl, va⟩ := vl.one
    obtain ⟨p, vs, rfl, t1, z1, l1⟩ := va.lst_
    split at F
    · rename_i ks vs2 e
      split at F
      · rename_i hc
        rcases Bool.or_eq_true_iff.mp hc with hc | hc
        case inr =>
          have hc' : ∀ k ∈ ks, kc k = 2 ∧ isKey 8 k = true := fun k hk => by simpa using List.all_eq_true.mp hc k hk
          obtain ⟨u, rfl, ru⟩ := vals1 r
          cases ru
          obtain ⟨its, rv, pl, hz⟩ := I.list (SqL.of (K := X.K) t1)
          obtain ⟨ps, Ts, e3, e4, e5, e6⟩ := pairs_N Gd.hK I e (fun k hk => (hc' k hk).1) l1 rv
          subst e3
          have hn : ps.length = Ts.length := e4.symm
          obtain ⟨o, n, ho, hcl, hd, hdat⟩ := pl
          refine dictN_core Gd.hK Gd.hw Gd.calm Gd.hu I (PySem.PairArg.list p (Ts.map Value.ref).toArray (fun j => Ts.getD j 0) (ps.map fun p => (Value.ref p.2.1, p.2.2))) ⟨⟨o, n, ho, hcl, hd, hdat⟩, by rw [List.size_toArray, List.length_map, List.length_map, hn], fun j k v ej => ?_⟩ e5 hc' (by rw [hn]; have := rv.length; rw [List.length_map] at this; rw [← this]; exact hz) fun E s2 p0 J n0 rd z ko => ⟨.ref p0, _, J, rfl, Fin.dic0 R F n0 rd z ko⟩
          rw [List.getElem?_map] at ej
          cases e2 : ps[j]? with
          | none => rw [e2] at ej; cases ej
          | some q =>
            rw [e2] at ej
            cases ej
            obtain ⟨t, et, it⟩ := e6 j q e2
            have eg : Ts.getD j 0 = t := by rw [List.getD_eq_getElem?_getD, et]; rfl
            exact ⟨by simp [et], .inl (by show s.heap.IsTuple (Ts.getD j 0) _; rw [eg]; exact it)⟩
        obtain ⟨ps, kvs, e1, e2, e3⟩ := prs_ok (K := X.K) Gd.hK e (fun k hk => by simpa using List.all_eq_true.mp hc k hk) l1
        subst e1
        refine thn (call_dictP Gd.calm pins s σ' H _ us (fun v H' => ∃ p, v = .ref p ∧ H p = none ∧ H' = upd H p (.dK (mergeK [] kvs))) I r ⟨p, ps, kvs, rfl, .of t1, e2, fun p0 n0 => ⟨p0, rfl, n0, rfl⟩⟩) fun u s' ⟨v, H', I', rv, p0, ev, n0, eH⟩ => ?_
        subst ev eH
        obtain ⟨E, J, z, ko, rd⟩ := dk_conv Gd.hw I' upd_same (KVk.merge e3 .nil)
        rw [upd_upd] at J
        exact ⟨.ref p0, _, J, rv, Fin.dic0 R F n0 rd z ko⟩
      · exact F.elim
    · exact F.elim
  · rename_i zs
    obtain ⟨v, rfl, va⟩ := vl.one
    split at F
    · rename_i ks vs2 e
      split at F
      · rename_i hc
        rcases Bool.or_eq_true_iff.mp hc with hc | hc
        case inr =>
          have hc' : ∀ k ∈ ks, kc k = 2 ∧ isKey 8 k = true := fun k hk => by simpa using List.all_eq_true.mp hc k hk
          obtain ⟨p, vs, rfl, t1, z1, l1⟩ := va.prs_tup e
          rw [Gd.hK] at t1
          obtain ⟨u, rfl, ru⟩ := vals1 r
          cases ru
          obtain ⟨its, rv, pl, hz⟩ := tupleX I t1
          obtain ⟨ps, Ts, e3, e4, e5, e6⟩ := pairs_N Gd.hK I e (fun k hk => (hc' k hk).1) l1 rv
          subst e3
          have hn : ps.length = Ts.length := e4.symm
          refine dictN_core Gd.hK Gd.hw Gd.calm Gd.hu I (PySem.PairArg.tuple p (Ts.map Value.ref).toArray (fun j => Ts.getD j 0) (ps.map fun p => (Value.ref p.2.1, p.2.2))) ⟨pl, by rw [List.size_toArray, List.length_map, List.length_map, hn], fun j k v ej => ?_⟩ e5 hc' (by rw [hn]; have := rv.length; rw [List.length_map] at this; rw [← this]; exact hz) fun E s2 p0 J n0 rd z ko => ⟨.ref p0, _, J, rfl, Fin.dic0 R F n0 rd z ko⟩
          rw [List.getElem?_map] at ej
          cases e2 : ps[j]? with
          | none => rw [e2] at ej; cases ej
          | some q =>
            rw [e2] at ej
            cases ej
            obtain ⟨t, et, it⟩ := e6 j q e2
            have eg : Ts.getD j 0 = t := by rw [List.getD_eq_getElem?_getD, et]; rfl
            exact ⟨by simp [et], .inl (by show s.heap.IsTuple (Ts.getD j 0) _; rw [eg]; exact it)⟩
        obtain ⟨p, vs, rfl, t1, z1, l1⟩ := va.prs_tup e
        rw [Gd.hK] at t1
        obtain ⟨ps, kvs, e1, e2, e3⟩ := prs_ok (K := X.K) Gd.hK e (fun k hk => by simpa using List.all_eq_true.mp hc k hk) l1
        subst e1
        refine thn (call_dictPT Gd.calm pins s σ' H _ us (fun v H' => ∃ p, v = .ref p ∧ H p = none ∧ H' = upd H p (.dK (mergeK [] kvs))) I r ⟨p, ps, kvs, rfl, t1, e2, fun p0 n0 => ⟨p0, rfl, n0, rfl⟩⟩) fun u s' ⟨v, H', I', rv, p0, ev, n0, eH⟩ => ?_
        subst ev eH
        obtain ⟨E, J, z, ko, rd⟩ := dk_conv Gd.hw I' upd_same (KVk.merge e3 .nil)
        rw [upd_upd] at J
        exact ⟨.ref p0, _, J, rv, Fin.dic0 R F n0 rd z ko⟩
      · exact F.elim
    · exact F.elim
  · exact F.elim
end
end Pe

set_option linter.all false
set_option maxRecDepth 100000
set_option maxHeartbeats 4000000
namespace Pe
open PySem PySem.Spec PyProof.Rows L2
/-! ### displays of dicts, list(d.items()) -/
/-- keys and values in turn -/
def unalt : List D → Option (List D × List D)
  | [] => some ([], [])
  | k :: v :: r => match unalt r with
    | some (ks, vs) => some (k :: ks, v :: vs)
    | none => none
  | _ => none
def dctR (ws : List W) (h : Hh) : Rs W := match fzL ws h with
  | some (ds, h') => match unalt ds with
    | some (ks, vs) => if (ks.all fun k => kc k == 1) then .ok (.r h'.length) (h' ++ [.dic (dmerge [] [] ks vs).1 (dmerge [] [] ks vs).2]) else .no
    | none => .no
  | none => .no
def itemsR (w : W) (h : Hh) : Rs W := match w.val h with
  | some (.dic ks vs) => if (ks.all fun k => kc k == 1) then .ok (.r h.length) (h ++ [.lst (List.zipWith (fun k v => .tup [k, v]) ks vs)]) else .no
  | _ => .no
section
variable {X : Cx} {g : Rg} {σ : St} {H : Hp} {τ : List Addr} {h : Hh} {G : Cfg} {T : Addr → Prop} {pos : Pos}
/-- an expression whose dict, made by the library's rule, is told anew -/
theorem pe_told (Gd : Good g X) {e : Expr} {t t' : TE} (p : PE X e t) (k : ∀ σ H Q, t' σ H Q → t σ H fun v H1 => ∃ (a : Addr) (kvs : List (Key × V)) (H0 : Hp) (T : Addr → Prop) (ks ds : List D), v = .ref a ∧ H1 a = some (.dK kvs) ∧ KVk g.G H0 T ks ds kvs ∧
    ∀ E, RDe g.G H0 T ks ds E → E.length ≤ sizeLine → KOk ks → Q (.ref a) (upd H1 a (dO a E))) : PE X e t' := by
  refine ⟨fun pins s σ H Q I q => thn (p.run pins s σ H _ I (k σ H Q q)) fun u s' ⟨v, H1, I1, rv, a, kvs, H0, T, ks, ds, ev, e1, q1, q2⟩ => ?_⟩
  subst ev
  obtain ⟨E, J, z, ko, rd⟩ := dk_conv Gd.hw I1 e1 q1
  exact ⟨.ref a, _, J, rv, q2 E rd z ko⟩
theorem pe_mD0 (Gd : Good g X) : PE X (.Dict [] [] pos) (tE g (mArg dctR mNil)) := pe_told Gd pe_dnewK fun σ H Q ⟨τ, h, σa, R, S, F⟩ p n => by
  refine ⟨p, [], H, Trk τ h, [], [], rfl, upd_same, .nil, fun E rd z ko => ?_⟩
  rw [upd_upd]
  exact Fin.dic0 R F n rd z ko
/-- pairs of expressions -/
inductive MPs where
  | nil | cons (k v : M) (l : MPs)
def MPs.flat : MPs → ML
  | .nil => mNil
  | .cons k v l => mCons k (mCons v l.flat)
inductive PPm (X : Cx) (g : Rg) : List (Option Expr) → List Expr → MPs → Prop
  | nil : PPm X g [] [] .nil
  | cons {k v : Expr} {ks : List (Option Expr)} {vs : List Expr} {mk mv : M} {l : MPs} : PE X k (tE g mk) → PE X v (tE g mv) → PPm X g ks vs l → PPm X g (some k :: ks) (v :: vs) (.cons mk mv l)
def MPs.trs (g : Rg) : MPs → List (TE × TE)
  | .nil => []
  | .cons k v l => (tE g k, tE g v) :: l.trs g
theorem PPm.pps {ks : List (Option Expr)} {vs : List Expr} {l : MPs} (p : PPm X g ks vs l) : PPs X pos ks vs (l.trs g) ∧ ks.all (·.isSome) = true ∧ ks.length = vs.length := by
  induction p with
  | nil => exact ⟨pps_nil, rfl, rfl⟩
  | cons a b c ih => exact ⟨pps_cons a b ih.1, by simpa using ih.2.1, by simpa using ih.2.2⟩
def pairs2 : List (V × V) → List V
  | [] => []
  | (a, b) :: r => a :: b :: pairs2 r
def MPs.len : MPs → Nat
  | .nil => 0
  | .cons _ _ l => l.len + 1
theorem PPm.len {ks : List (Option Expr)} {vs : List Expr} {l : MPs} (p : PPm X g ks vs l) : ks.length = l.len := by
  induction p with
  | nil => rfl
  | cons a b c ih => rw [List.length_cons, ih]; rfl
theorem tPairs_of : ∀ (l : MPs) {σ : St} {H : Hp} {τ : List Addr} {h : Hh} {σa : Sl} {f : List W → Hh → Rs W} {Q : VK} {Q1 : List (V × V) → Hp → Prop}, HR g.G H τ h → SR g.G H τ h σa σ → Fin g σ H τ h ((l.flat σa h).bind f) Q →
    (∀ H1 τ1 h1 ws ps, Nxt g σ σa H τ h H1 τ1 h1 → RWs g.G H1 τ1 h1 ws (pairs2 ps) → ps.length = l.len → l.flat σa h = .ok ws h1 → Q1 ps H1) → tPairs (l.trs g) σ H Q1
  | .nil, σ, H, τ, h, σa, f, Q, Q1, R, S, F, k => k H τ h [] [] ⟨Ext.refl, R, S⟩ .nil rfl rfl
  | .cons a b l, σ, H, τ, h, σa, f, Q, Q1, R, S, F, k => by
    have e0 : (MPs.cons a b l).flat σa h = ((a σa h).bind fun x h1 => ((b σa h1).bind fun y h2 => (l.flat σa h2).bind fun r h3 => .ok (y :: r) h3).bind fun r h2 => .ok (x :: r) h2) := rfl
    rw [e0] at F
    cases ea : a σa h with
    | no => rw [ea] at F; exact absurd F id
    | ex c x h1 =>
      rw [ea] at F
      exact ⟨τ, h, σa, R, S, by rw [ea]; exact F⟩
    | ok x h1 =>
      rw [ea] at F
      refine ⟨τ, h, σa, R, S, ?_⟩
      rw [ea]
      intro τ1 H1 v x1 R1 r1
      have F1 := Fin.ext x1 F
      have S1 := S.grow R x1
      cases eb : b σa h1 with
      | no => simp only [Rs.bind, eb] at F1; exact absurd F1 id
      | ex c y h2 =>
        simp only [Rs.bind, eb] at F1
        exact ⟨τ1, h1, σa, R1, S1, by rw [eb]; exact F1⟩
      | ok y h2 =>
        simp only [Rs.bind, eb] at F1
        refine ⟨τ1, h1, σa, R1, S1, ?_⟩
        rw [eb]
        intro τ2 H2 v2 x2 R2 r2
        have F2 := Fin.ext x2 F1
        have S2 := S1.grow R1 x2
        refine tPairs_of l (f := fun r h3 => f (x :: y :: r) h3) R2 S2 (Q := Q) ?_ fun H3 τ3 h3 ws ps n3 r3 pl el => ?_
        · cases el : l.flat σa h2 with
          | ok r h3 => rw [el] at F2; exact F2
          | ex c z h3 => rw [el] at F2; exact F2
          | no => rw [el] at F2; exact F2
        · refine k H3 τ3 h3 (x :: y :: ws) ((v, v2) :: ps) ⟨(x1.trans x2).trans n3.e, n3.r, n3.s⟩ (.cons ((r1.grow R1 x2).grow R2 n3.e) (.cons (r2.grow R2 n3.e) r3)) (by rw [List.length_cons, pl]; rfl) ?_
          rw [e0, ea]
          simp only [Rs.bind, eb, el]
theorem unalt_ok : ∀ {ps : List (V × V)} {ds ks vs : List D}, unalt ds = some (ks, vs) → (∀ k ∈ ks, kc k = 1) → RDs G H T ds (pairs2 ps) → ∃ kvs : List (Key × V), ps = kvs.map (fun kv => (kV kv.1, kv.2)) ∧ KVk G H T ks vs kvs
  | [], ds, ks, vs, e, hc, r => by
    cases r
    cases e
    exact ⟨[], rfl, .nil⟩
  | (a, b) :: ps, ds, ks, vs, e, hc, r => by
    cases r with
    | cons r1 r2 =>
      cases r2 with
      | cons r2 r3 =>
        unfold unalt at e
        split at e
        · rename_i ks2 vs2 e2
          cases e
          obtain ⟨kvs, e3, q⟩ := unalt_ok e2 (fun k hk => hc k (List.mem_cons_of_mem _ hk)) r3
          have c1 := hc _ List.mem_cons_self
          have ek := rel_sk c1 r1
          subst ek
          exact ⟨(sk _, b) :: kvs, by rw [e3]; rfl, .cons c1 r1 r2 q⟩
        · cases e
theorem putK_ne (kvs : List (Key × V)) (k : Key) (v : V) : putK kvs k v ≠ [] := by
  unfold putK
  split
  · rename_i h
    intro z
    rw [List.map_eq_nil_iff] at z
    subst z
    simp at h
  · simp
theorem mergeK_ne : ∀ (more kvs : List (Key × V)), more ≠ [] ∨ kvs ≠ [] → mergeK kvs more ≠ []
  | [], kvs, h => by
    rcases h with h | h
    · exact absurd rfl h
    · exact h
  | p :: r, kvs, _ => mergeK_ne r (putK kvs p.1 p.2) (.inr (putK_ne _ _ _))
theorem pe_mDct (Gd : Good g X) {ks : List (Option Expr)} {vs : List Expr} {l : MPs} (p : PPm X g ks vs l) (h0 : ks ≠ []) (h15 : ks.length ≤ 15) : PE X (.Dict ks vs pos) (tE g (mArg dctR l.flat)) := by
  obtain ⟨q1, q2, q3⟩ := p.pps (pos := pos)
  refine pe_told Gd (pe_disp q1 q2 q3 h0 h15) fun σ H Q ⟨τ, h, σa, R, S, F⟩ p0 n0 => ?_
  obtain ⟨x1, R1⟩ := R.beside (o := .dK []) n0
  have F : Fin g σ H τ h ((l.flat σa h).bind dctR) Q := F
  refine tPairs_of l R1 (S.grow R x1) (Fin.ext x1 F) fun H1 τ1 h1 ws ps n r pl el => ?_
  rw [el] at F
  have F1 : Fin g σ H τ h (dctR ws h1) Q := F
  unfold dctR at F1
  split at F1
  · rename_i ds h2 ef
    obtain ⟨x2, R2, rd⟩ := fzL_ok n.r r ef
    split at F1
    · rename_i ks2 vs2 eu
      split at F1
      · rename_i hc
        obtain ⟨kvs, ep, q⟩ := unalt_ok eu (fun k hk => by simpa using List.all_eq_true.mp hc k hk) rd
        have at0 : H1 p0 = some (.dK []) := x2.k p0 (n.e.k p0 upd_same)
        have kl : kvs.length ≤ 15 := by
          have : ps.length = kvs.length := by rw [ep, List.length_map]
          rw [← this, pl, ← p.len]
          exact h15
        refine ⟨at0, kvs, ep, kl, p0, mergeK [] kvs, H1, Trk τ1 h2, _, _, rfl, upd_same, KVk.merge q .nil, fun E rd2 z ko => ?_⟩
        rw [upd_upd]
        have nn : ∀ o, H1 p0 = some o → ¬ nK o := fun o e => by
          rw [at0] at e
          cases e
          exact id
        have gr : Grow (Trk τ1 h2) H1 (Trk (τ1 ++ [p0]) (h2 ++ [.dic (dmerge [] [] ks2 vs2).1 (dmerge [] [] ks2 vs2).2])) (upd H1 p0 (dO p0 E)) := ⟨fun a v e k _ => by rw [upd_ne (fun z => nn v (by rw [← z]; exact e) k)]; exact e, fun a t => (trk_push R2.len t).imp id fun e => by rw [e]; exact nn⟩
        obtain ⟨a1, a2, R3, w3⟩ := R2.adopt (o := .dic (dmerge [] [] ks2 vs2).1 (dmerge [] [] ks2 vs2).2) (u := dO p0 E) nn (fun _ q => nomatch q) (.dic upd_same ⟨z, ko⟩ (rd2.grow R2.noTup gr))
        have ex := (x1.trans n.e).trans x2
        exact F1 _ _ _ ⟨ex.g.trans a1, fun i a e => a2 i a (ex.p i a e), fun a e => by
          rw [upd_ne (ne_of_none e n0)]
          exact ex.k a e⟩ R3 w3
      · exact F1.elim
    · exact F1.elim
  · exact F1.elim
end
end Pe

set_option linter.all false
set_option maxRecDepth 100000
set_option maxHeartbeats 4000000
namespace Pe
open PySem PySem.Spec PyProof.Rows L2
/-! ### list(d.items()) -/
section
variable {X : Cx} {g : Rg} {σ : St} {H : Hp} {τ : List Addr} {h : Hh} {G : Cfg} {T : Addr → Prop} {pos p apos cpos : Pos}
theorem KVr.kvk : ∀ {ks ds : List D} {r : List (Key × Value)}, KVr G H T ks ds r → ∃ kvs : List (Key × V), KV kvs r ∧ KVk G H T ks ds kvs ∧ kvs.length = ks.length
  | _, _, _, .nil => ⟨[], .nil, .nil, rfl⟩
  | _, _, _, .cons (k := k) (v := v) a b c d e => by
    obtain ⟨kvs, h1, h2, h3⟩ := e.kvk
    exact ⟨(sk k, v) :: kvs, .cons ⟨rfl, c⟩ h1, .cons a b d h2, by rw [List.length_cons, List.length_cons, h3]⟩
theorem KVk.grow {H' : Hp} {T' : Addr → Prop} (n : NoTup T H) (gr : Grow T H T' H') : ∀ {ks ds : List D} {r : List (Key × V)}, KVk G H T ks ds r → KVk G H' T' ks ds r
  | _, _, _, .nil => .nil
  | _, _, _, .cons a b c d => .cons a (RD.grow n gr b) (RD.grow n gr c) (d.grow n gr)
theorem pair_kc {k v : D} (h : kc k = 1) : pairS [k, v] = true := by
  cases k <;> first | rfl | cases h
theorem KVk.tups : ∀ {ks ds : List D} {kvs : List (Key × V)} {as : List Addr}, KVk G H T ks ds kvs → Paired (fun (t : Addr) (q : Key × V) => H t = some (.tup [kV q.1, q.2])) as kvs → RDs G H T (List.zipWith (fun k v => .tup [k, v]) ks ds) (as.map V.ref)
  | _, _, _, _, .nil, q => by cases q; exact .nil
  | _, _, _, _, .cons a b c d, q => by
    cases q with
    | cons q1 q2 => exact .cons (.tupS (.of q1) (by show 2 ≤ sizeLine; rw [szEq]; decide) (pair_kc a) (.cons b (.cons c .nil))) (d.tups q2)
theorem HR.more (R : HR G H τ h) {H' : Hp} (n : ∀ a o, H a = some o → H' a = some o) : Ext H τ h H' τ h ∧ HR G H' τ h := by
  have g : Grow (Trk τ h) H (Trk τ h) H' := ⟨fun a u e _ _ => n a u e, fun _ t => .inl t⟩
  refine ⟨⟨g, fun _ _ e => e, fun a e => n a _ e⟩, R.len, fun i a u e1 e2 => ?_, R.inj⟩
  have x := R.ob i a u e1 e2
  cases x with
  | lst e z r => exact .lst (n _ _ e) z (r.grow R.noTup g)
  | dic e z r => exact .dic (n _ _ e) z (r.grow R.noTup g)
  | fz r => exact .fz (r.grow R.noTup g)
theorem pe_mLI (Gd : Good g X) {e : Expr} {m : M} (he : PE X e (tE g m)) (hg : Gl X "list") (hm : X.mg "list" = none) (hbase : attributeBase e "items" X.env (eval e X.env) = eval e X.env) (hline : (apos.endLine == cpos.line) = true) :
    PE X (.Call (.Name "list" p) [.Call (.Attribute e "items" apos) [] [] cpos] [] pos) (tE g (mUn itemsR m)) := by
  have hs : starEach [.Call (.Attribute e "items" apos) [] [] cpos] X.env = (false, eval (.Call (.Attribute e "items" apos) [] [] cpos) X.env) :: starEach [] X.env := rfl
  refine ⟨fun pins s σ H Q I hq => ?_⟩
  have hq' : tE g m σ H fun x H1 => ∃ (d : Addr) (ks vs : List D) (E : List DictEntry) (τ1 : List Addr) (h1 : Hh), x = .ref d ∧ H1 d = some (dO d E) ∧ (E.length ≤ sizeLine ∧ KOk ks) ∧ RDe g.G H1 (Trk τ1 h1) ks vs E ∧ (∀ k ∈ ks, kc k = 1) ∧ HR g.G H1 τ1 h1 ∧
      Fin g σ H1 τ1 h1 (.ok (.r h1.length) (h1 ++ [.lst (List.zipWith (fun k v => .tup [k, v]) ks vs)])) Q := by
    obtain ⟨τ, h, σa, R, S, F⟩ := hq
    refine tE.step' R S F fun H1 τ1 h1 w v n r F1 => ?_
    unfold itemsR at F1
    split at F1
    · rename_i ks vs ev
      split at F1
      · rename_i hc
        obtain ⟨d, E, e1, e2, e3, e4⟩ := (r.view n.r ev).dict
        exact ⟨d, ks, vs, E, τ1, h1, e1, e2, e3, e4, fun k hk => by simpa using List.all_eq_true.mp hc k hk, n.r, F1⟩
      · exact F1.elim
    · exact F1.elim
  refine wpAny_Call_Name_kw (ld_blt I hg hm PyProof.Rows.boot_list ?_)
  refine PyProof.Rows.callWith_type1 ?_ hs rfl
  rw [hs]
  show wpAny _ _ (spliced ((false, eval (.Call (.Attribute e "items" apos) [] [] cpos) X.env) :: backTo pos (starEach [] X.env))) _ _ s
  refine Calls.spliced_cons ?_
  refine wpAny_Call_method (T := "dict") (id := "dict.items") hbase rfl hline F.plainAttrs_dict F.slot_dict_items F.type_dict_items (thn (he.run pins s σ H _ I hq') fun u s1 ⟨x, H1, I1, rx, d, ks, ds, E, τ1, h1, ex, hd, ⟨hz, ko⟩, rd, hc, R1, q⟩ => ?_)
  subst ex
  obtain rfl : u = Value.ref d := rx
  have hdo := dictS Gd.hw I1 hd ko hc rd
  obtain ⟨hs0, _⟩ := dob I1 hd
  obtain ⟨kvs, kv, kk, kl⟩ := (rd.kvr ks hc).kvk
  have hz : kvs.length ≤ sizeLine := by rw [kl, rd.len.1]; exact hz
  obtain ⟨ep, hat⟩ := hdo.dictAt
  have lk : kvs.length = (kvsS ks E).length := Paired.length kv
  have I2 : Inv X pins σ H1 { s1 with heap := s1.heap.push { cls := .type "dict_items", data := .fields #[.ref d] } } := I1.kept (t' := s1.toks) fun b ob q => Heap.get?_push_of_some _ q
  refine ⟨hdo.typeIs, hdo.mapOf.noDict, ?_⟩
  show wpAny _ _ (callWith cpos (.builtin "dict.items") [.ref d] [] []) _ X.xe s1
  refine method_meetsIn F.slot_dict_items F.entry_dict_items rfl (PySem.evalArgs_none ⟨rfl, hdo.typeIs, F.args_dict_items_1 _, _, meets_dict_items (mixKind X.prog X.w) d hs0, ⟨_, hdo⟩, ?_⟩)
  refine Calls.spliced_nil ?_
  refine PySem.W.kdx_call (knd := mixKind X.prog X.w) (kvs := kvsS ks E) (ep := ep) (I1.ok.hd Gd.calm) ⟨_, Heap.get?_push_size _ rfl, rfl, rfl⟩ (hat.push _) (by omega) fun h' tk acc c as hk hS hl hG hacc => ?_
  obtain ⟨H', k1, k2, k3, k4, k5, k6, J⟩ := LiI.items_laid (tk := tk) I2 hz kv hk hS hl hG hacc
  refine ⟨.ref _, H', J, rfl, ?_⟩
  generalize (s1.heap.push { cls := .type "dict_items", data := .fields #[.ref d] }).objs.size = S at *
  have off : ∀ a o, H1 a = some o → (fun b => if b = S then none else H' b) a = some o := fun a o e => by
    show (if a = S then none else H' a) = some o
    rw [if_neg (fun z => by rw [z, k2] at e; cases e)]
    exact k1 a o e
  obtain ⟨x1, R2⟩ := R1.more (H' := fun b => if b = S then none else H' b) off
  have k6' : Paired (fun (t : Addr) (q : Key × V) => (fun b => if b = S then none else H' b) t = some (.tup [kV q.1, q.2])) as kvs := by
    have : ∀ {as : List Addr} {kvs : List (Key × V)}, S ∉ as → Paired (fun (t : Addr) (q : Key × V) => H' t = some (.tup [kV q.1, q.2])) as kvs → Paired (fun (t : Addr) (q : Key × V) => (fun b => if b = S then none else H' b) t = some (.tup [kV q.1, q.2])) as kvs := by
      intro as kvs hn q
      induction q with
      | nil => exact .nil
      | @cons a b as bs r t ih =>
        refine .cons ?_ (ih fun z => hn (List.mem_cons_of_mem _ z))
        show (if a = S then none else H' a) = _
        rw [if_neg (fun z => hn (by rw [z]; exact List.mem_cons_self))]
        exact r
    exact this k4 k6
  have eH : upd (fun b => if b = S then none else H' b) S (.lst (as.map V.ref)) = H' := by
    funext b
    by_cases hb : b = S
    · rw [hb, upd_same, k5]
    · rw [upd_ne hb]
      show (if b = S then none else H' b) = H' b
      rw [if_neg hb]
  have fin := Fin.lst (p := S) R2 (Fin.ext x1 q) ((kk.grow R1.noTup x1.g).tups k6') (by rw [List.length_map]; omega) (by show (if S = S then none else H' S) = none; rw [if_pos rfl])
  rw [eH] at fin
  exact fin
end
end Pe

set_option linter.all false
set_option maxRecDepth 100000
set_option maxHeartbeats 4000000
/-! Px, part A: an own exception whose __init__ says super().__init__(x); self.f = x, over any of the built-in bases. -/
namespace Px
open PySem PySem.Spec PySem.W PySem.Calls PyProof.Rows
section
variable {prog : Program} {w : World} {M : Model} {A : Around} {E : Value → Shared → Prop} {h : Heap} {g : Array GenState} {d : Drawn} {t : Nat} {os : OsState}
/-- the bound built-in __init__, called: the args are laid anew -/
theorem call_mw {B newId i : String} {bmB : List Value} {K : Frag} {C e t0 u : Addr} {rest : List Value} {Q : Value → Shared → Prop} (FB : ExcBaseFacts B newId i bmB) (X : K.In h) (q : excInitIn K C bmB newId = true)
    (he : h.get? e = some (excObj C t0 none .none)) (hu : h.get? u = some (kxs_mw i e)) (hrest : rest.length ≤ sizeLine)
    (hq : ∀ h' t1, (∀ b o, b ≠ e → h.get? b = some o → h'.get? b = some o) → h'.get? e = some (excObj C t1 none .none) → Q .none ⟨h', g, d, t, os⟩) :
    wpAny (model prog w) A (call (.ref u) rest) Q E ⟨h, g, d, t, os⟩ := by
  obtain ⟨nm, N', qn, bs, bm, hdct, sn, sub, ab, col, dd, k0, k1, k2, k3, k5, hC, hT⟩ := excInit_of X q
  refine wpAny_call (codeAny_of_tree ?_)
  show wpAny _ A.in1 (callAny (.ref u) ⟨rest, []⟩) _ _ _
  simp only [callAny]
  refine wpAny_bind (wpAny_load hu ?_)
  simp only [kxs_mw, show (Value.type "method-wrapper" == Value.type "method" || Value.type "method-wrapper" == Value.type "builtin_function_or_method" || Value.type "method-wrapper" == Value.type "method-wrapper") = true by decide, if_true]
  refine KFB.if_so (by decide) ?_
  refine wpAny_bind (check_bound_init FB.toExcCallFacts hC he rfl ?_)
  refine wpAny_bind (wpAny_pure (wpAny_pure ?_))
  refine ⟨plainId_quiet FB.init.plain _, codeAny_builtin FB.initEntry ?_⟩
  refine exc_init_tree (cls := .ref C) (t0 := t0) (dv := none) (c2 := .none) (c3 := .none) (b4 := .bool false) he hrest fun h' k e' _ => hq h' _ k e'
open Builtin Builtin.ObjectAttr in
/-- self.f = v on such an exception that has no dict yet -/
theorem store0 {B : String} {bmB : List Value} {K : Frag} {name : Str} {tk : Tok} {v : Value} {x C : Addr} {fv : Array Value} {cd : ClassData} {R : Result → Shared → Prop} (SB : StoreFacts B bmB "object.__setattr__" "object")
    (X : K.In h) (hx : h.get? x = some { cls := .ref C, data := .fields fv }) (hcd : clsIn K C = some cd) (hm : excTail bmB cd.mro = true) (hh : cd.hasDict = true) (ha : findIn K (.ref C) name = some none)
    (hq : ∀ h' tk' dx, (∀ b o, b ≠ x → h.get? b = some o → h'.get? b = some o) → h.objs.size ≤ dx → dx ≠ x → h'.get? x = some { cls := .ref C, dict := some dx, data := .fields fv } →
      h'.Ns1 dx (fun y => if y = name then some v else none) → R (.ok (.ret .none)) ⟨h', g, d, tk', os⟩) :
    codeAny (model prog w) A (.call (.builtin "object.__setattr__") ⟨[.ref x, .str name tk, v], []⟩) R ⟨h, g, d, t, os⟩ := by
  have I : W.InstAt h x { cls := .ref C, data := .fields fv } C none := ⟨hx, rfl, rfl, trivial⟩
  have SF := F.store_object
  have ne : cd.mro.isEmpty = false := by
    cases z : cd.mro with
    | nil =>
      rw [z] at hm
      have e : ([] : List Value) = bmB := beq_iff_eq.mp hm
      have := SB.hasOwner
      rw [← e] at this
      exact absurd this (by decide)
    | cons _ _ => rfl
  have hob : cd.mro.contains (.type "object") = true := (excTail_contains "object" _ hm).trans SB.hasOwner
  have hxs : x ≠ h.objs.size := Nat.ne_of_lt (Heap.lt_size hx)
  have sub : W.Looks (model prog w) h (isInstance (.ref x) (.type "object")) true := I.type.andThen (W.looks_mroIn X (by unfold W.mroIn; rw [hcd, Option.bind_some, if_neg (by rw [ne]; decide), hob]))
  refine codeAny_call_builtin SF.slot.plain SF.entry (@W.check_slot (model prog w) _ _ ⟨h, g, d, t, os⟩ "object.__setattr__" "object" "__setattr__" (.ref x) [.str name tk, v] [] _ SF.kind SF.split sub (SF.args (.ref x) (.str name tk) v) ?_)
  have hmr : W.Looks (model prog w) h (mroOf (.ref C)) cd.mro := (W.looks_clsIn X hcd).andThen .now
  have L3 : W.Looks (model prog w) h (storeTaker? none) none := .now
  have hcls : W.Looks (model prog w) h (classData C) cd := W.looks_clsIn X hcd
  rw [W.osa_eq, refuse_eq]
  refine wpAny_bind (wpAny_bind (I.type.at (wpAny_bind (hmr.at ?_))))
  rw [excTail_pass _ (SB.passes _) _ hm]
  refine wpAny_pure (wpAny_bind (I.type.at (wpAny_bind ((W.looks_findIn X ha).at (wpAny_bind (L3.at ?_))))))
  show wpAny _ _ (storeInOwnDict (.ref x) (.ref C) (.str name tk) name v false) _ _ _
  obtain ⟨nm, bs, mro, ns, qn, hd, sn, sb, ab, col, del⟩ := cd
  dsimp only at hh
  subst hh
  unfold storeInOwnDict ownDictForStores
  repeat (first | with_reducible refine PySem.HandSPX.store_in_new ?_ ?_ | with_reducible refine wpAny_loadPart_at hx ?_ | with_reducible refine hcls.at ?_ | wp_step)
  · exact ⟨_, #[], _, (Heap.get?_update_ne _ _ _ _ hxs.symm).trans (Heap.get?_push_at rfl rfl), rfl, fun e he => absurd he (by simp), fun _ => rfl⟩
  · intro h' tk' hn' hs
    have hx₁ : (h.push { cls := .type "dict", data := .dict #[] }).get? x = some { cls := .ref C, data := .fields fv } := Heap.get?_push_of_some _ hx
    refine hq h' tk' h.objs.size (fun b o hb ho => ?_) (Nat.le_refl _) hxs.symm ?_ hn'
    · exact (hs.2 b (Nat.ne_of_lt (Heap.lt_size ho))).trans ((Heap.get?_update_ne _ _ _ _ hb).trans (Heap.get?_push_of_some _ ho))
    · exact (hs.2 x hxs).trans (Heap.get?_update_self _ hx₁ rfl)
end
end Px

set_option linter.all false
set_option maxRecDepth 100000
set_option maxHeartbeats 4000000
namespace Px
open PySem PySem.Spec PySem.W PySem.Calls PyProof.Rows
/-- the body of such an __init__ -/
def supBody (attr arg : Str) (p0 p1 p2 p3 p4 p5 p6 p7 p8 p9 : Pos) : List Stmt :=
  [.Expr (.Call (.Attribute (.Call (.Name "super" p0) [] [] p1) "__init__" p2) [.Name arg p3] [] p4) p5, .Assign [.Attribute (.Name "self" p6) attr p7] (.Name arg p8) p9]
section
variable {prog : Program} {w : World} {A : Around} {E : Value → Shared → Prop} {h : Heap} {g : Array GenState} {d : Drawn} {t : Nat} {os : OsState} {R : Result → Shared → Prop}
variable {K : Frag} {mg mb : Str → Option Value} {B newId i : String} {bmB : List Value} {C e t0 fI cda cc : Addr} {attr arg : Str} {u : Value} {p0 p1 p2 p3 p4 p5 p6 p7 p8 p9 : Pos}
variable {name qual : Str} {params : Arguments} {scope : Scope} {dV kV doc pm ct oc ccl cl : Value} {an od cdd cld : Option Addr} {osl ccs csl : Array (Option Value)} {vs : Array Value} {file : Str} {tf : Tok} {cd : ClassData} {ar : Arg}
theorem meth_eq {o : Expr} {name x : Str} {apos pos p : Pos} {env : Env} (hline : (apos.endLine == pos.line) = true) : eval (.Call (.Attribute o name apos) [.Name x p] [] pos) env = (do
      let ov ← attributeBase o name env (eval o env)
      standAt apos.atName
      let (f, first) ← holding [ov] (getMethod ov name (do return (← importBound o env).getD true))
      callWith pos f first (backTo pos (starEach [.Name x p] env)) []) := by
  have hpos : methodCallPos true o env apos pos = pure pos := by unfold methodCallPos; simp [hline]
  rw [arm_eval_Call]
  have hform : methodCallForm ([Expr.Name x p].length + ([] : List Keyword).length) (backTo pos (starEach [.Name x p] env)) (backToKw pos (keywordEach [] env)) = true := by rfl
  unfold methodCall
  rw [hform, hpos]
  rfl
theorem own_init (hline : (p2.endLine == p4.line) = true) (FB : ExcBaseFacts B newId i bmB) (SB : StoreFacts B bmB "object.__setattr__" "object") (KF : KxsFacts B i) (X : K.In h) (hg : h.Ns mainGlobals mg) (hb : h.Ns builtinsNs mb) (hbb : ∀ x : Str, x ≠ "__name__" → mb x = bootBuiltins x) (hlim : h.NoLimit)
    (q : excInitIn K C bmB newId = true) (hf : K.lookup fI = some ⟨oc, od, .func (ksFn name qual params (supBody attr arg p0 p1 p2 p3 p4 p5 p6 p7 p8 p9) scope dV kV doc pm an (.ref cda) ct cc), osl⟩) (hcd : codeIn K (.ref cda) qual = true)
    (hcode : K.lookup cda = some ⟨ccl, cdd, .fields vs, ccs⟩) (hvs : vs[2]? = some (.str file tf)) (hfile : ((prog.main.file : Str) == file) = true) (hcell : K.lookup cc = some ⟨cl, cld, .cell (some (.ref C)), csl⟩)
    (hD : clsIn K C = some cd) (hm : excTail bmB cd.mro = true) (hhd : cd.hasDict = true) (hsub : mroIn K C (.ref C) = some true) (hsuper : nsIn K mainGlobals "super" = some none) (htop : (prog.main.scope.names.lookup ("super" : Str)).isSome = false)
    (hop : nsIn K cStatics "thirdparty.any" = some none) (hal : alongIn K "__init__" ((cd.mro.dropWhile (· != .ref C)).drop 1) = some (some (.builtin i))) (hBs : subIn K (.ref C) (.type B) = some true)
    (hsa : findIn K (.ref C) "__setattr__" = some (some (.builtin "object.__setattr__"))) (hno : findIn K (.ref C) attr = some none)
    (hks : scope.names.lookup ("super" : Str) = some .globalImplicit) (hkc : scope.names.lookup ("__class__" : Str) = some .free) (hks2 : scope.names.lookup ("self" : Str) = some .local) (hka : scope.names.lookup arg = some .local) (hk : scope.kind = .function)
    (hco : scope.isCoroutine = false) (hgen : scope.isGenerator = false) (hnc : ∀ x ∈ scope.names, x.2 ≠ .cell) (hda : (arg == ("__debug__" : Str)) = false) (has : arg ≠ "self") (hpar : (params.posonlyargs ++ params.args).head? = some ar) (har : ar.arg = "self")
    (hbind : BindsTo ⟨h, g, d, t, os⟩ (ksFn name qual params (supBody attr arg p0 p1 p2 p3 p4 p5 p6 p7 p8 p9) scope dV kV doc pm an (.ref cda) ct cc) ⟨[.ref e, u], []⟩ [("self", .ref e), (arg, u)]) (hroom : A.depth < recursionLimit)
    (he : h.get? e = some (excObj C t0 none .none)) (hKe : K.lookup e = none)
    (hq : ∀ h' t' t1 dx, (∀ b o, b ≠ e → h.get? b = some o → h'.get? b = some o) → h.objs.size ≤ dx → h'.get? e = some (excObj C t1 (some dx) .none) → h'.Ns1 dx (fun y => if y = attr then some u else none) → R (.ok (.ret .none)) ⟨h', g, d, t', os⟩) :
    codeAny (model prog w) A (.call (.ref fI) ⟨[.ref e, u], []⟩) R ⟨h, g, d, t, os⟩ := by
  refine ks_codeAny_call_defAt (fd := ksFn name qual params (supBody attr arg p0 p1 p2 p3 p4 p5 p6 p7 p8 p9) scope dV kV doc pm an (.ref cda) ct cc) (body := supBody attr arg p0 p1 p2 p3 p4 p5 p6 p7 p8 p9) (binds := [("self", .ref e), (arg, u)]) hroom (X _ _ hf) rfl hlim (codeRec_of X hcd) rfl hbind hnc (fun x hx => ?_) (fun h0 hns hkeep => ?_) hco hgen hk
  · rcases List.mem_cons.mp hx with rfl | hx
    · exact hks2
    · rcases List.mem_cons.mp hx with rfl | hx
      · exact hka
      · cases hx
  have X0 : K.In h0 := X.keeps hkeep
  have he0 := hkeep _ _ he
  have I0 : InstAt h0 e (excObj C t0 none .none) C none := ⟨he0, rfl, rfl, trivial⟩
  have hself : (fun x => ([("self", .ref e), (arg, u)] : List (Str × Value)).reverse.lookup x) "self" = some (.ref e) := by
    show ([(arg, u), (("self" : Str), .ref e)] : List (Str × Value)).lookup ("self" : Str) = _
    have : (("self" : Str) == arg) = false := by
      rw [beq_eq_false_iff_ne]
      exact fun z => has z.symm
    simp [List.lookup, this]
  have harg : (fun x => ([("self", .ref e), (arg, u)] : List (Str × Value)).reverse.lookup x) arg = some u := by
    show ([(arg, u), (("self" : Str), .ref e)] : List (Str × Value)).lookup arg = _
    simp [List.lookup]
  obtain ⟨oD, hD1, hD2⟩ : ∃ oD, h0.get? C = some oD ∧ oD.data = .cls cd := by
    unfold clsIn at hD
    split at hD
    · rename_i c d' cd' sl ho
      cases hD
      exact ⟨_, X0 _ _ ho, rfl⟩
    · cases hD
  have hint : interactive (ksEnv qual scope h.objs.size fI (.ref cda) cc) = false := by
    unfold interactive
    show (scope.kind == .module && _) = false
    rw [hk]; rfl
  refine ks_wpAt_execs_cons (ks_wpAt_Expr_any (ks_wpAt_MethodCall (he := meth_eq hline) ?_) hint rfl)
  refine ks_wpAt_super_base (env := ksEnv qual scope h.objs.size fI (.ref cda) cc) hks hkc (by decide) rfl (X0 _ _ hf) rfl hpar rfl (X0 _ _ hcode) rfl hvs hfile htop ?_
  refine ks_loadName_global hk hks (loadGlobal_builtin (env := ksEnv qual scope h.objs.size fI (.ref cda) cc) (hg.keeps hkeep) (mg_none_of X hg hsuper) (hb.keeps hkeep) ((hbb _ (by decide +kernel)).trans (by decide +kernel)) ⟨rfl, ?_⟩)
  refine wpAny_loadName_free hk hkc rfl ⟨_, X0 _ _ hcell, rfl⟩ ?_
  rw [har]
  refine wpAny_loadName_local hk hks2 hns hself ?_
  refine ks_wpAny_isType_cls hD1 hD2 ⟨rfl, ?_⟩
  refine ks_wpAny_call_super hD1 hD2 I0.at_ I0.cls (fun c z => ?_) (looks_mroIn X0 hsub) (fun h1 e1 k1 => ?_)
  · have := I0.no
    unfold notCls at this
    rw [z] at this
    exact Bool.noConfusion this
  have X1 : K.In h1 := X0.keeps k1
  have I1 : InstAt h1 e (excObj C t0 none .none) C none := ⟨k1 _ _ he0, rfl, rfl, trivial⟩
  have hI1 : Looks (model prog w) h1 (isInstance (.ref e) (.type B)) true := I1.type.andThen (looks_subIn X1 hBs)
  refine kxs_getMethod KF e1 (looks_opaque X1 hop) (l₀ := cd.mro) (fun A Q E s k q => wpAny_bind ((looks_clsIn X1 hD) A _ E s k (wpAny_pure q))) rfl X1 hal hI1 (ks_ne X1 I1 hD) (by decide) ?_
  have k2 : ∀ b o, h1.get? b = some o → (h1.push (kxs_mw i e)).get? b = some o := fun b o z => Heap.get?_push_of_some _ z
  have hu2 : (h1.push (kxs_mw i e)).get? h1.objs.size = some (kxs_mw i e) := Heap.get?_push_at rfl rfl
  have hns2 := hns.keeps fun b o z => k2 b o (k1 b o z)
  refine kxs_callWith (u := h1.objs.size) (i := i) (x := e) rfl ?_
  refine evalArgs_plain ?_
  show wpAny _ _ (spliced ((false, eval (.Name arg p3) (ksEnv qual scope h.objs.size fI (.ref cda) cc)) :: backTo p4 (starEach [] (ksEnv qual scope h.objs.size fI (.ref cda) cc)))) _ _ _
  refine spliced_cons (wpAny_Name (wpAny_loadName_local hk hka hns2 harg ?_) hda)
  refine spliced_nil ⟨hu2, ?_⟩
  refine call_mw FB (X1.keeps k2) q (k2 _ _ (k1 _ _ he0)) hu2 (by show 1 ≤ sizeLine; rw [sizeLine_eq]; omega) (fun h3 t1 k3 he3 => ?_)
  have keep3 : ∀ b o, b ≠ e → h0.get? b = some o → h3.get? b = some o := fun b o hbe z => k3 b o hbe (k2 b o (k1 b o z))
  have Le : h.objs.size ≠ e := Nat.ne_of_gt (Heap.lt_size he)
  have hns3 : h3.Ns h.objs.size fun x => ([("self", .ref e), (arg, u)] : List (Str × Value)).reverse.lookup x := by
    obtain ⟨o, es, ep, z1, z2⟩ := hns
    exact ⟨o, es, ep, keep3 _ _ Le z1, z2⟩
  have X3 : K.In h3 := fun b o z => keep3 b o (fun hbe => by rw [hbe, hKe] at z; cases z) (X0 b o z)
  refine ks_wpAt_execs_cons (ks_wpAt_Assign_Attr ?_ rfl)
  refine wpAt_of_wpAny (wpAny_Name (wpAny_loadName_local hk hka hns3 harg ?_) hda)
  refine wpAny_Name (wpAny_loadName_local hk hks2 hns3 hself ?_) (by decide)
  refine set_plain X3 (ox := excObj C t1 none .none) (od := none) ⟨he3, rfl, rfl, trivial⟩ hsa ?_
  refine store0 SB X3 he3 hD hm hhd hno fun h4 tk' dx k4 hdx hne he4 hns4 => ?_
  refine wpAt_of_wpAny (wpAny_execs_nil ?_)
  have sz : h.objs.size ≤ dx := by
    have l3 : h.objs.size < h3.objs.size := by
      obtain ⟨o, es, ep, z1, z2⟩ := hns3
      exact Heap.lt_size z1
    exact Nat.le_trans (Nat.le_of_lt l3) hdx
  exact hq h4 _ t1 dx (fun b o hbe z => k4 b o hbe (keep3 b o hbe (hkeep b o z))) sz he4 hns4
end
end Px

set_option linter.all false
set_option maxRecDepth 100000
set_option maxHeartbeats 4000000
namespace Px
open PySem PySem.Spec PySem.W PySem.Calls PyProof.Rows
/-! ### the built-in bases -/
def bsB : Nat → String
  | 0 => "ValueError"
  | 1 => "IndexError"
  | 2 => "LookupError"
  | 3 => "OverflowError"
  | _ => "ArithmeticError"
def bsN : Nat → String
  | 0 => "ValueError.__new__"
  | 1 => "IndexError.__new__"
  | 2 => "LookupError.__new__"
  | 3 => "OverflowError.__new__"
  | _ => "ArithmeticError.__new__"
def bsI : Nat → String
  | 0 => "ValueError.__init__"
  | 1 => "IndexError.__init__"
  | 2 => "LookupError.__init__"
  | 3 => "OverflowError.__init__"
  | _ => "ArithmeticError.__init__"
def bsM : Nat → List Value
  | 0 => [.type "ValueError", .type "Exception", .type "BaseException", .type "object"]
  | 1 => [.type "IndexError", .type "LookupError", .type "Exception", .type "BaseException", .type "object"]
  | 2 => [.type "LookupError", .type "Exception", .type "BaseException", .type "object"]
  | 3 => [.type "OverflowError", .type "ArithmeticError", .type "Exception", .type "BaseException", .type "object"]
  | _ => [.type "ArithmeticError", .type "Exception", .type "BaseException", .type "object"]
theorem bsF (n : Nat) : ExcBaseFacts (bsB n) (bsN n) (bsI n) (bsM n) ∧ StoreFacts (bsB n) (bsM n) "object.__setattr__" "object" ∧ KxsFacts (bsB n) (bsI n) := by
  match n with
  | 0 => exact ⟨F.excBase_ValueError, F.store_ValueError, kxs_ValueError⟩
  | 1 => exact ⟨F.excBase_IndexError, F.store_IndexError, kxs_IndexError⟩
  | 2 => exact ⟨F.excBase_LookupError, F.store_LookupError, kxs_LookupError⟩
  | 3 => exact ⟨F.excBase_OverflowError, F.store_OverflowError, kxs_OverflowError⟩
  | n + 4 => exact ⟨F.excBase_ArithmeticError, F.store_ArithmeticError, kxs_ArithmeticError⟩
/-! ### what the written part must say -/
def argB (p : Arguments) (arg : Str) : Bool := match p with
  | ⟨[], [⟨a, _, _⟩, ⟨b, _, _⟩], none, [], [], none, _⟩ => decide (a = "self") && decide (b = arg)
  | _ => false
/-- the body: super().__init__(arg); self.attr = arg -/
def bodyB (l : List Stmt) (attr arg : Str) : Bool := match l with
  | [.Expr (.Call (.Attribute (.Call (.Name s _) [] [] _) m p2) [.Name a _] [] p4) _, .Assign [.Attribute (.Name s2 _) at_ _] (.Name a2 _) _] =>
    decide (s = "super") && decide (m = "__init__") && decide (a = arg) && decide (s2 = "self") && decide (at_ = attr) && decide (a2 = arg) && (p2.endLine == p4.line)
  | _ => false
def scB (sc : Scope) (arg : Str) : Bool := decide (sc.names.lookup ("super" : Str) = some .globalImplicit) && decide (sc.names.lookup ("__class__" : Str) = some .free) && decide (sc.names.lookup ("self" : Str) = some .local) && decide (sc.names.lookup arg = some .local) &&
  decide (sc.kind = .function) && !sc.isCoroutine && !sc.isGenerator && (sc.names.all fun x => !decide (x.2 = .cell))
def noneV : Value → Bool
  | .none => true
  | _ => false
theorem noneV_ok {v : Value} (h : noneV v = true) : v = .none := by
  cases v <;> first | rfl | cases h
/-- the function object of the __init__ -/
def fdB (P : Program) (K : Frag) (C : Addr) (attr arg : Str) (fd : FuncData) : Bool := match fd with
  | ⟨_, qual, params, .stmts body, scope, gl, [(cn, cc)], dV, _, _, _, _, .ref cda, _, bi⟩ =>
    bodyB body attr arg && argB params arg && scB scope arg && decide (gl = mainGlobals) && decide (bi = builtinsNs) && decide (cn = "__class__") && noneV dV && codeIn K (.ref cda) qual &&
    (match K.lookup cda with
      | some ⟨_, _, .fields vs, _⟩ => (match (vs[2]? : Option Value) with
        | some (.str file _) => ((P.main.file : Str) == file)
        | _ => false)
      | _ => false) &&
    (match K.lookup cc with
      | some ⟨_, _, .cell (some (.ref D)), _⟩ => decide (D = C)
      | _ => false)
  | _ => false
def eqO (a b : Option (Option Value)) : Bool := decide (a = b)
def argOk (arg : Str) : Bool := decide (arg = "given") || decide (arg = "wanted") || decide (arg = "done") || decide (arg = "limit") || decide (arg = "reason") || decide (arg = "spot")
/-- C is an own exception class over the n-th base that keeps attr -/
def supB (P : Program) (K : Frag) (n : Nat) (C fI : Addr) (attr arg : Str) : Bool :=
  argOk arg && excInitIn K C (bsM n) (bsN n) && eqO (findIn K (.ref C) "__init__") (some (some (.ref fI))) && (match K.lookup fI with
    | some ⟨.type c, _, .func fd, _⟩ => decide (c = "function") && fdB P K C attr arg fd
    | _ => false) && (match clsIn K C with
    | some cd => cd.hasDict && excTail (bsM n) cd.mro && eqO (alongIn K "__init__" ((cd.mro.dropWhile (· != .ref C)).drop 1)) (some (some (.builtin (bsI n))))
    | none => false) && decide (mroIn K C (.ref C) = some true) && eqO (nsIn K mainGlobals "super") (some none) && !(P.main.scope.names.lookup ("super" : Str)).isSome && eqO (nsIn K cStatics "thirdparty.any") (some none) &&
  decide (subIn K (.ref C) (.type (bsB n)) = some true) && eqO (findIn K (.ref C) "__setattr__") (some (some (.builtin "object.__setattr__"))) && eqO (findIn K (.ref C) attr) (some none) &&
  decide (subIn K (.ref C) (.type "BaseException") = some true) && decide (typeIn K (.ref C) = some (.type "type")) && keepIn K (.ref C)
theorem arg_ok {arg : Str} (h : argOk arg = true) : arg = "given" ∨ arg = "wanted" ∨ arg = "done" ∨ arg = "limit" ∨ arg = "reason" ∨ arg = "spot" := by
  simpa [argOk, or_assoc] using h
theorem bind_ok {s : Shared} {nm qual : Str} {params : Arguments} {body : FuncBody} {scope : Scope} {gl bi : Addr} {cl : List (Str × Addr)} {kV doc pm cd ct : Value} {an : Option Addr} {arg : Str} {x u : Value} (ha : argOk arg = true) (h : argB params arg = true) :
    BindsTo s ⟨nm, qual, params, body, scope, gl, cl, .none, kV, doc, pm, an, cd, ct, bi⟩ ⟨[x, u], []⟩ [("self", x), (arg, u)] := by
  unfold argB at h
  split at h
  · rename_i a _ _ b _ _ _
    simp only [Bool.and_eq_true, decide_eq_true_eq] at h
    obtain ⟨rfl, rfl⟩ := h
    rcases arg_ok ha with rfl | rfl | rfl | rfl | rfl | rfl <;> exact BindsTo.of_eq rfl
  · cases h
theorem arg_ne {arg : Str} (ha : argOk arg = true) : (arg == ("__debug__" : Str)) = false ∧ arg ≠ "self" := by
  rcases arg_ok ha with rfl | rfl | rfl | rfl | rfl | rfl <;> exact ⟨by decide, by decide⟩
section
variable {prog : Program} {w : World} {A : Around} {h : Heap} {g : Array GenState} {d : Drawn} {t : Nat} {os : OsState} {R : Result → Shared → Prop} {K : Frag} {mg mb : Str → Option Value} {C e t0 fI : Addr} {attr arg : Str} {u : Value} {n : Nat}
theorem sup_init (hs : supB prog K n C fI attr arg = true) (X : K.In h) (hg : h.Ns mainGlobals mg) (hb : h.Ns builtinsNs mb) (hbb : ∀ x : Str, x ≠ "__name__" → mb x = bootBuiltins x) (hlim : h.NoLimit) (hroom : A.depth < recursionLimit)
    (he : h.get? e = some (excObj C t0 none .none)) (hKe : K.lookup e = none)
    (hq : ∀ h' t' t1 dx, (∀ b o, b ≠ e → h.get? b = some o → h'.get? b = some o) → h.objs.size ≤ dx → h'.get? e = some (excObj C t1 (some dx) .none) → h'.Ns1 dx (fun y => if y = attr then some u else none) → R (.ok (.ret .none)) ⟨h', g, d, t', os⟩) :
    codeAny (model prog w) A (.call (.ref fI) ⟨[.ref e, u], []⟩) R ⟨h, g, d, t, os⟩ := by
  obtain ⟨FB, SB, KF⟩ := bsF n
  unfold supB at hs
  simp only [Bool.and_eq_true, decide_eq_true_eq, Bool.not_eq_true', eqO] at hs
  obtain ⟨⟨⟨⟨⟨⟨⟨⟨⟨⟨⟨⟨⟨⟨ha, q⟩, hi⟩, hfd⟩, hcls⟩, hsub⟩, hsuper⟩, htop⟩, hop⟩, hBs⟩, hsa⟩, hno⟩, _⟩, _⟩, _⟩ := hs
  split at hfd
  · rename_i c od fd osl hf
    simp only [Bool.and_eq_true, decide_eq_true_eq] at hfd
    obtain ⟨rfl, hfd⟩ := hfd
    split at hcls
    · rename_i cd hcd
      simp only [Bool.and_eq_true, decide_eq_true_eq] at hcls
      obtain ⟨⟨hhd, hm⟩, hal⟩ := hcls
      unfold fdB at hfd
      split at hfd
      · rename_i nm qual params body scope gl cn cc dV kV doc pm an cda ct bi
        simp only [Bool.and_eq_true, decide_eq_true_eq] at hfd
        obtain ⟨⟨⟨⟨⟨⟨⟨⟨⟨hbody, harg⟩, hsc⟩, rfl⟩, rfl⟩, rfl⟩, hdV⟩, hcode⟩, hfile⟩, hcell⟩ := hfd
        have := noneV_ok hdV
        subst this
        split at hfile
        · rename_i ccl cdd vs ccs hk
          split at hfile
          · rename_i file tf hvs
            split at hcell
            · rename_i cl cld D csl hcc
              have eD := of_decide_eq_true hcell
              subst eD
              unfold bodyB at hbody
              split at hbody
              · rename_i s p0 p1 m p2 a p3 p4 p5 s2 p6 at_ p7 a2 p8 p9
                simp only [Bool.and_eq_true, decide_eq_true_eq] at hbody
                obtain ⟨⟨⟨⟨⟨⟨rfl, rfl⟩, rfl⟩, rfl⟩, rfl⟩, rfl⟩, hline⟩ := hbody
                unfold scB at hsc
                simp only [Bool.and_eq_true, decide_eq_true_eq, Bool.not_eq_true'] at hsc
                obtain ⟨⟨⟨⟨⟨⟨⟨s1, s2'⟩, s3⟩, s4⟩, s5⟩, s6⟩, s7⟩, s8⟩ := hsc
                obtain ⟨hda, has⟩ := arg_ne ha
                obtain ⟨ar, hpar, har⟩ : ∃ ar, (params.posonlyargs ++ params.args).head? = some ar ∧ ar.arg = "self" := by
                  unfold argB at harg
                  split at harg
                  · simp only [Bool.and_eq_true, decide_eq_true_eq] at harg
                    exact ⟨_, rfl, harg.1⟩
                  · cases harg
                refine own_init (attr := at_) (arg := a2) hline FB SB KF X hg hb hbb hlim q hf hcode hk hvs hfile hcc hcd hm hhd hsub hsuper htop hop hal hBs hsa hno s1 s2' s3 s4 s5 s6 s7 (fun x hx => ?_) hda has hpar har (bind_ok ha harg) hroom he hKe hq
                have := List.all_eq_true.mp s8 x hx
                simpa using this
              · cases hbody
            · cases hcell
          · cases hfile
        · cases hfile
      · cases hfd
    · cases hcls
  · cases hfd
end
end Px

set_option linter.all false
set_option maxRecDepth 100000
set_option maxHeartbeats 4000000
namespace Px
open PySem PySem.Spec PyProof.Rows L2
section
variable {X : Cx} {C fI : Addr} {attr arg x : Str} {n : Nat} {e : Expr} {te : TE} {p pos : Pos}
/-- C(e), C an own exception class that keeps what it takes -/
def tSup (C : Addr) (attr : Str) (te : TE) : L2.St → Hp → XK → Prop := fun σ H Q => te σ H fun v H1 => ∀ d, H1 d = none → Q (.ref C) (some d) (upd H1 d (.xd [(attr, v)]))
theorem pmk_sup (hs : supB X.prog X.K n C fI attr arg = true) (hr : Room 1 X.A) (hg : Gl X x) (hm : X.mg x = some (.ref C)) (ha : PE X e te) (hst : starEach [e] X.env = (false, eval e X.env) :: starEach [] X.env) (hdb : (x == ("__debug__" : Str)) = false) :
    PMk X (.Call (.Name x p) [e] [] pos) (tSup C attr te) := by
  intro pins s σ H Q I h
  have hs' := hs
  unfold supB at hs'
  simp only [Bool.and_eq_true, decide_eq_true_eq, Bool.not_eq_true', eqO] at hs'
  obtain ⟨⟨⟨⟨⟨⟨⟨⟨⟨⟨⟨⟨⟨⟨_, q⟩, hi⟩, hfd⟩, _⟩, _⟩, _⟩, _⟩, _⟩, _⟩, _⟩, _⟩, exC⟩, tyC⟩, kC⟩ := hs'
  have tI : PySem.W.typeIn X.K (.ref fI) = some (.type "function") := by
    split at hfd
    · rename_i c od fd osl hf
      simp only [Bool.and_eq_true, decide_eq_true_eq] at hfd
      show (X.K.lookup fI).map (·.cls) = _
      rw [hf, hfd.1]
      rfl
    · cases hfd
  have FB := (bsF n).1
  refine wpAny_Call_Name_kw (ld_glob I hg hm ?_ hdb)
  have hA : PA X [e] (tCons te tNil) := pa_cons ha pa_nil hst
  refine PySem.W.callWith_K (h₀ := X.base) I.ok.mod.kin kC (thn (hA.run pos pins s σ H (fun vs H1 => match vs with | [v] => ∀ d, H1 d = none → Q (.ref C) (some d) (upd H1 d (.xd [(attr, v)])) | _ => False) I h) fun us s1 ⟨vs, H1, I1, r1, q1⟩ => ⟨I1.kIn, ?_⟩) hst (by rfl)
  cases r1 with
  | nil => exact q1.elim
  | @cons v u vs' us' ru rn =>
    cases rn with
    | cons _ _ => exact q1.elim
    | nil =>
    replace q1 : ∀ d, H1 d = none → Q (.ref C) (some d) (upd H1 d (.xd [(attr, v)])) := q1
    show wpAny _ _ (call (.ref C) [u]) _ _ _
    obtain ⟨hp, g, dr, tk, os⟩ := s1
    obtain ⟨nm, N', qn, bs, bm, hdct, sn, sub, ab, col, dd, k0, k1, k2, k3, k5, hC, hT⟩ := PySem.W.excInit_of I1.kIn q
    have kk : ∀ b o, hp.get? b = some o → ((hp.push (PySem.W.kdv_tup [u])).push (PySem.HandSPX.excO C hp.objs.size)).get? b = some o := fun b o e => Heap.get?_push_of_some _ (Heap.get?_push_of_some _ e)
    have hget : ((hp.push (PySem.W.kdv_tup [u])).push (PySem.HandSPX.excO C hp.objs.size)).get? (hp.objs.size + 1) = some (PySem.HandSPX.excO C hp.objs.size) := by heap_get
    have nK : X.K.lookup (hp.objs.size + 1) = none := by
      cases z : X.K.lookup (hp.objs.size + 1) with
      | none => rfl
      | some o => exact absurd (Heap.lt_size (I1.kIn _ _ z)) (by show ¬ hp.objs.size + 1 < hp.objs.size; omega)
    obtain ⟨mb, hb, hbb⟩ := I1.mod.blt
    refine wpAny_call (PySem.HandSPX.call_own FB hT hC (PySem.W.looks_findIn I1.kIn hi) (fun self => PySem.W.bind_fn I1.kIn self tI) (by show 1 ≤ sizeLine; rw [sizeLine_eq]; omega) ?_)
    refine sup_init (t0 := hp.objs.size) hs (I1.kIn.keeps kk) ((I1.mod.glob.keeps I1.bk).keeps kk) ((hb.keeps I1.bk).keeps kk) hbb (I1.nolimit.keeps kk) ?_ hget nK fun h' t' t1 dx k' hdx he' hns => ?_
    · rw [make_depth]
      have := hr.dp
      omega
    refine ⟨rfl, ?_⟩
    have hdx' : hp.objs.size ≤ dx := Nat.le_trans (show hp.objs.size ≤ ((hp.push (PySem.W.kdv_tup [u])).push (PySem.HandSPX.excO C hp.objs.size)).objs.size by rw [Heap.size_push, Heap.size_push]; exact Nat.le_trans (Nat.le_succ _) (Nat.le_succ _)) hdx
    have hd1 : H1 dx = none := I1.hok.fresh hdx'
    have hn1 : H1 (hp.objs.size + 1) = none := I1.hok.fresh (Nat.le_succ _)
    have hda : dx ≠ hp.objs.size + 1 := fun z => by
      obtain ⟨o, es, ep, e1, e2, _⟩ := hns
      rw [z, he'] at e1
      have z2 := Option.some.inj e1
      subst z2
      cases e2
    obtain ⟨G, g1, g2⟩ := restrict h' fun b => decide (b ≠ hp.objs.size + 1)
    have gk : ∀ b, b ≠ hp.objs.size + 1 → G.get? b = h'.get? b := fun b hb => g1 b (decide_eq_true hb)
    have ge : G.get? (hp.objs.size + 1) = none := g2 _ (by simp)
    have kG : ∀ b o, hp.get? b = some o → G.get? b = some o := fun b o z => by
      have ne : b ≠ hp.objs.size + 1 := fun y => absurd (Heap.lt_size z) (by rw [y]; exact Nat.not_lt.mpr (Nat.le_succ _))
      rw [gk b ne]
      exact k' b o ne (kk b o z)
    have rel : ∀ f, RelO ([(attr, v)].lookup f) (if f = attr then some u else none) := fun f => relO_put (fs := []) (mA := fun _ => none) ru (fun _ => True.intro) f
    have J : Inv X pins σ (upd H1 dx (.xd [(attr, v)])) ⟨G, g, dr, t', os⟩ := I1.laid (t' := t') (a := dx) (o := .xd [(attr, v)]) (h' := G) kG hdx' ⟨_, hns.at fun o y => (gk dx hda).trans y, rel⟩
    refine ⟨hp.objs.size + 1, _, _, ⟨G, g, dr, t', os⟩, _, .ref C, some dx, rfl, J, fun b o z => ?_, ge, he', ⟨rfl, rfl⟩, rfl, rfl, ?_, rfl, I1.bare, raises_own exC tyC, q1 dx hd1⟩
    · have ne : b ≠ hp.objs.size + 1 := fun y => by rw [y, ge] at z; cases z
      rw [← gk b ne]
      exact z
    · rw [upd_ne (Ne.symm hda)]
      exact hn1
end
end Px

set_option linter.all false
set_option maxRecDepth 100000
set_option maxHeartbeats 4000000
/-! Px, part E: try with several clauses, named or not. -/
namespace Px
open PySem PySem.Spec PyProof.Rows L2
abbrev Cl : Type := Value × Option Nat × (Addr → Value → Option Addr → TS)
/-- behind a named clause the name is gone -/
def endsAs (o : Option Nat) (D : Ends) : Ends := match o with
  | none => D
  | some i => ⟨fun σ H => D.nx (σ.set i none) H, D.rt, fun σ H => D.bk (σ.set i none) H, fun σ H => D.ct (σ.set i none) H⟩
def slotAs (o : Option Nat) (a : Addr) (σ : L2.St) : L2.St := match o with
  | none => σ
  | some i => σ.set i (some (.ref a))
def wMix (K : PySem.W.Frag) (Wout : WX) (D : Ends) : List Cl → WX
  | [] => Wout
  | (c, o, ts) :: r => fun cls d σ H => ∃ b, PySem.W.exmOne K cls c = some b ∧ (b = true → ∀ a, H a = none → ts a cls d (endsAs o D) (slotAs o a σ) H) ∧ (b = false → wMix K Wout D r cls d σ H)
inductive Hds (X : Cx) : List ExceptHandler → List Cl → Prop
  | nil : Hds X [] []
  | cons {x : Str} {c : Value} {o : Option Nat} {nm : Option Str} {ts : Addr → Value → Option Addr → TS} {b₀ : Stmt} {suite : List Stmt} {np pos' : Pos} {hds : List ExceptHandler} {l : List Cl} (hc : Names X x c)
      (hn : match o, nm with | none, none => True | some i, some n => X.N[i]? = some n ∧ X.env.kindOf n = some .local | _, _ => False)
      (hsu : ∀ (a : Addr) (oe : Obj) (cls : Value) (d : Option Addr) (pn : List (Addr × Obj)), Zc cls d oe → (∃ vs, oe.data = .fields vs) → PSs (X.suite a ((a, oe) :: pn)) (b₀ :: suite) (ts a cls d)) (r : Hds X hds l) :
      Hds X (.ExceptHandler (some (.Name x np)) nm (b₀ :: suite) pos' :: hds) ((c, o, ts) :: l)
section
variable {X : Cx} {body : List Stmt} {h₀ : ExceptHandler} {hds : List ExceptHandler} {l : List Cl} {pos : Pos} {tb : WX → TS} {Wout : WX} {D : Ends} {pins : List (Addr × Obj)} {σ' : L2.St} {H' : Hp}
/-- the clauses, one by one -/
theorem clauses_ok {a : Addr} {cls : Value} {d : Option Addr} {B : Heap} {sI s' : Shared} {h3 : Heap} (hN : X.N.Nodup) (hs : X.stack = X.env :: X.outer) (hf : X.env.frame = some X.env.locals) (tk : Takes X Wout) (J : L2.Inv X pins σ' H' sI)
    (nb : ∀ b o, sI.heap.get? b = some o → b ∉ frs X.stack → B.get? b = some o) (up3 : sI.heap.UpToSlots h3) (os : s'.os = sI.os) (ag : AllBare s'.gens) (na : H' a = none) (fl3 : HandSPX.FlyingZ B (X.env :: X.outer) a (Zc cls d) h3)
    (nL : a ≠ X.env.locals) (nF : a ∉ X.fs) : ∀ {hds : List ExceptHandler} {l : List Cl}, Hds X hds l → wMix X.K Wout D l cls d σ' H' → wpAny (model X.prog X.w) X.A (handleBy (.ref a) X.env hds) (SP X pins D) X.xe { s' with heap := h3 } := by
  have ok := J.ok
  have J3 : L2.Inv X pins σ' H' { s' with heap := h3 } := J.landed nb fl3.1 up3 os ag
  obtain ⟨oe3, vs3, he3, hz3, hd3⟩ := fl3.there
  intro hds l hk
  induction hk with
  | nil =>
    intro w
    refine wpAny_handleBy_nil ?_
    obtain ⟨_, _, _, oe, vs, T, _, _, he, _, hd, h1, _⟩ := id fl3
    have fly : wpAny (model X.prog X.w) X.A (setFlight (.ref a) X.env.frame) (fun _ s4 => wpAny (model X.prog X.w) X.A (throw (.ref a) : Sem Flow) (SP X pins D) X.xe s4) X.xe { s' with heap := h3 } := by
      rw [hf]
      exact HandSPX.setFlight_upZ fl3 fun h4 hh4 up4 => wpAny_throw (tk _ _ ⟨a, B, sI, pins, σ', H', cls, d, rfl, J, nb, up3.trans up4, .inr (.inr (by rw [hs]; exact hh4)), na, os, ag, w⟩)
    unfold PySem.passOn
    refine wpAny_bind (wpAny_field he hd h1 ?_)
    rw [if_neg (show ¬ ((Value.ref T == Value.none) = true) from by simp)]
    first | exact wpAny_bind (wpAny_pure (wpAny_bind fly)) | exact wpAny_bind fly
  | @cons x c o nm ts b₀ suite np pos' hds2 l2 hc hn hsu r ih =>
    intro w
    obtain ⟨b, hb1, hyes, hno⟩ := w
    have S3 := J3.suite he3 hd3 na nL nF
    have LT : PySem.W.Looks (model X.prog X.w) h3 (typeOf (.ref a)) cls := fun A Q E s k q => wpAny_typeOf_ref (k _ _ he3) (by rw [hz3.1]; exact q)
    have LM := PySem.W.exm_one (M := model X.prog X.w) (J3.kIn) LT hb1
    refine wpAny_handleBy_cons (codeAny_handlers_test ?_) (by intro q; cases q)
    have cls_of : ∀ {Q E : Value → Shared → Prop}, Q c { s' with heap := h3 } → wpAny (model X.prog X.w) (X.A.mark (some (.ref a))) (eval (.Name x np) X.env) Q E { s' with heap := h3 } := fun {Q E} q => by
      obtain ⟨hg, hdbg, hm | ⟨hm, hv, hnn⟩⟩ := hc
      · exact ld_glob (X := X.suite a ((a, oe3) :: (X.pn ++ pins))) S3 hg hm q hdbg
      · exact ld_blt (X := X.suite a ((a, oe3) :: (X.pn ++ pins))) S3 hg hm hv q hnn hdbg
    refine cls_of (LM.here ?_)
    cases b with
    | false =>
      show wpAny _ X.A (handleBy (.ref a) X.env hds2) _ _ _
      exact ih (hno rfl)
    | true =>
      have fin := hyes rfl a na
      cases nm with
      | none =>
        cases o with
        | some _ => exact hn.elim
        | none =>
          refine codeAny_handlers_suite (HandSPX.lands_againZ fl3 fun h4 fl4 up4 => ?_)
          have J4 : L2.Inv X pins σ' H' { s' with heap := h4 } := J.landed nb fl4.1 (up3.trans up4) os ag
          obtain ⟨oe4, vs4, he4, hz4, hd4⟩ := fl4.there
          refine wpAny_mono ((hsu a oe4 cls d (X.pn ++ pins) hz4 ⟨_, hd4⟩).run [] _ _ H' _ (J4.suite he4 hd4 na nL nF) fin) (fun f s6 hsp => ?_) (fun _ _ z => False.elim z)
          cases f with
          | next => obtain ⟨σ6, H6, S6, q6⟩ := hsp; exact ⟨_, _, S6.unsuite ok, q6⟩
          | brk => obtain ⟨σ6, H6, S6, q6⟩ := hsp; exact ⟨_, _, S6.unsuite ok, q6⟩
          | cont => obtain ⟨σ6, H6, S6, q6⟩ := hsp; exact ⟨_, _, S6.unsuite ok, q6⟩
          | ret u => obtain ⟨v6, σ6, H6, S6, r6, q6⟩ := hsp; exact ⟨_, _, _, S6.unsuite ok, r6, q6⟩
      | some n =>
        cases o with
        | none => exact hn.elim
        | some i =>
          obtain ⟨hi, hln⟩ := hn
          refine codeAny_handlers_suite_as (HandSPX.lands_againZ fl3 fun h4 fl4 up4 => ?_)
          have J4 : L2.Inv X pins σ' H' { s' with heap := h4 } := J.landed nb fl4.1 (up3.trans up4) os ag
          obtain ⟨oe4, vs4, he4, hz4, hd4⟩ := fl4.there
          refine store_ok (X := X.suite a ((a, oe4) :: (X.pn ++ pins))) (v := .ref a) (J4.suite he4 hd4 na nL nF) hN hi (.inl hln) rfl (fun s5 S5 => ?_) (.inr hln)
          refine wpAny_mono ((hsu a oe4 cls d (X.pn ++ pins) hz4 ⟨_, hd4⟩).run [] s5 _ H' _ S5 fin) (fun f s6 hsp => ?_) (fun _ _ z => False.elim z)
          have end_ : ∀ {σ6 : L2.St} {H6 : Hp} {Q : Shared → Prop}, L2.Inv (X.suite a ((a, oe4) :: (X.pn ++ pins))) [] σ6 H6 s6 → (∀ s7, L2.Inv X pins (σ6.set i none) H6 s7 → Q s7) →
            wpAny (model X.prog X.w) X.A (do bindName X.env n .none; unbindBehindTheSuite X.env n pos') (fun _ s7 => Q s7) X.xe s6 := fun {σ6 H6 Q} S6 hq => gone_ok (S6.unsuite ok) hN hi hln hq
          cases f with
          | next => obtain ⟨σ6, H6, S6, q6⟩ := hsp; exact end_ S6 fun s7 J7 => ⟨_, _, J7, q6⟩
          | brk => obtain ⟨σ6, H6, S6, q6⟩ := hsp; exact end_ S6 fun s7 J7 => ⟨_, _, J7, q6⟩
          | cont => obtain ⟨σ6, H6, S6, q6⟩ := hsp; exact end_ S6 fun s7 J7 => ⟨_, _, J7, q6⟩
          | ret u => obtain ⟨v6, σ6, H6, S6, r6, q6⟩ := hsp; exact end_ S6 fun s7 J7 => ⟨_, _, _, J7, r6, q6⟩
theorem ps_try_mix (hN : X.N.Nodup) (hs : X.stack = X.env :: X.outer) (hf : X.env.frame = some X.env.locals) (tk : Takes X Wout)
    (hb : ∀ (W : WX) (pn : List (Addr × Obj)) (xe : Value → Shared → Prop), Takes (X.tr pn xe) W → PassesOwn (model X.prog X.w) X.A X.env xe → PSs (X.tr pn xe) body (tb W))
    (hh : Hds X (h₀ :: hds) l) : PS X (.Try body (h₀ :: hds) [] [] pos) (fun D σ H => tb (wMix X.K Wout D l) D σ H) := by
  refine ⟨fun pins s σ H D I h => ?_⟩
  have ok := I.ok
  have hfr : X.A.frames = some (X.env :: X.outer) := by rw [ok.frames, hs]
  have catch_ : Takes (X.tr (X.pn ++ pins) (fun e s₁ => wpAny (model X.prog X.w) X.A (noteFrame e X.env) (fun _ s₂ => wpAny (model X.prog X.w) X.A (setFlight e none) (fun _ s₃ => wpAny (model X.prog X.w) X.A (handleBy e X.env (h₀ :: hds)) (SP X pins D) X.xe s₃) X.xe s₂) X.xe s₁)) (wMix X.K Wout D l) := by
    rintro u s' ⟨a, B, sI, pins', σ', H', cls, d, rfl, J', nb, up, sky, na, os, ag, w⟩
    have sky' : Sky B (X.env :: X.outer) a (Zc cls d) X.env.locals s'.heap := by rw [← hs]; exact sky
    show wpAny (model X.prog X.w) X.A (noteFrame (.ref a) X.env) _ _ _
    refine Sky.land Zc.steady hfr hf sky' fun h3 fl3 up3 => ?_
    obtain ⟨oe3, vs3, he3, hz3, hd3⟩ := fl3.there
    have nfr : a ∉ frs (X.env :: X.outer) := fun hm => by
      obtain ⟨_, o', e', hnf⟩ := fl3.2.2.1.mem hm
      rw [he3] at e'; cases e'
      exact hnf _ hd3
    refine clauses_ok (B := B) hN hs hf tk (J'.ofTry ok) nb (up.trans up3) os ag na fl3 (fun z => nfr (List.mem_filterMap.mpr ⟨X.env, List.mem_cons_self, by rw [hf, z]⟩)) (fun hm => ?_) hh w
    obtain ⟨e, he, q⟩ := List.mem_filterMap.mp hm
    exact nfr (List.mem_filterMap.mpr ⟨e, List.mem_cons_of_mem _ he, q⟩)
  refine wpAny_Try_except (wpAny_mono ((hb _ (X.pn ++ pins) _ catch_ PassesOwn.looking).run [] s σ H D (I.toTry _) h) (fun f s1 hsp => ?_) (fun e s1 he => he))
  cases f with
  | next => obtain ⟨σ', H', J', q⟩ := hsp; exact wpAny_execs_nil ⟨σ', H', J'.ofTry ok, q⟩
  | brk => obtain ⟨σ', H', J', q⟩ := hsp; exact ⟨σ', H', J'.ofTry ok, q⟩
  | cont => obtain ⟨σ', H', J', q⟩ := hsp; exact ⟨σ', H', J'.ofTry ok, q⟩
  | ret u => obtain ⟨v, σ', H', J', r, q⟩ := hsp; exact ⟨v, σ', H', J'.ofTry ok, r, q⟩
end
end Px

set_option linter.all false
set_option maxRecDepth 100000
set_option maxHeartbeats 4000000
namespace Pe
open PySem PySem.Spec PyProof.Rows L2
/-! ### a value that is a def, called -/
def mLCall (fs : List Nat) (F : Nat → List W → Hh → Rs W) (mf : M) (ml : ML) : M := fun σ h => (mf σ h).bind fun w h1 => match w with
  | .d (.fn i) => match fs.contains i with
    | true => (ml σ h1).bind fun ws h2 => F i ws h2
    | false => .no
  | _ => .no
section
variable {X : Cx} {g : Rg} {σ : L2.St} {H : Hp} {τ : List Addr} {h : Hh} {σa : Sl}
theorem pe_mLCall {k : Nat} {fs : List Nat} {F : Nat → List W → Hh → Rs W} {pos : Pos} {f e : Expr} {es : List Expr} {mf : M} {ml : ML} (G : Good g X) (hr : Room k X.A) (tk : Takes X g.W)
    (hF : ∀ i ∈ fs, ∃ np, (∃ fd ps, FnG X.prog X.w X.K X.mg X.base k (g.G.fa i) fd ps (spF g.G g.pn np (F i)) ∧ Binds X.K fd ps [] ∧ ps.length = np) ∧ PySem.W.keepIn X.K (.ref (g.G.fa i)) = true ∧ ∀ ws h, ws.length ≠ np → F i ws h = .no)
    (hc : ∀ env, eval (.Call f (e :: es) [] pos) env = (do callWith pos (← eval f env) [] (backTo pos (starEach (e :: es) env)) (backToKw pos (keywordEach [] env))))
    (hf : PE X f (tE g mf)) (ha : PA X (e :: es) (tAr g ml)) (he : starEach (e :: es) X.env = (false, eval e X.env) :: starEach es X.env) (hpl : (backTo pos (starEach es X.env)).any (·.1) = false) : PE X (.Call f (e :: es) [] pos) (tE g (mLCall fs F mf ml)) := by
  refine ⟨fun pins s σ H Q I ⟨τ, h, σa, R, S, q⟩ => ?_⟩
  rw [hc]
  have main : tE g mf σ H fun v H1 => ∃ τ1 h1 i, Nxt g σ σa H τ h H1 τ1 h1 ∧ v = .ref (g.G.fa i) ∧ i ∈ fs ∧ Fin g σ H1 τ1 h1 ((ml σa h1).bind fun ws h2 => F i ws h2) Q := tE.step' R S q fun H1 τ1 h1 w v n r F1 => by
    cases w with
    | r _ => exact F1.elim
    | d d =>
      cases d with
      | fn i =>
        cases r with
        | d r =>
          cases r
          simp only at F1
          cases z : fs.contains i with
          | true => rw [z] at F1; exact ⟨τ1, h1, i, n, rfl, by simpa using z, F1⟩
          | false => rw [z] at F1; exact F1.elim
      | _ => exact F1.elim
  refine wpAny_bind (thn (hf.run pins s σ H _ I main) fun u s1 ⟨v, H1, I1, r1, τ1, h1, i, n, ev, hi, F1⟩ => ?_)
  subst ev
  obtain rfl : u = Value.ref (g.G.fa i) := r1
  obtain ⟨np, ⟨fd, ps, Fn, hb, hnp⟩, hk, no⟩ := hF i hi
  have main2 : tAr g ml σ H1 fun vs H2 => ∃ τ2 h2 ws, HR g.G H2 τ2 h2 ∧ RWs g.G H2 τ2 h2 ws vs ∧ Fin g σ H2 τ2 h2 (F i ws h2) Q := tAr.step' n.r n.s F1 fun H2 τ2 h2 ws vs n2 r2 F2 => ⟨τ2, h2, ws, n2.r, r2, F2⟩
  refine PySem.W.callWith_K (h₀ := X.base) I1.ok.mod.kin hk (thn (ha.run pos pins s1 σ H1 _ I1 main2) fun us s2 ⟨vs, H2, I2, r2, τ2, h2, ws, R2, rw2, F2⟩ => ⟨I2.kIn, ?_⟩) he hpl
  by_cases hw : ws.length = np
  · exact tFnG Fn hr G.gu hb tk hnp I2 r2 R2 rw2 hw F2
  · rw [no ws h2 hw] at F2
    exact absurd F2 id
/-! ### tuple(range(..)), list(range(..)) -/
def rgD (i j : Int) : List D := (List.range (j - i).toNat).map fun n => .int (i + (n : Nat))
def rgB (i j : Int) : Bool := decide (-4611686018427387904 ≤ i) && decide (i < 4611686018427387904) && decide (-4611686018427387904 ≤ j) && decide (j < 4611686018427387904) && decide ((j - i).toNat ≤ SZ)
def rgR (t : Bool) (i j : Int) (h : Hh) : Rs W := match rgB i j with
  | true => match t with
    | true => .ok (.d (.tup (rgD i j))) h
    | false => .ok (.r h.length) (h ++ [.lst (rgD i j)])
  | false => .no
def mRg1 (t : Bool) (a : M) : M := fun σ h => (a σ h).bind fun w h1 => match w with
  | .d (.int j) => rgR t 0 j h1
  | _ => .no
def mRg2 (t : Bool) (a b : M) : M := fun σ h => (a σ h).bind fun w h1 => (b σ h1).bind fun w2 h2 => match w with
  | .d (.int i) => (match w2 with
    | .d (.int j) => rgR t i j h2
    | _ => .no)
  | _ => .no
def rgQ (t : Bool) (Q : VK) (H : Hp) (i j : Int) : Prop := match t with
  | true => ∀ (q : Addr) (its : Array Value), H q = none → Q (.ref q) (upd H q (xT its (rgV i j)))
  | false => ∀ q : Addr, H q = none → Q (.ref q) (upd H q (.lst (rgV i j)))
theorem rg_RDs {G : Cfg} {T : Addr → Prop} (i j : Int) : RDs G H T (rgD i j) (rgV i j) := by
  unfold rgD rgV
  generalize List.range (j - i).toNat = l
  induction l with
  | nil => exact .nil
  | cons x xs ih => exact .cons (.int _) ih
theorem rgR_ok {Q : VK} {t : Bool} {i j : Int} (R : HR g.G H τ h) (F : Fin g σ H τ h (rgR t i j h) Q) : RgOk i j ∧ rgQ t Q H i j := by
  unfold rgR at F
  split at F
  · rename_i e
    unfold rgB at e
    simp only [Bool.and_eq_true, decide_eq_true_eq] at e
    obtain ⟨⟨⟨⟨b1, b2⟩, b3⟩, b4⟩, b5⟩ := e
    have ok : RgOk i j := ⟨b1, b2, b3, b4, b5⟩
    have z : (rgV i j).length ≤ sizeLine := by rw [rgV_length, szEq]; exact b5
    refine ⟨ok, ?_⟩
    cases t with
    | true => exact fun q its n => Fin.tup R F (rg_RDs i j) z n
    | false => exact fun q n => Fin.lst R F (rg_RDs i j) z n
  · exact F.elim
theorem rg1_of {Q : VK} {t : Bool} {a : M} (q : tE g (mRg1 t a) σ H Q) : tRg1 (tE g a) σ H fun i j H1 => RgOk i j ∧ rgQ t Q H1 i j := by
  obtain ⟨τ, h, σa, R, S, F⟩ := q
  refine tE.step' R S F fun H1 τ1 h1 w v n r F1 => ?_
  cases w with
  | r _ => exact F1.elim
  | d d =>
    cases d with
    | int j =>
      cases r with
      | d r => cases r; exact ⟨j, rfl, rgR_ok n.r F1⟩
    | _ => exact F1.elim
theorem rg2_of {Q : VK} {t : Bool} {a b : M} (q : tE g (mRg2 t a b) σ H Q) : tRg2 (tE g a) (tE g b) σ H fun i j H1 => RgOk i j ∧ rgQ t Q H1 i j := by
  obtain ⟨τ, h, σa, R, S, F⟩ := q
  refine tE.step' R S F fun H1 τ1 h1 w v n r F1 => tE.step' n.r n.s F1 fun H2 τ2 h2 w2 v2 n2 r2 F2 => ?_
  cases w with
  | r _ => exact F2.elim
  | d d =>
    cases d with
    | int i =>
      cases w2 with
      | r _ => exact F2.elim
      | d d2 =>
        cases d2 with
        | int j =>
          cases r with
          | d r =>
            cases r2 with
            | d r2 => cases r; cases r2; exact ⟨i, j, rfl, rfl, rgR_ok n2.r F2⟩
        | _ => exact F2.elim
    | _ => exact F2.elim
theorem pe_rgT {e : Expr} {p pos : Pos} {te : L2.St → Hp → (Int → Int → Hp → Prop) → Prop} {m : M} (hc : X.calm = true) (hg : Gl X "tuple") (hm : X.mg "tuple" = none) (he : PRg X e te) (na : starEach [e] X.env = (false, eval e X.env) :: starEach [] X.env)
    (k : ∀ σ H Q, tE g m σ H Q → te σ H fun i j H1 => RgOk i j ∧ ∀ q its, H1 q = none → Q (.ref q) (upd H1 q (xT its (rgV i j)))) : PE X (.Call (.Name "tuple" p) [e] [] pos) (tE g m) := pe_weak (pe_tupRgX hc hg hm he na) k
theorem pe_rgL {e : Expr} {p pos : Pos} {te : L2.St → Hp → (Int → Int → Hp → Prop) → Prop} {m : M} (hc : X.calm = true) (hg : Gl X "list") (hm : X.mg "list" = none) (he : PRg X e te) (na : starEach [e] X.env = (false, eval e X.env) :: starEach [] X.env)
    (k : ∀ σ H Q, tE g m σ H Q → te σ H fun i j H1 => RgOk i j ∧ ∀ q, H1 q = none → Q (.ref q) (upd H1 q (.lst (rgV i j)))) : PE X (.Call (.Name "list" p) [e] [] pos) (tE g m) := pe_weak (pe_listRg hc hg hm he na) k
end
end Pe

set_option linter.all false
set_option maxRecDepth 100000
set_option maxHeartbeats 4000000
namespace Pe
open PySem PySem.Spec PyProof.Rows L2
/-! ### raise, try -/
def sRaise0 (c : Nat) : MS := fun σ h => .ex c .non σ h
def sRaise (c : Nat) (m : M) : MS := fun σ h => .of σ (m σ h) fun w h1 => match fzW w h1 with
  | some (d, h2) => .ex c d σ h2
  | none => .no
mutual
inductive Su where
  | con (d : D) | at_ (c : Nat) (i : Nat) (nm : Str) | rep (z : List Nat) (c i : Nat) (nm : Str) | tup (l : Sus)
inductive Sus where
  | nil | cons (a : Su) (l : Sus)
end
def scD : D → Bool
  | .non => true
  | .bl _ => true
  | .int _ => true
  | .str z => decide (z.length ≤ SZ)
  | _ => false
mutual
def suV (c : Nat) (x : D) : Su → Option D
  | .con d => if scD d then some d else none
  | .at_ c0 _ _ => if c0 = c then some x else none
  | .rep z c0 _ _ => if c0 = c ∧ shows0 x = true ∧ z.length + (shc0 x).length ≤ SZ then some (.str (z ++ shc0 x)) else none
  | .tup l => match suVs c x l with
    | some ds => if ds.length ≤ SZ then some (.tup ds) else none
    | none => none
def suVs (c : Nat) (x : D) : Sus → Option (List D)
  | .nil => some []
  | .cons a l => match suV c x a with
    | some d => (match suVs c x l with
      | some ds => some (d :: ds)
      | none => none)
    | none => none
end
/-- the classes, the name's slot, the suite -/
abbrev Hd : Type := List Nat × Option Nat × Su
def tryGo (c : Nat) (x : D) (σ : Sl) (h : Hh) : List Hd → RsS
  | [] => .ex c x σ h
  | (ms, o, s) :: r => match ms.contains c with
    | true => (match (match o with | none => true | some i => decide (i < σ.length)) with
      | true => (match suV c x s with
        | some y => .rt (.d y) h
        | none => .no)
      | false => .no)
    | false => tryGo c x σ h r
def sTry (nx : Nat) (hs : List Hd) (b : MS) : MS := fun σ h => match b σ h with
  | .ex c x σ1 h1 => (match decide (c < nx) with
    | true => tryGo c x σ1 h1 hs
    | false => .no)
  | r => r
section
variable {X : Cx} {g : Rg} {σ : L2.St} {H H' : Hp} {τ τ' : List Addr} {h h' : Hh} {σa : Sl} {D : Ends}
theorem XRel.grow (R : HR g.G H τ h) (e : Ext H τ h H' τ' h') {c : Nat} {x : Pe.D} {cls : Value} {d : Option Addr} (q : XRel g.G g.pn H (Trk τ h) c x cls d) : XRel g.G g.pn H' (Trk τ' h') c x cls d := by
  obtain ⟨e1, q⟩ := q
  refine ⟨e1, q.imp id ?_⟩
  rintro ⟨dd, nm, vv, a, b, c2, t, r⟩
  exact ⟨dd, nm, vv, a, b, e.g.keep _ _ c2 trivial t, e.g.nt c2 trivial t, r.grow R.noTup e.g⟩
/-! #### a suite's expressions -/
def SuSt (g : Rg) (a : Addr) (cls : Value) (d : Option Addr) (c : Nat) (x : Pe.D) (o : Option Nat) (σ : L2.St) (H : Hp) (τ : List Addr) (h : Hh) : Prop :=
  HR g.G H τ h ∧ (∀ i, o = some i → σ[i]? = some (some (.ref a))) ∧ XRel g.G g.pn H (Trk τ h) c x cls d
def tSu (g : Rg) (a : Addr) (cls : Value) (d : Option Addr) (o : Option Nat) (s : Su) : TE := fun σ H Q => ∃ τ h c x y, SuSt g a cls d c x o σ H τ h ∧ suV c x s = some y ∧ ∀ τ' H' v, Ext H τ h H' τ' h → HR g.G H' τ' h → RD g.G H' (Trk τ' h) y v → Q v H'
def tSus (g : Rg) (a : Addr) (cls : Value) (d : Option Addr) (o : Option Nat) (s : Sus) : TA := fun σ H Q => ∃ τ h c x ys, SuSt g a cls d c x o σ H τ h ∧ suVs c x s = some ys ∧ ∀ τ' H' vs, Ext H τ h H' τ' h → HR g.G H' τ' h → RDs g.G H' (Trk τ' h) ys vs → Q vs H'
variable {a : Addr} {cls : Value} {d : Option Addr} {o : Option Nat} {oe : Obj} {pn : List (Addr × Obj)} {e : Expr} {es : List Expr} {pos : Pos}
theorem pe_su_con {y : Pe.D} {V0 : V} {e : Expr} (p : PE (X.suite a ((a, oe) :: pn)) e (tC V0)) (r : ∀ H T, scD y = true → RD g.G H T y V0) : PE (X.suite a ((a, oe) :: pn)) e (tSu g a cls d o (.con y)) :=
  pe_weak p fun σ H Q ⟨τ, h, c, x, y', st, ey, q⟩ => by
    unfold suV at ey
    split at ey
    · rename_i hy
      cases ey
      exact q τ H V0 Ext.refl st.1 (r H _ hy)
    · cases ey
theorem pe_su_at {c0 i : Nat} {nm n : Str} {p : Pos} (hpn : g.pn c0 = some nm) (T : XfC X.K (g.G.ca c0)) (hno : PySem.W.findIn X.K (.ref (g.G.ca c0)) nm = some none) (hz : Zc cls d oe) (hf : ∃ vs, oe.data = .fields vs) (hN : X.N[i]? = some n) (hv : Vis X.env.scope n)
    (hd1 : (n == ("__debug__" : Str)) = false) (hd2 : (n == ("__classdict__" : Str)) = false) : PE (X.suite a ((a, oe) :: pn)) (.Attribute (.Name n p) nm pos) (tSu g a cls d (some i) (.at_ c0 i nm)) := by
  refine pe_weak (pe_xf (C := g.G.ca c0) T hno hz hf (pe_var (X := X.suite a ((a, oe) :: pn)) (pos := p) (i := i) hN hv hd1 hd2)) fun σ H Q ⟨τ, h, c, x, y, st, ey, q⟩ => ?_
  unfold suV at ey
  split at ey
  · rename_i ec
    cases ey
    subst ec
    obtain ⟨R, sl, ecl, xr⟩ := st
    rcases xr with ⟨e1, _⟩ | ⟨dd, nm2, vv, e1, e2, e3, e4, e5⟩
    · rw [hpn] at e1; cases e1
    · rw [hpn] at e1
      cases e1
      exact ⟨.ref a, sl i rfl, rfl, ecl, dd, _, vv, e2, e3, by simp [List.lookup], q τ H vv Ext.refl R e5⟩
  · cases ey
theorem guards_mark (A : Around) (v : Option Value) : (A.mark v).guards = A.guards := by first | rfl | (cases A; rfl)
theorem units_mark (A : Around) (v : Option Value) : (A.mark v).units = A.units := by first | rfl | (cases A; rfl)
theorem pe_su_rep {c0 i : Nat} {z : List Nat} {nm n : Str} {j : Nat} {p p1 p2 p3 p4 : Pos} (Gd : Good g X) (hpn : g.pn c0 = some nm) (T : XfC X.K (g.G.ca c0)) (hno : PySem.W.findIn X.K (.ref (g.G.ca c0)) nm = some none) (hz : Zc cls d oe) (hf : ∃ vs, oe.data = .fields vs) (hN : X.N[i]? = some n) (hv : Vis X.env.scope n)
    (hd1 : (n == ("__debug__" : Str)) = false) (hd2 : (n == ("__classdict__" : Str)) = false) (hg : Gl X "repr") (hm : X.mg "repr" = none) :
    PE (X.suite a ((a, oe) :: pn)) (.BinOp (.Constant (.str (txt z)) j p1) .Add (.Call (.Name "repr" p2) [.Attribute (.Name n p) nm p3] [] p4) pos) (tSu g a cls d (some i) (.rep z c0 i nm)) := by
  have A := pe_su_at (g := g) (a := a) (pn := pn) (pos := p3) (p := p) hpn T hno hz hf hN hv hd1 hd2
  have gu : (X.suite a ((a, oe) :: pn)).A.guards = some [] := (guards_mark X.A _).trans Gd.gu
  have hu : (X.suite a ((a, oe) :: pn)).A.units + 200 < cLine := by
    show (X.A.mark _).units + 200 < cLine
    rw [units_mark]
    exact Gd.hu
  have B := pe_callB (X := X.suite a ((a, oe) :: pn)) (p := p2) (pos := p4) (call_repr0 (X := X.suite a ((a, oe) :: pn)) (g := g) Gd.hK gu hu) hg hm PyProof.Rows.boot_repr (pa_cons A pa_nil rfl) (by decide) (by decide) rfl rfl
  refine pe_weak (pe_op (X := X.suite a ((a, oe) :: pn)) (op_add_str (X := X.suite a ((a, oe) :: pn))) pe_str B) fun σ H Q ⟨τ, h, c, x, y, st, ey, q⟩ => ?_
  unfold suV at ey
  split at ey
  · rename_i hc
    obtain ⟨rfl, sh, len⟩ := hc
    cases ey
    refine ⟨τ, h, c0, x, x, st, by unfold suV; rw [if_pos rfl], fun τ' H' v e' R' r' => ⟨v, x, _, rfl, sh, .rd r', ?_⟩⟩
    refine ⟨_, _, rfl, rfl, ?_, ?_⟩
    · rw [txt_len, txt_len, szEq]
      exact len
    · rw [txt_add]
      exact q τ' H' _ e' R' (.str _ (by rw [szEq, List.length_append]; exact len))
  · cases ey
theorem pa_su_nil : PA (X.suite a ((a, oe) :: pn)) [] (tSus g a cls d o .nil) := pa_weak pa_nil fun σ H Q ⟨τ, h, c, x, ys, st, ey, q⟩ => by
  unfold suVs at ey
  cases ey
  exact q τ H [] Ext.refl st.1 .nil
theorem pa_su_cons {s : Su} {l : Sus} (h1 : PE (X.suite a ((a, oe) :: pn)) e (tSu g a cls d o s)) (h2 : PA (X.suite a ((a, oe) :: pn)) es (tSus g a cls d o l)) (he : ∀ env, starEach (e :: es) env = (false, eval e env) :: starEach es env) : PA (X.suite a ((a, oe) :: pn)) (e :: es) (tSus g a cls d o (.cons s l)) :=
  pa_weak (pa_cons h1 h2 (he _)) fun σ H Q ⟨τ, h, c, x, ys, st, ey, q⟩ => by
    unfold suVs at ey
    split at ey
    · rename_i y e1
      split at ey
      · rename_i zs e2
        cases ey
        refine ⟨τ, h, c, x, y, st, e1, fun τ1 H1 v x1 R1 r1 => ⟨τ1, h, c, x, zs, ⟨R1, st.2.1, st.2.2.grow st.1 x1⟩, e2, fun τ2 H2 vs x2 R2 r2 => q τ2 H2 (v :: vs) (x1.trans x2) R2 (.cons (r1.grow R1.noTup x2.g) r2)⟩⟩
      · cases ey
    · cases ey
theorem pe_su_tup {l : Sus} {k : Nat} (h1 : PA (X.suite a ((a, oe) :: pn)) es (tSus g a cls d o l)) : PE (X.suite a ((a, oe) :: pn)) (.Tuple es k pos) (tSu g a cls d o (.tup l)) :=
  pe_weak (pe_tupX h1) fun σ H Q ⟨τ, h, c, x, y, st, ey, q⟩ => by
    unfold suV at ey
    split at ey
    · rename_i ds e1
      split at ey
      · rename_i len
        cases ey
        refine ⟨τ, h, c, x, ds, st, e1, fun τ1 H1 vs x1 R1 r1 => ?_⟩
        have z : vs.length ≤ sizeLine := by rw [← r1.len, szEq]; exact len
        refine ⟨z, fun p its n => ?_⟩
        obtain ⟨e2, R2⟩ := R1.beside (o := xT its vs) n
        exact q τ1 _ _ (x1.trans e2) R2 (.tup .new z (r1.grow R1.noTup e2.g))
      · cases ey
    · cases ey
/-! #### the statements -/
theorem ps_sRaise0 {C : Addr} {c n : Nat} {x m : Str} {j : Nat} {p p2 pos' : Pos} (Gd : Good g X) (tk : Takes X g.W) (hca : g.G.ca c = C) (hpn : g.pn c = none) (q : PySem.W.excIn X.K C (Px.bsM n) (Px.bsN n) = true) (gC : X.mg x = some (.ref C)) (kC : PySem.W.keepIn X.K (.ref C) = true) (r : Raises X (.ref C)) (hg : Gl X x)
    (hdb : (x == ("__debug__" : Str)) = false) : PS X (.Raise (some (.Call (.Name x p) [.Constant (.str m) j p2] [] pos')) none pos) (tS g (sRaise0 c)) :=
  ps_weak (ps_raise Gd.calm tk (pmk_own (Px.bsF n).1 q gC kC r hg hdb)) fun D σ H ⟨τ, h, σa, R, S, F⟩ => F τ H σ (.ref C) none Ext.refl R S ⟨by rw [hca], .inl ⟨hpn, rfl⟩⟩
theorem ps_sRaise {C fI : Addr} {c n : Nat} {x attr arg : Str} {e : Expr} {m : M} {p pos' : Pos} (Gd : Good g X) (tk : Takes X g.W) (hca : g.G.ca c = C) (hpn : g.pn c = some attr) (hs : Px.supB X.prog X.K n C fI attr arg = true) (hr : Room 1 X.A) (hg : Gl X x) (hm : X.mg x = some (.ref C)) (he : PE X e (tE g m))
    (hst : starEach [e] X.env = (false, eval e X.env) :: starEach [] X.env) (hdb : (x == ("__debug__" : Str)) = false) : PS X (.Raise (some (.Call (.Name x p) [e] [] pos')) none pos) (tS g (sRaise c m)) :=
  ps_weak (ps_raise Gd.calm tk (Px.pmk_sup (pos := pos') (p := p) hs hr hg hm he hst hdb)) fun D σ H ⟨τ, h, σa, R, S, F⟩ => by
    refine tE.stepS R S F fun H1 τ1 h1 w v nx r F1 => ?_
    split at F1
    · rename_i x0 h2 ef
      obtain ⟨x1, R1, rd⟩ := fzW_ok nx.r r ef
      intro dd hdd
      obtain ⟨x2, R2⟩ := R1.beside (o := .xd [(attr, v)]) hdd
      exact F1 τ1 _ σ (.ref C) (some dd) (x1.trans x2) R2 ((nx.s.grow nx.r x1).grow R1 x2) ⟨by rw [hca], .inr ⟨dd, attr, v, hpn, rfl, upd_same, fun t => R1.there t hdd, rd.grow R1.noTup x2.g⟩⟩
    · exact F1.elim
/-- a clause of the text -/
structure HdOk (X : Cx) (g : Rg) (nx : Nat) (hd : ExceptHandler) (x : Hd) (k : Px.Cl) : Prop where
  ex : ∃ (y : Str) (np pos' : Pos) (nm : Option Str) (e : Expr) (p : Pos) (c' : Nat), hd = .ExceptHandler (some (.Name y np)) nm [.Return (some e) p] pos' ∧ k = (.ref (g.G.ca c'), x.2.1, fun a cls d => tRet (tSu g a cls d x.2.1 x.2.2)) ∧ Names X y (.ref (g.G.ca c')) ∧
    (match x.2.1, nm with | none, none => True | some i, some n => X.N[i]? = some n ∧ X.env.kindOf n = some .local | _, _ => False) ∧
    (∀ c, c < nx → PySem.W.exmOne X.K (.ref (g.G.ca c)) (.ref (g.G.ca c')) = some (x.1.contains c)) ∧
    ∀ (a : Addr) (oe : Obj) (cls : Value) (d : Option Addr) (pn : List (Addr × Obj)), Zc cls d oe → (∃ vs, oe.data = .fields vs) → PE (X.suite a ((a, oe) :: pn)) e (tSu g a cls d x.2.1 x.2.2)
inductive HdsOk2 (X : Cx) (g : Rg) (nx : Nat) : List ExceptHandler → List Hd → List Px.Cl → Prop
  | nil : HdsOk2 X g nx [] [] []
  | cons {hd : ExceptHandler} {x : Hd} {k : Px.Cl} {hds : List ExceptHandler} {xs : List Hd} {ks : List Px.Cl} : HdOk X g nx hd x k → HdsOk2 X g nx hds xs ks → HdsOk2 X g nx (hd :: hds) (x :: xs) (k :: ks)
theorem HdsOk2.hds {nx : Nat} : ∀ {hds : List ExceptHandler} {xs : List Hd} {ks : List Px.Cl}, HdsOk2 X g nx hds xs ks → Px.Hds X hds ks
  | _, _, _, .nil => .nil
  | _, _, _, .cons a b => by
    obtain ⟨y, np, pos', nm, e, p, c', rfl, rfl, h1, h2, h3, h4⟩ := a.ex
    exact .cons h1 h2 (fun a oe cls d pn hz hf => pss_one (ps_ret (h4 a oe cls d pn hz hf))) b.hds
theorem tryGo_ok {nx c : Nat} {x : Pe.D} {cls : Value} {d : Option Addr} {σ1 : Sl} (hc : c < nx) (xr : XRel g.G g.pn H (Trk τ h) c x cls d) (R : HR g.G H τ h) (S : SR g.G H τ h σ1 σ) : ∀ {hds : List ExceptHandler} {xs : List Hd} {ks : List Px.Cl}, HdsOk2 X g nx hds xs ks →
    FinS g D H τ h (tryGo c x σ1 h xs) → Px.wMix X.K g.W D ks cls d σ H
  | _, _, _, .nil, F => F τ H σ cls d Ext.refl R S xr
  | _, _, _, .cons (x := ⟨ms, o, s⟩) hx b, F => by
    obtain ⟨y, np, pos', nm, e, p, c', _, rfl, h1, h2, h3, h4⟩ := hx.ex
    have ecl := xr.1
    refine ⟨ms.contains c, by rw [ecl]; exact h3 c hc, fun hb a na => ?_, fun hb => ?_⟩
    · unfold tryGo at F
      rw [hb] at F
      simp only at F
      split at F
      · rename_i ho
        split at F
        · rename_i y2 ey
          refine ⟨τ, h, c, x, y2, ⟨R, fun i ei => ?_, xr⟩, ey, fun τ' H' v e' R' r' => ?_⟩
          · have ei : o = some i := ei
            subst ei
            have lt : i < σ1.length := of_decide_eq_true ho
            show (σ.set i (some (.ref a)))[i]? = _
            rw [List.getElem?_set_self (by rw [← S.len]; exact lt)]
          · have q := F τ' H' v e' R' (.d r')
            cases o <;> exact q
        · exact F.elim
      · exact F.elim
    · unfold tryGo at F
      rw [hb] at F
      exact tryGo_ok hc xr R S b F
theorem ps_sTry {nx : Nat} {body : List Stmt} {hd : ExceptHandler} {hds : List ExceptHandler} {xs : List Hd} {ks : List Px.Cl} {b : MS} (Gd : Good g X) (hst : X.stack = X.env :: X.outer) (hfr : X.env.frame = some X.env.locals) (tk : Takes X g.W)
    (hb : ∀ (W : WX) (pn : List (Addr × Obj)) (xe : Value → Shared → Prop), Takes (X.tr pn xe) W → PassesOwn (model X.prog X.w) X.A X.env xe → PSs (X.tr pn xe) body (tS ⟨g.G, g.pn, W⟩ b)) (hh : HdsOk2 X g nx (hd :: hds) xs ks) :
    PS X (.Try body (hd :: hds) [] [] pos) (tS g (sTry nx xs b)) :=
  ps_weak (Px.ps_try_mix (tb := fun W => tS ⟨g.G, g.pn, W⟩ b) Gd.nd hst hfr tk hb hh.hds) fun D σ H ⟨τ, h, σa, R, S, F⟩ => by
    refine ⟨τ, h, σa, R, S, ?_⟩
    unfold sTry at F
    cases e : b σa h with
    | ex c x σ1 h1 =>
      rw [e] at F
      simp only at F
      split at F
      · rename_i hc
        intro τ' H' σ' cls d x' R' S' xr
        exact tryGo_ok (g := g) (of_decide_eq_true hc) xr R' S' hh (FinS.ext x' F)
      · exact F.elim
    | nx _ _ => rw [e] at F; exact F
    | rt _ _ => rw [e] at F; exact F
    | bk _ _ => rw [e] at F; exact F
    | ct _ _ => rw [e] at F; exact F
    | no => rw [e] at F; exact F
end
end Pe

set_option linter.all false
set_option maxRecDepth 100000
set_option maxHeartbeats 4000000
namespace Pe
open PySem PySem.Spec PyProof.Rows L2
/-! ### calls with written data alone: the callee sees nothing that may change -/
mutual
def flat : D → Bool
  | .non => true
  | .bl _ => true
  | .int _ => true
  | .str _ => true
  | .tup xs => flatL xs
  | .scr xs => flatL xs
  | .fn _ => true
  | .cls _ => true
  | _ => false
def flatL : List D → Bool
  | [] => true
  | x :: xs => flat x && flatL xs
end
def pureW : List W → Bool
  | [] => true
  | .d _ :: ws => pureW ws
  | .r _ :: _ => false
def pureR (f : List W → Hh → Rs W) (ws : List W) (h : Hh) : Rs W := match pureW ws with
  | true => match f ws [] with
    | .ok (.d d) _ => (match flat d with
      | true => .ok (.d d) h
      | false => .no)
    | .ex c x _ => (match flat x with
      | true => .ex c x h
      | false => .no)
    | _ => .no
  | false => .no
section
variable {G : Cfg} {pn : PnT} {H H' : Hp} {τ τ' : List Addr} {h h' : Hh} {T T' : Addr → Prop}
mutual
theorem RD.untrk (n : ∀ a, T' a → T a) : ∀ {d : D} {v : V}, RD G H T d v → RD G H T' d v
  | _, _, .non => .non
  | _, _, .bl b => .bl b
  | _, _, .int i => .int i
  | _, _, .str s h => .str s h
  | _, _, .tup a b c => .tup a b (RDs.untrk n c)
  | _, _, .tupS a b q c => .tupS a b q (RDs.untrk n c)
  | _, _, .set a b c => .set a b (RDs.untrk n c)
  | _, _, .lst a b z c => .lst a (fun t => b (n _ t)) z (RDs.untrk n c)
  | _, _, .scr a b c => .scr a b (RDs.untrk n c)
  | _, _, .dic a b z c => .dic a (fun t => b (n _ t)) z (RDe.untrk n c)
  | _, _, .fn i => .fn i
  | _, _, .cls i => .cls i
theorem RDs.untrk (n : ∀ a, T' a → T a) : ∀ {ds : List D} {vs : List V}, RDs G H T ds vs → RDs G H T' ds vs
  | _, _, .nil => .nil
  | _, _, .cons a b => .cons (RD.untrk n a) (RDs.untrk n b)
theorem RDe.untrk (n : ∀ a, T' a → T a) : ∀ {ks ds : List D} {es : List DictEntry}, RDe G H T ks ds es → RDe G H T' ks ds es
  | _, _, _, .nil => .nil
  | _, _, _, .cons a b c d e f => .cons a (RD.untrk n b) c (RD.untrk n d) e (RDe.untrk n f)
end
mutual
theorem RD.flat : ∀ {d : D} {v : V}, Pe.flat d = true → RD G H T d v → RD G H T' d v
  | _, _, _, .non => .non
  | _, _, _, .bl b => .bl b
  | _, _, _, .int i => .int i
  | _, _, _, .str s h => .str s h
  | _, _, f, .tup a b c => .tup a b (RDs.flat (by simpa [Pe.flat] using f) c)
  | _, _, f, .tupS a b q c => .tupS a b q (RDs.flat (by simpa [Pe.flat] using f) c)
  | _, _, f, .set a b c => by simp [Pe.flat] at f
  | _, _, f, .lst a b z c => by simp [Pe.flat] at f
  | _, _, f, .scr a b c => .scr a b (RDs.flat (by simpa [Pe.flat] using f) c)
  | _, _, f, .dic a b z c => by simp [Pe.flat] at f
  | _, _, _, .fn i => .fn i
  | _, _, _, .cls i => .cls i
theorem RDs.flat : ∀ {ds : List D} {vs : List V}, flatL ds = true → RDs G H T ds vs → RDs G H T' ds vs
  | _, _, _, .nil => .nil
  | _, _, f, .cons a b => by
    unfold flatL at f
    rw [Bool.and_eq_true] at f
    exact .cons (RD.flat f.1 a) (RDs.flat f.2 b)
end
theorem RWs.pure0 : ∀ {ws : List W} {vs : List V}, pureW ws = true → RWs G H τ h ws vs → RWs G H [] [] ws vs
  | _, _, _, .nil => .nil
  | _, _, p, .cons (.d a) b => .cons (.d (a.untrk fun _ t => by obtain ⟨i, o, e, _⟩ := t; simp at e)) (RWs.pure0 (by simpa [pureW] using p) b)
  | _, _, p, .cons (.r a) b => by simp [pureW] at p
theorem HR.none : HR G H [] [] := ⟨rfl, (fun _ _ _ e => by simp at e), (fun _ _ _ _ _ e => by simp at e)⟩
theorem no_trk {a : Addr} : ¬ Trk [] [] a := fun t => by obtain ⟨i, o, e, _⟩ := t; simp at e
/-- the caller's things stand behind such a call -/
theorem Ext.over (e : Ext H [] [] H' τ' h') : Ext H τ h H' τ h :=
  ⟨⟨fun a o p k _ => e.g.keep a o p k no_trk, fun _ t => .inl t⟩, fun _ _ q => q, e.k⟩
theorem HR.over (R : HR G H τ h) (e : Ext H [] [] H' τ' h') : HR G H' τ h := by
  refine ⟨R.len, fun i a o e1 e2 => ?_, R.inj⟩
  have g : Grow (Trk τ h) H (Trk τ h) H' := (Ext.over (τ := τ) (h := h) e).g
  cases R.ob i a o e1 e2 with
  | lst q z c => exact .lst (e.g.keep _ _ q trivial no_trk) z (c.grow R.noTup g)
  | dic q z c => exact .dic (e.g.keep _ _ q trivial no_trk) z (c.grow R.noTup g)
  | fz c => exact .fz (c.grow R.noTup g)
theorem HR.not_xd (R : HR G H τ h) {a : Addr} {l : List (Str × V)} (e : H a = some (.xd l)) : ¬ Trk τ h a := fun t => by
  obtain ⟨i, o, e1, e2, m⟩ := t
  cases R.ob i a o e1 e2 with
  | lst q _ _ => rw [e] at q; cases q
  | dic q _ _ => rw [e] at q; cases q
  | fz _ => cases m
theorem spF_pure {np : Nat} {F : List W → Hh → Rs W} {vs : List V} {Q : VK} {E : XK} (q : spF G pn np (pureR F) vs H Q E) : spF G pn np F vs H Q E := by
  obtain ⟨hl, τ, h, ws, R, rw_, F1⟩ := q
  unfold pureR at F1
  split at F1
  · rename_i hp
    refine ⟨hl, [], [], ws, .none, rw_.pure0 hp, ?_⟩
    split at F1
    · rename_i d h1 e
      rw [e]
      split at F1
      · rename_i hf
        intro τ' H' v x R' r
        cases r with
        | d r => exact F1 τ H' v x.over (R.over x) (.d (r.flat hf))
      · exact F1.elim
    · rename_i c x0 h1 e
      rw [e]
      split at F1
      · rename_i hf
        intro τ' H' cls d x R' xr
        have R2 := R.over x
        refine F1 τ H' cls d x.over R2 ⟨xr.1, ?_⟩
        rcases xr.2 with q | ⟨dd, nm, vv, e1, e2, e3, e4, e5⟩
        · exact .inl q
        · exact .inr ⟨dd, nm, vv, e1, e2, e3, R2.not_xd e3, e5.flat hf⟩
      · exact F1.elim
    · exact F1.elim
  · exact F1.elim
theorem FnG.pure {P : Program} {w : World} {K : PySem.W.Frag} {mg : Str → Option Value} {base : Heap} {k np : Nat} {f : Addr} {fd : FuncData} {ps : List Str} {F : List W → Hh → Rs W} (Fn : FnG P w K mg base k f fd ps (spF G pn np F)) : FnG P w K mg base k f fd ps (spF G pn np (pureR F)) :=
  ⟨fun vs H Q E q => Fn.len vs H Q E (spF_pure q), fun A outer s H args us vs Q E a b c d e q => Fn.run A outer s H args us vs Q E a b c d e (spF_pure q)⟩
end
end Pe

set_option linter.all false
set_option maxRecDepth 100000
set_option maxHeartbeats 4000000
namespace Pe
open PySem PySem.Spec PyProof.Rows L2
/-! ### o[i], p[j], .. = a tuple -/
def putGo : List (M × M) → List D → Sl → Hh → RsS
  | [], [], σ, h => .nx σ h
  | (mo, mi) :: l, d :: ds, σ, h => .of σ (mo σ h) fun wo h1 => .of σ (mi σ h1) fun wi h2 => match stR (.d d) wo wi h2 with
    | some h3 => putGo l ds σ h3
    | none => .no
  | _, _, _, _ => .no
def sPutT (l : List (M × M)) (m : M) : MS := fun σ h => .of σ (m σ h) fun w h1 => match w with
  | .d (.tup ds) => match ds.length == l.length with
    | true => putGo l ds σ h1
    | false => .no
  | _ => .no
section
variable {X : Cx} {g : Rg} {σ : L2.St} {H H' : Hp} {τ τ' : List Addr} {h h' : Hh} {σa : Sl} {D : Ends}
def gPuts (g : Rg) : List (M × M) → TGs
  | [] => gNil
  | (mo, mi) :: l => gCons (gSub (tE g mo) (tE g mi) (rStR g)) (gPuts g l)
theorem puts_of (G : Good g X) : ∀ (l : List (M × M)) {H : Hp} {τ : List Addr} {h : Hh} {ds : List Pe.D} {vs : List V}, HR g.G H τ h → SR g.G H τ h σa σ → RDs g.G H (Trk τ h) ds vs → FinS g D H τ h (putGo l ds σa h) → gPuts g l vs σ H D.nx
  | [], H, τ, h, [], _, R, S, .nil, F => ⟨rfl, F τ H σ Ext.refl R S⟩
  | [], H, τ, h, _ :: _, _, R, S, _, F => by cases F
  | (mo, mi) :: l, H, τ, h, [], _, R, S, _, F => by cases F
  | (mo, mi) :: l, H, τ, h, d :: ds, _, R, S, .cons (v := v) (vs := vs) r rs, F => by
    refine ⟨v, vs, rfl, ?_⟩
    refine tE.stepS R S F fun H2 τ2 h2 wo vo n2 r2 F2 => tE.stepS n2.r n2.s F2 fun H3 τ3 h3 wi vi n3 r3 F3 => ?_
    split at F3
    · rename_i h4 e
      have x3 := n2.e.trans n3.e
      refine ⟨τ3, h3, .d d, wo, wi, h4, n3.r, .d (r.grow R.noTup x3.g), r2.grow n2.r n3.e, r3, e, fun τ' H' x R' => ?_⟩
      exact puts_of G l R' (n3.s.grow n3.r x) (rs.grow R.noTup (x3.trans x).g) (FinS.ext x F3)
    · exact F3.elim
theorem tPutT_of (G : Good g X) {l : List (M × M)} {m : M} (q : tS g (sPutT l m) D σ H) : tAsg (tE g m) (gTup X.K l.length (gPuts g l)) D σ H := by
  obtain ⟨τ, h, σa, R, S, F⟩ := q
  refine tE.stepS R S F fun H1 τ1 h1 w v n r F1 => ?_
  split at F1
  · rename_i ds
    split at F1
    · rename_i el
      cases r with
      | d r =>
        obtain ⟨a, vs, rfl, sq, z, rs⟩ := r.tup_
        · rw [G.hK] at sq
          exact ⟨a, vs, rfl, sq, by rw [← rs.len]; exact eq_of_beq el, puts_of G l n.r n.s rs F1⟩
    · exact F1.elim
  · exact F1.elim
theorem ps_sPutT (G : Good g X) {l : List (M × M)} {m : M} {es : List Expr} {k : Nat} {p2 pos : Pos} {e : Expr} (hs : PGs X es (gPuts g l)) (hl : (assignEach es X.env).length = l.length) (hst : (assignEach es X.env).findIdx? (·.1) = none) (he : PE X e (tE g m))
    (hw : swappedStores [.Tuple es k p2] e X.env = pure none) (hss : swapsWithSole [.Tuple es k p2] e pos.line X.env = pure false) : PS X (.Assign [.Tuple es k p2] e pos) (tS g (sPutT l m)) :=
  ps_weak (ps_asg he (pg_tup G.calm hs hl hst) hss hw rfl) fun D σ H q => tPutT_of G q
end
end Pe

set_option linter.all false
set_option maxRecDepth 100000
set_option maxHeartbeats 4000000
namespace Pe
open PySem PySem.Spec PyProof.Rows L2
/-! ### sorted(a dict), list(a dict), tuple(a dict) -/
mutual
theorem reads_ex {h : Heap} : ∀ {v : Value} {d : PyData} {as : List Addr}, Reads h v d as → ∀ b ∈ as, b < h.objs.size
  | _, _, _, .none, b, hb => nomatch hb
  | _, _, _, .bool _, b, hb => nomatch hb
  | _, _, _, .int _ _, b, hb => nomatch hb
  | _, _, _, .str _ _, b, hb => nomatch hb
  | _, _, _, .list e _ _ r, b, hb => by
    rcases List.mem_cons.mp hb with q | q
    · rw [q]; exact Heap.lt_size e
    · exact readsAll_ex r b q
  | _, _, _, .tuple _ _ _ r, b, hb => readsAll_ex r b hb
  | _, _, _, .dict e _ _ r1 r2, b, hb => by
    rcases List.mem_append.mp hb with q | q
    · rcases List.mem_cons.mp q with q | q
      · rw [q]; exact Heap.lt_size e
      · exact readsAll_ex r1 b q
    · exact readsAll_ex r2 b q
theorem readsAll_ex {h : Heap} : ∀ {vs : List Value} {ds : List PyData} {as : List Addr}, ReadsAll h vs ds as → ∀ b ∈ as, b < h.objs.size
  | _, _, _, .nil, b, hb => nomatch hb
  | _, _, _, .cons r1 r2, b, hb => by
    rcases List.mem_append.mp hb with q | q
    · exact reads_ex r1 b q
    · exact readsAll_ex r2 b q
end
theorem kdl_raw {prog : Program} {w : World} {d : Addr} (lo : (d == sysModules) = false) (es : Array DictEntry) (ep : Nat) : PySem.W.KdlSrc prog w "dict" d d es.size (fun i v => ∃ hi : i < es.size, v = es[i].key) (fun h => h.DictRaw d es ep) where
  type := fun _ hm => hm.typeIs
  there := fun _ hm => by obtain ⟨o, ho, _⟩ := hm; exact ⟨Heap.lt_size ho, Heap.lt_size ho⟩
  keep := fun _ _ hm hk => hm.at fun o e => hk d (.inl rfl) o e
  notList := by decide
  notTuple := by decide
  hint := fun _ _ _ _ hm hq => PySem.W.kdl_hint_dict hm.typeIs hq
  iter := fun _ s hh hm => ⟨_, _, (fun _ _ hq => wpAny_pyIter_dict_raw lo hm hq), Walks.rawKeys hh _ d (by obtain ⟨o, ho, _⟩ := hm; exact Nat.ne_of_lt (Heap.lt_size ho)) es ep, ⟨⟨_, Heap.get?_push_size _ rfl, rfl, rfl⟩, hm.at fun _ e => Heap.get?_push_of_some _ e⟩⟩
section
variable {X : Cx} {g : Rg} {σ : St} {H : Hp} {τ : List Addr} {h : Hh} {G : Cfg} {T : Addr → Prop}
/-- a dict's keys as values -/
theorem RDe.keys : ∀ {ks vs : List D} {E : List DictEntry}, RDe G H T ks vs E → ∃ xs : List V, RDs G H T ks xs ∧ Vals xs (E.map (·.key))
  | _, _, _, .nil => ⟨[], .nil, .nil⟩
  | _, _, _, .cons (kv := kv) _ a b _ _ r => by
    obtain ⟨xs, h1, h2⟩ := RDe.keys r
    exact ⟨kv :: xs, .cons a h1, .cons b h2⟩
theorem items_keys {es : Array DictEntry} {acc : Array Value} (hacc : ItemsOf (fun i v => ∃ hi : i < es.size, v = es[i].key) acc es.size) : acc.toList = es.toList.map (·.key) := by
  refine List.ext_getElem? fun i => ?_
  rw [List.getElem?_map, Array.getElem?_toList, Array.getElem?_toList]
  by_cases hi : i < es.size
  · have h1 : i < acc.size := by rw [hacc.1]; exact hi
    obtain ⟨_, e⟩ := hacc.2 i acc[i] (Array.getElem?_eq_getElem h1)
    rw [Array.getElem?_eq_getElem h1, Array.getElem?_eq_getElem hi, e]
    rfl
  · rw [Array.getElem?_eq_none (by rw [hacc.1]; omega), Array.getElem?_eq_none (by omega)]
    rfl
def bSortX : OpL := fun ds h => match ds with
  | [.dic ks _] => if fitsL 99 ks && alkAll ks && sortB ks then .ok (.r h.length) (h ++ [.lst (isort leD ks)]) else .no
  | ds => bSort ds h
theorem bSortX_or (ws : List W) (h : Hh) : (∃ ks vs, valsW ws h = some [.dic ks vs]) ∨ opL bSortX ws h = opL bSort ws h := by
  cases e : valsW ws h with
  | none => exact .inr (by unfold opL; rw [e])
  | some ds =>
    unfold opL
    rw [e]
    match ds with
    | [.dic ks vs] => exact .inl ⟨ks, vs, rfl⟩
    | [] => exact .inr rfl
    | [.non] => exact .inr rfl
    | [.bl _] => exact .inr rfl
    | [.int _] => exact .inr rfl
    | [.str _] => exact .inr rfl
    | [.tup _] => exact .inr rfl
    | [.lst _] => exact .inr rfl
    | [.set _] => exact .inr rfl
    | [.scr _] => exact .inr rfl
    | [.fn _] => exact .inr rfl
    | [.cls _] => exact .inr rfl
    | [.clo _ _] => exact .inr rfl
    | [.ins _ _] => exact .inr rfl
    | x :: y :: r => exact .inr (by cases x <;> rfl)
theorem cr_bSortX (Gd : Good g X) : CallR X (.builtin "sorted") (rB g (opL bSortX)) := by
  intro pins s σ' H xs us Q I r q
  have q0 := q
  obtain ⟨σ0, τ0, h0, ws0, R0, rws0, F0⟩ := q0
  rcases bSortX_or ws0 h0 with ⟨ks, vs0, ew⟩ | ew
  case inr =>
    rw [ew] at F0
    exact cr_bSort Gd pins s σ' H xs us Q I r ⟨σ0, τ0, h0, ws0, R0, rws0, F0⟩
  have F := F0
  unfold opL at F
  rw [ew] at F
  have R := R0
  have vl := rws0.views R0 ew
  unfold bSortX at F
  simp only at F
  · obtain ⟨v, rfl, va⟩ := vl.one
    split at F
    · rename_i hc
      simp only [Bool.and_eq_true] at hc
      obtain ⟨⟨c1, c2⟩, c3⟩ := hc
      obtain ⟨a, E, rfl, e, z, l⟩ := va.dict
      obtain ⟨u, rfl, ru⟩ := vals1 r
      cases ru
      obtain ⟨lo, o, es, ep, h1, h2, h3, h4⟩ := dob I e
      obtain ⟨xs, k1, k2⟩ := RDe.keys l
      rw [← h4] at k2
      refine Calls.call_function_entry PyProof.Rows.kind_sorted PyProof.Rows.plain_sorted PyProof.Rows.entry_sorted (PyProof.Rows.args_sorted1 _) ?_
      unfold Builtin.«sorted»
      refine wpAny_bind (m := checkCount "sorted" 1 1 _) (wpAny_pure ?_)
      have hsz : es.size ≤ sizeLine := by rw [← Array.length_toList, h4]; exact z.1
      refine wpAny_bind (PySem.W.kdu_collect (A := X.A.in1) (kdl_raw lo es ep) (I.ok.hd Gd.calm) ⟨o, h1, h2, h3⟩ hsz fun h' tk acc hk hacc => ?_)
      have ek := items_keys hacc
      have I1 : Inv X pins σ' H { s with heap := h', toks := tk } := I.kept hk
      rw [← ek] at k2
      have hal : acc.toList.length ≤ sizeLine := by rw [Array.length_toList, hacc.1]; exact hsz
      refine wpAny_bind (wpAny_newList ?_ hal)
      have lay : (h'.push (seqObj "list" acc.toList.toArray 0)).get? h'.objs.size = some (seqObj "list" acc.toList.toArray 0) := Heap.get?_push_size _ rfl
      show wpAny _ _ _ _ _ { s with heap := h'.push (seqObj "list" acc.toList.toArray 0), toks := tk }
      have fit := fit_all k1 k2
      have rds : PySem.W.EachIs (fun v b => ∃ as, Reads (h'.push (seqObj "list" acc.toList.toArray 0)) v (py b) as ∧ h'.objs.size ∉ as) acc.toList ks :=
        (fit_reads (X := X) Gd.hK I1 fit c1).mono fun v b ⟨as, rd⟩ => ⟨as, PyProof.Rows.Reads.keeps (fun _ _ e => Heap.get?_push_of_some _ e) rd, fun m => Nat.lt_irrefl _ (reads_ex rd _ m)⟩
      have lks : ks.length = acc.toList.length := k1.len.trans k2.length
      refine wpAny_bind (wpAny_holding (PySem.W.list_sort_data (s := { s with heap := h'.push (seqObj "list" acc.toList.toArray 0), toks := tk }) (enc := py) lay fit rds (alike_all c1 c2) (sortB_ok c3) (by rw [lks]; exact hal)
        (fun b hb => by
          have := (fits_plain 99 b (fitsL_mem c1 hb)).2
          have := Gd.hu
          show X.A.units + 1 + 1 + _ < cLine
          omega) fun out2 l2 eo => ?_))
      rw [sort_eq c1 c2] at eo
      obtain ⟨ws, rw_, rd⟩ := fit_back eo
      obtain ⟨c, at_c⟩ := sortedHeap_at (vs := acc.toList) (out := out2.toArray) lay
      have hl : ws.length ≤ sizeLine := by rw [rw_.length, l2, lks]; exact hal
      refine wpAny_pure ⟨_, rfl, .ref h'.objs.size, upd H h'.objs.size (.lst ws), I1.laid (t' := tk) (fun b u e => ?_) (Nat.le_refl _) (show ObjOk X.prog X.w _ _ _ (.lst ws) from ⟨hl, out2, c, rw_, at_c⟩), rfl, F.lst R rd hl (I1.hok.fresh (Nat.le_refl _))⟩
      have hb : b < h'.objs.size := Heap.lt_size e
      rw [sortedHeap_old (Nat.ne_of_lt hb) (by rw [size_push']; exact Nat.lt_succ_of_lt hb)]
      exact Heap.get?_push_of_some _ e
    · exact F.elim
end
end Pe

set_option linter.all false
set_option maxRecDepth 100000
set_option maxHeartbeats 4000000
namespace Pe
open PySem PySem.Spec PyProof.Rows L2
/-! ### the written form -/
mutual
inductive E where
  | var (i : Nat) | con (d : D) | glo (d : D) | bin (o : Nat) (a b : E) | neg (a : E) | not (a : E) | cmp (k : Nat) (a b : E) | chn (k k' : Nat) (a b c : E)
  | and (a b : E) | or (a b : E) | one (a : E) | ife (t a b : E) | tup (l : Es) | lst (l : Es) | fz (a : E) | ix (a b : E) | sl (a : E) (lo hi : Eo)
  | call (i np : Nat) (l : Es) | bi (b : Nat) (l : Es) | isi (b : Nat) (a : E) | mt (k : Nat) (o : E) (l : Es) | lc (it : I) (t : Tg) (c : Eo) (e : E) (own : List (Str × Nat))
  | sset (a : E) | lset (a : E) | rcmp (neg : Bool) (a b : E) | dct (l : Ep) | li (a : E)
  | fnv (i : Nat) | callp (i np : Nat) (l : Es) | lcall (fs : List Nat) (f : E) (l : Es) | trg1 (t : Bool) (a : E) | trg2 (t : Bool) (a b : E)
inductive Es where
  | nil | cons (a : E) (l : Es)
inductive Eo where
  | none | some (a : E)
inductive Ep where
  | nil | cons (k v : E) (l : Ep)
inductive I where
  | e (a : E) | r1 (a : E) | r2 (a b : E) | zip (a b : E)
end
def binF : Nat → Op2
  | 0 => oAdd
  | 1 => oSub
  | 2 => oMul
  | 3 => oDiv
  | 4 => oMod
  | _ => oPow
def binO : Nat → Operator
  | 0 => .Add
  | 1 => .Sub
  | 2 => .Mult
  | 3 => .FloorDiv
  | 4 => .Mod
  | _ => .Pow
def cmpF : Nat → Op2
  | 0 => oCmp 0
  | 1 => oCmp 1
  | 2 => oCmp 2
  | 3 => oCmp 3
  | 4 => oEq false
  | 5 => oEq true
  | 6 => oIn false
  | 7 => oIn true
  | 8 => oIs false
  | _ => oIs true
def cmpO : Nat → CmpOp
  | 0 => .Lt
  | 1 => .Gt
  | 2 => .LtE
  | 3 => .GtE
  | 4 => .Eq
  | 5 => .NotEq
  | 6 => .In
  | 7 => .NotIn
  | 8 => .Is
  | _ => .IsNot
/-- built-in functions -/
def biF : Nat → List W → Hh → Rs W
  | 0 => opL bLen
  | 1 => opL bInt
  | 2 => opL bAbs
  | 3 => opL (bBest true)
  | 4 => opL (bBest false)
  | 5 => opL bSum
  | 6 => opL (bQ true)
  | 7 => opL (bQ false)
  | 8 => opL bList
  | 9 => opL bTup
  | 10 => opL bSortX
  | 11 => opL bDict
  | 12 => opL bRepr
  | _ => fun _ _ => .no
def biN : Nat → Str
  | 0 => "len"
  | 1 => "int"
  | 2 => "abs"
  | 3 => "max"
  | 4 => "min"
  | 5 => "sum"
  | 6 => "all"
  | 7 => "any"
  | 8 => "list"
  | 9 => "tuple"
  | 10 => "sorted"
  | 11 => "dict"
  | _ => "repr"
def tyStr : Nat → Str
  | 1 => "bool"
  | 2 => "int"
  | 3 => "str"
  | 4 => "tuple"
  | 5 => "list"
  | _ => "dict"
/-- methods: of what, the meaning -/
def mtF : Nat → Nat × (W → List W → Hh → Rs W)
  | 0 => (5, tAppend)
  | 1 => (5, tExtend)
  | _ => (6, tGet)
def mtN : Nat → Str
  | 0 => "append"
  | 1 => "extend"
  | _ => "get"
abbrev FT := Nat → List W → Hh → Rs W
mutual
def den (F : FT) : E → M
  | .var i => mVar i
  | .con d => mCon d
  | .glo d => mCon d
  | .bin o a b => mCl (mBin (op2 (binF o)) (den F a) (den F b))
  | .neg a => mUn (op1 oNeg) (den F a)
  | .not a => mCl (mNot (den F a))
  | .cmp k a b => mCl (mBin (op2 (cmpF k)) (den F a) (den F b))
  | .chn k k' a b c => mCl (mChn (op2 (cmpF k)) (op2 (cmpF k')) (den F a) (den F b) (den F c))
  | .and a b => mAnd (den F a) (den F b)
  | .or a b => mOr (den F a) (den F b)
  | .one a => den F a
  | .ife t a b => mIf (denT F t) (den F a) (den F b)
  | .tup l => mCl (mArg tupR (denL F l))
  | .lst l => mArg lstR (denL F l)
  | .fz a => mFz (den F a)
  | .ix a b => mCl (mBin (op2 oIx) (den F a) (den F b))
  | .sl a lo hi => mCl (mSl (den F a) (denO F lo) (denO F hi))
  | .call i np l => mCl (mArg (F i) (denL F l))
  | .bi b l => mCl (mArg (biF b) (denL F l))
  | .isi b a => mCl (mUn (isiR b) (den F a))
  | .mt k o l => mMt (mtF k).1 (mtF k).2 (den F o) (denL F l)
  | .lc it t c e own => mLc (denI F it) t (denC F c) (den F e) (own.map (·.2))
  | .sset a => mUn ssetR (den F a)
  | .lset a => mCl (mUn lsetR (den F a))
  | .rcmp n a b => mCl (mRc n (den F a) (den F b))
  | .dct l => mArg dctR (denP F l).flat
  | .li a => mUn itemsR (den F a)
  | .fnv i => mCon (.fn i)
  | .callp i np l => mCl (mArg (pureR (F i)) (denL F l))
  | .lcall fs f l => mCl (mLCall fs F (den F f) (denL F l))
  | .trg1 t a => mCl (mRg1 t (den F a))
  | .trg2 t a b => mCl (mRg2 t (den F a) (den F b))
def denT (F : FT) : E → MT
  | .not a => mTNot (denT F a)
  | .cmp k a b => mTru (mBin (op2 (cmpF k)) (den F a) (den F b))
  | .and a b => mTAnd (denT F a) (denT F b)
  | .or a b => mTOr (denT F a) (denT F b)
  | .one a => denT F a
  | .ife t a b => mTIf (denT F t) (denT F a) (denT F b)
  | .var i => mTru (mVar i)
  | .con d => mTru (mCon d)
  | .glo d => mTru (mCon d)
  | .bin o a b => mTru (mCl (mBin (op2 (binF o)) (den F a) (den F b)))
  | .neg a => mTru (mUn (op1 oNeg) (den F a))
  | .chn k k' a b c => mTru (mChn (op2 (cmpF k)) (op2 (cmpF k')) (den F a) (den F b) (den F c))
  | .tup l => mTru (mCl (mArg tupR (denL F l)))
  | .lst l => mTru (mArg lstR (denL F l))
  | .fz a => mTru (mFz (den F a))
  | .ix a b => mTru (mCl (mBin (op2 oIx) (den F a) (den F b)))
  | .sl a lo hi => mTru (mCl (mSl (den F a) (denO F lo) (denO F hi)))
  | .call i np l => mTru (mCl (mArg (F i) (denL F l)))
  | .bi b l => mTru (mCl (mArg (biF b) (denL F l)))
  | .isi b a => mTru (mCl (mUn (isiR b) (den F a)))
  | .mt k o l => mTru (mMt (mtF k).1 (mtF k).2 (den F o) (denL F l))
  | .lc it t c e own => mTru (mLc (denI F it) t (denC F c) (den F e) (own.map (·.2)))
  | .sset a => mTru (mUn ssetR (den F a))
  | .lset a => mTru (mCl (mUn lsetR (den F a)))
  | .rcmp n a b => mTru (mRc n (den F a) (den F b))
  | .dct l => mTru (mArg dctR (denP F l).flat)
  | .li a => mTru (mUn itemsR (den F a))
  | .fnv i => mTru (mCon (.fn i))
  | .callp i np l => mTru (mCl (mArg (pureR (F i)) (denL F l)))
  | .lcall fs f l => mTru (mCl (mLCall fs F (den F f) (denL F l)))
  | .trg1 t a => mTru (mCl (mRg1 t (den F a)))
  | .trg2 t a b => mTru (mCl (mRg2 t (den F a) (den F b)))
def denL (F : FT) : Es → ML
  | .nil => mNil
  | .cons a l => mCons (den F a) (denL F l)
def denP (F : FT) : Ep → MPs
  | .nil => .nil
  | .cons k v l => .cons (den F k) (den F v) (denP F l)
def denO (F : FT) : Eo → MO
  | .none => mNoPart
  | .some a => mPart (den F a)
def denC (F : FT) : Eo → MT
  | .none => fun _ h => .ok true h
  | .some a => denT F a
def denI (F : FT) : I → MI
  | .e a => mItE (den F a)
  | .r1 a => mItA rng1 (mCons (den F a) mNil)
  | .r2 a b => mItA rng2 (mCons (den F a) (mCons (den F b) mNil))
  | .zip a b => mItA zipR (mCons (den F a) (mCons (den F b) mNil))
end
/-! ### what a written form stands for -/
inductive Gm where
  | con (d : D) | fn (i np : Nat)
/-- an own exception class: its name, the built-in base, the attribute kept with the argument's name, what an except with its name takes -/
structure Xc where
  nm : Str
  bs : Nat
  kp : Option (Str × Str)
  ms : List Nat
structure Ct where
  N : List Str
  sc : Scope
  tb : List (Str × Gm)
  bl : List Str
  blk : Option Scope
  xs : List Xc := []
def dunder (x : Str) : Bool := x == ("__debug__" : Str) || x == ("__classdict__" : Str) || x == ("__name__" : Str)
def Ct.vis (c : Ct) (i : Nat) (x : Str) : Bool := decide (c.N[i]? = some x) && !dunder x && (match c.sc.names.lookup x with
  | some .local => true
  | some .cell => true
  | some .free => true
  | _ => false)
def Ct.sto (c : Ct) (i : Nat) (x : Str) : Bool := decide (c.N[i]? = some x) && !dunder x && (match c.sc.names.lookup x with
  | some .local => true
  | some .cell => match c.blk with
    | none => true
    | some s => decide (s.names.lookup x = some .cell)
  | _ => false)
def Ct.gl (c : Ct) (x : Str) : Bool := !dunder x && decide (c.sc.names.lookup x = some .globalImplicit)
def Ct.bt (c : Ct) (x y : Str) : Bool := decide (x = y) && c.gl x && decide (x ∈ c.bl)
def nst : Expr → Bool
  | .Starred .. => false
  | _ => true
def nsts (l : List Expr) : Bool := l.all nst
def nslice : Expr → Bool
  | .Slice .. => false
  | _ => true
def plainX : Expr → Bool
  | .UnaryOp .. => false
  | .BoolOp .. => false
  | .IfExp .. => false
  | .Compare .. => false
  | .NamedExpr .. => false
  | _ => true
def ncall : Expr → Bool
  | .Call _ (_ :: _) _ _ => true
  | .Call .. => false
  | _ => true
mutual
def chkT (c : Ct) : Tg → Expr → Bool
  | .v i, .Name x _ => c.sto i x
  | .t l, .Tuple es _ _ => nsts es && chkTL c l es
  | _, _ => false
def chkTL (c : Ct) : TgL → List Expr → Bool
  | .nil, [] => true
  | .cons t l, e :: es => chkT c t e && chkTL c l es
  | _, _ => false
end
def callee : Expr → Bool
  | .Name .. => true
  | .Subscript .. => true
  | _ => false
def fnsB (c : Ct) (fs : List Nat) : Bool := fs.all fun i => c.tb.any fun e => match c.tb.lookup e.1 with
  | some (.fn j _) => decide (j = i)
  | _ => false
mutual
def chk (c : Ct) : E → Expr → Bool
  | .var i, x => match x with
    | .Name n _ => c.vis i n
    | _ => false
  | .con d, x => match x with
    | .Constant k _ _ => match k with
      | .none => same d .non
      | .bool b => same d (.bl b)
      | .int i => same d (.int i)
      | .str s => match d with
        | .str z => decide (s = txt z) && decide (z.length ≤ SZ)
        | _ => false
      | _ => false
    | _ => false
  | .glo d, x => match x with
    | .Name n _ => c.gl n && (match c.tb.lookup n with
      | some (.con d') => same d d'
      | _ => false)
    | _ => false
  | .bin o a b, x => match x with
    | .BinOp l op r _ => decide (op = binO o) && chk c a l && chk c b r
    | _ => false
  | .neg a, x => match x with
    | .UnaryOp op l _ => decide (op = .USub) && chk c a l
    | _ => false
  | .not a, x => match x with
    | .UnaryOp op l _ => decide (op = .Not) && chk c a l
    | _ => false
  | .cmp k a b, x => match x with
    | .Compare l ops rs _ => match ops, rs with
      | [op], [r] => decide (op = cmpO k) && !behindInMarks op r && chk c a l && chk c b r
      | _, _ => false
    | _ => false
  | .chn k k' a b d, x => match x with
    | .Compare l ops rs _ => match ops, rs with
      | [op, op'], [r, r'] => decide (op = cmpO k) && decide (op' = cmpO k') && !lastMarks [op, op'] [r, r'] && chk c a l && chk c b r && chk c d r'
      | _, _ => false
    | _ => false
  | .and a b, x => match x with
    | .BoolOp op l p => match l with
      | y :: z :: r => decide (op = .And) && chk c a y && chk c b (.BoolOp .And (z :: r) p)
      | _ => false
    | _ => false
  | .or a b, x => match x with
    | .BoolOp op l p => match l with
      | y :: z :: r => decide (op = .Or) && chk c a y && chk c b (.BoolOp .Or (z :: r) p)
      | _ => false
    | _ => false
  | .one a, x => match x with
    | .BoolOp op l p => match l with
      | [y] => chk c a y
      | _ => false
    | _ => false
  | .ife t a b, x => match x with
    | .IfExp u y z _ => chk c t u && chk c a y && chk c b z
    | _ => false
  | .tup l, x => match x with
    | .Tuple es _ _ => chkL c l es
    | _ => false
  | .lst l, x => match x with
    | .List es _ => chkL c l es
    | _ => false
  | .fz a, x => plainX x && chk c a x
  | .ix a b, x => match x with
    | .Subscript l r _ => nslice r && chk c a l && chk c b r
    | _ => false
  | .sl a lo hi, x => match x with
    | .Subscript l r _ => match r with
      | .Slice u v w _ => w.isNone && chk c a l && chkO c lo u && chkO c hi v
      | _ => false
    | _ => false
  | .call i np l, x => match x with
    | .Call f es ks _ => match f with
      | .Name n _ => ks.isEmpty && c.gl n && (match c.tb.lookup n with
        | some (.fn j m) => decide (j = i) && decide (m = np)
        | _ => false) && (!es.isEmpty || decide (np = 0)) && chkL c l es
      | _ => false
    | _ => false
  | .bi b l, x => match x with
    | .Call f es ks _ => match f with
      | .Name n _ => ks.isEmpty && decide (b < 13) && c.bt n (biN b) && !es.isEmpty && chkL c l es
      | _ => false
    | _ => false
  | .isi b a, x => match x with
    | .Call f es ks _ => match f, es with
      | .Name n _, [y, .Name m _] => ks.isEmpty && c.bt n "isinstance" && c.bt m (tyStr b) && nst y && decide (1 ≤ b) && decide (b < 7) && chk c a y
      | _, _ => false
    | _ => false
  | .mt k o l, x => match x with
    | .Call f es ks p => match f with
      | .Attribute y n ap => ks.isEmpty && decide (n = mtN k) && ncall y && (ap.endLine == p.line) && !es.isEmpty && decide (es.length < 29) && chk c o y && chkL c l es
      | _ => false
    | _ => false
  | .lc it t d e own, x => match x with
    | .ListComp y gs s _ => match gs with
      | [⟨tg, iter, ifs, as⟩] => decide (as = 0) && blkC c.N c.sc s own && (t.sl.all fun i => decide (i ∈ own.map (·.2))) && chkI c it tg iter && chkT ⟨c.N, relS s c.sc, c.tb, c.bl, some s, c.xs⟩ t tg && chkC ⟨c.N, relS s c.sc, c.tb, c.bl, some s, c.xs⟩ d ifs && chk ⟨c.N, relS s c.sc, c.tb, c.bl, some s, c.xs⟩ e y
      | _ => false
    | _ => false
  | .sset a, x => match x with
    | .Call f es ks _ => match f, es with
      | .Name n _, [.Call (.Name m _) [y] ks' _] => ks.isEmpty && ks'.isEmpty && c.bt n "sorted" && c.bt m "set" && nst y && chk c a y
      | _, _ => false
    | _ => false
  | .lset a, x => match x with
    | .Call f es ks _ => match f, es with
      | .Name n _, [.Call (.Name m _) [y] ks' _] => ks.isEmpty && ks'.isEmpty && c.bt n "len" && c.bt m "set" && nst y && chk c a y
      | _, _ => false
    | _ => false
  | .rcmp neg a b, x => match x with
    | .Compare l ops rs _ => match l, ops, rs with
      | .Call (.Name n _) [y] ks _, [op], [.Call (.Name m _) [z] ks' _] => ks.isEmpty && ks'.isEmpty && decide (op = if neg then .NotEq else .Eq) && c.bt n "repr" && c.bt m "repr" && nst y && nst z && chk c a y && chk c b z
      | _, _, _ => false
    | _ => false
  | .dct l, x => match x with
    | .Dict ks vs _ => decide (ks.length ≤ 15) && chkP c l ks vs
    | _ => false
  | .li a, x => match x with
    | .Call f es ks _ => match f, es with
      | .Name n _, [.Call g [] ks' q] => match g with
        | .Attribute y m ap => ks.isEmpty && ks'.isEmpty && c.bt n "list" && decide (m = "items") && ncall y && (ap.endLine == q.line) && chk c a y
        | _ => false
      | _, _ => false
    | _ => false
  | .fnv i, x => match x with
    | .Name n _ => c.gl n && (match c.tb.lookup n with
      | some (.fn j _) => decide (j = i)
      | _ => false)
    | _ => false
  | .callp i np l, x => match x with
    | .Call f es ks _ => match f with
      | .Name n _ => ks.isEmpty && c.gl n && (match c.tb.lookup n with
        | some (.fn j m) => decide (j = i) && decide (m = np)
        | _ => false) && (!es.isEmpty || decide (np = 0)) && chkL c l es
      | _ => false
    | _ => false
  | .lcall fs f l, x => match x with
    | .Call y es ks _ => ks.isEmpty && callee y && fnsB c fs && !es.isEmpty && chk c f y && chkL c l es
    | _ => false
  | .trg1 t a, x => match x with
    | .Call f es ks _ => match f, es with
      | .Name n _, [.Call (.Name m _) [y] ks' _] => ks.isEmpty && ks'.isEmpty && c.bt n (if t then "tuple" else "list") && c.bt m "range" && nst y && chk c a y
      | _, _ => false
    | _ => false
  | .trg2 t a b, x => match x with
    | .Call f es ks _ => match f, es with
      | .Name n _, [.Call (.Name m _) [y, z] ks' _] => ks.isEmpty && ks'.isEmpty && c.bt n (if t then "tuple" else "list") && c.bt m "range" && nst y && nst z && chk c a y && chk c b z
      | _, _ => false
    | _ => false
def chkP (c : Ct) : Ep → List (Option Expr) → List Expr → Bool
  | .nil, ks, vs => ks.isEmpty && vs.isEmpty
  | .cons a b l, ks, vs => match ks, vs with
    | some x :: ks, y :: vs => chk c a x && chk c b y && chkP c l ks vs
    | _, _ => false
def chkL (c : Ct) : Es → List Expr → Bool
  | .nil, l => l.isEmpty
  | .cons a l, y => match y with
    | x :: xs => nst x && chk c a x && chkL c l xs
    | _ => false
def chkO (c : Ct) : Eo → Option Expr → Bool
  | .none, x => x.isNone
  | .some a, x => match x with
    | some y => chk c a y
    | none => false
def chkC (c : Ct) : Eo → List Expr → Bool
  | .none, x => x.isEmpty
  | .some a, x => match x with
    | [y] => chk c a y
    | _ => false
def chkI (c : Ct) : I → Expr → Expr → Bool
  | .e a, _, x => (match x with | .Set .. => false | _ => true) && chk c a x
  | .r1 a, _, x => match x with
    | .Call f es ks _ => match f, es with
      | .Name n _, [y] => ks.isEmpty && c.bt n "range" && nst y && chk c a y
      | _, _ => false
    | _ => false
  | .r2 a b, _, x => match x with
    | .Call f es ks _ => match f, es with
      | .Name n _, [y, z] => ks.isEmpty && c.bt n "range" && nst y && nst z && chk c a y && chk c b z
      | _, _ => false
    | _ => false
  | .zip a b, tg, x => match tg with
    | .Tuple _ _ _ => match x with
      | .Call f es ks _ => match f, es with
        | .Name n _, [y, z] => ks.isEmpty && c.bt n "zip" && nst y && nst z && chk c a y && chk c b z
        | _, _ => false
      | _ => false
    | _ => false
end
def chkPu (c : Ct) : Ep → List Expr → Bool
  | .nil, l => l.isEmpty
  | .cons o i l, xs => match xs with
    | .Subscript u v _ :: ys => nslice v && chk c o u && chk c i v && chkPu c l ys
    | _ => false
def denPu (F : FT) : Ep → List (M × M)
  | .nil => []
  | .cons o i l => (den F o, den F i) :: denPu F l
end Pe

set_option linter.all false
set_option maxRecDepth 100000
set_option maxHeartbeats 4000000
namespace Pe
open PySem PySem.Spec PyProof.Rows L2
theorem star_nst {e : Expr} {es : List Expr} {env : Env} (h : nst e = true) : starEach (e :: es) env = (false, eval e env) :: starEach es env := by
  cases e <;> first | rfl | cases h
theorem args_nst {pos : Pos} {env : Env} : ∀ {es : List Expr}, nsts es = true → (backTo pos (starEach es env)).any (·.1) = false
  | [], _ => rfl
  | e :: es, h => by
    have h' : nst e = true ∧ nsts es = true := by simpa [nsts] using h
    rw [star_nst h'.1]
    show (false || (backTo pos (starEach es env)).any (·.1)) = false
    rw [args_nst h'.2]; rfl
theorem args_all {pos : Pos} {env : Env} : ∀ {es : List Expr}, nsts es = true → (backTo pos (starEach es env)).all (fun x => !x.1) = true
  | [], _ => rfl
  | e :: es, h => by
    have h' : nst e = true ∧ nsts es = true := by simpa [nsts] using h
    rw [star_nst h'.1]
    show (!false && (backTo pos (starEach es env)).all (fun x => !x.1)) = true
    rw [args_all h'.2]; rfl
theorem asg_nst {e : Expr} {es : List Expr} {env : Env} (h : nst e = true) : assignEach (e :: es) env = (false, assign e env) :: assignEach es env := by
  cases e <;> first | rfl | cases h
theorem asg_len {env : Env} : ∀ {es : List Expr}, nsts es = true → (assignEach es env).length = es.length ∧ (assignEach es env).findIdx? (·.1) = none
  | [], _ => ⟨rfl, rfl⟩
  | e :: es, h => by
    have h' : nst e = true ∧ nsts es = true := by simpa [nsts] using h
    obtain ⟨a, b⟩ := asg_len (env := env) h'.2
    rw [asg_nst h'.1]
    refine ⟨by rw [List.length_cons, List.length_cons, a], ?_⟩
    rw [List.findIdx?_cons, b]
    rfl
theorem chkL_nst {c : Ct} : ∀ {l : Es} {es : List Expr}, chkL c l es = true → nsts es = true
  | .nil, es, h => by
    have : es = [] := by simpa [chkL] using h
    subst this; rfl
  | .cons a l, [], h => by simp [chkL] at h
  | .cons a l, e :: es, h => by
    have h' : (nst e = true ∧ chk c a e = true) ∧ chkL c l es = true := by simpa [chkL] using h
    have := chkL_nst h'.2
    simp only [nsts, List.all_cons, Bool.and_eq_true]
    exact ⟨h'.1.1, this⟩
structure FnFact (g : Rg) (X : Cx) (F : FT) (k i np : Nat) : Prop where
  ok : ∃ fd ps, FnG X.prog X.w X.K X.mg X.base k (g.G.fa i) fd ps (spF g.G g.pn np (F i)) ∧ Binds X.K fd ps [] ∧ ps.length = np
  kp : PySem.W.keepIn X.K (.ref (g.G.fa i)) = true
  no : ∀ ws h, ws.length ≠ np → F i ws h = .no
def GmOk (g : Rg) (X : Cx) (F : FT) (k : Nat) (x : Str) : Gm → Prop
  | .con d => ∃ u v, X.mg x = some u ∧ RelV v u ∧ ∀ H T, RD g.G H T d v
  | .fn i np => X.mg x = some (.ref (g.G.fa i)) ∧ FnFact g X F k i np
/-- an own exception class -/
structure XcOk (g : Rg) (X : Cx) (n i : Nat) (e : Xc) : Prop where
  mg : X.mg e.nm = some (.ref (g.G.ca i))
  kp : PySem.W.keepIn X.K (.ref (g.G.ca i)) = true
  pn : g.pn i = e.kp.map (·.1)
  rz : Raises X (.ref (g.G.ca i))
  mk0 : e.kp = none → PySem.W.excIn X.K (g.G.ca i) (Px.bsM e.bs) (Px.bsN e.bs) = true
  mk1 : ∀ attr arg, e.kp = some (attr, arg) → (∃ fI, Px.supB X.prog X.K e.bs (g.G.ca i) fI attr arg = true) ∧ XfC X.K (g.G.ca i) ∧ PySem.W.findIn X.K (.ref (g.G.ca i)) attr = some none
  ms : ∀ j, j < n → PySem.W.exmOne X.K (.ref (g.G.ca j)) (.ref (g.G.ca i)) = some (e.ms.contains j)
structure Ok (c : Ct) (F : FT) (k : Nat) (g : Rg) (X : Cx) : Prop where
  G : Good g X
  N : X.N = c.N
  sc : X.env.scope = c.sc
  tk : Takes X g.W
  room : Room k X.A
  one : 1 ≤ k
  gl : ∀ x gm, c.tb.lookup x = some gm → GmOk g X F k x gm
  bl : ∀ x ∈ c.bl, X.mg x = none
  xs : ∀ i e, c.xs[i]? = some e → XcOk g X c.xs.length i e
  fn : ∀ x, (match c.blk with | none => true | some s => decide (s.names.lookup x = some .cell)) = true → X.fn x = true
section
variable {c : Ct} {F : FT} {k : Nat} {g : Rg} {X : Cx}
theorem dunder_no {x : Str} (h : dunder x = false) : (x == ("__debug__" : Str)) = false ∧ (x == ("__classdict__" : Str)) = false ∧ x ≠ "__name__" := by
  unfold dunder at h
  rw [Bool.or_eq_false_iff, Bool.or_eq_false_iff] at h
  refine ⟨h.1.1, h.1.2, fun e => ?_⟩
  have := h.2
  rw [e] at this
  simp at this
theorem Ok.vis (O : Ok c F k g X) {i : Nat} {x : Str} (h : c.vis i x = true) : X.N[i]? = some x ∧ Vis X.env.scope x ∧ dunder x = false := by
  unfold Ct.vis at h
  rw [Bool.and_eq_true, Bool.and_eq_true] at h
  obtain ⟨⟨h1, h2⟩, h3⟩ := h
  refine ⟨by rw [O.N]; exact of_decide_eq_true h1, ?_, by simpa using h2⟩
  unfold Vis
  rw [O.sc]
  split at h3 <;> first | (rename_i e; exact .inl e) | (rename_i e; exact .inr (.inl e)) | (rename_i e; exact .inr (.inr e)) | cases h3
theorem Ok.sto (O : Ok c F k g X) {i : Nat} {x : Str} (h : c.sto i x = true) : X.N[i]? = some x ∧ L2.Loc X.env.scope x ∧ (X.fn x = true ∨ X.env.scope.names.lookup x = some .local) := by
  unfold Ct.sto at h
  rw [Bool.and_eq_true, Bool.and_eq_true] at h
  obtain ⟨⟨h1, h2⟩, h3⟩ := h
  refine ⟨by rw [O.N]; exact of_decide_eq_true h1, ?_⟩
  unfold L2.Loc
  rw [O.sc]
  split at h3
  · rename_i e; exact ⟨.inl e, .inr e⟩
  · rename_i e; exact ⟨.inr e, .inl (O.fn x h3)⟩
  · cases h3
theorem Ok.glo (O : Ok c F k g X) {x : Str} (h : c.gl x = true) : Gl X x ∧ dunder x = false := by
  unfold Ct.gl at h
  rw [Bool.and_eq_true] at h
  refine ⟨?_, by simpa using h.1⟩
  show X.env.scope.names.lookup x = _
  rw [O.sc]
  exact of_decide_eq_true h.2
theorem Ok.bt (O : Ok c F k g X) {x y : Str} (h : c.bt x y = true) : x = y ∧ Gl X x ∧ X.mg x = none ∧ dunder x = false := by
  unfold Ct.bt at h
  rw [Bool.and_eq_true, Bool.and_eq_true] at h
  obtain ⟨⟨h1, h2⟩, h3⟩ := h
  obtain ⟨a, b⟩ := O.glo h2
  exact ⟨of_decide_eq_true h1, a, O.bl x (of_decide_eq_true h3), b⟩
/-- a comprehension's block -/
theorem Ok.blk (O : Ok c F k g X) (s : Shared) (H : Hp) (scope : Scope) (C : Addr) (cl : List (Str × Addr)) (fp : List Addr) : Ok ⟨c.N, relS scope c.sc, c.tb, c.bl, some scope, c.xs⟩ F k g.nx (X.blk s H scope (compEnvC scope cl C X.env) fp) where
  G := ⟨O.G.hK, O.G.hw, O.G.nd, O.G.hu, O.G.gu, O.G.calm⟩
  N := O.N
  sc := by
    show relS scope X.env.scope = relS scope c.sc
    rw [O.sc]
  tk := takes0
  room := O.room
  one := O.one
  gl := fun x gm h => by
    have q := O.gl x gm h
    cases gm with
    | con d => exact q
    | fn i np => exact ⟨q.1, q.2.ok, q.2.kp, q.2.no⟩
  bl := O.bl
  xs := fun i e h => ⟨(O.xs i e h).mg, (O.xs i e h).kp, (O.xs i e h).pn, (O.xs i e h).rz, (O.xs i e h).mk0, (O.xs i e h).mk1, (O.xs i e h).ms⟩
  fn := fun x h => by
    have := of_decide_eq_true h
    show (scope.names.lookup x == some .cell) = true
    rw [this]; rfl
mutual
theorem snd_T (O : Ok c F k g X) : ∀ (t : Tg) {x : Expr}, chkT c t x = true → PG X x (gT X.K t)
  | .v i, x, h => by
    cases x with
    | Name n p =>
      have h : c.sto i n = true := by simpa [chkT] using h
      obtain ⟨h1, h2, h3⟩ := O.sto h
      unfold gT
      exact pg_name O.G.nd h1 h2 h3
    | _ => simp [chkT] at h
  | .t l, x, h => by
    cases x with
    | Tuple es kk p =>
      have h : nsts es = true ∧ chkTL c l es = true := by simpa [chkT] using h
      obtain ⟨a, b⟩ := snd_TL O l h.1 h.2
      unfold gT
      exact pg_tup O.G.calm b (by rw [(asg_len h.1).1, a]) (asg_len h.1).2
    | _ => simp [chkT] at h
theorem snd_TL (O : Ok c F k g X) : ∀ (l : TgL) {es : List Expr}, nsts es = true → chkTL c l es = true → es.length = l.len ∧ PGs X es (gTL X.K l)
  | .nil, [], _, _ => ⟨rfl, by unfold gTL; exact pgs_nil⟩
  | .nil, _ :: _, _, h => by simp [chkTL] at h
  | .cons _ _, [], _, h => by simp [chkTL] at h
  | .cons t l, e :: es, hn, h => by
    have hn' : nst e = true ∧ nsts es = true := by simpa [nsts] using hn
    have h' : chkT c t e = true ∧ chkTL c l es = true := by simpa [chkTL] using h
    obtain ⟨a, b⟩ := snd_TL O l hn'.2 h'.2
    refine ⟨by rw [List.length_cons, a]; rfl, ?_⟩
    unfold gTL
    exact pgs_cons (snd_T O t h'.1) b (by rw [asg_nst hn'.1]; rfl)
end
theorem op_bin (G : Good g X) (o : Nat) : OpR X (binaryOp (binO o)) (r2 g (op2 (binF o))) := by
  match o with
  | 0 => exact op_oAdd G.hK
  | 1 => exact op_oSub
  | 2 => exact op_oMul G.hK
  | 3 => exact op_oDiv
  | 4 => exact op_oMod
  | n + 5 => exact op_oPow
theorem op_cmp (G : Good g X) (k : Nat) : OpR X (compareOp (cmpO k)) (r2 g (op2 (cmpF k))) := by
  match k with
  | 0 => exact op_oCmp G.hK G.hu 0
  | 1 => exact op_oCmp G.hK G.hu 1
  | 2 => exact op_oCmp G.hK G.hu 2
  | 3 => exact op_oCmp G.hK G.hu 3
  | 4 => exact op_oEq G.hK G.hu
  | 5 => exact op_oNe G.hK G.hu
  | 6 => exact op_oIn false G.hK G.hw G.hu
  | 7 => exact op_oIn true G.hK G.hw G.hu
  | 8 => exact op_oIs false
  | n + 9 => exact op_oIs true
theorem oIn_bl {neg : Bool} {a b : D} {h h' : Hh} {y : W} (e : oIn neg a b h = .ok y h') : ∃ k, y = .d (.bl k) := by
  unfold oIn at e
  (repeat' split at e) <;> first | (cases e; exact ⟨_, rfl⟩) | cases e
theorem oIs_bl {neg : Bool} {a b : D} {h h' : Hh} {y : W} (e : oIs neg a b h = .ok y h') : ∃ k, y = .d (.bl k) := by
  unfold oIs at e
  (repeat' split at e) <;> first | (cases e; exact ⟨_, rfl⟩) | cases e
theorem oCmp_bl {k : Nat} {a b : D} {h h' : Hh} {y : W} (e : oCmp k a b h = .ok y h') : ∃ k, y = .d (.bl k) := by
  unfold oCmp at e
  split at e
  · cases e; exact ⟨_, rfl⟩
  · cases e
theorem oEq_bl {neg : Bool} {a b : D} {h h' : Hh} {y : W} (e : oEq neg a b h = .ok y h') : ∃ k, y = .d (.bl k) := by
  unfold oEq at e
  split at e
  · cases e; exact ⟨_, rfl⟩
  · cases e
theorem cmp_bl (k : Nat) (w w2 : W) (h : Hh) (y : W) (h' : Hh) (e : op2 (cmpF k) w w2 h = .ok y h') : ∃ b, y = .d (.bl b) := by
  unfold op2 at e
  split at e
  · match k, e with
    | 0, e => exact oCmp_bl e
    | 1, e => exact oCmp_bl e
    | 2, e => exact oCmp_bl e
    | 3, e => exact oCmp_bl e
    | 4, e => exact oEq_bl e
    | 5, e => exact oEq_bl e
    | 6, e => exact oIn_bl e
    | 7, e => exact oIn_bl e
    | 8, e => exact oIs_bl e
    | n + 9, e => exact oIs_bl e
  · cases e
/-- what soundness says of an expression -/
structure Snd (X : Cx) (g : Rg) (x : Expr) (m : M) (t : MT) : Prop where
  pe : PE X x (tE g m)
  pt : PT X x (tTs g t)
  pw : ∀ op l pos, x = .BoolOp op l pos → PW X x (tTs g t)
theorem Snd.of (G : Good g X) {x : Expr} {m : M} (e : PE X x (tE g m)) (he : ∀ whole, isTrue x X.env whole = (do let v ← whole; standAt x.pos; holding [v] (truthy v))) (hb : ∀ op l pos, x ≠ .BoolOp op l pos) : Snd X g x m (mTru m) :=
  ⟨e, pt_mTru G e he, fun op l pos q => absurd q (hb op l pos)⟩
/-- the built-in functions' rules -/
theorem bi_ok (G : Good g X) {b : Nat} (hb : b < 13) {n : Str} (e : n = biN b) (hm : X.mg n = none) (hg : Gl X n) (hd : dunder n = false) {p pos : Pos} {y : Expr} {ys : List Expr} {ml : ML} (ha : PA X (y :: ys) (tAr g ml)) (hs : starEach (y :: ys) X.env = (false, eval y X.env) :: starEach ys X.env) (hpl : (backTo pos (starEach ys X.env)).any (·.1) = false) :
    PE X (.Call (.Name n p) (y :: ys) [] pos) (tE g (mArg (biF b) ml)) := by
  obtain ⟨d1, _, d3⟩ := dunder_no hd
  match b, hb, e with
  | 0, _, e => subst e; exact pe_mB (cr_bLen G.hK) hg hm boot_len ha d3 d1 hs hpl
  | 1, _, e => subst e; exact pe_mTy cr_bInt hg hm (by decide +kernel) ha d3 d1 hs hpl
  | 2, _, e => subst e; exact pe_mB cr_bAbs hg hm (by decide +kernel) ha d3 d1 hs hpl
  | 3, _, e => subst e; exact pe_mB (cr_bMax G.calm) hg hm (by decide +kernel) ha d3 d1 hs hpl
  | 4, _, e => subst e; exact pe_mB (cr_bMin G.calm) hg hm (by decide +kernel) ha d3 d1 hs hpl
  | 5, _, e => subst e; exact pe_mB (cr_bSum G.hK G.calm) hg hm (by decide +kernel) ha d3 d1 hs hpl
  | 6, _, e => subst e; exact pe_mB (cr_bAll G.calm) hg hm (by decide +kernel) ha d3 d1 hs hpl
  | 7, _, e => subst e; exact pe_mB (cr_bAny G.calm) hg hm (by decide +kernel) ha d3 d1 hs hpl
  | 8, _, e => subst e; exact pe_mTy (cr_bList G.hK) hg hm (by decide +kernel) ha d3 d1 hs hpl
  | 9, _, e => subst e; exact pe_mTy (cr_bTup G.hK) hg hm (by decide +kernel) ha d3 d1 hs hpl
  | 10, _, e => subst e; exact pe_mB (cr_bSortX G) hg hm PyProof.Rows.boot_sorted ha d3 d1 hs hpl
  | 11, _, e => subst e; exact pe_mTy (cr_bDict G) hg hm (by decide +kernel) ha d3 d1 hs hpl
  | 12, _, e => subst e; exact pe_mB (cr_bRepr G) hg hm PyProof.Rows.boot_repr ha d3 d1 hs hpl
  | n + 13, h, _ => exact absurd h (by omega)
theorem mt_ok (G : Good g X) (k : Nat) : ((mtF k).1 = 3 ∨ (mtF k).1 = 5 ∨ (mtF k).1 = 6) ∧ PlainAttrs (tyS (mtF k).1) ∧ ∃ id, Slot (tyS (mtF k).1) (mtN k) id ∧ typeOf (.builtin id) = pure (.type "method_descriptor") ∧ MtR X id (rM g (mtF k).2) := by
  match k with
  | 0 => exact ⟨.inr (.inl rfl), PySem.F.plainAttrs_list, _, PySem.F.slot_list_append, PySem.F.type_list_append, mt_tAppend⟩
  | 1 => exact ⟨.inr (.inl rfl), PySem.F.plainAttrs_list, _, PySem.F.slot_list_extend, PySem.F.type_list_extend, mt_tExtend⟩
  | n + 2 => exact ⟨.inr (.inr rfl), PySem.F.plainAttrs_dict, _, PySem.F.slot_dict_get, PySem.F.type_dict_get, mt_tGet G⟩
theorem isi_boot (b : Nat) : bootBuiltins (tyStr b) = some (.type (tyS (if b = 0 ∨ 6 < b then 6 else b))) := by
  match b with
  | 0 => decide +kernel
  | 1 => decide +kernel
  | 2 => decide +kernel
  | 3 => decide +kernel
  | 4 => decide +kernel
  | 5 => decide +kernel
  | 6 => decide +kernel
  | n + 7 =>
    rw [if_pos (by omega)]
    show bootBuiltins "dict" = some (.type "dict")
    decide +kernel
theorem plain_ix {r : Expr} (h : nslice r = true) : PlainIx r := by
  intro o i
  cases r <;> first | rfl | cases h
theorem plain_true {x : Expr} (h : plainX x = true) : (∀ whole, isTrue x X.env whole = (do let v ← whole; standAt x.pos; holding [v] (truthy v))) ∧ ∀ op l pos, x ≠ .BoolOp op l pos := by
  cases x <;> first | exact ⟨fun _ => rfl, fun _ _ _ q => nomatch q⟩ | cases h
theorem Ok.fns (O : Ok c F k g X) {fs : List Nat} (h : fnsB c fs = true) : ∀ i ∈ fs, ∃ x np, X.mg x = some (.ref (g.G.fa i)) ∧ FnFact g X F k i np := by
  intro i hi
  obtain ⟨e, he, q⟩ := List.any_eq_true.mp (List.all_eq_true.mp h i hi)
  split at q
  · rename_i j m e1
    have := of_decide_eq_true q
    subst this
    exact ⟨_, _, (O.gl _ _ e1).1, (O.gl _ _ e1).2⟩
  · cases q
theorem pure_no {F : List W → Hh → Rs W} {np : Nat} (no : ∀ ws h, ws.length ≠ np → F ws h = .no) (ws : List W) (h : Hh) (hw : ws.length ≠ np) : pureR F ws h = .no := by
  unfold pureR
  split
  · rw [no ws [] hw]
  · rfl
theorem base_ncall {e : Expr} {n : Str} (h : ncall e = true) : attributeBase e n X.env (eval e X.env) = eval e X.env := by
  cases e with
  | Call f es ks p =>
    cases es with
    | nil => cases h
    | cons y ys => cases f <;> rfl
  | _ => rfl
end
end Pe

set_option linter.all false
set_option maxRecDepth 100000
set_option maxHeartbeats 8000000
namespace Pe
open PySem PySem.Spec PyProof.Rows L2
section
variable {F : FT} {k : Nat}
theorem pts_mC {X : Cx} {g : Rg} : PTs X [] (tTs g fun _ h => .ok true h) := ⟨fun pins s σ H Q I ⟨τ, h, σa, R, S, q⟩ => pts_nil.run pins s σ H Q I (q τ H true Ext.refl R rfl)⟩
theorem pt_mChn {X : Cx} {g : Rg} (G : Good g X) {op op' : CmpOp} {f f' : W → W → Hh → Rs W} {a b c : Expr} {ma mb mc : M} {pos : Pos} (hf : ∀ w w2 h y h', f' w w2 h = .ok y h' → ∃ k, y = .d (.bl k)) (ho : OpR X (compareOp op) (r2 g f)) (ho' : OpR X (compareOp op') (r2 g f'))
    (ha : PE X a (tE g ma)) (hb : PE X b (tE g mb)) (hc : PE X c (tE g mc)) (hm : lastMarks [op, op'] [b, c] = false) : PT X (.Compare a [op, op'] [b, c] pos) (tTs g (mTru (mChn f f' ma mb mc))) :=
  pt_weak (pt_chain ho ho' ha hb hc hm) fun σ H Q q => by
    obtain ⟨τ, h, σa, R, S, F⟩ := q
    have F := FinP.clB R.len F
    show tChain (r2 g f) (r2 g f') (tE g ma) (tE g mb) (tE g mc) σ H fun x H' => ∃ k, x = .bl k ∧ Q k H'
    have res : ∀ y h3, mChn f f' ma mb mc σa h = .ok y h3 → ∃ k, y = .d (.bl k) := by
      intro y h3 z
      unfold mChn at z
      cases z1 : ma σa h with
      | ok w1 h1 =>
        rw [z1] at z
        cases z2 : mb σa h1 with
        | ok w2 h2 =>
          simp only [Rs.bind, z2] at z
          cases z3 : f w1 w2 h2 with
          | ok w3 h4 =>
            rw [z3] at z
            simp only [chK] at z
            split at z
            · cases z4 : mc σa h4 with
              | ok w4 h5 => rw [z4] at z; exact hf _ _ _ _ _ z
              | ex _ _ _ => rw [z4] at z; cases z
              | no => rw [z4] at z; cases z
            · cases z; exact ⟨_, rfl⟩
            · cases z
          | ex _ _ _ => rw [z3] at z; cases z
          | no => rw [z3] at z; cases z
        | ex _ _ _ => simp [Rs.bind, z2] at z
        | no => simp [Rs.bind, z2] at z
      | ex _ _ _ => rw [z1] at z; simp [Rs.bind] at z
      | no => rw [z1] at z; simp [Rs.bind] at z
    have main : tE g (mChn f f' ma mb mc) σ H fun x H' => ∃ k, x = .bl k ∧ Q k H' := by
      refine ⟨τ, h, σa, R, S, ?_⟩
      cases z : mChn f f' ma mb mc σa h with
      | ok y h3 =>
        rw [z] at F
        obtain ⟨k, rfl⟩ := res y h3 z
        intro τ3 H3 v3 e3 R3 r3
        cases r3 with
        | d r3 => cases r3; exact ⟨k, rfl, F τ3 H3 k e3 R3 rfl⟩
      | ex c x h3 => rw [z] at F; exact F
      | no => rw [z] at F; exact F
    exact tChn_of main
theorem pt_mIf {X : Cx} {g : Rg} {c a b : Expr} {pos : Pos} {t u v : MT} (hc : PT X c (tTs g t)) (ha : PT X a (tTs g u)) (hb : PT X b (tTs g v)) : PT X (.IfExp c a b pos) (tTs g (mTIf t u v)) := by
  refine ⟨fun pins s σ H Q I ⟨τ, h, σa, R, S, F⟩ => ?_⟩
  show wpAny _ _ (do if ← isTrue c X.env (eval c X.env) then isTrue a X.env (eval a X.env) else isTrue b X.env (eval b X.env)) _ _ s
  have main : tTs g t σ H fun k H1 => if k = true then tTs g u σ H1 Q else tTs g v σ H1 Q := tTs.step R S F fun H1 τ1 h1 k n F1 => by
    cases k with
    | true => rw [if_pos rfl]; exact ⟨τ1, h1, σa, n.r, n.s, F1⟩
    | false => rw [if_neg (by simp)]; exact ⟨τ1, h1, σa, n.r, n.s, F1⟩
  refine wpAny_bind (thn (hc.run pins s σ H _ I main) fun k s1 hk => ?_)
  obtain ⟨H1, I1, q1⟩ := hk
  cases k with
  | true => exact ha.run pins s1 σ H1 Q I1 q1
  | false => exact hb.run pins s1 σ H1 Q I1 q1
mutual
theorem snd : ∀ (e : E) {c : Ct} {g : Rg} {X : Cx} {x : Expr}, Ok c F k g X → chk c e x = true → Snd X g x (den F e) (denT F e)
  | .var i, c, g, X, x, O, h => by
    unfold chk at h
    split at h
    · rename_i n p
      obtain ⟨h1, h2, h3⟩ := O.vis h
      obtain ⟨d1, d2, _⟩ := dunder_no h3
      simp only [den, denT]
      exact .of O.G (pe_mVar h1 h2 d1 d2) (fun _ => rfl) (fun _ _ _ q => nomatch q)
    · cases h
  | .con d, c, g, X, x, O, h => by
    unfold chk at h
    simp only [den, denT]
    split at h
    · split at h
      · rw [same_eq h]; exact .of O.G pe_mNon (fun _ => rfl) (fun _ _ _ q => nomatch q)
      · rw [same_eq h]; exact .of O.G pe_mBl (fun _ => rfl) (fun _ _ _ q => nomatch q)
      · rw [same_eq h]; exact .of O.G pe_mInt (fun _ => rfl) (fun _ _ _ q => nomatch q)
      · split at h
        · rw [Bool.and_eq_true] at h
          have e := of_decide_eq_true h.1
          subst e
          exact .of O.G (pe_mStr (by rw [szEq]; exact of_decide_eq_true h.2)) (fun _ => rfl) (fun _ _ _ q => nomatch q)
        · cases h
      · cases h
    · cases h
  | .glo d, c, g, X, x, O, h => by
    unfold chk at h
    simp only [den, denT]
    split at h
    · rw [Bool.and_eq_true] at h
      obtain ⟨h1, h2⟩ := h
      split at h2
      · rename_i e
        obtain ⟨hg, hd⟩ := O.glo h1
        obtain ⟨u, v, hm, l, r⟩ := O.gl _ _ e
        rw [same_eq h2]
        exact .of O.G (pe_mGlo hg hm l r (dunder_no hd).1) (fun _ => rfl) (fun _ _ _ q => nomatch q)
      · cases h2
    · cases h
  | .bin o a b, c, g, X, x, O, h => by
    unfold chk at h
    simp only [den, denT]
    split at h
    · simp only [Bool.and_eq_true] at h
      obtain ⟨⟨h1, h2⟩, h3⟩ := h
      have e := of_decide_eq_true h1
      subst e
      exact .of O.G (pe_cl (pe_mOp (op_bin O.G o) (snd a O h2).pe (snd b O h3).pe)) (fun _ => rfl) (fun _ _ _ q => nomatch q)
    · cases h
  | .neg a, c, g, X, x, O, h => by
    unfold chk at h
    simp only [den, denT]
    split at h
    · simp only [Bool.and_eq_true] at h
      have e := of_decide_eq_true h.1
      subst e
      exact .of O.G (pe_mUn un_oNeg (snd a O h.2).pe) (fun _ => rfl) (fun _ _ _ q => nomatch q)
    · cases h
  | .not a, c, g, X, x, O, h => by
    unfold chk at h
    simp only [den, denT]
    split at h
    · simp only [Bool.and_eq_true] at h
      have e := of_decide_eq_true h.1
      subst e
      exact ⟨pe_cl (pe_mNot O.G (snd a O h.2).pe), pt_mNot (snd a O h.2).pt, fun _ _ _ q => nomatch q⟩
    · cases h
  | .cmp n a b, c, g, X, x, O, h => by
    unfold chk at h
    simp only [den, denT]
    split at h
    · split at h
      · simp only [Bool.and_eq_true, Bool.not_eq_true'] at h
        obtain ⟨⟨⟨h1, h2⟩, h3⟩, h4⟩ := h
        have e := of_decide_eq_true h1
        subst e
        exact ⟨pe_cl (pe_mCmp (op_cmp O.G n) (snd a O h3).pe (snd b O h4).pe h2), pt_mCmp O.G (cmp_bl n) (op_cmp O.G n) (snd a O h3).pe (snd b O h4).pe h2, fun _ _ _ q => nomatch q⟩
      · cases h
    · cases h
  | .chn n n' a b d, c, g, X, x, O, h => by
    unfold chk at h
    simp only [den, denT]
    split at h
    · split at h
      · simp only [Bool.and_eq_true, Bool.not_eq_true'] at h
        obtain ⟨⟨⟨⟨⟨h1, h2⟩, h3⟩, h4⟩, h5⟩, h6⟩ := h
        have e := of_decide_eq_true h1
        have e2 := of_decide_eq_true h2
        subst e
        subst e2
        exact ⟨pe_cl (pe_mChn (op_cmp O.G n) (op_cmp O.G n') (snd a O h4).pe (snd b O h5).pe (snd d O h6).pe h3), pt_mChn O.G (cmp_bl n') (op_cmp O.G n) (op_cmp O.G n') (snd a O h4).pe (snd b O h5).pe (snd d O h6).pe h3, fun _ _ _ q => nomatch q⟩
      · cases h
    · cases h
  | .and a b, c, g, X, x, O, h => by
    unfold chk at h
    simp only [den, denT]
    split at h
    · split at h
      · simp only [Bool.and_eq_true] at h
        obtain ⟨⟨h1, h2⟩, h3⟩ := h
        have e := of_decide_eq_true h1
        subst e
        have A := snd a O h2
        have B := snd b O h3
        have w := pw_mAnd A.pt (B.pw _ _ _ rfl)
        exact ⟨pe_mAnd O.G A.pe B.pe, w.pt, fun _ _ _ q => by cases q; exact w⟩
      · cases h
    · cases h
  | .or a b, c, g, X, x, O, h => by
    unfold chk at h
    simp only [den, denT]
    split at h
    · split at h
      · simp only [Bool.and_eq_true] at h
        obtain ⟨⟨h1, h2⟩, h3⟩ := h
        have e := of_decide_eq_true h1
        subst e
        have A := snd a O h2
        have B := snd b O h3
        have w := pw_mOr A.pt (B.pw _ _ _ rfl)
        exact ⟨pe_mOr O.G A.pe B.pe, w.pt, fun _ _ _ q => by cases q; exact w⟩
      · cases h
    · cases h
  | .one a, c, g, X, x, O, h => by
    unfold chk at h
    simp only [den, denT]
    split at h
    · rename_i op l p
      split at h
      · rename_i y
        have A := snd a O h
        have w : PW X (.BoolOp op [y] p) (tTs g (denT F a)) := by
          cases op with
          | And => exact pw_and1 A.pt
          | Or => exact pw_or1 A.pt
        exact ⟨pe_one A.pe, w.pt, fun _ _ _ q => by cases q; exact w⟩
      · cases h
    · cases h
  | .ife t a b, c, g, X, x, O, h => by
    unfold chk at h
    simp only [den, denT]
    split at h
    · simp only [Bool.and_eq_true] at h
      obtain ⟨⟨h1, h2⟩, h3⟩ := h
      have T := snd t O h1
      have A := snd a O h2
      have B := snd b O h3
      exact ⟨pe_mIf T.pt A.pe B.pe, pt_mIf T.pt A.pt B.pt, fun _ _ _ q => nomatch q⟩
    · cases h
  | .tup l, c, g, X, x, O, h => by
    unfold chk at h
    simp only [den, denT]
    split at h
    · exact .of O.G (pe_cl (pe_mTup (sndL l O h))) (fun _ => rfl) (fun _ _ _ q => nomatch q)
    · cases h
  | .lst l, c, g, X, x, O, h => by
    unfold chk at h
    simp only [den, denT]
    split at h
    · exact .of O.G (pe_mLst (sndL l O h)) (fun _ => rfl) (fun _ _ _ q => nomatch q)
    · cases h
  | .fz a, c, g, X, x, O, h => by
    unfold chk at h
    simp only [den, denT]
    rw [Bool.and_eq_true] at h
    exact .of O.G (pe_fz (snd a O h.2).pe) (plain_true (X := X) h.1).1 (plain_true (X := X) h.1).2
  | .ix a b, c, g, X, x, O, h => by
    unfold chk at h
    simp only [den, denT]
    split at h
    · simp only [Bool.and_eq_true] at h
      obtain ⟨⟨h1, h2⟩, h3⟩ := h
      exact .of O.G (pe_cl (pe_mIx (ix_oIx O.G.hK O.G.hw O.G.hu) (snd a O h2).pe (snd b O h3).pe (plain_ix h1))) (fun _ => rfl) (fun _ _ _ q => nomatch q)
    · cases h
  | .sl a lo hi, c, g, X, x, O, h => by
    unfold chk at h
    simp only [den, denT]
    split at h
    · split at h
      · simp only [Bool.and_eq_true] at h
        obtain ⟨⟨⟨h1, h2⟩, h3⟩, h4⟩ := h
        rename_i w p
        cases w with
        | some _ => cases h1
        | none => exact .of O.G (pe_cl (pe_mSl O.G (snd a O h2).pe (sndO lo O h3) (sndO hi O h4))) (fun _ => rfl) (fun _ _ _ q => nomatch q)
      · cases h
    · cases h
  | .call i np l, c, g, X, x, O, h => by
    unfold chk at h
    simp only [den, denT]
    split at h
    · rename_i f es ks pos
      split at h
      · rename_i n p
        simp only [Bool.and_eq_true] at h
        obtain ⟨⟨⟨⟨h1, h2⟩, h3⟩, h4⟩, h5⟩ := h
        have ek : ks = [] := by simpa using h1
        subst ek
        obtain ⟨hg, hd⟩ := O.glo h2
        split at h3
        · rename_i j m e
          rw [Bool.and_eq_true] at h3
          have e1 := of_decide_eq_true h3.1
          have e2 := of_decide_eq_true h3.2
          subst e1
          subst e2
          obtain ⟨hm, Fn⟩ := O.gl _ _ e
          obtain ⟨fd, ps, ok, hb, hl⟩ := Fn.ok
          cases es with
          | cons y ys =>
            have hn := chkL_nst h5
            have hn' : nst y = true ∧ nsts ys = true := by simpa [nsts] using hn
            exact .of O.G (pe_cl (pe_mCall O.G ok O.room hb O.tk hl Fn.no hg hm Fn.kp (sndL l O h5) (dunder_no hd).1 (star_nst hn'.1) (args_nst hn'.2))) (fun _ => rfl) (fun _ _ _ q => nomatch q)
          | nil =>
            have e0 : m = 0 := by simpa using h4
            subst e0
            have el : l = .nil := by
              cases l with
              | nil => rfl
              | cons _ _ => simp [chkL] at h5
            subst el
            simp only [denL]
            exact .of O.G (pe_cl (pe_mCall0 O.G ok O.room hb O.tk hl hg hm Fn.kp (dunder_no hd).1)) (fun _ => rfl) (fun _ _ _ q => nomatch q)
        · cases h3
      · cases h
    · cases h
  | .bi b l, c, g, X, x, O, h => by
    unfold chk at h
    simp only [den, denT]
    split at h
    · rename_i f es ks pos
      split at h
      · rename_i n p
        simp only [Bool.and_eq_true] at h
        obtain ⟨⟨⟨⟨h1, h2⟩, h3⟩, h4⟩, h5⟩ := h
        have ek : ks = [] := by simpa using h1
        subst ek
        obtain ⟨en, hg, hm, hd⟩ := O.bt h3
        cases es with
        | nil => simp at h4
        | cons y ys =>
          have hn := chkL_nst h5
          have hn' : nst y = true ∧ nsts ys = true := by simpa [nsts] using hn
          exact .of O.G (pe_cl (bi_ok O.G (of_decide_eq_true h2) en hm hg hd (sndL l O h5) (star_nst hn'.1) (args_nst hn'.2))) (fun _ => rfl) (fun _ _ _ q => nomatch q)
      · cases h
    · cases h
  | .isi b a, c, g, X, x, O, h => by
    unfold chk at h
    simp only [den, denT]
    split at h
    · rename_i f es ks pos
      split at h
      · rename_i n p y m p2
        simp only [Bool.and_eq_true] at h
        obtain ⟨⟨⟨⟨⟨⟨h1, h2⟩, h3⟩, h4⟩, h5⟩, h6⟩, h7⟩ := h
        have ek : ks = [] := by simpa using h1
        subst ek
        obtain ⟨en, hg, hm, hd⟩ := O.bt h2
        obtain ⟨em, hg2, hm2, hd2⟩ := O.bt h3
        obtain ⟨d1, _, d3⟩ := dunder_no hd
        obtain ⟨d1', _, d3'⟩ := dunder_no hd2
        have b1 : 1 ≤ b := of_decide_eq_true h5
        have b7 : b < 7 := of_decide_eq_true h6
        have hT : PE X (.Name m p2) (tC (.ty (tyS b))) := by
          have bb := isi_boot b
          rw [if_neg (by omega), ← em] at bb
          exact pe_bltn hg2 hm2 bb rfl d3' d1'
        exact .of O.G (pe_cl (pe_mIsi (ta := fun _ _ _ => True) O.G b7 hg hm (by rw [en]; decide +kernel) (snd a O h7).pe hT d3 d1 (star_nst h4) (star_nst rfl) (args_nst rfl))) (fun _ => rfl) (fun _ _ _ q => nomatch q)
      · cases h
    · cases h
  | .mt n o l, c, g, X, x, O, h => by
    unfold chk at h
    simp only [den, denT]
    split at h
    · rename_i f es ks pos
      split at h
      · rename_i y nm ap
        simp only [Bool.and_eq_true] at h
        obtain ⟨⟨⟨⟨⟨⟨⟨h1, h2⟩, h3⟩, h4⟩, h5⟩, h6⟩, h7⟩, h8⟩ := h
        have ek : ks = [] := by simpa using h1
        subst ek
        have en := of_decide_eq_true h2
        subst en
        obtain ⟨k3, pa, id, sl, ty, mt⟩ := mt_ok O.G n
        cases es with
        | nil => simp at h5
        | cons e es =>
          have hn := chkL_nst h8
          have hn' : nst e = true ∧ nsts es = true := by simpa [nsts] using hn
          have hl : (e :: es).length < 29 := of_decide_eq_true h6
          refine .of O.G (pe_mMt O.G k3 pa sl ty mt (snd o O h7).pe (sndL l O h8) (base_ncall h3) ?_ h4 (star_nst hn'.1) (args_nst hn'.2)) (fun _ => rfl) (fun _ _ _ q => nomatch q)
          rw [args_all hn]
          show (true && true && decide ((e :: es).length + 0 + 0 < 30)) = true
          rw [decide_eq_true (by omega)]
          rfl
      · cases h
    · cases h
  | .lc it t d e own, c, g, X, x, O, h => by
    unfold chk at h
    simp only [den, denT]
    split at h
    · split at h
      · rename_i y s p gs tg iter ifs as
        simp only [Bool.and_eq_true] at h
        obtain ⟨⟨⟨⟨⟨⟨h1, h2⟩, h3⟩, h4⟩, h5⟩, h6⟩, h7⟩ := h
        have e0 := of_decide_eq_true h1
        subst e0
        have ok : BlkOk X.N X.env.scope s own := by
          rw [O.N, O.sc]
          exact blkOk_by h2
        obtain ⟨pi, fs⟩ := sndI it O h4
        refine .of O.G (pe_weak (pe_lc (g := gT X.K t) (tt := tTs g.nx (denC F d)) (te := tE g.nx (den F e)) O.G.calm O.G.nd pi ok (fun s1 H1 C cl fp => snd_T (O.blk s1 H1 s C cl fp) t h5) (fun s1 H1 C cl fp => sndC d (O.blk s1 H1 s C cl fp) h6)
          (fun s1 H1 C cl fp => (snd e (O.blk s1 H1 s C cl fp) h7).pe) fs) fun σ H Q q => tLc_of O.G.hK (fun i hi => of_decide_eq_true (List.all_eq_true.mp h3 i hi)) q) (fun _ => rfl) (fun _ _ _ q => nomatch q)
      · cases h
    · cases h
  | .sset a, c, g, X, x, O, h => by
    unfold chk at h
    simp only [den, denT]
    split at h
    · split at h
      · simp only [Bool.and_eq_true] at h
        obtain ⟨⟨⟨⟨⟨h1, h2⟩, h3⟩, h4⟩, h5⟩, h6⟩ := h
        rename_i ks _ _ _ n p m p2 y ks' q
        have ek : ks = [] := by simpa using h1
        have ek' : ks' = [] := by simpa using h2
        subst ek
        subst ek'
        obtain ⟨en, hg, hm, hd⟩ := O.bt h3
        obtain ⟨en2, hg2, hm2, hd2⟩ := O.bt h4
        subst en
        subst en2
        exact .of O.G (pe_mSSet O.G hg hm hg2 hm2 (snd a O h6).pe (star_nst h5)) (fun _ => rfl) (fun _ _ _ q => nomatch q)
      · cases h
    · cases h
  | .lset a, c, g, X, x, O, h => by
    unfold chk at h
    simp only [den, denT]
    split at h
    · split at h
      · simp only [Bool.and_eq_true] at h
        obtain ⟨⟨⟨⟨⟨h1, h2⟩, h3⟩, h4⟩, h5⟩, h6⟩ := h
        rename_i ks _ _ _ n p m p2 y ks' q
        have ek : ks = [] := by simpa using h1
        have ek' : ks' = [] := by simpa using h2
        subst ek
        subst ek'
        obtain ⟨en, hg, hm, hd⟩ := O.bt h3
        obtain ⟨en2, hg2, hm2, hd2⟩ := O.bt h4
        subst en
        subst en2
        exact .of O.G (pe_cl (pe_mLSet O.G hg hm hg2 hm2 (snd a O h6).pe (star_nst h5))) (fun _ => rfl) (fun _ _ _ q => nomatch q)
      · cases h
    · cases h
  | .rcmp neg a b, c, g, X, x, O, h => by
    unfold chk at h
    simp only [den, denT]
    split at h
    · split at h
      · simp only [Bool.and_eq_true] at h
        obtain ⟨⟨⟨⟨⟨⟨⟨⟨h1, h2⟩, h3⟩, h4⟩, h5⟩, h6⟩, h7⟩, h8⟩, h9⟩ := h
        rename_i n p y ks q1 op m p2 z ks' q2
        have ek : ks = [] := by simpa using h1
        have ek' : ks' = [] := by simpa using h2
        subst ek
        subst ek'
        have eo := of_decide_eq_true h3
        subst eo
        obtain ⟨en, hg, hm, hd⟩ := O.bt h4
        obtain ⟨en2, hg2, hm2, hd2⟩ := O.bt h5
        subst en
        subst en2
        obtain ⟨r1, r2⟩ := pe_mRc neg (p := p) (p2 := p2) (q1 := q1) (q2 := q2) O.G hg hm (snd a O h8).pe (snd b O h9).pe (star_nst h6) (star_nst h7)
        exact ⟨pe_cl r1, r2, fun _ _ _ q => nomatch q⟩
      · cases h
    · cases h
  | .dct l, c, g, X, x, O, h => by
    unfold chk at h
    simp only [den, denT]
    split at h
    · rename_i ks vs pos
      rw [Bool.and_eq_true] at h
      have hl := of_decide_eq_true h.1
      refine .of O.G ?_ (fun _ => rfl) (fun _ _ _ q => nomatch q)
      have P := sndP l O h.2
      cases ks with
      | nil =>
        have e1 := P.len
        have e2 := (P.pps (pos := pos)).2.2
        have e3 : vs = [] := List.length_eq_zero_iff.mp e2.symm
        subst e3
        have e4 : denP F l = .nil := by
          cases q : denP F l with
          | nil => rfl
          | cons _ _ _ => rw [q] at e1; cases e1
        rw [e4]
        exact pe_mD0 O.G
      | cons k ks => exact pe_mDct O.G P (by simp) hl
    · cases h
  | .li a, c, g, X, x, O, h => by
    unfold chk at h
    simp only [den, denT]
    split at h
    · split at h
      · split at h
        · simp only [Bool.and_eq_true] at h
          obtain ⟨⟨⟨⟨⟨⟨h1, h2⟩, h3⟩, h4⟩, h5⟩, h6⟩, h7⟩ := h
          rename_i ks _ _ _ n p ks' q g y m ap
          have ek : ks = [] := by simpa using h1
          have ek' : ks' = [] := by simpa using h2
          subst ek
          subst ek'
          obtain ⟨en, hg, hm, hd⟩ := O.bt h3
          subst en
          have em := of_decide_eq_true h4
          subst em
          exact .of O.G (pe_mLI O.G (snd a O h7).pe hg hm (base_ncall h5) h6) (fun _ => rfl) (fun _ _ _ q => nomatch q)
        · cases h
      · cases h
    · cases h
  | .fnv i, c, g, X, x, O, h => by
    unfold chk at h
    simp only [den, denT]
    split at h
    · rw [Bool.and_eq_true] at h
      obtain ⟨h1, h2⟩ := h
      obtain ⟨hg, hd⟩ := O.glo h1
      split at h2
      · rename_i j m e
        have e1 := of_decide_eq_true h2
        subst e1
        obtain ⟨hm, _⟩ := O.gl _ _ e
        exact .of O.G (pe_mGlo (v := .ref (g.G.fa _)) hg hm rfl (fun _ _ => .fn _) (dunder_no hd).1) (fun _ => rfl) (fun _ _ _ q => nomatch q)
      · cases h2
    · cases h
  | .callp i np l, c, g, X, x, O, h => by
    unfold chk at h
    simp only [den, denT]
    split at h
    · rename_i f es ks pos
      split at h
      · rename_i n p
        simp only [Bool.and_eq_true] at h
        obtain ⟨⟨⟨⟨h1, h2⟩, h3⟩, h4⟩, h5⟩ := h
        have ek : ks = [] := by simpa using h1
        subst ek
        obtain ⟨hg, hd⟩ := O.glo h2
        split at h3
        · rename_i j m e
          rw [Bool.and_eq_true] at h3
          have e1 := of_decide_eq_true h3.1
          have e2 := of_decide_eq_true h3.2
          subst e1
          subst e2
          obtain ⟨hm, Fn⟩ := O.gl _ _ e
          obtain ⟨fd, ps, ok, hb, hl⟩ := Fn.ok
          cases es with
          | cons y ys =>
            have hn := chkL_nst h5
            have hn' : nst y = true ∧ nsts ys = true := by simpa [nsts] using hn
            exact .of O.G (pe_cl (pe_mCall O.G ok.pure O.room hb O.tk hl (pure_no Fn.no) hg hm Fn.kp (sndL l O h5) (dunder_no hd).1 (star_nst hn'.1) (args_nst hn'.2))) (fun _ => rfl) (fun _ _ _ q => nomatch q)
          | nil =>
            have e0 : m = 0 := by simpa using h4
            subst e0
            have el : l = .nil := by
              cases l with
              | nil => rfl
              | cons _ _ => simp [chkL] at h5
            subst el
            simp only [denL]
            exact .of O.G (pe_cl (pe_mCall0 O.G ok.pure O.room hb O.tk hl hg hm Fn.kp (dunder_no hd).1)) (fun _ => rfl) (fun _ _ _ q => nomatch q)
        · cases h3
      · cases h
    · cases h
  | .lcall fs f l, c, g, X, x, O, h => by
    unfold chk at h
    simp only [den, denT]
    split at h
    · rename_i y es ks pos
      simp only [Bool.and_eq_true] at h
      obtain ⟨⟨⟨⟨⟨h1, h2⟩, h3⟩, h4⟩, h5⟩, h6⟩ := h
      have ek : ks = [] := by simpa using h1
      subst ek
      cases es with
      | nil => simp at h4
      | cons e es =>
        have hn := chkL_nst h6
        have hn' : nst e = true ∧ nsts es = true := by simpa [nsts] using hn
        exact .of O.G (pe_cl (pe_mLCall (k := k) O.G O.room O.tk (fun i hi => by
          obtain ⟨x, np, _, Fn⟩ := O.fns h3 i hi
          obtain ⟨fd, ps, ok, hb, hl⟩ := Fn.ok
          exact ⟨np, ⟨fd, ps, ok, hb, hl⟩, Fn.kp, Fn.no⟩) (fun env => by cases y <;> first | rfl | cases h2) (snd f O h5).pe (sndL l O h6) (star_nst hn'.1) (args_nst hn'.2))) (fun _ => rfl) (fun _ _ _ q => nomatch q)
    · cases h
  | .trg1 t a, c, g, X, x, O, h => by
    unfold chk at h
    simp only [den, denT]
    split at h
    · split at h
      · simp only [Bool.and_eq_true] at h
        obtain ⟨⟨⟨⟨⟨h1, h2⟩, h3⟩, h4⟩, h5⟩, h6⟩ := h
        rename_i ks _ _ _ n p m p2 y ks' q
        have ek : ks = [] := by simpa using h1
        have ek' : ks' = [] := by simpa using h2
        subst ek
        subst ek'
        obtain ⟨en, hg, hm, hd⟩ := O.bt h3
        obtain ⟨en2, hg2, hm2, hd2⟩ := O.bt h4
        subst en2
        cases t with
        | true =>
          have en : n = "tuple" := en
          subst en
          exact .of O.G (pe_cl (pe_rgT O.G.calm hg hm (prg_1 hg2 hm2 (snd a O h6).pe (star_nst h5)) (star_nst rfl) (fun _ _ _ q => rg1_of q))) (fun _ => rfl) (fun _ _ _ q => nomatch q)
        | false =>
          have en : n = "list" := en
          subst en
          exact .of O.G (pe_cl (pe_rgL O.G.calm hg hm (prg_1 hg2 hm2 (snd a O h6).pe (star_nst h5)) (star_nst rfl) (fun _ _ _ q => rg1_of q))) (fun _ => rfl) (fun _ _ _ q => nomatch q)
      · cases h
    · cases h
  | .trg2 t a b, c, g, X, x, O, h => by
    unfold chk at h
    simp only [den, denT]
    split at h
    · split at h
      · simp only [Bool.and_eq_true] at h
        obtain ⟨⟨⟨⟨⟨⟨⟨h1, h2⟩, h3⟩, h4⟩, h5⟩, h6⟩, h7⟩, h8⟩ := h
        rename_i ks _ _ _ n p m p2 y z ks' q
        have ek : ks = [] := by simpa using h1
        have ek' : ks' = [] := by simpa using h2
        subst ek
        subst ek'
        obtain ⟨en, hg, hm, hd⟩ := O.bt h3
        obtain ⟨en2, hg2, hm2, hd2⟩ := O.bt h4
        subst en2
        cases t with
        | true =>
          have en : n = "tuple" := en
          subst en
          exact .of O.G (pe_cl (pe_rgT O.G.calm hg hm (prg_2 hg2 hm2 (snd a O h7).pe (snd b O h8).pe (star_nst h5) (star_nst h6) (args_nst (by simp [nsts, h6]))) (star_nst rfl) (fun _ _ _ q => rg2_of q))) (fun _ => rfl) (fun _ _ _ q => nomatch q)
        | false =>
          have en : n = "list" := en
          subst en
          exact .of O.G (pe_cl (pe_rgL O.G.calm hg hm (prg_2 hg2 hm2 (snd a O h7).pe (snd b O h8).pe (star_nst h5) (star_nst h6) (args_nst (by simp [nsts, h6]))) (star_nst rfl) (fun _ _ _ q => rg2_of q))) (fun _ => rfl) (fun _ _ _ q => nomatch q)
      · cases h
    · cases h
theorem sndP : ∀ (l : Ep) {c : Ct} {g : Rg} {X : Cx} {ks : List (Option Expr)} {vs : List Expr}, Ok c F k g X → chkP c l ks vs = true → PPm X g ks vs (denP F l)
  | .nil, c, g, X, ks, vs, O, h => by
    have h' : ks = [] ∧ vs = [] := by simpa [chkP] using h
    obtain ⟨e1, e2⟩ := h'
    subst e1
    subst e2
    unfold denP
    exact .nil
  | .cons a b l, c, g, X, ks, vs, O, h => by
    unfold chkP at h
    split at h
    · simp only [Bool.and_eq_true] at h
      unfold denP
      exact .cons (snd a O h.1.1).pe (snd b O h.1.2).pe (sndP l O h.2)
    · cases h
theorem sndL : ∀ (l : Es) {c : Ct} {g : Rg} {X : Cx} {es : List Expr}, Ok c F k g X → chkL c l es = true → PA X es (tAr g (denL F l))
  | .nil, c, g, X, es, O, h => by
    have : es = [] := by simpa [chkL] using h
    subst this
    unfold denL
    exact pa_mNil
  | .cons a l, c, g, X, [], O, h => by simp [chkL] at h
  | .cons a l, c, g, X, e :: es, O, h => by
    have h' : (nst e = true ∧ chk c a e = true) ∧ chkL c l es = true := by simpa [chkL] using h
    unfold denL
    exact pa_mCons (snd a O h'.1.2).pe (sndL l O h'.2) (star_nst h'.1.1)
theorem sndO : ∀ (l : Eo) {c : Ct} {g : Rg} {X : Cx} {y : Option Expr}, Ok c F k g X → chkO c l y = true → PO X y (tO g (denO F l))
  | .none, c, g, X, y, O, h => by
    unfold chkO at h
    cases y with
    | some _ => cases h
    | none => unfold denO; exact po_mNone
  | .some a, c, g, X, y, O, h => by
    unfold chkO at h
    cases y with
    | none => cases h
    | some y => unfold denO; exact po_mSome (snd a O h).pe
theorem sndC : ∀ (l : Eo) {c : Ct} {g : Rg} {X : Cx} {y : List Expr}, Ok c F k g X → chkC c l y = true → PTs X y (tTs g (denC F l))
  | .none, c, g, X, y, O, h => by
    have : y = [] := by simpa [chkC] using h
    subst this
    unfold denC
    exact pts_mC
  | .some a, c, g, X, y, O, h => by
    unfold chkC at h
    split at h
    · unfold denC; exact pts_one (snd a O h).pt
    · cases h
theorem sndI : ∀ (l : I) {c : Ct} {g : Rg} {X : Cx} {tg y : Expr}, Ok c F k g X → chkI c l tg y = true → PI X tg y (tI g (denI F l)) ∧ ∀ x, foldedSetIterable y X.env x = pure x
  | .e a, c, g, X, tg, y, O, h => by
    unfold chkI at h
    rw [Bool.and_eq_true] at h
    simp only [denI]
    refine ⟨pi_mItE O.G (snd a O h.2).pe, fun x => ?_⟩
    have h1 := h.1
    cases y <;> first | rfl | cases h1
  | .r1 a, c, g, X, tg, y, O, h => by
    unfold chkI at h
    simp only [denI]
    split at h
    · rename_i f es ks pos
      split at h
      · rename_i n p z
        simp only [Bool.and_eq_true] at h
        obtain ⟨⟨⟨h1, h2⟩, h3⟩, h4⟩ := h
        have ek : ks = [] := by simpa using h1
        subst ek
        obtain ⟨en, hg, hm, hd⟩ := O.bt h2
        subst en
        exact ⟨pi_mR1 hg hm (pa_mCons (snd a O h4).pe pa_mNil (star_nst h3)) (star_nst h3), fun x => rfl⟩
      · cases h
    · cases h
  | .r2 a b, c, g, X, tg, y, O, h => by
    unfold chkI at h
    simp only [denI]
    split at h
    · rename_i f es ks pos
      split at h
      · rename_i n p z u
        simp only [Bool.and_eq_true] at h
        obtain ⟨⟨⟨⟨⟨h1, h2⟩, h3⟩, h3'⟩, h4⟩, h5⟩ := h
        have ek : ks = [] := by simpa using h1
        subst ek
        obtain ⟨en, hg, hm, hd⟩ := O.bt h2
        subst en
        exact ⟨pi_mR2 hg hm (pa_mCons (snd a O h4).pe (pa_mCons (snd b O h5).pe pa_mNil (star_nst h3')) (star_nst h3)) (by rw [star_nst h3, star_nst h3']; rfl) (star_nst h3'), fun x => rfl⟩
      · cases h
    · cases h
  | .zip a b, c, g, X, tg, y, O, h => by
    unfold chkI at h
    simp only [denI]
    split at h
    · split at h
      · rename_i f es ks pos
        split at h
        · rename_i n p z u
          simp only [Bool.and_eq_true] at h
          obtain ⟨⟨⟨⟨⟨h1, h2⟩, h3⟩, h3'⟩, h4⟩, h5⟩ := h
          have ek : ks = [] := by simpa using h1
          subst ek
          obtain ⟨en, hg, hm, hd⟩ := O.bt h2
          subst en
          exact ⟨pi_mZip O.G hg hm (pa_mCons (snd a O h4).pe (pa_mCons (snd b O h5).pe pa_mNil (star_nst h3')) (star_nst h3)) (star_nst h3) (args_nst (by simp [nsts, h3'])), fun x => rfl⟩
        · cases h
      · cases h
    · cases h
end
end
end Pe

set_option linter.all false
set_option maxRecDepth 100000
set_option maxHeartbeats 8000000
namespace Pe
open PySem PySem.Spec PyProof.Rows L2
/-! ### statements, written -/
mutual
inductive T where
  | set (t : Tg) (e : E) | setc (i : Nat) (f : Bool) (it : I) (t : Tg) (d : Eo) (e : E) (own : List (Str × Nat)) | par (i j : Nat) (a b : E) | put (o i e : E) | putT (l : Ep) (e : E) | drop (e : E) | ret (e : E) | retN
  | ite (t : E) (a b : B) | for_ (it : I) (t : Tg) (b : B) | wh (t : E) (b : B) | pass | bk | ct | no | raise0 (c : Nat) | raise (c : Nat) (e : E) | tryS (nx : Nat) (b : B) (hs : List Hd)
inductive B where
  | nil | cons (s : T) (b : B)
end
mutual
def denS (F : FT) : T → MS
  | .set t e => sSet t (den F e)
  | .setc i f it t d e own => sSet (.v i) (match f with
    | true => mFz (mLc (denI F it) t (denC F d) (den F e) (own.map (·.2)))
    | false => mLc (denI F it) t (denC F d) (den F e) (own.map (·.2)))
  | .par i j a b => sPar i j (mCons (den F a) (mCons (den F b) mNil))
  | .put o i e => sPut (den F o) (den F i) (den F e)
  | .putT l e => sPutT (denPu F l) (den F e)
  | .drop e => sDrop (den F e)
  | .ret e => sRet (den F e)
  | .retN => sRetN
  | .ite t a b => sIf (denT F t) (denB F a) (denB F b)
  | .for_ it t b => sFor (denI F it) t (denB F b)
  | .wh t b => sWh (denT F t) (denB F b)
  | .pass => sNil
  | .bk => sBk
  | .ct => sCt
  | .no => sNo
  | .raise0 c => sRaise0 c
  | .raise c e => sRaise c (den F e)
  | .tryS nx b hs => sTry nx hs (denB F b)
def denB (F : FT) : B → MS
  | .nil => sNil
  | .cons s b => sSeq (denS F s) (denB F b)
end
def swB (c : Ct) (tg e : Expr) : Bool := match e with
  | .ListComp _ _ _ _ => (match tg with
    | .Name y _ => !decide (c.sc.names.lookup y = some .local)
    | .Tuple .. => true
    | _ => false)
  | .SetComp .. => false
  | .DictComp .. => false
  | _ => true
def nlc : Expr → Bool
  | .ListComp .. => false
  | .SetComp .. => false
  | .DictComp .. => false
  | _ => true
def stoF (sc : Scope) (ts vs : List Expr) : Option (Option (List Str)) :=
  let line := (ts.head?.map (·.pos.line)).getD 0
  let names := ts.filterMap fun
    | .Name id pos => if sc.names.lookup id == some .local && pos.line == line then some id else none
    | _ => none
  if !(ts.length == 2 || ts.length == 3) || vs.length != ts.length then some none
  else if vs.any fun | .Starred .. => true | _ => false then some none
  else if names.length != ts.length || names.eraseDups.length != names.length then some none
  else if vs.all (foldedForSure 8) then some none
  else if vs.all (constantsAlone 8) then none else some (some names)
def noSw (c : Ct) (tg e : Expr) : Bool := match tg with
  | .Name .. => true
  | .Tuple ts _ _ => (match e with
    | .Tuple vs _ _ => decide (stoF c.sc ts vs = some none)
    | _ => true)
  | .Subscript .. => true
  | _ => false
/-- a class that keeps an attribute -/
def xcK (c : Ct) (i : Nat) (nm : Str) : Bool := match c.xs[i]? with
  | some e => (match e.kp with
    | some (at_, _) => decide (at_ = nm)
    | none => false)
  | none => false
mutual
def chkSu (c : Ct) (o : Option Nat) : Su → Expr → Bool
  | .con d, x => scD d && chk c (.con d) x
  | .at_ i j nm, x => match x with
    | .Attribute y m _ => match y with
      | .Name n _ => decide (m = nm) && decide (o = some j) && c.vis j n && xcK c i nm
      | _ => false
    | _ => false
  | .rep z i j nm, x => match x with
    | .BinOp u op v _ => match u, v with
      | .Constant (.str s) _ _, .Call (.Name f _) [.Attribute (.Name n _) m _] ks _ => decide (s = txt z) && decide (op = .Add) && ks.isEmpty && c.bt f "repr" && decide (m = nm) && decide (o = some j) && c.vis j n && xcK c i nm
      | _, _ => false
    | _ => false
  | .tup l, x => match x with
    | .Tuple es _ _ => chkSus c o l es
    | _ => false
def chkSus (c : Ct) (o : Option Nat) : Sus → List Expr → Bool
  | .nil, l => l.isEmpty
  | .cons a l, y => match y with
    | x :: xs => nst x && chkSu c o a x && chkSus c o l xs
    | _ => false
end
def chkH (c : Ct) (h : Hd) : ExceptHandler → Bool
  | .ExceptHandler t nm body _ => match t, body with
    | some (.Name y _), [.Return (some e) _] => c.gl y && (match c.xs.find? fun e => decide (e.nm = y) with
      | some e => decide (e.ms = h.1)
      | none => false) && (match h.2.1, nm with
      | none, none => true
      | some i, some n => decide (c.N[i]? = some n) && decide (c.sc.names.lookup n = some .local)
      | _, _ => false) && chkSu c h.2.1 h.2.2 e
    | _, _ => false
def chkHs (c : Ct) : List Hd → List ExceptHandler → Bool
  | [], l => l.isEmpty
  | h :: hs, l => match l with
    | x :: xs => chkH c h x && chkHs c hs xs
    | _ => false
mutual
def chkS (c : Ct) : T → Stmt → Bool
  | .set t e, x => match x with
    | .Assign ts y _ => match ts with
      | [tg] => nst tg && swB c tg y && noSw c tg y && chkT c t tg && chk c e y
      | _ => false
    | _ => false
  | .setc i f it t d e own, x => match x with
    | .Assign ts y _ => match ts, y with
      | [.Name n py], .ListComp el gs s p => match gs with
        | [⟨tg, iter, ifs, as⟩] => decide (as = 0) && decide (c.N[i]? = some n) && decide (c.sc.names.lookup n = some .local) && (py.line == p.line) && !(s.names.any fun (m, k) => m == n && (k == .local || k == .cell)) &&
          blkC c.N c.sc s own && (t.sl.all fun i => decide (i ∈ own.map (·.2))) && chkI c it tg iter && chkT ⟨c.N, relS s c.sc, c.tb, c.bl, some s, c.xs⟩ t tg && chkC ⟨c.N, relS s c.sc, c.tb, c.bl, some s, c.xs⟩ d ifs && chk ⟨c.N, relS s c.sc, c.tb, c.bl, some s, c.xs⟩ e el
        | _ => false
      | _, _ => false
    | _ => false
  | .par i j a b, x => match x with
    | .Assign ts y _ => match ts, y with
      | [.Tuple ns _ _], .Tuple vs _ _ => match ns, vs with
        | [.Name n _, .Name m _], [u, v] => decide (c.N[i]? = some n) && decide (c.N[j]? = some m) && decide (i ≠ j) && decide (c.sc.names.lookup n = some .local) && decide (c.sc.names.lookup m = some .local) && decide (stoF c.sc ns vs = some (some [n, m])) && nst u && nst v && chk c a u && chk c b v
        | _, _ => false
      | _, _ => false
    | _ => false
  | .put o i e, x => match x with
    | .Assign ts y _ => match ts with
      | [.Subscript u v p] => swB c (.Subscript u v p) y && nslice v && chk c o u && chk c i v && chk c e y
      | _ => false
    | _ => false
  | .putT l e, x => match x with
    | .Assign ts y _ => match ts with
      | [.Tuple es k p] => swB c (.Tuple es k p) y && noSw c (.Tuple es k p) y && chkPu c l es && chk c e y
      | _ => false
    | _ => false
  | .drop e, x => match x with
    | .Expr y _ => nlc y && chk c e y
    | _ => false
  | .ret e, x => match x with
    | .Return y _ => (match y with
      | some y => chk c e y
      | none => false)
    | _ => false
  | .retN, x => match x with
    | .Return y _ => y.isNone
    | _ => false
  | .ite t a b, x => match x with
    | .If y u v _ => chk c t y && chkB c a u && chkB c b v
    | _ => false
  | .for_ it t b, x => match x with
    | .For tg y u v _ => v.isEmpty && chkI c it tg y && chkT c t tg && chkB c b u
    | _ => false
  | .wh t b, x => match x with
    | .While y u v _ => v.isEmpty && chk c t y && chkB c b u
    | _ => false
  | .pass, x => match x with
    | .Pass _ => true
    | _ => false
  | .bk, x => match x with
    | .Break _ => true
    | _ => false
  | .ct, x => match x with
    | .Continue _ => true
    | _ => false
  | .no, _ => true
  | .raise0 i, x => match x with
    | .Raise e y _ => match e, y with
      | some (.Call (.Name n _) [.Constant (.str _) _ _] ks _), none => ks.isEmpty && c.gl n && (match c.xs[i]? with
        | some e => decide (e.nm = n) && e.kp.isNone
        | none => false)
      | _, _ => false
    | _ => false
  | .raise i a, x => match x with
    | .Raise e y _ => match e, y with
      | some (.Call (.Name n _) [z] ks _), none => ks.isEmpty && c.gl n && nst z && chk c a z && (match c.xs[i]? with
        | some e => decide (e.nm = n) && e.kp.isSome
        | none => false)
      | _, _ => false
    | _ => false
  | .tryS nx b hs, x => match x with
    | .Try body hds oe fb _ => oe.isEmpty && fb.isEmpty && !hds.isEmpty && decide (nx = c.xs.length) && chkB c b body && chkHs c hs hds
    | _ => false
def chkB (c : Ct) : B → List Stmt → Bool
  | .nil, l => l.isEmpty
  | .cons s b, l => match l with
    | x :: xs => chkS c s x && chkB c b xs
    | _ => false
end
section
variable {F : FT} {k : Nat} {c : Ct} {g : Rg} {X : Cx}
theorem sw_no {tg e : Expr} {l : Nat} (hs : X.env.scope = c.sc) (h : swB c tg e = true) : swapsWithSole [tg] e l X.env = pure false := by
  cases e with
  | ListComp el gs s p =>
    cases tg with
    | Name y py =>
      have h : ¬ c.sc.names.lookup y = some .local := by simpa [swB] using h
      have e1 : (X.env.kindOf y == some .local) = false := by
        show (X.env.scope.names.lookup y == some .local) = false
        rw [hs]
        exact beq_eq_false_iff_ne.mpr h
      have e2 : swapsWithSole [.Name y py] (.ListComp el gs s p) l X.env = pure (X.env.blockKind == .function && X.env.kindOf y == some .local && py.line == (Expr.ListComp el gs s p).pos.line && !(s.names.any fun (n, k) => n == y && (k == .local || k == .cell))) := rfl
      rw [e2, e1, Bool.and_false, Bool.false_and, Bool.false_and]
    | Tuple _ _ _ => rfl
    | _ => cases h
  | SetComp _ _ _ _ => cases h
  | DictComp _ _ _ _ _ => cases h
  | _ => rfl
theorem sw_nlc {e : Expr} {l : Nat} (h : nlc e = true) : swapsWith e none l X.env = pure false := by
  cases e <;> first | rfl | cases h
theorem sto_ok {ts vs : List Expr} {k k2 : Nat} {p p2 : Pos} {r : Option (List Str)} (hk : X.env.scope.kind = .function) (h : stoF X.env.scope ts vs = some r) : swappedStores [.Tuple ts k p] (.Tuple vs k2 p2) X.env = pure r := by
  have hb : X.env.blockKind = .function := by unfold Env.blockKind; rw [hk]; rfl
  have hb2 : (X.env.blockKind != .function) = false := by rw [hb]; rfl
  unfold stoF at h
  unfold swappedStores
  simp only [hb2, Bool.or_false]
  have hkk : ∀ id, X.env.kindOf id = X.env.scope.names.lookup id := fun _ => rfl
  simp only [hkk]
  dsimp only at h
  by_cases h1 : (!(ts.length == 2 || ts.length == 3) || vs.length != ts.length) = true
  · rw [if_pos h1] at h
    cases h
    exact if_pos h1
  rw [if_neg h1] at h
  refine (if_neg h1).trans ?_
  by_cases h2 : (vs.any fun | .Starred .. => true | _ => false) = true
  · replace h := (if_pos h2).symm.trans h
    cases h
    exact if_pos h2
  replace h := (if_neg h2).symm.trans h
  refine (if_neg h2).trans ?_
  split at h
  · rename_i h3
    cases h
    exact if_pos h3
  · rename_i h3
    refine (if_neg h3).trans ?_
    split at h
    · rename_i h4
      cases h
      exact if_pos h4
    · rename_i h4
      refine (if_neg h4).trans ?_
      split at h
      · cases h
      · rename_i h5
        cases h
        exact if_neg h5
end
end Pe

set_option linter.all false
set_option maxRecDepth 100000
set_option maxHeartbeats 8000000
namespace Pe
open PySem PySem.Spec PyProof.Rows L2
section
variable {F : FT} {k : Nat} {c : Ct} {g : Rg} {X : Cx}
theorem gT_v {K : PySem.W.Frag} {i : Nat} : gT K (.v i) = gName i := by unfold gT; rfl
theorem noSw_ok (hs : X.env.scope = c.sc) (hk : c.sc.kind = .function) {tg e : Expr} (h : noSw c tg e = true) : swappedStores [tg] e X.env = pure none := by
  cases tg with
  | Name _ _ => cases e <;> rfl
  | Tuple ts _ _ =>
    cases e with
    | Tuple vs _ _ =>
      have h : stoF c.sc ts vs = some none := by simpa [noSw] using h
      exact sto_ok (by rw [hs]; exact hk) (by rw [hs]; exact h)
    | _ => rfl
  | Subscript _ _ _ => cases e <;> rfl
  | _ => cases h
theorem asg_one {tg : Expr} {env : Env} (h : nst tg = true) : (assignEach [tg] env).map (·.2) = [assign tg env] := by
  rw [asg_nst h]; rfl
/-- name = [.. for ..], the name stored within -/
theorem ps_sSetc (O : Ok c F k g X) {i : Nat} {y : Str} {py : Pos} {elt tg iter : Expr} {ifs : List Expr} {scope : Scope} {own : List (Str × Nat)} {pos spos : Pos} {it : MI} {t : Tg} {cn : MT} {el : M} {m : M} (hm : ∀ σ H Q, tE g m σ H Q → tE g (mLc it t cn el (own.map (·.2))) σ H Q)
    (hy : X.N[i]? = some y) (hyl : X.env.scope.names.lookup y = some .local) (hk : X.env.scope.kind = .function) (hl : (py.line == pos.line) = true) (ha : (scope.names.any fun (n, k) => n == y && (k == .local || k == .cell)) = false)
    (hi : PI X tg iter (tI g it)) (ok : BlkOk X.N X.env.scope scope own) (hown : ∀ i ∈ t.sl, i ∈ own.map (·.2))
    (hg : ∀ (s : Shared) (H : Hp) (C : Addr) (cl : List (Str × Addr)) (fp : List Addr), PG (X.blk s H scope (compEnvC scope cl C X.env) fp) tg (gT X.K t)) (ht : ∀ (s : Shared) (H : Hp) (C : Addr) (cl : List (Str × Addr)) (fp : List Addr), PTs (X.blk s H scope (compEnvC scope cl C X.env) fp) ifs (tTs g.nx cn))
    (he : ∀ (s : Shared) (H : Hp) (C : Addr) (cl : List (Str × Addr)) (fp : List Addr), PE (X.blk s H scope (compEnvC scope cl C X.env) fp) elt (tE g.nx el)) (hs : ∀ x, foldedSetIterable iter X.env x = pure x) : PS X (.Assign [.Name y py] (.ListComp elt [⟨tg, iter, ifs, 0⟩] scope pos) spos) (tS g (sSet (.v i) m)) := by
  refine ps_weak (ps_setLc O.G.calm O.G.nd hy hyl (sw_true hk hyl hl ha) hi ok hg ht he hs) fun D σ H q => ?_
  have q := tAsg_of O.G.hK q
  rw [gT_v] at q
  exact tLc_of O.G.hK hown (hm _ _ _ q)
theorem snd_Pu (O : Ok c F k g X) : ∀ (l : Ep) {es : List Expr}, chkPu c l es = true → PGs X es (gPuts g (denPu F l)) ∧ (assignEach es X.env).length = (denPu F l).length ∧ (assignEach es X.env).findIdx? (·.1) = none
  | .nil, es, h => by
    have : es = [] := by simpa [chkPu] using h
    subst this
    exact ⟨pgs_nil, rfl, rfl⟩
  | .cons o i l, es, h => by
    unfold chkPu at h
    split at h
    · simp only [Bool.and_eq_true] at h
      obtain ⟨⟨⟨h1, h2⟩, h3⟩, h4⟩ := h
      obtain ⟨q1, q2, q3⟩ := snd_Pu O l h4
      rename_i u v p ys
      refine ⟨?_, ?_, ?_⟩
      · unfold denPu gPuts
        exact pgs_cons (pg_sub (snd o O h2).pe (snd i O h3).pe (set_any O.G) (fun w => by cases v <;> first | rfl | cases h1)) q1 rfl
      · show (assignEach ys X.env).length + 1 = _
        rw [q2]; rfl
      · show (List.findIdx? (·.1) ((false, _) :: assignEach ys X.env)) = none
        rw [List.findIdx?_cons, q3]; rfl
    · cases h
theorem Ok.trW (O : Ok c F k g X) {W : WX} {pn : List (Addr × Obj)} {xe : Value → Shared → Prop} (tk : Takes (X.tr pn xe) W) : Ok c F k ⟨g.G, g.pn, W⟩ (X.tr pn xe) where
  G := ⟨O.G.hK, O.G.hw, O.G.nd, O.G.hu, O.G.gu, O.G.calm⟩
  N := O.N
  sc := O.sc
  tk := tk
  room := O.room
  one := O.one
  gl := fun x gm h => by
    have q := O.gl x gm h
    cases gm with
    | con d => exact q
    | fn i np => exact ⟨q.1, q.2.ok, q.2.kp, q.2.no⟩
  bl := O.bl
  xs := fun i e h => ⟨(O.xs i e h).mg, (O.xs i e h).kp, (O.xs i e h).pn, (O.xs i e h).rz, (O.xs i e h).mk0, (O.xs i e h).mk1, (O.xs i e h).ms⟩
  fn := O.fn
theorem Ok.xk (O : Ok c F k g X) {i : Nat} {nm : Str} (h : xcK c i nm = true) : g.pn i = some nm ∧ XfC X.K (g.G.ca i) ∧ PySem.W.findIn X.K (.ref (g.G.ca i)) nm = some none := by
  unfold xcK at h
  split at h
  · rename_i e he
    have Q := O.xs i e he
    split at h
    · rename_i at_ ar hk
      have := of_decide_eq_true h
      subst this
      obtain ⟨_, h2, h3⟩ := Q.mk1 _ _ hk
      exact ⟨by rw [Q.pn, hk]; rfl, h2, h3⟩
    · cases h
  · cases h
section
variable {a : Addr} {oe : Obj} {cls : Value} {d : Option Addr} {o : Option Nat} {pn : List (Addr × Obj)}
mutual
theorem snd_Su (O : Ok c F k g X) (hz : Zc cls d oe) (hf : ∃ vs, oe.data = .fields vs) : ∀ (s : Su) {x : Expr}, chkSu c o s x = true → PE (X.suite a ((a, oe) :: pn)) x (tSu g a cls d o s)
  | .con y, x, h => by
    unfold chkSu at h
    rw [Bool.and_eq_true] at h
    obtain ⟨h1, h2⟩ := h
    unfold chk at h2
    split at h2
    · split at h2
      · have e := same_eq h2; subst e; exact pe_su_con pe_non fun _ _ _ => .non
      · have e := same_eq h2; subst e; exact pe_su_con pe_bl fun _ _ _ => .bl _
      · have e := same_eq h2; subst e; exact pe_su_con pe_int fun _ _ _ => .int _
      · split at h2
        · rw [Bool.and_eq_true] at h2
          have e := of_decide_eq_true h2.1
          subst e
          exact pe_su_con pe_str fun _ _ _ => .str _ (by rw [szEq]; exact of_decide_eq_true h2.2)
        · cases h2
      · cases h2
    · cases h2
  | .at_ i j nm, x, h => by
    unfold chkSu at h
    split at h
    · split at h
      · simp only [Bool.and_eq_true] at h
        obtain ⟨⟨⟨h1, h2⟩, h3⟩, h4⟩ := h
        have e1 := of_decide_eq_true h1
        have e2 := of_decide_eq_true h2
        subst e1
        subst e2
        obtain ⟨n1, n2, n3⟩ := O.vis h3
        obtain ⟨d1, d2, _⟩ := dunder_no n3
        obtain ⟨q1, q2, q3⟩ := O.xk h4
        exact pe_su_at q1 q2 q3 hz hf n1 n2 d1 d2
      · cases h
    · cases h
  | .rep z i j nm, x, h => by
    unfold chkSu at h
    split at h
    · split at h
      · simp only [Bool.and_eq_true] at h
        obtain ⟨⟨⟨⟨⟨⟨⟨h1, h2⟩, h3⟩, h4⟩, h5⟩, h6⟩, h7⟩, h8⟩ := h
        have e1 := of_decide_eq_true h1
        have e2 := of_decide_eq_true h2
        rename_i s _ _ f _ n m _ ks _
        have e3 : ks = [] := by simpa using h3
        have e5 := of_decide_eq_true h5
        have e6 := of_decide_eq_true h6
        obtain ⟨en, hg, hm, hd⟩ := O.bt h4
        subst e1 e2 e3 e5 e6 en
        obtain ⟨n1, n2, n3⟩ := O.vis h7
        obtain ⟨d1, d2, _⟩ := dunder_no n3
        obtain ⟨q1, q2, q3⟩ := O.xk h8
        exact pe_su_rep O.G q1 q2 q3 hz hf n1 n2 d1 d2 hg hm
      · cases h
    · cases h
  | .tup l, x, h => by
    unfold chkSu at h
    split at h
    · exact pe_su_tup (snd_Sus O hz hf l h)
    · cases h
theorem snd_Sus (O : Ok c F k g X) (hz : Zc cls d oe) (hf : ∃ vs, oe.data = .fields vs) : ∀ (l : Sus) {es : List Expr}, chkSus c o l es = true → PA (X.suite a ((a, oe) :: pn)) es (tSus g a cls d o l)
  | .nil, es, h => by
    have : es = [] := by simpa [chkSus] using h
    subst this
    exact pa_su_nil
  | .cons s l, [], h => by simp [chkSus] at h
  | .cons s l, e :: es, h => by
    have h' : (nst e = true ∧ chkSu c o s e = true) ∧ chkSus c o l es = true := by simpa [chkSus] using h
    exact pa_su_cons (snd_Su O hz hf s h'.1.2) (snd_Sus O hz hf l h'.2) fun env => star_nst h'.1.1
end
end
theorem snd_H (O : Ok c F k g X) {h : Hd} {x : ExceptHandler} (q : chkH c h x = true) : ∃ kk, HdOk X g c.xs.length x h kk := by
  obtain ⟨ms, o, su⟩ := h
  unfold chkH at q
  split at q
  · rename_i t nm body pos'
    split at q
    · rename_i y np e p
      simp only [Bool.and_eq_true] at q
      obtain ⟨⟨⟨h1, h2⟩, h3⟩, h4⟩ := q
      obtain ⟨hg, hd⟩ := O.glo h1
      split at h2
      · rename_i e0 hf
        have em := of_decide_eq_true h2
        have en : e0.nm = y := of_decide_eq_true (List.find?_some (p := fun e : Xc => decide (e.nm = y)) hf)
        obtain ⟨i, hi⟩ := List.getElem?_of_mem (List.mem_of_find?_eq_some hf)
        have Q := O.xs i e0 hi
        refine ⟨_, ⟨⟨y, np, pos', nm, e, p, i, rfl, rfl, ⟨hg, (dunder_no hd).1, .inl (by rw [← en]; exact Q.mg)⟩, ?_, fun j hj => by rw [← em]; exact Q.ms j hj, fun a oe cls d pn hz hf => snd_Su O hz hf _ h4⟩⟩⟩
        cases o with
        | none =>
          cases nm with
          | none => trivial
          | some _ => cases h3
        | some i =>
          cases nm with
          | none => cases h3
          | some n =>
            have h3 := Bool.and_eq_true_iff.mp h3
            exact ⟨by rw [O.N]; exact of_decide_eq_true h3.1, by show X.env.scope.names.lookup _ = _; rw [O.sc]; exact of_decide_eq_true h3.2⟩
      · cases h2
    · cases q
theorem snd_Hs (O : Ok c F k g X) : ∀ {hs : List Hd} {xs : List ExceptHandler}, chkHs c hs xs = true → ∃ ks, HdsOk2 X g c.xs.length xs hs ks
  | [], xs, h => by
    have : xs = [] := by simpa [chkHs] using h
    subst this
    exact ⟨_, .nil⟩
  | h :: hs, [], q => by simp [chkHs] at q
  | h :: hs, x :: xs, q => by
    have q' : chkH c h x = true ∧ chkHs c hs xs = true := by simpa [chkHs] using q
    obtain ⟨k1, a⟩ := snd_H O q'.1
    obtain ⟨k2, b⟩ := snd_Hs O q'.2
    exact ⟨_, .cons a b⟩
mutual
theorem sndS : ∀ (s : T) {c : Ct} {g : Rg} {X : Cx} {x : Stmt}, Ok c F k g X → (c.sc.kind = .function ∧ X.stack = X.env :: X.outer ∧ X.env.frame = some X.env.locals) → PassesOwn (model X.prog X.w) X.A X.env X.xe → chkS c s x = true → PS X x (tS g (denS F s))
  | .set t e, c, g, X, x, O, hk, po, h => by
    unfold chkS at h
    simp only [denS]
    split at h
    · split at h
      · simp only [Bool.and_eq_true] at h
        obtain ⟨⟨⟨⟨h1, h2⟩, h3⟩, h4⟩, h5⟩ := h
        exact ps_sSet O.G.hK (snd e O h5).pe (snd_T O t h4) (sw_no O.sc h2) (noSw_ok O.sc hk.1 h3) (asg_one h1)
      · cases h
    · cases h
  | .setc i f it t d e own, c, g, X, x, O, hk, po, h => by
    unfold chkS at h
    simp only [denS]
    split at h
    · split at h
      · split at h
        · rename_i n py el s p gs tg iter ifs as
          simp only [Bool.and_eq_true] at h
          obtain ⟨⟨⟨⟨⟨⟨⟨⟨⟨⟨h1, h2⟩, h3⟩, h4⟩, h5⟩, h6⟩, h7⟩, h8⟩, h9⟩, h10⟩, h11⟩ := h
          have e0 := of_decide_eq_true h1
          subst e0
          have ok : BlkOk X.N X.env.scope s own := by
            rw [O.N, O.sc]
            exact blkOk_by h6
          obtain ⟨pi, fs⟩ := sndI it O h8
          refine ps_sSetc O (it := denI F it) (t := t) (cn := denC F d) (el := den F e) (own := own) ?_ (by rw [O.N]; exact of_decide_eq_true h2) (by rw [O.sc]; exact of_decide_eq_true h3) (by rw [O.sc]; exact hk.1) h4 (by simpa using h5) pi ok (fun i hi => of_decide_eq_true (List.all_eq_true.mp h7 i hi))
            (fun s1 H1 C cl fp => snd_T (O.blk s1 H1 s C cl fp) t h9) (fun s1 H1 C cl fp => sndC d (O.blk s1 H1 s C cl fp) h10) (fun s1 H1 C cl fp => (snd e (O.blk s1 H1 s C cl fp) h11).pe) fs
          cases f with
          | true => exact fun σ H Q q => tE.fz q
          | false => exact fun σ H Q q => q
        · cases h
      · cases h
    · cases h
  | .par i j a b, c, g, X, x, O, hk, po, h => by
    unfold chkS at h
    simp only [denS]
    split at h
    · split at h
      · split at h
        · simp only [Bool.and_eq_true] at h
          obtain ⟨⟨⟨⟨⟨⟨⟨⟨⟨h1, h2⟩, h3⟩, h4⟩, h5⟩, h6⟩, h7⟩, h8⟩, h9⟩, h10⟩ := h
          exact ps_sPar O.G (by rw [O.N]; exact of_decide_eq_true h1) (by rw [O.N]; exact of_decide_eq_true h2) (of_decide_eq_true h3) (by rw [O.sc]; exact of_decide_eq_true h4) (by rw [O.sc]; exact of_decide_eq_true h5)
            (pa_mCons (snd a O h9).pe (pa_mCons (snd b O h10).pe pa_mNil (star_nst h8)) (star_nst h7)) (sto_ok (by rw [O.sc]; exact hk.1) (by rw [O.sc]; exact of_decide_eq_true h6)) rfl
        · cases h
      · cases h
    · cases h
  | .put o i e, c, g, X, x, O, hk, po, h => by
    unfold chkS at h
    simp only [denS]
    split at h
    · split at h
      · simp only [Bool.and_eq_true] at h
        obtain ⟨⟨⟨⟨h1, h2⟩, h3⟩, h4⟩, h5⟩ := h
        rename_i y _ _ u v p
        exact ps_sPut O.G (snd o O h3).pe (snd i O h4).pe (snd e O h5).pe (noSw_ok O.sc hk.1 rfl) (sw_no O.sc h1) rfl (fun w => by
          cases v <;> first | rfl | cases h2)
      · cases h
    · cases h
  | .putT l e, c, g, X, x, O, hk, po, h => by
    unfold chkS at h
    simp only [denS]
    split at h
    · split at h
      · simp only [Bool.and_eq_true] at h
        obtain ⟨⟨⟨h1, h2⟩, h3⟩, h4⟩ := h
        obtain ⟨q1, q2, q3⟩ := snd_Pu O l h3
        exact ps_sPutT O.G q1 q2 q3 (snd e O h4).pe (noSw_ok O.sc hk.1 h2) (sw_no O.sc h1)
      · cases h
    · cases h
  | .drop e, c, g, X, x, O, hk, po, h => by
    unfold chkS at h
    simp only [denS]
    split at h
    · rw [Bool.and_eq_true] at h
      exact ps_sDrop (snd e O h.2).pe (sw_nlc h.1)
    · cases h
  | .ret e, c, g, X, x, O, hk, po, h => by
    unfold chkS at h
    simp only [denS]
    split at h
    · split at h
      · exact ps_sRet (snd e O h).pe
      · cases h
    · cases h
  | .retN, c, g, X, x, O, hk, po, h => by
    unfold chkS at h
    simp only [denS]
    split at h
    · rename_i y _
      cases y with
      | some _ => cases h
      | none => exact ps_sRetN
    · cases h
  | .ite t a b, c, g, X, x, O, hk, po, h => by
    unfold chkS at h
    simp only [denS]
    split at h
    · simp only [Bool.and_eq_true] at h
      obtain ⟨⟨h1, h2⟩, h3⟩ := h
      exact ps_sIf (snd t O h1).pt (sndB a O hk po h2) (sndB b O hk po h3)
    · cases h
  | .for_ it t b, c, g, X, x, O, hk, po, h => by
    unfold chkS at h
    simp only [denS]
    split at h
    · simp only [Bool.and_eq_true] at h
      obtain ⟨⟨⟨h1, h2⟩, h3⟩, h4⟩ := h
      rename_i v _
      have ev : v = [] := by simpa using h1
      subst ev
      obtain ⟨pi, fs⟩ := sndI it O h2
      exact ps_sFor O.G po pi (snd_T O t h3) (sndB b O hk po h4) fs
    · cases h
  | .wh t b, c, g, X, x, O, hk, po, h => by
    unfold chkS at h
    simp only [denS]
    split at h
    · simp only [Bool.and_eq_true] at h
      obtain ⟨⟨h1, h2⟩, h3⟩ := h
      rename_i v _
      have ev : v = [] := by simpa using h1
      subst ev
      exact ps_sWh po (snd t O h2).pt (sndB b O hk po h3)
    · cases h
  | .pass, c, g, X, x, O, hk, po, h => by
    unfold chkS at h
    simp only [denS]
    split at h
    · exact ps_sPass
    · cases h
  | .bk, c, g, X, x, O, hk, po, h => by
    unfold chkS at h
    simp only [denS]
    split at h
    · exact ps_sBk
    · cases h
  | .ct, c, g, X, x, O, hk, po, h => by
    unfold chkS at h
    simp only [denS]
    split at h
    · exact ps_sCt
    · cases h
  | .no, c, g, X, x, O, hk, po, h => by
    simp only [denS]
    exact ps_sNo
  | .raise0 i, c, g, X, x, O, hk, po, h => by
    unfold chkS at h
    simp only [denS]
    split at h
    · split at h
      · simp only [Bool.and_eq_true] at h
        obtain ⟨⟨h1, h2⟩, h3⟩ := h
        rename_i n _ _ _ _ ks _
        have ek : ks = [] := by simpa using h1
        subst ek
        obtain ⟨hg, hd⟩ := O.glo h2
        split at h3
        · rename_i e he
          rw [Bool.and_eq_true] at h3
          have en := of_decide_eq_true h3.1
          have e0 : e.kp = none := by simpa using h3.2
          have Q := O.xs i e he
          subst en
          exact ps_sRaise0 (n := e.bs) O.G O.tk rfl (by rw [Q.pn, e0]; rfl) (Q.mk0 e0) Q.mg Q.kp Q.rz hg (dunder_no hd).1
        · cases h3
      · cases h
    · cases h
  | .raise i a, c, g, X, x, O, hk, po, h => by
    unfold chkS at h
    simp only [denS]
    split at h
    · split at h
      · simp only [Bool.and_eq_true] at h
        obtain ⟨⟨⟨⟨h1, h2⟩, h3⟩, h4⟩, h5⟩ := h
        rename_i n _ z ks _
        have ek : ks = [] := by simpa using h1
        subst ek
        obtain ⟨hg, hd⟩ := O.glo h2
        split at h5
        · rename_i e he
          rw [Bool.and_eq_true] at h5
          have en := of_decide_eq_true h5.1
          have Q := O.xs i e he
          subst en
          cases hk' : e.kp with
          | none => rw [hk'] at h5; simp at h5
          | some kk =>
            obtain ⟨attr, arg⟩ := kk
            obtain ⟨⟨fI, hs⟩, _, _⟩ := Q.mk1 attr arg hk'
            exact ps_sRaise O.G O.tk rfl (by rw [Q.pn, hk']; rfl) hs (O.room.mono O.one) hg Q.mg (snd a O h4).pe (star_nst h3) (dunder_no hd).1
        · cases h5
      · cases h
    · cases h
  | .tryS nx b hs, c, g, X, x, O, hk, po, h => by
    unfold chkS at h
    simp only [denS]
    split at h
    · simp only [Bool.and_eq_true] at h
      obtain ⟨⟨⟨⟨⟨h1, h2⟩, h3⟩, h4⟩, h5⟩, h6⟩ := h
      rename_i body hds oe fb _
      have e1 : oe = [] := by simpa using h1
      have e2 : fb = [] := by simpa using h2
      have e4 := of_decide_eq_true h4
      subst e1 e2 e4
      obtain ⟨ks, hh⟩ := snd_Hs O h6
      cases hds with
      | nil => simp at h3
      | cons hd hds =>
        refine ps_sTry O.G hk.2.1 hk.2.2 O.tk (fun W pn xe tk po => sndB b (c := c) (O.trW tk) hk po h5) hh
    · cases h
theorem sndB : ∀ (b : B) {c : Ct} {g : Rg} {X : Cx} {xs : List Stmt}, Ok c F k g X → (c.sc.kind = .function ∧ X.stack = X.env :: X.outer ∧ X.env.frame = some X.env.locals) → PassesOwn (model X.prog X.w) X.A X.env X.xe → chkB c b xs = true → PSs X xs (tS g (denB F b))
  | .nil, c, g, X, xs, O, hk, po, h => by
    unfold chkB at h
    have : xs = [] := by simpa using h
    subst this
    simp only [denB]
    exact pss_sNil
  | .cons s b, c, g, X, [], O, hk, po, h => by simp [chkB] at h
  | .cons s b, c, g, X, x :: xs, O, hk, po, h => by
    have h' : chkS c s x = true ∧ chkB c b xs = true := by simpa [chkB] using h
    simp only [denB]
    exact pss_sSeq (sndS s O hk po h'.1) (sndB b O hk po h'.2)
end
end
end Pe

set_option linter.all false
set_option maxRecDepth 100000
set_option maxHeartbeats 8000000
namespace Pe
open PySem PySem.Spec PyProof.Rows L2
/-! ### a program -/
structure Df where
  d : He.DefD
  N : List Str
  ps : List Str
  keep : Bool
  b : B
/-- what the defs do, so many calls deep -/
def sem (pd : List Df) : Nat → FT
  | 0 => fun _ _ _ => .no
  | k + 1 => fun i ws h => match pd[i]? with
    | some d => fnM d.N.length d.ps.length d.keep (denB (sem pd k) d.b) ws h
    | none => .no
def faOf : Str × Gm → He.Fa
  | (x, .con (.int i)) => .int x i
  | (x, .con (.str z)) => .str x (txt z)
  | (x, _) => .glo x
def fasOf (tb : List (Str × Gm)) (bl : List Str) (xs : List Xc) : List He.Fa := tb.map faOf ++ bl.map He.Fa.free ++ xs.map fun e => He.Fa.glo e.nm
def gmB (pd : List Df) (x : Str) : Gm → Bool
  | .con d => match d with
    | .int _ => true
    | .str z => decide (z.length ≤ SZ)
    | _ => false
  | .fn i np => match pd[i]? with
    | some d => decide (d.d.at_ = (x, none)) && decide (d.ps.length = np)
    | none => false
def dfB (tb : List (Str × Gm)) (bl : List Str) (xs : List Xc) (d : Df) : Bool := d.d.dfl.isEmpty && d.d.kwd.isEmpty && C8.scC d.N d.ps d.d.scope && chkB ⟨d.N, d.d.scope, tb, bl, none, xs⟩ d.b d.d.body
/-- what the written part must say of the own exception classes -/
def xc1 (P : Program) (K : PySem.W.Frag) (xs : List Xc) (e : Xc) : Bool :=
  PySem.W.keepIn K (.ref (He.ga K e.nm)) && decide (PySem.W.subIn K (.ref (He.ga K e.nm)) (.type "BaseException") = some true) && decide (PySem.W.typeIn K (.ref (He.ga K e.nm)) = some (.type "type")) && (match e.kp with
  | none => PySem.W.excIn K (He.ga K e.nm) (Px.bsM e.bs) (Px.bsN e.bs)
  | some (attr, arg) => (match PySem.W.findIn K (.ref (He.ga K e.nm)) "__init__" with
    | some (some (.ref fI)) => Px.supB P K e.bs (He.ga K e.nm) fI attr arg
    | _ => false) && xfB K (He.ga K e.nm) && decide (PySem.W.findIn K (.ref (He.ga K e.nm)) attr = some none)) &&
  (xs.zipIdx.all fun p => decide (PySem.W.exmOne K (.ref (He.ga K p.1.nm)) (.ref (He.ga K e.nm)) = some (e.ms.contains p.2)))
def xcB (P : Program) (xs : List Xc) (K : PySem.W.Frag) : Bool := xs.all (xc1 P K xs)
def pnOf (xs : List Xc) : PnT := fun i => match xs[i]? with
  | some e => e.kp.map (·.1)
  | none => none
def pdB (pd : List Df) (tb : List (Str × Gm)) (bl : List Str) (xs : List Xc) : Bool := (tb.all fun e => gmB pd e.1 e.2) && pd.all (dfB tb bl xs)
/-- how the arguments are bound: by position alone -/
def Bnd (d : Df) : Prop := ∀ (kV doc pm : Value) (an : Option Addr) (cdv ct : Value) (us : List Value), us.length = d.ps.length → bindArgs (PySem.W.fnOf d.d.name d.d.qual d.d.params d.d.body d.d.scope .none kV doc pm an cdv ct) ⟨us, []⟩ = pure (d.ps.zip us)
def cfg (pd : List Df) (xs : List Xc) (K : PySem.W.Frag) (w : World) : Cfg := ⟨K, w, fun i => match pd[i]? with
  | some d => He.fAd K d.d.at_
  | none => 0, fun i => match xs[i]? with
  | some e => He.ga K e.nm
  | none => 0⟩
section
variable {P : Program} {w : World} {K : PySem.W.Frag} {mg : Str → Option Value} {base : Heap} {pd : List Df} {tb : List (Str × Gm)} {bl : List Str} {xs : List Xc}
theorem lookup_mem {α : Type} {x : Str} {y : α} : ∀ {l : List (Str × α)}, l.lookup x = some y → (x, y) ∈ l
  | [], h => by simp at h
  | (a, b) :: l, h => by
    rw [List.lookup_cons] at h
    split at h
    · rename_i e
      have := eq_of_beq e
      cases h
      rw [this]
      exact List.mem_cons_self
    · exact List.mem_cons_of_mem _ (lookup_mem h)
/-- every def keeps its meaning's promise, at each depth -/
theorem xs_ok {X : Cx} {W : WX} (hK : X.K = K) (hmg : X.mg = mg) (hP : X.prog = P) (hxc : xcB P xs K = true) (fact : ∀ f ∈ fasOf tb bl xs, f.ok K = true) (kin : K.In base) (ns : base.Ns mainGlobals mg) : ∀ i e, xs[i]? = some e → XcOk ⟨cfg pd xs K w, pnOf xs, W⟩ X xs.length i e := by
  intro i e hi
  subst hK hmg hP
  have mem := List.mem_of_getElem? hi
  have h := List.all_eq_true.mp hxc e mem
  unfold xc1 at h
  simp only [Bool.and_eq_true] at h
  obtain ⟨⟨⟨⟨h1, h2⟩, h3⟩, h4⟩, h5⟩ := h
  have eca : ∀ (j : Nat) (d : Xc), xs[j]? = some d → (cfg pd xs X.K w).ca j = He.ga X.K d.nm := fun j d hj => by
    show (match xs[j]? with | some e => He.ga X.K e.nm | none => 0) = _
    rw [hj]
  have ec := eca i e hi
  have g : X.mg e.nm = some (.ref (He.ga X.K e.nm)) := He.glo_ok kin ns (fact (.glo e.nm) (List.mem_append_right _ (List.mem_map.mpr ⟨e, mem, rfl⟩)))
  refine ⟨by rw [ec]; exact g, by rw [ec]; exact h1, by show pnOf xs i = _; unfold pnOf; rw [hi], by rw [ec]; exact raises_own (of_decide_eq_true h2) (of_decide_eq_true h3), fun e0 => ?_, fun attr arg e1 => ?_, fun j hj => ?_⟩
  · rw [e0] at h4
    rw [ec]
    exact h4
  · rw [e1] at h4
    simp only [Bool.and_eq_true] at h4
    obtain ⟨⟨q1, q2⟩, q3⟩ := h4
    rw [ec]
    refine ⟨?_, xfB_ok q2, of_decide_eq_true q3⟩
    split at q1
    · rename_i fI _
      exact ⟨fI, q1⟩
    · cases q1
  · have hj2 : xs[j]? = some xs[j] := List.getElem?_eq_getElem hj
    have m : (xs[j], j) ∈ xs.zipIdx := by
      refine List.mem_of_getElem? (i := j) ?_
      rw [List.getElem?_zipIdx, hj2]
      simp
    have := of_decide_eq_true (List.all_eq_true.mp h5 _ m)
    rw [ec, eca j _ hj2]
    exact this
theorem all_ok (hxc : xcB P xs K = true) (hc : pdB pd tb bl xs = true) (hb : ∀ d ∈ pd, Bnd d) (inK : ∀ base : Heap, K.In base → base.Ns mainGlobals mg → K.In base) (fact : ∀ f ∈ fasOf tb bl xs, f.ok K = true) (defs : ∀ d ∈ pd, ∃ fd, FunD K d.d.name d.d.qual d.d.params d.d.body d.d.scope (d.d.dvs K) (d.d.kws K) (He.fAd K d.d.at_) fd)
    (kin : K.In base) (ns : base.Ns mainGlobals mg) : ∀ (k i : Nat) (d : Df), pd[i]? = some d → ∀ fd, FunD K d.d.name d.d.qual d.d.params d.d.body d.d.scope (d.d.dvs K) (d.d.kws K) (He.fAd K d.d.at_) fd → FnG P w K mg base (k + 1) ((cfg pd xs K w).fa i) fd d.ps (spF (cfg pd xs K w) (pnOf xs) d.ps.length (sem pd k i)) ∧ Binds K fd d.ps [] ∧ PySem.W.keepIn K (.ref ((cfg pd xs K w).fa i)) = true ∧
      ∀ (s : Shared) (u : Value), d.ps.length = 1 → BindsTo s fd ⟨[u], []⟩ (d.ps.zip [u])
  | k, i, d, hi, fd, Fd => by
    have hc' : (tb.all fun e => gmB pd e.1 e.2) = true ∧ (pd.all (dfB tb bl xs)) = true := by simpa [pdB] using hc
    have hd := List.all_eq_true.mp hc'.2 d (List.mem_of_getElem? hi)
    unfold dfB at hd
    simp only [Bool.and_eq_true] at hd
    obtain ⟨⟨⟨d1, d2⟩, d3⟩, d4⟩ := hd
    have e1 : d.d.dvs K = [] := by
      have : d.d.dfl = [] := by simpa using d1
      unfold He.DefD.dvs
      rw [this]; rfl
    have e2 : d.d.kws K = [] := by
      have : d.d.kwd = [] := by simpa using d2
      unfold He.DefD.kws
      rw [this]; rfl
    rw [e1, e2] at Fd
    have ea : (cfg pd xs K w).fa i = He.fAd K d.d.at_ := by
      show (match pd[i]? with | some d => He.fAd K d.d.at_ | none => 0) = _
      rw [hi]
    have bn : Binds K fd d.ps [] := Fd.bindsN fun kV doc pm an cdv ct us hl => hb d (List.mem_of_getElem? hi) kV doc pm an cdv ct us hl
    refine ⟨?_, bn, by rw [ea]; exact Fd.kp, fun s u h1 => Fd.bindsA (fun kV doc pm an cdv ct us hl => hb d (List.mem_of_getElem? hi) kV doc pm an cdv ct us hl) s [u] (by rw [h1]; rfl)⟩
    rw [ea]
    cases k with
    | zero =>
      refine ⟨fun vs H Q E q => q.1, fun A outer s H args us vs Q E _ _ _ _ _ q => ?_⟩
      obtain ⟨_, τ, h, ws, _, _, q⟩ := q
      exact absurd q id
    | succ k =>
      obtain ⟨oc, od, dV, kV, doc, pm, an, cdv, ct, osl, rfl, lk, hcd, _, _⟩ := Fd.ex
      have S := C8.fnScope_by d3
      have esem : sem pd (k + 1) i = fnM d.N.length d.ps.length d.keep (denB (sem pd k) d.b) := by
        funext ws h
        show (match pd[i]? with | some d => fnM d.N.length d.ps.length d.keep (denB (sem pd k) d.b) ws h | none => .no) = _
        rw [hi]
      rw [esem]
      refine FnG.of lk hcd S (fun vs H Q E q => q.1) fun A outer s H vs Q E room gu q => ?_
      refine ⟨tS ⟨cfg pd xs K w, pnOf xs, fun cls d _ H' => E cls d H'⟩ (denB (sem pd k) d.b), ?_, body_of q⟩
      refine sndB d.b (c := ⟨d.N, d.d.scope, tb, bl, none, xs⟩) ⟨⟨rfl, rfl, S.nd, ?_, ?_, rfl⟩, rfl, rfl, takes_of rfl rfl rfl rfl, room, Nat.le_add_left 1 k, ?_, ?_, xs_ok (P := P) (mg := mg) (base := base) rfl rfl rfl hxc fact kin ns, fun _ _ => rfl⟩ ⟨S.kind, rfl, rfl⟩ (passes_of rfl) d4
      · have := room.un
        show (A.deeper _).units + 200 < cLine
        omega
      · exact (guards_deeper A _).trans gu
      · intro x gm hx
        have hm := lookup_mem hx
        have hg := List.all_eq_true.mp hc'.1 (x, gm) hm
        have hf := fact (faOf (x, gm)) (List.mem_append_left _ (List.mem_append_left _ (List.mem_map.mpr ⟨_, hm, rfl⟩)))
        cases gm with
        | con dd =>
          cases dd with
          | int n =>
            obtain ⟨t, e⟩ := He.int_ok kin ns hf
            exact ⟨_, .int n, e, ⟨t, rfl⟩, fun _ _ => .int n⟩
          | str z =>
            obtain ⟨t, e⟩ := He.str_ok kin ns hf
            have hz : z.length ≤ SZ := of_decide_eq_true hg
            exact ⟨_, .str (txt z), e, ⟨t, rfl⟩, fun _ _ => .str z (by rw [szEq]; exact hz)⟩
          | _ => cases hg
        | fn j np =>
          have hg : (match pd[j]? with | some d => decide (d.d.at_ = (x, none)) && decide (d.ps.length = np) | none => false) = true := hg
          cases hj : pd[j]? with
          | none => rw [hj] at hg; cases hg
          | some dj =>
            rw [hj] at hg
            have hg' : dj.d.at_ = (x, none) ∧ dj.ps.length = np := by simpa using hg
            have eg : (cfg pd xs K w).fa j = He.ga K x := by
              show (match pd[j]? with | some d => He.fAd K d.d.at_ | none => 0) = _
              rw [hj]
              show He.fAd K dj.d.at_ = _
              rw [hg'.1]; rfl
            obtain ⟨fdj, Fdj⟩ := defs dj (List.mem_of_getElem? hj)
            obtain ⟨G1, G2, G3, _⟩ := all_ok hxc hc hb inK fact defs kin ns k j dj hj fdj Fdj
            refine ⟨by rw [show (⟨cfg pd xs K w, pnOf xs, fun cls d _ H' => E cls d H'⟩ : Rg).G.fa j = He.ga K x from eg]; exact He.glo_ok kin ns hf, ⟨fdj, dj.ps, ?_, G2, hg'.2⟩, G3, fun ws h hw => ?_⟩
            · rw [← hg'.2]
              exact G1
            · cases k with
              | zero => rfl
              | succ k =>
                show (match pd[j]? with | some d => fnM d.N.length d.ps.length d.keep (denB (sem pd k) d.b) ws h | none => .no) = _
                rw [hj]
                show fnM dj.N.length dj.ps.length dj.keep (denB (sem pd k) dj.b) ws h = .no
                unfold fnM
                have : (ws.length == dj.ps.length) = false := by
                  rw [beq_eq_false_iff_ne, hg'.2]; exact hw
                rw [this]
      · intro x hx
        exact He.free_ok kin ns (fact (.free x) (List.mem_append_left _ (List.mem_append_right _ (List.mem_map.mpr ⟨x, hx, rfl⟩))))
termination_by k => k
end
end Pe

set_option linter.all false
set_option maxRecDepth 100000
set_option maxHeartbeats 8000000
namespace Pe
open PySem PySem.Spec PyProof.Rows L2 Att
/-! ### what the head leaves, with one Bool more; the statics stand in it, too -/
def asY (g : Addr → Option Obj) (n : Nat) : List Addr := cStatics :: He.asD g n
def obsY (n : Nat) (fa : List He.Fa) (fn : List He.DefD) (ex : PySem.W.Frag → Bool) (g : Addr → Option Obj) : He.AlD × Bool := (He.obsD fa fn (He.frG g (asY g n)), ex (He.frG g (asY g n)))
def hookY (n : Nat) (fa : List He.Fa) (fn : List He.DefD) (ex : PySem.W.Frag → Bool) : PySem.W.Hook where
  α := He.AlD × Bool
  obs := fun s => obsY n fa fn ex s.heap.get?
  val := fun _ => (He.valD fn, true)
  says := fun _ h => ∃ K : PySem.W.Frag, K.In h ∧ He.SaysD fa fn K ∧ ex K = true
  of := fun _ _ e => ⟨_, He.frG_in, congrArg (fun z : He.AlD × Bool => z.1) e, congrArg (fun z : He.AlD × Bool => z.2) e⟩
  keeps := fun _ _ _ ⟨K, hK, c⟩ k => ⟨K, PySem.W.Frag.In.keeps hK k, c⟩
theorem obsY_eq {n : Nat} {fa : List He.Fa} {fn : List He.DefD} {ex : PySem.W.Frag → Bool} {g : Addr → Option Obj} {s : Shared} (h : ∀ a, g a = s.heap.get? a) : obsY n fa fn ex g = (hookY n fa fn ex).obs s := by
  have e : g = s.heap.get? := funext h
  rw [e] <;> rfl
/-! ### a law's end, the guards told -/
section
variable {P : Program} {w : World} {K : PySem.W.Frag} {mg mb : Str → Option Value} {k : Nat} {fa a : Addr} {fd : FuncData} {x : Str} {sp : Sp} {s1 : Shared} {vs : List Value} {ns : List Int}
/-- from an abstract heap that tracks the script at most -/
theorem law_from {H : Hp} (inK : K.In s1.heap) (hm : s1.heap.Ns mainGlobals mg) (hb : s1.heap.Ns builtinsNs mb) (hbb : ∀ x : Str, x ≠ "__name__" → mb x = bootBuiltins x) (hn : s1.heap.NoLimit) (hg : s1.gens = #[])
    (here : s1.heap.get? a = some { cls := .type "list", data := .seq vs.toArray }) (room : Room k callerA) (F : ∀ base : Heap, K.In base → base.Ns mainGlobals mg → FnG P w K mg base k fa fd [x] sp)
    (bind : ∀ (s : Shared) (u : Value), BindsTo s fd ⟨[u], []⟩ [(x, u)]) (want : sp [.ref a] H (fun v _ => v = .bl true) fun _ _ _ => False) (only : Only H) (ok : HOk P w H s1.heap) (sole : ∀ b, H b ≠ none → b = a) (out : H a ≠ none → K.lookup a = none) :
    codeAny (model P w) callerA (.call (.ref fa) ⟨[.ref a], []⟩) (fun r s' => r = .ok (.ret (.bool true)) ∧ OldK s1.heap s'.heap ∧ s'.os = s1.os ∧ AllBare s'.gens) s1 := by
  -- what isn't the script stands in the ground
  have ground : ∀ {b : Addr} {o : Obj}, s1.heap.get? b = some o → H b = none → (hidT s1.heap H).get? b = some o := fun p q => hidT_get p q
  have plainNs : ∀ {b : Addr} {m : Str → Option Value}, s1.heap.Ns b m → (hidT s1.heap H).Ns b m := by
    rintro b m ⟨o, es, ep, p, d, r⟩
    refine ⟨o, es, ep, ground p ?_, d, r⟩
    cases q : H b with
    | none => rfl
    | some u =>
      have eb : b = a := sole b (by rw [q]; intro z; cases z)
      rw [eb, here] at p
      cases p
      exact absurd (show Data.seq vs.toArray _ = Data.dict es ep from d) (fun z => by cases z)
  have kin : K.In (hidT s1.heap H) := fun b o p => by
    refine ground (inK b o p) ?_
    cases q : H b with
    | none => rfl
    | some u =>
      have eb : b = a := sole b (by rw [q]; intro z; cases z)
      have := out (by rw [← eb, q]; intro z; cases z)
      rw [eb, this] at p
      cases p
  have md : Mod K mg (hidT s1.heap H) := by
    obtain ⟨mc, l1, l2⟩ := hn
    exact ⟨kin, plainNs hm, ⟨mb, plainNs hb, hbb⟩, mc, plainNs l1, l2⟩
  have ev : Env0 P w K mg (hidT s1.heap H) callerA [] s1 H :=
    ⟨rfl, md, fun b o p => of_hidT p, Nat.le_of_eq (hidT_size _ _), trivial, (fun b z => nomatch (show b ∈ ([] : List Addr) from z)), ok, .of_eq hg⟩
  have go := (F _ kin (plainNs hm)).run callerA [] s1 H ⟨[.ref a], []⟩ [.ref a] [.ref a] _ _ room rfl ev (bind s1 (.ref a)) (.cons rfl .nil) want
  refine codeAny_mono go fun r s' z => ?_
  match r, z with
  | .error e, z =>
    obtain ⟨_, _, _, _, _, _, _, _, _, _, _, _, f⟩ := z
    exact f.elim
  | .ok .next, z => exact False.elim z
  | .ok .brk, z => exact False.elim z
  | .ok .cont, z => exact False.elim z
  | .ok (.ret u), z =>
    obtain ⟨v, H', os, bare, un, ok', rv, q⟩ := z
    have ev : v = .bl true := q
    rw [ev] at rv
    have eu : u = Value.bool true := rv
    rw [eu]
    refine ⟨rfl, OldK.of_keep (fun b o p => ?_), os, bare⟩
    rcases only b with q | ⟨ob, xs, q⟩
    · exact un.keep b o p q (fun t => nomatch (show b ∈ ([] : List Addr) from t)) (by simp)
    · have q2 := un.frzs b ob _ q
      have p1 := (ok b _ q).1
      have p2 := (ok' b _ q2).1
      rw [p] at p1
      cases p1
      exact p2
theorem law_to (inK : K.In s1.heap) (hm : s1.heap.Ns mainGlobals mg) (hb : s1.heap.Ns builtinsNs mb) (hbb : ∀ x : Str, x ≠ "__name__" → mb x = bootBuiltins x) (hn : s1.heap.NoLimit) (hg : s1.gens = #[])
    (here : s1.heap.get? a = some { cls := .type "list", data := .seq vs.toArray }) (allI : IntsAre vs ns) (few : ns.length ≤ sizeLine) (room : Room k callerA) (F : ∀ base : Heap, K.In base → base.Ns mainGlobals mg → FnG P w K mg base k fa fd [x] sp)
    (bind : ∀ (s : Shared) (u : Value), BindsTo s fd ⟨[u], []⟩ [(x, u)]) (want : ∀ H : Hp, Scr K H a (ns.map V.int) → sp [.ref a] H (fun v _ => v = .bl true) fun _ _ _ => False) :
    codeAny (model P w) callerA (.call (.ref fa) ⟨[.ref a], []⟩) (fun r s' => r = .ok (.ret (.bool true)) ∧ OldK s1.heap s'.heap ∧ s'.os = s1.os ∧ AllBare s'.gens) s1 := by
  have rv := vals_ints allI
  cases lk : K.lookup a with
  | some o =>
    have e := inK a o lk
    rw [here] at e
    cases e
    refine law_from (H := fun _ => none) inK hm hb hbb hn hg here room F bind (want _ (.inr ⟨_, vs.toArray, _, lk, rfl, rfl, rfl, ?_, by simpa using rv⟩)) (fun _ => .inl rfl) (fun b u z => nomatch (show (none : Option HO) = some u from z)) (fun b z => absurd rfl z) (fun z => absurd rfl z)
    rw [List.size_toArray, allI.length]
    exact few
  | none =>
    let Ha : Hp := fun b => if b = a then some (.frz { cls := .type "list", data := .seq vs.toArray } (.lst (ns.map V.int))) else none
    have at_a : Ha a = some (.frz { cls := .type "list", data := .seq vs.toArray } (.lst (ns.map V.int))) := if_pos rfl
    have off : ∀ {b : Addr}, b ≠ a → Ha b = none := fun h => if_neg h
    refine law_from (H := Ha) inK hm hb hbb hn hg here room F bind (want _ (.inl ⟨_, at_a⟩)) (fun b => ?_) (fun b u z => ?_) (fun b z => ?_) (fun _ => lk)
    · by_cases e : b = a
      · rw [e]; exact .inr ⟨_, _, at_a⟩
      · exact .inl (off e)
    · by_cases e : b = a
      · rw [e, at_a] at z
        cases z
        rw [e]
        exact ⟨here, by rw [List.length_map]; exact few, vs, _, rv, here⟩
      · rw [off e] at z
        cases z
    · by_cases e : b = a
      · exact e
      · exact absurd (off e) z
end
/-- a law over a head by facts -/
theorem walk_G {l : PySem.W.OpenLaw} {n k : Nat} {q : Program} {loose : List Str} {XP : (Str → Option Value) → Heap → Prop} {YP : World → Heap → Prop} {d : DefRec} {x : Str} (hn : l.most = some n) (hn2 : n ≤ sizeLine) (hdf : d.params.defaults = []) (room : Room k callerA)
    (F : ∀ (w : World) (mg : Str → Option Value) (fa : Addr) (h : Heap), YP w h → h.Ns mainGlobals mg → mg d.name = some (.ref fa) → ∃ (K : PySem.W.Frag) (fd : FuncData) (sp : Sp), K.In h ∧ (∀ (s : Shared) (u : Value), BindsTo s fd ⟨[u], []⟩ [(x, u)]) ∧
        (∀ (H : Hp) (a : Addr) (ns : List Int), ns.length ≤ n → Scr K H a (ns.map V.int) → sp [.ref a] H (fun v _ => v = .bl true) fun _ _ _ => False) ∧ ∀ base : Heap, K.In base → base.Ns mainGlobals mg → FnG l.prog w K mg base k fa fd [x] sp) :
    PySem.W.WalkO q loose XP YP l.row.toRowW d [] (fun f vs => PySem.call f vs) := by
  refine Att.attach_call hn hdf fun w s0 s1 mg mb fa o pm cd doc a vs ns G Y ho hd hcd hmg hobj hints hlen hg => ?_
  obtain ⟨K, fd, sp, kin, bind, want, fn⟩ := F w mg fa _ Y G.T.g hmg
  exact law_to kin G.T.g G.T.b G.T.builtins G.T.nolimit hg hobj hints (Nat.le_trans hlen hn2) room fn bind fun H sc => want H a ns hlen sc
/-- from a program's facts: the law is the i-th def -/
theorem law_end {l : PySem.W.OpenLaw} {q : Program} {loose : List Str} {XP : (Str → Option Value) → Heap → Prop} {dd : DefRec} {x : Str} (pd : List Df) (tb : List (Str × Gm)) (bl : List Str) (xs : List Xc) (i k : Nat) (d : Df) (hn : l.most = some 63) (hdf : dd.params.defaults = []) (room : Room (k + 1) callerA)
    (hc : pdB pd tb bl xs = true) (hb : ∀ d ∈ pd, Bnd d) (hi : pd[i]? = some d) (hx : d.ps = [x]) (hname : dd.name = d.d.at_.1) (hat : d.d.at_.2 = none) (hgl : He.Fa.glo dd.name ∈ fasOf tb bl xs)
    (keeps : ∀ ns : List Int, ns.length ≤ 63 → ∃ h', sem pd k i [.d (.scr (ns.map D.int))] [] = .ok (.d (.bl true)) h') :
    PySem.W.WalkO q loose XP (fun w h => ∃ K : PySem.W.Frag, K.In h ∧ He.SaysD (fasOf tb bl xs) (pd.map (·.d)) K ∧ xcB l.prog xs K = true) l.row.toRowW dd [] (fun f vs => PySem.call f vs) := by
  refine walk_G (n := 63) (k := k + 1) (x := x) hn (by rw [szEq]; decide) hdf room fun w mg fa h Y nsM hmg => ?_
  obtain ⟨K, kin, says, more⟩ := Y
  have fact : ∀ f ∈ fasOf tb bl xs, f.ok K = true := fun f hf => by
    obtain ⟨j, hj⟩ := List.getElem?_of_mem hf
    exact says.fact j hj
  have defs : ∀ d ∈ pd, ∃ fd, FunD K d.d.name d.d.qual d.d.params d.d.body d.d.scope (d.d.dvs K) (d.d.kws K) (He.fAd K d.d.at_) fd := fun d hd => by
    obtain ⟨j, hj⟩ := List.getElem?_of_mem hd
    exact says.def_ j (d := d.d) (by rw [List.getElem?_map, hj]; rfl)
  obtain ⟨fd, Fd⟩ := defs d (List.mem_of_getElem? hi)
  have main : ∀ base : Heap, K.In base → base.Ns mainGlobals mg → _ := fun base kb nb => all_ok (P := l.prog) (w := w) (base := base) more hc hb (fun _ q _ => q) fact defs kb nb k i d hi fd Fd
  have efa : fa = (cfg pd xs K w).fa i := by
    have e1 := He.glo_ok kin nsM (fact _ hgl)
    rw [hmg] at e1
    have e2 : (cfg pd xs K w).fa i = He.fAd K d.d.at_ := by
      show (match pd[i]? with | some d => He.fAd K d.d.at_ | none => 0) = _
      rw [hi]
    rw [e2]
    have e3 : He.fAd K d.d.at_ = He.ga K dd.name := by
      unfold He.fAd
      rw [hat, hname]
    rw [e3]
    cases e1
    rfl
  have hl : d.ps.length = 1 := by rw [hx]; rfl
  refine ⟨K, fd, spF (cfg pd xs K w) (pnOf xs) d.ps.length (sem pd k i), kin, fun s u => ?_, fun H a ns hlen sc => ?_, fun base kb nb => ?_⟩
  · have := (main h kin nsM).2.2.2 s u hl
    rw [hx] at this
    exact this
  · obtain ⟨h', e⟩ := keeps ns hlen
    have rds : ∀ ys : List Int, RDs (cfg pd xs K w) H (Trk [] []) (ys.map D.int) (ys.map V.int) := by
      intro ys
      induction ys with
      | nil => exact .nil
      | cons x xs ih => exact .cons (.int x) ih
    refine ⟨by rw [hl]; rfl, [], [], [.d (.scr (ns.map D.int))], ⟨rfl, (fun _ _ _ e => by simp at e), (fun _ _ _ _ _ e => by simp at e)⟩, .cons (.d (.scr sc (by rw [List.length_map, szEq]; exact Nat.le_trans hlen (by decide)) (rds ns))) .nil, ?_⟩
    rw [e]
    intro τ' H' v _ _ r
    cases r with
    | d r => cases r; rfl
  · rw [efa]
    have := (main base kb nb).1
    rw [hx] at this ⊢
    exact this
end Pe

set_option linter.all false
set_option maxRecDepth 100000
set_option maxHeartbeats 4000000
namespace Pe
open PySem PySem.Spec PyProof.Rows L2
/-! ### the evaluator by hand -/
def itL (it : ItF) (xs : List D) : Prop := ∀ i h, it i h = some (xs[i]?.map W.d)
theorem itL_D (xs : List D) : itL (itD xs) xs := fun _ _ => rfl
theorem itL_N (lo : Int) (n : Nat) : itL (itN lo n) ((List.range n).map fun (i : Nat) => D.int (lo + i)) := fun i h => by
  unfold itN
  by_cases q : i < n
  · rw [if_pos q, List.getElem?_map, List.getElem?_range q]; rfl
  · rw [if_neg q, List.getElem?_eq_none (by simp; omega)]; rfl
theorem itL_Z : ∀ (xs ys : List D), itL (itZ xs ys) (List.zipWith (fun x y => .set [x, y]) xs ys) := fun xs ys i h => by
  unfold itZ
  rw [List.getElem?_zipWith]
  cases xs[i]? <;> cases ys[i]? <;> rfl
theorem itL_I (xs : List D) : itL (itD xs) (xs.map id) := fun i h => by rw [List.map_id]; rfl
theorem itL_S (s : List Nat) : itL (itS s) (s.map fun c => .str [c]) := fun i h => by
  unfold itS
  rw [List.getElem?_map, Option.map_map]
  rfl
theorem FU_pos {n : Nat} (h : n ≤ SZ) : n < FU := Nat.lt_of_le_of_lt h (by decide)
section
variable {it : ItF} {t : Tg} {c : MT} {e : M} {σ : Sl} {h : Hh}
theorem lcGo_ok {α : Type} {l : List α} {g : α → D} {p : α → Bool} {f : α → D} (hi : itL it (l.map g)) (hz : l.length ≤ SZ) (ht : ∀ x ∈ l, ∀ hh, (∃ acc, hh = h ++ [Ob.lst acc]) → ∃ σ1, bT hh t (.d (g x)) σ = some σ1 ∧ c σ1 hh = .ok (p x) hh ∧ (p x = true → e σ1 hh = .ok (.d (f x)) hh)) :
    ∀ (k i : Nat) (acc : List D), acc.length ≤ i → l.length - i < k → lcGo it t c e σ h.length k i (h ++ [.lst acc]) = .ok (.r h.length) (h ++ [.lst (acc ++ ((l.drop i).filter p).map f)])
  | 0, _, _, _, hk => absurd hk (Nat.not_lt_zero _)
  | k + 1, i, acc, ha, hk => by
    unfold lcGo
    rw [hi]
    by_cases q : i < l.length
    · rw [List.getElem?_map, List.getElem?_eq_getElem q]
      obtain ⟨σ1, e1, e2, e3⟩ := ht l[i] (List.getElem_mem q) (h ++ [.lst acc]) ⟨acc, rfl⟩
      have ed : l.drop i = l[i] :: l.drop (i + 1) := List.drop_eq_getElem_cons q
      have tk : ∀ l : List D, (h ++ [Ob.lst l]).take (h.length + 1) = h ++ [.lst l] := fun l => List.take_of_length_le (by simp)
      have ge : (h ++ [Ob.lst acc])[h.length]? = some (.lst acc) := by simp
      have se : ∀ l : List D, (h ++ [Ob.lst acc]).set h.length (.lst l) = h ++ [.lst l] := fun l => by simp
      cases pe : p l[i] with
      | true =>
        have turn : lcTurn t c e σ h.length (.d (g l[i])) (h ++ [.lst acc]) = some (h ++ [.lst (acc ++ [f l[i]])]) := by
          unfold lcTurn
          rw [e1]
          simp only [e2, pe, e3 pe, fzW, ge]
          rw [if_pos (by omega), se, tk]
        simp only [Option.map_some, turn]
        rw [lcGo_ok hi hz ht k (i + 1) _ (by simp; omega) (by omega), ed, List.filter_cons_of_pos pe]
        simp
      | false =>
        have turn : lcTurn t c e σ h.length (.d (g l[i])) (h ++ [.lst acc]) = some (h ++ [.lst acc]) := by
          unfold lcTurn
          rw [e1]
          simp only [e2, pe, tk]
        simp only [Option.map_some, turn]
        rw [lcGo_ok hi hz ht k (i + 1) _ (by omega) (by omega), ed, List.filter_cons_of_neg (by simp [pe])]
    · rw [List.getElem?_map, List.getElem?_eq_none (by omega), List.drop_eq_nil_of_le (by omega)]
      simp
/-- a comprehension whose turns leave the heap as it is -/
theorem lc_okw {α : Type} {own : List Nat} {mi : MI} {l : List α} {h1 : Hh} (g : α → D) (p : α → Bool) (f : α → D) (e0 : mi σ h = .ok it h1) (hi : itL it (l.map g)) (hz : l.length ≤ SZ)
    (ht : ∀ x ∈ l, ∀ hh, (∃ acc, hh = h1 ++ [Ob.lst acc]) → ∃ σ1, bT hh t (.d (g x)) (wipeA σ own) = some σ1 ∧ c σ1 hh = .ok (p x) hh ∧ (p x = true → e σ1 hh = .ok (.d (f x)) hh)) :
    mLc mi t c e own σ h = .ok (.r h1.length) (h1 ++ [.lst ((l.filter p).map f)]) := by
  unfold mLc
  rw [e0]
  show lcGo _ _ _ _ _ _ _ _ _ = _
  rw [lcGo_ok hi hz ht FU 0 [] (Nat.le_refl _) (FU_pos hz)]
  rfl
theorem lc_ok {α : Type} {own : List Nat} {mi : MI} {l : List α} {h1 : Hh} (g : α → D) (p : α → Bool) (f : α → D) (e0 : mi σ h = .ok it h1) (hi : itL it (l.map g)) (hz : l.length ≤ SZ)
    (ht : ∀ x ∈ l, ∀ hh, ∃ σ1, bT hh t (.d (g x)) (wipeA σ own) = some σ1 ∧ c σ1 hh = .ok (p x) hh ∧ (p x = true → e σ1 hh = .ok (.d (f x)) hh)) :
    mLc mi t c e own σ h = .ok (.r h1.length) (h1 ++ [.lst ((l.filter p).map f)]) :=
  lc_okw g p f e0 hi hz fun x hx hh _ => ht x hx hh
theorem lc_map {α : Type} {own : List Nat} {mi : MI} {l : List α} {h1 : Hh} (g : α → D) (f : α → D) (e0 : mi σ h = .ok it h1) (hi : itL it (l.map g)) (hz : l.length ≤ SZ)
    (ht : ∀ x ∈ l, ∀ hh, ∃ σ1, bT hh t (.d (g x)) (wipeA σ own) = some σ1 ∧ e σ1 hh = .ok (.d (f x)) hh) :
    mLc mi t (fun _ h => .ok true h) e own σ h = .ok (.r h1.length) (h1 ++ [.lst (l.map f)]) := by
  rw [lc_ok g (fun _ => true) f e0 hi hz fun x hx hh => by
    obtain ⟨σ1, e1, e2⟩ := ht x hx hh
    exact ⟨σ1, e1, rfl, fun _ => e2⟩]
  rw [List.filter_eq_self.mpr fun _ _ => rfl]
theorem lc_mapw {α : Type} {own : List Nat} {mi : MI} {l : List α} {h1 : Hh} (g : α → D) (f : α → D) (e0 : mi σ h = .ok it h1) (hi : itL it (l.map g)) (hz : l.length ≤ SZ)
    (ht : ∀ x ∈ l, ∀ hh, (∃ acc, hh = h1 ++ [Ob.lst acc]) → ∃ σ1, bT hh t (.d (g x)) (wipeA σ own) = some σ1 ∧ e σ1 hh = .ok (.d (f x)) hh) :
    mLc mi t (fun _ h => .ok true h) e own σ h = .ok (.r h1.length) (h1 ++ [.lst (l.map f)]) := by
  rw [lc_okw g (fun _ => true) f e0 hi hz fun x hx hh z => by
    obtain ⟨σ1, e1, e2⟩ := ht x hx hh z
    exact ⟨σ1, e1, rfl, fun _ => e2⟩]
  rw [List.filter_eq_self.mpr fun _ _ => rfl]
theorem forGo_ok {xs : List D} {b : MS} (inv : Nat → Sl → Hh → Prop) (hi : itL it xs) (step : ∀ i x σ h, xs[i]? = some x → inv i σ h → ∃ σ1 σ2 h2, bT h t (.d x) σ = some σ1 ∧ (b σ1 h = .nx σ2 h2 ∨ b σ1 h = .ct σ2 h2) ∧ inv (i + 1) σ2 h2) :
    ∀ (k i : Nat) (σ : Sl) (h : Hh), i ≤ xs.length → xs.length - i < k → inv i σ h → ∃ σ2 h2, forGo it t b k i σ h = .nx σ2 h2 ∧ inv xs.length σ2 h2
  | 0, _, _, _, _, hk, _ => absurd hk (Nat.not_lt_zero _)
  | k + 1, i, σ, h, hl, hk, v => by
    unfold forGo
    rw [hi]
    by_cases q : i < xs.length
    · rw [List.getElem?_eq_getElem q]
      obtain ⟨σ1, σ2, h2, e1, e2, v2⟩ := step i _ σ h (List.getElem?_eq_getElem q) v
      obtain ⟨σ3, h3, e3, v3⟩ := forGo_ok inv hi step k (i + 1) σ2 h2 (by omega) (by omega) v2
      refine ⟨σ3, h3, ?_, v3⟩
      simp only [Option.map_some, e1]
      rcases e2 with e2 | e2 <;> simp only [e2, e3]
    · have : i = xs.length := by omega
      subst this
      rw [List.getElem?_eq_none (Nat.le_refl _)]
      exact ⟨σ, h, rfl, v⟩
theorem for_ok {xs : List D} {b : MS} {mi : MI} (inv : Nat → Sl → Hh → Prop) {h1 : Hh} (e0 : mi σ h = .ok it h1) (hi : itL it xs) (hz : xs.length ≤ SZ) (v : inv 0 σ h1)
    (step : ∀ i x σ h, xs[i]? = some x → inv i σ h → ∃ σ1 σ2 h2, bT h t (.d x) σ = some σ1 ∧ (b σ1 h = .nx σ2 h2 ∨ b σ1 h = .ct σ2 h2) ∧ inv (i + 1) σ2 h2) : ∃ σ2 h2, sFor mi t b σ h = .nx σ2 h2 ∧ inv xs.length σ2 h2 := by
  unfold sFor
  rw [e0]
  exact forGo_ok inv hi step FU 0 σ h1 (Nat.zero_le _) (FU_pos hz) v
end
end Pe

set_option linter.all false
set_option maxRecDepth 100000
set_option maxHeartbeats 4000000
namespace Pe
open PySem PySem.Spec PyProof.Rows L2
section
variable {α β : Type} {a : α} {h h1 : Hh} {f : α → Hh → Rs β} {c : Nat} {x v : D} {n m i : Nat} {σ : Sl} {w : W}
theorem bind_ok : (Rs.ok a h).bind f = f a h := rfl
theorem bind_ex : (Rs.ex c x h : Rs α).bind f = .ex c x h := rfl
theorem bind_no : (Rs.no : Rs α).bind f = .no := rfl
theorem bind_cg {r r' : Rs α} (e : r = r') : r.bind f = r'.bind f := by rw [e]
theorem of_ok {g : α → Hh → RsS} : RsS.of σ (.ok a h) g = g a h := rfl
theorem of_ex {g : α → Hh → RsS} : RsS.of σ (.ex c x h) g = .ex c x σ h := rfl
theorem of_no {g : α → Hh → RsS} : RsS.of σ (.no) g = .no := rfl
theorem of_cg {r r' : Rs α} {g : α → Hh → RsS} (e : r = r') : RsS.of σ r g = RsS.of σ r' g := by rw [e]
theorem thn_nx {g : Sl → Hh → RsS} : RsS.thn (.nx σ h) g = g σ h := rfl
theorem thn_rt {g : Sl → Hh → RsS} : RsS.thn (.rt w h) g = .rt w h := rfl
theorem thn_bk {g : Sl → Hh → RsS} : RsS.thn (.bk σ h) g = .bk σ h := rfl
theorem thn_ct {g : Sl → Hh → RsS} : RsS.thn (.ct σ h) g = .ct σ h := rfl
theorem thn_ex {g : Sl → Hh → RsS} : RsS.thn (.ex c x σ h) g = .ex c x σ h := rfl
theorem thn_cg {r r' : RsS} {g : Sl → Hh → RsS} (e : r = r') : RsS.thn r g = RsS.thn r' g := by rw [e]
theorem clR_d : clR n (.ok (.d v) h) = .ok (.d v) (h.take n) := rfl
theorem clR_r : clR n (.ok (.r m) h) = .ok (.r m) h := rfl
theorem clB_ok {b : Bool} : clB n (.ok b h) = .ok b (h.take n) := rfl
theorem fzW_d : fzW (.d v) h = some (v, h) := rfl
theorem fzW_r {o : Ob} (e : h[m]? = some o) : fzW (.r m) h = some (o.val, h.set m (.fz o.val)) := by
  show (match h[m]? with | some o => _ | none => _) = _
  rw [e]
theorem fzW_end {o : Ob} : fzW (.r h.length) (h ++ [o]) = some (o.val, h ++ [.fz o.val]) := by
  rw [fzW_r (o := o) (by simp)]
  simp
theorem fzR_d : fzR n (.ok (.d v) h) = .ok (.d v) (h.take n) := rfl
theorem fzR_end {o : Ob} : fzR h.length (.ok (.r h.length) (h ++ [o])) = .ok (.d o.val) h := by
  show (match fzW (.r h.length) (h ++ [o]) with | some (v, h') => _ | none => _) = _
  rw [fzW_end]
  simp
theorem fnM_eq {np : Nat} {keep : Bool} {b : MS} {ws : List W} (e : ws.length = np) : fnM n np keep b ws h = retR keep h.length (b (startA n ws) h) := by
  unfold fnM
  rw [e]
  simp
theorem retR_f : retR false n (.rt w h) = fzR n (.ok w h) := rfl
theorem retR_t : retR true n (.rt w h) = .ok w h := rfl
theorem retR_nx {k : Bool} : retR k n (.nx σ h) = .ok (.d .non) (h.take n) := rfl
theorem retR_cg {k : Bool} {r r' : RsS} (e : r = r') : retR k n r = retR k n r' := by rw [e]
theorem val_d : W.val (.d v) h = some v := rfl
theorem val_end {o : Ob} : W.val (.r h.length) (h ++ [o]) = some o.val := by
  show Option.map Ob.val (h ++ [o])[h.length]? = _
  simp
theorem tru_d : W.tru (.d v) h = D.tru v := rfl
theorem op2_d {g : Op2} {x y : D} : op2 g (.d x) (.d y) h = g x y h := rfl
theorem op1_d {g : Op1} {x : D} : op1 g (.d x) h = g x h := rfl
theorem isi_d {b k : Nat} {d : D} (e : tyN d = some k) : isiR b (.d d) h = .ok (.d (.bl (isN k b))) h := by
  unfold isiR
  rw [val_d]
  simp only [e]
theorem take_app (l : List Ob) : (h ++ l).take h.length = h := by simp
theorem take_app0 : h.take h.length = h := by simp
theorem mCl_eq (mm : M) : mCl mm σ h = clR h.length (mm σ h) := rfl
theorem mFz_eq (mm : M) : mFz mm σ h = fzR h.length (mm σ h) := rfl
theorem mBin_eq (g : W → W → Hh → Rs W) (a b : M) : mBin g a b σ h = (a σ h).bind fun x h1 => (b σ h1).bind fun y h2 => g x y h2 := rfl
theorem mUn_eq (g : W → Hh → Rs W) (a : M) : mUn g a σ h = (a σ h).bind fun x h1 => g x h1 := rfl
theorem mCon_eq : mCon v σ h = .ok (.d v) h := rfl
theorem mVar_eq (e : σ[i]? = some (some w)) : mVar i σ h = .ok w h := by
  unfold mVar
  rw [e]
theorem mTru_eq (mm : M) : mTru mm σ h = clB h.length ((mm σ h).bind fun w h1 => tru w h1) := rfl
theorem tru_eq (b : Bool) (e : W.tru w h = some b) : tru w h = .ok b h := by
  unfold tru
  rw [e]
theorem cmp_ii {k : Nat} {a b : Int} : oCmp k (.int a) (.int b) h = .ok (.d (.bl (cmpD k (.int a) (.int b)))) h := by
  unfold oCmp
  exact if_pos rfl
theorem cmpD_0 {a b : Int} : cmpD 0 (.int a) (.int b) = decide (a < b) := rfl
theorem cmpD_1 {a b : Int} : cmpD 1 (.int a) (.int b) = decide (b < a) := rfl
theorem cmpD_2 {a b : Int} : cmpD 2 (.int a) (.int b) = decide (a ≤ b) := by
  show (!decide (b < a)) = _
  rw [← decide_not]
  exact decide_eq_decide.mpr (by omega)
theorem cmpD_3 {a b : Int} : cmpD 3 (.int a) (.int b) = decide (b ≤ a) := by
  show (!decide (a < b)) = _
  rw [← decide_not]
  exact decide_eq_decide.mpr (by omega)
theorem eq_ok {a b : D} (ha : fits 100 a = true) (hb : fits 100 b = true) : oEq false a b h = .ok (.d (.bl (eqv a b))) h := by
  unfold oEq
  rw [ha, hb]
  rfl
theorem ne_ok {a b : D} (ha : fits 100 a = true) (hb : fits 100 b = true) : oEq true a b h = .ok (.d (.bl (!eqv a b))) h := by
  unfold oEq
  rw [ha, hb]
  rfl
theorem eqv_ii {a b : Int} : eqv (.int a) (.int b) = decide (a = b) := by
  show (a == b) = _
  rw [Bool.eq_iff_iff, beq_iff_eq, decide_eq_true_iff]
theorem eqv_ss {a b : List Nat} : eqv (.str a) (.str b) = decide (a = b) := by
  show (a == b) = _
  rw [Bool.eq_iff_iff, beq_iff_eq, decide_eq_true_iff]
theorem eqv_tt {a b : List D} : eqv (.tup a) (.tup b) = eqvL a b := rfl
theorem eq_ii {a b : Int} : oEq false (.int a) (.int b) h = .ok (.d (.bl (decide (a = b)))) h := by rw [eq_ok rfl rfl, eqv_ii]
theorem ne_ii {a b : Int} : oEq true (.int a) (.int b) h = .ok (.d (.bl (!decide (a = b)))) h := by rw [ne_ok rfl rfl, eqv_ii]
theorem eq_ss {a b : List Nat} : oEq false (.str a) (.str b) h = .ok (.d (.bl (decide (a = b)))) h := by rw [eq_ok rfl rfl, eqv_ss]
theorem ne_ss {a b : List Nat} : oEq true (.str a) (.str b) h = .ok (.d (.bl (!decide (a = b)))) h := by rw [ne_ok rfl rfl, eqv_ss]
theorem eq_t0 {a : List D} (f : fitsL 99 a = true) : oEq false (.tup a) (.tup []) h = .ok (.d (.bl a.isEmpty)) h := by
  rw [eq_ok (show fits 100 (.tup a) = true from f) rfl]
  cases a <;> rfl
theorem eq_bb {a b : Bool} : oEq false (.bl a) (.bl b) h = .ok (.d (.bl (a == b))) h := by rw [eq_ok rfl rfl]; rfl
end
theorem up {k n : Nat} (h : n + 1 ≤ k) : ∃ j, k = j + 1 ∧ n ≤ j := ⟨k - 1, by omega, by omega⟩
theorem bls_map {α : Type} (f : α → Bool) : ∀ xs : List α, bls? (xs.map fun x => D.bl (f x)) = some (xs.map f)
  | [] => rfl
  | x :: xs => by
    show (match bls? (xs.map fun x => D.bl (f x)) with | some ns => some (f x :: ns) | none => none) = _
    rw [bls_map f xs]
    rfl
theorem ints_map {α : Type} (f : α → Int) : ∀ xs : List α, ints? (xs.map fun x => D.int (f x)) = some (xs.map f)
  | [] => rfl
  | x :: xs => by
    show (match ints? (xs.map fun x => D.int (f x)) with | some ns => some (f x :: ns) | none => none) = _
    rw [ints_map f xs]
    rfl
theorem q_all {α : Type} {h : Hh} {xs : List α} {f : α → Bool} : opL (bQ true) [.d (.lst (xs.map fun x => D.bl (f x)))] h = .ok (.d (.bl (xs.all f))) h := by
  simp only [opL, valsW, val_d, bQ, bls_map f xs]
  simp [List.all_map, Function.comp_def]
theorem q_any {α : Type} {h : Hh} {xs : List α} {f : α → Bool} : opL (bQ false) [.d (.lst (xs.map fun x => D.bl (f x)))] h = .ok (.d (.bl (xs.any f))) h := by
  simp only [opL, valsW, val_d, bQ, bls_map f xs]
  simp [List.any_map, Function.comp_def]
theorem bq_all {α : Type} {h : Hh} {xs : List α} {f : α → Bool} : bQ true [.lst (xs.map fun x => D.bl (f x))] h = .ok (.d (.bl (xs.all f))) h := q_all
theorem bq_any {α : Type} {h : Hh} {xs : List α} {f : α → Bool} : bQ false [.lst (xs.map fun x => D.bl (f x))] h = .ok (.d (.bl (xs.any f))) h := q_any
theorem cut_1 {α : Type} (xs : List α) : cutG xs (some 1) none = xs.drop 1 := by
  unfold cutG
  have e : HT.sIx xs.length 0 (some 1) = min 1 xs.length := HT.sIx_nat xs.length 0 1
  rw [e]
  show (xs.drop (min 1 xs.length)).take (xs.length - min 1 xs.length) = _
  rw [List.take_of_length_le (by simp)]
  by_cases h : 1 ≤ xs.length
  · rw [Nat.min_eq_left h]
  · rw [List.drop_of_length_le (by omega), List.drop_of_length_le (by omega)]
theorem cut_0 {α : Type} (xs : List α) (n : Nat) : cutG xs none (some (n : Int)) = xs.take n := by
  unfold cutG
  have e : HT.sIx xs.length xs.length (some (n : Int)) = min n xs.length := HT.sIx_nat xs.length xs.length n
  rw [e]
  show (xs.drop 0).take (min n xs.length - 0) = _
  rw [Nat.sub_zero, List.drop_zero]
  by_cases h : n ≤ xs.length
  · rw [Nat.min_eq_left h]
  · rw [Nat.min_eq_right (by omega), List.take_of_length_le (Nat.le_refl _), List.take_of_length_le (by omega)]
theorem atI_0 {α : Type} (x : α) (xs : List α) : atI (x :: xs) 0 = some x := by
  unfold atI
  simp [ixN]
theorem atI_1 {α : Type} (x y : α) (xs : List α) : atI (x :: y :: xs) 1 = some y := by
  unfold atI ixN
  rw [if_pos (by decide), if_pos (by simp only [List.length_cons]; omega)]
  rfl
theorem atI_2 {α : Type} (x y z : α) (xs : List α) : atI (x :: y :: z :: xs) 2 = some z := by
  unfold atI ixN
  rw [if_pos (by decide), if_pos (by simp only [List.length_cons]; omega)]
  rfl
theorem val_app {w : W} {h l : Hh} {d : D} (e : w.val h = some d) : w.val (h ++ l) = some d := by
  cases w with
  | d v => exact e
  | r n =>
    have e : Option.map Ob.val h[n]? = some d := e
    show Option.map Ob.val (h ++ l)[n]? = some d
    cases q : h[n]? with
    | none => rw [q] at e; cases e
    | some o => rw [List.getElem?_append_left (List.getElem?_eq_some_iff.mp q).1]; rw [q]; rw [q] at e; exact e
end Pe

set_option linter.all false
set_option maxRecDepth 100000
set_option maxHeartbeats 4000000
namespace Pe
open PySem PySem.Spec PyProof.Rows L2
/-! ### loops over lists -/
def forK (k : Sl → Hh → RsS) : RsS → RsS
  | .nx σ h => k σ h
  | .ct σ h => k σ h
  | .bk σ h => .nx σ h
  | r => r
def forL (t : Tg) (b : MS) : List D → Sl → Hh → RsS
  | [], σ, h => .nx σ h
  | x :: xs, σ, h => match bT h t (.d x) σ with
    | none => .no
    | some σ1 => forK (forL t b xs) (b σ1 h)
theorem forK_nx {k : Sl → Hh → RsS} {σ : Sl} {h : Hh} : forK k (.nx σ h) = k σ h := rfl
theorem forK_ct {k : Sl → Hh → RsS} {σ : Sl} {h : Hh} : forK k (.ct σ h) = k σ h := rfl
theorem forK_bk {k : Sl → Hh → RsS} {σ : Sl} {h : Hh} : forK k (.bk σ h) = .nx σ h := rfl
theorem forGo_L {it : ItF} {t : Tg} {b : MS} {xs : List D} (hi : itL it xs) : ∀ (k i : Nat) (σ : Sl) (h : Hh), i ≤ xs.length → xs.length - i < k → forGo it t b k i σ h = forL t b (xs.drop i) σ h
  | 0, _, _, _, _, hk => absurd hk (Nat.not_lt_zero _)
  | k + 1, i, σ, h, hl, hk => by
    unfold forGo
    rw [hi]
    by_cases q : i < xs.length
    · rw [List.getElem?_eq_getElem q, List.drop_eq_getElem_cons q]
      show _ = (match bT h t (.d xs[i]) σ with | none => RsS.no | some σ1 => forK (forL t b (xs.drop (i + 1))) (b σ1 h))
      simp only [Option.map_some]
      cases bT h t (.d xs[i]) σ with
      | none => rfl
      | some σ1 =>
        simp only []
        cases b σ1 h with
        | nx σ2 h2 => exact forGo_L hi k (i + 1) σ2 h2 (by omega) (by omega)
        | ct σ2 h2 => exact forGo_L hi k (i + 1) σ2 h2 (by omega) (by omega)
        | bk σ2 h2 => rfl
        | rt w h2 => rfl
        | ex c x σ2 h2 => rfl
        | no => rfl
    · rw [List.getElem?_eq_none (by omega), List.drop_eq_nil_of_le (by omega)]
      rfl
theorem for_L {it : ItF} {t : Tg} {b : MS} {xs : List D} {mi : MI} {σ : Sl} {h h1 : Hh} (e : mi σ h = .ok it h1) (hi : itL it xs) (hz : xs.length ≤ SZ) : sFor mi t b σ h = forL t b xs σ h1 := by
  unfold sFor
  rw [e]
  show forGo it t b FU 0 σ h1 = _
  rw [forGo_L hi FU 0 σ h1 (Nat.zero_le _) (FU_pos hz)]
  rfl
/-- a loop's invariant -/
theorem forL_inv {t : Tg} {b : MS} : ∀ (xs : List D) (inv : List D → Sl → Hh → Prop) (σ : Sl) (h : Hh), inv xs σ h → (∀ x xs σ h, inv (x :: xs) σ h → ∃ σ1 σ2 h2, bT h t (.d x) σ = some σ1 ∧ b σ1 h = .nx σ2 h2 ∧ inv xs σ2 h2) → ∃ σ2 h2, forL t b xs σ h = .nx σ2 h2 ∧ inv [] σ2 h2
  | [], inv, σ, h, v, _ => ⟨σ, h, rfl, v⟩
  | x :: xs, inv, σ, h, v, step => by
    obtain ⟨σ1, σ2, h2, e1, e2, v2⟩ := step x xs σ h v
    obtain ⟨σ3, h3, e3, v3⟩ := forL_inv xs inv σ2 h2 v2 step
    refine ⟨σ3, h3, ?_, v3⟩
    show (match bT h t (.d x) σ with | none => RsS.no | some σ1 => forK (forL t b xs) (b σ1 h)) = _
    rw [e1]
    show forK _ (b σ1 h) = _
    rw [e2]
    exact e3
theorem op2_w {g : Op2} {w : W} {h : Hh} {x y : D} (e : w.val h = some x) : op2 g w (.d y) h = g x y h := by
  unfold op2
  rw [e]
  rfl
theorem op2_v {g : Op2} {w : W} {h : Hh} {x y : D} (e : w.val h = some y) : op2 g (.d x) w h = g x y h := by
  unfold op2
  rw [e]
  rfl
theorem tExt_end {h : Hh} {xs ys : List D} (hl : xs.length + ys.length ≤ SZ) : tExtend (.r h.length) [.d (.lst ys)] (h ++ [.lst xs]) = .ok (.d .non) (h ++ [.lst (xs ++ ys)]) := by
  unfold tExtend
  have ge : (h ++ [Ob.lst xs])[h.length]? = some (.lst xs) := by simp
  simp only [fzW_d, ge]
  rw [if_pos hl]
  simp
theorem tApp_end {h : Hh} {xs : List D} {y : D} (hl : xs.length < SZ) : tAppend (.r h.length) [.d y] (h ++ [.lst xs]) = .ok (.d .non) (h ++ [.lst (xs ++ [y])]) := by
  unfold tAppend
  have ge : (h ++ [Ob.lst xs])[h.length]? = some (.lst xs) := by simp
  simp only [fzW_d, ge]
  rw [if_pos hl]
  simp
theorem isi_w {b k : Nat} {w : W} {h : Hh} {d : D} (e0 : w.val h = some d) (e : tyN d = some k) : isiR b w h = .ok (.d (.bl (isN k b))) h := by
  unfold isiR
  rw [e0]
  simp only [e]
theorem isTy_w {k : Nat} {w : W} {h : Hh} {d : D} (e0 : w.val h = some d) : isTy k w h = (tyN d == some k) := by
  unfold isTy
  rw [e0]
theorem tGet_w {w : W} {h : Hh} {ks vs : List D} {x : D} (e0 : w.val h = some (.dic ks vs)) (e : okKey ks x = true) : tGet w [.d x] h = .ok (.d ((dget ks vs x).getD .non)) h := by
  unfold tGet
  rw [e0]
  simp only [e, if_true]
/-! ### sorted sets of whole numbers -/
theorem fits_ints (n : Nat) : ∀ xs : List Int, fitsL n (xs.map D.int) = true
  | [] => by cases n <;> rfl
  | x :: xs => by
    show (fits n (.int x) && fitsL n (xs.map D.int)) = true
    rw [fits_ints n xs]
    cases n <;> rfl
theorem any_ints (x : Int) : ∀ xs : List Int, ((xs.map D.int).any fun y => eqv y (.int x)) = decide (x ∈ xs)
  | [] => rfl
  | y :: ys => by
    rw [List.map_cons, List.any_cons, any_ints x ys, eqv_ii]
    by_cases q : y = x
    · subst q; simp
    · rw [decide_eq_false q, Bool.false_or]
      exact decide_eq_decide.mpr ⟨fun z => List.mem_cons_of_mem _ z, fun z => (List.mem_cons.mp z).resolve_left fun z => q z.symm⟩
theorem in_ints {neg : Bool} {x : Int} {xs : List Int} {h : Hh} : oIn neg (.int x) (.lst (xs.map D.int)) h = .ok (.d (.bl (if neg then !decide (x ∈ xs) else decide (x ∈ xs)))) h := by
  unfold oIn
  simp only []
  rw [show fits 100 (.int x) = true from rfl, fits_ints 100 xs, any_ints]
  rfl
theorem in_intt {neg : Bool} {x : Int} {xs : List Int} {h : Hh} : oIn neg (.int x) (.tup (xs.map D.int)) h = .ok (.d (.bl (if neg then !decide (x ∈ xs) else decide (x ∈ xs)))) h := by
  unfold oIn
  simp only []
  rw [show fits 100 (.int x) = true from rfl, fits_ints 100 xs, any_ints]
  rfl
theorem isort_asc : ∀ {xs : List Int}, xs.Pairwise (· < ·) → isort leD (xs.map D.int) = xs.map D.int
  | [], _ => rfl
  | [x], _ => rfl
  | x :: y :: xs, h => by
    have h2 := List.pairwise_cons.mp h
    have lt : x < y := h2.1 y List.mem_cons_self
    show ins1 leD (.int x) (isort leD ((y :: xs).map D.int)) = _
    rw [isort_asc h2.2, List.map_cons]
    unfold ins1
    have e : leD (.int x) (.int y) = true := by
      show (!decide (y < x)) = true
      rw [decide_eq_false (by omega)]
      rfl
    rw [e]
    rfl
theorem alk_ints (xs : List Int) : alkAll (xs.map D.int) = true := by
  refine List.all_eq_true.mpr fun x hx => List.all_eq_true.mpr fun y hy => ?_
  obtain ⟨i, _, rfl⟩ := List.mem_map.mp hx
  obtain ⟨j, _, rfl⟩ := List.mem_map.mp hy
  rfl
theorem set_perm {xs ys : List Int} (asc : ys.Pairwise (· < ·)) (mem : ∀ i, i ∈ ys ↔ i ∈ xs) : (ys.map D.int).Perm (ddup (xs.map D.int)) := by
  have q := ddup_perm (xs := xs.map D.int) (ks := ys.map fun i => sk (.int i)) (fun d hd => by obtain ⟨i, _, rfl⟩ := List.mem_map.mp hd; rfl) (by
    refine List.Pairwise.map _ (fun a b (hab : a < b) z => ?_) asc
    have : a = b := Sum.inl.inj z
    omega) (fun k => by
      rw [List.map_map]
      constructor
      · intro z
        obtain ⟨i, hi, rfl⟩ := List.mem_map.mp z
        exact List.mem_map.mpr ⟨i, (mem i).mp hi, rfl⟩
      · intro z
        obtain ⟨i, hi, rfl⟩ := List.mem_map.mp z
        exact List.mem_map.mpr ⟨i, (mem i).mpr hi, rfl⟩)
  rw [List.map_map] at q
  exact q
theorem sset_ints {xs ys : List Int} {h : Hh} (asc : ys.Pairwise (· < ·)) (mem : ∀ i, i ∈ ys ↔ i ∈ xs) (hz : xs.length < 4000) : ssetR (.d (.lst (xs.map D.int))) h = .ok (.r h.length) (h ++ [.lst (ys.map D.int)]) := by
  have p := set_perm asc mem
  have f1 : fitsL 99 (ddup (xs.map D.int)) = true := by
    have all : ∀ (zs : List D), (∀ d ∈ zs, fits 99 d = true) → fitsL 99 zs = true := by
      intro zs
      induction zs with
      | nil => intro _; rfl
      | cons y zs ih => intro hy; simp only [fitsL, Bool.and_eq_true]; exact ⟨hy y List.mem_cons_self, ih fun d hd => hy d (List.mem_cons_of_mem _ hd)⟩
    exact all _ fun d hd => fitsL_mem (fits_ints 99 ys) (p.mem_iff.mpr hd)
  have f2 : alkAll (ddup (xs.map D.int)) = true := List.all_eq_true.mpr fun x hx => List.all_eq_true.mpr fun y hy => alkAll_mem (alk_ints ys) (p.mem_iff.mpr hx) (p.mem_iff.mpr hy)
  have f3 : setB (xs.map D.int) = true := by
    unfold setB
    rw [Bool.and_eq_true, List.length_map]
    exact ⟨List.all_eq_true.mpr fun d hd => by obtain ⟨i, _, rfl⟩ := List.mem_map.mp hd; rfl, decide_eq_true hz⟩
  have e : isort leD (ddup (xs.map D.int)) = ys.map D.int := by
    rw [← sort_perm f1 f2 p, sort_perm (fits_ints 99 ys) (alk_ints ys) (.refl _), isort_asc asc]
  unfold ssetR
  simp only [val_d, D.seq?, f1, f2, f3, Bool.and_self, if_true, e]
end Pe

set_option linter.all false
set_option maxRecDepth 100000
set_option maxHeartbeats 4000000
namespace Pe
open PySem PySem.Spec PyProof.Rows L2
theorem asc_ext : ∀ {xs ys : List Int}, xs.Pairwise (· < ·) → ys.Pairwise (· < ·) → (∀ i, i ∈ xs ↔ i ∈ ys) → xs = ys
  | [], [], _, _, _ => rfl
  | [], y :: ys, _, _, h => by have := (h y).mpr List.mem_cons_self; cases this
  | x :: xs, [], _, _, h => by have := (h x).mp List.mem_cons_self; cases this
  | x :: xs, y :: ys, hx, hy, h => by
    have hx' := List.pairwise_cons.mp hx
    have hy' := List.pairwise_cons.mp hy
    have e : x = y := by
      have a := (h x).mp List.mem_cons_self
      have b := (h y).mpr List.mem_cons_self
      rcases List.mem_cons.mp a with a | a
      · exact a
      · rcases List.mem_cons.mp b with b | b
        · exact b.symm
        · have := hx'.1 y b
          have := hy'.1 x a
          omega
    subst e
    rw [asc_ext hx'.2 hy'.2 fun i => by
      constructor
      · intro z
        rcases List.mem_cons.mp ((h i).mp (List.mem_cons_of_mem _ z)) with q | q
        · have := hx'.1 i z; omega
        · exact q
      · intro z
        rcases List.mem_cons.mp ((h i).mpr (List.mem_cons_of_mem _ z)) with q | q
        · have := hy'.1 i z; omega
        · exact q]
def insZ (x : Int) : List Int → List Int
  | [] => [x]
  | y :: ys => if x < y then x :: y :: ys else if x = y then y :: ys else y :: insZ x ys
theorem insZ_mem (x i : Int) : ∀ ys, i ∈ insZ x ys ↔ i = x ∨ i ∈ ys
  | [] => by simp [insZ]
  | y :: ys => by
    unfold insZ
    by_cases h1 : x < y
    · rw [if_pos h1]; simp
    · rw [if_neg h1]
      by_cases h2 : x = y
      · rw [if_pos h2]; subst h2; simp
      · rw [if_neg h2, List.mem_cons, insZ_mem x i ys, List.mem_cons]
        exact ⟨fun z => by rcases z with z | z | z <;> simp [z], fun z => by rcases z with z | z | z <;> simp [z]⟩
theorem insZ_asc (x : Int) : ∀ {ys}, ys.Pairwise (· < ·) → (insZ x ys).Pairwise (· < ·)
  | [], _ => by simp [insZ]
  | y :: ys, h => by
    have h' := List.pairwise_cons.mp h
    unfold insZ
    by_cases h1 : x < y
    · rw [if_pos h1]
      refine List.pairwise_cons.mpr ⟨fun i hi => ?_, h⟩
      rcases List.mem_cons.mp hi with q | q
      · omega
      · have := h'.1 i q; omega
    · rw [if_neg h1]
      by_cases h2 : x = y
      · rw [if_pos h2]; exact h
      · rw [if_neg h2]
        refine List.pairwise_cons.mpr ⟨fun i hi => ?_, insZ_asc x h'.2⟩
        rcases (insZ_mem x i ys).mp hi with q | q
        · omega
        · exact h'.1 i q
theorem insZ_len (x : Int) : ∀ ys, (insZ x ys).length ≤ ys.length + 1
  | [] => by simp [insZ]
  | y :: ys => by
    unfold insZ
    have := insZ_len x ys
    split
    · simp
    · split
      · simp
      · simp only [List.length_cons]; omega
/-- each set of whole numbers in its sequence -/
def srtZ : List Int → List Int
  | [] => []
  | x :: xs => insZ x (srtZ xs)
theorem srtZ_mem (i : Int) : ∀ xs, i ∈ srtZ xs ↔ i ∈ xs
  | [] => Iff.rfl
  | x :: xs => by
    show i ∈ insZ x (srtZ xs) ↔ _
    rw [insZ_mem, srtZ_mem i xs, List.mem_cons]
theorem srtZ_asc : ∀ xs, (srtZ xs).Pairwise (· < ·)
  | [] => .nil
  | x :: xs => insZ_asc x (srtZ_asc xs)
theorem srtZ_len : ∀ xs, (srtZ xs).length ≤ xs.length
  | [] => Nat.le_refl _
  | x :: xs => Nat.le_trans (insZ_len x _) (Nat.succ_le_succ (srtZ_len xs))
theorem sset_intt {xs ys : List Int} {h : Hh} (asc : ys.Pairwise (· < ·)) (mem : ∀ i, i ∈ ys ↔ i ∈ xs) (hz : xs.length < 4000) : ssetR (.d (.tup (xs.map D.int))) h = .ok (.r h.length) (h ++ [.lst (ys.map D.int)]) :=
  sset_ints (h := h) asc mem hz
theorem set_app {h l : Hh} {n : Nat} {o : Ob} (e : n < h.length) : (h ++ l).set n o = h.set n o ++ l := by
  rw [List.set_append]
  exact if_pos e
theorem get_app {h l : Hh} {n : Nat} {o : Ob} (e : h[n]? = some o) : (h ++ l)[n]? = some o := by
  rw [List.getElem?_append_left (List.getElem?_eq_some_iff.mp e).1]
  exact e
mutual
theorem same_self : ∀ d : D, shw d = true → same d d = true
  | .non, _ => rfl
  | .bl b, _ => by cases b <;> rfl
  | .int i, _ => by show (i == i) = true; exact beq_self_eq_true i
  | .str s, _ => by show (s == s) = true; exact beq_self_eq_true s
  | .tup xs, h => sameL_self xs h
  | .lst xs, h => sameL_self xs h
  | .dic _ _, h => by cases h
  | .set _, h => by cases h
  | .scr _, h => by cases h
  | .fn _, h => by cases h
  | .cls _, h => by cases h
  | .clo _ _, h => by cases h
  | .ins _ _, h => by cases h
theorem sameL_self : ∀ xs : List D, shwL xs = true → sameL xs xs = true
  | [], _ => rfl
  | x :: xs, h => by
    have h' : shw x = true ∧ shwL xs = true := by simpa [shwL] using h
    show (same x x && sameL xs xs) = true
    rw [same_self x h'.1, sameL_self xs h'.2]
    rfl
end
/-- repr of both sides, where they are one -/
theorem mRc_same {neg : Bool} {a b : M} {σ : Sl} {h h1 h2 : Hh} {w w2 : W} {d : D} (ea : a σ h = .ok w h1) (va : w.val h1 = some d) (eb : b σ h1 = .ok w2 h2) (vb : w2.val h2 = some d) (s : shows d = true) : mRc neg a b σ h = .ok (.d (.bl !neg)) h2 := by
  unfold mRc
  rw [ea]
  simp only [bind_ok, va, s, if_true, eb, rcR, vb]
  have : same d d = true := same_self d (by
    unfold shows at s
    simp only [Bool.and_eq_true] at s
    exact s.1.2)
  rw [this]
  rfl
end Pe

set_option linter.all false
set_option maxRecDepth 100000
set_option maxHeartbeats 0
namespace Pe
open PySem PySem.Spec PyProof.Rows L2
/-! ### the laws' drawing: _law_box, _law_next, _law_one_of -/
def bBox : B := (.cons (.set (.v 2) (.ife (.cmp 0 (.var 1) (.bi 0 (.cons (.var 0) .nil))) (.ix (.var 0) (.var 1)) (.fz (.bin 0 (.fz (.bin 2 (.con (.int 61)) (.var 1))) (.bi 5 (.cons (.fz (.sl (.var 0) .none (.some (.con (.int 2))))) .nil)))))) (.cons (.set (.v 3) (.bin 4 (.bi 1 (.cons (.bi 2 (.cons (.var 2) .nil)) .nil)) (.bin 5 (.bin 5 (.con (.int 10)) (.con (.int 41))) (.con (.int 14))))) (.cons (.ret (.lst (.cons (.bi 3 (.cons (.con (.int 0)) (.cons (.bin 1 (.var 3) (.bin 5 (.con (.int 10)) (.con (.int 18)))) .nil))) (.cons (.fz (.bin 0 (.fz (.bin 0 (.fz (.bin 2 (.bin 4 (.bi 1 (.cons (.var 3) .nil)) (.con (.int 2305843009213693669))) (.con (.int 7919)))) (.fz (.bin 2 (.con (.int 104729)) (.var 1))))) (.bi 1 (.cons (.cmp 0 (.var 2) (.con (.int 0))) .nil)))) (.cons (.con (.int 0)) .nil))))) .nil)))
def bNext : B := (.cons (.ite (.cmp 1 (.ix (.var 0) (.con (.int 0))) (.con (.int 0))) (.cons (.set (.v 4) (.bin 4 (.bi 1 (.cons (.ix (.var 0) (.con (.int 0))) .nil)) (.var 1))) (.cons (.put (.var 0) (.con (.int 0)) (.bin 3 (.ix (.var 0) (.con (.int 0))) (.var 1))) (.cons (.ret (.var 4)) .nil))) .nil) (.cons (.put (.var 0) (.con (.int 2)) (.fz (.bin 0 (.ix (.var 0) (.con (.int 2))) (.con (.int 1))))) (.cons (.set (.v 2) (.bin 4 (.bi 1 (.cons (.fz (.bin 0 (.ix (.var 0) (.con (.int 1))) (.fz (.bin 2 (.con (.int 15485863)) (.ix (.var 0) (.con (.int 2))))))) .nil)) (.con (.int 2305843009213693951)))) (.cons (.set (.v 3) (.fz (.bin 0 (.fz (.bin 2 (.bin 4 (.bi 1 (.cons (.fz (.bin 2 (.var 2) (.var 2))) .nil)) (.con (.int 2305843009213693921))) (.var 2))) (.fz (.bin 2 (.con (.int 32452843)) (.ix (.var 0) (.con (.int 2)))))))) (.cons (.ret (.bin 4 (.bi 1 (.cons (.bin 3 (.bin 4 (.bi 1 (.cons (.var 3) .nil)) (.con (.int 2305843009213693907))) (.con (.int 8192))) .nil)) (.var 1))) .nil)))))
def bOne (i : Nat) : B := (.cons (.ret (.ix (.var 1) (.call i 2 (.cons (.var 0) (.cons (.bi 0 (.cons (.var 1) .nil)) .nil))))) .nil)
theorem take_set {h : Hh} {n : Nat} {o : Ob} : (h.set n o).take h.length = h.set n o := List.take_of_length_le (by rw [List.length_set]; exact Nat.le_refl _)
theorem val_r {h : Hh} {n : Nat} {o : Ob} (e : h[n]? = some o) : W.val (.r n) h = some o.val := by
  show Option.map Ob.val h[n]? = _
  rw [e]; rfl
theorem get_set {h : Hh} {n : Nat} {o u : Ob} (e : h[n]? = some u) : (h.set n o)[n]? = some o := by
  rw [List.getElem?_set_self (List.getElem?_eq_some_iff.mp e).1]
theorem log_small {x k : Nat} (h : x < 2 ^ k) (hk : 0 < k) : x.log2 < k := by
  by_cases q : x = 0
  · subst q; exact hk
  · exact (Nat.log2_lt q).mpr h
theorem mul_ok {i j : Int} {h : Hh} (hi : i.natAbs < 2 ^ 100) (hj : j.natAbs < 2 ^ 100) : oMul (.int i) (.int j) h = .ok (.d (.int (i * j))) h := by
  have a := log_small hi (by decide)
  have b := log_small hj (by decide)
  unfold oMul
  exact if_pos (by omega)
/-- a box of drawn numbers, drawn at most N times -/
def Bo (N : Nat) (o : Ob) : Prop := ∃ a b c : Int, 0 ≤ a ∧ 0 ≤ c ∧ c ≤ N ∧ o = .lst [.int a, .int b, .int c]
def Bx (n N : Nat) (h : Hh) : Prop := ∃ o, Bo N o ∧ h[n]? = some o
theorem Bx.set {n N M : Nat} {h : Hh} {o : Ob} (b : Bx n N h) (u : Bo M o) : Bx n M (h.set n o) := by
  obtain ⟨a, _, e⟩ := b
  exact ⟨o, u, get_set e⟩
theorem next_ok {F : FT} {n N : Nat} {h : Hh} {total : Int} (hb : Bx n N h) (hN : N ≤ 1000000) (h0 : 0 < total) (hl : total < 1000000) : ∃ (v : Int) (o : Ob), retR false h.length (denB F bNext [some (.r n), some (.d (.int total)), none, none, none] h) = .ok (.d (.int v)) (h.set n o) ∧ Bo (N + 1) o ∧ 0 ≤ v ∧ v < total := by
  obtain ⟨_, ⟨a, b, c, ha, hc, hc2, rfl⟩, hn⟩ := hb
  unfold bNext
  have v0 := fun y => op2_w (g := oIx) (y := y) (val_r hn)
  have t1 : (0 < total) = True := eq_true h0
  have tn : total.natAbs < 2 ^ 100 := by
    have : total.natAbs < 1000000 := by omega
    exact Nat.lt_trans this (by decide)
  have t2 : (total.natAbs.log2 < 9000) = True := eq_true (Nat.lt_trans (log_small tn (by decide)) (by decide))
  by_cases pos : 0 < a
  · have st0 : ∀ d, stR (.d d) (.r n) (.d (.int 0)) h = some (h.set n (.lst [d, .int b, .int c])) := fun d => by
      unfold stR
      simp only [fzW_d, hn]
      rfl
    simp only [retR_f, retR_t, retR_nx, startA, denB, denS, den, denT, denL, denP, denO, denC, denI, mVar, mCon_eq, mBin_eq, mUn_eq, mCl_eq, clR_d, clR_r, mFz_eq, fzR_d, fzR_end, fzW_d, fzW_end, mNil, mCons, fzL, tupR, lstR, mArg, clB_ok, mTru_eq, mTNot, mTAnd, mTOr, mTIf, mIf, mAnd, mOr, mNot, chK, mChn, bT, bTL, sNil, sSeq, sSet, sPar, sDrop, sRet, sRetN, sIf, sBk, sCt, sNo, of_ok, thn_nx, thn_rt, thn_bk, thn_ct, bind_ok, bind_no, op1_d, op2_d, opL, valsW, val_d, val_end, tru, tru_d, D.tru, binF, cmpF, biF, mtF, mMt, isTy, tyN, isiR, isN, oAdd, oSub, oMul, oDiv, oMod, oPow, oNeg, oIx, oIn, oIs, mSl, mPart, mNoPart, opSl, oSl, Ob.val, bLen, bInt, bAbs, bSum, bList, bTup, mItE, itW, itOf, mItA, rng1, rng2, zipR, List.map_cons, List.map_nil, List.replicate, List.length_cons, List.length_nil, List.cons_append, List.nil_append, List.getElem?_cons_zero, List.getElem?_cons_succ, List.set_cons_zero, List.set_cons_succ, Option.bind_some, Option.map_some, Nat.reduceAdd, Nat.reduceSub, Nat.reduceBEq, Nat.reduceEqDiff, beq_self_eq_true, Bool.false_eq_true, if_true, if_false, ite_true, ite_false, take_app, take_app0, Bool.or_false, Bool.false_or, Bool.and_true, Bool.true_and, Bool.and_false, Bool.false_and, Bool.or_true, Bool.true_or, Bool.not_true, Bool.not_false, ite_self, List.set_set, forL, forK_nx, forK_ct, forK_bk, SZ, Nat.reduceLeDiff, Nat.zero_le, List.cons.injEq, reduceCtorEq, false_and, and_false, true_and, and_true, cut_1, atI_0, atI_1, atI_2, cmp_ii, cmpD_0, cmpD_1, cmpD_2, cmpD_3, eq_ii, ne_ii, eq_ss, ne_ss, eq_bb, decide_true, decide_false, sPut, v0, decide_eq_true pos, t1, t2, st0, take_set]
    exact ⟨_, _, rfl, ⟨_, _, _, Int.ediv_nonneg ha (Int.le_of_lt h0), hc, by omega, rfl⟩, Int.emod_nonneg _ (by omega), Int.emod_lt_of_pos _ h0⟩
  · have st2 : ∀ d, stR (.d d) (.r n) (.d (.int 2)) h = some (h.set n (.lst [.int a, .int b, d])) := fun d => by
      unfold stR
      simp only [fzW_d, hn]
      rfl
    have v1 := fun d y => op2_w (g := oIx) (y := y) (val_r (get_set (o := .lst [.int a, .int b, d]) hn))
    have t3 : ((0 : Int) < 2305843009213693951) = True := eq_true (by decide)
    have t4 : ((0 : Int) < 2305843009213693921) = True := eq_true (by decide)
    have t5 : ((0 : Int) < 2305843009213693907) = True := eq_true (by decide)
    have t6 : ((0 : Int) < 8192) = True := eq_true (by decide)
    have t7 : ((8192 : Int).natAbs.log2 < 9000) = True := eq_true (by decide)
    have big : ∀ {x : Int}, 0 ≤ x → x < 2305843009213693951 → x.natAbs < 2 ^ 100 := fun {x} p q => by
      have : x.natAbs < 2305843009213693951 := by omega
      exact Nat.lt_trans this (by decide)
    have m1 : ∀ h, oMul (.int 15485863) (.int (c + 1)) h = .ok (.d (.int (15485863 * (c + 1)))) h := fun h => mul_ok (by decide) (big (by omega) (by omega))
    have o1a := Int.emod_nonneg (b + 15485863 * (c + 1)) (show (2305843009213693951 : Int) ≠ 0 by decide)
    have o1b := Int.emod_lt_of_pos (b + 15485863 * (c + 1)) (show (0 : Int) < 2305843009213693951 by decide)
    have m4 : ∀ h, oMul (.int 32452843) (.int (c + 1)) h = .ok (.d (.int (32452843 * (c + 1)))) h := fun h => mul_ok (by decide) (big (by omega) (by omega))
    simp only [retR_f, retR_t, retR_nx, startA, denB, denS, den, denT, denL, denP, denO, denC, denI, mVar, mCon_eq, mBin_eq, mUn_eq, mCl_eq, clR_d, clR_r, mFz_eq, fzR_d, fzR_end, fzW_d, fzW_end, mNil, mCons, fzL, tupR, lstR, mArg, clB_ok, mTru_eq, mTNot, mTAnd, mTOr, mTIf, mIf, mAnd, mOr, mNot, chK, mChn, bT, bTL, sNil, sSeq, sSet, sPar, sDrop, sRet, sRetN, sIf, sBk, sCt, sNo, of_ok, thn_nx, thn_rt, thn_bk, thn_ct, bind_ok, bind_no, op1_d, op2_d, opL, valsW, val_d, val_end, tru, tru_d, D.tru, binF, cmpF, biF, mtF, mMt, isTy, tyN, isiR, isN, oAdd, oSub, oDiv, oMod, oPow, oNeg, oIx, oIn, oIs, mSl, mPart, mNoPart, opSl, oSl, Ob.val, bLen, bInt, bAbs, bSum, bList, bTup, mItE, itW, itOf, mItA, rng1, rng2, zipR, List.map_cons, List.map_nil, List.replicate, List.length_cons, List.length_nil, List.cons_append, List.nil_append, List.getElem?_cons_zero, List.getElem?_cons_succ, List.set_cons_zero, List.set_cons_succ, Option.bind_some, Option.map_some, Nat.reduceAdd, Nat.reduceSub, Nat.reduceBEq, Nat.reduceEqDiff, beq_self_eq_true, Bool.false_eq_true, if_true, if_false, ite_true, ite_false, take_app, take_app0, Bool.or_false, Bool.false_or, Bool.and_true, Bool.true_and, Bool.and_false, Bool.false_and, Bool.or_true, Bool.true_or, Bool.not_true, Bool.not_false, ite_self, List.set_set, forL, forK_nx, forK_ct, forK_bk, SZ, Nat.reduceLeDiff, Nat.zero_le, List.cons.injEq, reduceCtorEq, false_and, and_false, true_and, and_true, cut_1, atI_0, atI_1, atI_2, cmp_ii, cmpD_0, cmpD_1, cmpD_2, cmpD_3, eq_ii, ne_ii, eq_ss, ne_ss, eq_bb, decide_true, decide_false, sPut, v0, decide_eq_false pos, t1, t3, t4, t5, t6, t7, st2, v1, take_set, List.length_set, m1, m4]
    generalize (b + 15485863 * (c + 1)) % 2305843009213693951 = o1 at *
    have m2 : ∀ h, oMul (.int o1) (.int o1) h = .ok (.d (.int (o1 * o1))) h := fun h => mul_ok (big o1a o1b) (big o1a o1b)
    have p2a := Int.emod_nonneg (o1 * o1) (show (2305843009213693921 : Int) ≠ 0 by decide)
    have p2b := Int.emod_lt_of_pos (o1 * o1) (show (0 : Int) < 2305843009213693921 by decide)
    have m3 : ∀ h, oMul (.int (o1 * o1 % 2305843009213693921)) (.int o1) h = .ok (.d (.int (o1 * o1 % 2305843009213693921 * o1))) h := fun h => mul_ok (big p2a (by omega)) (big o1a o1b)
    simp only [retR_f, retR_t, retR_nx, startA, denB, denS, den, denT, denL, denP, denO, denC, denI, mVar, mCon_eq, mBin_eq, mUn_eq, mCl_eq, clR_d, clR_r, mFz_eq, fzR_d, fzR_end, fzW_d, fzW_end, mNil, mCons, fzL, tupR, lstR, mArg, clB_ok, mTru_eq, mTNot, mTAnd, mTOr, mTIf, mIf, mAnd, mOr, mNot, chK, mChn, bT, bTL, sNil, sSeq, sSet, sPar, sDrop, sRet, sRetN, sIf, sBk, sCt, sNo, of_ok, thn_nx, thn_rt, thn_bk, thn_ct, bind_ok, bind_no, op1_d, op2_d, opL, valsW, val_d, val_end, tru, tru_d, D.tru, binF, cmpF, biF, mtF, mMt, isTy, tyN, isiR, isN, oAdd, oSub, oDiv, oMod, oPow, oNeg, oIx, oIn, oIs, mSl, mPart, mNoPart, opSl, oSl, Ob.val, bLen, bInt, bAbs, bSum, bList, bTup, mItE, itW, itOf, mItA, rng1, rng2, zipR, List.map_cons, List.map_nil, List.replicate, List.length_cons, List.length_nil, List.cons_append, List.nil_append, List.getElem?_cons_zero, List.getElem?_cons_succ, List.set_cons_zero, List.set_cons_succ, Option.bind_some, Option.map_some, Nat.reduceAdd, Nat.reduceSub, Nat.reduceBEq, Nat.reduceEqDiff, beq_self_eq_true, Bool.false_eq_true, if_true, if_false, ite_true, ite_false, take_app, take_app0, Bool.or_false, Bool.false_or, Bool.and_true, Bool.true_and, Bool.and_false, Bool.false_and, Bool.or_true, Bool.true_or, Bool.not_true, Bool.not_false, ite_self, List.set_set, forL, forK_nx, forK_ct, forK_bk, SZ, Nat.reduceLeDiff, Nat.zero_le, List.cons.injEq, reduceCtorEq, false_and, and_false, true_and, and_true, cut_1, atI_0, atI_1, atI_2, cmp_ii, cmpD_0, cmpD_1, cmpD_2, cmpD_3, eq_ii, ne_ii, eq_ss, ne_ss, eq_bb, decide_true, decide_false, sPut, v0, t1, t3, t4, t5, t6, t7, v1, take_set, List.length_set, m2, m3, m4]
    exact ⟨_, _, rfl, ⟨_, _, _, ha, by omega, by omega, rfl⟩, Int.emod_nonneg _ (by omega), Int.emod_lt_of_pos _ h0⟩
theorem one_of_ok {F : FT} {i n N : Nat} {h : Hh} {xs : List D} (fN : ∀ w x h, F i [w, x] h = retR false h.length (denB F bNext [some w, some x, none, none, none] h) ∨ ∃ F', F i [w, x] h = retR false h.length (denB F' bNext [some w, some x, none, none, none] h)) (hb : Bx n N h) (hN : N ≤ 1000000) (h0 : 0 < xs.length) (hl : xs.length < 1000) : ∃ (x : D) (o : Ob), retR false h.length (denB F (bOne i) [some (.r n), some (.d (.lst xs))] h) = .ok (.d x) (h.set n o) ∧ Bo (N + 1) o ∧ x ∈ xs := by
  obtain ⟨v, o, e1, e2, e3, e4⟩ : ∃ (v : Int) (o : Ob), F i [.r n, .d (.int (xs.length : Nat))] h = .ok (.d (.int v)) (h.set n o) ∧ Bo (N + 1) o ∧ 0 ≤ v ∧ v < (xs.length : Nat) := by
    rcases fN (.r n) (.d (.int (xs.length : Nat))) h with e | ⟨F', e⟩
    · rw [e]; exact next_ok hb hN (by omega) (by omega)
    · rw [e]; exact next_ok hb hN (by omega) (by omega)
  unfold bOne
  obtain ⟨j, rfl⟩ : ∃ j : Nat, v = j := ⟨v.toNat, by omega⟩
  have lt : j < xs.length := by omega
  have ix : atI xs (j : Int) = some xs[j] := by
    unfold atI ixN
    rw [if_pos (by omega), if_pos (by omega)]
    show xs[(j : Int).toNat]? = _
    rw [Int.toNat_natCast, List.getElem?_eq_getElem lt]
  have vl : W.val (.d (.lst xs)) (h.set n o) = some (.lst xs) := rfl
  simp only [retR_f, retR_t, retR_nx, startA, denB, denS, den, denT, denL, denP, denO, denC, denI, mVar, mCon_eq, mBin_eq, mUn_eq, mCl_eq, clR_d, clR_r, mFz_eq, fzR_d, fzR_end, fzW_d, fzW_end, mNil, mCons, fzL, tupR, lstR, mArg, clB_ok, mTru_eq, mTNot, mTAnd, mTOr, mTIf, mIf, mAnd, mOr, mNot, chK, mChn, bT, bTL, sNil, sSeq, sSet, sPar, sDrop, sRet, sRetN, sIf, sBk, sCt, sNo, of_ok, thn_nx, thn_rt, thn_bk, thn_ct, bind_ok, bind_no, op1_d, op2_d, opL, valsW, val_d, val_end, tru, tru_d, D.tru, binF, cmpF, biF, mtF, mMt, isTy, tyN, isiR, isN, oAdd, oSub, oMul, oDiv, oMod, oPow, oNeg, oIx, oIn, oIs, mSl, mPart, mNoPart, opSl, oSl, Ob.val, bLen, bInt, bAbs, bSum, bList, bTup, mItE, itW, itOf, mItA, rng1, rng2, zipR, List.map_cons, List.map_nil, List.replicate, List.length_cons, List.length_nil, List.cons_append, List.nil_append, List.getElem?_cons_zero, List.getElem?_cons_succ, List.set_cons_zero, List.set_cons_succ, Option.bind_some, Option.map_some, Nat.reduceAdd, Nat.reduceSub, Nat.reduceBEq, Nat.reduceEqDiff, beq_self_eq_true, Bool.false_eq_true, if_true, if_false, ite_true, ite_false, take_app, take_app0, Bool.or_false, Bool.false_or, Bool.and_true, Bool.true_and, Bool.and_false, Bool.false_and, Bool.or_true, Bool.true_or, Bool.not_true, Bool.not_false, ite_self, List.set_set, forL, forK_nx, forK_ct, forK_bk, SZ, Nat.reduceLeDiff, Nat.zero_le, List.cons.injEq, reduceCtorEq, false_and, and_false, true_and, and_true, cut_1, atI_0, atI_1, atI_2, cmp_ii, cmpD_0, cmpD_1, cmpD_2, cmpD_3, eq_ii, ne_ii, eq_ss, ne_ss, eq_bb, decide_true, decide_false, e1, ix, take_set, List.length_set]
  exact ⟨_, _, rfl, e2, List.getElem_mem lt⟩
theorem bSum_scr (ns : List Int) (h : Hh) : bSum [.lst (ns.map D.int)] h = .ok (.d (.int ns.sum)) h := by
  unfold bSum
  have : ints? (ns.map D.int) = some ns := by
    induction ns with
    | nil => rfl
    | cons x xs ih =>
      show (match ints? (xs.map D.int) with | some ns => some (x :: ns) | none => none) = _
      rw [ih]
  simp only [this]
theorem max_ok (i j : Int) (h : Hh) : bBest true [.int i, .int j] h = .ok (.d (.int (max i j))) h := by
  show Rs.ok (W.d (.int (if j > i then j else i))) h = _
  rw [show (if j > i then j else i) = max i j by split <;> omega]
theorem min_ok (i j : Int) (h : Hh) : bBest false [.int i, .int j] h = .ok (.d (.int (min i j))) h := by
  show Rs.ok (W.d (.int (if j < i then j else i))) h = _
  rw [show (if j < i then j else i) = min i j by split <;> omega]
def M14 : Int := (10 ^ 41) ^ 14
def M41 : Int := 10 ^ 41
def M18 : Int := 10 ^ 18
theorem m41_ok (h : Hh) : oPow (.int 10) (.int 41) h = .ok (.d (.int M41)) h := by unfold oPow; exact if_pos (by decide)
theorem m14_ok (h : Hh) : oPow (.int M41) (.int 14) h = .ok (.d (.int M14)) h := by unfold oPow; exact if_pos (by decide)
theorem m18_ok (h : Hh) : oPow (.int 10) (.int 18) h = .ok (.d (.int M18)) h := by unfold oPow; exact if_pos (by decide)
theorem box_ok {F : FT} (xs : List Int) (at_ : Nat) (hat : at_ < 1000) (h : Hh) (hl : xs.length ≤ 1000) : ∃ o, retR true h.length (denB F bBox (startA 4 [.d (.scr (xs.map D.int)), .d (.int at_)]) h) = .ok (.r h.length) (h ++ [o]) ∧ Bo 0 o := by
  have m61 : ∀ h, oMul (.int 61) (.int at_) h = .ok (.d (.int (61 * at_))) h := fun h => mul_ok (by decide) (Nat.lt_trans (show (at_ : Int).natAbs < 1000 by omega) (by decide))
  have m10 : ∀ h, oMul (.int 104729) (.int at_) h = .ok (.d (.int (104729 * at_))) h := fun h => mul_ok (by decide) (Nat.lt_trans (show (at_ : Int).natAbs < 1000 by omega) (by decide))
  obtain ⟨Z, zz⟩ : ∃ Z : Int, Z = 2305843009213693669 := ⟨_, rfl⟩
  have hZ : (0 : Int) < 2305843009213693669 := by decide
  have m79 : ∀ (i : Int) h, oMul (.int (i % 2305843009213693669)) (.int 7919) h = .ok (.d (.int (i % 2305843009213693669 * 7919))) h := fun i h => mul_ok (by
    have a := Int.emod_nonneg i (show (2305843009213693669 : Int) ≠ 0 by decide)
    have b := Int.emod_lt_of_pos i hZ
    have : (i % 2305843009213693669).natAbs < 2305843009213693669 := by omega
    exact Nat.lt_trans this (by decide)) (by decide)
  have M0 : (0 : Int) < M14 := by decide
  have fin : ∀ cell : Int, ∃ o, (denB F (match bBox with | .cons _ b => b | .nil => .nil) [some (.d (.scr (xs.map D.int))), some (.d (.int at_)), some (.d (.int cell)), none] h) = .rt (.r h.length) (h ++ [o]) ∧ Bo 0 o := by
    intro cell
    unfold bBox
    simp only []
    have t1 : (0 < M14) = True := eq_true M0
    have t2 : ((0 : Int) < 2305843009213693669) = True := eq_true hZ
    have b1 : ∀ (b : Bool) h, bInt [.bl b] h = .ok (.d (.int (if b then 1 else 0))) h := fun _ _ => rfl
    simp only [retR_f, retR_t, retR_nx, startA, denB, denS, den, denT, denL, denP, denO, denC, denI, mVar, mCon_eq, mBin_eq, mUn_eq, mCl_eq, clR_d, clR_r, mFz_eq, fzR_d, fzR_end, fzW_d, fzW_end, mNil, mCons, fzL, tupR, lstR, mArg, clB_ok, mTru_eq, mTNot, mTAnd, mTOr, mTIf, mIf, mAnd, mOr, mNot, chK, mChn, bT, bTL, sNil, sSeq, sSet, sPar, sDrop, sRet, sRetN, sIf, sBk, sCt, sNo, of_ok, thn_nx, thn_rt, thn_bk, thn_ct, bind_ok, bind_no, op1_d, op2_d, opL, valsW, val_d, val_end, tru, tru_d, D.tru, binF, cmpF, biF, mtF, mMt, isTy, tyN, isiR, isN, oAdd, oSub, oDiv, oMod, oNeg, oIx, oIn, oIs, mSl, mPart, mNoPart, opSl, oSl, Ob.val, bLen, bInt, bAbs, bSum, bList, bTup, mItE, itW, itOf, mItA, rng1, rng2, zipR, List.map_cons, List.map_nil, List.replicate, List.length_cons, List.length_nil, List.cons_append, List.nil_append, List.getElem?_cons_zero, List.getElem?_cons_succ, List.set_cons_zero, List.set_cons_succ, Option.bind_some, Option.map_some, Nat.reduceAdd, Nat.reduceSub, Nat.reduceBEq, Nat.reduceEqDiff, beq_self_eq_true, Bool.false_eq_true, if_true, if_false, ite_true, ite_false, take_app, take_app0, Bool.or_false, Bool.false_or, Bool.and_true, Bool.true_and, Bool.and_false, Bool.false_and, Bool.or_true, Bool.true_or, Bool.not_true, Bool.not_false, ite_self, List.set_set, forL, forK_nx, forK_ct, forK_bk, SZ, Nat.reduceLeDiff, Nat.zero_le, List.cons.injEq, reduceCtorEq, false_and, and_false, true_and, and_true, cut_1, atI_0, atI_1, atI_2, cmp_ii, cmpD_0, cmpD_1, cmpD_2, cmpD_3, eq_ii, ne_ii, eq_ss, ne_ss, eq_bb, decide_true, decide_false, m41_ok, m14_ok, m18_ok, t1, t2, m79, m10, max_ok, b1]
    exact ⟨_, rfl, _, _, _, by omega, Int.le_refl _, Int.le_refl _, rfl⟩
  have b12e : ∀ σ h, denB F bBox σ h = ((denS F (match bBox with | .cons s _ => s | .nil => .pass) σ h).thn (denB F (match bBox with | .cons _ b => b | .nil => .nil))) := fun σ h => by
    unfold bBox
    simp only [denB, sSeq]
  by_cases q : at_ < xs.length
  · obtain ⟨o, e, b⟩ := fin xs[at_]
    refine ⟨o, ?_, b⟩
    have c1 : decide ((at_ : Int) < (xs.length : Int)) = true := by simp [q]
    have ix : atI (xs.map D.int) (at_ : Int) = some (.int xs[at_]) := by
      unfold atI ixN
      rw [if_pos (by omega), if_pos (by rw [List.length_map]; omega)]
      show (xs.map D.int)[(at_ : Int).toNat]? = _
      rw [Int.toNat_natCast, List.getElem?_map, List.getElem?_eq_getElem q]; rfl
    have hd : denS F (match bBox with | .cons s _ => s | .nil => .pass) (startA 4 [.d (.scr (xs.map D.int)), .d (.int at_)]) h = .nx [some (.d (.scr (xs.map D.int))), some (.d (.int at_)), some (.d (.int xs[at_])), none] h := by
      unfold bBox
      simp only []
      simp only [retR_f, retR_t, retR_nx, startA, denB, denS, den, denT, denL, denP, denO, denC, denI, mVar, mCon_eq, mBin_eq, mUn_eq, mCl_eq, clR_d, clR_r, mFz_eq, fzR_d, fzR_end, fzW_d, fzW_end, mNil, mCons, fzL, tupR, lstR, mArg, clB_ok, mTru_eq, mTNot, mTAnd, mTOr, mTIf, mIf, mAnd, mOr, mNot, chK, mChn, bT, bTL, sNil, sSeq, sSet, sPar, sDrop, sRet, sRetN, sIf, sBk, sCt, sNo, of_ok, thn_nx, thn_rt, thn_bk, thn_ct, bind_ok, bind_no, op1_d, op2_d, opL, valsW, val_d, val_end, tru, tru_d, D.tru, binF, cmpF, biF, mtF, mMt, isTy, tyN, isiR, isN, oAdd, oSub, oMul, oDiv, oMod, oPow, oNeg, oIx, oIn, oIs, mSl, mPart, mNoPart, opSl, oSl, Ob.val, bLen, bInt, bAbs, bSum, bList, bTup, mItE, itW, itOf, mItA, rng1, rng2, zipR, List.map_cons, List.map_nil, List.replicate, List.length_cons, List.length_nil, List.cons_append, List.nil_append, List.getElem?_cons_zero, List.getElem?_cons_succ, List.set_cons_zero, List.set_cons_succ, Option.bind_some, Option.map_some, Nat.reduceAdd, Nat.reduceSub, Nat.reduceBEq, Nat.reduceEqDiff, beq_self_eq_true, Bool.false_eq_true, if_true, if_false, ite_true, ite_false, take_app, take_app0, Bool.or_false, Bool.false_or, Bool.and_true, Bool.true_and, Bool.and_false, Bool.false_and, Bool.or_true, Bool.true_or, Bool.not_true, Bool.not_false, ite_self, List.set_set, forL, forK_nx, forK_ct, forK_bk, SZ, Nat.reduceLeDiff, Nat.zero_le, List.cons.injEq, reduceCtorEq, false_and, and_false, true_and, and_true, cut_1, atI_0, atI_1, atI_2, cmp_ii, cmpD_0, cmpD_1, cmpD_2, cmpD_3, eq_ii, ne_ii, eq_ss, ne_ss, eq_bb, decide_true, decide_false, List.length_map, c1, ix]
    rw [b12e, hd, thn_nx, e]
    rfl
  · obtain ⟨o, e, b⟩ := fin (61 * at_ + (xs.take 2).sum)
    refine ⟨o, ?_, b⟩
    have c1 : decide ((at_ : Int) < (xs.length : Int)) = false := by simp; omega
    have hd : denS F (match bBox with | .cons s _ => s | .nil => .pass) (startA 4 [.d (.scr (xs.map D.int)), .d (.int at_)]) h = .nx [some (.d (.scr (xs.map D.int))), some (.d (.int at_)), some (.d (.int (61 * at_ + (xs.take 2).sum))), none] h := by
      unfold bBox
      simp only []
      have ct : cutG (xs.map D.int) none (some 2) = (xs.take 2).map D.int := by rw [show (2 : Int) = ((2 : Nat) : Int) from rfl, cut_0, List.map_take]
      simp only [retR_f, retR_t, retR_nx, startA, denB, denS, den, denT, denL, denP, denO, denC, denI, mVar, mCon_eq, mBin_eq, mUn_eq, mCl_eq, clR_d, clR_r, mFz_eq, fzR_d, fzR_end, fzW_d, fzW_end, mNil, mCons, fzL, tupR, lstR, mArg, clB_ok, mTru_eq, mTNot, mTAnd, mTOr, mTIf, mIf, mAnd, mOr, mNot, chK, mChn, bT, bTL, sNil, sSeq, sSet, sPar, sDrop, sRet, sRetN, sIf, sBk, sCt, sNo, of_ok, thn_nx, thn_rt, thn_bk, thn_ct, bind_ok, bind_no, op1_d, op2_d, opL, valsW, val_d, val_end, tru, tru_d, D.tru, binF, cmpF, biF, mtF, mMt, isTy, tyN, isiR, isN, oAdd, oSub, oDiv, oMod, oPow, oNeg, oIx, oIn, oIs, mSl, mPart, mNoPart, opSl, oSl, Ob.val, bLen, bInt, bAbs, bList, bTup, mItE, itW, itOf, mItA, rng1, rng2, zipR, List.map_cons, List.map_nil, List.replicate, List.length_cons, List.length_nil, List.cons_append, List.nil_append, List.getElem?_cons_zero, List.getElem?_cons_succ, List.set_cons_zero, List.set_cons_succ, Option.bind_some, Option.map_some, Nat.reduceAdd, Nat.reduceSub, Nat.reduceBEq, Nat.reduceEqDiff, beq_self_eq_true, Bool.false_eq_true, if_true, if_false, ite_true, ite_false, take_app, take_app0, Bool.or_false, Bool.false_or, Bool.and_true, Bool.true_and, Bool.and_false, Bool.false_and, Bool.or_true, Bool.true_or, Bool.not_true, Bool.not_false, ite_self, List.set_set, forL, forK_nx, forK_ct, forK_bk, SZ, Nat.reduceLeDiff, Nat.zero_le, List.cons.injEq, reduceCtorEq, false_and, and_false, true_and, and_true, cut_1, atI_0, atI_1, atI_2, cmp_ii, cmpD_0, cmpD_1, cmpD_2, cmpD_3, eq_ii, ne_ii, eq_ss, ne_ss, eq_bb, decide_true, decide_false, List.length_map, c1, m61, ct, bSum_scr]
    rw [b12e, hd, thn_nx, e]
    rfl
end Pe

set_option linter.all false
set_option maxRecDepth 100000
set_option maxHeartbeats 0
namespace Pe
open PySem PySem.Spec PyProof.Rows L2
theorem seq_nx {a b : MS} {σ σ2 : Sl} {h h2 : Hh} (e : a σ h = .nx σ2 h2) : sSeq a b σ h = b σ2 h2 := by
  unfold sSeq
  rw [e]
  rfl
theorem seq_rt {a b : MS} {σ : Sl} {w : W} {h h2 : Hh} (e : a σ h = .rt w h2) : sSeq a b σ h = .rt w h2 := by
  unfold sSeq
  rw [e]
  rfl
theorem rng1_of {ml : ML} {σ : Sl} {h h1 : Hh} {ws : List W} {j : Int} (e : ml σ h = .ok ws h1) (ew : ws = [.d (.int j)]) (h1' : j < 4611686018427387904) (h2 : -4611686018427387904 ≤ j) : mItA rng1 ml σ h = .ok (itN 0 j.toNat) h1 := by
  unfold mItA
  rw [e, ew]
  show rng1 [.d (.int j)] h1 = _
  unfold rng1
  exact if_pos ⟨h1', h2⟩
/-- what is drawn of a list that stands there -/
theorem draw_nx {F F' : FT} {iO iN j N : Nat} {σ : Sl} {o : Ob} {e : E} {xs : List D} (hO : ∀ x h, F iO [.r 0, x] h = retR false h.length (denB F' (bOne iN) [some (.r 0), some x] h))
    (fN : ∀ w x h, F' iN [w, x] h = retR false h.length (denB F' bNext [some w, some x, none, none, none] h) ∨ ∃ F2, F' iN [w, x] h = retR false h.length (denB F2 bNext [some w, some x, none, none, none] h))
    (hb : Bo N o) (hN : N ≤ 1000000) (h0 : σ[0]? = some (some (.r 0))) (he : den F e σ [o] = .ok (.d (.lst xs)) [o]) (x0 : 0 < xs.length) (x1 : xs.length < 1000) (hj : j < σ.length) :
    ∃ x o', denS F (.set (.v j) (.call iO 2 (.cons (.var 0) (.cons e .nil)))) σ [o] = .nx (σ.set j (some (.d x))) [o'] ∧ Bo (N + 1) o' ∧ x ∈ xs := by
  obtain ⟨x, o', e1, b1, m⟩ := one_of_ok (F := F') (n := 0) (h := [o]) fN ⟨o, hb, rfl⟩ hN x0 x1
  refine ⟨x, o', ?_, b1, m⟩
  have e2 := (hO (.d (.lst xs)) [o]).trans e1
  simp only [retR_f, retR_t, retR_nx, startA, denB, denS, den, denT, denL, denP, denO, denC, denI, mVar, mCon_eq, mBin_eq, mUn_eq, mCl_eq, clR_d, clR_r, mFz_eq, fzR_d, fzR_end, fzW_d, fzW_end, mNil, mCons, fzL, tupR, lstR, mArg, clB_ok, mTru_eq, mTNot, mTAnd, mTOr, mTIf, mIf, mAnd, mOr, mNot, chK, mChn, bT, bTL, sNil, sSeq, sSet, sPar, sDrop, sRet, sRetN, sIf, sBk, sCt, sNo, of_ok, thn_nx, thn_rt, thn_bk, thn_ct, bind_ok, bind_no, op1_d, op2_d, opL, valsW, val_d, val_end, tru, tru_d, D.tru, binF, cmpF, biF, mtF, mMt, isTy, tyN, isiR, isN, oAdd, oSub, oMul, oDiv, oMod, oPow, oNeg, oIx, oIn, oIs, mSl, mPart, mNoPart, opSl, oSl, Ob.val, bLen, bInt, bAbs, bSum, bList, bTup, mItE, itW, itOf, mItA, rng1, rng2, zipR, List.map_cons, List.map_nil, List.replicate, List.length_cons, List.length_nil, List.cons_append, List.nil_append, List.getElem?_cons_zero, List.getElem?_cons_succ, List.set_cons_zero, List.set_cons_succ, Option.bind_some, Option.map_some, Nat.reduceAdd, Nat.reduceSub, Nat.reduceBEq, Nat.reduceEqDiff, beq_self_eq_true, Bool.false_eq_true, if_true, if_false, ite_true, ite_false, take_app, take_app0, Bool.or_false, Bool.false_or, Bool.and_true, Bool.true_and, Bool.and_false, Bool.false_and, Bool.or_true, Bool.true_or, Bool.not_true, Bool.not_false, ite_self, List.set_set, forL, forK_nx, forK_ct, forK_bk, SZ, Nat.reduceLeDiff, Nat.zero_le, List.cons.injEq, reduceCtorEq, false_and, and_false, true_and, and_true, cut_1, atI_0, atI_1, atI_2, cmp_ii, cmpD_0, cmpD_1, cmpD_2, cmpD_3, eq_ii, ne_ii, eq_ss, ne_ss, eq_bb, decide_true, decide_false, h0, he, e2]
  rfl
theorem ite_nx {σ : Sl} {h : Hh} {a b : MS} {t : MT} (e : t σ h = .ok false h) : sIf t a b σ h = b σ h := by
  unfold sIf
  rw [e]
  rfl
theorem rng_few (M : Nat) (xs : List Int) (hM : 1 ≤ M) : ∃ n : Nat, n ≤ M ∧ max 1 (min (M : Int) (xs.length : Int)) = n := ⟨(max 1 (min (M : Int) (xs.length : Int))).toNat, by omega, by omega⟩
def tLoop (M iR iB j : Nat) : T := .for_ (.r1 (.bi 3 (.cons (.con (.int 1)) (.cons (.bi 4 (.cons (.con (.int M)) (.cons (.bi 0 (.cons (.var 0) .nil)) .nil))) .nil)))) (.v j) (.cons (.ite (.not (.call iR 1 (.cons (.call iB 2 (.cons (.var 0) (.cons (.var j) .nil))) .nil))) (.cons (.ret (.con (.bl false))) .nil) .nil) .nil)
/-- for at in range(max(1, min(M, len(script)))): if not right(box(script, at)): return False -/
theorem law_loop {F F' : FT} {M iR iB j : Nat} {xs : List Int} {σ : Sl} (hx : xs.length ≤ 63) (hM1 : 1 ≤ M) (hM : M ≤ 60) (h0 : σ[0]? = some (some (.d (.scr (xs.map D.int))))) (hj : j < σ.length) (j0 : j ≠ 0) (fB : ∀ w x h, F iB [w, x] h = retR true h.length (denB F' bBox (startA 4 [w, x]) h))
    (fR : ∀ o, Bo 0 o → ∃ h2, F iR [.r 0] [o] = .ok (.d (.bl true)) h2) : ∃ y, denS F (tLoop M iR iB j) σ [] = .nx (σ.set j y) [] := by
  obtain ⟨n, hn, en⟩ := rng_few M xs hM1
  have e0 : denS F (tLoop M iR iB j) = sFor (mItA rng1 (denL F (.cons (.bi 3 (.cons (.con (.int 1)) (.cons (.bi 4 (.cons (.con (.int M)) (.cons (.bi 0 (.cons (.var 0) .nil)) .nil))) .nil))) .nil))) (.v j) (denB F (match tLoop M iR iB j with | .for_ _ _ b => b | _ => .nil)) := by
    unfold tLoop
    rfl
  have er : denL F (.cons (.bi 3 (.cons (.con (.int 1)) (.cons (.bi 4 (.cons (.con (.int M)) (.cons (.bi 0 (.cons (.var 0) .nil)) .nil))) .nil))) .nil) σ [] = .ok [.d (.int (n : Int))] [] := by
    simp only [retR_f, retR_t, retR_nx, startA, denB, denS, den, denT, denL, denP, denO, denC, denI, mVar, mCon_eq, mBin_eq, mUn_eq, mCl_eq, clR_d, clR_r, mFz_eq, fzR_d, fzR_end, fzW_d, fzW_end, mNil, mCons, fzL, tupR, lstR, mArg, clB_ok, mTru_eq, mTNot, mTAnd, mTOr, mTIf, mIf, mAnd, mOr, mNot, chK, mChn, bT, bTL, sNil, sSeq, sSet, sPar, sDrop, sRet, sRetN, sIf, sBk, sCt, sNo, of_ok, thn_nx, thn_rt, thn_bk, thn_ct, bind_ok, bind_no, op1_d, op2_d, opL, valsW, val_d, val_end, tru, tru_d, D.tru, binF, cmpF, biF, mtF, mMt, isTy, tyN, isiR, isN, oAdd, oSub, oMul, oDiv, oMod, oPow, oNeg, oIx, oIn, oIs, mSl, mPart, mNoPart, opSl, oSl, Ob.val, bLen, bInt, bAbs, bSum, bList, bTup, mItE, itW, itOf, mItA, rng1, rng2, zipR, List.map_cons, List.map_nil, List.replicate, List.length_cons, List.length_nil, List.cons_append, List.nil_append, List.getElem?_cons_zero, List.getElem?_cons_succ, List.set_cons_zero, List.set_cons_succ, Option.bind_some, Option.map_some, Nat.reduceAdd, Nat.reduceSub, Nat.reduceBEq, Nat.reduceEqDiff, beq_self_eq_true, Bool.false_eq_true, if_true, if_false, ite_true, ite_false, take_app, take_app0, Bool.or_false, Bool.false_or, Bool.and_true, Bool.true_and, Bool.and_false, Bool.false_and, Bool.or_true, Bool.true_or, Bool.not_true, Bool.not_false, ite_self, List.set_set, forL, forK_nx, forK_ct, forK_bk, SZ, Nat.reduceLeDiff, Nat.zero_le, List.cons.injEq, reduceCtorEq, false_and, and_false, true_and, and_true, cut_1, atI_0, atI_1, atI_2, cmp_ii, cmpD_0, cmpD_1, cmpD_2, cmpD_3, eq_ii, ne_ii, eq_ss, ne_ss, eq_bb, decide_true, decide_false, h0, List.length_map, min_ok, max_ok, en]
    rfl
  have q6 : (n : Int) ≤ 60 := by omega
  have e1 := rng1_of er rfl (Int.lt_of_le_of_lt q6 (by decide)) (Int.le_trans (by decide) (Int.natCast_nonneg n))
  rw [Int.toNat_natCast] at e1
  rw [e0, for_L e1 (itL_N 0 n) (by rw [List.length_map, List.length_range]; exact Nat.le_trans hn (Nat.le_trans hM (by decide)))]
  have ss : ∀ y : Option W, (σ.set j y)[0]? = σ[0]? := fun y => by rw [List.getElem?_set_ne j0]
  obtain ⟨σ2, h2, l1, ⟨y, rfl⟩, rfl, _⟩ := forL_inv (t := .v j) (b := denB F (match tLoop M iR iB j with | .for_ _ _ b => b | _ => .nil)) ((List.range n).map fun (i : Nat) => D.int (0 + (i : Int))) (fun ys σ1 h1 => (∃ y, σ1 = σ.set j y) ∧ h1 = [] ∧ ∀ y ∈ ys, ∃ i : Nat, i < 60 ∧ y = .int i) σ []
    ⟨⟨σ[j], by simp⟩, rfl, fun y hy => by
      obtain ⟨i, hi, rfl⟩ := List.mem_map.mp hy
      have := List.mem_range.mp hi
      exact ⟨i, by omega, by rw [Int.zero_add]⟩⟩ (by
    rintro x ys σ1 h' ⟨⟨y, rfl⟩, rfl, hy⟩
    obtain ⟨i, hi, rfl⟩ := hy x List.mem_cons_self
    obtain ⟨o, e, b⟩ := box_ok (F := F') xs i (by omega) [] (by omega)
    obtain ⟨h2, e2⟩ := fR o b
    have eb := (fB (.d (.scr (xs.map D.int))) (.d (.int i)) []).trans e
    have c0 : (σ.set j (some (W.d (.int i))))[0]? = some (some (.d (.scr (xs.map D.int)))) := by rw [List.getElem?_set_ne j0]; exact h0
    have c1 : (σ.set j (some (W.d (.int i))))[j]? = some (some (.d (.int i))) := List.getElem?_set_self hj
    refine ⟨σ.set j (some (.d (.int i))), σ.set j (some (.d (.int i))), [], ?_, ?_, ⟨_, rfl⟩, rfl, fun y hy' => hy y (List.mem_cons_of_mem _ hy')⟩
    · simp only [retR_f, retR_t, retR_nx, startA, denB, denS, den, denT, denL, denP, denO, denC, denI, mVar, mCon_eq, mBin_eq, mUn_eq, mCl_eq, clR_d, clR_r, mFz_eq, fzR_d, fzR_end, fzW_d, fzW_end, mNil, mCons, fzL, tupR, lstR, mArg, clB_ok, mTru_eq, mTNot, mTAnd, mTOr, mTIf, mIf, mAnd, mOr, mNot, chK, mChn, bT, bTL, sNil, sSeq, sSet, sPar, sDrop, sRet, sRetN, sIf, sBk, sCt, sNo, of_ok, thn_nx, thn_rt, thn_bk, thn_ct, bind_ok, bind_no, op1_d, op2_d, opL, valsW, val_d, val_end, tru, tru_d, D.tru, binF, cmpF, biF, mtF, mMt, isTy, tyN, isiR, isN, oAdd, oSub, oMul, oDiv, oMod, oPow, oNeg, oIx, oIn, oIs, mSl, mPart, mNoPart, opSl, oSl, Ob.val, bLen, bInt, bAbs, bSum, bList, bTup, mItE, itW, itOf, mItA, rng1, rng2, zipR, List.map_cons, List.map_nil, List.replicate, List.length_cons, List.length_nil, List.cons_append, List.nil_append, List.getElem?_cons_zero, List.getElem?_cons_succ, List.set_cons_zero, List.set_cons_succ, Option.bind_some, Option.map_some, Nat.reduceAdd, Nat.reduceSub, Nat.reduceBEq, Nat.reduceEqDiff, beq_self_eq_true, Bool.false_eq_true, if_true, if_false, ite_true, ite_false, take_app, take_app0, Bool.or_false, Bool.false_or, Bool.and_true, Bool.true_and, Bool.and_false, Bool.false_and, Bool.or_true, Bool.true_or, Bool.not_true, Bool.not_false, ite_self, List.set_set, forL, forK_nx, forK_ct, forK_bk, SZ, Nat.reduceLeDiff, Nat.zero_le, List.cons.injEq, reduceCtorEq, false_and, and_false, true_and, and_true, cut_1, atI_0, atI_1, atI_2, cmp_ii, cmpD_0, cmpD_1, cmpD_2, cmpD_3, eq_ii, ne_ii, eq_ss, ne_ss, eq_bb, decide_true, decide_false, List.length_set, hj]
    · unfold tLoop
      simp only []
      simp only [retR_f, retR_t, retR_nx, startA, denB, denS, den, denT, denL, denP, denO, denC, denI, mVar, mCon_eq, mBin_eq, mUn_eq, mCl_eq, clR_d, clR_r, mFz_eq, fzR_d, fzR_end, fzW_d, fzW_end, mNil, mCons, fzL, tupR, lstR, mArg, clB_ok, mTru_eq, mTNot, mTAnd, mTOr, mTIf, mIf, mAnd, mOr, mNot, chK, mChn, bT, bTL, sNil, sSeq, sSet, sPar, sDrop, sRet, sRetN, sIf, sBk, sCt, sNo, of_ok, thn_nx, thn_rt, thn_bk, thn_ct, bind_ok, bind_no, op1_d, op2_d, opL, valsW, val_d, val_end, tru, tru_d, D.tru, binF, cmpF, biF, mtF, mMt, isTy, tyN, isiR, isN, oAdd, oSub, oMul, oDiv, oMod, oPow, oNeg, oIx, oIn, oIs, mSl, mPart, mNoPart, opSl, oSl, Ob.val, bLen, bInt, bAbs, bSum, bList, bTup, mItE, itW, itOf, mItA, rng1, rng2, zipR, List.map_cons, List.map_nil, List.replicate, List.length_cons, List.length_nil, List.cons_append, List.nil_append, List.getElem?_cons_zero, List.getElem?_cons_succ, List.set_cons_zero, List.set_cons_succ, Option.bind_some, Option.map_some, Nat.reduceAdd, Nat.reduceSub, Nat.reduceBEq, Nat.reduceEqDiff, beq_self_eq_true, Bool.false_eq_true, if_true, if_false, ite_true, ite_false, take_app, take_app0, Bool.or_false, Bool.false_or, Bool.and_true, Bool.true_and, Bool.and_false, Bool.false_and, Bool.or_true, Bool.true_or, Bool.not_true, Bool.not_false, ite_self, List.set_set, forL, forK_nx, forK_ct, forK_bk, SZ, Nat.reduceLeDiff, Nat.zero_le, List.cons.injEq, reduceCtorEq, false_and, and_false, true_and, and_true, cut_1, atI_0, atI_1, atI_2, cmp_ii, cmpD_0, cmpD_1, cmpD_2, cmpD_3, eq_ii, ne_ii, eq_ss, ne_ss, eq_bb, decide_true, decide_false, c0, c1, eb, e2]
      rfl)
  exact ⟨y, l1⟩
end Pe

set_option linter.all false
set_option maxRecDepth 100000
set_option maxHeartbeats 0
namespace KL
open PySem PySem.Spec PyProof.Rows L2 Pe
/-! written forms, printed by gen.py -/
abbrev RW : PySem.W.OpenLaw := PySem.Challenge.rw_wishsure_k04_errors_of_terms
def tp (i : Nat) : Stmt := PySem.Challenge.pw_wishsure_k04_errors_of_terms.main.body.getD i (.Pass ⟨0, 0, 0, 0⟩)
def b0 : B := (.cons (.ret (.and (.isi 2 (.var 0)) (.one (.not (.isi 1 (.var 0)))))) .nil)
def d0 : Df := ⟨⟨("is_whole", none), "is_whole", "is_whole", defArgs (tp 11), defBody (tp 11), defScope (tp 11), [], []⟩, ["value"], ["value"], false, b0⟩
theorem bn0 : Bnd d0 := fun _ _ _ _ _ _ us hl => match us, hl with | [_], _ => rfl
def b1 : B := (.cons (.ite (.or (.not (.isi 3 (.var 0))) (.one (.not (.chn 2 2 (.con (.int 1)) (.bi 0 (.cons (.var 0) .nil)) (.glo (.int 4)))))) (.cons (.ret (.con (.bl false))) .nil) .nil) (.cons (.ret (.bi 6 (.cons (.fz (.lc (.e (.var 0)) (.v 1) .none (.cmp 6 (.var 1) (.glo (.str [97, 98, 99, 100, 101, 102, 103, 104, 105, 106, 107, 108, 109, 110, 111, 112, 113, 114, 115, 116, 117, 118, 119, 120, 121, 122]))) [("sign", 1)])) .nil))) .nil))
def d1 : Df := ⟨⟨("is_name", none), "is_name", "is_name", defArgs (tp 12), defBody (tp 12), defScope (tp 12), [], []⟩, ["value", "sign"], ["value"], false, b1⟩
theorem bn1 : Bnd d1 := fun _ _ _ _ _ _ us hl => match us, hl with | [_], _ => rfl
def b2 : B := (.cons (.ret (.and (.callp 0 1 (.cons (.var 0) .nil)) (.one (.chn 0 0 (.neg (.glo (.int 1000000000000000000000000000000000000000000000000000000000000))) (.var 0) (.glo (.int 1000000000000000000000000000000000000000000000000000000000000)))))) .nil)
def d2 : Df := ⟨⟨("is_number_value", none), "is_number_value", "is_number_value", defArgs (tp 13), defBody (tp 13), defScope (tp 13), [], []⟩, ["value"], ["value"], false, b2⟩
theorem bn2 : Bnd d2 := fun _ _ _ _ _ _ us hl => match us, hl with | [_], _ => rfl
def b3 : B := (.cons (.ret (.bi 6 (.cons (.fz (.lc (.zip (.var 0) (.fz (.sl (.var 0) (.some (.con (.int 1))) .none))) (.t (.cons (.v 1) (.cons (.v 2) .nil))) .none (.cmp 0 (.var 1) (.var 2)) [("one", 1), ("other", 2)])) .nil))) .nil)
def d3 : Df := ⟨⟨("is_ascending", none), "is_ascending", "is_ascending", defArgs (tp 14), defBody (tp 14), defScope (tp 14), [], []⟩, ["values", "one", "other"], ["values"], false, b3⟩
theorem bn3 : Bnd d3 := fun _ _ _ _ _ _ us hl => match us, hl with | [_], _ => rfl
def b4 : B := (.cons (.ite (.or (.not (.isi 4 (.var 0))) (.one (.cmp 1 (.bi 0 (.cons (.var 0) .nil)) (.glo (.int 200))))) (.cons (.ret (.con (.bl false))) .nil) .nil) (.cons (.ret (.and (.bi 6 (.cons (.fz (.lc (.e (.var 0)) (.v 1) .none (.callp 2 1 (.cons (.var 1) .nil)) [("member", 1)])) .nil)) (.one (.callp 3 1 (.cons (.var 0) .nil))))) .nil))
def d4 : Df := ⟨⟨("is_set_value", none), "is_set_value", "is_set_value", defArgs (tp 15), defBody (tp 15), defScope (tp 15), [], []⟩, ["value", "member"], ["value"], false, b4⟩
theorem bn4 : Bnd d4 := fun _ _ _ _ _ _ us hl => match us, hl with | [_], _ => rfl
def b5 : B := (.cons (.ite (.or (.not (.isi 4 (.var 0))) (.or (.cmp 4 (.var 0) (.tup .nil)) (.one (.not (.isi 3 (.ix (.var 0) (.con (.int 0)))))))) (.cons (.ret (.con (.int 0))) .nil) .nil) (.cons (.ite (.cmp 4 (.ix (.var 0) (.con (.int 0))) (.con (.str [110, 111, 110, 101]))) (.cons (.ret (.bi 1 (.cons (.cmp 4 (.bi 0 (.cons (.var 0) .nil)) (.con (.int 1))) .nil))) .nil) .nil) (.cons (.ite (.cmp 4 (.ix (.var 0) (.con (.int 0))) (.con (.str [115, 101, 116]))) (.cons (.ret (.bi 1 (.cons (.and (.cmp 4 (.bi 0 (.cons (.var 0) .nil)) (.con (.int 2))) (.one (.callp 1 1 (.cons (.ix (.var 0) (.con (.int 1))) .nil)))) .nil))) .nil) .nil) (.cons (.ite (.or (.cmp 7 (.ix (.var 0) (.con (.int 0))) (.tup (.cons (.con (.str [99, 111, 109, 109, 111, 110])) (.cons (.con (.str [106, 111, 105, 110, 116])) (.cons (.con (.str [108, 101, 115, 115])) .nil))))) (.one (.cmp 5 (.bi 0 (.cons (.var 0) .nil)) (.con (.int 3))))) (.cons (.ret (.con (.int 0))) .nil) .nil) (.cons (.set (.v 1) (.fz (.lst (.cons (.callp 5 1 (.cons (.ix (.var 0) (.con (.int 1))) .nil)) (.cons (.callp 5 1 (.cons (.ix (.var 0) (.con (.int 2))) .nil)) .nil))))) (.cons (.ret (.ife (.cmp 6 (.con (.int 0)) (.var 1)) (.con (.int 0)) (.fz (.bin 0 (.con (.int 1)) (.bi 3 (.cons (.var 1) .nil)))))) .nil))))))
def d5 : Df := ⟨⟨("set_depth", none), "set_depth", "set_depth", defArgs (tp 16), defBody (tp 16), defScope (tp 16), [], []⟩, ["value", "depths"], ["value"], false, b5⟩
theorem bn5 : Bnd d5 := fun _ _ _ _ _ _ us hl => match us, hl with | [_], _ => rfl
def b6 : B := (.cons (.ret (.chn 2 2 (.con (.int 1)) (.callp 5 1 (.cons (.var 0) .nil)) (.glo (.int 4)))) .nil)
def d6 : Df := ⟨⟨("is_set_term", none), "is_set_term", "is_set_term", defArgs (tp 17), defBody (tp 17), defScope (tp 17), [], []⟩, ["value"], ["value"], false, b6⟩
theorem bn6 : Bnd d6 := fun _ _ _ _ _ _ us hl => match us, hl with | [_], _ => rfl
def b7 : B := (.cons (.ite (.cmp 4 (.ix (.var 0) (.con (.int 0))) (.con (.str [115, 101, 116]))) (.cons (.ret (.fz (.lst (.cons (.ix (.var 0) (.con (.int 1))) .nil)))) .nil) .nil) (.cons (.set (.v 1) (.lst .nil)) (.cons (.for_ (.e (.fz (.sl (.var 0) (.some (.con (.int 1))) .none))) (.v 2) (.cons (.drop (.mt 1 (.var 1) (.cons (.call 7 1 (.cons (.var 2) .nil)) .nil))) .nil)) (.cons (.ret (.var 1)) .nil))))
def d7 : Df := ⟨⟨("set_names_in", none), "set_names_in", "set_names_in", defArgs (tp 18), defBody (tp 18), defScope (tp 18), [], []⟩, ["set_term", "found", "part"], ["set_term"], false, b7⟩
theorem bn7 : Bnd d7 := fun _ _ _ _ _ _ us hl => match us, hl with | [_], _ => rfl
def b8 : B := (.cons (.set (.v 2) (.ix (.var 0) (.con (.int 0)))) (.cons (.ite (.cmp 4 (.var 2) (.con (.str [110, 111, 110, 101]))) (.cons (.ret (.fz (.lst .nil))) .nil) .nil) (.cons (.ite (.cmp 4 (.var 2) (.con (.str [115, 101, 116]))) (.cons (.ret (.fz (.bi 8 (.cons (.ix (.var 1) (.ix (.var 0) (.con (.int 1)))) .nil)))) .nil) .nil) (.cons (.set (.t (.cons (.v 3) (.cons (.v 4) .nil))) (.tup (.cons (.call 8 2 (.cons (.ix (.var 0) (.con (.int 1))) (.cons (.var 1) .nil))) (.cons (.call 8 2 (.cons (.ix (.var 0) (.con (.int 2))) (.cons (.var 1) .nil))) .nil)))) (.cons (.ite (.cmp 4 (.var 2) (.con (.str [106, 111, 105, 110, 116]))) (.cons (.ret (.fz (.sset (.fz (.bin 0 (.var 3) (.var 4)))))) .nil) .nil) (.cons (.ret (.fz (.lc (.e (.var 3)) (.v 5) (.some (.cmp 4 (.cmp 6 (.var 5) (.var 4)) (.cmp 4 (.var 2) (.con (.str [99, 111, 109, 109, 111, 110]))))) (.var 5) [("member", 5)]))) .nil))))))
def d8 : Df := ⟨⟨("members_in", none), "members_in", "members_in", defArgs (tp 19), defBody (tp 19), defScope (tp 19), [], []⟩, ["set_term", "values", "word", "one", "other", "member"], ["set_term", "values"], false, b8⟩
theorem bn8 : Bnd d8 := fun _ _ _ _ _ _ us hl => match us, hl with | [_, _], _ => rfl
def b9 : B := (.cons (.ite (.or (.not (.isi 6 (.var 1))) (.one (.not (.bi 6 (.cons (.fz (.lc (.e (.var 0)) (.v 2) .none (.callp 4 1 (.cons (.mt 2 (.var 1) (.cons (.var 2) .nil)) .nil)) [("name", 2)])) .nil))))) (.cons (.raise0 0) .nil) .nil) .nil)
def d9 : Df := ⟨⟨("require_sets", none), "require_sets", "require_sets", defArgs (tp 20), defBody (tp 20), defScope (tp 20), [], []⟩, ["names", "values", "name"], ["names", "values"], false, b9⟩
theorem bn9 : Bnd d9 := fun _ _ _ _ _ _ us hl => match us, hl with | [_, _], _ => rfl
def b10 : B := (.cons (.ite (.not (.callp 6 1 (.cons (.var 0) .nil))) (.cons (.raise0 1) .nil) .nil) (.cons (.drop (.callp 9 2 (.cons (.call 7 1 (.cons (.var 0) .nil)) (.cons (.var 1) .nil)))) (.cons (.ret (.bi 9 (.cons (.call 8 2 (.cons (.var 0) (.cons (.var 1) .nil))) .nil))) .nil)))
def d10 : Df := ⟨⟨("worth_of_set", none), "worth_of_set", "worth_of_set", defArgs (tp 21), defBody (tp 21), defScope (tp 21), [], []⟩, ["set_term", "values"], ["set_term", "values"], false, b10⟩
theorem bn10 : Bnd d10 := fun _ _ _ _ _ _ us hl => match us, hl with | [_, _], _ => rfl
def b11 : B := (.cons (.ret (.bi 0 (.cons (.call 10 2 (.cons (.var 0) (.cons (.var 1) .nil))) .nil))) .nil)
def d11 : Df := ⟨⟨("size_of", none), "size_of", "size_of", defArgs (tp 22), defBody (tp 22), defScope (tp 22), [], []⟩, ["set_term", "values"], ["set_term", "values"], false, b11⟩
theorem bn11 : Bnd d11 := fun _ _ _ _ _ _ us hl => match us, hl with | [_, _], _ => rfl
def b12 : B := (.cons (.ite (.not (.isi 4 (.var 0))) (.cons (.ret (.con (.bl false))) .nil) .nil) (.cons (.for_ (.e (.var 0)) (.v 2) (.cons (.ite (.or (.not (.isi 4 (.var 2))) (.or (.cmp 5 (.bi 0 (.cons (.var 2) .nil)) (.con (.int 2))) (.one (.not (.lcall [27, 1, 6, 11, 24, 25, 28, 31, 10] (.var 1) (.cons (.ix (.var 2) (.con (.int 0))) .nil)))))) (.cons (.ret (.con (.bl false))) .nil) .nil) (.cons (.ite (.or (.not (.callp 0 1 (.cons (.ix (.var 2) (.con (.int 1))) .nil))) (.one (.cmp 4 (.ix (.var 2) (.con (.int 1))) (.con (.int 0))))) (.cons (.ret (.con (.bl false))) .nil) .nil) .nil))) (.cons (.ret (.callp 3 1 (.cons (.fz (.lc (.e (.var 0)) (.t (.cons (.v 3) (.cons (.v 4) .nil))) .none (.var 3) [("factor", 4), ("key", 3)])) .nil))) .nil)))
def d12 : Df := ⟨⟨("are_shares", none), "are_shares", "are_shares", defArgs (tp 23), defBody (tp 23), defScope (tp 23), [], []⟩, ["value", "is_key", "pair", "key", "factor"], ["value", "is_key"], false, b12⟩
theorem bn12 : Bnd d12 := fun _ _ _ _ _ _ us hl => match us, hl with | [_, _], _ => rfl
def b13 : B := (.cons (.ite (.or (.not (.isi 4 (.var 0))) (.or (.cmp 5 (.bi 0 (.cons (.var 0) .nil)) (.con (.int 3))) (.one (.not (.callp 0 1 (.cons (.ix (.var 0) (.con (.int 0))) .nil)))))) (.cons (.ret (.con (.bl false))) .nil) .nil) (.cons (.ret (.and (.callp 12 2 (.cons (.ix (.var 0) (.con (.int 1))) (.cons (.fnv 1) .nil))) (.one (.callp 12 2 (.cons (.ix (.var 0) (.con (.int 2))) (.cons (.fnv 6) .nil)))))) .nil))
def d13 : Df := ⟨⟨("is_term", none), "is_term", "is_term", defArgs (tp 24), defBody (tp 24), defScope (tp 24), [], []⟩, ["value"], ["value"], false, b13⟩
theorem bn13 : Bnd d13 := fun _ _ _ _ _ _ us hl => match us, hl with | [_], _ => rfl
def b14 : B := (.cons (.ite (.not (.callp 13 1 (.cons (.var 0) .nil))) (.cons (.raise0 1) .nil) .nil) .nil)
def d14 : Df := ⟨⟨("require_term", none), "require_term", "require_term", defArgs (tp 25), defBody (tp 25), defScope (tp 25), [], []⟩, ["value"], ["value"], false, b14⟩
theorem bn14 : Bnd d14 := fun _ _ _ _ _ _ us hl => match us, hl with | [_], _ => rfl
def b15 : B := (.cons (.set (.v 2) (.bi 11 (.cons (.var 0) .nil))) (.cons (.for_ (.e (.var 1)) (.t (.cons (.v 3) (.cons (.v 4) .nil))) (.cons (.put (.var 2) (.var 3) (.fz (.bin 0 (.mt 2 (.var 2) (.cons (.var 3) (.cons (.con (.int 0)) .nil))) (.var 4)))) .nil)) (.cons (.ret (.bi 9 (.cons (.fz (.lc (.e (.fz (.bi 10 (.cons (.var 2) .nil)))) (.v 3) (.some (.cmp 5 (.ix (.var 2) (.var 3)) (.con (.int 0)))) (.tup (.cons (.var 3) (.cons (.ix (.var 2) (.var 3)) .nil))) [("key", 3)])) .nil))) .nil)))
def d15 : Df := ⟨⟨("merged", none), "merged", "merged", defArgs (tp 26), defBody (tp 26), defScope (tp 26), [], []⟩, ["one", "other", "found", "key", "factor"], ["one", "other"], false, b15⟩
theorem bn15 : Bnd d15 := fun _ _ _ _ _ _ us hl => match us, hl with | [_, _], _ => rfl
def b16 : B := (.cons (.ret (.tup (.cons (.fz (.bin 0 (.ix (.var 0) (.con (.int 0))) (.ix (.var 1) (.con (.int 0))))) (.cons (.call 15 2 (.cons (.ix (.var 0) (.con (.int 1))) (.cons (.ix (.var 1) (.con (.int 1))) .nil))) (.cons (.call 15 2 (.cons (.ix (.var 0) (.con (.int 2))) (.cons (.ix (.var 1) (.con (.int 2))) .nil))) .nil))))) .nil)
def d16 : Df := ⟨⟨("plus_of", none), "plus_of", "plus_of", defArgs (tp 27), defBody (tp 27), defScope (tp 27), [], []⟩, ["term", "other"], ["term", "other"], false, b16⟩
theorem bn16 : Bnd d16 := fun _ _ _ _ _ _ us hl => match us, hl with | [_, _], _ => rfl
def b17 : B := (.cons (.ite (.cmp 4 (.var 1) (.con (.int 0))) (.cons (.ret (.tup (.cons (.con (.int 0)) (.cons (.tup .nil) (.cons (.tup .nil) .nil))))) .nil) .nil) (.cons (.set (.t (.cons (.v 3) (.cons (.v 2) (.cons (.v 4) .nil)))) (.var 0)) (.cons (.set (.v 2) (.bi 9 (.cons (.fz (.lc (.e (.var 2)) (.t (.cons (.v 5) (.cons (.v 6) .nil))) .none (.tup (.cons (.var 5) (.cons (.fz (.bin 2 (.var 6) (.var 1))) .nil))) [("name", 5), ("share", 6)])) .nil))) (.cons (.ret (.tup (.cons (.fz (.bin 2 (.var 3) (.var 1))) (.cons (.var 2) (.cons (.bi 9 (.cons (.fz (.lc (.e (.var 4)) (.t (.cons (.v 7) (.cons (.v 6) .nil))) .none (.tup (.cons (.var 7) (.cons (.fz (.bin 2 (.var 6) (.var 1))) .nil))) [("key", 7), ("share", 6)])) .nil)) .nil))))) .nil))))
def d17 : Df := ⟨⟨("times_of", none), "times_of", "times_of", defArgs (tp 28), defBody (tp 28), defScope (tp 28), [], []⟩, ["term", "factor", "parts", "number", "sizes", "name", "share", "key"], ["term", "factor"], false, b17⟩
theorem bn17 : Bnd d17 := fun _ _ _ _ _ _ us hl => match us, hl with | [_, _], _ => rfl
def b18 : B := (.cons (.ret (.mt 2 (.bi 11 (.cons (.ix (.var 0) (.con (.int 1))) .nil)) (.cons (.var 1) (.cons (.con (.int 0)) .nil)))) .nil)
def d18 : Df := ⟨⟨("share_in", none), "share_in", "share_in", defArgs (tp 29), defBody (tp 29), defScope (tp 29), [], []⟩, ["term", "name"], ["term", "name"], false, b18⟩
theorem bn18 : Bnd d18 := fun _ _ _ _ _ _ us hl => match us, hl with | [_, _], _ => rfl
def b19 : B := (.cons (.ret (.tup (.cons (.ix (.var 0) (.con (.int 0))) (.cons (.bi 9 (.cons (.fz (.lc (.e (.ix (.var 0) (.con (.int 1)))) (.v 2) (.some (.cmp 5 (.ix (.var 2) (.con (.int 0))) (.var 1))) (.var 2) [("pair", 2)])) .nil)) (.cons (.ix (.var 0) (.con (.int 2))) .nil))))) .nil)
def d19 : Df := ⟨⟨("left_in", none), "left_in", "left_in", defArgs (tp 30), defBody (tp 30), defScope (tp 30), [], []⟩, ["term", "name", "pair"], ["term", "name"], false, b19⟩
theorem bn19 : Bnd d19 := fun _ _ _ _ _ _ us hl => match us, hl with | [_, _], _ => rfl
def b20 : B := (.cons (.ret (.call 16 2 (.cons (.call 17 2 (.cons (.call 19 2 (.cons (.var 0) (.cons (.var 1) .nil))) (.cons (.var 3) .nil))) (.cons (.call 17 2 (.cons (.var 2) (.cons (.call 18 2 (.cons (.var 0) (.cons (.var 1) .nil))) .nil))) .nil)))) .nil)
def d20 : Df := ⟨⟨("put_of", none), "put_of", "put_of", defArgs (tp 31), defBody (tp 31), defScope (tp 31), [], []⟩, ["term", "name", "other", "number"], ["term", "name", "other", "number"], false, b20⟩
theorem bn20 : Bnd d20 := fun _ _ _ _ _ _ us hl => match us, hl with | [_, _, _, _], _ => rfl
def b21 : B := (.cons (.set (.t (.cons (.v 3) (.cons (.v 4) (.cons (.v 5) .nil)))) (.var 0)) (.cons (.set (.v 2) (.fz (.bin 0 (.var 3) (.bi 5 (.cons (.fz (.lc (.e (.var 4)) (.t (.cons (.v 6) (.cons (.v 7) .nil))) .none (.fz (.bin 2 (.var 7) (.ix (.var 1) (.var 6)))) [("factor", 7), ("name", 6)])) .nil))))) (.cons (.ret (.fz (.bin 0 (.var 2) (.bi 5 (.cons (.fz (.lc (.e (.var 5)) (.t (.cons (.v 8) (.cons (.v 7) .nil))) .none (.fz (.bin 2 (.var 7) (.bi 0 (.cons (.call 8 2 (.cons (.var 8) (.cons (.var 1) .nil))) .nil)))) [("factor", 7), ("key", 8)])) .nil))))) .nil)))
def d21 : Df := ⟨⟨("worth_in", none), "worth_in", "worth_in", defArgs (tp 32), defBody (tp 32), defScope (tp 32), [], []⟩, ["term", "values", "found", "number", "parts", "sizes", "name", "factor", "key"], ["term", "values"], false, b21⟩
theorem bn21 : Bnd d21 := fun _ _ _ _ _ _ us hl => match us, hl with | [_, _], _ => rfl
def b22 : B := (.cons (.ret (.fz (.lc (.e (.ix (.var 0) (.con (.int 1)))) (.t (.cons (.v 1) (.cons (.v 2) .nil))) .none (.var 1) [("factor", 2), ("name", 1)]))) .nil)
def d22 : Df := ⟨⟨("numbers_in", none), "numbers_in", "numbers_in", defArgs (tp 33), defBody (tp 33), defScope (tp 33), [], []⟩, ["term", "name", "factor"], ["term"], false, b22⟩
theorem bn22 : Bnd d22 := fun _ _ _ _ _ _ us hl => match us, hl with | [_], _ => rfl
def b23 : B := (.cons (.set (.v 1) (.lst .nil)) (.cons (.for_ (.e (.ix (.var 0) (.con (.int 2)))) (.t (.cons (.v 2) (.cons (.v 3) .nil))) (.cons (.drop (.mt 1 (.var 1) (.cons (.call 7 1 (.cons (.var 2) .nil)) .nil))) .nil)) (.cons (.ret (.var 1)) .nil)))
def d23 : Df := ⟨⟨("sets_in", none), "sets_in", "sets_in", defArgs (tp 34), defBody (tp 34), defScope (tp 34), [], []⟩, ["term", "found", "key", "factor"], ["term"], false, b23⟩
theorem bn23 : Bnd d23 := fun _ _ _ _ _ _ us hl => match us, hl with | [_], _ => rfl
def b24 : B := (.cons (.drop (.callp 14 1 (.cons (.var 0) .nil))) (.cons (.drop (.callp 14 1 (.cons (.var 1) .nil))) (.cons (.ret (.call 16 2 (.cons (.var 0) (.cons (.var 1) .nil)))) .nil)))
def d24 : Df := ⟨⟨("term_sum", none), "term_sum", "term_sum", defArgs (tp 35), defBody (tp 35), defScope (tp 35), [], []⟩, ["term", "other"], ["term", "other"], false, b24⟩
theorem bn24 : Bnd d24 := fun _ _ _ _ _ _ us hl => match us, hl with | [_, _], _ => rfl
def b25 : B := (.cons (.drop (.callp 14 1 (.cons (.var 0) .nil))) (.cons (.ite (.not (.callp 0 1 (.cons (.var 1) .nil))) (.cons (.raise 2 (.var 1)) .nil) .nil) (.cons (.ret (.call 17 2 (.cons (.var 0) (.cons (.var 1) .nil)))) .nil)))
def d25 : Df := ⟨⟨("term_times", none), "term_times", "term_times", defArgs (tp 36), defBody (tp 36), defScope (tp 36), [], []⟩, ["term", "factor"], ["term", "factor"], false, b25⟩
theorem bn25 : Bnd d25 := fun _ _ _ _ _ _ us hl => match us, hl with | [_, _], _ => rfl
def b26 : B := (.cons (.ite (.not (.callp 1 1 (.cons (.var 0) .nil))) (.cons (.raise0 1) .nil) .nil) .nil)
def d26 : Df := ⟨⟨("require_name", none), "require_name", "require_name", defArgs (tp 37), defBody (tp 37), defScope (tp 37), [], []⟩, ["name"], ["name"], false, b26⟩
theorem bn26 : Bnd d26 := fun _ _ _ _ _ _ us hl => match us, hl with | [_], _ => rfl
def b27 : B := (.cons (.drop (.callp 14 1 (.cons (.var 0) .nil))) (.cons (.drop (.callp 26 1 (.cons (.var 1) .nil))) (.cons (.ret (.call 18 2 (.cons (.var 0) (.cons (.var 1) .nil)))) .nil)))
def d27 : Df := ⟨⟨("factor_of", none), "factor_of", "factor_of", defArgs (tp 38), defBody (tp 38), defScope (tp 38), [], []⟩, ["term", "name"], ["term", "name"], false, b27⟩
theorem bn27 : Bnd d27 := fun _ _ _ _ _ _ us hl => match us, hl with | [_, _], _ => rfl
def b28 : B := (.cons (.drop (.callp 14 1 (.cons (.var 0) .nil))) (.cons (.drop (.callp 26 1 (.cons (.var 1) .nil))) (.cons (.ret (.call 19 2 (.cons (.var 0) (.cons (.var 1) .nil)))) .nil)))
def d28 : Df := ⟨⟨("without_name", none), "without_name", "without_name", defArgs (tp 39), defBody (tp 39), defScope (tp 39), [], []⟩, ["term", "name"], ["term", "name"], false, b28⟩
theorem bn28 : Bnd d28 := fun _ _ _ _ _ _ us hl => match us, hl with | [_, _], _ => rfl
def b29 : B := (.cons (.drop (.callp 14 1 (.cons (.var 0) .nil))) (.cons (.drop (.callp 26 1 (.cons (.var 1) .nil))) (.cons (.ite (.or (.not (.callp 13 1 (.cons (.var 2) .nil))) (.one (.cmp 5 (.call 18 2 (.cons (.var 2) (.cons (.var 1) .nil))) (.con (.int 0))))) (.cons (.raise0 1) .nil) .nil) (.cons (.ite (.or (.not (.callp 0 1 (.cons (.var 3) .nil))) (.one (.cmp 0 (.var 3) (.con (.int 1))))) (.cons (.raise 2 (.var 3)) .nil) .nil) (.cons (.ret (.call 20 4 (.cons (.var 0) (.cons (.var 1) (.cons (.var 2) (.cons (.var 3) .nil)))))) .nil)))))
def d29 : Df := ⟨⟨("put_in", none), "put_in", "put_in", defArgs (tp 40), defBody (tp 40), defScope (tp 40), [], []⟩, ["term", "name", "other", "number"], ["term", "name", "other", "number"], false, b29⟩
theorem bn29 : Bnd d29 := fun _ _ _ _ _ _ us hl => match us, hl with | [_, _, _, _], _ => rfl
def b30 : B := (.cons (.drop (.callp 14 1 (.cons (.var 0) .nil))) (.cons (.ret (.tup (.cons (.bi 9 (.cons (.call 22 1 (.cons (.var 0) .nil)) .nil)) (.cons (.bi 9 (.cons (.fz (.sset (.call 23 1 (.cons (.var 0) .nil)))) .nil)) .nil)))) .nil))
def d30 : Df := ⟨⟨("term_names", none), "term_names", "term_names", defArgs (tp 41), defBody (tp 41), defScope (tp 41), [], []⟩, ["term"], ["term"], false, b30⟩
theorem bn30 : Bnd d30 := fun _ _ _ _ _ _ us hl => match us, hl with | [_], _ => rfl
def b31 : B := (.cons (.drop (.callp 14 1 (.cons (.var 0) .nil))) (.cons (.drop (.callp 9 2 (.cons (.call 23 1 (.cons (.var 0) .nil)) (.cons (.var 1) .nil)))) (.cons (.ite (.not (.bi 6 (.cons (.fz (.lc (.e (.call 22 1 (.cons (.var 0) .nil))) (.v 2) .none (.callp 2 1 (.cons (.mt 2 (.var 1) (.cons (.var 2) .nil)) .nil)) [("name", 2)])) .nil))) (.cons (.raise0 0) .nil) .nil) (.cons (.ret (.call 21 2 (.cons (.var 0) (.cons (.var 1) .nil)))) .nil))))
def d31 : Df := ⟨⟨("worth", none), "worth", "worth", defArgs (tp 42), defBody (tp 42), defScope (tp 42), [], []⟩, ["term", "values", "name"], ["term", "values"], false, b31⟩
theorem bn31 : Bnd d31 := fun _ _ _ _ _ _ us hl => match us, hl with | [_, _], _ => rfl
def b32 : B := (.cons (.set (.v 2) (.ife (.cmp 0 (.var 1) (.bi 0 (.cons (.var 0) .nil))) (.ix (.var 0) (.var 1)) (.fz (.bin 0 (.fz (.bin 2 (.con (.int 61)) (.var 1))) (.bi 5 (.cons (.fz (.sl (.var 0) .none (.some (.con (.int 2))))) .nil)))))) (.cons (.set (.v 3) (.bin 4 (.bi 1 (.cons (.bi 2 (.cons (.var 2) .nil)) .nil)) (.bin 5 (.bin 5 (.con (.int 10)) (.con (.int 41))) (.con (.int 14))))) (.cons (.ret (.lst (.cons (.bi 3 (.cons (.con (.int 0)) (.cons (.bin 1 (.var 3) (.bin 5 (.con (.int 10)) (.con (.int 18)))) .nil))) (.cons (.fz (.bin 0 (.fz (.bin 0 (.fz (.bin 2 (.bin 4 (.bi 1 (.cons (.var 3) .nil)) (.con (.int 2305843009213693669))) (.con (.int 7919)))) (.fz (.bin 2 (.con (.int 104729)) (.var 1))))) (.bi 1 (.cons (.cmp 0 (.var 2) (.con (.int 0))) .nil)))) (.cons (.con (.int 0)) .nil))))) .nil)))
def d32 : Df := ⟨⟨("_law_box", none), "_law_box", "_law_box", defArgs (tp 44), defBody (tp 44), defScope (tp 44), [], []⟩, ["script", "at", "cell", "great"], ["script", "at"], true, b32⟩
theorem bn32 : Bnd d32 := fun _ _ _ _ _ _ us hl => match us, hl with | [_, _], _ => rfl
def b33 : B := (.cons (.ite (.cmp 1 (.ix (.var 0) (.con (.int 0))) (.con (.int 0))) (.cons (.set (.v 4) (.bin 4 (.bi 1 (.cons (.ix (.var 0) (.con (.int 0))) .nil)) (.var 1))) (.cons (.put (.var 0) (.con (.int 0)) (.bin 3 (.ix (.var 0) (.con (.int 0))) (.var 1))) (.cons (.ret (.var 4)) .nil))) .nil) (.cons (.put (.var 0) (.con (.int 2)) (.fz (.bin 0 (.ix (.var 0) (.con (.int 2))) (.con (.int 1))))) (.cons (.set (.v 2) (.bin 4 (.bi 1 (.cons (.fz (.bin 0 (.ix (.var 0) (.con (.int 1))) (.fz (.bin 2 (.con (.int 15485863)) (.ix (.var 0) (.con (.int 2))))))) .nil)) (.con (.int 2305843009213693951)))) (.cons (.set (.v 3) (.fz (.bin 0 (.fz (.bin 2 (.bin 4 (.bi 1 (.cons (.fz (.bin 2 (.var 2) (.var 2))) .nil)) (.con (.int 2305843009213693921))) (.var 2))) (.fz (.bin 2 (.con (.int 32452843)) (.ix (.var 0) (.con (.int 2)))))))) (.cons (.ret (.bin 4 (.bi 1 (.cons (.bin 3 (.bin 4 (.bi 1 (.cons (.var 3) .nil)) (.con (.int 2305843009213693907))) (.con (.int 8192))) .nil)) (.var 1))) .nil)))))
def d33 : Df := ⟨⟨("_law_next", none), "_law_next", "_law_next", defArgs (tp 45), defBody (tp 45), defScope (tp 45), [], []⟩, ["box", "total", "one", "two", "found"], ["box", "total"], false, b33⟩
theorem bn33 : Bnd d33 := fun _ _ _ _ _ _ us hl => match us, hl with | [_, _], _ => rfl
def b34 : B := (.cons (.ret (.ix (.var 1) (.call 33 2 (.cons (.var 0) (.cons (.bi 0 (.cons (.var 1) .nil)) .nil))))) .nil)
def d34 : Df := ⟨⟨("_law_one_of", none), "_law_one_of", "_law_one_of", defArgs (tp 46), defBody (tp 46), defScope (tp 46), [], []⟩, ["box", "items"], ["box", "items"], false, b34⟩
theorem bn34 : Bnd d34 := fun _ _ _ _ _ _ us hl => match us, hl with | [_, _], _ => rfl
def b35 : B := (.cons (.ite (.cmp 4 (.var 0) (.con (.str [112, 117, 116]))) (.cons (.ret (.call 29 4 (.cons (.ix (.var 1) (.con (.int 0))) (.cons (.ix (.var 1) (.con (.int 1))) (.cons (.ix (.var 1) (.con (.int 2))) (.cons (.ix (.var 1) (.con (.int 3))) .nil)))))) .nil) .nil) (.cons (.ite (.cmp 4 (.var 0) (.con (.str [110, 97, 109, 101, 115]))) (.cons (.ret (.call 30 1 (.cons (.ix (.var 1) (.con (.int 0))) .nil))) .nil) .nil) (.cons (.set (.v 2) (.dct (.cons (.con (.str [115, 117, 109])) (.fnv 24) (.cons (.con (.str [116, 105, 109, 101, 115])) (.fnv 25) (.cons (.con (.str [102, 97, 99, 116, 111, 114])) (.fnv 27) (.cons (.con (.str [119, 105, 116, 104, 111, 117, 116])) (.fnv 28) (.cons (.con (.str [115, 105, 122, 101])) (.fnv 11) .nil))))))) (.cons (.putT (.cons (.var 2) (.con (.str [109, 101, 109, 98, 101, 114, 115])) (.cons (.var 2) (.con (.str [119, 111, 114, 116, 104])) .nil)) (.tup (.cons (.fnv 10) (.cons (.fnv 31) .nil)))) (.cons (.ret (.lcall [27, 1, 6, 11, 24, 25, 28, 31, 10] (.ix (.var 2) (.var 0)) (.cons (.ix (.var 1) (.con (.int 0))) (.cons (.ix (.var 1) (.con (.int 1))) .nil)))) .nil)))))
def d35 : Df := ⟨⟨("_law_done", none), "_law_done", "_law_done", defArgs (tp 47), defBody (tp 47), defScope (tp 47), [], []⟩, ["word", "some", "calls"], ["word", "some"], false, b35⟩
theorem bn35 : Bnd d35 := fun _ _ _ _ _ _ us hl => match us, hl with | [_, _], _ => rfl
def b36 : B := (.cons (.tryS 3 (.cons (.drop (.call 35 2 (.cons (.var 0) (.cons (.var 1) .nil)))) .nil) [([2], some 2, (.rep [110, 117, 109, 98, 101, 114, 32] 2 2 "given")), ([1], none, (.con (.str [116, 101, 114, 109]))), ([0], none, (.con (.str [118, 97, 108, 117, 101, 115])))]) (.cons (.ret (.con (.str [100, 111, 110, 101]))) .nil))
def d36 : Df := ⟨⟨("_law_met", none), "_law_met", "_law_met", defArgs (tp 48), defBody (tp 48), defScope (tp 48), [], []⟩, ["word", "some", "error"], ["word", "some"], false, b36⟩
theorem bn36 : Bnd d36 := fun _ _ _ _ _ _ us hl => match us, hl with | [_, _], _ => rfl
def b37 : B := (.cons (.ret (.cmp 4 (.fz (.lc (.e (.var 1)) (.v 3) (.some (.cmp 5 (.callp 36 2 (.cons (.var 0) (.cons (.var 3) .nil))) (.var 2))) (.var 3) [("some", 3)])) (.fz (.lst .nil)))) .nil)
def d37 : Df := ⟨⟨("_law_all_meet", none), "_law_all_meet", "_law_all_meet", defArgs (tp 49), defBody (tp 49), defScope (tp 49), [], []⟩, ["word", "lots", "due", "some"], ["word", "lots", "due"], false, b37⟩
theorem bn37 : Bnd d37 := fun _ _ _ _ _ _ us hl => match us, hl with | [_, _, _], _ => rfl
def b38 : B := (.cons (.set (.t (.cons (.v 9) (.cons (.v 10) .nil))) (.tup (.cons (.tup (.cons (.con (.int 3)) (.cons (.tup (.cons (.tup (.cons (.con (.str [97])) (.cons (.con (.int 2)) .nil))) (.cons (.tup (.cons (.con (.str [120])) (.cons (.neg (.con (.int 5))) .nil))) .nil))) (.cons (.tup (.cons (.tup (.cons (.tup (.cons (.con (.str [115, 101, 116])) (.cons (.con (.str [115])) .nil))) (.cons (.con (.int 1)) .nil))) .nil)) .nil)))) (.cons (.tup (.cons (.con (.str [106, 111, 105, 110, 116])) (.cons (.tup (.cons (.con (.str [115, 101, 116])) (.cons (.con (.str [115])) .nil))) (.cons (.tup (.cons (.con (.str [115, 101, 116])) (.cons (.con (.str [116])) .nil))) .nil)))) .nil)))) (.cons (.set (.v 1) (.call 34 2 (.cons (.var 0) (.cons (.fz (.lst (.cons (.con .non) (.cons (.tup .nil) (.cons (.con (.str [97])) (.cons (.con (.int 0)) (.cons (.tup (.cons (.con (.int 3)) (.cons (.tup (.cons (.tup (.cons (.con (.str [97])) (.cons (.con (.int 0)) .nil))) .nil)) (.cons (.tup .nil) .nil)))) (.cons (.tup (.cons (.con (.int 3)) (.cons (.tup (.cons (.tup (.cons (.con (.str [120])) (.cons (.con (.int 1)) .nil))) (.cons (.tup (.cons (.con (.str [97])) (.cons (.con (.int 1)) .nil))) .nil))) (.cons (.tup .nil) .nil)))) (.cons (.fz (.lst (.cons (.con (.int 3)) (.cons (.tup .nil) (.cons (.tup .nil) .nil))))) (.cons (.tup (.cons (.con (.bl true)) (.cons (.tup .nil) (.cons (.tup .nil) .nil)))) (.cons (.tup (.cons (.con (.int 3)) (.cons (.tup .nil) (.cons (.tup (.cons (.tup (.cons (.tup (.cons (.con (.str [115, 101, 116])) (.cons (.con (.str [83])) .nil))) (.cons (.con (.int 1)) .nil))) .nil)) .nil)))) .nil))))))))))) .nil)))) (.cons (.set (.v 2) (.call 34 2 (.cons (.var 0) (.cons (.fz (.lst (.cons (.con (.str [])) (.cons (.con (.str [97, 98, 99, 100, 101])) (.cons (.con (.str [65])) (.cons (.con .non) (.cons (.con (.int 0)) (.cons (.tup (.cons (.con (.str [97])) .nil)) (.cons (.con (.bl true)) .nil))))))))) .nil)))) (.cons (.set (.v 3) (.call 34 2 (.cons (.var 0) (.cons (.fz (.lst (.cons (.con .non) (.cons (.con (.bl true)) (.cons (.con (.str [49])) (.cons (.tup (.cons (.con (.int 1)) .nil)) (.cons (.fz (.lst .nil)) (.cons (.fz (.dct .nil)) (.cons (.fz (.bin 2 (.con (.str [120])) (.con (.int 40)))) .nil))))))))) .nil)))) (.cons (.ite (.or (.not (.callp 37 3 (.cons (.con (.str [115, 117, 109])) (.cons (.fz (.lst (.cons (.tup (.cons (.var 1) (.cons (.var 9) .nil))) (.cons (.tup (.cons (.var 9) (.cons (.var 1) .nil))) (.cons (.tup (.cons (.var 1) (.cons (.var 1) .nil))) .nil))))) (.cons (.con (.str [116, 101, 114, 109])) .nil))))) (.one (.not (.callp 37 3 (.cons (.con (.str [110, 97, 109, 101, 115])) (.cons (.fz (.lst (.cons (.tup (.cons (.var 1) .nil)) .nil))) (.cons (.con (.str [116, 101, 114, 109])) .nil))))))) (.cons (.ret (.con (.bl false))) .nil) .nil) (.cons (.ite (.or (.not (.callp 37 3 (.cons (.con (.str [116, 105, 109, 101, 115])) (.cons (.fz (.lst (.cons (.tup (.cons (.var 1) (.cons (.var 3) .nil))) (.cons (.tup (.cons (.var 1) (.cons (.con (.int 2)) .nil))) .nil)))) (.cons (.con (.str [116, 101, 114, 109])) .nil))))) (.one (.not (.callp 37 3 (.cons (.con (.str [116, 105, 109, 101, 115])) (.cons (.fz (.lst (.cons (.tup (.cons (.var 9) (.cons (.var 3) .nil))) .nil))) (.cons (.fz (.bin 0 (.con (.str [110, 117, 109, 98, 101, 114, 32])) (.bi 12 (.cons (.var 3) .nil)))) .nil))))))) (.cons (.ret (.con (.bl false))) .nil) .nil) (.cons (.for_ (.e (.tup (.cons (.con (.str [102, 97, 99, 116, 111, 114])) (.cons (.con (.str [119, 105, 116, 104, 111, 117, 116])) .nil)))) (.v 4) (.cons (.ite (.not (.callp 37 3 (.cons (.var 4) (.cons (.fz (.lst (.cons (.tup (.cons (.var 1) (.cons (.con (.str [97])) .nil))) (.cons (.tup (.cons (.var 9) (.cons (.var 2) .nil))) (.cons (.tup (.cons (.var 1) (.cons (.var 2) .nil))) .nil))))) (.cons (.con (.str [116, 101, 114, 109])) .nil))))) (.cons (.ret (.con (.bl false))) .nil) .nil) .nil)) (.cons (.set (.v 5) (.fz (.lst (.cons (.tup (.cons (.var 1) (.cons (.con (.str [120])) (.cons (.var 9) (.cons (.con (.int 1)) .nil))))) (.cons (.tup (.cons (.var 9) (.cons (.var 2) (.cons (.var 9) (.cons (.con (.int 0)) .nil))))) (.cons (.tup (.cons (.var 9) (.cons (.con (.str [120])) (.cons (.var 1) (.cons (.con (.int 0)) .nil))))) (.cons (.tup (.cons (.var 9) (.cons (.con (.str [120])) (.cons (.var 9) (.cons (.con (.int 1)) .nil))))) (.cons (.tup (.cons (.var 9) (.cons (.con (.str [97])) (.cons (.tup (.cons (.con (.int 0)) (.cons (.tup (.cons (.tup (.cons (.con (.str [97])) (.cons (.con (.int 1)) .nil))) .nil)) (.cons (.tup .nil) .nil)))) (.cons (.con (.int 0)) .nil))))) .nil)))))))) (.cons (.ite (.not (.callp 37 3 (.cons (.con (.str [112, 117, 116])) (.cons (.var 5) (.cons (.con (.str [116, 101, 114, 109])) .nil))))) (.cons (.ret (.con (.bl false))) .nil) .nil) (.cons (.set (.v 6) (.call 34 2 (.cons (.var 0) (.cons (.fz (.lst (.cons (.con (.int 0)) (.cons (.neg (.con (.int 1))) (.cons (.con .non) (.cons (.con (.bl true)) (.cons (.con (.str [50])) (.cons (.bin 1 (.con (.int 0)) (.bin 5 (.con (.int 10)) (.con (.int 61)))) .nil)))))))) .nil)))) (.cons (.ite (.cmp 5 (.callp 36 2 (.cons (.con (.str [112, 117, 116])) (.cons (.tup (.cons (.var 9) (.cons (.con (.str [120])) (.cons (.tup (.cons (.con (.int 1)) (.cons (.tup (.cons (.tup (.cons (.con (.str [97])) (.cons (.con (.int 1)) .nil))) .nil)) (.cons (.tup .nil) .nil)))) (.cons (.var 6) .nil))))) .nil))) (.fz (.bin 0 (.con (.str [110, 117, 109, 98, 101, 114, 32])) (.bi 12 (.cons (.var 6) .nil))))) (.cons (.ret (.con (.bl false))) .nil) .nil) (.cons (.set (.v 7) (.call 34 2 (.cons (.var 0) (.cons (.fz (.lst (.cons (.con .non) (.cons (.fz (.dct .nil)) (.cons (.fz (.dct (.cons (.con (.str [115])) (.tup (.cons (.con (.int 1)) (.cons (.con (.int 2)) .nil))) .nil))) (.cons (.fz (.dct (.cons (.con (.str [115])) (.tup (.cons (.con (.int 1)) (.cons (.con (.int 2)) .nil))) (.cons (.con (.str [116])) (.fz (.lst (.cons (.con (.int 3)) .nil))) .nil)))) (.cons (.fz (.dct (.cons (.con (.str [115])) (.tup (.cons (.con (.int 2)) (.cons (.con (.int 1)) .nil))) (.cons (.con (.str [116])) (.tup .nil) .nil)))) (.cons (.fz (.dct (.cons (.con (.str [115])) (.tup (.cons (.con (.int 1)) (.cons (.con (.int 1)) .nil))) (.cons (.con (.str [116])) (.tup .nil) .nil)))) (.cons (.fz (.dct (.cons (.con (.str [115])) (.tup (.cons (.con (.bl true)) .nil)) (.cons (.con (.str [116])) (.tup .nil) .nil)))) .nil))))))))) .nil)))) (.cons (.set (.v 7) (.call 34 2 (.cons (.var 0) (.cons (.fz (.lst (.cons (.var 7) (.cons (.fz (.dct (.cons (.con (.str [115])) (.con (.int 5)) (.cons (.con (.str [116])) (.tup .nil) .nil)))) (.cons (.fz (.dct (.cons (.con (.str [115])) (.tup .nil) (.cons (.con (.str [116])) (.tup (.cons (.bin 5 (.con (.int 10)) (.con (.int 60))) .nil)) .nil)))) (.cons (.fz (.dct (.cons (.con (.str [115])) (.tup .nil) (.cons (.con (.str [116])) (.trg1 true (.con (.int 201))) .nil)))) (.cons (.fz (.lst (.cons (.tup (.cons (.con (.str [115])) (.cons (.tup .nil) .nil))) (.cons (.tup (.cons (.con (.str [116])) (.cons (.tup .nil) .nil))) .nil)))) (.cons (.fz (.dct (.cons (.con (.str [115])) (.con (.str [97])) (.cons (.con (.str [116])) (.tup .nil) .nil)))) .nil)))))))) .nil)))) (.cons (.for_ (.e (.tup (.cons (.con (.str [115, 105, 122, 101])) (.cons (.con (.str [109, 101, 109, 98, 101, 114, 115])) .nil)))) (.v 4) (.cons (.ite (.or (.not (.callp 37 3 (.cons (.var 4) (.cons (.fz (.lst (.cons (.tup (.cons (.var 10) (.cons (.var 7) .nil))) .nil))) (.cons (.con (.str [118, 97, 108, 117, 101, 115])) .nil))))) (.one (.not (.callp 37 3 (.cons (.var 4) (.cons (.fz (.lst (.cons (.tup (.cons (.con .non) (.cons (.var 7) .nil))) (.cons (.tup (.cons (.tup (.cons (.con (.str [115, 101, 116])) (.cons (.con (.str [83])) .nil))) (.cons (.var 7) .nil))) (.cons (.tup (.cons (.var 9) (.cons (.fz (.dct .nil)) .nil))) .nil))))) (.cons (.con (.str [116, 101, 114, 109])) .nil))))))) (.cons (.ret (.con (.bl false))) .nil) .nil) .nil)) (.cons (.set (.v 8) (.fz (.lst (.cons (.con .non) (.cons (.fz (.dct .nil)) (.cons (.fz (.dct (.cons (.con (.str [97])) (.con (.int 1)) (.cons (.con (.str [120])) (.con (.int 2)) .nil)))) (.cons (.fz (.dct (.cons (.con (.str [97])) (.con (.int 1)) (.cons (.con (.str [115])) (.tup .nil) .nil)))) (.cons (.fz (.dct (.cons (.con (.str [97])) (.con (.bl true)) (.cons (.con (.str [120])) (.con (.int 1)) (.cons (.con (.str [115])) (.tup .nil) .nil))))) (.cons (.fz (.dct (.cons (.con (.str [97])) (.con (.int 1)) (.cons (.con (.str [120])) (.bin 5 (.con (.int 10)) (.con (.int 60))) (.cons (.con (.str [115])) (.tup .nil) .nil))))) (.cons (.fz (.dct (.cons (.con (.str [97])) (.con (.int 1)) (.cons (.con (.str [120])) (.con (.str [49])) (.cons (.con (.str [115])) (.tup .nil) .nil))))) .nil)))))))))) (.cons (.set (.v 8) (.fz (.bin 0 (.var 8) (.fz (.lst (.cons (.fz (.dct (.cons (.con (.str [97])) (.con (.int 1)) (.cons (.con (.str [120])) (.con (.int 1)) (.cons (.con (.str [115])) (.tup (.cons (.con (.int 2)) (.cons (.con (.int 1)) .nil))) .nil))))) (.cons (.fz (.dct (.cons (.con (.str [97])) (.con (.int 1)) (.cons (.con (.str [120])) (.con (.int 1)) (.cons (.con (.str [115])) (.con .non) .nil))))) (.cons (.fz (.dct (.cons (.con (.str [97])) (.con (.int 1)) (.cons (.con (.str [120])) (.con .non) (.cons (.con (.str [115])) (.tup .nil) .nil))))) (.cons (.fz (.lst (.cons (.tup (.cons (.con (.str [97])) (.cons (.con (.int 1)) .nil))) .nil))) (.cons (.con (.int 0)) .nil)))))))))) (.cons (.ret (.and (.callp 37 3 (.cons (.con (.str [119, 111, 114, 116, 104])) (.cons (.fz (.lc (.e (.var 8)) (.v 11) .none (.tup (.cons (.var 9) (.cons (.var 11) .nil))) [("one", 11)])) (.cons (.con (.str [118, 97, 108, 117, 101, 115])) .nil)))) (.one (.callp 37 3 (.cons (.con (.str [119, 111, 114, 116, 104])) (.cons (.fz (.lst (.cons (.tup (.cons (.var 1) (.cons (.con .non) .nil))) (.cons (.tup (.cons (.var 1) (.cons (.fz (.dct .nil)) .nil))) .nil)))) (.cons (.con (.str [116, 101, 114, 109])) .nil))))))) .nil)))))))))))))))))
def d38 : Df := ⟨⟨("_law_right", none), "_law_right", "_law_right", defArgs (tp 50), defBody (tp 50), defScope (tp 50), [], []⟩, ["box", "bad", "name", "number", "word", "lots", "low", "odd", "wrong", "term", "sets", "one"], ["box"], false, b38⟩
theorem bn38 : Bnd d38 := fun _ _ _ _ _ _ us hl => match us, hl with | [_], _ => rfl
def b39 : B := (.cons (.for_ (.r1 (.bi 3 (.cons (.con (.int 1)) (.cons (.bi 4 (.cons (.con (.int 6)) (.cons (.bi 0 (.cons (.var 0) .nil)) .nil))) .nil)))) (.v 1) (.cons (.ite (.not (.call 38 1 (.cons (.call 32 2 (.cons (.var 0) (.cons (.var 1) .nil))) .nil))) (.cons (.ret (.con (.bl false))) .nil) .nil) .nil)) (.cons (.set (.t (.cons (.v 3) (.cons (.v 4) .nil))) (.tup (.cons (.tup (.cons (.con (.int 3)) (.cons (.tup (.cons (.tup (.cons (.con (.str [97])) (.cons (.con (.int 2)) .nil))) (.cons (.tup (.cons (.con (.str [120])) (.cons (.neg (.con (.int 5))) .nil))) .nil))) (.cons (.tup (.cons (.tup (.cons (.tup (.cons (.con (.str [115, 101, 116])) (.cons (.con (.str [115])) .nil))) (.cons (.con (.int 1)) .nil))) .nil)) .nil)))) (.cons (.tup (.cons (.con (.str [106, 111, 105, 110, 116])) (.cons (.tup (.cons (.con (.str [115, 101, 116])) (.cons (.con (.str [115])) .nil))) (.cons (.tup (.cons (.con (.str [115, 101, 116])) (.cons (.con (.str [116])) .nil))) .nil)))) .nil)))) (.cons (.set (.v 2) (.fz (.lst (.cons (.tup (.cons (.con (.str [116, 105, 109, 101, 115])) (.cons (.tup (.cons (.var 3) (.cons (.fz (.bin 2 (.bin 5 (.con (.int 10)) (.con (.int 60))) (.bin 5 (.con (.int 10)) (.con (.int 30))))) .nil))) .nil))) (.cons (.tup (.cons (.con (.str [102, 97, 99, 116, 111, 114])) (.cons (.tup (.cons (.var 3) (.cons (.con (.str [122, 122, 122, 122])) .nil))) .nil))) (.cons (.tup (.cons (.con (.str [119, 105, 116, 104, 111, 117, 116])) (.cons (.tup (.cons (.var 3) (.cons (.con (.str [113])) .nil))) .nil))) (.cons (.tup (.cons (.con (.str [112, 117, 116])) (.cons (.tup (.cons (.var 3) (.cons (.con (.str [121])) (.cons (.tup (.cons (.con (.int 1)) (.cons (.tup .nil) (.cons (.tup .nil) .nil)))) (.cons (.fz (.bin 2 (.bin 5 (.con (.int 10)) (.con (.int 60))) (.bin 5 (.con (.int 10)) (.con (.int 30))))) .nil))))) .nil))) .nil))))))) (.cons (.set (.v 2) (.fz (.bin 0 (.var 2) (.fz (.lst (.cons (.tup (.cons (.con (.str [119, 111, 114, 116, 104])) (.cons (.tup (.cons (.var 3) (.cons (.fz (.dct (.cons (.con (.str [97])) (.bin 1 (.bin 5 (.con (.int 10)) (.con (.int 60))) (.con (.int 1))) (.cons (.con (.str [120])) (.bin 1 (.con (.int 1)) (.bin 5 (.con (.int 10)) (.con (.int 60)))) (.cons (.con (.str [115])) (.trg1 true (.con (.int 200))) (.cons (.con (.str [116])) (.con .non) (.cons (.con (.int 5)) (.con (.int 6)) .nil))))))) .nil))) .nil))) (.cons (.tup (.cons (.con (.str [119, 111, 114, 116, 104])) (.cons (.tup (.cons (.tup (.cons (.con (.int 1)) (.cons (.tup .nil) (.cons (.tup .nil) .nil)))) (.cons (.fz (.dct .nil)) .nil))) .nil))) .nil))))))) (.cons (.set (.v 2) (.fz (.bin 0 (.var 2) (.fz (.lst (.cons (.tup (.cons (.con (.str [115, 105, 122, 101])) (.cons (.tup (.cons (.var 4) (.cons (.fz (.dct (.cons (.con (.str [115])) (.tup .nil) (.cons (.con (.str [116])) (.tup (.cons (.bin 1 (.con (.int 1)) (.bin 5 (.con (.int 10)) (.con (.int 60)))) .nil)) (.cons (.con (.str [110])) (.con (.int 4)) .nil))))) .nil))) .nil))) (.cons (.tup (.cons (.con (.str [109, 101, 109, 98, 101, 114, 115])) (.cons (.tup (.cons (.tup (.cons (.con (.str [110, 111, 110, 101])) .nil)) (.cons (.fz (.dct .nil)) .nil))) .nil))) (.cons (.tup (.cons (.con (.str [115, 117, 109])) (.cons (.tup (.cons (.var 3) (.cons (.var 3) .nil))) .nil))) .nil)))))))) (.cons (.ret (.cmp 4 (.fz (.lc (.e (.var 2)) (.v 5) (.some (.cmp 5 (.callp 36 2 (.cons (.ix (.var 5) (.con (.int 0))) (.cons (.ix (.var 5) (.con (.int 1))) .nil))) (.con (.str [100, 111, 110, 101])))) (.var 5) [("one", 5)])) (.fz (.lst .nil)))) .nil))))))
def d39 : Df := ⟨⟨("law", none), "law", "law", defArgs (tp 51), defBody (tp 51), defScope (tp 51), [], []⟩, ["script", "at", "let", "term", "sets", "one"], ["script"], false, b39⟩
theorem bn39 : Bnd d39 := fun _ _ _ _ _ _ us hl => match us, hl with | [_], _ => rfl
def pd : List Df := [d0, d1, d2, d3, d4, d5, d6, d7, d8, d9, d10, d11, d12, d13, d14, d15, d16, d17, d18, d19, d20, d21, d22, d23, d24, d25, d26, d27, d28, d29, d30, d31, d32, d33, d34, d35, d36, d37, d38, d39]
theorem bnd : ∀ d ∈ pd, Bnd d := by
  intro d hd
  simp only [pd, List.mem_cons, List.not_mem_nil, or_false] at hd
  rcases hd with rfl | rfl | rfl | rfl | rfl | rfl | rfl | rfl | rfl | rfl | rfl | rfl | rfl | rfl | rfl | rfl | rfl | rfl | rfl | rfl | rfl | rfl | rfl | rfl | rfl | rfl | rfl | rfl | rfl | rfl | rfl | rfl | rfl | rfl | rfl | rfl | rfl | rfl | rfl | rfl
  · exact bn0
  · exact bn1
  · exact bn2
  · exact bn3
  · exact bn4
  · exact bn5
  · exact bn6
  · exact bn7
  · exact bn8
  · exact bn9
  · exact bn10
  · exact bn11
  · exact bn12
  · exact bn13
  · exact bn14
  · exact bn15
  · exact bn16
  · exact bn17
  · exact bn18
  · exact bn19
  · exact bn20
  · exact bn21
  · exact bn22
  · exact bn23
  · exact bn24
  · exact bn25
  · exact bn26
  · exact bn27
  · exact bn28
  · exact bn29
  · exact bn30
  · exact bn31
  · exact bn32
  · exact bn33
  · exact bn34
  · exact bn35
  · exact bn36
  · exact bn37
  · exact bn38
  · exact bn39
def tb0 : List (Str × Gm) := [("is_whole", .fn 0 1), ("is_name", .fn 1 1), ("is_number_value", .fn 2 1), ("is_ascending", .fn 3 1), ("is_set_value", .fn 4 1), ("set_depth", .fn 5 1), ("is_set_term", .fn 6 1), ("set_names_in", .fn 7 1), ("members_in", .fn 8 2), ("require_sets", .fn 9 2), ("worth_of_set", .fn 10 2), ("size_of", .fn 11 2), ("are_shares", .fn 12 2), ("is_term", .fn 13 1), ("require_term", .fn 14 1), ("merged", .fn 15 2)]
def tb1 : List (Str × Gm) := [("plus_of", .fn 16 2), ("times_of", .fn 17 2), ("share_in", .fn 18 2), ("left_in", .fn 19 2), ("put_of", .fn 20 4), ("worth_in", .fn 21 2), ("numbers_in", .fn 22 1), ("sets_in", .fn 23 1), ("term_sum", .fn 24 2), ("term_times", .fn 25 2), ("require_name", .fn 26 1), ("factor_of", .fn 27 2), ("without_name", .fn 28 2), ("put_in", .fn 29 4), ("term_names", .fn 30 1), ("worth", .fn 31 2)]
def tb2 : List (Str × Gm) := [("_law_box", .fn 32 2), ("_law_next", .fn 33 2), ("_law_one_of", .fn 34 2), ("_law_done", .fn 35 2), ("_law_met", .fn 36 2), ("_law_all_meet", .fn 37 3), ("_law_right", .fn 38 1), ("law", .fn 39 1), ("SIGNS", .con (.str [97, 98, 99, 100, 101, 102, 103, 104, 105, 106, 107, 108, 109, 110, 111, 112, 113, 114, 115, 116, 117, 118, 119, 120, 121, 122])), ("NAME_SIZE", .con (.int 4)), ("SET_DEPTH", .con (.int 4)), ("MOST_MEMBERS", .con (.int 200)), ("FAR", .con (.int 1000000000000000000000000000000000000000000000000000000000000))]
def tb : List (Str × Gm) := tb0 ++ tb1 ++ tb2
def xs : List Xc := [⟨"InvalidValues", 0, none, [0]⟩, ⟨"InvalidTerm", 0, none, [1]⟩, ⟨"InvalidNumber", 1, some ("given", "given"), [2]⟩]
def bl : List Str := ["abs", "all", "bool", "dict", "int", "isinstance", "len", "list", "max", "min", "range", "repr", "set", "sorted", "str", "sum", "tuple", "zip"]
def ls0 : List Str := ["WishError", "InvalidTerm", "InvalidValues", "InvalidNumber", "SIGNS", "NAME_SIZE", "SET_DEPTH", "MOST_MEMBERS", "FAR", "is_whole", "is_name", "is_number_value", "is_ascending", "is_set_value", "set_depth", "is_set_term", "set_names_in", "members_in", "require_sets", "worth_of_set", "size_of", "are_shares", "is_term", "require_term", "merged", "plus_of", "times_of", "share_in", "left_in", "put_of"]
def ls1 : List Str := ["worth_in", "numbers_in", "sets_in", "term_sum", "term_times", "require_name", "factor_of", "without_name", "put_in", "term_names", "worth", "_law_box", "_law_next", "_law_one_of", "_law_done", "_law_met", "_law_all_meet", "_law_right"]
abbrev ls : List Str := ls0 ++ ls1
def lawAt : Nat := 51
def lawIx : Nat := 39
end KL

set_option linter.all false
set_option maxRecDepth 100000
set_option maxHeartbeats 0
namespace KL
open PySem PySem.Spec PyProof.Rows L2 Pe
theorem pdc : pdB pd tb bl xs = true := by decide +kernel
end KL

set_option linter.all false
set_option maxRecDepth 100000
set_option maxHeartbeats 0
namespace KL
open PySem PySem.Spec PyProof.Rows L2 Pe
abbrev Rr : PySem.W.OpenRow := PySem.W.OpenLaw.row RW
abbrev hk : PySem.W.Hook := hookY 4 (fasOf tb bl xs) (pd.map (·.d)) (xcB Rr.prog xs)
def ob (s : PySem.W.SharedT) : He.AlD × Bool := obsY 4 (fasOf tb bl xs) (pd.map (·.d)) (xcB Rr.prog xs) (HandSHeadRun.getT s)
theorem ob_eq (s : PySem.W.SharedT) : ob s = hk.obs s.abs := obsY_eq (HandSHeadRun.getT_eq s)
theorem run (w : World) : HandSHeadRun.RunEq Rr (PySem.W.view Rr.prog [lawAt]) hk ob 4000 ls w := by
  intro os
  kernel_rfl
end KL

set_option linter.all false
set_option maxRecDepth 100000
set_option maxHeartbeats 0
namespace KL
open PySem PySem.Spec PyProof.Rows L2 Pe

def s38_0 : T := (.set (.t (.cons (.v 9) (.cons (.v 10) .nil))) (.tup (.cons (.tup (.cons (.con (.int 3)) (.cons (.tup (.cons (.tup (.cons (.con (.str [97])) (.cons (.con (.int 2)) .nil))) (.cons (.tup (.cons (.con (.str [120])) (.cons (.neg (.con (.int 5))) .nil))) .nil))) (.cons (.tup (.cons (.tup (.cons (.tup (.cons (.con (.str [115, 101, 116])) (.cons (.con (.str [115])) .nil))) (.cons (.con (.int 1)) .nil))) .nil)) .nil)))) (.cons (.tup (.cons (.con (.str [106, 111, 105, 110, 116])) (.cons (.tup (.cons (.con (.str [115, 101, 116])) (.cons (.con (.str [115])) .nil))) (.cons (.tup (.cons (.con (.str [115, 101, 116])) (.cons (.con (.str [116])) .nil))) .nil)))) .nil))))
def s38_1 : T := (.set (.v 1) (.call 34 2 (.cons (.var 0) (.cons (.fz (.lst (.cons (.con .non) (.cons (.tup .nil) (.cons (.con (.str [97])) (.cons (.con (.int 0)) (.cons (.tup (.cons (.con (.int 3)) (.cons (.tup (.cons (.tup (.cons (.con (.str [97])) (.cons (.con (.int 0)) .nil))) .nil)) (.cons (.tup .nil) .nil)))) (.cons (.tup (.cons (.con (.int 3)) (.cons (.tup (.cons (.tup (.cons (.con (.str [120])) (.cons (.con (.int 1)) .nil))) (.cons (.tup (.cons (.con (.str [97])) (.cons (.con (.int 1)) .nil))) .nil))) (.cons (.tup .nil) .nil)))) (.cons (.fz (.lst (.cons (.con (.int 3)) (.cons (.tup .nil) (.cons (.tup .nil) .nil))))) (.cons (.tup (.cons (.con (.bl true)) (.cons (.tup .nil) (.cons (.tup .nil) .nil)))) (.cons (.tup (.cons (.con (.int 3)) (.cons (.tup .nil) (.cons (.tup (.cons (.tup (.cons (.tup (.cons (.con (.str [115, 101, 116])) (.cons (.con (.str [83])) .nil))) (.cons (.con (.int 1)) .nil))) .nil)) .nil)))) .nil))))))))))) .nil))))
def s38_2 : T := (.set (.v 2) (.call 34 2 (.cons (.var 0) (.cons (.fz (.lst (.cons (.con (.str [])) (.cons (.con (.str [97, 98, 99, 100, 101])) (.cons (.con (.str [65])) (.cons (.con .non) (.cons (.con (.int 0)) (.cons (.tup (.cons (.con (.str [97])) .nil)) (.cons (.con (.bl true)) .nil))))))))) .nil))))
def s38_3 : T := (.set (.v 3) (.call 34 2 (.cons (.var 0) (.cons (.fz (.lst (.cons (.con .non) (.cons (.con (.bl true)) (.cons (.con (.str [49])) (.cons (.tup (.cons (.con (.int 1)) .nil)) (.cons (.fz (.lst .nil)) (.cons (.fz (.dct .nil)) (.cons (.fz (.bin 2 (.con (.str [120])) (.con (.int 40)))) .nil))))))))) .nil))))
def s38_4 : T := (.ite (.or (.not (.callp 37 3 (.cons (.con (.str [115, 117, 109])) (.cons (.fz (.lst (.cons (.tup (.cons (.var 1) (.cons (.var 9) .nil))) (.cons (.tup (.cons (.var 9) (.cons (.var 1) .nil))) (.cons (.tup (.cons (.var 1) (.cons (.var 1) .nil))) .nil))))) (.cons (.con (.str [116, 101, 114, 109])) .nil))))) (.one (.not (.callp 37 3 (.cons (.con (.str [110, 97, 109, 101, 115])) (.cons (.fz (.lst (.cons (.tup (.cons (.var 1) .nil)) .nil))) (.cons (.con (.str [116, 101, 114, 109])) .nil))))))) (.cons (.ret (.con (.bl false))) .nil) .nil)
def s38_5 : T := (.ite (.or (.not (.callp 37 3 (.cons (.con (.str [116, 105, 109, 101, 115])) (.cons (.fz (.lst (.cons (.tup (.cons (.var 1) (.cons (.var 3) .nil))) (.cons (.tup (.cons (.var 1) (.cons (.con (.int 2)) .nil))) .nil)))) (.cons (.con (.str [116, 101, 114, 109])) .nil))))) (.one (.not (.callp 37 3 (.cons (.con (.str [116, 105, 109, 101, 115])) (.cons (.fz (.lst (.cons (.tup (.cons (.var 9) (.cons (.var 3) .nil))) .nil))) (.cons (.fz (.bin 0 (.con (.str [110, 117, 109, 98, 101, 114, 32])) (.bi 12 (.cons (.var 3) .nil)))) .nil))))))) (.cons (.ret (.con (.bl false))) .nil) .nil)
def s38_6 : T := (.for_ (.e (.tup (.cons (.con (.str [102, 97, 99, 116, 111, 114])) (.cons (.con (.str [119, 105, 116, 104, 111, 117, 116])) .nil)))) (.v 4) (.cons (.ite (.not (.callp 37 3 (.cons (.var 4) (.cons (.fz (.lst (.cons (.tup (.cons (.var 1) (.cons (.con (.str [97])) .nil))) (.cons (.tup (.cons (.var 9) (.cons (.var 2) .nil))) (.cons (.tup (.cons (.var 1) (.cons (.var 2) .nil))) .nil))))) (.cons (.con (.str [116, 101, 114, 109])) .nil))))) (.cons (.ret (.con (.bl false))) .nil) .nil) .nil))
def s38_7 : T := (.set (.v 5) (.fz (.lst (.cons (.tup (.cons (.var 1) (.cons (.con (.str [120])) (.cons (.var 9) (.cons (.con (.int 1)) .nil))))) (.cons (.tup (.cons (.var 9) (.cons (.var 2) (.cons (.var 9) (.cons (.con (.int 0)) .nil))))) (.cons (.tup (.cons (.var 9) (.cons (.con (.str [120])) (.cons (.var 1) (.cons (.con (.int 0)) .nil))))) (.cons (.tup (.cons (.var 9) (.cons (.con (.str [120])) (.cons (.var 9) (.cons (.con (.int 1)) .nil))))) (.cons (.tup (.cons (.var 9) (.cons (.con (.str [97])) (.cons (.tup (.cons (.con (.int 0)) (.cons (.tup (.cons (.tup (.cons (.con (.str [97])) (.cons (.con (.int 1)) .nil))) .nil)) (.cons (.tup .nil) .nil)))) (.cons (.con (.int 0)) .nil))))) .nil))))))))
def s38_8 : T := (.ite (.not (.callp 37 3 (.cons (.con (.str [112, 117, 116])) (.cons (.var 5) (.cons (.con (.str [116, 101, 114, 109])) .nil))))) (.cons (.ret (.con (.bl false))) .nil) .nil)
def s38_9 : T := (.set (.v 6) (.call 34 2 (.cons (.var 0) (.cons (.fz (.lst (.cons (.con (.int 0)) (.cons (.neg (.con (.int 1))) (.cons (.con .non) (.cons (.con (.bl true)) (.cons (.con (.str [50])) (.cons (.bin 1 (.con (.int 0)) (.bin 5 (.con (.int 10)) (.con (.int 61)))) .nil)))))))) .nil))))
def s38_10 : T := (.ite (.cmp 5 (.callp 36 2 (.cons (.con (.str [112, 117, 116])) (.cons (.tup (.cons (.var 9) (.cons (.con (.str [120])) (.cons (.tup (.cons (.con (.int 1)) (.cons (.tup (.cons (.tup (.cons (.con (.str [97])) (.cons (.con (.int 1)) .nil))) .nil)) (.cons (.tup .nil) .nil)))) (.cons (.var 6) .nil))))) .nil))) (.fz (.bin 0 (.con (.str [110, 117, 109, 98, 101, 114, 32])) (.bi 12 (.cons (.var 6) .nil))))) (.cons (.ret (.con (.bl false))) .nil) .nil)
def s38_11 : T := (.set (.v 7) (.call 34 2 (.cons (.var 0) (.cons (.fz (.lst (.cons (.con .non) (.cons (.fz (.dct .nil)) (.cons (.fz (.dct (.cons (.con (.str [115])) (.tup (.cons (.con (.int 1)) (.cons (.con (.int 2)) .nil))) .nil))) (.cons (.fz (.dct (.cons (.con (.str [115])) (.tup (.cons (.con (.int 1)) (.cons (.con (.int 2)) .nil))) (.cons (.con (.str [116])) (.fz (.lst (.cons (.con (.int 3)) .nil))) .nil)))) (.cons (.fz (.dct (.cons (.con (.str [115])) (.tup (.cons (.con (.int 2)) (.cons (.con (.int 1)) .nil))) (.cons (.con (.str [116])) (.tup .nil) .nil)))) (.cons (.fz (.dct (.cons (.con (.str [115])) (.tup (.cons (.con (.int 1)) (.cons (.con (.int 1)) .nil))) (.cons (.con (.str [116])) (.tup .nil) .nil)))) (.cons (.fz (.dct (.cons (.con (.str [115])) (.tup (.cons (.con (.bl true)) .nil)) (.cons (.con (.str [116])) (.tup .nil) .nil)))) .nil))))))))) .nil))))
def s38_12 : T := (.set (.v 7) (.call 34 2 (.cons (.var 0) (.cons (.fz (.lst (.cons (.var 7) (.cons (.fz (.dct (.cons (.con (.str [115])) (.con (.int 5)) (.cons (.con (.str [116])) (.tup .nil) .nil)))) (.cons (.fz (.dct (.cons (.con (.str [115])) (.tup .nil) (.cons (.con (.str [116])) (.tup (.cons (.bin 5 (.con (.int 10)) (.con (.int 60))) .nil)) .nil)))) (.cons (.fz (.dct (.cons (.con (.str [115])) (.tup .nil) (.cons (.con (.str [116])) (.trg1 true (.con (.int 201))) .nil)))) (.cons (.fz (.lst (.cons (.tup (.cons (.con (.str [115])) (.cons (.tup .nil) .nil))) (.cons (.tup (.cons (.con (.str [116])) (.cons (.tup .nil) .nil))) .nil)))) (.cons (.fz (.dct (.cons (.con (.str [115])) (.con (.str [97])) (.cons (.con (.str [116])) (.tup .nil) .nil)))) .nil)))))))) .nil))))
def s38_13 : T := (.for_ (.e (.tup (.cons (.con (.str [115, 105, 122, 101])) (.cons (.con (.str [109, 101, 109, 98, 101, 114, 115])) .nil)))) (.v 4) (.cons (.ite (.or (.not (.callp 37 3 (.cons (.var 4) (.cons (.fz (.lst (.cons (.tup (.cons (.var 10) (.cons (.var 7) .nil))) .nil))) (.cons (.con (.str [118, 97, 108, 117, 101, 115])) .nil))))) (.one (.not (.callp 37 3 (.cons (.var 4) (.cons (.fz (.lst (.cons (.tup (.cons (.con .non) (.cons (.var 7) .nil))) (.cons (.tup (.cons (.tup (.cons (.con (.str [115, 101, 116])) (.cons (.con (.str [83])) .nil))) (.cons (.var 7) .nil))) (.cons (.tup (.cons (.var 9) (.cons (.fz (.dct .nil)) .nil))) .nil))))) (.cons (.con (.str [116, 101, 114, 109])) .nil))))))) (.cons (.ret (.con (.bl false))) .nil) .nil) .nil))
def s38_14 : T := (.set (.v 8) (.fz (.lst (.cons (.con .non) (.cons (.fz (.dct .nil)) (.cons (.fz (.dct (.cons (.con (.str [97])) (.con (.int 1)) (.cons (.con (.str [120])) (.con (.int 2)) .nil)))) (.cons (.fz (.dct (.cons (.con (.str [97])) (.con (.int 1)) (.cons (.con (.str [115])) (.tup .nil) .nil)))) (.cons (.fz (.dct (.cons (.con (.str [97])) (.con (.bl true)) (.cons (.con (.str [120])) (.con (.int 1)) (.cons (.con (.str [115])) (.tup .nil) .nil))))) (.cons (.fz (.dct (.cons (.con (.str [97])) (.con (.int 1)) (.cons (.con (.str [120])) (.bin 5 (.con (.int 10)) (.con (.int 60))) (.cons (.con (.str [115])) (.tup .nil) .nil))))) (.cons (.fz (.dct (.cons (.con (.str [97])) (.con (.int 1)) (.cons (.con (.str [120])) (.con (.str [49])) (.cons (.con (.str [115])) (.tup .nil) .nil))))) .nil))))))))))
def s38_15 : T := (.set (.v 8) (.fz (.bin 0 (.var 8) (.fz (.lst (.cons (.fz (.dct (.cons (.con (.str [97])) (.con (.int 1)) (.cons (.con (.str [120])) (.con (.int 1)) (.cons (.con (.str [115])) (.tup (.cons (.con (.int 2)) (.cons (.con (.int 1)) .nil))) .nil))))) (.cons (.fz (.dct (.cons (.con (.str [97])) (.con (.int 1)) (.cons (.con (.str [120])) (.con (.int 1)) (.cons (.con (.str [115])) (.con .non) .nil))))) (.cons (.fz (.dct (.cons (.con (.str [97])) (.con (.int 1)) (.cons (.con (.str [120])) (.con .non) (.cons (.con (.str [115])) (.tup .nil) .nil))))) (.cons (.fz (.lst (.cons (.tup (.cons (.con (.str [97])) (.cons (.con (.int 1)) .nil))) .nil))) (.cons (.con (.int 0)) .nil))))))))))
def s38_16 : T := (.ret (.and (.callp 37 3 (.cons (.con (.str [119, 111, 114, 116, 104])) (.cons (.fz (.lc (.e (.var 8)) (.v 11) .none (.tup (.cons (.var 9) (.cons (.var 11) .nil))) [("one", 11)])) (.cons (.con (.str [118, 97, 108, 117, 101, 115])) .nil)))) (.one (.callp 37 3 (.cons (.con (.str [119, 111, 114, 116, 104])) (.cons (.fz (.lst (.cons (.tup (.cons (.var 1) (.cons (.con .non) .nil))) (.cons (.tup (.cons (.var 1) (.cons (.fz (.dct .nil)) .nil))) .nil)))) (.cons (.con (.str [116, 101, 114, 109])) .nil)))))))
theorem b38_eq {F : FT} : denB F b38 = sSeq (denS F s38_0) (sSeq (denS F s38_1) (sSeq (denS F s38_2) (sSeq (denS F s38_3) (sSeq (denS F s38_4) (sSeq (denS F s38_5) (sSeq (denS F s38_6) (sSeq (denS F s38_7) (sSeq (denS F s38_8) (sSeq (denS F s38_9) (sSeq (denS F s38_10) (sSeq (denS F s38_11) (sSeq (denS F s38_12) (sSeq (denS F s38_13) (sSeq (denS F s38_14) (sSeq (denS F s38_15) (sSeq (denS F s38_16) (sNil))))))))))))))))) := by
  unfold b38 s38_0 s38_1 s38_2 s38_3 s38_4 s38_5 s38_6 s38_7 s38_8 s38_9 s38_10 s38_11 s38_12 s38_13 s38_14 s38_15 s38_16
  rfl

def s39_0 : T := (.for_ (.r1 (.bi 3 (.cons (.con (.int 1)) (.cons (.bi 4 (.cons (.con (.int 6)) (.cons (.bi 0 (.cons (.var 0) .nil)) .nil))) .nil)))) (.v 1) (.cons (.ite (.not (.call 38 1 (.cons (.call 32 2 (.cons (.var 0) (.cons (.var 1) .nil))) .nil))) (.cons (.ret (.con (.bl false))) .nil) .nil) .nil))
def s39_1 : T := (.set (.t (.cons (.v 3) (.cons (.v 4) .nil))) (.tup (.cons (.tup (.cons (.con (.int 3)) (.cons (.tup (.cons (.tup (.cons (.con (.str [97])) (.cons (.con (.int 2)) .nil))) (.cons (.tup (.cons (.con (.str [120])) (.cons (.neg (.con (.int 5))) .nil))) .nil))) (.cons (.tup (.cons (.tup (.cons (.tup (.cons (.con (.str [115, 101, 116])) (.cons (.con (.str [115])) .nil))) (.cons (.con (.int 1)) .nil))) .nil)) .nil)))) (.cons (.tup (.cons (.con (.str [106, 111, 105, 110, 116])) (.cons (.tup (.cons (.con (.str [115, 101, 116])) (.cons (.con (.str [115])) .nil))) (.cons (.tup (.cons (.con (.str [115, 101, 116])) (.cons (.con (.str [116])) .nil))) .nil)))) .nil))))
def s39_2 : T := (.set (.v 2) (.fz (.lst (.cons (.tup (.cons (.con (.str [116, 105, 109, 101, 115])) (.cons (.tup (.cons (.var 3) (.cons (.fz (.bin 2 (.bin 5 (.con (.int 10)) (.con (.int 60))) (.bin 5 (.con (.int 10)) (.con (.int 30))))) .nil))) .nil))) (.cons (.tup (.cons (.con (.str [102, 97, 99, 116, 111, 114])) (.cons (.tup (.cons (.var 3) (.cons (.con (.str [122, 122, 122, 122])) .nil))) .nil))) (.cons (.tup (.cons (.con (.str [119, 105, 116, 104, 111, 117, 116])) (.cons (.tup (.cons (.var 3) (.cons (.con (.str [113])) .nil))) .nil))) (.cons (.tup (.cons (.con (.str [112, 117, 116])) (.cons (.tup (.cons (.var 3) (.cons (.con (.str [121])) (.cons (.tup (.cons (.con (.int 1)) (.cons (.tup .nil) (.cons (.tup .nil) .nil)))) (.cons (.fz (.bin 2 (.bin 5 (.con (.int 10)) (.con (.int 60))) (.bin 5 (.con (.int 10)) (.con (.int 30))))) .nil))))) .nil))) .nil)))))))
def s39_3 : T := (.set (.v 2) (.fz (.bin 0 (.var 2) (.fz (.lst (.cons (.tup (.cons (.con (.str [119, 111, 114, 116, 104])) (.cons (.tup (.cons (.var 3) (.cons (.fz (.dct (.cons (.con (.str [97])) (.bin 1 (.bin 5 (.con (.int 10)) (.con (.int 60))) (.con (.int 1))) (.cons (.con (.str [120])) (.bin 1 (.con (.int 1)) (.bin 5 (.con (.int 10)) (.con (.int 60)))) (.cons (.con (.str [115])) (.trg1 true (.con (.int 200))) (.cons (.con (.str [116])) (.con .non) (.cons (.con (.int 5)) (.con (.int 6)) .nil))))))) .nil))) .nil))) (.cons (.tup (.cons (.con (.str [119, 111, 114, 116, 104])) (.cons (.tup (.cons (.tup (.cons (.con (.int 1)) (.cons (.tup .nil) (.cons (.tup .nil) .nil)))) (.cons (.fz (.dct .nil)) .nil))) .nil))) .nil)))))))
def s39_4 : T := (.set (.v 2) (.fz (.bin 0 (.var 2) (.fz (.lst (.cons (.tup (.cons (.con (.str [115, 105, 122, 101])) (.cons (.tup (.cons (.var 4) (.cons (.fz (.dct (.cons (.con (.str [115])) (.tup .nil) (.cons (.con (.str [116])) (.tup (.cons (.bin 1 (.con (.int 1)) (.bin 5 (.con (.int 10)) (.con (.int 60)))) .nil)) (.cons (.con (.str [110])) (.con (.int 4)) .nil))))) .nil))) .nil))) (.cons (.tup (.cons (.con (.str [109, 101, 109, 98, 101, 114, 115])) (.cons (.tup (.cons (.tup (.cons (.con (.str [110, 111, 110, 101])) .nil)) (.cons (.fz (.dct .nil)) .nil))) .nil))) (.cons (.tup (.cons (.con (.str [115, 117, 109])) (.cons (.tup (.cons (.var 3) (.cons (.var 3) .nil))) .nil))) .nil))))))))
def s39_5 : T := (.ret (.cmp 4 (.fz (.lc (.e (.var 2)) (.v 5) (.some (.cmp 5 (.callp 36 2 (.cons (.ix (.var 5) (.con (.int 0))) (.cons (.ix (.var 5) (.con (.int 1))) .nil))) (.con (.str [100, 111, 110, 101])))) (.var 5) [("one", 5)])) (.fz (.lst .nil))))
theorem b39_eq {F : FT} : denB F b39 = sSeq (denS F s39_0) (sSeq (denS F s39_1) (sSeq (denS F s39_2) (sSeq (denS F s39_3) (sSeq (denS F s39_4) (sSeq (denS F s39_5) (sNil)))))) := by
  unfold b39 s39_0 s39_1 s39_2 s39_3 s39_4 s39_5
  rfl

abbrev F8 : FT := sem pd 38
def dTerm : D := (.tup [(.int 3), (.tup [(.tup [(.str [97]), (.int 2)]), (.tup [(.str [120]), (.int (-5))])]), (.tup [(.tup [(.tup [(.str [115, 101, 116]), (.str [115])]), (.int 1)])])])
def dSets : D := (.tup [(.str [106, 111, 105, 110, 116]), (.tup [(.str [115, 101, 116]), (.str [115])]), (.tup [(.str [115, 101, 116]), (.str [116])])])
def mBad : List D := [.non, (.tup []), (.str [97]), (.int 0), (.tup [(.int 3), (.tup [(.tup [(.str [97]), (.int 0)])]), (.tup [])]), (.tup [(.int 3), (.tup [(.tup [(.str [120]), (.int 1)]), (.tup [(.str [97]), (.int 1)])]), (.tup [])]), (.lst [(.int 3), (.tup []), (.tup [])]), (.tup [(.bl true), (.tup []), (.tup [])]), (.tup [(.int 3), (.tup []), (.tup [(.tup [(.tup [(.str [115, 101, 116]), (.str [83])]), (.int 1)])])])]
def mName : List D := [(.str []), (.str [97, 98, 99, 100, 101]), (.str [65]), .non, (.int 0), (.tup [(.str [97])]), (.bl true)]
def mNumber : List D := [.non, (.bl true), (.str [49]), (.tup [(.int 1)]), (.lst []), (.dic [] []), (.str [120, 120, 120, 120, 120, 120, 120, 120, 120, 120, 120, 120, 120, 120, 120, 120, 120, 120, 120, 120, 120, 120, 120, 120, 120, 120, 120, 120, 120, 120, 120, 120, 120, 120, 120, 120, 120, 120, 120, 120])]
def mLow : List D := [(.int 0), (.int (-1)), .non, (.bl true), (.str [50]), (.int (-10000000000000000000000000000000000000000000000000000000000000))]
def mOdd1 : List D := [.non, (.dic [] []), (.dic [(.str [115])] [(.tup [(.int 1), (.int 2)])]), (.dic [(.str [115]), (.str [116])] [(.tup [(.int 1), (.int 2)]), (.lst [(.int 3)])]), (.dic [(.str [115]), (.str [116])] [(.tup [(.int 2), (.int 1)]), (.tup [])]), (.dic [(.str [115]), (.str [116])] [(.tup [(.int 1), (.int 1)]), (.tup [])]), (.dic [(.str [115]), (.str [116])] [(.tup [(.bl true)]), (.tup [])])]
def mOdd2 : List D := [(.dic [(.str [115]), (.str [116])] [(.int 5), (.tup [])]), (.dic [(.str [115]), (.str [116])] [(.tup []), (.tup [(.int 1000000000000000000000000000000000000000000000000000000000000)])]), (.dic [(.str [115]), (.str [116])] [(.tup []), (.tup [(.int 0), (.int 1), (.int 2), (.int 3), (.int 4), (.int 5), (.int 6), (.int 7), (.int 8), (.int 9), (.int 10), (.int 11), (.int 12), (.int 13), (.int 14), (.int 15), (.int 16), (.int 17), (.int 18), (.int 19), (.int 20), (.int 21), (.int 22), (.int 23), (.int 24), (.int 25), (.int 26), (.int 27), (.int 28), (.int 29), (.int 30), (.int 31), (.int 32), (.int 33), (.int 34), (.int 35), (.int 36), (.int 37), (.int 38), (.int 39), (.int 40), (.int 41), (.int 42), (.int 43), (.int 44), (.int 45), (.int 46), (.int 47), (.int 48), (.int 49), (.int 50), (.int 51), (.int 52), (.int 53), (.int 54), (.int 55), (.int 56), (.int 57), (.int 58), (.int 59), (.int 60), (.int 61), (.int 62), (.int 63), (.int 64), (.int 65), (.int 66), (.int 67), (.int 68), (.int 69), (.int 70), (.int 71), (.int 72), (.int 73), (.int 74), (.int 75), (.int 76), (.int 77), (.int 78), (.int 79), (.int 80), (.int 81), (.int 82), (.int 83), (.int 84), (.int 85), (.int 86), (.int 87), (.int 88), (.int 89), (.int 90), (.int 91), (.int 92), (.int 93), (.int 94), (.int 95), (.int 96), (.int 97), (.int 98), (.int 99), (.int 100), (.int 101), (.int 102), (.int 103), (.int 104), (.int 105), (.int 106), (.int 107), (.int 108), (.int 109), (.int 110), (.int 111), (.int 112), (.int 113), (.int 114), (.int 115), (.int 116), (.int 117), (.int 118), (.int 119), (.int 120), (.int 121), (.int 122), (.int 123), (.int 124), (.int 125), (.int 126), (.int 127), (.int 128), (.int 129), (.int 130), (.int 131), (.int 132), (.int 133), (.int 134), (.int 135), (.int 136), (.int 137), (.int 138), (.int 139), (.int 140), (.int 141), (.int 142), (.int 143), (.int 144), (.int 145), (.int 146), (.int 147), (.int 148), (.int 149), (.int 150), (.int 151), (.int 152), (.int 153), (.int 154), (.int 155), (.int 156), (.int 157), (.int 158), (.int 159), (.int 160), (.int 161), (.int 162), (.int 163), (.int 164), (.int 165), (.int 166), (.int 167), (.int 168), (.int 169), (.int 170), (.int 171), (.int 172), (.int 173), (.int 174), (.int 175), (.int 176), (.int 177), (.int 178), (.int 179), (.int 180), (.int 181), (.int 182), (.int 183), (.int 184), (.int 185), (.int 186), (.int 187), (.int 188), (.int 189), (.int 190), (.int 191), (.int 192), (.int 193), (.int 194), (.int 195), (.int 196), (.int 197), (.int 198), (.int 199), (.int 200)])]), (.lst [(.tup [(.str [115]), (.tup [])]), (.tup [(.str [116]), (.tup [])])]), (.dic [(.str [115]), (.str [116])] [(.str [97]), (.tup [])])]
def dW1 : D := (.lst [.non, (.dic [] []), (.dic [(.str [97]), (.str [120])] [(.int 1), (.int 2)]), (.dic [(.str [97]), (.str [115])] [(.int 1), (.tup [])]), (.dic [(.str [97]), (.str [120]), (.str [115])] [(.bl true), (.int 1), (.tup [])]), (.dic [(.str [97]), (.str [120]), (.str [115])] [(.int 1), (.int 1000000000000000000000000000000000000000000000000000000000000), (.tup [])]), (.dic [(.str [97]), (.str [120]), (.str [115])] [(.int 1), (.str [49]), (.tup [])])])
def dW2 : D := (.lst [.non, (.dic [] []), (.dic [(.str [97]), (.str [120])] [(.int 1), (.int 2)]), (.dic [(.str [97]), (.str [115])] [(.int 1), (.tup [])]), (.dic [(.str [97]), (.str [120]), (.str [115])] [(.bl true), (.int 1), (.tup [])]), (.dic [(.str [97]), (.str [120]), (.str [115])] [(.int 1), (.int 1000000000000000000000000000000000000000000000000000000000000), (.tup [])]), (.dic [(.str [97]), (.str [120]), (.str [115])] [(.int 1), (.str [49]), (.tup [])]), (.dic [(.str [97]), (.str [120]), (.str [115])] [(.int 1), (.int 1), (.tup [(.int 2), (.int 1)])]), (.dic [(.str [97]), (.str [120]), (.str [115])] [(.int 1), (.int 1), .non]), (.dic [(.str [97]), (.str [120]), (.str [115])] [(.int 1), .non, (.tup [])]), (.lst [(.tup [(.str [97]), (.int 1)])]), (.int 0)])
theorem st0 (o : Ob) : denS F8 s38_0 (startA 12 [.r 0]) [o] = .nx [some (.r 0), none, none, none, none, none, none, none, none, some (.d dTerm), some (.d dSets), none] [o] := by kernel_rfl
theorem de1 (p1 p2 p3 p4 p5 p6 p7 p8 p11 : Option W) (o : Ob) : den F8 (match s38_1 with | .set _ (.call _ _ (.cons _ (.cons e _))) => e | _ => .con .non) [some (.r 0), p1, p2, p3, p4, p5, p6, p7, p8, some (.d dTerm), some (.d dSets), p11] [o] = .ok (.d (.lst mBad)) [o] := by kernel_rfl
theorem de2 (p1 p2 p3 p4 p5 p6 p7 p8 p11 : Option W) (o : Ob) : den F8 (match s38_2 with | .set _ (.call _ _ (.cons _ (.cons e _))) => e | _ => .con .non) [some (.r 0), p1, p2, p3, p4, p5, p6, p7, p8, some (.d dTerm), some (.d dSets), p11] [o] = .ok (.d (.lst mName)) [o] := by kernel_rfl
theorem de3 (p1 p2 p3 p4 p5 p6 p7 p8 p11 : Option W) (o : Ob) : den F8 (match s38_3 with | .set _ (.call _ _ (.cons _ (.cons e _))) => e | _ => .con .non) [some (.r 0), p1, p2, p3, p4, p5, p6, p7, p8, some (.d dTerm), some (.d dSets), p11] [o] = .ok (.d (.lst mNumber)) [o] := by kernel_rfl
theorem de9 (p1 p2 p3 p4 p5 p6 p7 p8 p11 : Option W) (o : Ob) : den F8 (match s38_9 with | .set _ (.call _ _ (.cons _ (.cons e _))) => e | _ => .con .non) [some (.r 0), p1, p2, p3, p4, p5, p6, p7, p8, some (.d dTerm), some (.d dSets), p11] [o] = .ok (.d (.lst mLow)) [o] := by kernel_rfl
theorem de11 (p1 p2 p3 p4 p5 p6 p7 p8 p11 : Option W) (o : Ob) : den F8 (match s38_11 with | .set _ (.call _ _ (.cons _ (.cons e _))) => e | _ => .con .non) [some (.r 0), p1, p2, p3, p4, p5, p6, p7, p8, some (.d dTerm), some (.d dSets), p11] [o] = .ok (.d (.lst mOdd1)) [o] := by kernel_rfl
theorem de12 (x : D) (p1 p2 p3 p4 p5 p6 p8 p11 : Option W) (o : Ob) : den F8 (match s38_12 with | .set _ (.call _ _ (.cons _ (.cons e _))) => e | _ => .con .non) [some (.r 0), p1, p2, p3, p4, p5, p6, some (.d x), p8, some (.d dTerm), some (.d dSets), p11] [o] = .ok (.d (.lst (x :: mOdd2))) [o] := by kernel_rfl
theorem st4 {x : D} (hx : x ∈ mBad) (p2 p3 p4 p5 p6 p7 p8 p11 : Option W) (o : Ob) : denS F8 s38_4 [some (.r 0), some (.d x), p2, p3, p4, p5, p6, p7, p8, some (.d dTerm), some (.d dSets), p11] [o] = .nx [some (.r 0), some (.d x), p2, p3, p4, p5, p6, p7, p8, some (.d dTerm), some (.d dSets), p11] [o] := by
  simp only [mBad, List.mem_cons, List.not_mem_nil, or_false] at hx
  rcases hx with rfl | rfl | rfl | rfl | rfl | rfl | rfl | rfl | rfl <;> kernel_rfl
theorem st5 {x y : D} (hx : x ∈ mBad) (hy : y ∈ mNumber) (p2 p4 p5 p6 p7 p8 p11 : Option W) (o : Ob) : denS F8 s38_5 [some (.r 0), some (.d x), p2, some (.d y), p4, p5, p6, p7, p8, some (.d dTerm), some (.d dSets), p11] [o] = .nx [some (.r 0), some (.d x), p2, some (.d y), p4, p5, p6, p7, p8, some (.d dTerm), some (.d dSets), p11] [o] := by
  simp only [mBad, List.mem_cons, List.not_mem_nil, or_false] at hx
  rcases hx with rfl | rfl | rfl | rfl | rfl | rfl | rfl | rfl | rfl
  all_goals
    simp only [mNumber, List.mem_cons, List.not_mem_nil, or_false] at hy
    rcases hy with rfl | rfl | rfl | rfl | rfl | rfl | rfl <;> kernel_rfl
theorem st6 {x y : D} (hx : x ∈ mBad) (hy : y ∈ mName) (p3 p4 p5 p6 p7 p8 p11 : Option W) (o : Ob) : denS F8 s38_6 [some (.r 0), some (.d x), some (.d y), p3, p4, p5, p6, p7, p8, some (.d dTerm), some (.d dSets), p11] [o] = .nx [some (.r 0), some (.d x), some (.d y), p3, some (.d (.str [119, 105, 116, 104, 111, 117, 116])), p5, p6, p7, p8, some (.d dTerm), some (.d dSets), p11] [o] := by
  simp only [mBad, List.mem_cons, List.not_mem_nil, or_false] at hx
  rcases hx with rfl | rfl | rfl | rfl | rfl | rfl | rfl | rfl | rfl
  all_goals
    simp only [mName, List.mem_cons, List.not_mem_nil, or_false] at hy
    rcases hy with rfl | rfl | rfl | rfl | rfl | rfl | rfl <;> kernel_rfl
def lots (x y : D) : D := .lst [.tup [x, .str [120], dTerm, .int 1], .tup [dTerm, y, dTerm, .int 0], .tup [dTerm, .str [120], x, .int 0], .tup [dTerm, .str [120], dTerm, .int 1], .tup [dTerm, .str [97], .tup [.int 0, .tup [.tup [.str [97], .int 1]], .tup []], .int 0]]
theorem st7 (x y : D) (p3 p4 p5 p6 p7 p8 p11 : Option W) (o : Ob) : denS F8 s38_7 [some (.r 0), some (.d x), some (.d y), p3, p4, p5, p6, p7, p8, some (.d dTerm), some (.d dSets), p11] [o] = .nx [some (.r 0), some (.d x), some (.d y), p3, p4, some (.d (lots x y)), p6, p7, p8, some (.d dTerm), some (.d dSets), p11] [o] := by kernel_rfl
theorem st8 {x y : D} (hx : x ∈ mBad) (hy : y ∈ mName) (p3 p4 p6 p7 p8 p11 : Option W) (o : Ob) : denS F8 s38_8 [some (.r 0), some (.d x), some (.d y), p3, p4, some (.d (lots x y)), p6, p7, p8, some (.d dTerm), some (.d dSets), p11] [o] = .nx [some (.r 0), some (.d x), some (.d y), p3, p4, some (.d (lots x y)), p6, p7, p8, some (.d dTerm), some (.d dSets), p11] [o] := by
  simp only [mBad, List.mem_cons, List.not_mem_nil, or_false] at hx
  rcases hx with rfl | rfl | rfl | rfl | rfl | rfl | rfl | rfl | rfl
  all_goals
    simp only [mName, List.mem_cons, List.not_mem_nil, or_false] at hy
    rcases hy with rfl | rfl | rfl | rfl | rfl | rfl | rfl <;> kernel_rfl
theorem st10 {x : D} (hx : x ∈ mLow) (p1 p2 p3 p4 p5 p7 p8 p11 : Option W) (o : Ob) : denS F8 s38_10 [some (.r 0), p1, p2, p3, p4, p5, some (.d x), p7, p8, some (.d dTerm), some (.d dSets), p11] [o] = .nx [some (.r 0), p1, p2, p3, p4, p5, some (.d x), p7, p8, some (.d dTerm), some (.d dSets), p11] [o] := by
  simp only [mLow, List.mem_cons, List.not_mem_nil, or_false] at hx
  rcases hx with rfl | rfl | rfl | rfl | rfl | rfl <;> kernel_rfl
theorem st13 {x : D} (hx : x ∈ mOdd1 ++ mOdd2) (p1 p2 p3 p4 p5 p6 p8 p11 : Option W) (o : Ob) : denS F8 s38_13 [some (.r 0), p1, p2, p3, p4, p5, p6, some (.d x), p8, some (.d dTerm), some (.d dSets), p11] [o] = .nx [some (.r 0), p1, p2, p3, some (.d (.str [109, 101, 109, 98, 101, 114, 115])), p5, p6, some (.d x), p8, some (.d dTerm), some (.d dSets), p11] [o] := by
  simp only [mOdd1, mOdd2, List.cons_append, List.nil_append, List.mem_cons, List.not_mem_nil, or_false] at hx
  rcases hx with rfl | rfl | rfl | rfl | rfl | rfl | rfl | rfl | rfl | rfl | rfl | rfl <;> kernel_rfl
theorem st14 (p1 p2 p3 p4 p5 p6 p7 p8 p11 : Option W) (o : Ob) : denS F8 s38_14 [some (.r 0), p1, p2, p3, p4, p5, p6, p7, p8, some (.d dTerm), some (.d dSets), p11] [o] = .nx [some (.r 0), p1, p2, p3, p4, p5, p6, p7, some (.d dW1), some (.d dTerm), some (.d dSets), p11] [o] := by kernel_rfl
theorem st15 (p1 p2 p3 p4 p5 p6 p7 p11 : Option W) (o : Ob) : denS F8 s38_15 [some (.r 0), p1, p2, p3, p4, p5, p6, p7, some (.d dW1), some (.d dTerm), some (.d dSets), p11] [o] = .nx [some (.r 0), p1, p2, p3, p4, p5, p6, p7, some (.d dW2), some (.d dTerm), some (.d dSets), p11] [o] := by kernel_rfl
theorem st16 {x : D} (hx : x ∈ mBad) (p2 p3 p4 p5 p6 p7 p11 : Option W) (o : Ob) : denS F8 s38_16 [some (.r 0), some (.d x), p2, p3, p4, p5, p6, p7, some (.d dW2), some (.d dTerm), some (.d dSets), p11] [o] = .rt (.d (.bl true)) [o] := by
  simp only [mBad, List.mem_cons, List.not_mem_nil, or_false] at hx
  rcases hx with rfl | rfl | rfl | rfl | rfl | rfl | rfl | rfl | rfl <;> kernel_rfl
end KL
set_option linter.all false
set_option maxRecDepth 100000
set_option maxHeartbeats 0
namespace KL
open PySem PySem.Spec PyProof.Rows L2 Pe

theorem hO (x : W) (h : Hh) : sem pd 38 34 [.r 0, x] h = retR false h.length (denB (sem pd 37) (bOne 33) [some (.r 0), some x] h) := rfl
theorem hN (w x : W) (h : Hh) : sem pd 37 33 [w, x] h = retR false h.length (denB (sem pd 37) bNext [some w, some x, none, none, none] h) ∨ ∃ F2, sem pd 37 33 [w, x] h = retR false h.length (denB F2 bNext [some w, some x, none, none, none] h) := .inr ⟨sem pd 36, rfl⟩
theorem f38 (x : W) (h : Hh) : sem pd 39 38 [x] h = retR false h.length (denB (sem pd 38) b38 (startA 12 [x]) h) := rfl
theorem right_ok {o : Ob} (b : Bo 0 o) : ∃ h2, sem pd 39 38 [.r 0] [o] = .ok (.d (.bl true)) h2 := by
  rw [f38, b38_eq, seq_nx (st0 o)]
  obtain ⟨x1, o1, e1, b1, m1⟩ := draw_nx (F := F8) (F' := sem pd 37) (iO := 34) (iN := 33) (j := 1) (σ := [some (.r 0), none, none, none, none, none, none, none, none, some (.d dTerm), some (.d dSets), none]) (o := o) hO hN b (by decide) rfl (de1 none none none none none none none none none o) (show 0 < 9 by decide) (show 9 < 1000 by decide) (show 1 < 12 by decide)
  have e1' : denS F8 s38_1 [some (.r 0), none, none, none, none, none, none, none, none, some (.d dTerm), some (.d dSets), none] [o] = .nx [some (.r 0), some (.d x1), none, none, none, none, none, none, none, some (.d dTerm), some (.d dSets), none] [o1] := e1
  rw [seq_nx e1']
  obtain ⟨x2, o2, e2, b2, m2⟩ := draw_nx (F := F8) (F' := sem pd 37) (iO := 34) (iN := 33) (j := 2) (σ := [some (.r 0), some (.d x1), none, none, none, none, none, none, none, some (.d dTerm), some (.d dSets), none]) (o := o1) hO hN b1 (by decide) rfl (de2 (some (.d x1)) none none none none none none none none o1) (show 0 < 7 by decide) (show 7 < 1000 by decide) (show 2 < 12 by decide)
  have e2' : denS F8 s38_2 [some (.r 0), some (.d x1), none, none, none, none, none, none, none, some (.d dTerm), some (.d dSets), none] [o1] = .nx [some (.r 0), some (.d x1), some (.d x2), none, none, none, none, none, none, some (.d dTerm), some (.d dSets), none] [o2] := e2
  rw [seq_nx e2']
  obtain ⟨x3, o3, e3, b3, m3⟩ := draw_nx (F := F8) (F' := sem pd 37) (iO := 34) (iN := 33) (j := 3) (σ := [some (.r 0), some (.d x1), some (.d x2), none, none, none, none, none, none, some (.d dTerm), some (.d dSets), none]) (o := o2) hO hN b2 (by decide) rfl (de3 (some (.d x1)) (some (.d x2)) none none none none none none none o2) (show 0 < 7 by decide) (show 7 < 1000 by decide) (show 3 < 12 by decide)
  have e3' : denS F8 s38_3 [some (.r 0), some (.d x1), some (.d x2), none, none, none, none, none, none, some (.d dTerm), some (.d dSets), none] [o2] = .nx [some (.r 0), some (.d x1), some (.d x2), some (.d x3), none, none, none, none, none, some (.d dTerm), some (.d dSets), none] [o3] := e3
  rw [seq_nx e3']
  rw [seq_nx (st4 m1 (some (.d x2)) (some (.d x3)) none none none none none none o3)]
  rw [seq_nx (st5 m1 m3 (some (.d x2)) none none none none none none o3)]
  rw [seq_nx (st6 m1 m2 (some (.d x3)) none none none none none none o3)]
  rw [seq_nx (st7 x1 x2 (some (.d x3)) (some (.d (.str [119, 105, 116, 104, 111, 117, 116]))) none none none none none o3)]
  rw [seq_nx (st8 m1 m2 (some (.d x3)) (some (.d (.str [119, 105, 116, 104, 111, 117, 116]))) none none none none o3)]
  obtain ⟨x4, o4, e9, b9, m9⟩ := draw_nx (F := F8) (F' := sem pd 37) (iO := 34) (iN := 33) (j := 6) (σ := [some (.r 0), some (.d x1), some (.d x2), some (.d x3), some (.d (.str [119, 105, 116, 104, 111, 117, 116])), some (.d (lots x1 x2)), none, none, none, some (.d dTerm), some (.d dSets), none]) (o := o3) hO hN b3 (by decide) rfl (de9 (some (.d x1)) (some (.d x2)) (some (.d x3)) (some (.d (.str [119, 105, 116, 104, 111, 117, 116]))) (some (.d (lots x1 x2))) none none none none o3) (show 0 < 6 by decide) (show 6 < 1000 by decide) (show 6 < 12 by decide)
  have e9' : denS F8 s38_9 [some (.r 0), some (.d x1), some (.d x2), some (.d x3), some (.d (.str [119, 105, 116, 104, 111, 117, 116])), some (.d (lots x1 x2)), none, none, none, some (.d dTerm), some (.d dSets), none] [o3] = .nx [some (.r 0), some (.d x1), some (.d x2), some (.d x3), some (.d (.str [119, 105, 116, 104, 111, 117, 116])), some (.d (lots x1 x2)), some (.d x4), none, none, some (.d dTerm), some (.d dSets), none] [o4] := e9
  rw [seq_nx e9']
  rw [seq_nx (st10 m9 (some (.d x1)) (some (.d x2)) (some (.d x3)) (some (.d (.str [119, 105, 116, 104, 111, 117, 116]))) (some (.d (lots x1 x2))) none none none o4)]
  obtain ⟨x5, o5, e11, b11, m11⟩ := draw_nx (F := F8) (F' := sem pd 37) (iO := 34) (iN := 33) (j := 7) (σ := [some (.r 0), some (.d x1), some (.d x2), some (.d x3), some (.d (.str [119, 105, 116, 104, 111, 117, 116])), some (.d (lots x1 x2)), some (.d x4), none, none, some (.d dTerm), some (.d dSets), none]) (o := o4) hO hN b9 (by decide) rfl (de11 (some (.d x1)) (some (.d x2)) (some (.d x3)) (some (.d (.str [119, 105, 116, 104, 111, 117, 116]))) (some (.d (lots x1 x2))) (some (.d x4)) none none none o4) (show 0 < 7 by decide) (show 7 < 1000 by decide) (show 7 < 12 by decide)
  have e11' : denS F8 s38_11 [some (.r 0), some (.d x1), some (.d x2), some (.d x3), some (.d (.str [119, 105, 116, 104, 111, 117, 116])), some (.d (lots x1 x2)), some (.d x4), none, none, some (.d dTerm), some (.d dSets), none] [o4] = .nx [some (.r 0), some (.d x1), some (.d x2), some (.d x3), some (.d (.str [119, 105, 116, 104, 111, 117, 116])), some (.d (lots x1 x2)), some (.d x4), some (.d x5), none, some (.d dTerm), some (.d dSets), none] [o5] := e11
  rw [seq_nx e11']
  obtain ⟨x6, o6, e12, b12, m12⟩ := draw_nx (F := F8) (F' := sem pd 37) (iO := 34) (iN := 33) (j := 7) (σ := [some (.r 0), some (.d x1), some (.d x2), some (.d x3), some (.d (.str [119, 105, 116, 104, 111, 117, 116])), some (.d (lots x1 x2)), some (.d x4), some (.d x5), none, some (.d dTerm), some (.d dSets), none]) (o := o5) hO hN b11 (by decide) rfl (de12 x5 (some (.d x1)) (some (.d x2)) (some (.d x3)) (some (.d (.str [119, 105, 116, 104, 111, 117, 116]))) (some (.d (lots x1 x2))) (some (.d x4)) none none o5) (show 0 < 6 by decide) (show 6 < 1000 by decide) (show 7 < 12 by decide)
  have e12' : denS F8 s38_12 [some (.r 0), some (.d x1), some (.d x2), some (.d x3), some (.d (.str [119, 105, 116, 104, 111, 117, 116])), some (.d (lots x1 x2)), some (.d x4), some (.d x5), none, some (.d dTerm), some (.d dSets), none] [o5] = .nx [some (.r 0), some (.d x1), some (.d x2), some (.d x3), some (.d (.str [119, 105, 116, 104, 111, 117, 116])), some (.d (lots x1 x2)), some (.d x4), some (.d x6), none, some (.d dTerm), some (.d dSets), none] [o6] := e12
  rw [seq_nx e12']
  have m6 : x6 ∈ mOdd1 ++ mOdd2 := by
    rcases List.mem_cons.mp m12 with e | e
    · rw [e]; exact List.mem_append_left _ m11
    · exact List.mem_append_right _ e
  rw [seq_nx (st13 m6 (some (.d x1)) (some (.d x2)) (some (.d x3)) (some (.d (.str [119, 105, 116, 104, 111, 117, 116]))) (some (.d (lots x1 x2))) (some (.d x4)) none none o6)]
  rw [seq_nx (st14 (some (.d x1)) (some (.d x2)) (some (.d x3)) (some (.d (.str [109, 101, 109, 98, 101, 114, 115]))) (some (.d (lots x1 x2))) (some (.d x4)) (some (.d x6)) none none o6)]
  rw [seq_nx (st15 (some (.d x1)) (some (.d x2)) (some (.d x3)) (some (.d (.str [109, 101, 109, 98, 101, 114, 115]))) (some (.d (lots x1 x2))) (some (.d x4)) (some (.d x6)) none o6)]
  rw [seq_rt (st16 m1 (some (.d x2)) (some (.d x3)) (some (.d (.str [109, 101, 109, 98, 101, 114, 115]))) (some (.d (lots x1 x2))) (some (.d x4)) (some (.d x6)) none o6)]
  exact ⟨_, rfl⟩
abbrev F9 : FT := sem pd 39
theorem f39 (x : W) (h : Hh) : sem pd 40 39 [x] h = retR false h.length (denB (sem pd 39) b39 (startA 6 [x]) h) := rfl
theorem hB (w x : W) (h : Hh) : sem pd 39 32 [w, x] h = retR true h.length (denB (sem pd 38) bBox (startA 4 [w, x]) h) := rfl
theorem rest (d : D) (y : Option W) : ∃ σ h2, (sSeq (denS F9 s39_1) (sSeq (denS F9 s39_2) (sSeq (denS F9 s39_3) (sSeq (denS F9 s39_4) (sSeq (denS F9 s39_5) sNil))))) [some (.d d), y, none, none, none, none] [] = .rt σ h2 ∧ σ = .d (.bl true) := ⟨.d (.bl true), [], by kernel_rfl, rfl⟩
theorem keeps (ns : List Int) (hl : ns.length ≤ 63) : ∃ h', sem pd 40 39 [.d (.scr (ns.map D.int))] [] = .ok (.d (.bl true)) h' := by
  rw [f39, b39_eq, show startA 6 [W.d (.scr (ns.map D.int))] = [some (.d (.scr (ns.map D.int))), none, none, none, none, none] from rfl]
  obtain ⟨y, e⟩ := law_loop (F := F9) (M := 6) (iR := 38) (iB := 32) (j := 1) (xs := ns) (σ := [some (.d (.scr (ns.map D.int))), none, none, none, none, none]) hl (by decide) (by decide) rfl (show 1 < 6 by decide) (by decide) hB fun o b => right_ok b
  have e' : denS F9 s39_0 [some (.d (.scr (ns.map D.int))), none, none, none, none, none] [] = .nx [some (.d (.scr (ns.map D.int))), y, none, none, none, none] [] := e
  rw [seq_nx e']
  obtain ⟨σ, h2, e2, rfl⟩ := rest (.scr (ns.map D.int)) y
  rw [e2]
  exact ⟨_, rfl⟩
end KL
set_option linter.all false
set_option maxRecDepth 100000
set_option maxHeartbeats 0
open PySem PySem.W PySem.Calls PyProof.Rows
theorem PySem.Challenge.cw_wishsure_k04_errors_of_terms_holds : PySem.Challenge.rw_wishsure_k04_errors_of_terms.Holds := by
  w_on; o_law
  refine HandSHeadRun.head_any (r := OpenLaw.row PySem.Challenge.rw_wishsure_k04_errors_of_terms) (q := view (OpenLaw.row PySem.Challenge.rw_wishsure_k04_errors_of_terms).prog [KL.lawAt]) (H := KL.hk) (ob := KL.ob) (M := 4000) (loose := KL.ls) (d := HandSHeadRun.topDef (OpenLaw.row PySem.Challenge.rw_wishsure_k04_errors_of_terms).prog KL.lawAt) (kwd := []) KL.ob_eq (by kernel_rfl) (fun s => by kernel_rfl) KL.run (by kernel_rfl) (by kernel_rfl) (by kernel_rfl) (by rfl) (by first | assumption | decide +kernel) (by decide +kernel) ⟨rfl, rfl, rfl, rfl, rfl, by decide +kernel⟩ ?hw ?hc
  case hw => w_witness2
  case hc =>
    exact Pe.law_end (l := PySem.Challenge.rw_wishsure_k04_errors_of_terms) KL.pd KL.tb KL.bl KL.xs KL.lawIx 40 KL.d39 rfl (by kernel_rfl) ⟨rfl, by decide, by decide⟩ KL.pdc KL.bnd rfl rfl (by kernel_rfl) rfl (List.mem_of_getElem? (i := KL.lawIx) (by kernel_rfl)) KL.keeps

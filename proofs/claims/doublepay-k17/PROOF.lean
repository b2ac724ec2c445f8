import PyProof.Rows.All
import Wide.All
import OpenK.AllK
import Wide.FinOn
import HandS.ForMost
import HandS.Codes
import HandS.TupAny
import HandS.Wide
import HandS.IsInst
import HandS.Strs
import HandS.TupSets
import HandS.SortInts
import HandS.SetFor
import HandS.Flow
import HandS.Walk
import HandS.Conv
import KE.SortData
import KE.DatumOrd
import KE.GoesMore
import KE.GoesEnum
import KE.KDictWalk
import PySem.Challenge.RW_doublepay_k17_whole_necklaces
set_option Elab.async false
set_option linter.all false
set_option maxRecDepth 100000
set_option maxHeartbeats 4000000
namespace DP
/-! plain functions: what the program's defs compute -/
/-- a before b, as Python orders tuples of ints -/
def ltL : List Int → List Int → Bool
  | [], [] => false
  | [], _ :: _ => true
  | _ :: _, [] => false
  | x :: xs, y :: ys => if x = y then ltL xs ys else decide (x < y)
def gcdI (a b : Int) : Int := ((Nat.gcd a.natAbs b.natAbs : Nat) : Int)
def powM (f : Int) : Nat → Int
  | 0 => 1
  | m + 1 => powM f m * f
def owedM (f : Int) (c : List Int) (p : Nat) : List Int := (c.map fun x => f * x).set p (f * c.getD p 0 - (f - 1) * c.sum)
def canPay (f : Int) (c : List Int) (k : Nat) : Bool := decide ((f - 1) * c.sum ≤ f * c.getD k 0)
def payersM (f : Int) (c : List Int) : List Nat := (List.range c.length).filter (canPay f c)
def numStep (f : Int) (acc : List Int) (p : Int) : List Int := (acc.map fun x => f * x).set p.toNat (f * acc.getD p.toNat 0 + (f - 1))
def numsM (f : Int) (n : Nat) (w : List Int) : List Int := w.foldl (numStep f) (List.replicate n 0)
def gcdL (c : List Int) : Int := c.foldl gcdI 0
def sharedM (c : List Int) : List Int := c.map fun x => x / gcdL c
def stepM (f : Int) (c : List Int) : Option (List Int) :=
  match payersM f c with
  | [] => none
  | p :: _ => some (owedM f c p)
def foreverL (f : Int) : Nat → Option (List Int) → List (List Int) → Option Bool
  | 0, _, _ => none
  | _ + 1, none, _ => some false
  | n + 1, some h, seen => if seen.contains h then some true else foreverL f n (stepM f h) (h :: seen)
def foreverM (f : Int) (c : List Int) : Option Bool :=
  if f = 2 ∧ ((sharedM c).filter fun x => decide (0 < x)).length < 3 then some true else foreverL f 40 (some (sharedM c)) []
def splitL (f : Int) : Nat → Int → Int → Option (Int × Int)
  | 0, _, _ => none
  | n + 1, rest, ahead => if 1 < gcdI rest f then splitL f n (rest / gcdI rest f) (ahead + 1) else some (ahead, rest)
def orderL (f rest : Int) : Nat → Int → Int → Option Int
  | 0, _, _ => none
  | n + 1, found, here => if here = 1 then some found else orderL f rest n (found + 1) (here * f % rest)
def orderM (f rest : Int) : Option Int := if rest = 1 then some 1 else orderL f rest 20 1 (f % rest)
def alongL (f : Int) : Nat → List Int → Option (List Int)
  | 0, _ => some []
  | n + 1, c => match payersM f c with
    | [] => none
    | p :: _ => (alongL f n (owedM f c p)).map fun r => (p : Int) :: r
def wordsM (n : Nat) : Nat → List (List Int)
  | 0 => [[]]
  | m + 1 => (wordsM n m).flatMap fun w => (List.range n).map fun (p : Nat) => w ++ [(p : Int)]
def insL (x : List Int) : List (List Int) → List (List Int)
  | [] => [x]
  | y :: r => if ltL y x then y :: insL x r else x :: y :: r
def sortL : List (List Int) → List (List Int)
  | [] => []
  | x :: r => insL x (sortL r)
/-- without those that stand there already -/
def insU (x : List Int) : List (List Int) → List (List Int)
  | [] => [x]
  | y :: r => if ltL y x then y :: insU x r else if x = y then y :: r else x :: y :: r
def sortU : List (List Int) → List (List Int)
  | [] => []
  | x :: r => insU x (sortU r)
def turnL (w : List Int) (k : Nat) : List Int := w.drop k ++ w.take k
def minL : List (List Int) → List Int
  | [] => []
  | x :: r => r.foldl (fun a y => if ltL y a then y else a) x
def turns (w : List Int) (m : Nat) : List (List Int) := (List.range m).map (turnL w)
def leastTurn (m : Nat) (w : List Int) : List Int := minL (turns w m)
def necks (n m : Nat) : List (List Int) := sortU ((wordsM n m).map (leastTurn m))
def necklacesM (n m : Nat) : Int := ((List.range m).map fun t => powM n (Nat.gcd t m)).sum / m
/-- cycle_lengths -/
def cycsOf (w : List Int) (m : Nat) : List Nat := ((List.range m).map (· + 1)).filter fun k => turnL w k == w
def putC (k : Nat) : List (Nat × Int) → List (Nat × Int)
  | [] => [(k, 1)]
  | (j, n) :: r => if j = k then (j, n + 1) :: r else (j, n) :: putC k r
def countsM (m : Nat) (ws : List (List Int)) : List (Nat × Int) := ws.foldl (fun cs w => putC ((cycsOf w m).headD 0) cs) []
def insN (x : Int) : List Int → List Int
  | [] => [x]
  | y :: r => if y < x then y :: insN x r else if x = y then y :: r else x :: y :: r
def sortN : List Int → List Int
  | [] => []
  | x :: r => insN x (sortN r)
def cyclesM (n m : Nat) : List (Int × Int) :=
  let cs := countsM m (wordsM n m)
  (sortN (cs.map fun p => (p.1 : Int))).map fun k => (k, ((cs.lookup k.toNat).getD 0) / k)
/-- the law's own -/
def lensM (n m : Nat) : List Int := (necks n m).map fun w => ((sortU (turns w m)).length : Int)
def dueM (n m : Nat) : List (Int × Int) := let ls := lensM n m; (sortN ls).map fun k => (k, (ls.count k : Int))
def toldM (f : Int) (n m : Nat) : List (List Int) := sortL ((wordsM n m).map (numsM f n))
/-- forever_tables -/
def leastM (f : Int) (n : Nat) (total : Int) (w : List Int) : List Int := (numsM f n w).map fun x => (total * x + powM f w.length - 1) / powM f w.length
def fitsM (f : Int) (n : Nat) (total : Int) (w : List Int) : Bool := decide ((leastM f n total w).sum ≤ total)
def moreM (f : Int) (n : Nat) (total : Int) (ws : List (List Int)) : List (List Int) := ws.flatMap fun w => ((List.range n).map fun (p : Nat) => w ++ [(p : Int)]).filter (fitsM f n total)
def wordsT (f : Int) (n : Nat) (total : Int) : Nat → List (List Int) → Nat → Option (List (List Int))
  | 0, _, _ => none
  | k + 1, ws, many => if powM f many ≤ total then (if ws.length ≤ 10000 then wordsT f n total k (moreM f n total ws) (many + 1) else none) else some ws
def sharesM : Nat → Nat → List (List Int)
  | 0, _ => []
  | 1, t => [[(t : Int)]]
  | n + 2, t => (List.range (t + 1)).flatMap fun (one : Nat) => (sharesM (n + 1) (t - one)).map fun r => (one : Int) :: r
def addT (f : Int) (fd : List (List Int × Bool)) (c : List Int) : Option (List (List Int × Bool)) :=
  if (fd.map (·.1)).contains c then some fd else if 0 < gcdL c ∧ gcdL c < 1000000 ∧ fd.length < 10000 then (foreverM f c).map fun b => fd ++ [(c, b)] else none
def addW (f : Int) (n : Nat) (total : Int) (fd : List (List Int × Bool)) (w : List Int) : Option (List (List Int × Bool)) :=
  let l := leastM f n total w
  if 0 ≤ l.sum ∧ l.sum ≤ total then (sharesM n (total - l.sum).toNat).foldlM (fun fd r => addT f fd (List.zipWith (· + ·) l r)) fd else none
def tablesM (f : Int) (n : Nat) (total : Int) : Option (List (List Int)) := do
  let ws ← wordsT f n total 10 [[]] 0
  let fd ← ws.foldlM (addW f n total) []
  pure (sortL ((fd.filter (·.2)).map (·.1)))
/-- word_again -/
def periodM (f : Int) (c : List Int) : Option (Int × Int) := do
  let (a, r) ← splitL f 10 (sharedM c).sum 0
  let o ← orderM f r
  pure (a, o)
def maxI : List Int → Int
  | [] => 0
  | x :: r => r.foldl (fun a b => if a < b then b else a) x
def againM (f : Int) (c : List Int) : Option (List Int) := do
  let b ← foreverM f c
  let (a, o) ← periodM f c
  if b = true ∧ (a ≤ 0 ∨ c.sum ≤ maxI c) ∧ o ≤ 60 ∧ 1 ≤ o then alongL f o.toNat c else none
/-- the law's forever -/
def lawPay (f : Int) (c : List Int) : List Nat := (List.range c.length).filter fun k => decide (0 ≤ c.getD k 0 - ((c.map fun x => (f - 1) * x).sum - (f - 1) * c.getD k 0))
def lawOwed (f : Int) (c : List Int) (p : Nat) : List Int := (c.map fun x => x + (f - 1) * x).set p (c.getD p 0 - ((c.map fun x => (f - 1) * x).sum - (f - 1) * c.getD p 0))
def lawForL (f : Int) : Nat → List Int → List (List Int) → Option Bool
  | 0, _, _ => none
  | n + 1, c, seen => if seen.contains c then some true else match lawPay f c with
    | [] => some false
    | p :: _ => lawForL f n (lawOwed f c p) (c :: seen)
def okPer (f : Int) (m : Nat) (c : List Int) (a r : Int) : Bool :=
  decide (0 < r) && match orderM f r with
    | some o => (decide (a ≤ 0) || decide (c.sum ≤ maxI c)) && decide (1 ≤ o) && decide (o ≤ 60) && (alongL f o.toNat c).isSome && decide (m % o.toNat = 0)
    | none => false
def okPick (f : Int) (m : Nat) (c : List Int) : Bool :=
  c.all (fun x => decide (0 ≤ x) && decide (x ≤ 1000000)) && decide (0 < c.sum) && decide (0 < gcdL c) && decide (gcdL c < 1000000) &&
  (foreverM f c == some true) && (lawForL f 40 c [] == some true) &&
  match splitL f 10 (sharedM c).sum 0 with
  | some (a, r) => okPer f m c a r
  | none => false
def okTop (n m : Nat) : Bool :=
  decide (necklacesM n m = ((necks n m).length : Int)) && (cyclesM n m == dueM n m) && decide ((necks n m).length ≤ 76) && decide ((sortN (lensM n m)).length < 64)
def okMid (f : Int) (n m : Nat) : Bool :=
  decide ((toldM f n m).length = (wordsM n m).length) && (toldM f n m).all (fun c => decide (c.sum = powM f m - 1)) &&
  (decide (100 < powM f m) || (tablesM f n (powM f m - 1) == some (toldM f n m))) && (toldM f n m).all (okPick f m)
end DP
namespace DP
theorem ltL_iff : ∀ xs ys : List Int, ltL xs ys = true ↔ xs < ys
  | [], [] => by simp [ltL]
  | [], y :: ys => by simp [ltL]
  | x :: xs, [] => by simp [ltL]
  | x :: xs, y :: ys => by
    unfold ltL
    rw [List.cons_lt_cons_iff]
    by_cases h : x = y
    · rw [if_pos h, ltL_iff xs ys]
      constructor
      · exact fun q => .inr ⟨h, q⟩
      · rintro (q | q)
        · omega
        · exact q.2
    · rw [if_neg h, decide_eq_true_eq]
      constructor
      · exact .inl
      · rintro (q | q)
        · exact q
        · exact absurd q.1 h
theorem ltL_no {xs ys : List Int} : ltL xs ys = false ↔ ys ≤ xs := by
  rw [← List.not_lt, ← ltL_iff]
  simp
theorem le_antisymm {a b : List Int} (h : ltL a b = false) (h' : ltL b a = false) : a = b := List.le_antisymm (ltL_no.mp h') (ltL_no.mp h)
theorem le_trans {a b c : List Int} (h : ltL b a = false) (h' : ltL c b = false) : ltL c a = false := ltL_no.mpr (List.le_trans (ltL_no.mp h) (ltL_no.mp h'))
theorem lt_le {a b : List Int} (h : ltL a b = true) : ltL b a = false := ltL_no.mpr (List.le_of_lt ((ltL_iff _ _).mp h))
theorem ltL_self (a : List Int) : ltL a a = false := ltL_no.mpr (List.le_refl a)
/-! sorted lists -/
theorem one_sorted {α : Type} {le : α → α → Bool} (anti : ∀ a b, le a b = true → le b a = true → a = b) (refl : ∀ a, le a a = true) : ∀ {l m : List α}, l.Pairwise (fun a b => le a b = true) → m.Pairwise (fun a b => le a b = true) → l.Perm m → l = m
  | [], m, _, _, p => (List.nil_perm.mp p).symm
  | x :: r, [], _, _, p => absurd p.length_eq (by simp)
  | x :: r, y :: t, hl, hm, p => by
    have hxy : x = y := by
      have h1 : x ∈ y :: t := p.mem_iff.mp List.mem_cons_self
      have h2 : y ∈ x :: r := p.mem_iff.mpr List.mem_cons_self
      refine anti x y ?_ ?_
      · rcases List.mem_cons.mp h2 with e | e
        · rw [e]; exact refl x
        · exact (List.pairwise_cons.mp hl).1 y e
      · rcases List.mem_cons.mp h1 with e | e
        · rw [e]; exact refl y
        · exact (List.pairwise_cons.mp hm).1 x e
    subst hxy
    rw [one_sorted anti refl (List.pairwise_cons.mp hl).2 (List.pairwise_cons.mp hm).2 (List.perm_cons x |>.mp p)]
abbrev leL (a b : List Int) : Bool := !ltL b a
theorem leL_iff {a b : List Int} : leL a b = true ↔ ltL b a = false := by simp [leL]
theorem insL_perm (x : List Int) : ∀ l, (insL x l).Perm (x :: l)
  | [] => .refl _
  | y :: r => by
    unfold insL
    split
    · exact ((insL_perm x r).cons y).trans (List.Perm.swap x y r)
    · exact .refl _
theorem sortL_perm : ∀ l, (sortL l).Perm l
  | [] => .refl _
  | x :: r => (insL_perm x (sortL r)).trans ((sortL_perm r).cons x)
theorem insL_sorted (x : List Int) : ∀ {l}, l.Pairwise (fun a b => leL a b = true) → (insL x l).Pairwise (fun a b => leL a b = true)
  | [], _ => List.pairwise_singleton _ _
  | y :: r, h => by
    obtain ⟨h1, h2⟩ := List.pairwise_cons.mp h
    unfold insL
    split
    · rename_i q
      refine List.pairwise_cons.mpr ⟨fun z hz => ?_, insL_sorted x h2⟩
      rcases List.mem_cons.mp ((insL_perm x r).mem_iff.mp hz) with e | e
      · rw [e]; exact leL_iff.mpr (lt_le q)
      · exact h1 z e
    · rename_i q
      have q' : ltL y x = false := by simpa using q
      refine List.pairwise_cons.mpr ⟨fun z hz => ?_, h⟩
      rcases List.mem_cons.mp hz with e | e
      · rw [e]; exact leL_iff.mpr q'
      · exact leL_iff.mpr (le_trans q' (leL_iff.mp (h1 z e)))
theorem sortL_sorted : ∀ l, (sortL l).Pairwise (fun a b => leL a b = true)
  | [] => .nil
  | x :: r => insL_sorted x (sortL_sorted r)
theorem sortL_one {l m : List (List Int)} (h : m.Pairwise (fun a b => leL a b = true)) (p : m.Perm l) : m = sortL l :=
  one_sorted (le := leL) (fun a b h1 h2 => le_antisymm (leL_iff.mp h2) (leL_iff.mp h1)) (fun a => leL_iff.mpr (ltL_self a)) h (sortL_sorted l) (p.trans (sortL_perm l).symm)
/-! sets -/
theorem insU_mem (x : List Int) : ∀ l z, z ∈ insU x l ↔ z = x ∨ z ∈ l
  | [], z => by simp [insU]
  | y :: r, z => by
    unfold insU
    split
    · rw [List.mem_cons, insU_mem x r z, List.mem_cons]
      constructor
      · rintro (h | h | h) <;> simp [h]
      · rintro (h | h | h) <;> simp [h]
    · split
      · rename_i e
        subst e
        simp
      · simp
theorem sortU_mem : ∀ l z, z ∈ sortU l ↔ z ∈ l
  | [], z => by simp [sortU]
  | x :: r, z => by
    show z ∈ insU x (sortU r) ↔ _
    rw [insU_mem, sortU_mem r z, List.mem_cons]
theorem insU_sorted (x : List Int) : ∀ {l}, l.Pairwise (fun a b => ltL a b = true) → (insU x l).Pairwise (fun a b => ltL a b = true)
  | [], _ => List.pairwise_singleton _ _
  | y :: r, h => by
    obtain ⟨h1, h2⟩ := List.pairwise_cons.mp h
    unfold insU
    split
    · rename_i q
      refine List.pairwise_cons.mpr ⟨fun z hz => ?_, insU_sorted x h2⟩
      rcases (insU_mem x r z).mp hz with e | e
      · rw [e]; exact q
      · exact h1 z e
    · rename_i q
      have q' : ltL y x = false := by simpa using q
      split
      · exact h
      · rename_i ne
        have xy : ltL x y = true := by
          cases e : ltL x y with
          | true => rfl
          | false => exact absurd (le_antisymm e q') ne
        refine List.pairwise_cons.mpr ⟨fun z hz => ?_, h⟩
        rcases List.mem_cons.mp hz with e | e
        · rw [e]; exact xy
        · exact (ltL_iff _ _).mpr (List.lt_trans ((ltL_iff _ _).mp xy) ((ltL_iff _ _).mp (h1 z e)))
theorem sortU_sorted : ∀ l, (sortU l).Pairwise (fun a b => ltL a b = true)
  | [] => .nil
  | x :: r => insU_sorted x (sortU_sorted r)
theorem nodup_of_lt {l : List (List Int)} (h : l.Pairwise (fun a b => ltL a b = true)) : l.Nodup :=
  h.imp fun {a b} q e => by
    rw [e, ltL_self] at q
    cases q
theorem sortU_one {l m : List (List Int)} (h : m.Pairwise (fun a b => leL a b = true)) (nd : m.Nodup) (mm : ∀ z, z ∈ m ↔ z ∈ l) : m = sortU l := by
  have hs : (sortU l).Pairwise (fun a b => leL a b = true) := (sortU_sorted l).imp fun q => leL_iff.mpr (lt_le q)
  refine one_sorted (le := leL) (fun a b h1 h2 => le_antisymm (leL_iff.mp h2) (leL_iff.mp h1)) (fun a => leL_iff.mpr (ltL_self a)) h hs ?_
  exact (List.perm_ext_iff_of_nodup nd (nodup_of_lt (sortU_sorted l))).mpr fun z => (mm z).trans (sortU_mem l z).symm
theorem sortU_len {l m : List (List Int)} (nd : m.Nodup) (mm : ∀ z, z ∈ m ↔ z ∈ l) : m.length = (sortU l).length :=
  ((List.perm_ext_iff_of_nodup nd (nodup_of_lt (sortU_sorted l))).mpr fun z => (mm z).trans (sortU_mem l z).symm).length_eq
/-! sets of numbers -/
theorem insN_mem (x : Int) : ∀ l z, z ∈ insN x l ↔ z = x ∨ z ∈ l
  | [], z => by simp [insN]
  | y :: r, z => by
    unfold insN
    split
    · rw [List.mem_cons, insN_mem x r z, List.mem_cons]
      constructor
      · rintro (h | h | h) <;> simp [h]
      · rintro (h | h | h) <;> simp [h]
    · split
      · rename_i e
        subst e
        simp
      · simp
theorem sortN_mem : ∀ l z, z ∈ sortN l ↔ z ∈ l
  | [], z => by simp [sortN]
  | x :: r, z => by
    show z ∈ insN x (sortN r) ↔ _
    rw [insN_mem, sortN_mem r z, List.mem_cons]
theorem insN_sorted (x : Int) : ∀ {l}, l.Pairwise (· < ·) → (insN x l).Pairwise (· < ·)
  | [], _ => List.pairwise_singleton _ _
  | y :: r, h => by
    obtain ⟨h1, h2⟩ := List.pairwise_cons.mp h
    unfold insN
    split
    · rename_i q
      refine List.pairwise_cons.mpr ⟨fun z hz => ?_, insN_sorted x h2⟩
      rcases (insN_mem x r z).mp hz with e | e
      · rw [e]; exact q
      · exact h1 z e
    · split
      · exact h
      · rename_i q ne
        refine List.pairwise_cons.mpr ⟨fun z hz => ?_, h⟩
        rcases List.mem_cons.mp hz with e | e
        · omega
        · have := h1 z e
          omega
theorem sortN_sorted : ∀ l, (sortN l).Pairwise (· < ·)
  | [] => .nil
  | x :: r => insN_sorted x (sortN_sorted r)
theorem sortN_one {l m : List Int} (h : m.Pairwise (· < ·)) (mm : ∀ z, z ∈ m ↔ z ∈ l) : m = sortN l := by
  have nd : ∀ {k : List Int}, k.Pairwise (· < ·) → k.Nodup := fun h => h.imp fun {a b} q e => by omega
  refine one_sorted (le := fun a b : Int => decide (a ≤ b)) (fun a b h1 h2 => ?_) (fun a => decide_eq_true (Int.le_refl a)) (h.imp fun {a b} q => decide_eq_true (by omega)) ((sortN_sorted l).imp fun {a b} q => decide_eq_true (by omega)) ?_
  · have := of_decide_eq_true h1
    have := of_decide_eq_true h2
    omega
  · exact (List.perm_ext_iff_of_nodup (nd h) (nd (sortN_sorted l))).mpr fun z => (mm z).trans (sortN_mem l z).symm
end DP
/-! rules of my own, beside the layer's -/
namespace DK
open PySem PySem.Spec PyProof.Rows L2

/-! ### heaps that grow -/
theorem same_tup {K : PySem.W.Frag} {H H' : Hp} {a : Addr} {xs : List V} (e : Same H H') (h : SqT K H a xs) : SqT K H' a xs := by
  rcases h with h | h
  · rcases h with h | ⟨o, h⟩
    · exact Or.inl (Or.inl (e a _ h))
    · exact Or.inl (Or.inr ⟨o, e a _ h⟩)
  · exact Or.inr h
theorem same_new {H : Hp} {p : Addr} {o : HO} (np : H p = none) : Same H (upd H p o) := fun b u hb => by
  rw [upd_ne (ne_of_none hb np)]
  exact hb
/-- the items of two lists, one by one -/
theorem paired_at {α β : Type} {R : α → β → Prop} : ∀ {xs : List α} {ys : List β}, Paired R xs ys → ∀ {i : Nat} {x : α}, xs[i]? = some x → ∃ y, ys[i]? = some y ∧ R x y
  | _, _, .nil, i, x, h => by simp at h
  | _, _, .cons r t, 0, x, h => by
    simp only [List.getElem?_cons_zero, Option.some.injEq] at h
    subst h
    exact ⟨_, rfl, r⟩
  | _, _, .cons r t, i + 1, x, h => by
    simp only [List.getElem?_cons_succ] at h ⊢
    exact paired_at t h
theorem paired_snoc {α β : Type} {R : α → β → Prop} : ∀ {xs : List α} {ys : List β} {x : α} {y : β}, Paired R xs ys → R x y → Paired R (xs ++ [x]) (ys ++ [y])
  | _, _, _, _, .nil, h => .cons h .nil
  | _, _, _, _, .cons r t, h => .cons r (paired_snoc t h)
theorem paired_mono {α β : Type} {R S : α → β → Prop} (k : ∀ a b, R a b → S a b) : ∀ {xs : List α} {ys : List β}, Paired R xs ys → Paired S xs ys
  | _, _, .nil => .nil
  | _, _, .cons r t => .cons (k _ _ r) (paired_mono k t)
theorem paired_len {α β : Type} {R : α → β → Prop} : ∀ {xs : List α} {ys : List β}, Paired R xs ys → xs.length = ys.length
  | _, _, .nil => rfl
  | _, _, .cons _ t => congrArg (· + 1) (paired_len t)

section
variable {X : Cx}
/-! ### xs[i] as a value to be changed -/
def rGetL (K : PySem.W.Frag) : V → V → Hp → VK → Prop := fun o i H Q => ∃ (p : Addr) (xs : List V) (j : Nat) (v : V), o = .ref p ∧ i = .int (j : Int) ∧ SqL K H p xs ∧ xs[j]? = some v ∧ Q v H
theorem get_list : PGet X (rGetL X.K) := by
  intro pins s σ H o i ov iv Q I ro ri h
  obtain ⟨p, xs, j, v, rfl, rfl, hq, hx, q⟩ := h
  cases ro
  obtain ⟨t, rfl⟩ := ri
  obtain ⟨its, rv, pl, hz⟩ := I.list hq
  obtain ⟨u, hu, ru⟩ := rv.get hx
  have hj : j < xs.length := (List.getElem?_eq_some_iff.mp hx).1
  have hs := sizeLine_eq
  refine wpAny_getItem_list pl.isList (by omega) (by omega) (x := u) ?_ ⟨v, H, I, ru, q⟩
  simpa using hu

/-! ### sum, max of a tuple of ints -/
def rSumT (K : PySem.W.Frag) : List V → Hp → VK → Prop := fun vs H Q => ∃ (a : Addr) (ns : List Int), vs = [V.ref a] ∧ SqT K H a (ns.map V.int) ∧ Q (.int ns.sum) H
theorem cr_sumT (hc : X.calm = true) : CallR X (.builtin "sum") (rSumT X.K) := by
  intro pins s σ H vs us Q I r h
  obtain ⟨a, ns, rfl, hs, q⟩ := h
  obtain ⟨its, rv, ht, _⟩ := I.tuple hs
  rw [Vals.ref1 r]
  have hi := rv.ints
  obtain ⟨ys, ey⟩ := hi.allInts.items
  have hn : ys.toList.map (·.1) = ns := by
    rw [← nums_intItems, ← ey]
    exact hi.numsOf
  have ht' : s.heap.IsTuple a (intItems ys) := by
    rw [← ey]
    exact ht
  have hlt : a < s.heap.objs.size := ht.lt
  refine call_sum_walkG (wpAny_pyIter_tuple ht' ?_)
  refine ⟨_, _, _, _, _, _, numAt ys, rfl, Walks.tuple (A := X.A.in1) (I.ok.hd hc) _ a (Nat.ne_of_lt hlt) (intItems ys), ⟨⟨_, Heap.get?_push_size _ rfl, rfl, rfl⟩, ht'.push _⟩, fun b hb => ?_, fun _ _ => intItems_at, fun h' tk t' hk => ?_⟩
  · show b < (s.heap.push _).objs.size
    rw [Heap.size_push]
    rcases List.mem_cons.mp hb with z | z
    · rw [z]
      exact Nat.lt_succ_self _
    · rw [List.mem_singleton.mp z]
      exact Nat.lt_succ_of_lt hlt
  · refine ⟨.int _, H, I.kept (t' := tk) (h' := h') fun b o e => hk b o (fun z => ?_) (Heap.get?_push_of_some _ e), ⟨t', ?_⟩, q⟩
    · rw [List.mem_singleton.mp z] at e
      exact absurd (Heap.lt_size e) (Nat.lt_irrefl _)
    · rw [preSum_eq, List.take_of_length_le (by simp [intItems]), hn]
def maxI : List Int → Int
  | [] => 0
  | x :: r => r.foldl (fun a b => if a < b then b else a) x
def rMaxT (K : PySem.W.Frag) : List V → Hp → VK → Prop := fun vs H Q => ∃ (a : Addr) (n : Int) (ns : List Int), vs = [V.ref a] ∧ SqT K H a ((n :: ns).map V.int) ∧ Q (.int (maxI (n :: ns))) H
theorem hold_ints {h : Heap} : ∀ {us : List Value} {ns : List Int}, IntsAre us ns → PySem.W.HoldAll h us ns
  | _, _, .nil => PySem.W.HoldAll.nil
  | _, _, .cons n t r => PySem.W.HoldAll.cons (PySem.W.holds_int n t) (hold_ints r)
theorem cr_maxT (hc : X.calm = true) (hu : X.A.units + 2 < cLine) : CallR X (.builtin "max") (rMaxT X.K) := by
  intro pins s σ H vs us Q I r h
  obtain ⟨a, n, ns, rfl, hs, q⟩ := h
  obtain ⟨its, rv, ht, _⟩ := I.tuple hs
  rw [Vals.ref1 r]
  have hd : PySem.W.HoldAll s.heap its.toArray.toList (n :: ns) := hold_ints (by simpa using rv.ints)
  refine PySem.W.max_tuple_datum (I.ok.hd hc) (show s.heap.IsTuple a its.toArray from ht) hd ?_ fun i v h' tk hi hv hk => ?_
  · show X.A.units + 1 + 0 < cLine
    omega
  · obtain ⟨t, rfl⟩ := PySem.W.int_of_holds hv
    refine ⟨.int _, H, I.kept (t' := tk) hk, ⟨t, rfl⟩, ?_⟩
    have e : PySem.W.maxOf n ns = maxI (n :: ns) := by
      unfold PySem.W.maxOf maxI
      congr 1
      funext x y
      by_cases hxy : x < y
      · rw [if_pos hxy, if_pos (show PySem.W.DatumOrd.lt x y = true from decide_eq_true hxy)]
      · rw [if_neg hxy, if_neg (show ¬ (PySem.W.DatumOrd.lt x y = true) from fun z => hxy (of_decide_eq_true z))]
    rw [e]
    exact q
end
end DK
namespace DK
open PySem PySem.Spec PyProof.Rows L2

/-! ### enumerate of a tuple -/
theorem meets_enum1 {v : Value} {o : Obj} {Hd : Heap → Prop} (B : Begins v o Hd) :
    Meets (Builtin.«enumerate.__new__» ⟨[.type "enumerate", v], []⟩) (fun _ R s => Hd s.heap ∧
      R (.ok (.ret (.ref (s.heap.push o).objs.size))) { s with heap := (s.heap.push o).push { cls := .type "enumerate", data := .fields #[.none, .bool false, .ref s.heap.objs.size, rawInt 0, .none, .none] } }) := by
  refine .of_wp fun prog w A R s h => ?_
  obtain ⟨hp, gs, dr, tk, os⟩ := s
  obtain ⟨hd, hr⟩ := h
  have hsub := sub_enumerate
  have begun : ∀ {A' : Around} {E : Value → Shared → Prop} {Q : Value → Shared → Prop}, Q (.ref hp.objs.size) ⟨hp.push o, gs, dr, tk, os⟩ → wpAny (model prog w) A' (pyIter v) Q E ⟨hp, gs, dr, tk, os⟩ :=
    fun q => B.iter prog w _ _ _ _ hd q
  wp_walk using begun
  refine wpAny_stack_any fun st => wpAny_pure ?_
  split
  · rename_i c _ _ _ _ _
    cases (c == Value.type "enumerate") <;> (wp_walk using begun; exact ⟨_, rfl, hr⟩)
  · wp_walk using begun
    exact ⟨_, rfl, hr⟩
theorem enum_new {prog : Program} {w : World} {A : Around} {E : Value → Shared → Prop} {s : Shared} {v : Value} {o : Obj} {Hd : Heap → Prop} {Q : Value → Shared → Prop} (B : Begins v o Hd) (hd : Hd s.heap)
    (h : ∀ h', IsEnum h' (s.heap.objs.size + 1) s.heap.objs.size 0 .none → h'.get? s.heap.objs.size = some o → (∀ b o, s.heap.get? b = some o → h'.get? b = some o) → Q (.ref (s.heap.objs.size + 1)) { s with heap := h' }) :
    wpAny (model prog w) A (call (.type "enumerate") [v]) Q E s := by
  refine callType_new F.called_enumerate (by decide) (F.typeCall_enumerate_1 _) (F.newCall_enumerate_1 _) (fun obj => F.args_object_init_2 obj _) F.entry_enumerate_new (meets_enum1 B) ⟨hd, ?_⟩
  have sz : (s.heap.push o).objs.size = s.heap.objs.size + 1 := Heap.size_push ..
  show _ ∧ _
  rw [sz]
  have isE : IsEnum ((s.heap.push o).push { cls := .type "enumerate", data := .fields #[.none, .bool false, .ref s.heap.objs.size, rawInt 0, .none, .none] }) (s.heap.objs.size + 1) s.heap.objs.size 0 .none := by
    have g := Heap.get?_push_size (s.heap.push o) (o := { cls := .type "enumerate", data := .fields #[.none, .bool false, .ref s.heap.objs.size, rawInt 0, .none, .none] }) rfl
    rwa [sz] at g
  exact ⟨⟨_, isE, rfl⟩, h _ isE (Heap.get?_push_of_some _ (Heap.get?_push_size _ B.free)) fun b u x => Heap.get?_push_of_some _ (Heap.get?_push_of_some _ x)⟩

/-- the tuple at a as it stands, each item in a new pair -/
def IteT (K : PySem.W.Frag) (a : Addr) : It where
  go := fun i H => ∃ (xs : List V) (x : V), SqT K H a xs ∧ xs[i]? = some x
  yld := fun i H v H' => ∃ T x, v = .ref T ∧ H T = none ∧ H' = upd H T (.tup [.int (i : Nat), x]) ∧ ∀ xs, SqT K H a xs → xs[i]? = some x
  stop := fun i H => ∃ xs : List V, SqT K H a xs ∧ xs.length = i
theorem turn_enumT {P : Program} {w : World} {K : PySem.W.Frag} {elts : List Expr} {kk : Nat} {tpos : Pos} (a e it : Addr) (ea : e ≠ a) (ia : it ≠ a) (ei : e ≠ it) :
    Turn P w K (.Tuple elts kk tpos) (IteT K a) [e, it] e (fun i h => (∃ old, IsEnum h e it ((i : Nat) : Int) old) ∧ h.IsTupleIter it a i) where
  mem := List.mem_cons_self
  obj := fun i h st b hb => by
    obtain ⟨⟨old, he⟩, o, ho, hc, hd⟩ := st
    rcases List.mem_cons.mp hb with z | z
    · subst z
      exact ⟨_, he, fun v q => nomatch q⟩
    · rw [List.mem_singleton.mp z]
      exact ⟨o, ho, fun v q => by rw [hd] at q; cases q⟩
  keep := fun i h h' st k => by
    obtain ⟨⟨old, he⟩, hi⟩ := st
    exact ⟨⟨old, k e List.mem_cons_self _ he⟩, hi.at fun o q => k it (by simp) o q⟩
  item := by
    intro X hP hw hK hc i pins s σ H E I hf st hg
    subst hP hw hK
    obtain ⟨⟨old, he⟩, hit⟩ := st
    obtain ⟨xs, x, hq, hx⟩ := hg
    obtain ⟨its, rv, ht, hz⟩ := I.tuple hq
    obtain ⟨u, hu, ru⟩ := rv.get hx
    have hin : i < its.toArray.size := by
      have := (List.getElem?_eq_some_iff.mp hu).1
      simpa using this
    have le : e < s.heap.objs.size := Heap.lt_size he
    have li : it < s.heap.objs.size := by
      obtain ⟨_, q, _⟩ := hit
      exact Heap.lt_size q
    have dr := Draws.tuple (prog := X.prog) (w := X.w) (A := X.A.in1) (I.ok.hd hc) it a (Ne.symm ia) its.toArray
    refine wpAny_pyNext_enum_itemC dr he ⟨hit, ht⟩ hin ei (by simp [ei, ea]) fun x1 h' tk p1 out st1 hT sz hk => ?_
    have ex : x1 = u := by
      have p2 : its[i]? = some x1 := by simpa using p1
      exact Option.some.inj (p2.symm.trans hu)
    subst ex
    refine ⟨_, rfl, wpAny_letOwnedTupleGo_enum (s := { s with heap := h', toks := tk + 1 }) out fun h2 he2 sb => ?_⟩
    have hT2 : h2.get? s.heap.objs.size = some { cls := .type "tuple", data := .seq #[.int i tk, x1] } := (sb.2 _ (Nat.ne_of_gt le)).trans hT
    have new : ObjOk X.prog X.w (upd H s.heap.objs.size (.tup [.int (i : Nat), x])) h2 s.heap.objs.size (.tup [.int (i : Nat), x]) :=
      ⟨(by decide : 2 ≤ sizeLine), [.int i tk, x1], Paired.cons ⟨_, rfl⟩ (Paired.cons ru .nil), ⟨_, hT2, rfl, _, rfl⟩⟩
    have I1 : Inv X pins σ (upd H s.heap.objs.size (.tup [.int (i : Nat), x])) { s with heap := h2, toks := tk + 1 } :=
      I.turnedNew (ch := [e, it]) (fun b ob hb q => (sb.2 b fun z => hb (by simp [z])).trans (hk b ob (fun z => hb (by simp [z])) (fun z => hb (by simp [z])) q)) hf (Nat.le_refl _) new
    refine ⟨.ref s.heap.objs.size, _, I1, rfl, ⟨_, x, rfl, I.hok.fresh (Nat.le_refl _), rfl, fun ys hy => ?_⟩, ⟨⟨x1, ?_⟩, ?_⟩, fun b hb => ?_⟩
    · rw [I.tuple_inj hy hq]
      exact hx
    · rw [show ((i + 1 : Nat) : Int) = (i : Int) + 1 by omega]
      exact he2
    · exact st1.1.at fun o q => (sb.2 it (Ne.symm ei)).trans q
    · have lb : b < s.heap.objs.size := by
        rcases List.mem_cons.mp hb with z | z
        · rw [z]
          exact le
        · rw [List.mem_singleton.mp z]
          exact li
      rw [upd_ne (Nat.ne_of_lt lb)]
      exact (hf b hb).1
  done := by
    intro X hP hw hK hc i pins s σ H E I hf st hg
    subst hP hw hK
    obtain ⟨⟨old, he⟩, hit⟩ := st
    obtain ⟨xs, hq, hx⟩ := hg
    obtain ⟨its, rv, ht, hz⟩ := I.tuple hq
    have hl := rv.length
    have dr := Draws.tuple (prog := X.prog) (w := X.w) (A := X.A.in1) (I.ok.hd hc) it a (Ne.symm ia) its.toArray
    have hn : i = its.toArray.size := by simp; omega
    subst hn
    have ho := hf it (by simp)
    refine wpAny_pyNext_enum_endD dr he ⟨hit, ht⟩ fun h' hk => ⟨rfl, I.turned (t' := s.toks) (fun b o hb q => hk b o hb q) ho.1 ho.2.1 ho.2.2.2.1 ho.2.2.2.2.1 ho.2.2.2.2.2⟩
  self := fun A i s Q E st h => by
    obtain ⟨⟨_, he⟩, _⟩ := st
    exact wpAny_pyIter_enum he h
def iEnumT (K : PySem.W.Frag) (ta : TA) : TI := fun σ H R => ta σ H fun vs H1 => ∃ a xs, vs = [.ref a] ∧ SqT K H1 a xs ∧ R (IteT K a) H1
theorem pi_enumT {X : Cx} {e : Expr} {ta : TA} {p pos tpos : Pos} {elts : List Expr} {kk : Nat} (hg : Gl X "enumerate") (hm : X.mg "enumerate" = none) (ha : PA X [e] ta) (hs : starEach [e] X.env = [(false, eval e X.env)] := by rfl) :
    PI X (.Tuple elts kk tpos) (.Call (.Name "enumerate" p) [e] [] pos) (iEnumT X.K ta) := by
  refine ⟨fun pins s σ H R I h => ?_⟩
  refine Call_ (ld_blt I hg hm boot_enumerate (PyProof.Rows.callWith_type1 (thn (ha.run pos pins s σ H _ I h) fun us s1 ⟨vs, H1, I1, r1, a, xs, ex, hq, q⟩ => ?_) hs rfl))
  subst ex
  rw [Vals.ref1 r1]
  obtain ⟨its, rv, ht, hz⟩ := I1.tuple hq
  have la : a < s1.heap.objs.size := ht.lt
  refine enum_new (begins_tuple a its.toArray) ht fun h' he ho hk => wpAny_pyIter_enum he ?_
  have I2 : Inv X pins σ H1 { s1 with heap := h' } := I1.kept (t' := s1.toks) hk
  refine ⟨s1.heap.objs.size + 1, [s1.heap.objs.size + 1, s1.heap.objs.size], _, _, H1, rfl, I2, turn_enumT a (s1.heap.objs.size + 1) s1.heap.objs.size (Nat.ne_of_gt (Nat.lt_succ_of_lt la)) (Nat.ne_of_gt la) (Nat.succ_ne_self _), ⟨⟨.none, he⟩, ⟨_, ho, rfl, rfl⟩⟩, fun b hb => ?_, q⟩
  have hle : s1.heap.objs.size ≤ b := by
    rcases List.mem_cons.mp hb with z | z
    · rw [z]
      exact Nat.le_succ _
    · rw [List.mem_singleton.mp z]
      exact Nat.le_refl _
  exact I1.fpOk hle (I1.hok.fresh hle)

/-! ### zip of a list and a tuple -/
def ItzM (K : PySem.W.Frag) (a b : Addr) : It where
  go := fun i H => ∃ (xs ys : List V) (x y : V), SqL K H a xs ∧ SqT K H b ys ∧ xs[i]? = some x ∧ ys[i]? = some y
  yld := fun i H v H' => ∃ T x y, v = .ref T ∧ H T = none ∧ H' = upd H T (.tup [x, y]) ∧ (∀ xs, SqL K H a xs → xs[i]? = some x) ∧ ∀ ys, SqT K H b ys → ys[i]? = some y
  stop := fun i H => ∃ xs ys : List V, SqL K H a xs ∧ SqT K H b ys ∧ xs.length = i ∧ ys.length = i
theorem turn_zipM {P : Program} {w : World} {K : PySem.W.Frag} {elts : List Expr} {kk : Nat} {tpos : Pos} {a b z TI TO i1 i2 : Addr} (S : ZipSep2 z TI TO i1 i2 [i1, a] [i2, b]) :
    Turn P w K (.Tuple elts kk tpos) (ItzM K a b) [z, TI, TO, i1, i2] z (fun i h => IsZip h z TI TO .none ∧ IsTupOf2 h TI (.ref i1) (.ref i2) ∧ (∃ x y, IsTupOf2 h TO x y) ∧ h.IsListIter i1 a i ∧ h.IsTupleIter i2 b i) where
  mem := List.mem_cons_self
  obj := fun i h st c hc => by
    obtain ⟨hz, hTI, ⟨x, y, hTO⟩, ⟨o1, e1, _, d1⟩, ⟨o2, e2, _, d2⟩⟩ := st
    simp only [List.mem_cons, List.not_mem_nil, or_false] at hc
    rcases hc with q | q | q | q | q <;> rw [q]
    · exact ⟨_, hz, fun v q => nomatch q⟩
    · exact ⟨_, hTI, fun v q => nomatch q⟩
    · exact ⟨_, hTO, fun v q => nomatch q⟩
    · exact ⟨o1, e1, fun v q => by rw [d1] at q; cases q⟩
    · exact ⟨o2, e2, fun v q => by rw [d2] at q; cases q⟩
  keep := fun i h h' st k => by
    obtain ⟨hz, hTI, ⟨x, y, hTO⟩, h1, h2⟩ := st
    exact ⟨k z (by simp) _ hz, k TI (by simp) _ hTI, ⟨x, y, k TO (by simp) _ hTO⟩, h1.at fun o q => k i1 (by simp) o q, h2.at fun o q => k i2 (by simp) o q⟩
  item := by
    intro X hP hw hK hc i pins s σ H E I hf st hg
    subst hP hw hK
    obtain ⟨hz, hTI, ⟨x0, y0, hTO⟩, h1, h2⟩ := st
    obtain ⟨xs, ys, x, y, hqx, hqy, hx, hy⟩ := hg
    obtain ⟨its, rv, p1, _⟩ := I.list hqx
    obtain ⟨jts, rw2, p2, _⟩ := I.tuple hqy
    obtain ⟨u1, hu1, ru1⟩ := rv.get hx
    obtain ⟨u2, hu2, ru2⟩ := rw2.get hy
    have lt1 : i < its.toArray.size := by simpa using (List.getElem?_eq_some_iff.mp hu1).1
    have lt2 : i < jts.toArray.size := by simpa using (List.getElem?_eq_some_iff.mp hu2).1
    have dr1 := Draws.list (prog := X.prog) (w := X.w) (A := X.A.in1) (I.ok.hd hc) i1 a (fun e => by
      obtain ⟨o, ho, hcl, _⟩ := p1.isList
      obtain ⟨o', ho', hcl', _⟩ := h1
      rw [e, ho'] at ho
      cases ho
      rw [hcl] at hcl'
      injection hcl' with q
      exact absurd q (by decide)) its.toArray
    have ne2 : b ≠ i2 := fun e => by
      obtain ⟨o, ho, hcl, _⟩ := p2
      obtain ⟨o', ho', hcl', _⟩ := h2
      rw [e, ho'] at ho
      cases ho
      rw [hcl] at hcl'
      injection hcl' with q
      exact absurd q (by decide)
    have dr2 := Draws.tuple (prog := X.prog) (w := X.w) (A := X.A.in1) (I.ok.hd hc) i2 b ne2 jts.toArray
    refine wpAny_pyNext_zipD2_item S dr1 dr2 hz hTI hTO ⟨h1, p1.isList⟩ ⟨h2, p2⟩ lt1 lt2 fun v1 v2 h' tk q1 q2 z' TO' s1 s2 hT sz hk => ?_
    have ev1 : v1 = u1 := by
      have q3 : its[i]? = some v1 := by simpa using q1
      exact Option.some.inj (q3.symm.trans hu1)
    have ev2 : v2 = u2 := by
      have q3 : jts[i]? = some v2 := by simpa using q2
      exact Option.some.inj (q3.symm.trans hu2)
    subst ev1 ev2
    have zl : z < s.heap.objs.size := Heap.lt_size hz
    refine ⟨_, rfl, wpAny_letOwnedTupleGo_zip (s := { s with heap := h', toks := tk }) z' fun h2' z2 sb => ?_⟩
    have hT2 : h2'.get? s.heap.objs.size = some { cls := .type "tuple", data := .seq #[v1, v2] } := (sb.2 _ (Nat.ne_of_gt zl)).trans hT
    have new : ObjOk X.prog X.w (upd H s.heap.objs.size (.tup [x, y])) h2' s.heap.objs.size (.tup [x, y]) :=
      ⟨(by decide : 2 ≤ sizeLine), [v1, v2], Paired.cons ru1 (Paired.cons ru2 .nil), ⟨_, hT2, rfl, _, rfl⟩⟩
    have I1 : Inv X pins σ (upd H s.heap.objs.size (.tup [x, y])) { s with heap := h2', toks := tk } :=
      I.turnedNew (ch := [z, TI, TO, i1, i2]) (fun c o hb q => (sb.2 c fun q' => hb (by simp [q'])).trans (hk c o (fun q' => hb (by simp [q'])) (fun q' => hb (by simp [q'])) (fun q' => hb (by simp [q'])) (fun q' => hb (by simp [q'])) q)) hf (Nat.le_refl _) new
    refine ⟨.ref s.heap.objs.size, _, I1, rfl, ⟨_, x, y, rfl, I.hok.fresh (Nat.le_refl _), rfl, fun l hl => ?_, fun l hl => ?_⟩, ⟨z2, ?_, ⟨v1, v2, ?_⟩, ?_, ?_⟩, fun c hcm => ?_⟩
    · rw [I.list_inj hl hqx]
      exact hx
    · rw [I.tuple_inj hl hqy]
      exact hy
    · exact (sb.2 _ S.TIz).trans (hk _ _ S.TIz S.TITO S.TIi1 S.TIi2 hTI)
    · exact (sb.2 _ S.TOz).trans TO'
    · exact s1.1.at fun o q => (sb.2 _ (Ne.symm S.zi1)).trans q
    · exact s2.1.at fun o q => (sb.2 _ (Ne.symm S.zi2)).trans q
    · have hlt : c < s.heap.objs.size := by
        simp only [List.mem_cons, List.not_mem_nil, or_false] at hcm
        rcases hcm with q | q | q | q | q <;> rw [q]
        · exact zl
        · exact Heap.lt_size hTI
        · exact Heap.lt_size hTO
        · obtain ⟨_, e1, _⟩ := h1
          exact Heap.lt_size e1
        · obtain ⟨_, e2, _⟩ := h2
          exact Heap.lt_size e2
      rw [upd_ne (Nat.ne_of_lt hlt)]
      exact (hf c hcm).1
  done := by
    intro X hP hw hK hc i pins s σ H E I hf st hg
    subst hP hw hK
    obtain ⟨hz, hTI, ⟨x0, y0, hTO⟩, h1, h2⟩ := st
    obtain ⟨xs, ys, hqx, hqy, e1, e2⟩ := hg
    obtain ⟨its, rv, p1, _⟩ := I.list hqx
    obtain ⟨jts, rw2, p2, _⟩ := I.tuple hqy
    have l1 := rv.length
    have l2 := rw2.length
    have ne1 : a ≠ i1 := fun e => by
      obtain ⟨o, ho, hcl, _⟩ := p1.isList
      obtain ⟨o', ho', hcl', _⟩ := h1
      rw [e, ho'] at ho
      cases ho
      rw [hcl] at hcl'
      injection hcl' with q
      exact absurd q (by decide)
    have ne2 : b ≠ i2 := fun e => by
      obtain ⟨o, ho, hcl, _⟩ := p2
      obtain ⟨o', ho', hcl', _⟩ := h2
      rw [e, ho'] at ho
      cases ho
      rw [hcl] at hcl'
      injection hcl' with q
      exact absurd q (by decide)
    have dr1 := Draws.list (prog := X.prog) (w := X.w) (A := X.A.in1) (I.ok.hd hc) i1 a ne1 its.toArray
    have dr2 := Draws.tuple (prog := X.prog) (w := X.w) (A := X.A.in1) (I.ok.hd hc) i2 b ne2 jts.toArray
    refine wpAny_pyNext_zipD2_end (i := i) S dr1 dr2 hz hTI hTO ⟨h1, p1.isList⟩ ⟨h2, p2⟩ (by simp; omega) (by simp; omega) (.inl (by simp; omega)) fun h' tk hk => ?_
    exact ⟨rfl, I.turnedL (t' := tk) (ch := [z, TI, TO, i1, i2]) (fun c o hb q => hk c o (fun q' => hb (by simp [q'])) (fun q' => hb (by simp [q'])) (fun q' => hb (by simp [q'])) (fun q' => hb (by simp [q'])) q) hf⟩
  self := fun A i s Q E st h => wpAny_pyIter_zip st.1 h
def iZipM (K : PySem.W.Frag) (ta : TA) : TI := fun σ H R => ta σ H fun vs H1 => ∃ a b xs ys, vs = [.ref a, .ref b] ∧ SqL K H1 a xs ∧ SqT K H1 b ys ∧ R (ItzM K a b) H1
theorem pi_zipM {X : Cx} {e e2 : Expr} {ta : TA} {p pos tpos : Pos} {elts : List Expr} {kk : Nat} (hg : Gl X "zip") (hm : X.mg "zip" = none) (ha : PA X [e, e2] ta)
    (hs : starEach [e, e2] X.env = (false, eval e X.env) :: starEach [e2] X.env := by rfl) (hpl : (backTo pos (starEach [e2] X.env)).any (·.1) = false := by rfl) :
    PI X (.Tuple elts kk tpos) (.Call (.Name "zip" p) [e, e2] [] pos) (iZipM X.K ta) := by
  refine ⟨fun pins s σ H R I h => ?_⟩
  refine Call_ (ld_blt I hg hm PyProof.Rows.boot_zip (PyProof.Rows.callWith_type1 (thn (ha.run pos pins s σ H _ I h) fun us s1 ⟨vs, H1, I1, r1, a, b, xs, ys, ex, hqx, hqy, q⟩ => ?_) hs hpl))
  subst ex
  obtain rfl : us = [Value.ref a, Value.ref b] := by
    cases r1 with
    | cons r rr =>
      cases rr with
      | cons r' rr' =>
        cases rr'
        cases r
        cases r'
        rfl
  obtain ⟨its, rv, p1, _⟩ := I1.list hqx
  obtain ⟨jts, rw2, p2, _⟩ := I1.tuple hqy
  refine zip_begins2 (begins_list a its.toArray) (begins_tuple b jts.toArray) p1.isList p2 fun h' hz hTI hTO g1 g2 sz hk => wpAny_pyIter_zip hz ?_
  have I2 : Inv X pins σ H1 { s1 with heap := h' } := I1.kept (t' := s1.toks) hk
  have sp := zip_sep2 (N := s1.heap.objs.size) (fp1 := [a]) (fp2 := [b]) (fun c hc => by rw [List.mem_singleton.mp hc]; exact p1.lt) (fun c hc => by rw [List.mem_singleton.mp hc]; exact p2.lt)
  refine ⟨s1.heap.objs.size + 4, [s1.heap.objs.size + 4, s1.heap.objs.size + 2, s1.heap.objs.size + 3, s1.heap.objs.size, s1.heap.objs.size + 1], _, _, H1, rfl, I2, turn_zipM sp, ⟨hz, hTI, ⟨_, _, hTO⟩, ⟨_, g1, rfl, rfl⟩, ⟨_, g2, rfl, rfl⟩⟩, fun c hcm => ?_, q⟩
  have hle : s1.heap.objs.size ≤ c := by
    simp only [List.mem_cons, List.not_mem_nil, or_false] at hcm
    rcases hcm with z | z | z | z | z <;> rw [z]
    · exact Nat.le_add_right _ _
    · exact Nat.le_add_right _ _
    · exact Nat.le_add_right _ _
    · exact Nat.le_refl _
    · exact Nat.le_add_right _ _
  exact I1.fpOk hle (I1.hok.fresh hle)
end DK
namespace DK
open PySem PySem.Spec PyProof.Rows L2

/-! ### tuples of ints, lists of these -/
def TupAt (H : Hp) (p : Addr) (w : List Int) : Prop := H p = some (.tup (w.map V.int))
def Tups (H : Hp) : List Addr → List (List Int) → Prop := Paired (TupAt H)
theorem TupAt.same {H H' : Hp} {p : Addr} {w : List Int} (e : Same H H') (h : TupAt H p w) : TupAt H' p w := e _ _ h
theorem Tups.same {H H' : Hp} {ps : List Addr} {ws : List (List Int)} (e : Same H H') (h : Tups H ps ws) : Tups H' ps ws := paired_mono (fun _ _ => TupAt.same e) h
/-- at a stands a list of tuples with these ints -/
def LstT (H : Hp) (a : Addr) (ws : List (List Int)) : Prop := ∃ ps : List Addr, H a = some (.lst (ps.map V.ref)) ∧ Tups H ps ws
theorem LstT.same {H H' : Hp} {a : Addr} {ws : List (List Int)} (e : Same H H') (h : LstT H a ws) : LstT H' a ws := by
  obtain ⟨ps, h1, h2⟩ := h
  exact ⟨ps, e _ _ h1, h2.same e⟩
theorem key_tup (w : List Int) : (w.map (Sum.inl : Int → Key)).map kV = w.map V.int := by
  rw [List.map_map]
  rfl

section
variable {X : Cx}
theorem holds_tupAt {pins : List (Addr × Obj)} {σ : L2.St} {H : Hp} {s : Shared} {p : Addr} {w : List Int} (I : Inv X pins σ H s) (h : TupAt H p w) : PySem.W.Holds s.heap (.ref p) (PySem.W.Tup.mk w) := by
  obtain ⟨its, rv, ht, _⟩ := I.tuple (SqT.of h)
  exact PySem.W.holds_tup (show s.heap.IsTuple p its.toArray from ht) (hold_ints (by simpa using rv.ints))
theorem vals_refs : ∀ {ps : List Addr} {us : List Value}, Vals (ps.map V.ref) us → us = ps.map Value.ref
  | [], _, .nil => rfl
  | p :: ps, _, .cons r t => by
    cases r
    rw [vals_refs t]
    rfl
theorem refs_vals : ∀ ps : List Addr, Vals (ps.map V.ref) (ps.map Value.ref)
  | [] => .nil
  | p :: ps => .cons rfl (refs_vals ps)
theorem hold_tups {pins : List (Addr × Obj)} {σ : L2.St} {H : Hp} {s : Shared} (I : Inv X pins σ H s) : ∀ {ps : List Addr} {ws : List (List Int)}, Tups H ps ws → PySem.W.HoldAll s.heap (ps.map Value.ref) (ws.map PySem.W.Tup.mk)
  | _, _, .nil => PySem.W.HoldAll.nil
  | _, _, .cons r t => PySem.W.HoldAll.cons (holds_tupAt I r) (hold_tups I t)

theorem listLt_eq : ∀ xs ys : List Int, PySem.W.listLt xs ys = DP.ltL xs ys
  | [], [] => rfl
  | [], _ :: _ => rfl
  | _ :: _, [] => rfl
  | x :: xs, y :: ys => by
    show (if x = y then PySem.W.listLt xs ys else decide (x < y)) = if x = y then DP.ltL xs ys else decide (x < y)
    rw [listLt_eq xs ys]
theorem minOf_items : ∀ (r : List (List Int)) (x : List Int), PySem.W.minOf (PySem.W.Tup.mk x) (r.map PySem.W.Tup.mk) = PySem.W.Tup.mk (DP.minL (x :: r)) := by
  intro r
  induction r with
  | nil => intro x; rfl
  | cons y r ih =>
    intro x
    have e : PySem.W.DatumOrd.lt (PySem.W.Tup.mk y) (PySem.W.Tup.mk x) = DP.ltL y x := listLt_eq y x
    show PySem.W.minOf (if PySem.W.DatumOrd.lt (PySem.W.Tup.mk y) (PySem.W.Tup.mk x) = true then PySem.W.Tup.mk y else PySem.W.Tup.mk x) (r.map PySem.W.Tup.mk) = PySem.W.Tup.mk (DP.minL ((if DP.ltL y x = true then y else x) :: r))
    rw [e]
    by_cases h : DP.ltL y x = true
    · rw [if_pos h, if_pos h]
      exact ih y
    · rw [if_neg h, if_neg h]
      exact ih x
/-- min(l), l a list of tuples of ints -/
def rMinL : List V → Hp → VK → Prop := fun vs H Q => ∃ (a : Addr) (w : List Int) (ws : List (List Int)), vs = [V.ref a] ∧ LstT H a (w :: ws) ∧ ∀ p, TupAt H p (DP.minL (w :: ws)) → Q (.ref p) H
theorem cr_minL (hc : X.calm = true) (hu : X.A.units + 3 < cLine) : CallR X (.builtin "min") rMinL := by
  intro pins s σ H vs us Q I r h
  obtain ⟨a, w, ws, rfl, ⟨ps, ha, hT⟩, q⟩ := h
  rw [Vals.ref1 r]
  obtain ⟨its, rv, hl, _⟩ := I.list (SqL.of ha)
  obtain rfl := vals_refs rv
  have hd := hold_tups I hT
  refine PySem.W.min_list_datum (I.ok.hd hc) hl.isList (x := PySem.W.Tup.mk w) (xs := ws.map PySem.W.Tup.mk) (by simpa using hd) ?_ fun i v h' tk hi hv hk => ?_
  · show X.A.units + 1 + (0 + 1) < cLine
    omega
  · have hi' : (ps.map Value.ref)[i]? = some v := by simpa using hi
    rw [List.getElem?_map] at hi'
    cases hp : ps[i]? with
    | none => rw [hp] at hi'; cases hi'
    | some p =>
      rw [hp] at hi'
      obtain rfl : Value.ref p = v := Option.some.inj hi'
      obtain ⟨w', hw', tw⟩ := paired_at hT hp
      have h2 := (holds_tupAt I tw).keeps hk
      rw [minOf_items] at hv
      obtain ⟨as1, r1⟩ := hv
      obtain ⟨as2, r2⟩ := h2
      have e := PySem.SeqAt.plain_unique _ _ _ _ _ (PySem.W.Datum.plain _) r1 r2
      have e2 : DP.minL (w :: ws) = w' := by
        have q1 : (DP.minL (w :: ws)).map PyData.int = w'.map PyData.int := by
          injection e
        exact List.map_inj_right (fun _ _ z => by injection z) |>.mp q1
      refine ⟨.ref p, H, I.kept (t' := tk) hk, rfl, q p ?_⟩
      rw [e2]
      exact tw
/-! ### sorted(l), l a list of tuples of ints, none empty: any length -/
def encT (w : List Int) : PyData := .tuple (w.map .int)
theorem depth_encT (w : List Int) : (encT w).depth ≤ 1 := PySem.W.Datum.depth_le (PySem.W.Tup.mk w)
theorem le_encT : PySem.W.dataLe false encT = DP.leL := by
  funext a b
  rw [PySem.W.dataLe_eq]
  show (!PySem.W.dataLt (encT b) (encT a)) = !DP.ltL b a
  rw [show PySem.W.dataLt (encT b) (encT a) = DP.ltL b a from (PySem.W.DatumOrd.lt_eq (PySem.W.Tup.mk b) (PySem.W.Tup.mk a)).trans (listLt_eq b a)]
theorem merge_sortL (ws : List (List Int)) : ws.mergeSort (PySem.W.dataLe false encT) = DP.sortL ws := by
  rw [le_encT]
  refine DP.sortL_one (List.pairwise_mergeSort (le := DP.leL) (fun a b c h1 h2 => DP.leL_iff.mpr (DP.le_trans (DP.leL_iff.mp h1) (DP.leL_iff.mp h2))) (fun a b => ?_) ws) (List.mergeSort_perm ws _)
  cases e : DP.ltL b a with
  | false => simp [DP.leL, e]
  | true => simp [DP.leL, DP.lt_le e]
def rSortedL : List V → Hp → VK → Prop := fun vs H Q => ∃ (a : Addr) (ws : List (List Int)), vs = [V.ref a] ∧ LstT H a ws ∧ (∀ w ∈ ws, w ≠ []) ∧
  ∀ (ps : List Addr) (p : Addr), Tups H ps (DP.sortL ws) → H p = none → Q (.ref p) (upd H p (.lst (ps.map V.ref)))
theorem each_out {H : Hp} : ∀ {out : List Value} {ws : List (List Int)}, PySem.W.EachIs (fun v w => ∃ p, v = Value.ref p ∧ TupAt H p w) out ws → ∃ ps : List Addr, out = ps.map Value.ref ∧ Tups H ps ws
  | _, _, .nil => ⟨[], rfl, .nil⟩
  | _, _, .cons h1 t => by
    obtain ⟨p, rfl, hp⟩ := h1
    obtain ⟨ps, rfl, hps⟩ := each_out t
    exact ⟨p :: ps, rfl, .cons hp hps⟩
theorem each_in {H : Hp} {R : Value → List Int → Prop} : ∀ {ps : List Addr} {ws : List (List Int)}, Tups H ps ws → (∀ p w, TupAt H p w → R (.ref p) w) → PySem.W.EachIs R (ps.map Value.ref) ws
  | _, _, .nil, _ => .nil
  | _, _, .cons r t, k => .cons (k _ _ r) (each_in t k)
theorem sort_tups_at {pins : List (Addr × Obj)} {σ : L2.St} {H : Hp} {s : Shared} {ps : List Addr} {ws : List (List Int)} (I : Inv X pins σ H s) (hT : Tups H ps ws) (h0 : ∀ w ∈ ws, w ≠ []) :
    PySem.W.EachIs (fun v w => ∃ p, v = Value.ref p ∧ TupAt H p w) (ps.map Value.ref) ws ∧ PySem.W.EachIs (fun v w => ∃ as, Reads s.heap v (encT w) as) (ps.map Value.ref) ws ∧ PySem.W.AllAlike (ws.map encT) ∧ PySem.W.Sortable (ws.map encT) := by
  refine ⟨each_in hT fun p w h => ⟨p, rfl, h⟩, each_in hT fun p w h => ?_, ?_, ?_⟩
  · obtain ⟨as, r⟩ := holds_tupAt I h
    exact ⟨as, r⟩
  · exact PySem.W.AllAlike.of fun b b' => PySem.W.DatumOrd.alike (PySem.W.Tup.mk b) (PySem.W.Tup.mk b')
  · refine .inl fun d hd => ?_
    obtain ⟨w, hw, rfl⟩ := List.mem_map.mp hd
    cases w with
    | nil => exact absurd rfl (h0 _ hw)
    | cons x r => exact ⟨.int x, r.map .int, rfl⟩
theorem cr_sortedL (hu : X.A.units + 4 < cLine) : CallR X (.builtin "sorted") rSortedL := by
  intro pins s σ H vs us Q I r h
  obtain ⟨a, ws, rfl, ⟨ps, ha, hT⟩, h0, q⟩ := h
  rw [Vals.ref1 r]
  obtain ⟨its, rv, hl, hz⟩ := I.list (SqL.of ha)
  obtain rfl := vals_refs rv
  obtain ⟨e1, e2, e3, e4⟩ := sort_tups_at I hT h0
  have hlen : ws.length ≤ sizeLine := by
    rw [← paired_len hT]
    simpa using hz
  refine PySem.W.sorted_data hl.isList e1 e2 e3 e4 hlen (fun w hw => ?_) fun out ho hout => ?_
  · have := depth_encT w
    omega
  · rw [merge_sortL] at hout
    obtain ⟨qs, rfl, hq⟩ := each_out hout
    obtain ⟨ep, he⟩ := PyProof.Rows.sortedAll_at s.heap (ps.map Value.ref) (List.toArray (qs.map Value.ref))
    have hql : (qs.map V.ref).length ≤ sizeLine := by
      rw [List.length_map, paired_len hq, (DP.sortL_perm ws).length_eq]
      exact hlen
    exact ⟨.ref _, upd H (s.heap.objs.size + 1) (.lst (qs.map V.ref)), I.laid (t' := s.toks) (fun _ _ => PyProof.Rows.sortedAll_old) (Nat.le_succ _) ⟨hql, qs.map Value.ref, ep, refs_vals qs, he⟩, rfl, q qs _ hq (I.hok.fresh (Nat.le_succ _))⟩

/-! ### d.keys() -/
/-- the view d.keys() at p -/
def keysO (p d : Addr) : HO := .ext fun h => PySem.W.KdlKeysView h p d
theorem keysO_ok {P : Program} {w : World} {H : Hp} {h : Heap} {p d : Addr} (e : h.get? p = some { cls := .type "dict_keys", data := .fields #[.ref d] }) : ObjOk P w H h p (keysO p d) :=
  ⟨⟨_, e, rfl, rfl⟩, ⟨_, e⟩, fun h1 h2 x k => by
    obtain ⟨o, ho, r⟩ := x
    exact ⟨o, k o ho, r⟩⟩
def rKeysV : V → List V → Hp → VK → Prop := fun x xs H Q => ∃ (a : Addr) (kvs : List (Key × V)), x = .ref a ∧ xs = [] ∧ H a = some (.dK kvs) ∧ ∀ p, H p = none → Q (.ref p) (upd H p (keysO p a))
theorem mt_keysV : MtR X "dict.keys" rKeysV := by
  intro pins s σ H x xs v us Q I rx rxs h
  obtain ⟨a, kvs, rfl, rfl, ha, q⟩ := h
  cases rx
  cases rxs
  obtain ⟨z, hd, vs, rel, dd⟩ := dk_of I.hok ha
  refine call_meetsIn PySem.F.slot_dict_keys dd.typeIs PySem.F.entry_dict_keys (PySem.F.args_dict_keys_1 _) (PySem.W.kdl_meets_keys (mixKind X.prog X.w) a hd) ⟨⟨vs, dd⟩, ?_⟩
  exact ⟨.ref s.heap.objs.size, upd H s.heap.objs.size (keysO s.heap.objs.size a), I.laid (t' := s.toks) (fun b u e => Heap.get?_push_of_some _ e) (Nat.le_refl _) (keysO_ok (Heap.get?_push_size _ rfl)), rfl, q _ (I.hok.fresh (Nat.le_refl _))⟩
/-- sorted(d.keys()), ints -/
def rSortedKeys : List V → Hp → VK → Prop := fun xs H Q => ∃ (v a : Addr) (kvs : List (Key × V)) (ks : List Int), xs = [.ref v] ∧ H v = some (keysO v a) ∧ H a = some (.dK kvs) ∧ kvs.map (·.1) = ks.map Sum.inl ∧ ks.length < 64 ∧
  ∀ (ys : List Int) (p : Addr), ys.Perm ks → ys.Pairwise (· ≤ ·) → H p = none → Q (.ref p) (upd H p (.lst (ys.map V.int)))
theorem cr_sortedKeys (hc : X.calm = true) : CallR X (.builtin "sorted") rSortedKeys := by
  intro pins s σ H xs us Q I r h
  obtain ⟨v, a, kvs, ks, rfl, hv, ha, hks, h64, q⟩ := h
  rw [Vals.ref1 r]
  obtain ⟨z, lo, vs, rel, dd⟩ := dk_of I.hok ha
  obtain ⟨ep, hat⟩ := dd.dictAt
  have view : PySem.W.KdlKeysView s.heap v a := (I.hok v _ hv).1
  have hkeys : vs.map (·.1) = ks.map Sum.inl := rel.keys.symm.trans hks
  have hl : vs.length = ks.length := by simpa using congrArg List.length hkeys
  have sl := sizeLine_eq
  refine Calls.call_function_entry PyProof.Rows.kind_sorted PyProof.Rows.plain_sorted PyProof.Rows.entry_sorted (PyProof.Rows.args_sorted1 _) ?_
  unfold Builtin.«sorted»
  refine wpAny_bind (m := checkCount "sorted" 1 1 _) (wpAny_pure ?_)
  refine wpAny_bind (PySem.W.kdu_collect (A := X.A.in1) (PySem.W.kdl_keys (knd := mixKind X.prog X.w) (kvs := vs) (ep := ep)) (I.ok.hd hc) ⟨view, hat⟩ (by omega) fun h' tk acc hk hacc => ?_)
  have hal : acc.toList.length = ks.length := by rw [Array.length_toList, hacc.1, hl]
  have hS : IntsAre acc.toList ks := ints_each hal fun j u e => by
    obtain ⟨k, x, e1, e2⟩ := hacc.2 j u (by rw [← Array.getElem?_toList]; exact e)
    have e3 : (vs.map (·.1))[j]? = some k := by
      rw [List.getElem?_map, e1]
      rfl
    rw [hkeys, List.getElem?_map] at e3
    obtain ⟨y, ey, rfl⟩ := Option.map_eq_some_iff.mp e3
    rcases keyIs_shape (show keyIs (Sum.inl y) u = true from e2) with ⟨i, t, ek, ev⟩ | ⟨z, t, ek, ev⟩
    · cases ek
      exact ⟨y, t, ey, ev⟩
    · cases ek
  have I1 : Inv X pins σ H { s with heap := h', toks := tk } := I.kept hk
  refine wpAny_bind (wpAny_newList ?_ (by rw [hal]; omega))
  have hoL : (h'.push (seqObj "list" acc.toList.toArray 0)).get? h'.objs.size = some (seqObj "list" acc.toList.toArray 0) := Heap.get?_push_size _ rfl
  refine wpAny_bind (wpAny_holding (wpAny_call_entry (s := { s with heap := h'.push (seqObj "list" acc.toList.toArray 0), toks := tk }) PyProof.Rows.slot_list_sort ⟨_, hoL, rfl⟩ PyProof.Rows.entry_list_sort
    (PyProof.Rows.list_sort_tree (s := { s with heap := h'.push (seqObj "list" acc.toList.toArray 0), toks := tk }) hoL hS (by rw [hal]; exact h64) fun out ys g1 g2 g3 => ⟨_, rfl, ?_⟩) (PyProof.Rows.args_list_sort _)))
  obtain ⟨e', he'⟩ := PyProof.Rows.sortedHeap_at (vs := acc.toList) (out := out) hoL
  have hlen : (ys.map V.int).length ≤ sizeLine := by
    rw [List.length_map, g2.length_eq]
    omega
  refine wpAny_pure ⟨_, rfl, .ref h'.objs.size, upd H h'.objs.size (.lst (ys.map V.int)), I1.laid (t' := tk) (fun b u e => ?_) (Nat.le_refl _)
    (show ObjOk X.prog X.w _ _ _ (.lst (ys.map V.int)) from ⟨hlen, out.toList, e', vals_of_ints g1, by rw [Array.toArray_toList]; exact he'⟩), rfl, q ys _ g2 g3 (I1.hok.fresh (Nat.le_refl _))⟩
  have hb : b < h'.objs.size := Heap.lt_size e
  rw [PyProof.Rows.sortedHeap_old (Nat.ne_of_lt hb) (by rw [size_push']; exact Nat.lt_succ_of_lt hb)]
  exact Heap.get?_push_of_some _ e

/-- for k in d.keys(), d a locked dict with tuple keys -/
def iKeysT (td : TE) : TI := fun σ H R => td σ H fun x H1 => ∃ d o kvs, x = .ref d ∧ H1 d = some (.frz o (.dT kvs)) ∧ R (Itkt d o kvs) H1
theorem pi_keysT {tg e : Expr} {td : TE} {apos cpos : Pos} (he : PE X e td) (hbase : attributeBase e "keys" X.env (eval e X.env) = eval e X.env := by rfl) (hline : (apos.endLine == cpos.line) = true := by rfl) : PI X tg (.Call (.Attribute e "keys" apos) [] [] cpos) (iKeysT td) := by
  refine ⟨fun pins s σ H R I h => ?_⟩
  refine wpAny_Call_method (T := "dict") (id := "dict.keys") hbase rfl hline F.plainAttrs_dict F.slot_dict_keys F.type_dict_keys (thn (he.run pins s σ H _ I h) fun u s1 ⟨x, H1, I1, rx, d, o, kvs, ex, hd, q⟩ => ?_)
  subst ex
  obtain rfl : u = Value.ref d := rx
  obtain ⟨hs, hgd, hx, es, ep, hdt, hsz, ent⟩ := I1.frzT hd
  have raw : s1.heap.DictRaw d es ep := ⟨o, hgd, hx, hdt⟩
  refine ⟨raw.typeIs, fun b eb => ?_, ?_⟩
  · cases eb
    exact ⟨o, hgd, hx.2.1⟩
  have I2 : Inv X pins σ H1 { s1 with heap := s1.heap.push { cls := .type "dict_keys", data := .fields #[.ref d] } } := I1.kept (t' := s1.toks) fun b ob q => Heap.get?_push_of_some _ q
  have fin : wpAny (model X.prog X.w) X.A (pyIter (.ref s1.heap.objs.size)) (PIE X pins σ tg R) X.xe { s1 with heap := s1.heap.push { cls := .type "dict_keys", data := .fields #[.ref d] } } := by
    refine wpAny_pyIter_keys_raw (d := d) ⟨_, Heap.get?_push_size _ rfl, rfl, rfl⟩ (raw.at fun o q => Heap.get?_push_of_some _ q) (pi_one (tk := s1.toks) I2 _ (turn_keysT _ hdt) ⟨_, Heap.get?_push_size _ rfl, rfl, ?_⟩ q)
    rw [hsz] <;> rfl
  show wpAny _ _ (callWith cpos (.builtin "dict.keys") [.ref d] [] []) _ X.xe s1
  exact method_meetsIn F.slot_dict_keys F.entry_dict_keys rfl (PySem.evalArgs_none ⟨rfl, raw.typeIs, F.args_dict_keys_1 _, _, meets_dict_keys_raw d hs, ⟨es, ep, raw⟩, fin⟩)
end
end DK
namespace DK
open PySem PySem.Spec PyProof.Rows L2

/-! ### comprehensions whose element makes tuples at most -/
/-- the tuples stand -/
def SameT (H H' : Hp) : Prop := ∀ b xs, H b = some (.tup xs) → H' b = some (.tup xs)
theorem SameT.of {H H' : Hp} (e : Same H H') : SameT H H' := fun b xs h => e b _ h
theorem SameT.trans {H H1 H2 : Hp} (a : SameT H H1) (b : SameT H1 H2) : SameT H H2 := fun c xs h => b c xs (a c xs h)
theorem SameT.lst {H : Hp} {D : Addr} {ys zs : List V} (h : H D = some (.lst ys)) : SameT H (upd H D (.lst zs)) := fun b xs e => by
  rw [upd_ne (ne_of e h (by intro z; cases z))]
  exact e
/-- all stands but what is at D -/
def SameX (D : Addr) (H H' : Hp) : Prop := ∀ b o, b ≠ D → H b = some o → H' b = some o
theorem SameX.of {D : Addr} {H H' : Hp} (e : Same H H') : SameX D H H' := fun b o _ h => e b o h
theorem SameX.trans {D : Addr} {H H1 H2 : Hp} (a : SameX D H H1) (b : SameX D H1 H2) : SameX D H H2 := fun c o n h => b c o n (a c o n h)
theorem SameX.upd {D : Addr} {H : Hp} {o : HO} : SameX D H (upd H D o) := fun b u n h => by
  rw [upd_ne n]
  exact h
theorem SameX.same {D : Addr} {H1 H H' : Hp} (n : H1 D = none) (a : Same H1 H) (e : SameX D H H') : Same H1 H' := fun b o h => e b o (fun z => by rw [z, n] at h; cases h) (a b o h)

theorem range_succ_filter {c : Nat → Bool} (i : Nat) : (List.range (i + 1)).filter c = (List.range i).filter c ++ (if c i = true then [i] else []) := by
  rw [List.range_succ, List.filter_append]
  congr 1
  by_cases h : c i = true
  · rw [if_pos h, List.filter_cons_of_pos h]
    rfl
  · rw [if_neg h, List.filter_cons_of_neg h]
    rfl
section
variable {J : It} {n : Nat} {G : Hp → Prop} {Y : Nat → Hp → V → Hp → Prop}
theorem lc_grow (w : Walk J n G Y) (c : Nat → Bool) (R : Nat → V → Hp → Prop) {g : TG} {tt : TT} {te : TE} {vs : List Nat} {σ : L2.St} {H1 : Hp} {D : Addr} {Qd : Hp → Prop} (hD : H1 D = none) (hn : n ≤ sizeLine)
    (hG : ∀ H, Same H1 H → G H) (hR : ∀ i y H H', SameT H H' → R i y H → R i y H')
    (hs : ∀ i x H H' (Q : V → Hp → Prop) (N : Hp → Prop), i < n → Same H1 H → Y i H x H' → (c i = true → ∀ y H4, Same H H4 → R i y H4 → Q y H4) → (c i = false → ∀ H4, Same H H4 → N H4) →
      g x (wipe σ vs) H' fun σ2 H2 => wipe σ2 vs = wipe σ vs ∧ tt σ2 H2 fun b H3 => if b = true then te σ2 H3 Q else N H3)
    (hd : ∀ H ys, Same H1 H → H D = some (.lst ys) → Paired (fun i y => R i y H) ((List.range n).filter c) ys → Qd H) :
    ∃ W : Nat → Nat → Hp → Prop, (∃ m, W 0 m (upd H1 D (.lst []))) ∧ ∀ i m H, W i m H →
      (J.stop i H ∧ Qd H) ∨ (J.go i H ∧ ∃ Nx : Hp → Prop, (∀ H', Nx H' → ∃ m', m' < m ∧ W (i + 1) m' H') ∧ ∀ x H', J.yld i H x H' → g x (wipe σ vs) H' fun σ2 H2 => wipe σ2 vs = wipe σ vs ∧ tt σ2 H2 fun b H3 =>
        if b = true then te σ2 H3 fun y H4 => ∃ acc, H4 D = some (.lst acc) ∧ acc.length < sizeLine ∧ Nx (upd H4 D (.lst (acc ++ [y]))) else Nx H3) := by
  refine lc_it w (fun i H => Same H1 H ∧ ∃ ys, H D = some (.lst ys) ∧ ys.length ≤ i ∧ Paired (fun i y => R i y H) ((List.range i).filter c) ys) ?_ (fun i H _ p => hG H p.1) ?_ ?_
  · exact ⟨same_new hD, [], upd_same, Nat.le_refl _, .nil⟩
  · rintro i x H H' hi ⟨sm, ys, hy, hl, hp⟩ y
    refine hs i x H H' _ _ hi sm y (fun hc z H4 s4 rz => ?_) (fun hc H4 s4 => ?_)
    · have h4 : H4 D = some (.lst ys) := s4 _ _ hy
      refine ⟨ys, h4, by omega, (SameX.upd).same hD (sm.trans s4), ys ++ [z], upd_same, by simp; omega, ?_⟩
      rw [range_succ_filter, if_pos hc]
      have t4 : SameT H (upd H4 D (.lst (ys ++ [z]))) := (SameT.of s4).trans (SameT.lst h4)
      exact paired_snoc (paired_mono (fun a b q => hR a b _ _ t4 q) hp) (hR i z _ _ (SameT.lst h4) rz)
    · refine ⟨sm.trans s4, ys, s4 _ _ hy, by omega, ?_⟩
      rw [range_succ_filter, if_neg (by rw [hc]; decide), List.append_nil]
      exact paired_mono (fun a b q => hR a b _ _ (SameT.of s4) q) hp
  · rintro H ⟨sm, ys, hy, _, hp⟩
    exact hd H ys sm hy hp

theorem yesIf {σ : L2.St} {H : Hp} {p q : Hp → Prop} (h : p H) : tYes σ H (fun b H3 => if b = true then p H3 else q H3) := by
  show (if true = true then p H else q H)
  rw [if_pos rfl]
  exact h
/-- two fors -/
theorem lc2_grow {γ : Type} {A : Nat → V → Prop} (w : Walk J n G (fun i H x H' => H' = H ∧ A i x)) (rows : Nat → List γ) (R : γ → V → Hp → Prop) {wi1 : TI} {te : TE} {vs vs1 : List Nat} {j0 j1 : Nat} {σ : L2.St} {H1 : Hp} {D : Addr} {Qd : Hp → Prop} (hD : H1 D = none)
    (hn : ((List.range n).flatMap rows).length ≤ sizeLine)
    (hw0 : ∀ x, wipe ((wipe σ vs).set j0 (some x)) vs = wipe σ vs) (hw1 : ∀ x x', wipe ((wipe ((wipe σ vs).set j0 (some x)) vs1).set j1 (some x')) vs1 = wipe ((wipe σ vs).set j0 (some x)) vs1)
    (hG : ∀ H, Same H1 H → G H) (hR : ∀ z y H H', SameT H H' → R z y H → R z y H')
    (hs : ∀ i x H ys (k : It → Hp → Prop), i < n → Same H1 H → H D = some (.lst ys) → A i x →
      (∀ J1 m G1 (B : Nat → V → Prop) H4, Walk J1 m G1 (fun j H x H' => H' = H ∧ B j x) → Same H H4 → (∀ H5, SameX D H4 H5 → G1 H5) → m = (rows i).length →
        (∀ j z x' H5 (Q : V → Hp → Prop), (rows i)[j]? = some z → Same H1 H5 → SameX D H4 H5 → B j x' → (∀ y H6, Same H5 H6 → R z y H6 → Q y H6) → te ((wipe ((wipe σ vs).set j0 (some x)) vs1).set j1 (some x')) H5 Q) → k J1 H4) →
      wi1 ((wipe σ vs).set j0 (some x)) H k)
    (hd : ∀ H ys, Same H1 H → H D = some (.lst ys) → Paired (fun z y => R z y H) ((List.range n).flatMap rows) ys → Qd H) :
    ∃ W : Nat → Nat → Hp → Prop, (∃ m, W 0 m (upd H1 D (.lst []))) ∧ ∀ i m H, W i m H →
      (J.stop i H ∧ Qd H) ∨ (J.go i H ∧ ∃ Nx : Hp → Prop, (∀ H', Nx H' → ∃ m', m' < m ∧ W (i + 1) m' H') ∧ ∀ x H', J.yld i H x H' → gName j0 x (wipe σ vs) H' fun σ2 H2 => wipe σ2 vs = wipe σ vs ∧ tYes σ2 H2 fun b H3 =>
        if b = true then wi1 σ2 H3 fun J1 H4 => ∃ W1 : Nat → Nat → Hp → Prop, (∃ m, W1 0 m H4) ∧ ∀ j k H, W1 j k H →
          (J1.stop j H ∧ Nx H) ∨ (J1.go j H ∧ ∃ Nx1 : Hp → Prop, (∀ H', Nx1 H' → ∃ k', k' < k ∧ W1 (j + 1) k' H') ∧ ∀ x H', J1.yld j H x H' → gName j1 x (wipe σ2 vs1) H' fun σ3 H5 => wipe σ3 vs1 = wipe σ2 vs1 ∧ tYes σ3 H5 fun b H6 =>
            if b = true then te σ3 H6 fun y H7 => ∃ acc, H7 D = some (.lst acc) ∧ acc.length < sizeLine ∧ Nx1 (upd H7 D (.lst (acc ++ [y]))) else Nx1 H6)
        else Nx H3) := by
  let Pv : Nat → Hp → Prop := fun i H => Same H1 H ∧ ∃ ys, H D = some (.lst ys) ∧ Paired (fun z y => R z y H) ((List.range i).flatMap rows) ys
  refine ⟨fun i m H => m = n - i ∧ i ≤ n ∧ Pv i H, ⟨n, by simp, Nat.zero_le _, same_new hD, [], upd_same, .nil⟩, ?_⟩
  rintro i m H ⟨rfl, hi, sm, ys, hy, hp⟩
  by_cases hlt : i < n
  · refine .inr ⟨w.goes i H hlt (hG H sm), Pv (i + 1), fun H' p' => ⟨n - (i + 1), by omega, rfl, hlt, p'⟩, fun x H' yy => ?_⟩
    obtain ⟨rfl, ax⟩ := w.yields i H x H' hlt (hG H sm) yy
    show gName j0 x (wipe σ vs) H' _
    refine ⟨hw0 x, ?_⟩
    refine yesIf ?_
    refine hs i x H' ys _ hlt sm hy ax fun J1 m G1 B H4 w1 s4 hG1 hm he => ?_
    have y4 : H4 D = some (.lst ys) := s4 _ _ hy
    have lim : ((List.range i).flatMap rows).length + (rows i).length ≤ sizeLine := by
      have e1 : (List.range (i + 1)).flatMap rows = (List.range i).flatMap rows ++ rows i := by rw [List.range_succ, List.flatMap_append, List.flatMap_singleton]
      have e2 : ∃ t, List.range n = List.range (i + 1) ++ t := by
        refine ⟨(List.range n).drop (i + 1), ?_⟩
        have := (List.take_append_drop (i + 1) (List.range n)).symm
        rwa [List.take_range, Nat.min_eq_left (by omega : i + 1 ≤ n)] at this
      obtain ⟨t, et⟩ := e2
      rw [et, List.flatMap_append, List.length_append, e1, List.length_append] at hn
      omega
    refine ⟨fun j k H => k = m - j ∧ j ≤ m ∧ SameX D H4 H ∧ Same H1 H ∧ ∃ zs, H D = some (.lst zs) ∧ Paired (fun z y => R z y H) ((List.range i).flatMap rows ++ (rows i).take j) zs, ⟨m, by simp, Nat.zero_le _, fun b o _ h => h, sm.trans s4, ys, y4, ?_⟩, ?_⟩
    · rw [List.take_zero, List.append_nil]
      exact paired_mono (fun a b q => hR a b _ _ (SameT.of s4) q) hp
    · rintro j k H5 ⟨rfl, hj, x5, sm5, zs, hz, hp5⟩
      by_cases hjl : j < m
      · refine .inr ⟨w1.goes j H5 hjl (hG1 H5 x5), fun H' => j + 1 ≤ m ∧ SameX D H4 H' ∧ Same H1 H' ∧ ∃ zs, H' D = some (.lst zs) ∧ Paired (fun z y => R z y H') ((List.range i).flatMap rows ++ (rows i).take (j + 1)) zs, fun H' p' => ⟨m - (j + 1), by omega, rfl, p'⟩, fun x' H6 yy => ?_⟩
        obtain ⟨rfl, bx⟩ := w1.yields j H5 x' H6 hjl (hG1 H5 x5) yy
        show gName j1 x' _ H6 _
        refine ⟨hw1 x x', ?_⟩
        refine yesIf ?_
        have hjr : j < (rows i).length := by omega
        refine he j (rows i)[j] x' H6 _ (List.getElem?_eq_getElem hjr) sm5 x5 bx fun y H7 s7 ry => ?_
        have z7 : H7 D = some (.lst zs) := s7 _ _ hz
        have zl : zs.length = ((List.range i).flatMap rows).length + j := by
          rw [← paired_len hp5, List.length_append, List.length_take]
          omega
        refine ⟨zs, z7, by omega, hjl, x5.trans ((SameX.of s7).trans SameX.upd), SameX.upd.same hD (sm5.trans s7), zs ++ [y], upd_same, ?_⟩
        rw [List.take_add_one, List.getElem?_eq_getElem hjr, ← List.append_assoc]
        exact paired_snoc (paired_mono (fun a b q => hR a b _ _ ((SameT.of s7).trans (SameT.lst z7)) q) hp5) (hR _ _ _ _ (SameT.lst z7) ry)
      · have ej : j = m := by omega
        subst ej
        refine .inl ⟨w1.stops H5 (hG1 H5 x5), sm5, zs, hz, ?_⟩
        rw [List.take_of_length_le (by omega)] at hp5
        rw [List.range_succ, List.flatMap_append, List.flatMap_singleton]
        exact hp5
  · have e : i = n := by omega
    subst e
    exact .inl ⟨w.stops H (hG H sm), hd H ys sm hy hp⟩
end

/-! what the results are -/
theorem pair_ints {α : Type} {f : α → Int} : ∀ {l : List α} {ys : List V}, Paired (fun i y => y = .int (f i)) l ys → ys = (l.map f).map V.int
  | _, _, .nil => rfl
  | _, _, .cons r t => by
    subst r
    rw [pair_ints t]
    rfl
theorem pair_tups {α : Type} {H : Hp} {f : α → List Int} : ∀ {l : List α} {ys : List V}, Paired (fun i y => ∃ p, y = .ref p ∧ TupAt H p (f i)) l ys → ∃ ps : List Addr, ys = ps.map V.ref ∧ Tups H ps (l.map f)
  | _, _, .nil => ⟨[], rfl, .nil⟩
  | _, _, .cons r t => by
    obtain ⟨p, rfl, hp⟩ := r
    obtain ⟨ps, rfl, h⟩ := pair_tups t
    exact ⟨p :: ps, rfl, .cons hp h⟩
theorem range_map_at {α β : Type} (d : α) (f : α → β) : ∀ xs : List α, (List.range xs.length).map (fun i => f (xs.getD i d)) = xs.map f := by
  intro xs
  refine List.ext_getElem (by simp) fun i h1 h2 => ?_
  have : i < xs.length := by simpa using h2
  simp [List.getD_eq_getElem?_getD, this]
theorem range_filter_at {α β : Type} (d : α) (c : α → Bool) (f : α → β) (xs : List α) : ((List.range xs.length).filter (fun i => c (xs.getD i d))).map (fun i => f (xs.getD i d)) = (xs.filter c).map f := by
  have e := range_map_at d (fun x => x) xs
  simp only [List.map_id'] at e
  have e2 : (xs.filter c) = ((List.range xs.length).map (fun i => xs.getD i d)).filter c := by rw [e]
  rw [e2, List.filter_map, List.map_map]
  rfl
theorem range_flat_at {α β : Type} (d : α) (f : α → List β) (xs : List α) : (List.range xs.length).flatMap (fun i => f (xs.getD i d)) = xs.flatMap f := by
  have e := range_map_at d (fun x => x) xs
  simp only [List.map_id'] at e
  conv => rhs; rw [← e]
  rw [List.flatMap_map]
theorem filter_true (n : Nat) : (List.range n).filter (fun _ => true) = List.range n := List.filter_eq_self.mpr fun _ _ => rfl
/-- the i-th of the lists -/
theorem tups_at {H : Hp} {ps : List Addr} {ws : List (List Int)} (h : Tups H ps ws) {i : Nat} {x : V} (hx : (ps.map V.ref)[i]? = some x) : ∃ p, x = .ref p ∧ TupAt H p (ws.getD i []) ∧ ws[i]? = some (ws.getD i []) := by
  rw [List.getElem?_map] at hx
  obtain ⟨p, hp, rfl⟩ := Option.map_eq_some_iff.mp hx
  obtain ⟨w, hw, t⟩ := paired_at h hp
  refine ⟨p, rfl, ?_, ?_⟩
  · rw [List.getD_eq_getElem?_getD, hw]
    exact t
  · rw [List.getD_eq_getElem?_getD, hw]
    rfl
theorem ints_at {ns : List Int} {i : Nat} {x : V} (hx : (ns.map V.int)[i]? = some x) : x = .int (ns.getD i 0) ∧ ns[i]? = some (ns.getD i 0) := by
  rw [List.getElem?_map] at hx
  obtain ⟨k, hk, rfl⟩ := Option.map_eq_some_iff.mp hx
  rw [List.getD_eq_getElem?_getD, hk]
  exact ⟨rfl, rfl⟩
end DK
namespace DK
open PySem PySem.Spec PyProof.Rows L2
section
variable {J : It} {n : Nat} {G : Hp → Prop} {Y : Nat → Hp → V → Hp → Prop}
/-- what a comprehension's reading asks behind its address -/
def LcW (J : It) (g : TG) (tt : TT) (te : TE) (vs : List Nat) (σ : L2.St) (H1 : Hp) (D : Addr) (Qd : Hp → Prop) : Prop :=
  ∃ W : Nat → Nat → Hp → Prop, (∃ m, W 0 m (upd H1 D (.lst []))) ∧ ∀ i m H, W i m H →
      (J.stop i H ∧ Qd H) ∨ (J.go i H ∧ ∃ Nx : Hp → Prop, (∀ H', Nx H' → ∃ m', m' < m ∧ W (i + 1) m' H') ∧ ∀ x H', J.yld i H x H' → g x (wipe σ vs) H' fun σ2 H2 => wipe σ2 vs = wipe σ vs ∧ tt σ2 H2 fun b H3 =>
        if b = true then te σ2 H3 fun y H4 => ∃ acc, H4 D = some (.lst acc) ∧ acc.length < sizeLine ∧ Nx (upd H4 D (.lst (acc ++ [y]))) else Nx H3)
theorem lc_intsC (w : Walk J n G Y) (c : Nat → Bool) (f : Nat → Int) {g : TG} {tt : TT} {te : TE} {vs : List Nat} {σ : L2.St} {H1 : Hp} {D : Addr} {Qd : Hp → Prop} (hD : H1 D = none) (hn : n ≤ sizeLine)
    (hG : ∀ H, Same H1 H → G H)
    (hs : ∀ i x H H' (Q : V → Hp → Prop) (N : Hp → Prop), i < n → Same H1 H → Y i H x H' → (c i = true → ∀ H4, Same H H4 → Q (.int (f i)) H4) → (c i = false → ∀ H4, Same H H4 → N H4) →
      g x (wipe σ vs) H' fun σ2 H2 => wipe σ2 vs = wipe σ vs ∧ tt σ2 H2 fun b H3 => if b = true then te σ2 H3 Q else N H3)
    (hd : ∀ H, Same H1 H → H D = some (.lst ((((List.range n).filter c).map f).map V.int)) → Qd H) : LcW J g tt te vs σ H1 D Qd := by
  refine lc_grow w c (fun i y _ => y = .int (f i)) hD hn hG (fun _ _ _ _ _ h => h) (fun i x H H' Q N hi sm y q1 q2 => hs i x H H' Q N hi sm y (fun hc H4 s4 => q1 hc _ H4 s4 rfl) q2) (fun H ys sm hy hp => hd H sm ?_)
  rw [hy, pair_ints hp]
theorem lc_tupsC (w : Walk J n G Y) (c : Nat → Bool) (f : Nat → List Int) {g : TG} {tt : TT} {te : TE} {vs : List Nat} {σ : L2.St} {H1 : Hp} {D : Addr} {Qd : Hp → Prop} (hD : H1 D = none) (hn : n ≤ sizeLine)
    (hG : ∀ H, Same H1 H → G H)
    (hs : ∀ i x H H' (Q : V → Hp → Prop) (N : Hp → Prop), i < n → Same H1 H → Y i H x H' → (c i = true → ∀ p H4, Same H H4 → TupAt H4 p (f i) → Q (.ref p) H4) → (c i = false → ∀ H4, Same H H4 → N H4) →
      g x (wipe σ vs) H' fun σ2 H2 => wipe σ2 vs = wipe σ vs ∧ tt σ2 H2 fun b H3 => if b = true then te σ2 H3 Q else N H3)
    (hd : ∀ H ps, Same H1 H → H D = some (.lst (ps.map V.ref)) → Tups H ps (((List.range n).filter c).map f) → Qd H) : LcW J g tt te vs σ H1 D Qd := by
  refine lc_grow w c (fun i y H => ∃ p, y = .ref p ∧ TupAt H p (f i)) hD hn hG (fun i y H H' s ⟨p, e, h⟩ => ⟨p, e, s _ _ h⟩) (fun i x H H' Q N hi sm y q1 q2 => hs i x H H' Q N hi sm y (fun hc p H4 s4 h => q1 hc _ H4 s4 ⟨p, rfl, h⟩) q2) (fun H ys sm hy hp => ?_)
  obtain ⟨ps, rfl, ht⟩ := pair_tups hp
  exact hd H ps sm hy ht
theorem lc_ints (w : Walk J n G Y) (f : Nat → Int) {g : TG} {te : TE} {vs : List Nat} {σ : L2.St} {H1 : Hp} {D : Addr} {Qd : Hp → Prop} (hD : H1 D = none) (hn : n ≤ sizeLine)
    (hG : ∀ H, Same H1 H → G H)
    (hs : ∀ i x H H' (Q : V → Hp → Prop), i < n → Same H1 H → Y i H x H' → (∀ H4, Same H H4 → Q (.int (f i)) H4) →
      g x (wipe σ vs) H' fun σ2 H2 => wipe σ2 vs = wipe σ vs ∧ te σ2 H2 Q)
    (hg : ∀ x σ H (A B : L2.St → Hp → Prop), (∀ σ2 H2, A σ2 H2 → B σ2 H2) → g x σ H A → g x σ H B)
    (hd : ∀ H, Same H1 H → H D = some (.lst (((List.range n).map f).map V.int)) → Qd H) : LcW J g tYes te vs σ H1 D Qd := by
  refine lc_intsC w (fun _ => true) f hD hn hG (fun i x H H' Q N hi sm y q1 q2 => hg _ _ _ _ _ (fun σ2 H2 h => ⟨h.1, yesIf h.2⟩) (hs i x H H' Q hi sm y (q1 rfl))) (fun H sm h => hd H sm ?_)
  rw [filter_true] at h
  exact h
theorem lc_tups (w : Walk J n G Y) (f : Nat → List Int) {g : TG} {te : TE} {vs : List Nat} {σ : L2.St} {H1 : Hp} {D : Addr} {Qd : Hp → Prop} (hD : H1 D = none) (hn : n ≤ sizeLine)
    (hG : ∀ H, Same H1 H → G H)
    (hs : ∀ i x H H' (Q : V → Hp → Prop), i < n → Same H1 H → Y i H x H' → (∀ p H4, Same H H4 → TupAt H4 p (f i) → Q (.ref p) H4) →
      g x (wipe σ vs) H' fun σ2 H2 => wipe σ2 vs = wipe σ vs ∧ te σ2 H2 Q)
    (hg : ∀ x σ H (A B : L2.St → Hp → Prop), (∀ σ2 H2, A σ2 H2 → B σ2 H2) → g x σ H A → g x σ H B)
    (hd : ∀ H ps, Same H1 H → H D = some (.lst (ps.map V.ref)) → Tups H ps ((List.range n).map f) → Qd H) : LcW J g tYes te vs σ H1 D Qd := by
  refine lc_tupsC w (fun _ => true) f hD hn hG (fun i x H H' Q N hi sm y q1 q2 => hg _ _ _ _ _ (fun σ2 H2 h => ⟨h.1, yesIf h.2⟩) (hs i x H H' Q hi sm y (q1 rfl))) (fun H ps sm h t => hd H ps sm h ?_)
  rw [filter_true] at t
  exact t
end
/-- a name as the target -/
theorem gn {j : Nat} : ∀ x σ H (A B : L2.St → Hp → Prop), (∀ σ2 H2, A σ2 H2 → B σ2 H2) → gName j x σ H A → gName j x σ H B := fun _ _ _ _ _ h a => h _ _ a
theorem Same.refl' {H : Hp} : Same H H := fun _ _ h => h
theorem TupAt.q {K : PySem.W.Frag} {H : Hp} {p : Addr} {w : List Int} (h : TupAt H p w) : SqT K H p (w.map V.int) := SqT.of h
end DK
namespace DK
open PySem PySem.Spec PyProof.Rows L2
theorem iteT' {c A B : Prop} [Decidable c] (h : c) (a : A) : if c then A else B := by
  rw [if_pos h]
  exact a
theorem iteF' {b : Bool} {A B : Prop} (h : b = false) (a : B) : if b = true then A else B := by
  subst h
  exact a
end DK
namespace DK
open PySem PySem.Spec PyProof.Rows L2
def rLenS (K : PySem.W.Frag) : List V → Hp → VK → Prop := fun xs H Q => ∃ (p : Addr) (ys : List V), xs = [.ref p] ∧ (SqL K H p ys ∨ SqT K H p ys) ∧ Q (.int (ys.length : Nat)) H
theorem cr_lenS {X : Cx} : CallR X (.builtin "len") (rLenS X.K) := call_len_seq
def rTupOf (K : PySem.W.Frag) : List V → Hp → VK → Prop := fun xs H Q => ∃ (p : Addr) (ys : List V), xs = [.ref p] ∧ ((SqL K H p ys ∧ ∀ l, H l = none → Q (.ref l) (upd H l (.tup ys))) ∨ (SqT K H p ys ∧ Q (.ref p) H))
theorem cr_tupOf {X : Cx} : CallR X (.type "tuple") (rTupOf X.K) := call_tuple_of
theorem hu2 {k : Nat} {A : Around} (h : Room k A) : A.units + 2 < cLine := by have := h.units; omega
theorem hu3 {k : Nat} {A : Around} (h : Room k A) : A.units + 3 < cLine := by have := h.units; omega
theorem hu4 {k : Nat} {A : Around} (h : Room k A) : A.units + 4 < cLine := by have := h.units; omega
end DK
namespace DK
open PySem PySem.Spec PyProof.Rows L2
theorem hu64 {k : Nat} {A : Around} (h : Room k A) : A.units + 64 < cLine := h.units
end DK
namespace DK
open PySem PySem.Spec PyProof.Rows L2
theorem walk_range0 {n : Nat} : Walk (Itr 0 n) n (fun _ => True) (YFn fun i => V.int (i : Nat)) := by
  have w := walk_range (lo := 0) (n := n)
  refine ⟨w.goes, w.stops, fun i H x H' hi g y => ?_⟩
  obtain ⟨a, b⟩ := w.yields i H x H' hi g y
  refine ⟨a, b.trans ?_⟩
  show V.int (0 + (i : Int)) = V.int (i : Int)
  rw [Int.zero_add]
end DK
namespace DK
open PySem PySem.Spec PyProof.Rows L2
/-! ### data: ints, tuples of ints, lists of these -/
def dI (ns : List Int) : List PyData := ns.map PyData.int
def dT (ws : List (List Int)) : List PyData := ws.map fun w => PyData.tuple (dI w)
theorem lay_ints : ∀ ns : List Int, PyData.canLayAll0 (dI ns) = true
  | [] => rfl
  | n :: ns => by
    show (PyData.canLay0 (.int n) && PyData.canLayAll0 (dI ns)) = true
    rw [lay_ints ns]
    rfl
theorem lay_tups : ∀ ws : List (List Int), PyData.canLayAll0 (dT ws) = true
  | [] => rfl
  | w :: ws => by
    show (PyData.canLayAll0 (dI w) && PyData.canLayAll0 (dT ws)) = true
    rw [lay_ints w, lay_tups ws]
    rfl
theorem dep_ints : ∀ ns : List Int, PyData.depthAll (dI ns) = 0
  | [] => rfl
  | n :: ns => by
    show max (PyData.depth (.int n)) (PyData.depthAll (dI ns)) = 0
    rw [dep_ints ns]
    rfl
theorem dep_tups : ∀ ws : List (List Int), PyData.depthAll (dT ws) ≤ 1
  | [] => by decide
  | w :: ws => by
    show max (PyData.depth (.tuple (dI w))) (PyData.depthAll (dT ws)) ≤ 1
    have h := dep_tups ws
    have e : PyData.depth (.tuple (dI w)) = PyData.depthAll (dI w) + 1 := rfl
    rw [e, dep_ints w]
    omega
theorem sh_listI (ns : List Int) : SeqAt.shaped (.list (dI ns)) = true := by
  have e : PyData.depth (.list (dI ns)) = PyData.depthAll (dI ns) + 1 := rfl
  show (PyData.canLayAll0 (dI ns) && decide (PyData.depth (.list (dI ns)) ≤ 64)) = true
  rw [lay_ints, e, dep_ints]
  rfl
theorem sh_tupI (ns : List Int) : SeqAt.shaped (.tuple (dI ns)) = true := by
  have e : PyData.depth (.tuple (dI ns)) = PyData.depthAll (dI ns) + 1 := rfl
  show (PyData.canLayAll0 (dI ns) && decide (PyData.depth (.tuple (dI ns)) ≤ 64)) = true
  rw [lay_ints, e, dep_ints]
  rfl
theorem sh_listT (ws : List (List Int)) : SeqAt.shaped (.list (dT ws)) = true := by
  have e : PyData.depth (.list (dT ws)) = PyData.depthAll (dT ws) + 1 := rfl
  have h := dep_tups ws
  show (PyData.canLayAll0 (dT ws) && decide (PyData.depth (.list (dT ws)) ≤ 64)) = true
  rw [lay_tups, e]
  simp only [Bool.true_and, decide_eq_true_eq]
  omega
theorem eq_ints : ∀ ns ms : List Int, PyData.eqvAll (dI ns) (dI ms) = decide (ns = ms)
  | [], [] => rfl
  | [], _ :: _ => rfl
  | _ :: _, [] => rfl
  | n :: ns, m :: ms => by
    show ((n == m) && PyData.eqvAll (dI ns) (dI ms)) = _
    rw [eq_ints ns ms, Bool.eq_iff_iff]
    simp
theorem eq_tups : ∀ ws vs : List (List Int), PyData.eqvAll (dT ws) (dT vs) = decide (ws = vs)
  | [], [] => rfl
  | [], _ :: _ => rfl
  | _ :: _, [] => rfl
  | w :: ws, v :: vs => by
    show (PyData.eqvAll (dI w) (dI v) && PyData.eqvAll (dT ws) (dT vs)) = _
    rw [eq_tups ws vs, eq_ints, Bool.eq_iff_iff]
    simp
theorem eqv_list (xs ys : List PyData) : PyData.eqv (.list xs) (.list ys) = PyData.eqvAll xs ys := rfl
theorem eqv_tup (xs ys : List PyData) : PyData.eqv (.tuple xs) (.tuple ys) = PyData.eqvAll xs ys := rfl
theorem dp_ints (K : PySem.W.Frag) (H : Hp) : ∀ ns : List Int, DpAll K H (ns.map V.int) (dI ns)
  | [] => .nil
  | n :: ns => .cons (.int n) (dp_ints K H ns)
theorem dp_tup {K : PySem.W.Frag} {H : Hp} {p : Addr} {w : List Int} (h : TupAt H p w) : Dp K H (.ref p) (.tuple (dI w)) := .tup h.q (dp_ints K H w)
theorem dp_lst {K : PySem.W.Frag} {H : Hp} {p : Addr} {ns : List Int} (h : H p = some (.lst (ns.map V.int))) : Dp K H (.ref p) (.list (dI ns)) := .lst (.of h) (dp_ints K H ns)
theorem dp_tups {K : PySem.W.Frag} {H : Hp} : ∀ {ps : List Addr} {ws : List (List Int)}, Tups H ps ws → DpAll K H (ps.map V.ref) (dT ws)
  | _, _, .nil => .nil
  | _, _, .cons r t => .cons (dp_tup r) (dp_tups t)
theorem dp_lstT {K : PySem.W.Frag} {H : Hp} {a : Addr} {ws : List (List Int)} (h : LstT H a ws) : Dp K H (.ref a) (.list (dT ws)) := by
  obtain ⟨ps, h1, h2⟩ := h
  exact .lst (.of h1) (dp_tups h2)
/-- two lists of ints, the second empty: xs == [], xs != [] -/
theorem eq_nil (ns : List Int) : PyData.eqv (.list (dI ns)) (.list (dI [])) = decide (ns = []) := eq_ints ns []
end DK
namespace DK
open PySem PySem.Spec PyProof.Rows L2
/-! ### dicts keyed by tuples of ints -/
def kT (w : List Int) : List Key := w.map Sum.inl
theorem kT_inj {v w : List Int} : kT v = kT w ↔ v = w := by
  constructor
  · intro h
    have e : (kT v).map kV = (kT w).map kV := congrArg (List.map kV) h
    have f : (v.map V.int) = w.map V.int := by rw [← key_tup v, ← key_tup w]; exact e
    exact (List.map_inj_right fun a b h => V.int.inj h).mp f
  · intro h
    rw [h]
def kD (sv : List (List Int × V)) : List (List Key × V) := sv.map fun p => (kT p.1, p.2)
theorem kD_val (w : List Int) : ∀ sv : List (List Int × V), valV (kD sv) (kT w) = sv.lookup w
  | [] => rfl
  | (v, x) :: r => by
    by_cases e : v = w
    · subst e
      rw [show kD ((v, x) :: r) = (kT v, x) :: kD r from rfl, valV_pos rfl]
      simp [List.lookup]
    · rw [show kD ((v, x) :: r) = (kT v, x) :: kD r from rfl, valV_neg (fun z => e (kT_inj.mp z)), kD_val w r]
      have : (w == v) = false := by simpa using fun z => e z.symm
      simp [List.lookup, this]
theorem kD_new {sv : List (List Int × V)} {w : List Int} (x : V) (h : sv.lookup w = none) : putK (kD sv) (kT w) x = kD (sv ++ [(w, x)]) := by
  rw [putK_new x (by rw [kD_val]; exact h)]
  unfold kD
  rw [List.map_append]
  rfl
theorem kD_len (sv : List (List Int × V)) : (kD sv).length = sv.length := List.length_map _
/-- what the dict at d says of the tuple at b -/
theorem DGet.t {H : Hp} {d b : Addr} {sv : List (List Int × V)} {w : List Int} (h : H d = some (.dT (kD sv))) (hb : TupAt H b w) : DGet H d (.ref b) (sv.lookup w) :=
  .inr ⟨kD sv, kT w, b, .inl h, rfl, by rw [show (kT w).map kV = w.map V.int from key_tup w]; exact hb, (kD_val w sv).symm⟩
theorem DPut.t {H : Hp} {d b : Addr} {sv : List (List Int × V)} {w : List Int} (h : H d = some (.dT (kD sv))) (hb : TupAt H b w) (hl : sv.length < sizeLine) (hn : sv.lookup w = none) (x : V) : DPut H d (.ref b) x (upd H d (.dT (kD (sv ++ [(w, x)])))) :=
  .inr ⟨kD sv, kT w, b, h, rfl, by rw [show (kT w).map kV = w.map V.int from key_tup w]; exact hb, by rw [kD_len]; exact hl, by rw [kD_new x hn]⟩
/-- the seen ones -/
def seenD (seen : List (List Int)) : List (List Int × V) := seen.reverse.map fun w => (w, V.bl true)
theorem lookup_map_true (w : List Int) : ∀ l : List (List Int), (l.map fun w => (w, V.bl true)).lookup w = if l.contains w then some (V.bl true) else none
  | [] => rfl
  | v :: r => by
    rw [List.map_cons, List.lookup_cons, lookup_map_true w r, List.contains_cons]
    cases (w == v) <;> simp
theorem seenD_val (w : List Int) (seen : List (List Int)) : (seenD seen).lookup w = if seen.contains w then some (V.bl true) else none := by
  unfold seenD
  rw [lookup_map_true]
  have : seen.reverse.contains w = seen.contains w := by
    rw [Bool.eq_iff_iff]
    simp
  rw [this]
theorem seenD_cons (w : List Int) (seen : List (List Int)) : seenD seen ++ [(w, V.bl true)] = seenD (w :: seen) := by
  unfold seenD
  rw [List.reverse_cons, List.map_append]
  rfl
theorem seenD_len (seen : List (List Int)) : (seenD seen).length = seen.length := by
  unfold seenD
  rw [List.length_map, List.length_reverse]
theorem owedM_len (f : Int) (c : List Int) (k : Nat) : (DP.owedM f c k).length = c.length := by
  simp [DP.owedM]
theorem sharedM_len (c : List Int) : (DP.sharedM c).length = c.length := by
  simp [DP.sharedM]
theorem stepM_len {f : Int} {c c' : List Int} (h : DP.stepM f c = some c') : c'.length = c.length := by
  unfold DP.stepM at h
  cases e : DP.payersM f c with
  | nil => rw [e] at h; cases h
  | cons k r =>
    rw [e] at h
    cases h
    exact owedM_len ..
end DK
namespace DK
open PySem PySem.Spec PyProof.Rows L2
/-- one goal for two ways -/
theorem joinG {G : Hp → Prop} {A : Prop} {cond : Hp → Prop} (main : (∀ H2, cond H2 → G H2) → A) (loop : ∀ H2, cond H2 → G H2) : A := main loop
end DK
namespace DK
open PySem PySem.Spec PyProof.Rows L2
theorem maxI_eq : ∀ ns : List Int, DK.maxI ns = DP.maxI ns
  | [] => rfl
  | _ :: _ => rfl
theorem walk_enumT {K : PySem.W.Frag} {a : Addr} {xs : List V} : Walk (IteT K a) xs.length (fun H => SqT K H a xs) (fun i H v H' => ∃ T x, v = .ref T ∧ H T = none ∧ H' = upd H T (.tup [.int (i : Nat), x]) ∧ xs[i]? = some x) where
  goes := fun i H hi h => ⟨xs, xs[i], h, List.getElem?_eq_getElem hi⟩
  stops := fun H h => ⟨xs, h, rfl⟩
  yields := fun i H v H' hi h ⟨T, x, e1, e2, e3, e4⟩ => ⟨T, x, e1, e2, e3, e4 xs h⟩
theorem walk_zipM {K : PySem.W.Frag} {a b : Addr} {xs ys : List V} (hl : xs.length = ys.length) : Walk (ItzM K a b) xs.length (fun H => SqL K H a xs ∧ SqT K H b ys) (fun i H v H' => ∃ T x y, v = .ref T ∧ H T = none ∧ H' = upd H T (.tup [x, y]) ∧ xs[i]? = some x ∧ ys[i]? = some y) where
  goes := fun i H hi h => ⟨xs, ys, xs[i], ys[i]'(hl ▸ hi), h.1, h.2, List.getElem?_eq_getElem hi, List.getElem?_eq_getElem (hl ▸ hi)⟩
  stops := fun H h => ⟨xs, ys, h.1, h.2, rfl, hl.symm⟩
  yields := fun i H v H' hi h ⟨T, x, y, e1, e2, e3, e4, e5⟩ => ⟨T, x, y, e1, e2, e3, e4 xs h.1, e5 ys h.2⟩
theorem wordsM_len (n : Nat) : ∀ m, (DP.wordsM n m).length = n ^ m
  | 0 => rfl
  | m + 1 => by
    show ((DP.wordsM n m).flatMap fun w => (List.range n).map fun (p : Nat) => w ++ [(p : Int)]).length = _
    rw [List.length_flatMap]
    simp only [List.length_map, List.length_range]
    rw [List.map_const', List.sum_replicate_nat, wordsM_len n m, Nat.pow_succ]
theorem wordsM_item {n : Nat} : ∀ {m : Nat} {u : List Int}, u ∈ DP.wordsM n m → u.length = m ∧ ∀ x ∈ u, 0 ≤ x ∧ x < n
  | 0, u, h => by
    have : u = [] := by simpa [DP.wordsM] using h
    subst this
    exact ⟨rfl, fun x hx => by cases hx⟩
  | m + 1, u, h => by
    have h : u ∈ ((DP.wordsM n m).flatMap fun w => (List.range n).map fun (p : Nat) => w ++ [(p : Int)]) := h
    obtain ⟨w, hw, h2⟩ := List.mem_flatMap.mp h
    obtain ⟨p, hp, rfl⟩ := List.mem_map.mp h2
    obtain ⟨h3, h4⟩ := wordsM_item hw
    refine ⟨by simp [h3], fun x hx => ?_⟩
    rcases List.mem_append.mp hx with z | z
    · exact h4 x z
    · have : x = p := by simpa using z
      subst this
      have := List.mem_range.mp hp
      omega
end DK
namespace DK
open PySem PySem.Spec PyProof.Rows L2
theorem numStep_len (f : Int) (a : List Int) (p : Int) : (DP.numStep f a p).length = a.length := by
  simp [DP.numStep]
theorem numFold_len (f : Int) : ∀ (u : List Int) (a : List Int), (u.foldl (DP.numStep f) a).length = a.length
  | [], _ => rfl
  | x :: u, a => by
    rw [List.foldl_cons, numFold_len f u, numStep_len]
theorem numsM_len (f : Int) (n : Nat) (u : List Int) : (DP.numsM f n u).length = n := by
  unfold DP.numsM
  rw [numFold_len, List.length_replicate]
/-! ### word[k:] + word[:k] -/
section
variable {K : PySem.W.Frag}
theorem slA_drop {H : Hp} {u : Addr} {w : List Int} {k : Nat} {Q : VK} (hw : TupAt H u w) (q : ∀ H' p, Same H H' → TupAt H' p (w.drop k) → Q (.ref p) H') : rSlA K (.ref u) (some (k : Int)) none H Q := by
  refine ⟨u, w.map V.int, rfl, hw.q, fun h => ?_, fun h p np => ?_⟩
  · rw [HT.sIx_nat, HT.sIx_none] at h
    have hk : w.drop k = w := by
      have h1 : min k w.length = 0 := by simpa using h.1
      by_cases z : k = 0
      · rw [z, List.drop_zero]
      · have : w.length = 0 := by omega
        have : w = [] := List.length_eq_zero_iff.mp this
        rw [this, List.drop_nil]
    exact q H u Same.refl' (by rw [hk]; exact hw)
  · refine q _ p (same_new np) ?_
    show upd H p _ p = _
    rw [upd_same]
    unfold cutV
    rw [HT.sIx_nat, HT.sIx_none, List.length_map]
    by_cases z : k ≤ w.length
    · rw [Nat.min_eq_left z, List.map_drop, List.take_of_length_le]
      rw [List.length_drop, List.length_map]
      exact Nat.le_refl _
    · rw [Nat.min_eq_right (by omega), Nat.sub_self, List.take_zero, List.drop_of_length_le (by omega : w.length ≤ k)]
      rfl
theorem slA_take {H : Hp} {u : Addr} {w : List Int} {k : Nat} {Q : VK} (hw : TupAt H u w) (q : ∀ H' p, Same H H' → TupAt H' p (w.take k) → Q (.ref p) H') : rSlA K (.ref u) none (some (k : Int)) H Q := by
  refine ⟨u, w.map V.int, rfl, hw.q, fun h => ?_, fun h p np => ?_⟩
  · rw [HT.sIx_nat, HT.sIx_none] at h
    have hk : w.take k = w := by
      have h1 : min k w.length = w.length := by simpa using h.2
      exact List.take_of_length_le (by omega)
    exact q H u Same.refl' (by rw [hk]; exact hw)
  · refine q _ p (same_new np) ?_
    show upd H p _ p = _
    rw [upd_same]
    unfold cutV
    rw [HT.sIx_nat, HT.sIx_none, List.length_map, List.drop_zero, Nat.sub_zero, List.map_take]
    by_cases z : k ≤ w.length
    · rw [Nat.min_eq_left z]
    · rw [Nat.min_eq_right (by omega), List.take_of_length_le (by simp), List.take_of_length_le (by simp; omega)]
theorem catA_at {H : Hp} {a b : Addr} {u v : List Int} {Q : VK} (ha : TupAt H a u) (hb : TupAt H b v) (hl : u.length + v.length ≤ sizeLine) (q : ∀ H' p, Same H H' → TupAt H' p (u ++ v) → Q (.ref p) H') : rCatA K (.ref a) (.ref b) H Q := by
  refine ⟨a, b, u.map V.int, v.map V.int, rfl, rfl, ha.q, hb.q, by simpa using hl, fun e => ?_, fun _ e => ?_, fun _ _ p np => ?_⟩
  · have : u = [] := List.map_eq_nil_iff.mp e
    exact q H b Same.refl' (by rw [this]; exact hb)
  · have : v = [] := List.map_eq_nil_iff.mp e
    exact q H a Same.refl' (by rw [this, List.append_nil]; exact ha)
  · refine q _ p (same_new np) ?_
    show upd H p _ p = _
    rw [upd_same, List.map_append]
/-- word[k:] + word[:k], as it is read -/
theorem turn_at {H : Hp} {u : Addr} {w : List Int} {k : Nat} {Q : VK} (hw : TupAt H u w) (hl : w.length ≤ 1000) (q : ∀ H' p, Same H H' → TupAt H' p (DP.turnL w k) → Q (.ref p) H') :
    rSlA K (.ref u) (some (k : Int)) none H fun x H1 => ∃ v, some (some (V.ref u)) = some (some v) ∧ ∃ i : Int, some (some (V.int (k : Int))) = some (some (V.int i)) ∧ rSlA K v none (some i) H1 fun y H2 => rCatA K x y H2 Q := by
  refine slA_drop hw fun H1 a s1 ha => ⟨.ref u, rfl, k, rfl, slA_take (hw.same s1) fun H2 b s2 hb => ?_⟩
  refine catA_at (ha.same s2) hb ?_ fun H3 p s3 hp => q _ _ ((s1.trans s2).trans s3) hp
  have := small1000 hl
  rw [List.length_drop, List.length_take]
  omega
end
/-! ### counts -/
def kK (cs : List (Nat × Int)) : List (Key × V) := cs.map fun p => ((Sum.inl (p.1 : Int) : Key), V.int p.2)
theorem inl_inj {a b : Nat} : ((Sum.inl (a : Int) : Key) = Sum.inl (b : Int)) ↔ a = b :=
  ⟨fun h => by have := Sum.inl.inj h; omega, fun h => by rw [h]⟩
theorem kK_val (k : Nat) : ∀ cs : List (Nat × Int), valV (kK cs) (Sum.inl (k : Int) : Key) = (cs.lookup k).map V.int
  | [] => rfl
  | (j, n) :: r => by
    by_cases e : j = k
    · subst e
      rw [show kK ((j, n) :: r) = (Sum.inl (j : Int), V.int n) :: kK r from rfl, valV_pos rfl]
      simp [List.lookup]
    · rw [show kK ((j, n) :: r) = (Sum.inl (j : Int), V.int n) :: kK r from rfl, valV_neg (fun z => e (inl_inj.mp z)), kK_val k r]
      have : (k == j) = false := by simpa using fun z => e z.symm
      simp [List.lookup, this]
theorem kK_put (k : Nat) : ∀ cs : List (Nat × Int), (cs.map (·.1)).Nodup → putK (kK cs) (Sum.inl (k : Int) : Key) (.int ((cs.lookup k).getD 0 + 1)) = kK (DP.putC k cs)
  | [], _ => rfl
  | (j, n) :: r, nd => by
    have nd2 := List.nodup_cons.mp nd
    by_cases e : j = k
    · subst e
      have e1 : DP.putC j ((j, n) :: r) = (j, n + 1) :: r := by simp [DP.putC]
      have e2 : (((j, n) :: r).lookup j) = some n := by simp [List.lookup]
      have e3 : (kK ((j, n) :: r)).any (fun kv => decide (kv.1 = (Sum.inl (j : Int) : Key))) = true := by
        rw [show kK ((j, n) :: r) = (Sum.inl (j : Int), V.int n) :: kK r from rfl, List.any_cons]
        simp
      have e4 : (kK r).map (fun kv => if kv.1 = (Sum.inl (j : Int) : Key) then (kv.1, V.int (n + 1)) else kv) = kK r := by
        conv => rhs; rw [← List.map_id (kK r)]
        refine List.map_congr_left fun kv hkv => ?_
        obtain ⟨p, hp, rfl⟩ := List.mem_map.mp hkv
        rw [if_neg (fun z => nd2.1 (by rw [← inl_inj.mp z]; exact List.mem_map.mpr ⟨p, hp, rfl⟩))]
        rfl
      rw [e1, e2]
      unfold putK
      rw [if_pos e3, show kK ((j, n) :: r) = (Sum.inl (j : Int), V.int n) :: kK r from rfl, List.map_cons, if_pos rfl]
      show _ :: List.map (fun kv => if kv.1 = (Sum.inl (j : Int) : Key) then (kv.1, V.int (n + 1)) else kv) (kK r) = _
      rw [e4]
      rfl
    · have e1 : DP.putC k ((j, n) :: r) = (j, n) :: DP.putC k r := by simp [DP.putC, e]
      have hk : (k == j) = false := by simpa using fun z => e z.symm
      have e2 : (((j, n) :: r).lookup k) = r.lookup k := by simp [List.lookup, hk]
      have ne : ¬ (Sum.inl (j : Int) : Key) = Sum.inl (k : Int) := fun z => e (inl_inj.mp z)
      have ih := kK_put k r nd2.2
      rw [e1, e2, show kK ((j, n) :: DP.putC k r) = (Sum.inl (j : Int), V.int n) :: kK (DP.putC k r) from rfl, ← ih, show kK ((j, n) :: r) = (Sum.inl (j : Int), V.int n) :: kK r from rfl]
      unfold putK
      rw [List.any_cons, decide_eq_false ne, Bool.false_or]
      by_cases z : ((kK r).any fun kv => decide (kv.1 = (Sum.inl (k : Int) : Key))) = true
      · rw [if_pos z, if_pos z, List.map_cons, if_neg ne]
      · rw [if_neg z, if_neg z]
        rfl
theorem putC_keys (k x : Nat) : ∀ cs : List (Nat × Int), x ∈ (DP.putC k cs).map (·.1) ↔ x = k ∨ x ∈ cs.map (·.1)
  | [] => by simp [DP.putC]
  | (j, n) :: r => by
    by_cases e : j = k
    · subst e
      simp [DP.putC]
    · have ih := putC_keys k x r
      simp only [DP.putC, e, if_false, List.map_cons, List.mem_cons, ih]
      constructor
      · rintro (h | h | h)
        · exact .inr (.inl h)
        · exact .inl h
        · exact .inr (.inr h)
      · rintro (h | h | h)
        · exact .inr (.inl h)
        · exact .inl h
        · exact .inr (.inr h)
theorem putC_nodup (k : Nat) : ∀ cs : List (Nat × Int), (cs.map (·.1)).Nodup → ((DP.putC k cs).map (·.1)).Nodup
  | [], _ => by simp [DP.putC]
  | (j, n) :: r, nd => by
    have nd2 := List.nodup_cons.mp nd
    by_cases e : j = k
    · subst e
      simpa [DP.putC] using nd2
    · have h1 : DP.putC k ((j, n) :: r) = (j, n) :: DP.putC k r := by simp [DP.putC, e]
      rw [h1, List.map_cons, List.nodup_cons]
      refine ⟨fun z => ?_, putC_nodup k r nd2.2⟩
      rcases (putC_keys k j r).mp z with z | z
      · exact e z
      · exact nd2.1 z
/-- different numbers from 1 to m: m at most -/
theorem nodup_bound : ∀ (m : Nat) (l : List Nat), l.Nodup → (∀ x ∈ l, 1 ≤ x ∧ x ≤ m) → l.length ≤ m
  | 0, l, _, h => by
    cases l with
    | nil => exact Nat.le_refl _
    | cons x r => have := h x List.mem_cons_self; omega
  | m + 1, l, nd, h => by
    by_cases hm : (m + 1) ∈ l
    · have ih := nodup_bound m (l.erase (m + 1)) (nd.erase _) fun x hx => by
        have := nd.mem_erase_iff.mp hx
        have := h x this.2
        omega
      rw [List.length_erase_of_mem hm] at ih
      omega
    · have ih := nodup_bound m l nd fun x hx => by
        have := h x hx
        have : x ≠ m + 1 := fun z => hm (z ▸ hx)
        omega
      omega
theorem turn_full (w : List Int) : DP.turnL w w.length = w := by
  unfold DP.turnL
  rw [List.drop_length, List.take_length, List.nil_append]
theorem cycsOf_ne {w : List Int} (h : 1 ≤ w.length) : ∃ k r, DP.cycsOf w w.length = k :: r ∧ 1 ≤ k ∧ k ≤ w.length := by
  have hin : w.length ∈ DP.cycsOf w w.length := by
    unfold DP.cycsOf
    rw [List.mem_filter]
    refine ⟨List.mem_map.mpr ⟨w.length - 1, List.mem_range.mpr (by omega), by omega⟩, ?_⟩
    rw [turn_full]
    simp
  cases e : DP.cycsOf w w.length with
  | nil => rw [e] at hin; cases hin
  | cons k r =>
    have hk : k ∈ DP.cycsOf w w.length := by rw [e]; exact List.mem_cons_self
    unfold DP.cycsOf at hk
    obtain ⟨h1, _⟩ := List.mem_filter.mp hk
    obtain ⟨i, hi, rfl⟩ := List.mem_map.mp h1
    have := List.mem_range.mp hi
    exact ⟨i + 1, r, rfl, by omega, by omega⟩
end DK
namespace DK
open PySem PySem.Spec PyProof.Rows L2
theorem sharesM_two (n t : Nat) : DP.sharesM (n + 2) t = (List.range (t + 1)).flatMap fun (one : Nat) => (DP.sharesM (n + 1) (t - one)).map fun r => (one : Int) :: r := rfl
theorem sharesM_item : ∀ {n t : Nat} {r : List Int}, r ∈ DP.sharesM (n + 1) t → r.length = n + 1
  | 0, t, r, h => by
    have : r = [(t : Int)] := by simpa [DP.sharesM] using h
    rw [this]
    rfl
  | n + 1, t, r, h => by
    rw [sharesM_two] at h
    obtain ⟨o, _, h2⟩ := List.mem_flatMap.mp h
    obtain ⟨r', h3, rfl⟩ := List.mem_map.mp h2
    rw [List.length_cons, sharesM_item h3]
theorem sum_le_map {α : Type} (f : α → Nat) (b : Nat) : ∀ l : List α, (∀ x ∈ l, f x ≤ b) → (l.map f).sum ≤ l.length * b
  | [], _ => Nat.zero_le _
  | x :: l, h => by
    have h1 := h x List.mem_cons_self
    have h2 := sum_le_map f b l fun y hy => h y (List.mem_cons_of_mem _ hy)
    rw [List.map_cons, List.sum_cons, List.length_cons, Nat.succ_mul]
    omega
theorem sharesM_len : ∀ (n t s : Nat), t ≤ s → (DP.sharesM (n + 1) t).length ≤ (s + 1) ^ n
  | 0, t, s, _ => by
    show 1 ≤ (s + 1) ^ 0
    rw [Nat.pow_zero]
    exact Nat.le_refl _
  | n + 1, t, s, h => by
    rw [sharesM_two, List.length_flatMap]
    have := sum_le_map (fun (o : Nat) => ((DP.sharesM (n + 1) (t - o)).map fun r => (o : Int) :: r).length) ((s + 1) ^ n) (List.range (t + 1)) fun o _ => by
      rw [List.length_map]
      exact sharesM_len n (t - o) s (by omega)
    rw [List.length_range] at this
    refine Nat.le_trans this ?_
    rw [Nat.pow_succ, Nat.mul_comm]
    exact Nat.mul_le_mul_left _ (by omega)
theorem sharesM_fits {n t : Nat} (hn : n + 1 ≤ 4) (ht : t ≤ 100) : (DP.sharesM (n + 1) t).length ≤ 1100000 := by
  refine Nat.le_trans (sharesM_len n t 100 ht) ?_
  have : (100 + 1) ^ n ≤ (100 + 1) ^ 3 := Nat.pow_le_pow_right (by decide) (by omega)
  exact Nat.le_trans this (by decide)
theorem powM_pos {f : Int} (h : 0 < f) : ∀ m, 0 < DP.powM f m
  | 0 => (by decide : (0 : Int) < 1)
  | m + 1 => Int.mul_pos (powM_pos h m) h
theorem leastM_len (f : Int) (n : Nat) (t : Int) (u : List Int) : (DP.leastM f n t u).length = n := by
  unfold DP.leastM
  rw [List.length_map, numsM_len]
end DK
namespace DK
open PySem PySem.Spec PyProof.Rows L2
theorem DGet.tR {H : Hp} {d b : Addr} {sv : List (List Int × V)} {w : List Int} (h : Rd H d (.dT (kD sv))) (hb : TupAt H b w) : DGet H d (.ref b) (sv.lookup w) :=
  .inr ⟨kD sv, kT w, b, h, rfl, by rw [show (kT w).map kV = w.map V.int from key_tup w]; exact hb, (kD_val w sv).symm⟩
/-- found, as a dict -/
def fdV (fd : List (List Int × Bool)) : List (List Int × V) := fd.map fun p => (p.1, V.bl p.2)
theorem fdV_val (c : List Int) : ∀ fd : List (List Int × Bool), (fdV fd).lookup c = (fd.lookup c).map V.bl
  | [] => rfl
  | (v, b) :: r => by
    rw [show fdV ((v, b) :: r) = (v, V.bl b) :: fdV r from rfl, List.lookup_cons, List.lookup_cons, fdV_val c r]
    cases (c == v) <;> rfl
theorem fdV_len (fd : List (List Int × Bool)) : (fdV fd).length = fd.length := List.length_map _
theorem lookup_none {c : List Int} : ∀ {fd : List (List Int × Bool)}, fd.lookup c = none ↔ (fd.map (·.1)).contains c = false
  | [] => by simp
  | (v, b) :: r => by
    rw [List.lookup_cons, List.map_cons, List.contains_cons]
    cases e : (c == v)
    · simp only [Bool.false_or]
      exact lookup_none
    · simp
theorem lookup_at : ∀ {fd : List (List Int × Bool)} {i : Nat} {c : List Int} {b : Bool}, (fd.map (·.1)).Nodup → fd[i]? = some (c, b) → fd.lookup c = some b
  | [], i, c, b, _, h => by simp at h
  | (v, x) :: r, 0, c, b, nd, h => by
    have e : (v, x) = (c, b) := by simpa using h
    cases e
    simp [List.lookup]
  | (v, x) :: r, i + 1, c, b, nd, h => by
    have h : r[i]? = some (c, b) := by simpa using h
    have nd2 := List.nodup_cons.mp nd
    have ne : (c == v) = false := by
      rw [beq_eq_false_iff_ne]
      intro z
      subst z
      exact nd2.1 (List.mem_map.mpr ⟨(c, b), List.mem_of_getElem? h, rfl⟩)
    rw [List.lookup_cons, ne]
    exact lookup_at nd2.2 h
theorem addT_none {f : Int} {fd fd' : List (List Int × Bool)} {c : List Int} (h : DP.addT f fd c = some fd') :
    ((fd.map (·.1)).contains c = true ∧ fd' = fd) ∨ ((fd.map (·.1)).contains c = false ∧ 0 < DP.gcdL c ∧ DP.gcdL c < 1000000 ∧ fd.length < 10000 ∧ ∃ b, DP.foreverM f c = some b ∧ fd' = fd ++ [(c, b)]) := by
  unfold DP.addT at h
  by_cases e : (fd.map (·.1)).contains c = true
  · rw [if_pos e] at h
    exact .inl ⟨e, (Option.some.inj h).symm⟩
  · rw [if_neg e] at h
    by_cases g : 0 < DP.gcdL c ∧ DP.gcdL c < 1000000 ∧ fd.length < 10000
    · rw [if_pos g] at h
      obtain ⟨b, hb, e2⟩ := Option.map_eq_some_iff.mp h
      exact .inr ⟨eq_false_of_ne_true e, g.1, g.2.1, g.2.2, b, hb, e2.symm⟩
    · rw [if_neg g] at h
      cases h
/-- keys differ, all of one length -/
structure FdOk (n : Nat) (fd : List (List Int × Bool)) : Prop where
  nd : (fd.map (·.1)).Nodup
  ln : ∀ p ∈ fd, p.1.length = n
  sz : fd.length ≤ 10000
theorem FdOk.snoc {n : Nat} {fd : List (List Int × Bool)} {c : List Int} {b : Bool} (h : FdOk n fd) (hc : c.length = n) (hn : (fd.map (·.1)).contains c = false) (hs : fd.length < 10000) : FdOk n (fd ++ [(c, b)]) := by
  refine ⟨?_, fun p hp => ?_, by rw [List.length_append]; exact hs⟩
  · rw [List.map_append, List.nodup_append]
    refine ⟨h.nd, by simp, fun a ha z hz e => ?_⟩
    have hz : z = c := by simpa using hz
    subst hz
    subst e
    have : (fd.map (·.1)).contains a = true := by simpa using ha
    rw [this] at hn
    cases hn
  · rcases List.mem_append.mp hp with z | z
    · exact h.ln p z
    · have : p = (c, b) := by simpa using z
      subst this
      exact hc
theorem moreM_item {f : Int} {n k : Nat} {t : Int} {ws : List (List Int)} (h : ∀ u ∈ ws, u.length = k ∧ ∀ x ∈ u, 0 ≤ x ∧ x < n) : ∀ u ∈ DP.moreM f n t ws, u.length = k + 1 ∧ ∀ x ∈ u, 0 ≤ x ∧ x < n := by
  intro u hu
  unfold DP.moreM at hu
  obtain ⟨w, hw, h2⟩ := List.mem_flatMap.mp hu
  obtain ⟨h3, _⟩ := List.mem_filter.mp h2
  obtain ⟨p, hp, rfl⟩ := List.mem_map.mp h3
  obtain ⟨h4, h5⟩ := h w hw
  refine ⟨by simp [h4], fun x hx => ?_⟩
  rcases List.mem_append.mp hx with z | z
  · exact h5 x z
  · have : x = p := by simpa using z
    subst this
    have := List.mem_range.mp hp
    omega
theorem moreM_len {f : Int} {n : Nat} {t : Int} (ws : List (List Int)) : (DP.moreM f n t ws).length ≤ ws.length * n := by
  unfold DP.moreM
  rw [List.length_flatMap]
  refine sum_le_map _ n ws fun w _ => ?_
  refine Nat.le_trans (List.length_filter_le _ _) ?_
  rw [List.length_map, List.length_range]
  exact Nat.le_refl _
theorem lockS {H H2 : Hp} {d : Addr} {u : HO} {o : Obj} (hd : H d = some u) (s : Same (upd H d (.frz o u)) H2) : Same H (upd H2 d u) := fun b x h => by
  by_cases e : b = d
  · subst e
    rw [upd_same]
    exact hd.symm.trans h
  · rw [upd_ne e]
    exact s _ _ (by rw [upd_ne e]; exact h)
end DK
namespace DP
/-! the finite part, said so that it is soon counted -/
def eqI : Int → Int → Bool
  | .ofNat a, .ofNat b => Nat.beq a b
  | .negSucc a, .negSucc b => Nat.beq a b
  | _, _ => false
def ltI : Int → Int → Bool
  | .ofNat a, .ofNat b => Nat.ble (a + 1) b
  | .negSucc a, .negSucc b => Nat.ble (b + 1) a
  | .negSucc _, .ofNat _ => true
  | .ofNat _, .negSucc _ => false
theorem eqI_eq : ∀ a b : Int, eqI a b = decide (a = b)
  | .ofNat a, .ofNat b => by
    rw [Bool.eq_iff_iff]
    simp [eqI]
    omega
  | .negSucc a, .negSucc b => by
    rw [Bool.eq_iff_iff]
    simp [eqI]
  | .ofNat a, .negSucc b => by simp [eqI]
  | .negSucc a, .ofNat b => by simp [eqI]
theorem ltI_eq : ∀ a b : Int, ltI a b = decide (a < b)
  | .ofNat a, .ofNat b => by
    rw [Bool.eq_iff_iff]
    simp [ltI]
    omega
  | .negSucc a, .negSucc b => by
    rw [Bool.eq_iff_iff]
    simp [ltI]
    omega
  | .ofNat a, .negSucc b => by
    rw [Bool.eq_iff_iff]
    simp [ltI]
    omega
  | .negSucc a, .ofNat b => by
    rw [Bool.eq_iff_iff]
    simp [ltI]
    omega
def eqL : List Int → List Int → Bool
  | [], [] => true
  | x :: xs, y :: ys => if eqI x y then eqL xs ys else false
  | _, _ => false
theorem eqL_eq : ∀ a b : List Int, eqL a b = decide (a = b)
  | [], [] => rfl
  | [], _ :: _ => rfl
  | _ :: _, [] => rfl
  | x :: xs, y :: ys => by
    show (if eqI x y = true then eqL xs ys else false) = _
    rw [eqI_eq, eqL_eq xs ys, Bool.eq_iff_iff]
    by_cases h : x = y <;> simp [h]
def ltF : List Int → List Int → Bool
  | [], [] => false
  | [], _ :: _ => true
  | _ :: _, [] => false
  | x :: xs, y :: ys => if eqI x y then ltF xs ys else ltI x y
theorem ltF_eq : ∀ a b : List Int, ltL a b = ltF a b
  | [], [] => rfl
  | [], _ :: _ => rfl
  | _ :: _, [] => rfl
  | x :: xs, y :: ys => by
    show (if x = y then ltL xs ys else decide (x < y)) = if eqI x y = true then ltF xs ys else ltI x y
    rw [eqI_eq, ltI_eq, ltF_eq xs ys]
    by_cases h : x = y <;> simp [h]
def insF (x : List Int) : List (List Int) → List (List Int)
  | [] => [x]
  | y :: r => if ltF y x then y :: insF x r else x :: y :: r
theorem insF_eq (x : List Int) : ∀ l, insL x l = insF x l
  | [] => rfl
  | y :: r => by
    show (if ltL y x = true then y :: insL x r else x :: y :: r) = _
    rw [ltF_eq, insF_eq x r]
    rfl
def sortF : List (List Int) → List (List Int)
  | [] => []
  | x :: r => insF x (sortF r)
theorem sortF_eq : ∀ l, sortL l = sortF l
  | [] => rfl
  | x :: r => by
    show insL x (sortL r) = _
    rw [insF_eq, sortF_eq r]
    rfl
def allEq : List (List Int) → List (List Int) → Bool
  | [], [] => true
  | x :: xs, y :: ys => if eqL x y then allEq xs ys else false
  | _, _ => false
theorem allEq_eq : ∀ a b : List (List Int), allEq a b = true → a = b
  | [], [], _ => rfl
  | [], _ :: _, h => by cases h
  | _ :: _, [], h => by cases h
  | x :: xs, y :: ys, h => by
    have h : (if eqL x y = true then allEq xs ys else false) = true := h
    rw [eqL_eq] at h
    by_cases e : x = y
    · rw [if_pos (decide_eq_true e)] at h
      rw [e, allEq_eq xs ys h]
    · rw [if_neg (by simpa using e)] at h
      cases h
/-- the coins of a word, all that are ahead of forever_in -/
def coinsOf (f : Int) (n : Nat) (t : Int) (w : List Int) : List (List Int) := (sharesM n (t - (leastM f n t w).sum).toNat).map fun r => List.zipWith (· + ·) (leastM f n t w) r
theorem fold_add {f : Int} : ∀ (cs : List (List Int)) (fd : List (List Int × Bool)), (∀ c ∈ cs, 0 < gcdL c ∧ gcdL c < 1000000 ∧ foreverM f c = some true) → (fd.map (·.1) ++ cs).Nodup → fd.length + cs.length < 10000 →
    cs.foldlM (addT f) fd = some (fd ++ cs.map fun c => (c, true))
  | [], fd, _, _, _ => by simp [List.foldlM]
  | c :: cs, fd, h, nd, hl => by
    obtain ⟨g1, g2, g3⟩ := h c List.mem_cons_self
    have nin : (fd.map (·.1)).contains c = false := by
      rw [Bool.eq_false_iff]
      intro z
      have z : c ∈ fd.map (·.1) := by simpa using z
      exact (List.nodup_append.mp nd).2.2 c z c List.mem_cons_self rfl
    rw [List.length_cons] at hl
    have e : addT f fd c = some (fd ++ [(c, true)]) := by
      unfold addT
      rw [nin, if_neg (by decide), if_pos ⟨g1, g2, by omega⟩, g3]
      rfl
    rw [List.foldlM_cons, e]
    show cs.foldlM (addT f) (fd ++ [(c, true)]) = _
    rw [fold_add cs (fd ++ [(c, true)]) (fun d hd => h d (List.mem_cons_of_mem _ hd)) ?_ ?_]
    · simp
    · simpa using nd
    · simp
      omega
theorem fold_words {f : Int} {n : Nat} {t : Int} : ∀ (ws : List (List Int)) (fd : List (List Int × Bool)), (∀ w ∈ ws, 0 ≤ (leastM f n t w).sum ∧ (leastM f n t w).sum ≤ t) →
    ws.foldlM (addW f n t) fd = (ws.flatMap (coinsOf f n t)).foldlM (addT f) fd
  | [], _, _ => rfl
  | w :: ws, fd, h => by
    have e : addW f n t fd w = (coinsOf f n t w).foldlM (addT f) fd := by
      unfold addW coinsOf
      rw [List.foldlM_map]
      exact if_pos (h w List.mem_cons_self)
    rw [List.foldlM_cons, List.flatMap_cons, List.foldlM_append, e]
    congr 1
    funext fd2
    exact fold_words ws fd2 fun v hv => h v (List.mem_cons_of_mem _ hv)
def rising : List (List Int) → Bool
  | x :: y :: r => if ltF x y then rising (y :: r) else false
  | _ => true
theorem rising_sorted : ∀ l : List (List Int), rising l = true → l.Pairwise (fun a b => a < b)
  | [], _ => .nil
  | [x], _ => List.pairwise_singleton _ _
  | x :: y :: r, h => by
    have h : (if ltF x y = true then rising (y :: r) else false) = true := h
    by_cases e : ltF x y = true
    · rw [if_pos e] at h
      have ih := rising_sorted (y :: r) h
      rw [← ltF_eq, ltL_iff] at e
      refine List.pairwise_cons.mpr ⟨fun z hz => ?_, ih⟩
      rcases List.mem_cons.mp hz with q | q
      · rw [q]
        exact e
      · exact List.lt_trans e ((List.pairwise_cons.mp ih).1 z q)
    · rw [if_neg e] at h
      cases h
/-- forever_tables gives these -/
def tabF (f : Int) (n : Nat) (t : Int) (told : List (List Int)) : Bool :=
  match wordsT f n t 10 [[]] 0 with
  | none => false
  | some ws => (ws.all fun w => decide (0 ≤ (leastM f n t w).sum) && decide ((leastM f n t w).sum ≤ t)) && allEq (sortF (ws.flatMap (coinsOf f n t))) told && rising told && decide (told.length < 10000)
theorem tabF_eq {f : Int} {n : Nat} {t : Int} {told : List (List Int)} (h : tabF f n t told = true) (ok : ∀ c ∈ told, 0 < gcdL c ∧ gcdL c < 1000000 ∧ foreverM f c = some true) : tablesM f n t = some told := by
  unfold tabF at h
  unfold tablesM
  cases e : wordsT f n t 10 [[]] 0 with
  | none => rw [e] at h; cases h
  | some ws =>
    rw [e] at h
    simp only [Bool.and_eq_true, decide_eq_true_eq, List.all_eq_true] at h
    obtain ⟨⟨⟨h1, h2⟩, h3⟩, h4⟩ := h
    have e2 : sortL (ws.flatMap (coinsOf f n t)) = told := by rw [sortF_eq]; exact allEq_eq _ _ h2
    have pm := sortL_perm (ws.flatMap (coinsOf f n t))
    rw [e2] at pm
    have nd : told.Nodup := (rising_sorted told h3).imp fun h z => by rw [z] at h; exact List.lt_irrefl _ h
    have len := pm.length_eq
    show (ws.foldlM (addW f n t) []).bind (fun fd => some (sortL ((fd.filter (·.2)).map (·.1)))) = some told
    rw [fold_words ws [] h1, fold_add _ [] (fun c hc => ok c (pm.mem_iff.mpr hc)) (by simpa using pm.nodup_iff.mp nd) (by simp; simp at len; omega)]
    show some (sortL (((([] : List (List Int × Bool)) ++ (ws.flatMap (coinsOf f n t)).map fun c => (c, true)).filter (·.2)).map (·.1))) = some told
    have e3 : ((([] : List (List Int × Bool)) ++ (ws.flatMap (coinsOf f n t)).map fun c => (c, true)).filter (·.2)).map (·.1) = ws.flatMap (coinsOf f n t) := by
      rw [List.nil_append, List.filter_eq_self.mpr, List.map_map]
      · exact List.map_id' _
      · intro p hp
        obtain ⟨c, _, rfl⟩ := List.mem_map.mp hp
        rfl
    rw [e3, e2]
/-- what is counted of a table list -/
def toldF (f : Int) (n m : Nat) : List (List Int) := sortF ((wordsM n m).map (numsM f n))
theorem toldF_eq (f : Int) (n m : Nat) : toldM f n m = toldF f n m := sortF_eq _
def tabOk (f : Int) (n m : Nat) : Bool := decide (100 < powM f m) || tabF f n (powM f m - 1) (toldF f n m)
def pickOk (f : Int) (n m : Nat) : Bool := ((wordsM n m).map (numsM f n)).all fun c => decide (c.sum = powM f m - 1) && okPick f m c
theorem mid_of {f : Int} {n m : Nat} (h1 : tabOk f n m = true) (h2 : pickOk f n m = true) : okMid f n m = true := by
  unfold tabOk at h1
  unfold pickOk at h2
  rw [List.all_eq_true] at h2
  have h3 : ∀ c ∈ toldM f n m, c.sum = powM f m - 1 ∧ okPick f m c = true := fun c hc => by
    have := h2 c ((sortL_perm _).mem_iff.mp hc)
    simpa using this
  unfold okMid
  simp only [Bool.and_eq_true, Bool.or_eq_true, decide_eq_true_eq, beq_iff_eq, List.all_eq_true]
  refine ⟨⟨⟨?_, fun c hc => (h3 c hc).1⟩, ?_⟩, fun c hc => (h3 c hc).2⟩
  · unfold toldM
    rw [(sortL_perm _).length_eq, List.length_map]
  · rw [Bool.or_eq_true, decide_eq_true_eq] at h1
    rcases h1 with z | z
    · exact .inl z
    · refine .inr ?_
      rw [← toldF_eq] at z
      refine tabF_eq z fun c hc => ?_
      have h4 := (h3 c hc).2
      unfold okPick at h4
      simp only [Bool.and_eq_true, decide_eq_true_eq, beq_iff_eq] at h4
      exact ⟨h4.1.1.1.1.2, h4.1.1.1.2, h4.1.1.2⟩
end DP
namespace DK
/-! ### the finite part: all players, rounds, factors -/
def big (n m : Nat) : Bool := (n == 3 && m == 5) || (n == 4 && m == 4) || (n == 4 && m == 5)
def small0 (p : Nat → Nat → Bool) : Bool := (List.range 4).all fun n => (List.range 5).all fun m => big (n + 1) (m + 1) || p (n + 1) (m + 1)
theorem dom_all {p : Nat → Nat → Bool} (hs : small0 p = true) (h35 : p 3 5 = true) (h44 : p 4 4 = true) {n m : Nat} (h1 : 1 ≤ n) (h2 : n ≤ 4) (h3 : 1 ≤ m) (h4 : m ≤ (if n < 4 then 5 else 4)) : p n m = true := by
  by_cases e : big n m = true
  · simp only [big, Bool.or_eq_true, Bool.and_eq_true, beq_iff_eq] at e
    rcases e with (⟨a, b⟩ | ⟨a, b⟩) | ⟨a, b⟩
    · rw [a, b]
      exact h35
    · rw [a, b]
      exact h44
    · rw [a, b] at h4
      exact absurd h4 (by decide)
  · obtain ⟨n, rfl⟩ : ∃ k, n = k + 1 := ⟨n - 1, by omega⟩
    obtain ⟨m, rfl⟩ : ∃ k, m = k + 1 := ⟨m - 1, by omega⟩
    unfold small0 at hs
    have h5 : m + 1 ≤ 5 := by split at h4 <;> omega
    have := List.all_eq_true.mp (List.all_eq_true.mp hs n (List.mem_range.mpr (by omega))) m (List.mem_range.mpr (by omega))
    rw [Bool.or_eq_true] at this
    rcases this with z | z
    · exact absurd z e
    · exact z
theorem top_s : small0 DP.okTop = true := by decide +kernel
theorem top_35 : DP.okTop 3 5 = true := by decide +kernel
theorem top_44 : DP.okTop 4 4 = true := by decide +kernel
theorem tab_2s : small0 (DP.tabOk 2) = true := by decide +kernel
theorem tab_235 : DP.tabOk 2 3 5 = true := by decide +kernel
theorem tab_244 : DP.tabOk 2 4 4 = true := by decide +kernel
theorem tab_3s : small0 (DP.tabOk 3) = true := by decide +kernel
theorem tab_335 : DP.tabOk 3 3 5 = true := by decide +kernel
theorem tab_344 : DP.tabOk 3 4 4 = true := by decide +kernel
theorem tab_4s : small0 (DP.tabOk 4) = true := by decide +kernel
theorem tab_435 : DP.tabOk 4 3 5 = true := by decide +kernel
theorem tab_444 : DP.tabOk 4 4 4 = true := by decide +kernel
theorem pick_2s : small0 (DP.pickOk 2) = true := by decide +kernel
theorem pick_235 : DP.pickOk 2 3 5 = true := by decide +kernel
theorem pick_244 : DP.pickOk 2 4 4 = true := by decide +kernel
theorem pick_3s : small0 (DP.pickOk 3) = true := by decide +kernel
theorem pick_335 : DP.pickOk 3 3 5 = true := by decide +kernel
theorem pick_344 : DP.pickOk 3 4 4 = true := by decide +kernel
theorem pick_4s : small0 (DP.pickOk 4) = true := by decide +kernel
theorem pick_435 : DP.pickOk 4 3 5 = true := by decide +kernel
theorem pick_444 : DP.pickOk 4 4 4 = true := by decide +kernel
theorem top_all {n m : Nat} (h1 : 1 ≤ n) (h2 : n ≤ 4) (h3 : 1 ≤ m) (h4 : m ≤ (if n < 4 then 5 else 4)) : DP.okTop n m = true := dom_all top_s top_35 top_44 h1 h2 h3 h4
theorem mid_all {f n m : Nat} (hf2 : 2 ≤ f) (hf4 : f ≤ 4) (h1 : 1 ≤ n) (h2 : n ≤ 4) (h3 : 1 ≤ m) (h4 : m ≤ (if n < 4 then 5 else 4)) : DP.okMid (f : Int) n m = true := by
  have : f = 2 ∨ f = 3 ∨ f = 4 := by omega
  rcases this with e | e | e
  · subst e
    exact DP.mid_of (dom_all tab_2s tab_235 tab_244 h1 h2 h3 h4) (dom_all pick_2s pick_235 pick_244 h1 h2 h3 h4)
  · subst e
    exact DP.mid_of (dom_all tab_3s tab_335 tab_344 h1 h2 h3 h4) (dom_all pick_3s pick_335 pick_344 h1 h2 h3 h4)
  · subst e
    exact DP.mid_of (dom_all tab_4s tab_435 tab_444 h1 h2 h3 h4) (dom_all pick_4s pick_435 pick_444 h1 h2 h3 h4)
end DK
namespace DK
open PySem PySem.Spec PyProof.Rows L2
/-! ### sets of tuples of ints, up to 76 of them -/
section
variable {P : Program} {w : World} {A : Around} {E : Value → Shared → Prop} {s : Shared}
/-- the set at a holds the tuples L (addresses, ints) -/
structure Bag (P : Program) (w : World) (h : Heap) (a : Addr) (L : List (Addr × List Int)) (es : Array (Int × Value)) (ep : Nat) (t : SetTable) : Prop where
  here : ∃ o, h.get? a = some o ∧ o.ExactSet ∧ o.data = .set es ep t
  rws : es.toList = rowsOf P w L
  tb : TabOk t (L.map fun p => thash P w p.2)
  uniq : (L.map (·.2)).Nodup
  pl : t.plain = true
  ld : w.params.followText "set-order" = true ∨ t.led = true
  rm : L.length * 5 < t.mask * 3
def Tups0 (P : Program) (w : World) (h : Heap) (L : List (Addr × List Int)) : Prop := ∀ p ∈ L, IsT P w h p.2 p.1
variable {a : Addr} {L : List (Addr × List Int)} {es : Array (Int × Value)} {ep : Nat} {t : SetTable}
theorem rows_len {es : Array (Int × Value)} (h : es.toList = rowsOf P w L) : es.size = L.length := by
  have e : es.toList.length = (rowsOf P w L).length := by rw [h]
  simpa [rowsOf] using e
theorem Bag.n (B : Bag P w s.heap a L es ep t) : es.size = L.length := rows_len B.rws
theorem mask_127 {m : Nat} (h : MaskOk m) : m ≤ 127 := by
  rcases h with e | e | e <;> omega
theorem Bag.le76 (B : Bag P w s.heap a L es ep t) : L.length ≤ 76 := by
  have h1 := mask_127 B.tb.mok
  have h2 := B.rm
  omega
theorem fits_of {t : SetTable} {n : Nat} (h1 : t.place.size = n) (h2 : t.dummies = #[]) (h3 : n ≤ t.mask) : t.fits n = true := by
  simp only [SetTable.fits, SetTable.fill, h2, Bool.and_eq_true, beq_iff_eq, decide_eq_true_eq]
  exact ⟨h1, by rw [h1]; exact h3⟩
theorem Bag.place (B : Bag P w s.heap a L es ep t) : t.place.size = L.length := by
  have := B.tb.sz
  rwa [List.length_map] at this
theorem Bag.fits (B : Bag P w s.heap a L es ep t) : t.fits es.size = true := by
  have h := B.rm
  exact fits_of (by rw [B.place, B.n]) B.tb.dm (by rw [B.n]; omega)
theorem Bag.row (B : Bag P w s.heap a L es ep t) {i : Nat} {p : Addr × List Int} (h : L[i]? = some p) : es[i]? = some (thash P w p.2, Value.ref p.1) := by
  rw [← Array.getElem?_toList, B.rws, rowsOf, List.getElem?_map, h]
  rfl
theorem Bag.stays (B : Bag P w s.heap a L es ep t) : ¬ t.gaveWay = true := by
  simp only [SetTable.gaveWay, mask_odd B.tb.mok]
  decide
/-- the probe after c steps -/
abbrev stepAt (t : SetTable) (h : Int) (c : Nat) : SetTable.Probe := nth t.mask (runAt t.mask (SetTable.bits h % (t.mask + 1)) (SetTable.bits h)) c
theorem step_clean (t : SetTable) (h : Int) (c : Nat) : (stepAt t h c).dummy = none := by
  induction c with
  | zero => rfl
  | succ c ih =>
    have e : stepAt t h (c + 1) = adv t.mask (stepAt t h c) := nth_succ _ _ _
    rw [e]
    simp only [adv]
    split <;> exact ih
theorem step_more (t : SetTable) (h : Int) (c q : Nat) : nth t.mask (stepAt t h c) q = stepAt t h (c + q) := (nth_add t.mask c _ q).symm

/-- from the c-th step on -/
theorem seek (B : Bag P w s.heap a L es ep t) (T : Tups0 P w s.heap L) {x : Addr} {k : List Int} (hx : IsT P w s.heap k x) (hu : A.units < cLine) {N : Nat} (hN : N < 10 * SetTable.turns t.mask)
    (free : way t.mask (thash P w k) N ∉ t.place.toList) (full : ∀ c, c < N → way t.mask (thash P w k) c ∈ t.place.toList) {Q : SetFound → Shared → Prop}
    (yes : k ∈ L.map (·.2) → Q (.there none) s) (no : k ∉ L.map (·.2) → Q (.free (way t.mask (thash P w k) N) false) s) (f : Nat) :
    ∀ (c : Nat) (st : Option SetTable.Probe), c ≤ N → N < c + f → st.getD (t.probeStart (thash P w k)) = stepAt t (thash P w k) c →
      (∀ (i : Nat) p, L[i]? = some p → p.2 = k → ∃ c', c ≤ c' ∧ c' < N ∧ t.place.toList[i]? = some (way t.mask (thash P w k) c')) →
      wpAny (model P w) A (setSearchFrom a (.ref x) (thash P w k) true f st) Q E s := by
  obtain ⟨o, ho, hex, hd⟩ := B.here
  induction f with
  | zero => intro c st h1 h2; omega
  | succ f ih =>
    intro c st hc hf hst ahead
    have jat : ∀ q, (nth t.mask (stepAt t (thash P w k) c) q).j = way t.mask (thash P w k) (c + q) := fun q => by rw [step_more]
    have hashes : ∀ (i : Nat) p, L[i]? = some p → ((es[i]?.map (·.1)).getD 0) = thash P w p.2 := fun i p hp => by
      rw [B.row hp]
      rfl
    have G := go_spec t B.tb.ris B.tb.dm (fun i => (es[i]?.map (·.1)).getD 0) (thash P w k) (10 * SetTable.turns t.mask) (N - c) (stepAt t (thash P w k) c) (step_clean t _ c) (by omega)
      (fun q hq => by rw [jat]; exact full _ (by omega)) (by rw [jat, Nat.add_sub_cancel' hc]; exact free)
    rw [setSearchFrom_succ]
    refine wpAny_bind (wpAny_setState_of ho hd B.fits ?_)
    dsimp only
    refine wp_if_neg B.stays ?_
    try refine wpAny_bind (wpAny_pure ?_)
    rcases G with ⟨q, i, hq, hi, _, first, pr⟩ | ⟨none1, pr⟩
    · -- an entry with the same hash
      have pr2 : t.probe (fun i => (es[i]?.map (·.1)).getD 0) (thash P w k) (st.getD (t.probeStart (thash P w k))) = some (.candidate (way t.mask (thash P w k) (c + q)) i (stepAt t (thash P w k) (c + (q + 1)))) := by
        rw [hst, ← jat, ← step_more]
        exact pr
      rw [jat] at hi
      rw [pr2]
      dsimp only
      have il : i < L.length := by
        have h1 := (List.getElem?_eq_some_iff.mp hi).1
        rw [Array.length_toList, B.place] at h1
        exact h1
      obtain ⟨p, hp⟩ : ∃ p, L[i]? = some p := ⟨_, List.getElem?_eq_getElem il⟩
      have pm := List.mem_of_getElem? hp
      have live := slot_live B.tb.ris hi
      have inner : wpAny (model P w) A (searchRest a (.ref x) (thash P w k) true f es t (way t.mask (thash P w k) (c + q)) i (stepAt t (thash P w k) (c + (q + 1)))) Q E s := by
        unfold searchRest
        rw [B.row hp]
        dsimp only
        refine wpAny_bind (wpAny_holding (wpAny_eqBool_tuple hu (T p pm) hx ?_))
        refine wpAny_bind (wpAny_setState_of ho hd B.fits ?_)
        dsimp only
        by_cases e : p.2 = k
        · refine wp_if_pos (by simp [e]) (wpAny_pure (yes (List.mem_map.mpr ⟨p, pm, e⟩)))
        · refine wp_if_neg (by simp [e]) ?_
          try refine wpAny_bind (wpAny_pure ?_)
          rw [sameMem]
          dsimp only
          simp only [if_true, live, B.row hp]
          refine wpAny_bind (wpAny_isSame_ref_self (wpAny_bind (wpAny_pure ?_)))
          simp only [if_true]
          refine wp_if_neg (by simp [e]) ?_
          refine ih (c + (q + 1)) _ (by omega) (by omega) rfl fun i2 p2 h2 k2 => ?_
          obtain ⟨c2, a1, a2, a3⟩ := ahead i2 p2 h2 k2
          have hh : ((es[i2]?.map (·.1)).getD 0) = thash P w k := by rw [hashes i2 p2 h2, k2]
          have far : c + q < c2 := by
            rcases Nat.lt_trichotomy c2 (c + q) with z | z | z
            · exact absurd hh (first (c2 - c) i2 (by omega) (by rw [jat, Nat.add_sub_cancel' a1]; exact a3))
            · rw [z] at a3
              have l2 := slot_live B.tb.ris a3
              rw [live] at l2
              injection l2 with l2
              rw [← l2, hp] at h2
              rw [Option.some.inj h2] at e
              exact absurd k2 e
            · exact z
          exact ⟨c2, far, a2, a3⟩
      by_cases hl : t.led = true
      · refine wp_if_neg (by simp [hl]) ?_
        try refine wpAny_bind (wpAny_pure ?_)
        exact inner
      · refine wp_if_pos (by simp [hl]) ?_
        refine wpAny_bind (seen_tup hx (fun y hy => ?_) ?_)
        · obtain ⟨r, hr, rfl⟩ := List.mem_map.mp hy
          have hr2 : r ∈ es.toList := by
            have : r ∈ es ∧ r.1 = thash P w k := by simpa using hr
            simpa using this.1
          rw [B.rws] at hr2
          obtain ⟨p2, hp2, rfl⟩ := List.mem_map.mp hr2
          exact ⟨p2.2, p2.1, rfl, T p2 hp2⟩
        · refine wp_if_neg (by decide) ?_
          try refine wpAny_bind (wpAny_pure ?_)
          exact inner
    · -- an empty slot
      have pr2 : t.probe (fun i => (es[i]?.map (·.1)).getD 0) (thash P w k) (st.getD (t.probeStart (thash P w k))) = some (.empty (way t.mask (thash P w k) N) none) := by
        have ej : way t.mask (thash P w k) N = (nth t.mask (stepAt t (thash P w k) c) (N - c)).j := by rw [jat, Nat.add_sub_cancel' hc]
        rw [hst, ej]
        exact pr
      rw [pr2]
      dsimp only
      refine wpAny_pure (no fun hm => ?_)
      obtain ⟨p, hp, e⟩ := List.mem_map.mp hm
      obtain ⟨i, hi⟩ := List.mem_iff_getElem?.mp hp
      obtain ⟨c2, a1, a2, a3⟩ := ahead i p hi e
      exact none1 (c2 - c) i (by omega) (by rw [jat, Nat.add_sub_cancel' a1]; exact a3) (by rw [← e]; exact hashes i p hi)
theorem seek_all (B : Bag P w s.heap a L es ep t) (T : Tups0 P w s.heap L) {x : Addr} {k : List Int} (hx : IsT P w s.heap k x) (hu : A.units < cLine) {Q : SetFound → Shared → Prop}
    (yes : k ∈ L.map (·.2) → Q (.there none) s)
    (no : ∀ N, k ∉ L.map (·.2) → way t.mask (thash P w k) N ∉ t.place.toList → (∀ c, c < N → way t.mask (thash P w k) c ∈ t.place.toList) → Q (.free (way t.mask (thash P w k) N) false) s) :
    wpAny (model P w) A (setSearch a (.ref x) (thash P w k) true) Q E s := by
  have rm := B.rm
  obtain ⟨N, h1, h2, h3⟩ := B.tb.first (by rw [List.length_map]; omega) (thash P w k)
  have small : N < 100000 := by
    refine Nat.lt_trans h1 ?_
    unfold SetTable.turns
    have := mask_127 B.tb.mok
    omega
  unfold setSearch
  refine seek B T hx hu h1 h2 h3 yes (fun hn => no N hn h2 h3) 100000 0 none (Nat.zero_le _) (by omega) rfl fun i p hp e => ?_
  have il : i < t.place.toList.length := by
    rw [Array.length_toList, B.place]
    exact (List.getElem?_eq_some_iff.mp hp).1
  obtain ⟨c, hc, ec⟩ := B.tb.before h2 (i := i) (by rw [List.getElem?_map, hp, ← e]; rfl) (List.getElem?_eq_getElem il)
  exact ⟨c, Nat.zero_le _, hc, by rw [List.getElem?_eq_getElem il, ec]⟩
end
end DK
namespace DK
open PySem PySem.Spec PyProof.Rows L2
section
variable {P : Program} {w : World} {A : Around} {E : Value → Shared → Prop} {s : Shared}
variable {a : Addr} {L : List (Addr × List Int)} {es : Array (Int × Value)} {ep : Nat} {t : SetTable}
theorem Tups0.but {h h' : Heap} {o : Obj} (T : Tups0 P w h L) (ho : h.get? a = some o) (hd : o.data = .set es ep t) (b : Heap.SameBut a h h') : Tups0 P w h' L := fun p hp => isT_same (T p hp) ho hd b
theorem sizes_ok (n : Nat) (h : n = 5 ∨ n = 19) : SetTable.sizeAbove (SetTable.grown n) ≤ 128 ∧ MaskOk (SetTable.sizeAbove (SetTable.grown n) - 1) ∧ n * 5 < (SetTable.sizeAbove (SetTable.grown n) - 1) * 3 := by
  rcases h with e | e
  · rw [e, size_20]
    exact ⟨by decide, .inr (.inl rfl), by decide⟩
  · rw [e, size_76]
    exact ⟨by decide, .inr (.inr rfl), by decide⟩
/-- laid anew in a larger table -/
theorem relaid_at {o : Obj} (ho : s.heap.get? a = some o) (hex : o.ExactSet) (hd : o.data = .set es ep t) (hr : es.toList = rowsOf P w L) (hp : t.place.size = L.length) (hz : t.dummies = #[]) (hf : L.length ≤ t.mask)
    (nd : (L.map (·.2)).Nodup) (pl : t.plain = true) (ld : w.params.followText "set-order" = true ∨ t.led = true) (h5 : L.length = 5 ∨ L.length = 19) {Q : Unit → Shared → Prop}
    (q : ∀ h' L' es' ep' t', Heap.SameBut a s.heap h' → Bag P w h' a L' es' ep' t' → L'.Perm L → Q () { s with heap := h' }) : wpAny (model P w) A (setRelay a (SetTable.grown L.length)) Q E s := by
  obtain ⟨z1, z2, z3⟩ := sizes_ok L.length h5
  have hn := rows_len hr
  obtain ⟨t2, order, re, rp, T2, rm, rl, rpl, rd⟩ := relaid_ok t (hs := es.map (·.1)) (wanted := SetTable.grown L.length) rfl z2 (by rw [Array.size_map, hn]; omega)
  rw [Array.size_map, hn] at rp
  obtain ⟨L2, o1, o2, o3⟩ := order_rows L es order hr rp
  rw [← o3] at T2
  have sz := rows_len o1
  rw [o2.length_eq] at sz
  rw [setRelay_eq]
  refine wpAny_bind (wpAny_setState_of ho hd (fits_of (by rw [hp, hn]) hz (by rw [hn]; exact hf)) ?_)
  dsimp only
  refine wp_if_neg (fun z => by rw [sizeLine_eq] at z; omega) ?_
  try refine wpAny_bind (wpAny_pure ?_)
  rw [re]
  dsimp only
  refine wpAny_bind ?_
  refine wp_if_neg (by rw [sz, hn]; simp) ?_
  try refine wpAny_bind (wpAny_pure ?_)
  refine wpAny_pure ?_
  dsimp only
  refine wpAny_storeSet_of ho hd ?_ (by rw [sz, sizeLine_eq]; omega)
  refine q _ L2 (order.filterMap (es[·]?)) (ep + 1) t2 (Heap.SameBut.update ..) ?_ o2
  exact ⟨⟨_, store_at ho hd, hex, rfl⟩, o1, T2, (o2.map (·.2)).nodup_iff.mpr nd, by rw [rpl]; exact pl, by rw [rl]; exact ld, by rw [o2.length_eq, rm]; exact z3⟩

/-- one more -/
theorem bag_add (B : Bag P w s.heap a L es ep t) (T : Tups0 P w s.heap L) {x : Addr} {k : List Int} (hx : IsT P w s.heap k x) (hu : A.units < cLine) (room : k ∉ L.map (·.2) → L.length + 1 ≤ 76) {Q : Bool → Shared → Prop}
    (q : ∀ b h' L' es' ep' t', Heap.SameBut a s.heap h' → Bag P w h' a L' es' ep' t' → (k ∈ L.map (·.2) → L' = L) → (k ∉ L.map (·.2) → L'.Perm ((x, k) :: L)) → Q b { s with heap := h' }) :
    wpAny (model P w) A (setAddHashed a (.ref x) (thash P w k)) Q E s := by
  obtain ⟨o, ho, hex, hd⟩ := B.here
  have rm := B.rm
  have hn := B.n
  unfold setAddHashed
  refine wpAny_holding ?_
  rw [show (100000 : Nat) = 99999 + 1 from rfl, setAddHashedIn_succ]
  refine wpAny_bind (wpAny_setState_of ho hd B.fits ?_)
  dsimp only
  refine wp_if_neg (by simp [byScan, Value.scannable]) ?_
  try refine wpAny_bind (wpAny_pure ?_)
  refine wpAny_bind (seek_all B T hx hu (fun hm => ?_) fun N hm free full => ?_)
  · dsimp only
    exact wpAny_pure (q false s.heap L es ep t (Heap.SameBut.refl a s.heap) B (fun _ => rfl) fun z => absurd hm z)
  · have room := room hm
    dsimp only
    refine wpAny_bind (wpAny_setState_of ho hd B.fits ?_)
    dsimp only
    obtain ⟨p1, p2, p3, p4, p5, p6, _, _, p9⟩ := B.tb.put free full
    have pl1 : (t.put (way t.mask (thash P w k) N)).1.plain = true := p6.trans B.pl
    have ld1 : w.params.followText "set-order" = true ∨ (t.put (way t.mask (thash P w k) N)).1.led = true := by rw [p5]; exact B.ld
    generalize t.put (way t.mask (thash P w k) N) = pt at p1 p3 p4 p9 pl1 ld1 ⊢
    obtain ⟨t1, p⟩ := pt
    dsimp only at p1 p3 p4 p9 pl1 ld1 ⊢
    subst p1
    first
      | (refine wpAny_bind ?_; refine wp_if_pos pl1 ?_; refine hashBy_tup hx ?_)
      | refine wp_if_pos pl1 (wpAny_bind (hashBy_tup hx ?_))
    simp only [if_true]
    have er : (SetTable.insertAt es (SetTable.below t.place (way t.mask (thash P w k) N)) (thash P w k, Value.ref x)).toList = rowsOf P w (L.take (SetTable.below t.place (way t.mask (thash P w k) N)) ++ (x, k) :: L.drop (SetTable.below t.place (way t.mask (thash P w k) N))) := by
      rw [SetTable.toList_insertAt, rows_put, B.rws]
    generalize SetTable.below t.place (way t.mask (thash P w k) N) = j at p2 p3 er ⊢
    have pm := put_perm L j (x, k)
    have T3 : TabOk t1 ((L.take j ++ (x, k) :: L.drop j).map fun p => thash P w p.2) := by
      have : ((L.take j ++ (x, k) :: L.drop j).map fun p => thash P w p.2) = (L.map fun p => thash P w p.2).take j ++ thash P w k :: (L.map fun p => thash P w p.2).drop j := by
        simp only [List.map_append, List.map_cons, List.map_take, List.map_drop]
      rw [this]
      exact p3
    generalize L.take j ++ (x, k) :: L.drop j = L1 at pm T3 er
    generalize SetTable.insertAt es j (thash P w k, Value.ref x) = es1 at er ⊢
    have n1 := rows_len er
    have l1 : L1.length = L.length + 1 := pm.length_eq
    have uq : (L1.map (·.2)).Nodup := (pm.map (·.2)).nodup_iff.mpr (List.nodup_cons.mpr ⟨hm, B.uniq⟩)
    refine wpAny_bind (wpAny_storeSet_of ho hd ?_ (by rw [n1, sizeLine_eq]; omega))
    have sb : Heap.SameBut a s.heap (s.heap.update a (Obj.putSet es1 t1)) := Heap.SameBut.update ..
    have ho1 := store_at (es' := es1) (t' := t1) ho hd
    generalize s.heap.update a (Obj.putSet es1 t1) = h1 at sb ho1 ⊢
    have full1 : t1.tooFull = true ↔ t1.mask * 3 ≤ (L.length + 1) * 5 := by
      simp only [SetTable.tooFull, decide_eq_true_eq, p9, List.length_map]
    by_cases hf : t1.tooFull = true
    · first
        | (refine wpAny_bind ?_; refine wp_if_pos (by simp [hf]) ?_)
        | (refine wp_if_pos (by simp [hf]) ?_; refine wpAny_bind ?_)
      have big := full1.mp hf
      rw [p4] at big
      have h5 : L1.length = 5 ∨ L1.length = 19 := by
        rcases B.tb.mok with e | e | e <;> rw [e] at big rm <;> omega
      rw [hn, ← l1]
      have hpl : t1.place.size = L1.length := by
        have := T3.sz
        rwa [List.length_map] at this
      refine relaid_at (s := { s with heap := h1 }) ho1 hex rfl er hpl T3.dm (by rw [p4]; rcases B.tb.mok with e | e | e <;> rw [e] at big rm ⊢ <;> omega) uq pl1 ld1 h5 fun h2 L2 es2 ep2 t2 sb2 B2 pm2 => ?_
      exact wpAny_pure (q true h2 L2 es2 ep2 t2 (sb.trans sb2) B2 (fun z => absurd z hm) fun _ => pm2.trans pm)
    · first
        | refine wp_if_neg (by simp [hf]) ?_
        | (refine wpAny_bind ?_; refine wp_if_neg (by simp [hf]) ?_; refine wpAny_pure ?_)
      have sm1 : L1.length * 5 < t1.mask * 3 := by
        have : ¬ t1.mask * 3 ≤ (L.length + 1) * 5 := fun z => hf (full1.mpr z)
        omega
      exact wpAny_pure (q true h1 L1 es1 (ep + 1) t1 sb ⟨⟨_, ho1, hex, rfl⟩, er, T3, uq, pl1, ld1, sm1⟩ (fun z => absurd z hm) fun _ => pm)
theorem bag_empty {h : Heap} (ho : h.get? a = some { cls := .type "set", dict := none, data := .set #[] 0 (.fresh 0 0 (!w.params.followText "set-order")) }) : Bag P w h a [] #[] 0 (.fresh 0 0 (!w.params.followText "set-order")) where
  here := ⟨_, ho, ⟨rfl, rfl, rfl⟩, rfl⟩
  rws := rfl
  tb := ⟨List.Pairwise.nil, rfl, rfl, .inl rfl, (fun x hx => by cases hx), (fun i h j hi => by simp at hi)⟩
  uniq := List.nodup_nil
  pl := rfl
  ld := by
    cases e : w.params.followText "set-order" with
    | true => exact .inl rfl
    | false => exact .inr (by show (!false) = true; rfl)
  rm := (by decide : 0 * 5 < 7 * 3)
theorem Bag.move {h h' : Heap} (B : Bag P w h a L es ep t) (k : ∀ o, h.get? a = some o → h'.get? a = some o) : Bag P w h' a L es ep t := by
  obtain ⟨o, ho, r⟩ := B.here
  exact ⟨⟨o, k o ho, r⟩, B.rws, B.tb, B.uniq, B.pl, B.ld, B.rm⟩
theorem bag_len (B : Bag P w s.heap a L es ep t) {Q : Value → Shared → Prop} (q : Q (.int (L.length : Nat) (s.toks + 1)) { s with toks := s.toks + 1 + 1 }) : wpAny (model P w) A (call (.builtin "len") [.ref a]) Q E s := by
  obtain ⟨o, ho, hex, hd⟩ := B.here
  have n := B.n
  have l := B.le76
  refine call_len_set ho hex hd B.fits (by rw [n]; omega) ?_
  rw [n]
  exact q
end
end DK
namespace DK
open PySem PySem.Spec PyProof.Rows L2
section
variable {P : Program} {w : World} {A : Around} {E : Value → Shared → Prop} {s : Shared}
/-- what stood in h0 stands -/
abbrev Stay (h0 h : Heap) : Prop := ∀ b o, h0.get? b = some o → h.get? b = some o
/-- the loop of set(xs), what the set holds said by Held -/
theorem fill_loop {I : Addr} {fp wr : List Addr} {G : Array GenState → Array GenState → Prop} {n : Nat} {Pv : Nat → Value → Prop} {St : Nat → Shared → Prop} {R : Result → Shared → Prop}
    (W : WalksS P w A.in1 I fp wr G n Pv St) {S : Addr} (hS : S ∉ fp) (Held : Nat → Heap → Prop) {h0 : Heap} (nS : h0.get? S = none) (nw : ∀ b ∈ wr, h0.get? b = none)
    (move : ∀ i h h', Held i h → (∀ o, h.get? S = some o → h'.get? S = some o) → Stay h0 h' → Held i h')
    (add : ∀ i v (s1 : Shared) (Q1 : Bool → Shared → Prop) (E1 : Value → Shared → Prop), i < n → Pv i v → Stay h0 s1.heap → Held i s1.heap → (∀ b h' tk, s1.toks ≤ tk → Heap.SameBut S s1.heap h' → Held (i + 1) h' → Q1 b { s1 with heap := h', toks := tk }) → wpAny (model P w) A.in1 (setAdd S v) Q1 E1 s1) :
    ∀ (d i : Nat) (s : Shared), i + d = n → St i s → Stay h0 s.heap → Held i s.heap →
      (∀ s', Moved (S :: wr) G s s' → Held n s'.heap → Stay h0 s'.heap → R (.ok (.ret .none)) s') → codeAny (model P w) A (.builtin "set.update.loop" ⟨[.ref S, .ref I], []⟩) R s := by
  have nSw : S ∉ wr := fun z => hS (W.sub S z)
  have up : ∀ b ∈ wr, b ∈ S :: wr := fun b hb => List.mem_cons_of_mem S hb
  have stay : ∀ {s s' : Shared}, Moved wr G s s' → Stay h0 s.heap → Stay h0 s'.heap := fun m k b o e => m.heap b o (fun z => by rw [nw b z] at e; cases e) (k b o e)
  intro d
  induction d with
  | zero =>
    intro i s hi st k hd r
    have hi : i = n := hi
    subst hi
    refine codeAny_builtin F.entry_set_update_loop ?_
    rw [Around.under_plainId F.plain_set_update_loop _]
    show wpAny _ A.in1 (pyNext (.ref I) >>= _) _ _ s
    refine wpAny_bind (W.done s _ _ st fun s1 m => ?_)
    show wpAny _ A.in1 (ret Value.none) _ _ s1
    have k1 := stay m k
    exact wpAny_pure (r s1 (m.mono up) (move _ _ _ hd (fun o e => m.heap S o nSw e) k1) k1)
  | succ d ih =>
    intro i s hi st k hd r
    refine codeAny_builtin F.entry_set_update_loop ?_
    rw [Around.under_plainId F.plain_set_update_loop _]
    show wpAny _ A.in1 (pyNext (.ref I) >>= _) _ _ s
    refine wpAny_bind (W.item i s _ _ (by omega) st fun v s1 hv st1 m => ?_)
    have k1 := stay m k
    show wpAny _ A.in1 (holding [v] (setAdd S v) >>= _) _ _ s1
    refine wpAny_bind (wpAny_holding (add i v s1 _ _ (by omega) hv k1 (move _ _ _ hd (fun o e => m.heap S o nSw e) k1) fun b h' tk htk sb hd1 => ?_))
    have k2 : Stay h0 h' := fun c o e => (sb.2 c (fun z => by rw [z, nS] at e; cases e)).trans (k1 c o e)
    refine wpAny_pure ⟨plainId_quiet F.plain_set_update_loop _, ih (i + 1) _ (by omega) (W.frame _ s1 _ _ st1 htk fun c hc o e => ?_) k2 hd1 fun s2 m2 hd2 k3 => ?_⟩
    · exact (sb.2 c (fun z => hS (z ▸ hc))).trans e
    · refine r s2 (Moved.trans W.gtrans ((m.mono up).then_heap htk fun c o hc e => ?_) m2) hd2 k3
      exact (sb.2 c (fun z => hc (by rw [z]; exact List.mem_cons_self))).trans e
end
end DK
namespace DK
open PySem PySem.Spec PyProof.Rows L2
section
variable {P : Program} {w : World} {A : Around} {E : Value → Shared → Prop} {s : Shared}
/-- a set that was just made -/
abbrev bare (w : World) : Obj := { cls := .type "set", dict := none, data := .set #[] 0 (.fresh 0 0 (!w.params.followText "set-order")) }
theorem nothing_at {h : Heap} {b : Addr} (hb : h.objs.size ≤ b) : h.get? b = none := by
  cases e : h.get? b with
  | none => rfl
  | some o => exact absurd (Heap.lt_size e) (Nat.not_lt.mpr hb)
/-- the filling of the new set, behind its making -/
theorem fill_new {l : Addr} {items : Array Value} (hh : A.handled = none) (hu : A.units + 2 < cLine) (hl : s.heap.IsList l items) (Held : Nat → Heap → Prop)
    (new : ∀ h, h.get? s.heap.objs.size = some (bare w) → Stay s.heap h → Held 0 h)
    (move : ∀ i h h', Held i h → (∀ o, h.get? s.heap.objs.size = some o → h'.get? s.heap.objs.size = some o) → Stay s.heap h' → Held i h')
    (add : ∀ (A1 : Around) i v (s1 : Shared) (Q1 : Bool → Shared → Prop) (E1 : Value → Shared → Prop), A1.units < cLine → items[i]? = some v → Stay s.heap s1.heap → Held i s1.heap → (∀ b h' tk, s1.toks ≤ tk → Heap.SameBut s.heap.objs.size s1.heap h' → Held (i + 1) h' → Q1 b { s1 with heap := h', toks := tk }) → wpAny (model P w) A1 (setAdd s.heap.objs.size v) Q1 E1 s1)
    {R : Result → Shared → Prop} (q : ∀ h' tk, Held items.size h' → Stay s.heap h' → R (.ok (.ret .none)) { s with heap := h', toks := tk }) :
    codeAny (model P w) A (.builtin "set.update.loop" ⟨[.ref s.heap.objs.size, .ref (s.heap.objs.size + 1)], []⟩) R { s with heap := (s.heap.push (bare w)).push { cls := .type "list_iterator", data := .fields #[.ref l, .int 0 0] } } := by
  obtain ⟨ol, hol, hlr⟩ := hl
  have ll : l < s.heap.objs.size := Heap.lt_size hol
  have z1 : (s.heap.push (bare w)).objs.size = s.heap.objs.size + 1 := Heap.size_push ..
  have gS : ((s.heap.push (bare w)).push { cls := .type "list_iterator", data := .fields #[.ref l, .int 0 0] }).get? s.heap.objs.size = some (bare w) := Heap.get?_push_of_some _ (Heap.get?_push_size _ rfl)
  have gI : ((s.heap.push (bare w)).push { cls := .type "list_iterator", data := .fields #[.ref l, .int 0 0] }).get? (s.heap.objs.size + 1) = some { cls := .type "list_iterator", data := .fields #[.ref l, .int 0 0] } := by
    have := Heap.get?_push_size (s.heap.push (bare w)) (o := { cls := .type "list_iterator", data := .fields #[.ref l, .int 0 0] }) rfl
    rwa [z1] at this
  have st : Stay s.heap ((s.heap.push (bare w)).push { cls := .type "list_iterator", data := .fields #[.ref l, .int 0 0] }) := fun b o e => Heap.get?_push_of_some _ (Heap.get?_push_of_some _ e)
  have hl2 : ((s.heap.push (bare w)).push { cls := .type "list_iterator", data := .fields #[.ref l, .int 0 0] }).IsList l items := ⟨ol, st _ _ hol, hlr⟩
  have nfp : s.heap.objs.size ∉ [s.heap.objs.size + 1, l] := by
    intro z
    rcases List.mem_cons.mp z with z | z
    · exact Nat.succ_ne_self _ z.symm
    · exact Nat.ne_of_gt ll (List.mem_singleton.mp z)
  refine fill_loop (Walks.list (A := A.in1) (by simp [hh]) (s.heap.objs.size + 1) l (Nat.ne_of_lt (Nat.lt_succ_of_lt ll)) items).toS nfp Held (h0 := s.heap) (nothing_at (Nat.le_refl _)) (fun b hb => nothing_at (by rw [List.mem_singleton.mp hb]; exact Nat.le_succ _)) move
    (fun i v s1 Q1 E1 hi hv k hd c => add A.in1 i v s1 Q1 E1 (by simp; omega) hv k hd c) items.size 0 _ (Nat.zero_add _) ⟨⟨_, gI, rfl, rfl⟩, hl2⟩ st (new _ gS st) fun s1 m hd k => ?_
  obtain ⟨h1, g1, d1, t1, o1⟩ := s1
  obtain rfl : g1 = s.gens := m.gens
  obtain rfl : d1 = s.drawn := m.drawn
  obtain rfl : o1 = s.os := m.os
  exact q h1 t1 hd k
end
end DK
namespace DK
open PySem PySem.Spec PyProof.Rows L2
section
variable {P : Program} {w : World} {A : Around} {E : Value → Shared → Prop} {s : Shared}
/-- set(xs) of a list: what is held after all items -/
theorem call_set_held {l : Addr} {items : Array Value} (hh : A.handled = none) (hu : A.units + 5 < cLine) (hl : s.heap.IsList l items) (Held : Nat → Heap → Prop)
    (new : ∀ h, h.get? s.heap.objs.size = some (bare w) → Stay s.heap h → Held 0 h)
    (move : ∀ i h h', Held i h → (∀ o, h.get? s.heap.objs.size = some o → h'.get? s.heap.objs.size = some o) → Stay s.heap h' → Held i h')
    (add : ∀ (A1 : Around) i v (s1 : Shared) (Q1 : Bool → Shared → Prop) (E1 : Value → Shared → Prop), A1.units < cLine → items[i]? = some v → Stay s.heap s1.heap → Held i s1.heap → (∀ b h' tk, s1.toks ≤ tk → Heap.SameBut s.heap.objs.size s1.heap h' → Held (i + 1) h' → Q1 b { s1 with heap := h', toks := tk }) → wpAny (model P w) A1 (setAdd s.heap.objs.size v) Q1 E1 s1)
    {Q : Value → Shared → Prop} (q : ∀ h' tk, Held items.size h' → Stay s.heap h' → Q (.ref s.heap.objs.size) { s with heap := h', toks := tk }) :
    wpAny (model P w) A (call (.type "set") [.ref l]) Q E s := by
  have c1 := F.called_set.notType
  have c2 := F.called_set.canCreate
  have c3 := F.called_set.made
  have c4 := F.called_set.sub
  have c5 := F.typeCall_set_1 (.ref l)
  obtain ⟨mc, mt, c6⟩ := F.called_set.mro
  refine wpAny_call (codeAny_of_tree ?_)
  show wpAny _ _ (callAny (.type "set") _) _ _ _
  refine wpAny_pure ⟨Code.quiet_builtin _ (by decide +kernel), codeAny_builtin F.entry_type_call ?_⟩
  rw [Around.under_plain (weight_type_call_type "set" [.ref l] []) rfl]
  repeat (any_goals (first | assumption | wp_step))
  refine codeAny_mono (code_set_led1 (.ref l) (E := E) (Q₁ := fun v s1 => v = .ref s.heap.objs.size ∧ s1 = { s with heap := s.heap.push (bare w) }) ⟨rfl, rfl⟩) fun r1 s1 h1 => ?_
  cases r1 with
  | error e => exact h1
  | ok f1 =>
    cases f1 with
    | ret obj =>
      obtain ⟨rfl, rfl⟩ := h1
      have i1 := F.called_set.init.lookup
      have i2 := F.called_set.init.bind (.ref s.heap.objs.size)
      have gS : (s.heap.push (bare w)).get? s.heap.objs.size = some (bare w) := Heap.get?_push_size _ rfl
      have tS : Shared.TypeIs { s with heap := s.heap.push (bare w) } (.ref s.heap.objs.size) "set" := ⟨_, gS, rfl⟩
      repeat (any_goals (first | assumption | wp_step))
      refine codeAny_mono (codeAny_call_builtin (R := wants (fun r s2 => r = .none ∧ ∃ h' tk, s2 = { s with heap := h', toks := tk } ∧ Held items.size h' ∧ Stay s.heap h') E) F.called_set.init.plain F.entry_set_init (check_set_init_1 tS ?_)) fun r2 s2 h2 => ?_
      · have hl0 := hl
        obtain ⟨⟨oc, od, odt, osl⟩, hol, hc, nl, hd⟩ := hl
        dsimp only at hc hd
        subst hc hd
        have hl1 : (s.heap.push (bare w)).get? l = some { cls := .type "list", dict := od, data := .seq items nl, slots := osl } := Heap.get?_push_of_some _ hol
        have m1 := F.sub_list_set
        have m2 := F.sub_list_frozenset
        have m3 : (Value.type "list" == Value.type "dict") = false := by decide
        have hl2 : (s.heap.push (bare w)).IsList l items := ⟨_, hl1, rfl, nl, rfl⟩
        have z1 : (s.heap.push (bare w)).objs.size = s.heap.objs.size + 1 := Heap.size_push ..
        unfold Builtin.«set.__init__» noKeywords Builtin.Frozenset.updateFrom
        generalize hPI : pyIter = PI
        wp_walk
        subst hPI
        refine wpAny_pyIter_list hl2 ?_
        refine wpAny_bind (wpAny_runValue ?_)
        rw [z1]
        refine fill_new (A := A.in1.in1) (by simp [hh]) (by simp; omega) hl0 Held new move add fun h' tk hd k => ?_
        show wpAny _ _ _ _ _ _
        refine wpAny_pure ?_
        show wpAny _ _ (ret Value.none) _ _ _
        exact wpAny_pure ⟨rfl, h', tk, rfl, hd, k⟩
      · cases r2 with
        | error e => exact h2
        | ok f2 =>
          cases f2 with
          | ret r =>
            obtain ⟨rfl, h', tk, rfl, hd, k⟩ := h2
            repeat (any_goals (first | assumption | wp_step))
            exact q _ _ hd k
          | _ => exact h2.elim
    | _ => exact h1.elim
end
end DK
namespace DK
open PySem PySem.Spec PyProof.Rows L2
theorem perm_of_map {α β : Type} {f : α → β} {vs ms : List β} (h : vs.Perm ms) : ∀ L : List α, ms = L.map f → ∃ L1 : List α, L1.Perm L ∧ L1.map f = vs := by
  induction h with
  | nil =>
    intro L e
    have : L = [] := List.map_eq_nil_iff.mp e.symm
    subst this
    exact ⟨[], .refl _, rfl⟩
  | @cons x l1 l2 _ ih =>
    intro L e
    cases L with
    | nil => cases e
    | cons a L =>
      obtain ⟨e1, e2⟩ := List.cons.inj e
      obtain ⟨L1, p, q⟩ := ih L e2
      exact ⟨a :: L1, p.cons a, by rw [List.map_cons, q, ← e1]⟩
  | swap x y l =>
    intro L e
    cases L with
    | nil => cases e
    | cons a L =>
      obtain ⟨e1, e2⟩ := List.cons.inj e
      cases L with
      | nil => cases e2
      | cons b L =>
        obtain ⟨e3, e4⟩ := List.cons.inj e2
        exact ⟨b :: a :: L, List.Perm.swap a b L, by rw [List.map_cons, List.map_cons, ← e1, ← e3, ← e4]⟩
  | trans _ _ ih1 ih2 =>
    intro L e
    obtain ⟨L2, p2, q2⟩ := ih2 L e
    obtain ⟨L1, p1, q1⟩ := ih1 L2 q2.symm
    exact ⟨L1, p1.trans p2, q1⟩
theorem nodup_sub_len {α : Type} [DecidableEq α] : ∀ {l D : List α}, l.Nodup → (∀ x ∈ l, x ∈ D) → l.length ≤ D.length
  | [], _, _, _ => Nat.zero_le _
  | x :: r, D, nd, h => by
    have nd2 := List.nodup_cons.mp nd
    have hx := h x List.mem_cons_self
    have ih := nodup_sub_len (l := r) (D := D.erase x) nd2.2 fun y hy => by
      have : y ≠ x := fun z => nd2.1 (z ▸ hy)
      exact (List.mem_erase_of_ne this).mpr (h y (List.mem_cons_of_mem _ hy))
    rw [List.length_erase_of_mem hx] at ih
    have := List.length_pos_of_mem hx
    rw [List.length_cons]
    omega
/-- the set at a, its tuples apart -/
def Bag0 (P : Program) (w : World) (a : Addr) (L : List (Addr × List Int)) (h : Heap) : Prop := ∃ es ep t, Bag P w h a L es ep t
def BagO (P : Program) (w : World) (a : Addr) (L : List (Addr × List Int)) : HO := .ext (Bag0 P w a L)
theorem bagO_ok {P : Program} {w : World} {H : Hp} {h : Heap} {a : Addr} {L : List (Addr × List Int)} (B : Bag0 P w a L h) : ObjOk P w H h a (BagO P w a L) := by
  obtain ⟨es, ep, t, B1⟩ := id B
  obtain ⟨o, ho, _⟩ := B1.here
  exact ⟨B, ⟨o, ho⟩, fun h1 h2 ⟨es, ep, t, b⟩ k => ⟨es, ep, t, b.move k⟩⟩
section
variable {X : Cx}
theorem isT_of {pins : List (Addr × Obj)} {σ : L2.St} {H : Hp} {s : Shared} {p : Addr} {u : List Int} (I : Inv X pins σ H s) (h : TupAt H p u) : IsT X.prog X.w s.heap u p := Inv.isT I h.q
/-- set(l), l a list of tuples of ints -/
def rSetL (P : Program) (w : World) : List V → Hp → VK → Prop := fun xs H Q => ∃ (l : Addr) (ws : List (List Int)), xs = [V.ref l] ∧ LstT H l ws ∧ (DP.sortU ws).length ≤ 76 ∧
  ∀ (a : Addr) (L : List (Addr × List Int)), H a = none → (L.map (·.2)).Nodup → (∀ p ∈ L, TupAt H p.1 p.2) → (∀ v, v ∈ L.map (·.2) ↔ v ∈ ws) → Q (.ref a) (upd H a (BagO P w a L))
theorem paired_zip {H : Hp} : ∀ {ps : List Addr} {ws : List (List Int)}, Tups H ps ws → (ps.zip ws).map (·.1) = ps ∧ (ps.zip ws).map (·.2) = ws ∧ ∀ p ∈ ps.zip ws, TupAt H p.1 p.2
  | _, _, .nil => ⟨rfl, rfl, fun p h => by cases h⟩
  | _, _, .cons (l₁ := ps) (l₂ := ws) r t => by
    obtain ⟨h1, h2, h3⟩ := paired_zip t
    refine ⟨by rw [List.zip_cons_cons, List.map_cons, h1], by rw [List.zip_cons_cons, List.map_cons, h2], fun p hp => ?_⟩
    rw [List.zip_cons_cons] at hp
    rcases List.mem_cons.mp hp with z | z
    · rw [z]
      exact r
    · exact h3 p z
theorem cr_setL (hc : X.calm = true) (hu : X.A.units + 64 < cLine) : CallR X (.type "set") (rSetL X.prog X.w) := by
  intro pins s σ H xs us Q I r h
  obtain ⟨l, ws, rfl, ⟨ps, hl, hT⟩, h76, q⟩ := h
  rw [Vals.ref1 r]
  obtain ⟨its, rv, pl, hz⟩ := I.list (SqL.of hl)
  obtain rfl := vals_refs rv
  obtain ⟨z1, z2, z3⟩ := paired_zip hT
  obtain ⟨ks, eks⟩ : ∃ ks, ks = ps.zip ws := ⟨_, rfl⟩
  rw [← eks] at z1 z2 z3
  have kT : ∀ p ∈ ks, IsT X.prog X.w s.heap p.2 p.1 := fun p hp => isT_of I (z3 p hp)
  have at_ : ∀ (i : Nat) v, (List.toArray (ps.map Value.ref))[i]? = some v → ∃ p, ks[i]? = some p ∧ v = .ref p.1 := fun i v hv => by
    have hv : (ps.map Value.ref)[i]? = some v := by simpa using hv
    rw [← z1, List.map_map, List.getElem?_map] at hv
    obtain ⟨p, hp, e⟩ := Option.map_eq_some_iff.mp hv
    exact ⟨p, hp, e.symm⟩
  refine call_set_held (P := X.prog) (w := X.w) (I.ok.hd hc) (by omega) pl.isList
    (fun i h => ∃ L, Bag0 X.prog X.w s.heap.objs.size L h ∧ Tups0 X.prog X.w h L ∧ (∀ p ∈ L, p ∈ ks) ∧ ∀ v, v ∈ L.map (·.2) ↔ v ∈ (ks.take i).map (·.2)) (fun h g k => ?_) (fun i h h' hd m k => ?_) (fun A1 i v s1 Q1 E1 hu1 hv k hd c => ?_) fun h' tk hd k => ?_
  · exact ⟨[], ⟨_, _, _, bag_empty g⟩, (fun p hp => by cases hp), (fun p hp => by cases hp), fun v => by simp⟩
  · obtain ⟨L, ⟨es, ep, t, B⟩, T, sub, mem⟩ := hd
    exact ⟨L, ⟨es, ep, t, B.move m⟩, fun p hp => isT_keep (kT p (sub p hp)) k, sub, mem⟩
  · obtain ⟨p, hp, rfl⟩ := at_ i v hv
    obtain ⟨L, ⟨es, ep, t, B⟩, T, sub, mem⟩ := hd
    have hx : IsT X.prog X.w s1.heap p.2 p.1 := isT_keep (kT p (List.mem_of_getElem? hp)) k
    have tk1 : ks.take (i + 1) = ks.take i ++ [p] := by rw [List.take_add_one, hp]; rfl
    unfold setAdd
    refine wpAny_holding ?_
    refine wpAny_bind (wpAny_pyHash_tuple hu1 hx ?_)
    refine bag_add (s := { s1 with toks := s1.toks + (p.2.length + 1) }) B T hx hu1 (fun hn => ?_) fun b h' L' es' ep' t' sb B' e1 e2 => ?_
    · have := nodup_sub_len (l := p.2 :: L.map (·.2)) (D := DP.sortU ws) (List.nodup_cons.mpr ⟨hn, B.uniq⟩) fun v hv => by
        refine (DP.sortU_mem ws v).mpr ?_
        rw [← z2]
        rcases List.mem_cons.mp hv with z | z
        · rw [z]
          exact List.mem_map.mpr ⟨p, List.mem_of_getElem? hp, rfl⟩
        · obtain ⟨p2, h1, h2⟩ := List.mem_map.mp z
          exact List.mem_map.mpr ⟨p2, sub p2 h1, h2⟩
      rw [List.length_cons, List.length_map] at this
      omega
    · refine c b h' _ (Nat.le_add_right _ _) sb ⟨L', ⟨es', ep', t', B'⟩, ?_, ?_, ?_⟩
      · obtain ⟨o, ho, _, hd⟩ := B.here
        have T' := T.but ho hd sb
        rcases Classical.em (p.2 ∈ L.map (·.2)) with z | z
        · rw [e1 z]
          exact T'
        · intro p2 hp2
          rcases List.mem_cons.mp ((e2 z).mem_iff.mp hp2) with y | y
          · rw [y]
            exact isT_same hx ho hd sb
          · exact T' p2 y
      · rcases Classical.em (p.2 ∈ L.map (·.2)) with z | z
        · rw [e1 z]
          exact sub
        · intro p2 hp2
          rcases List.mem_cons.mp ((e2 z).mem_iff.mp hp2) with y | y
          · rw [y]
            exact List.mem_of_getElem? hp
          · exact sub p2 y
      · intro v
        rw [tk1, List.map_append, List.mem_append, ← mem v]
        rcases Classical.em (p.2 ∈ L.map (·.2)) with z | z
        · rw [e1 z]
          constructor
          · exact fun h => .inl h
          · rintro (h | h)
            · exact h
            · have : v = p.2 := by simpa using h
              rw [this]
              exact z
        · rw [((e2 z).map (·.2)).mem_iff, List.map_cons, List.mem_cons]
          constructor
          · rintro (h | h)
            · exact .inr (by rw [h]; exact List.mem_singleton.mpr rfl)
            · exact .inl h
          · rintro (h | h)
            · exact .inr h
            · exact .inl (by simpa using h)
  · obtain ⟨L, ⟨es, ep, t, B⟩, T, sub, mem⟩ := hd
    have hn : H s.heap.objs.size = none := I.hok.fresh (Nat.le_refl _)
    have full : ks.take (List.toArray (ps.map Value.ref)).size = ks := by
      refine List.take_of_length_le ?_
      have : ks.length = ps.length := by rw [← z1, List.length_map]
      simp [this]
    refine ⟨.ref s.heap.objs.size, upd H s.heap.objs.size (BagO X.prog X.w s.heap.objs.size L), I.laid (t' := tk) k (Nat.le_refl _) (bagO_ok ⟨es, ep, t, B⟩), rfl, q _ L hn B.uniq (fun p hp => z3 p (sub p hp)) fun v => ?_⟩
    rw [mem v, full, z2]
/-- len of such a set -/
def rLenB (P : Program) (w : World) : List V → Hp → VK → Prop := fun xs H Q => ∃ (a : Addr) (L : List (Addr × List Int)), xs = [V.ref a] ∧ H a = some (BagO P w a L) ∧ Q (.int (L.length : Nat)) H
theorem cr_lenB : CallR X (.builtin "len") (rLenB X.prog X.w) := by
  intro pins s σ H xs us Q I r h
  obtain ⟨a, L, rfl, ha, q⟩ := h
  rw [Vals.ref1 r]
  obtain ⟨es, ep, t, B⟩ := (I.hok a _ ha).1
  exact bag_len B ⟨.int (L.length : Nat), H, I.tok _, ⟨_, rfl⟩, q⟩
/-- sorted of such a set -/
def rSortB (P : Program) (w : World) : List V → Hp → VK → Prop := fun xs H Q => ∃ (a : Addr) (L : List (Addr × List Int)), xs = [V.ref a] ∧ H a = some (BagO P w a L) ∧ (L.map (·.2)).Nodup ∧ (∀ p ∈ L, TupAt H p.1 p.2) ∧ (∀ p ∈ L, p.2 ≠ []) ∧
  ∀ (ps : List Addr) (p : Addr), Tups H ps (DP.sortU (L.map (·.2))) → H p = none → Q (.ref p) (upd H p (.lst (ps.map V.ref)))
theorem pairs_tups {H : Hp} : ∀ {L : List (Addr × List Int)}, (∀ p ∈ L, TupAt H p.1 p.2) → Tups H (L.map (·.1)) (L.map (·.2))
  | [], _ => .nil
  | p :: L, h => .cons (h p List.mem_cons_self) (pairs_tups fun q hq => h q (List.mem_cons_of_mem _ hq))
theorem cr_sortB (hc : X.calm = true) (hu : X.A.units + 4 < cLine) : CallR X (.builtin "sorted") (rSortB X.prog X.w) := by
  intro pins s σ H xs us Q I r h
  obtain ⟨a, L, rfl, ha, nd, hT, h0, q⟩ := h
  rw [Vals.ref1 r]
  obtain ⟨es, ep, t, B⟩ := (I.hok a _ ha).1
  obtain ⟨o, ho, hex, hd⟩ := B.here
  have l76 := B.le76
  have hn := B.n
  refine Calls.call_function_entry kind_sorted plain_sorted entry_sorted (args_sorted1 _) ?_
  unfold Builtin.«sorted»
  refine wpAny_bind (m := checkCount "sorted" 1 1 _) (wpAny_pure ?_)
  refine wpAny_bind (collect_set (A := X.A.in1) (I.ok.hd hc) ⟨o, ho, hex.1, hd⟩ B.fits (by unfold scanBound; omega) B.tb.ris B.ld fun s1 vs k1 z1 g1 o1 pm => ?_)
  have er : es.toList.map (·.2) = (L.map (·.1)).map Value.ref := by
    rw [B.rws, rowsOf, List.map_map, List.map_map]
    rfl
  rw [er, List.map_map] at pm
  obtain ⟨L1, pL, eL⟩ := perm_of_map pm L rfl
  subst eL
  have hT1 : ∀ p ∈ L1, TupAt H p.1 p.2 := fun p hp => hT p (pL.mem_iff.mp hp)
  have hps := pairs_tups hT1
  have len1 : L1.length ≤ 76 := by rw [pL.length_eq]; exact l76
  refine wpAny_bind (wpAny_newList ?_ (by simp; rw [sizeLine_eq]; omega))
  have gL : (s1.heap.push (seqObj "list" (List.toArray (L1.map (Value.ref ∘ fun x => x.1))) 0)).get? s1.heap.objs.size = some (seqObj "list" (List.toArray (L1.map (Value.ref ∘ fun x => x.1))) 0) := Heap.get?_push_size _ rfl
  have ev : L1.map (Value.ref ∘ fun x => x.1) = (L1.map (·.1)).map Value.ref := by rw [List.map_map]
  rw [ev] at gL ⊢
  obtain ⟨e1, e2, e3, e4⟩ := sort_tups_at I hps (fun v hv => by
    obtain ⟨p, hp, rfl⟩ := List.mem_map.mp hv
    exact h0 p (pL.mem_iff.mp hp))
  have e2' : PySem.W.EachIs (fun v w => ∃ as, Reads (s1.heap.push (seqObj "list" (List.toArray ((L1.map (·.1)).map Value.ref)) 0)) v (encT w) as ∧ s1.heap.objs.size ∉ as) ((L1.map (·.1)).map Value.ref) (L1.map (·.2)) := by
    refine e2.mono fun v u ⟨as, rd⟩ => ?_
    have r1 := PyProof.Rows.Reads.keeps k1 rd
    refine ⟨as, PyProof.Rows.Reads.keeps (fun b o e => Heap.get?_push_of_some _ e) r1, fun z => ?_⟩
    obtain ⟨o2, h2⟩ := PyProof.On.reads_mem_get r1 _ z
    exact absurd (Heap.lt_size h2) (Nat.lt_irrefl _)
  refine wpAny_bind (wpAny_holding (PySem.W.list_sort_data (s := { s1 with heap := s1.heap.push (seqObj "list" (List.toArray ((L1.map (·.1)).map Value.ref)) 0) }) gL e1 e2' e3 e4 (by rw [List.length_map, sizeLine_eq]; omega) (fun u hu' => ?_) fun out ho2 eo => ?_))
  · have := depth_encT u
    show X.A.units + 1 + 1 + (encT u).depth < cLine
    omega
  · rw [merge_sortL] at eo
    have es1 : DP.sortL (L1.map (·.2)) = DP.sortU (L.map (·.2)) := by
      refine DP.sortU_one (DP.sortL_sorted _) ?_ fun z => ?_
      · exact ((DP.sortL_perm _).trans (pL.map (·.2))).nodup_iff.mpr nd
      · exact ((DP.sortL_perm _).trans (pL.map (·.2))).mem_iff
    rw [es1] at eo
    obtain ⟨qs, rfl, hq⟩ := each_out eo
    obtain ⟨c, hc2⟩ := sortedHeap_at (vs := (L1.map (·.1)).map Value.ref) (out := List.toArray (qs.map Value.ref)) gL
    have fr : H s1.heap.objs.size = none := I.hok.fresh z1
    have ql : (qs.map V.ref).length ≤ sizeLine := by
      rw [List.length_map, paired_len hq, ← es1, (DP.sortL_perm _).length_eq, List.length_map, sizeLine_eq]
      omega
    have keep : ∀ b u, s.heap.get? b = some u → (sortedHeap (s1.heap.push (seqObj "list" (List.toArray ((L1.map (·.1)).map Value.ref)) 0)) s1.heap.objs.size ((L1.map (·.1)).map Value.ref) (List.toArray (qs.map Value.ref))).get? b = some u := fun b u e => by
      have e5 := k1 b u e
      have lt := Heap.lt_size e5
      rw [sortedHeap_old (Nat.ne_of_lt lt) (by rw [size_push']; exact Nat.lt_succ_of_lt lt)]
      exact Heap.get?_push_of_some _ e5
    refine wpAny_pure ⟨_, rfl, ?_⟩
    obtain ⟨h1, g2, d1, t1, o2⟩ := s1
    obtain ⟨h2, g3, d2, t2, o3⟩ := s
    dsimp only at g1 o1 k1 z1 gL hc2 fr keep ⊢
    subst g1 o1
    refine ⟨.ref _, upd H _ (.lst (qs.map V.ref)), I.call (g' := g2) (d' := d1) (t' := t1) (ch := []) (Un.laid keep z1 fr) (I.hok.laid keep z1 ⟨ql, qs.map Value.ref, c, refs_vals qs, hc2⟩) I.bare (fun _ z => nomatch z), rfl, q qs _ hq fr⟩
end
end DK
namespace DK
open PySem PySem.Spec PyProof.Rows L2
section
variable {X : Cx}
/-- set(l), l a list of ints -/
def rSetI (w : World) : List V → Hp → VK → Prop := fun xs H Q => ∃ (l : Addr) (ns : List Int), xs = [V.ref l] ∧ H l = some (.lst (ns.map V.int)) ∧ ns.length ≤ 4000 ∧
  ∀ (a : Addr) (S : Int → Bool) (n : Nat), H a = none → (∀ k, S k = true ↔ k ∈ ns) → n ≤ (DP.sortN ns).length → Q (.ref a) (upd H a (SetO w a S n))
theorem setR_n {w : World} {h : Heap} {a : Addr} {S : Int → Bool} {n : Nat} {ns : List Int} (R : SetR w h a S n) (m : ∀ k, S k = true ↔ k ∈ ns) : n ≤ (DP.sortN ns).length := by
  obtain ⟨o, es, ep, t, _, _, _, _, nd, mem, _, _, sz, _⟩ := R
  have := nodup_sub_len (D := DP.sortN ns) nd fun k hk => (DP.sortN_mem ns k).mpr ((m k).mp ((mem k).mpr hk))
  rw [List.length_map, Array.length_toList] at this
  omega
theorem cr_setI (hc : X.calm = true) (hu : X.A.units + 64 < cLine) : CallR X (.type "set") (rSetI X.w) := by
  intro pins s σ H xs us Q I r h
  obtain ⟨l, ns, rfl, hl, h4, q⟩ := h
  rw [Vals.ref1 r]
  obtain ⟨its, rv, pl, hz⟩ := I.list (SqL.of hl)
  have hi : IntsAre its ns := rv.ints
  have len : its.length = ns.length := hi.length
  have at_ : ∀ (i : Nat) v, (List.toArray its)[i]? = some v → ∃ k t, ns[i]? = some k ∧ v = .int k t := fun i v hv => by
    have hv : its[i]? = some v := by simpa using hv
    have hin : i < ns.length := by
      have := (List.getElem?_eq_some_iff.mp hv).1
      omega
    obtain ⟨t, e⟩ := PyProof.Rows.IntsAre.int_at hi i v hv
    refine ⟨ns.getD i 0, t, ?_, e⟩
    rw [List.getD_eq_getElem?_getD, List.getElem?_eq_getElem hin]
    rfl
  refine call_set_held (P := X.prog) (w := X.w) (I.ok.hd hc) (by omega) pl.isList
    (fun i h => ∃ c, c ≤ i ∧ SetR X.w h s.heap.objs.size (fun j => decide (j ∈ ns.take i)) c) (fun h g k => ?_) (fun i h h' hd m k => ?_) (fun A1 i v s1 Q1 E1 hu1 hv k hd c => ?_) fun h' tk hd k => ?_
  · exact ⟨0, Nat.le_refl _, setR_new_at g⟩
  · obtain ⟨c, h1, R⟩ := hd
    exact ⟨c, h1, R.at m⟩
  · obtain ⟨z, t, hz, rfl⟩ := at_ i v hv
    obtain ⟨n, hn, R⟩ := hd
    have hin : i < ns.length := (List.getElem?_eq_some_iff.mp hz).1
    unfold setAdd
    refine wpAny_holding ?_
    refine wpAny_bind ((intKind X.prog X.w).pyHash (k := z) (intKind_is _ _ _ _) ?_)
    refine setR_add_hashed (s := { s1 with toks := s1.toks + 1 }) R (by unfold scanBound; omega) fun h' sb R2 => ?_
    refine c _ h' _ (Nat.le_succ _) sb ⟨(if decide (z ∈ ns.take i) = true then n else n + 1), by split <;> omega, R2.congr fun j => ?_⟩
    have e : ns.take (i + 1) = ns.take i ++ [z] := by rw [List.take_add_one, hz]; rfl
    rw [e]
    simp [List.mem_append]
  · obtain ⟨n, hn, R⟩ := hd
    have full : ns.take (List.toArray its).size = ns := List.take_of_length_le (by simp [len])
    rw [full] at R
    have fr : H s.heap.objs.size = none := I.hok.fresh (Nat.le_refl _)
    exact ⟨.ref s.heap.objs.size, upd H s.heap.objs.size (SetO X.w s.heap.objs.size (fun j => decide (j ∈ ns)) n), I.laid (t' := tk) k (Nat.le_refl _) (setO_new R), rfl, q _ _ n fr (fun k => by simp) (setR_n R fun k => by simp)⟩
/-- sorted of such a set, told by the list it was made of -/
def rSortI (w : World) : List V → Hp → VK → Prop := fun vs H Q => ∃ (a : Addr) (S : Int → Bool) (n : Nat) (ns : List Int), vs = [V.ref a] ∧ H a = some (SetO w a S n) ∧ n < 64 ∧ (∀ k, S k = true ↔ k ∈ ns) ∧
  ∀ p : Addr, H p = none → Q (.ref p) (upd H p (.lst ((DP.sortN ns).map V.int)))
theorem cr_sortI (hc : X.calm = true) : CallR X (.builtin "sorted") (rSortI X.w) := by
  intro pins s σ H vs us Q I r h
  obtain ⟨a, S, n, ns, rfl, ha, h64, m, q⟩ := h
  refine cr_sortedSet hc pins s σ H _ us Q I r ⟨a, S, n, rfl, ha, h64, fun ms p srt mem _ np => ?_⟩
  have e : ms = DP.sortN ns := DP.sortN_one srt fun z => (mem z).trans (m z)
  rw [e]
  exact q p np
end
end DK
namespace DK
open PySem PySem.Spec PyProof.Rows L2
theorem bmK {X : Cx} {K : PySem.W.Frag} {ex : Expr} {T : String} {r : V → List V → Hp → VK → Prop} {to : TE} {t : TA} (hK : X.K = K) (h : PE X ex (tBM X.K T r to t)) : PE X ex (tBM K T r to t) := by
  subst hK
  exact h
theorem sortU_congr {l m : List (List Int)} (h : ∀ z, z ∈ l ↔ z ∈ m) : DP.sortU l = DP.sortU m := by
  refine DP.sortU_one ?_ (DP.nodup_of_lt (DP.sortU_sorted l)) fun z => (DP.sortU_mem l z).trans (h z)
  exact (DP.sortU_sorted l).imp fun h => DP.leL_iff.mpr (DP.lt_le h)
theorem sortU_le (l : List (List Int)) : (DP.sortU l).length ≤ l.length :=
  nodup_sub_len (DP.nodup_of_lt (DP.sortU_sorted l)) fun x hx => (DP.sortU_mem l x).mp hx
theorem foldl_min_mem : ∀ (r : List (List Int)) (x : List Int), r.foldl (fun a y => if DP.ltL y a then y else a) x ∈ x :: r
  | [], x => List.mem_cons_self
  | y :: r, x => by
    rw [List.foldl_cons]
    have := foldl_min_mem r (if DP.ltL y x then y else x)
    rcases List.mem_cons.mp this with z | z
    · rw [z]
      by_cases h : DP.ltL y x = true
      · rw [if_pos h]
        exact List.mem_cons_of_mem _ List.mem_cons_self
      · rw [if_neg h]
        exact List.mem_cons_self
    · exact List.mem_cons_of_mem _ (List.mem_cons_of_mem _ z)
theorem turnL_len (w : List Int) (k : Nat) : (DP.turnL w k).length = w.length := by
  unfold DP.turnL
  rw [List.length_append, List.length_drop, List.length_take]
  omega
theorem turns_cons {w : List Int} {m : Nat} (h : 1 ≤ m) : ∃ x r, DP.turns w m = x :: r := by
  cases e : DP.turns w m with
  | nil =>
    have := congrArg List.length e
    simp [DP.turns] at this
    omega
  | cons x r => exact ⟨x, r, rfl⟩
theorem leastTurn_len {w : List Int} {m : Nat} (h : 1 ≤ m) : (DP.leastTurn m w).length = w.length := by
  obtain ⟨x, r, e⟩ := turns_cons (w := w) h
  have hm : DP.leastTurn m w ∈ DP.turns w m := by
    unfold DP.leastTurn
    rw [e]
    exact foldl_min_mem r x
  unfold DP.turns at hm
  obtain ⟨k, _, e2⟩ := List.mem_map.mp hm
  rw [← e2, turnL_len]
theorem necks_item {n m : Nat} (hm : 1 ≤ m) {u : List Int} (h : u ∈ DP.necks n m) : u.length = m := by
  unfold DP.necks at h
  obtain ⟨v, hv, rfl⟩ := List.mem_map.mp ((DP.sortU_mem _ _).mp h)
  rw [leastTurn_len hm, (wordsM_item hv).1]
theorem powM_nat (n : Nat) : ∀ m, DP.powM n m = ((n ^ m : Nat) : Int)
  | 0 => rfl
  | m + 1 => by
    show DP.powM n m * n = _
    rw [powM_nat n m, Nat.pow_succ]
    simp
theorem sortL_twice (l : List (List Int)) : DP.sortL (DP.sortL l) = DP.sortL l := (DP.sortL_one (DP.sortL_sorted l) (.refl _)).symm
end DK
namespace DK
open PySem PySem.Spec PyProof.Rows L2
/-! ### the program's defs -/
def topS (i : Nat) : Stmt := PySem.Challenge.pw_doublepay_k17_whole_necklaces.main.body.getD i (.Pass ⟨0, 0, 0, 0⟩)
abbrev s_is_in : Stmt := topS 9
abbrev s_gcd : Stmt := topS 10
abbrev s_is_factor : Stmt := topS 16
abbrev s_need_table : Stmt := topS 17
abbrev s_owed_in : Stmt := topS 18
abbrev s_payers_in : Stmt := topS 19
abbrev s_need_factor : Stmt := topS 22
abbrev s_need_players : Stmt := topS 23
abbrev s_power : Stmt := topS 24
abbrev s_numbers_in : Stmt := topS 25
abbrev s_shared : Stmt := topS 27
abbrev s_step : Stmt := topS 28
abbrev s_forever_in : Stmt := topS 29
abbrev s_split : Stmt := topS 30
abbrev s_order_of : Stmt := topS 31
abbrev s_period_in : Stmt := topS 32
abbrev s_payers_along : Stmt := topS 33
abbrev s_shares : Stmt := topS 38
abbrev s_least_in : Stmt := topS 39
abbrev s_tables_in : Stmt := topS 40
abbrev s_need_few : Stmt := topS 41
abbrev s_forever_tables : Stmt := topS 42
abbrev s_back_in : Stmt := topS 43
abbrev s_word_again : Stmt := topS 44
abbrev s_necklaces : Stmt := topS 45
abbrev s_need_words : Stmt := topS 49
abbrev s_words_in : Stmt := topS 50
abbrev s_all_tables : Stmt := topS 51
abbrev s_cycle_lengths : Stmt := topS 52
abbrev s__law_taken : Stmt := topS 54
abbrev s__law_alike : Stmt := topS 55
abbrev s__law_pick : Stmt := topS 56
abbrev s__law_owed : Stmt := topS 57
abbrev s__law_payers : Stmt := topS 58
abbrev s__law_forever : Stmt := topS 59
abbrev s_law : Stmt := topS 60
theorem sc_is_in : FnScope ["value", "least", "most"] ["value", "least", "most"] (C8.fnScope s_is_in) := ⟨rfl, rfl, rfl, by decide +kernel, rfl, by decide +kernel, by decide +kernel⟩
theorem sc_gcd : FnScope ["one", "other"] ["one", "other"] (C8.fnScope s_gcd) := ⟨rfl, rfl, rfl, by decide +kernel, rfl, by decide +kernel, by decide +kernel⟩
theorem sc_is_factor : FnScope ["value"] ["value"] (C8.fnScope s_is_factor) := ⟨rfl, rfl, rfl, by decide +kernel, rfl, by decide +kernel, by decide +kernel⟩
theorem sc_need_table : FnScope ["table", "index", "one"] ["table"] (C8.fnScope s_need_table) := ⟨rfl, rfl, rfl, by decide +kernel, rfl, by decide +kernel, by decide +kernel⟩
theorem sc_owed_in : FnScope ["factor", "coins", "player", "found", "one"] ["factor", "coins", "player"] (C8.fnScope s_owed_in) := ⟨rfl, rfl, rfl, by decide +kernel, rfl, by decide +kernel, by decide +kernel⟩
theorem sc_payers_in : FnScope ["factor", "coins", "k"] ["factor", "coins"] (C8.fnScope s_payers_in) := ⟨rfl, rfl, rfl, by decide +kernel, rfl, by decide +kernel, by decide +kernel⟩
theorem sc_need_factor : FnScope ["factor"] ["factor"] (C8.fnScope s_need_factor) := ⟨rfl, rfl, rfl, by decide +kernel, rfl, by decide +kernel, by decide +kernel⟩
theorem sc_need_players : FnScope ["players"] ["players"] (C8.fnScope s_need_players) := ⟨rfl, rfl, rfl, by decide +kernel, rfl, by decide +kernel, by decide +kernel⟩
theorem sc_power : FnScope ["factor", "many", "found", "k"] ["factor", "many"] (C8.fnScope s_power) := ⟨rfl, rfl, rfl, by decide +kernel, rfl, by decide +kernel, by decide +kernel⟩
theorem sc_numbers_in : FnScope ["factor", "players", "word", "found", "payer", "one"] ["factor", "players", "word"] (C8.fnScope s_numbers_in) := ⟨rfl, rfl, rfl, by decide +kernel, rfl, by decide +kernel, by decide +kernel⟩
theorem sc_shared : FnScope ["coins", "found", "one"] ["coins"] (C8.fnScope s_shared) := ⟨rfl, rfl, rfl, by decide +kernel, rfl, by decide +kernel, by decide +kernel⟩
theorem sc_step : FnScope ["factor", "coins", "some"] ["factor", "coins"] (C8.fnScope s_step) := ⟨rfl, rfl, rfl, by decide +kernel, rfl, by decide +kernel, by decide +kernel⟩
theorem sc_forever_in : FnScope ["factor", "coins", "here", "seen", "one"] ["factor", "coins"] (C8.fnScope s_forever_in) := ⟨rfl, rfl, rfl, by decide +kernel, rfl, by decide +kernel, by decide +kernel⟩
theorem sc_split : FnScope ["factor", "total", "rest", "ahead"] ["factor", "total"] (C8.fnScope s_split) := ⟨rfl, rfl, rfl, by decide +kernel, rfl, by decide +kernel, by decide +kernel⟩
theorem sc_order_of : FnScope ["factor", "rest", "found", "here"] ["factor", "rest"] (C8.fnScope s_order_of) := ⟨rfl, rfl, rfl, by decide +kernel, rfl, by decide +kernel, by decide +kernel⟩
theorem sc_period_in : FnScope ["factor", "coins", "ahead", "rest"] ["factor", "coins"] (C8.fnScope s_period_in) := ⟨rfl, rfl, rfl, by decide +kernel, rfl, by decide +kernel, by decide +kernel⟩
theorem sc_payers_along : FnScope ["factor", "coins", "many", "found", "here", "turn"] ["factor", "coins", "many"] (C8.fnScope s_payers_along) := ⟨rfl, rfl, rfl, by decide +kernel, rfl, by decide +kernel, by decide +kernel⟩
theorem sc_shares : FnScope ["total", "players", "one", "rest"] ["total", "players"] (C8.fnScope s_shares) := ⟨rfl, rfl, rfl, by decide +kernel, rfl, by decide +kernel, by decide +kernel⟩
theorem sc_least_in : FnScope ["factor", "players", "total", "word", "size", "number"] ["factor", "players", "total", "word"] (C8.fnScope s_least_in) := ⟨rfl, rfl, rfl, by decide +kernel, rfl, by decide +kernel, by decide +kernel⟩
theorem sc_tables_in : FnScope ["factor", "players", "total", "words", "many", "more", "word", "payer", "found", "least", "rest", "coins", "one", "other"] ["factor", "players", "total"] (C8.fnScope s_tables_in) := ⟨rfl, rfl, rfl, by decide +kernel, rfl, by decide +kernel, by decide +kernel⟩
theorem sc_need_few : FnScope ["players"] ["players"] (C8.fnScope s_need_few) := ⟨rfl, rfl, rfl, by decide +kernel, rfl, by decide +kernel, by decide +kernel⟩
theorem sc_forever_tables : FnScope ["factor", "players", "whole"] ["factor", "players", "whole"] (C8.fnScope s_forever_tables) := ⟨rfl, rfl, rfl, by decide +kernel, rfl, by decide +kernel, by decide +kernel⟩
theorem sc_back_in : FnScope ["table", "factor", "coins", "ahead", "many"] ["table"] (C8.fnScope s_back_in) := ⟨rfl, rfl, rfl, by decide +kernel, rfl, by decide +kernel, by decide +kernel⟩
theorem sc_word_again : FnScope ["table", "many"] ["table"] (C8.fnScope s_word_again) := ⟨rfl, rfl, rfl, by decide +kernel, rfl, by decide +kernel, by decide +kernel⟩
theorem sc_necklaces : FnScope ["players", "many", "turn"] ["players", "many"] (C8.fnScope s_necklaces) := ⟨rfl, rfl, rfl, by decide +kernel, rfl, by decide +kernel, by decide +kernel⟩
theorem sc_need_words : FnScope ["factor", "players", "many"] ["factor", "players", "many"] (C8.fnScope s_need_words) := ⟨rfl, rfl, rfl, by decide +kernel, rfl, by decide +kernel, by decide +kernel⟩
theorem sc_words_in : FnScope ["players", "many", "found", "turn", "word", "payer"] ["players", "many"] (C8.fnScope s_words_in) := ⟨rfl, rfl, rfl, by decide +kernel, rfl, by decide +kernel, by decide +kernel⟩
theorem sc_all_tables : FnScope ["factor", "players", "many", "word"] ["factor", "players", "many"] (C8.fnScope s_all_tables) := ⟨rfl, rfl, rfl, by decide +kernel, rfl, by decide +kernel, by decide +kernel⟩
theorem sc_cycle_lengths : FnScope ["factor", "players", "many", "counts", "word", "length", "size"] ["factor", "players", "many"] (C8.fnScope s_cycle_lengths) := ⟨rfl, rfl, rfl, by decide +kernel, rfl, by decide +kernel, by decide +kernel⟩
theorem sc__law_taken : FnScope ["_law_row", "_law_many", "_law_found", "_law_cell"] ["_law_row", "_law_many"] (C8.fnScope s__law_taken) := ⟨rfl, rfl, rfl, by decide +kernel, rfl, by decide +kernel, by decide +kernel⟩
theorem sc__law_alike : FnScope ["_law_found", "_law_due", "_law_k"] ["_law_found", "_law_due"] (C8.fnScope s__law_alike) := ⟨rfl, rfl, rfl, by decide +kernel, rfl, by decide +kernel, by decide +kernel⟩
theorem sc__law_pick : FnScope ["_law_row", "_law_things"] ["_law_row", "_law_things"] (C8.fnScope s__law_pick) := ⟨rfl, rfl, rfl, by decide +kernel, rfl, by decide +kernel, by decide +kernel⟩
theorem sc__law_owed : FnScope ["_law_factor", "_law_coins", "_law_payer", "_law_gives", "_law_found", "_law_one", "_law_k"] ["_law_factor", "_law_coins", "_law_payer"] (C8.fnScope s__law_owed) := ⟨rfl, rfl, rfl, by decide +kernel, rfl, by decide +kernel, by decide +kernel⟩
theorem sc__law_payers : FnScope ["_law_factor", "_law_coins", "_law_k"] ["_law_factor", "_law_coins"] (C8.fnScope s__law_payers) := ⟨rfl, rfl, rfl, by decide +kernel, rfl, by decide +kernel, by decide +kernel⟩
theorem sc__law_forever : FnScope ["_law_factor", "_law_coins", "_law_seen", "_law_here", "_law_some"] ["_law_factor", "_law_coins"] (C8.fnScope s__law_forever) := ⟨rfl, rfl, rfl, by decide +kernel, rfl, by decide +kernel, by decide +kernel⟩
theorem sc_law : FnScope ["_law_script", "_law_row", "_law_players", "_law_many", "_law_words", "_law_turn", "_law_more", "_law_word", "_law_least", "_law_lengths", "_law_due", "_law_factor", "_law_size", "_law_told", "_law_coins", "_law_again", "_law_payer", "_law_k", "_law_length"] ["_law_script"] (C8.fnScope s_law) := ⟨rfl, rfl, rfl, by decide +kernel, rfl, by decide +kernel, by decide +kernel⟩
/-- the def st stands at the name x -/
structure Dn (K : PySem.W.Frag) (mg : Str → Option Value) (x : Str) (st : Stmt) (ps : List Str) : Prop where
  ex : ∃ f fd, C8.Def K mg x st f fd ∧ L2.Binds K fd ps []
section
variable {P : Program} {w : World} {K : PySem.W.Frag} {mg : Str → Option Value} {base : Heap}
theorem cal1 {x : Str} {st : Stmt} {N ps : List Str} {k : Nat} {sp : Sp} (D : Dn K mg x st ps) (sc : FnScope N ps (C8.fnScope st))
    (len : ∀ vs H Q E, sp vs H Q E → vs.length = ps.length)
    (walk : ∀ (cdv : Value) (A : Around) (outer : List Env) (s : Shared) (f : Addr) (H : Hp) (vs : List V) (Q : VK) (E : XK),
      Room k (Around.deeper A (envOfC x (C8.fnScope st) s.heap.objs.size f cdv)) → sp vs H Q E →
      ∃ t, PSs (Cx.nox (cxOf C8.CX0 P w K mg base N x (C8.fnScope st) f cdv A outer s H E)) (C8.fnBody st) t ∧ t { nx := fun _ H' => Q .non H', rt := Q } (L2.start N vs) H) :
    C8.Cal P w K mg base (k + 1) x sp [] := by
  obtain ⟨f, fd, d, b⟩ := D.ex
  exact C8.cal0 d b .nil sc len fun cdv A outer s H vs Q E hr h => walk cdv A outer s f H vs Q E hr h
end
end DK
namespace DK
open PySem PySem.Spec PyProof.Rows L2
theorem ixN_at {n j : Nat} (h : j < n) : ixN n (j : Int) = some j := by
  unfold ixN
  rw [if_pos (by omega), if_pos (by omega)]
  rfl
theorem getI {ns : List Int} {k : Nat} (h : k < ns.length) : (ns.map V.int)[k]? = some (.int (ns.getD k 0)) := by
  rw [List.getElem?_map, List.getD_eq_getElem?_getD, List.getElem?_eq_getElem h]
  rfl
theorem fold_take {α β : Type} (f : β → α → β) (b : β) (xs : List α) {i : Nat} {x : α} (h : xs[i]? = some x) : (xs.take (i + 1)).foldl f b = f ((xs.take i).foldl f b) x := by
  rw [List.take_add_one, h, List.foldl_append]
  rfl
section
variable {P : Program} {w : World} {K : PySem.W.Frag} {mg : Str → Option Value} {base : Heap}
/-! ### is_in -/
def spIsIn : Sp := fun vs H Q _ => ∃ v l m : Int, vs = [.int v, .int l, .int m] ∧ l ≤ v ∧ v ≤ m ∧ Q (.bl true) H
theorem ok_is_in (D : Dn K mg "is_in" s_is_in ["value", "least", "most"]) (m_isinstance : mg "isinstance" = none) (m_int : mg "int" = none) (m_bool : mg "bool" = none) :
    C8.Cal P w K mg base 1 "is_in" spIsIn [] := by
  refine cal1 D sc_is_in (fun vs H Q E h => ?_) (fun cdv A outer s f H vs Q E hr h => ?_)
  · obtain ⟨v, l, m, rfl, _⟩ := h
    rfl
  · obtain ⟨v, l, m, rfl, h1, h2, q⟩ := h
    have nd := sc_is_in.nd
    refine ⟨_, (pss_one (ps_ret (pe_and (pe_callB (id := "isinstance") (r := rIsi K) call_isi (by rfl) m_isinstance (by decide +kernel) (pa_cons (pv 0) (pa_cons (pe_bltn (v := .ty "int") (by rfl) m_int (by decide +kernel) rfl) pa_nil))) (pe_and (pe_not (pe_callB (id := "isinstance") (r := rIsi K) call_isi (by rfl) m_isinstance (by decide +kernel) (pa_cons (pv 0) (pa_cons (pe_bltn (v := .ty "bool") (by rfl) m_bool (by decide +kernel) rfl) pa_nil)))) (pe_one (pe_chain op_le op_le (pv 1) (pv 0) (pv 2))))))), ?_⟩
    refine ⟨.int v, rfl, .int v, .ty "int", .type "int", .type "int", true, rfl, .ty _, .base (.int v), kit_ty (by decide +kernel), true, rfl, ?_⟩
    refine ⟨.int v, rfl, .int v, .ty "bool", .type "int", .type "bool", false, rfl, .ty _, .base (.int v), kit_ty (by decide +kernel), false, rfl, true, rfl, ?_⟩
    refine ⟨.int l, rfl, .int v, rfl, l, v, rfl, rfl, _, rfl, ?_⟩
    rw [decide_eq_true h1]
    refine ⟨.int m, rfl, v, m, rfl, rfl, ?_⟩
    show Q (.bl (decide (v ≤ m))) H
    rw [decide_eq_true h2]
    exact q
/-! ### gcd -/
def spGcd : Sp := fun vs H Q _ => ∃ a b : Int, vs = [.int a, .int b] ∧ Q (.int (DP.gcdI a b)) H
theorem abs_nat (a : Int) : (if a < 0 then -a else a) = (a.natAbs : Int) := by
  split <;> omega
theorem ok_gcd (D : Dn K mg "gcd" s_gcd ["one", "other"]) (m_abs : mg "abs" = none) : C8.Cal P w K mg base 1 "gcd" spGcd [] := by
  refine cal1 D sc_gcd (fun vs H Q E h => ?_) (fun cdv A outer s f H vs Q E hr h => ?_)
  · obtain ⟨v, l, rfl, _⟩ := h
    rfl
  · obtain ⟨a, b, rfl, q⟩ := h
    have nd := sc_gcd.nd
    refine ⟨_, (pss_cons (ps_par (i := 0) (j := 1) (by rfl) nd rfl rfl (by decide) rfl rfl (pa_cons (pe_callB (id := "abs") call_abs (by rfl) m_abs (by decide +kernel) (pa_cons (pv 0) pa_nil)) (pa_cons (pe_callB (id := "abs") call_abs (by rfl) m_abs (by decide +kernel) (pa_cons (pv 1) pa_nil)) pa_nil)) (by rfl))
      (pss_cons (ps_while PassesOwn.never (pt_cmpR op_ne (pv 1) pe_int (nomark _)) (pss_one (ps_par (i := 0) (j := 1) (by rfl) nd rfl rfl (by decide) rfl rfl (pa_cons (pv 1) (pa_cons (pe_op op_mod (pv 0) (pv 1)) pa_nil)) (by rfl))))
      (pss_one (ps_ret (pv 0))))), ?_⟩
    refine ⟨.int a, rfl, a, rfl, .int b, rfl, b, rfl, _, _, rfl, ?_⟩
    refine while_by (fun σ H' => H' = H ∧ ∃ x y : Nat, σ = [some (.int x), some (.int y)] ∧ Nat.gcd x y = Nat.gcd a.natAbs b.natAbs) (fun σ _ => match σ with | [_, some (.int y)] => y.toNat | _ => 0) ⟨rfl, a.natAbs, b.natAbs, ?_, rfl⟩ ?_ ?_
    · show [some (V.int (if a < 0 then -a else a)), some (V.int (if b < 0 then -b else b))] = _
      rw [abs_nat, abs_nat]
    · rintro σ H' ⟨rfl, x, y, rfl, e⟩
      refine ⟨.int y, rfl, rfl, _, rfl, ?_⟩
      by_cases hy : y = 0
      · subst hy
        refine iteF' ?_ ?_
        · rfl
        · rw [Nat.gcd_zero_right] at e
          refine ⟨.int x, rfl, ?_⟩
          rw [e]
          exact q
      · refine iteT' ?_ ?_
        · show (!decide (V.int (y : Int) = V.int 0)) = true
          rw [decide_eq_false (fun z => hy (by have := V.int.inj z; omega))]
          rfl
        · refine ⟨.int y, rfl, .int x, rfl, .int y, rfl, x, y, rfl, rfl, (by omega), _, _, rfl, ?_⟩
          refine ⟨⟨rfl, y, x % y, rfl, ?_⟩, ?_⟩
          · rw [← e, Nat.gcd_comm y (x % y), ← Nat.gcd_rec, Nat.gcd_comm]
          · show ((x : Int) % (y : Int)).toNat < (y : Int).toNat
            have := Nat.mod_lt x (Nat.pos_of_ne_zero hy)
            rw [← Int.natCast_emod]
            omega
    · rintro σ H Q Q' k ⟨v, e1, e2, b, e3, h⟩
      exact ⟨v, e1, e2, b, e3, k _ _ h⟩
/-! ### is_factor -/
def spIs1 (lo hi : Int) (b : V) : Sp := fun vs H Q _ => ∃ v : Int, vs = [.int v] ∧ lo ≤ v ∧ v ≤ hi ∧ Q b H
theorem ok_is_factor (D : Dn K mg "is_factor" s_is_factor ["value"]) (c_is_in : C8.Cal P w K mg base 1 "is_in" spIsIn []) {t1 t2 : Nat} (g_LEAST_FACTOR : mg "LEAST_FACTOR" = some (.int 2 t1)) (g_MOST_FACTOR : mg "MOST_FACTOR" = some (.int 9 t2)) :
    C8.Cal P w K mg base 2 "is_factor" (spIs1 2 9 (.bl true)) [] := by
  refine cal1 D sc_is_factor (fun vs H Q E h => ?_) (fun cdv A outer s f H vs Q E hr h => ?_)
  · obtain ⟨v, rfl, _⟩ := h
    rfl
  · obtain ⟨v, rfl, h1, h2, q⟩ := h
    have nd := sc_is_factor.nd
    exact ⟨_, (pss_one (ps_ret (C8.pe_c c_is_in hr (by first | decide | omega) (by rfl) (pa_cons (pv 0) (pa_cons (pe_glob (v := .int 2) rfl g_LEAST_FACTOR ⟨_, rfl⟩) (pa_cons (pe_glob (v := .int 9) rfl g_MOST_FACTOR ⟨_, rfl⟩) pa_nil)))))), .int v, rfl, v, 2, 9, rfl, h1, h2, q⟩
theorem ok_need_factor (D : Dn K mg "need_factor" s_need_factor ["factor"]) (c_is_factor : C8.Cal P w K mg base 2 "is_factor" (spIs1 2 9 (.bl true)) []) :
    C8.Cal P w K mg base 3 "need_factor" (spIs1 2 9 .non) [] := by
  refine cal1 D sc_need_factor (fun vs H Q E h => ?_) (fun cdv A outer s f H vs Q E hr h => ?_)
  · obtain ⟨v, rfl, _⟩ := h
    rfl
  · obtain ⟨v, rfl, h1, h2, q⟩ := h
    have nd := sc_need_factor.nd
    exact ⟨_, (pss_one (ps_if (pt_not (pt_val (C8.pe_c c_is_factor hr (by first | decide | omega) (by rfl) (pa_cons (pv 0) pa_nil)))) pss_never pss_nil)), .int v, rfl, v, rfl, h1, h2, true, rfl, iteF' rfl q⟩
theorem ok_need_players (D : Dn K mg "need_players" s_need_players ["players"]) (c_is_in : C8.Cal P w K mg base 1 "is_in" spIsIn []) {t1 : Nat} (g_MOST_PLAYERS : mg "MOST_PLAYERS" = some (.int 6 t1)) :
    C8.Cal P w K mg base 2 "need_players" (spIs1 1 6 .non) [] := by
  refine cal1 D sc_need_players (fun vs H Q E h => ?_) (fun cdv A outer s f H vs Q E hr h => ?_)
  · obtain ⟨v, rfl, _⟩ := h
    rfl
  · obtain ⟨v, rfl, h1, h2, q⟩ := h
    have nd := sc_need_players.nd
    exact ⟨_, (pss_one (ps_if (pt_not (pt_val (C8.pe_c c_is_in hr (by first | decide | omega) (by rfl) (pa_cons (pv 0) (pa_cons pe_int (pa_cons (pe_glob (v := .int 6) rfl g_MOST_PLAYERS ⟨_, rfl⟩) pa_nil)))))) pss_never pss_nil)), .int v, rfl, v, 1, 6, rfl, h1, h2, true, rfl, iteF' rfl q⟩
theorem ok_need_few (D : Dn K mg "need_few" s_need_few ["players"]) (c_is_in : C8.Cal P w K mg base 1 "is_in" spIsIn []) {t1 : Nat} (g_MOST_LISTED : mg "MOST_LISTED" = some (.int 4 t1)) :
    C8.Cal P w K mg base 2 "need_few" (spIs1 1 4 .non) [] := by
  refine cal1 D sc_need_few (fun vs H Q E h => ?_) (fun cdv A outer s f H vs Q E hr h => ?_)
  · obtain ⟨v, rfl, _⟩ := h
    rfl
  · obtain ⟨v, rfl, h1, h2, q⟩ := h
    have nd := sc_need_few.nd
    exact ⟨_, (pss_one (ps_if (pt_not (pt_val (C8.pe_c c_is_in hr (by first | decide | omega) (by rfl) (pa_cons (pv 0) (pa_cons pe_int (pa_cons (pe_glob (v := .int 4) rfl g_MOST_LISTED ⟨_, rfl⟩) pa_nil)))))) pss_never pss_nil)), .int v, rfl, v, 1, 4, rfl, h1, h2, true, rfl, iteF' rfl q⟩
/-! ### power -/
def small (f : Int) : Prop := -(2 ^ 64) < f ∧ f < 2 ^ 64
def spPow : Sp := fun vs H Q _ => ∃ (f : Int) (n : Nat), vs = [.int f, .int n] ∧ small f ∧ n ≤ 1000 ∧ Q (.int (DP.powM f n)) H
theorem ok_power (D : Dn K mg "power" s_power ["factor", "many"]) (m_range : mg "range" = none) : C8.Cal P w K mg base 1 "power" spPow [] := by
  refine cal1 D sc_power (fun vs H Q E h => ?_) (fun cdv A outer s f H vs Q E hr h => ?_)
  · obtain ⟨v, l, rfl, _⟩ := h
    rfl
  · obtain ⟨fa, n, rfl, hf, hn, q⟩ := h
    have nd := sc_power.nd
    refine ⟨_, (pss_cons (ps_set (i := 2) nd rfl (.inl rfl) pe_int)
      (pss_cons (ps_for PassesOwn.never rfl (pi_range1 (by rfl) m_range (pa_cons (pv 1) pa_nil)) (pg_name (i := 3) nd rfl (Or.inl rfl)) (pss_one (ps_aug (i := 2) nd rfl (.inl rfl) (pv 0) iop_mul)))
      (pss_one (ps_ret (pv 2))))), ?_⟩
    refine ⟨.int n, rfl, n, rfl, by omega, by omega, for_range (n := n) (fun i σ H' => H' = H ∧ ∃ y, σ = [some (.int fa), some (.int n), some (.int (DP.powM fa i)), y]) ⟨rfl, _, rfl⟩ ?_ ?_⟩
    · rintro i σ H' hi ⟨rfl, y, rfl⟩
      exact ⟨.int (DP.powM fa i), rfl, .int fa, rfl, _, _, rfl, rfl, .inr hf, rfl, _, rfl⟩
    · rintro σ H' ⟨rfl, y, rfl⟩
      exact ⟨_, rfl, q⟩
/-! ### tuples of ints -/
/-- hands back a tuple of these -/
def QT (H : Hp) (ws : List Int) (Q : VK) : Prop := ∀ H' p, Same H H' → TupAt H' p ws → Q (.ref p) H'
/-- hands back a new list of these -/
def QL (H : Hp) (ws : List Int) (Q : VK) : Prop := ∀ H' p, Same H H' → H p = none → H' p = some (.lst (ws.map V.int)) → Q (.ref p) H'
theorem set_ints (ns : List Int) (k : Nat) (x : Int) : (ns.map V.int).set k (.int x) = (ns.set k x).map V.int := by
  rw [List.map_set]
def spOwed : Sp := fun vs H Q _ => ∃ (f : Int) (p : Addr) (c : List Int) (k : Nat), vs = [.int f, .ref p, .int k] ∧ TupAt H p c ∧ small f ∧ small (f - 1) ∧ k < c.length ∧ c.length ≤ 1000 ∧ QT H (DP.owedM f c k) Q
theorem ok_owed_in (D : Dn K mg "owed_in" s_owed_in ["factor", "coins", "player"]) (m_sum : mg "sum" = none) (m_tuple : mg "tuple" = none) : C8.Cal P w K mg base 1 "owed_in" spOwed [] := by
  refine cal1 D sc_owed_in (fun vs H Q E h => ?_) (fun cdv A outer s f H vs Q E hr h => ?_)
  · obtain ⟨f, p, c, k, rfl, _⟩ := h
    rfl
  · obtain ⟨fa, p, c, k, rfl, hp, hf, hf1, hk, hl, q⟩ := h
    have nd := sc_owed_in.nd
    refine ⟨_, (pss_cons (ps_setLc (i := 3) (own := [("one", 4)]) (g := gName 4) (tt := tYes) rfl nd rfl rfl (sw_true rfl rfl rfl (by decide +kernel)) (pi_tup (pv 1)) (blkOk_by (N := ["factor", "coins", "player", "found", "one"]) (sc := (C8.fnScope s_owed_in)) (by decide +kernel)) (fun _ _ _ _ _ => (pg_name (i := 4) nd rfl (Or.inl rfl))) (fun _ _ _ _ _ => pts_nil) (fun _ _ _ _ _ => (pe_op op_mul (pv 0) (pv 4))))
      (pss_cons (ps_asg (pe_op op_sub (pe_op op_mul (pv 0) (pe_ix (r := rIxT K) ix_tup (pv 1) (pv 2) (fun _ _ => rfl))) (pe_op op_mul (pe_op op_sub (pv 0) pe_int) (pe_callB (id := "sum") (r := rSumT K) (cr_sumT rfl) (by rfl) m_sum (by decide +kernel) (pa_cons (pv 1) pa_nil)))) (pg_sub (pv 3) (pv 2) set_list))
      (pss_one (ps_ret (pe_callTy (T := "tuple") (r := rTupOf K) cr_tupOf (by rfl) m_tuple (by decide +kernel) (pa_cons (pv 3) pa_nil)))))), ?_⟩
    refine ⟨.ref p, rfl, p, rfl, ⟨_, hp.q⟩, fun Da nD => ?_⟩
    refine lc_ints (walk_tup (xs := c.map V.int)) (fun i => fa * c.getD i 0) nD (by simpa using Nat.le_of_lt (small1000 hl)) (fun H' sm => (hp.same sm).q) ?_ gn ?_
    · rintro i x H' _ Q' hi sm ⟨rfl, hx⟩ hq
      obtain ⟨rfl, _⟩ := ints_at hx
      exact ⟨rfl, _, rfl, _, rfl, _, _, rfl, rfl, .inl hf, hq _ Same.refl'⟩
    · intro H1 sm h1
      have hp1 := hp.same sm
      have e : ((List.range (c.map V.int).length).map fun i => fa * c.getD i 0) = c.map fun x => fa * x := by
        rw [List.length_map]
        exact range_map_at 0 (fun x => fa * x) c
      rw [e] at h1
      refine ⟨.int fa, rfl, .ref p, rfl, .int k, rfl, p, c.map V.int, k, .int (c.getD k 0), rfl, rfl, hp1.q, atI_nat (getI hk), fa, c.getD k 0, rfl, rfl, .inl hf, ?_⟩
      refine ⟨.int fa, rfl, fa, 1, rfl, rfl, .ref p, rfl, p, c, rfl, hp1.q, fa - 1, c.sum, rfl, rfl, .inl hf1, fa * c.getD k 0, (fa - 1) * c.sum, rfl, rfl, ?_⟩
      refine ⟨.ref Da, rfl, .int k, rfl, Da, _, k, k, rfl, rfl, h1, ixN_at (by simpa using hk), ?_⟩
      refine ⟨.ref Da, rfl, Da, _, rfl, .inl ⟨.of upd_same, fun t nt => q _ _ ((SameX.upd.same nD sm).trans (same_new nt)) ?_⟩⟩
      rw [set_ints]
      exact upd_same
end
end DK
namespace DK
open PySem PySem.Spec PyProof.Rows L2
section
variable {P : Program} {w : World} {K : PySem.W.Frag} {mg : Str → Option Value} {base : Heap}
/-- natural numbers as ints -/
def nI (ks : List Nat) : List Int := ks.map fun (k : Nat) => (k : Int)
def spPayers : Sp := fun vs H Q _ => ∃ (f : Int) (p : Addr) (c : List Int), vs = [.int f, .ref p] ∧ TupAt H p c ∧ small f ∧ small (f - 1) ∧ c.length ≤ 1000 ∧ QL H (nI (DP.payersM f c)) Q
theorem ok_payers_in (D : Dn K mg "payers_in" s_payers_in ["factor", "coins"]) (m_sum : mg "sum" = none) (m_len : mg "len" = none) (m_range : mg "range" = none) : C8.Cal P w K mg base 1 "payers_in" spPayers [] := by
  refine cal1 D sc_payers_in (fun vs H Q E h => ?_) (fun cdv A outer s f H vs Q E hr h => ?_)
  · obtain ⟨f, p, c, rfl, _⟩ := h
    rfl
  · obtain ⟨fa, p, c, rfl, hp, hf, hf1, hl, q⟩ := h
    have nd := sc_payers_in.nd
    refine ⟨_, (pss_one (ps_ret (pe_lc (own := [("k", 2)]) (g := gName 2) rfl nd (pi_range1 (by rfl) m_range (pa_cons (pe_callB (id := "len") (r := rLenS K) cr_lenS (by rfl) m_len PySem.boot_len (pa_cons (pv 1) pa_nil)) pa_nil)) (blkOk_by (N := ["factor", "coins", "k"]) (sc := (C8.fnScope s_payers_in)) (by decide +kernel)) (fun _ _ _ _ _ => (pg_name (i := 2) nd rfl (Or.inl rfl))) (fun _ _ _ _ _ => pts_one (pt_cmpR op_ge (pe_op op_mul (pv 0) (pe_ix (r := rIxT K) ix_tup (pv 1) (pv 2) (fun _ _ => rfl))) (pe_op op_mul (pe_op op_sub (pv 0) pe_int) (pe_callB (id := "sum") (r := rSumT K) (cr_sumT rfl) (by rfl) m_sum (by decide +kernel) (pa_cons (pv 1) pa_nil))) (nomark _))) (fun _ _ _ _ _ => (pv 2))))), ?_⟩
    refine ⟨.ref p, rfl, p, _, rfl, .inr hp.q, ((c.map V.int).length : Nat), rfl, by omega, by simp; omega, fun Da nD => ?_⟩
    rw [List.length_map]
    refine lc_intsC (walk_range0 (n := c.length)) (fun i => DP.canPay fa c i) (fun i => (i : Int)) nD (Nat.le_of_lt (small1000 hl)) (fun _ _ => trivial) ?_ ?_
    · rintro i x H' _ Q' N hi sm ⟨rfl, rfl⟩ q1 q2
      have hp1 := hp.same sm
      refine ⟨rfl, ?_⟩
      refine ⟨.int fa, rfl, .ref p, rfl, .int i, rfl, p, _, i, .int (c.getD i 0), rfl, rfl, hp1.q, atI_nat (getI hi), fa, c.getD i 0, rfl, rfl, .inl hf, ?_⟩
      refine ⟨.int fa, rfl, fa, 1, rfl, rfl, .ref p, rfl, p, c, rfl, hp1.q, fa - 1, c.sum, rfl, rfl, .inl hf1, fa * c.getD i 0, (fa - 1) * c.sum, rfl, rfl, _, rfl, ?_⟩
      refine ite2 (fun e => ?_) (fun e => ?_)
      · exact ⟨_, rfl, q1 e _ Same.refl'⟩
      · exact q2 (eq_false_of_ne_true e) _ Same.refl'
    · intro H1 sm h1
      exact q _ _ sm nD h1
/-! ### shared -/
def spShared : Sp := fun vs H Q _ => ∃ (p : Addr) (c : List Int), vs = [.ref p] ∧ TupAt H p c ∧ c.length ≤ 1000 ∧ 0 < DP.gcdL c ∧ DP.gcdL c < 1000000 ∧ QT H (DP.sharedM c) Q
theorem ok_shared (D : Dn K mg "shared" s_shared ["coins"]) (c_gcd : C8.Cal P w K mg base 1 "gcd" spGcd []) (m_tuple : mg "tuple" = none) : C8.Cal P w K mg base 2 "shared" spShared [] := by
  refine cal1 D sc_shared (fun vs H Q E h => ?_) (fun cdv A outer s f H vs Q E hr h => ?_)
  · obtain ⟨p, c, rfl, _⟩ := h
    rfl
  · obtain ⟨p, c, rfl, hp, hl, hg, hg1, q⟩ := h
    have nd := sc_shared.nd
    refine ⟨_, (pss_cons (ps_set (i := 1) nd rfl (.inr rfl) pe_int)
      (pss_cons (ps_for PassesOwn.never rfl (pi_tup (pv 0)) (pg_name (i := 2) nd rfl (Or.inl rfl)) (pss_one (ps_set (i := 1) nd rfl (.inr rfl) (C8.pe_c c_gcd hr (by first | decide | omega) (by rfl) (pa_cons (pv 1) (pa_cons (pv 2) pa_nil))))))
      (pss_one (ps_ret (pe_callTy (T := "tuple") (r := rTupOf K) cr_tupOf (by rfl) m_tuple (by decide +kernel) (pa_cons (pe_lc (own := [("one", 2)]) (g := gName 2) (tt := tYes) rfl nd (pi_tup (pv 0)) (blkOk_by (N := ["coins", "found", "one"]) (sc := (C8.fnScope s_shared)) (by decide +kernel)) (fun _ _ _ _ _ => (pg_name (i := 2) nd rfl (Or.inl rfl))) (fun _ _ _ _ _ => pts_nil) (fun _ _ _ _ _ => (pe_op op_fdiv (pv 2) (pv 1)))) pa_nil)))))), ?_⟩
    refine ⟨.ref p, rfl, p, rfl, ⟨_, hp.q⟩, for_tup (xs := c.map V.int) (fun i σ H' => H' = H ∧ ∃ y, σ = [some (.ref p), some (.int ((c.take i).foldl DP.gcdI 0)), y]) ⟨rfl, _, rfl⟩ ?_ ?_ ?_⟩
    · rintro i σ H' hi ⟨rfl, _⟩
      exact hp.q
    · rintro i x σ H' hx ⟨rfl, y, rfl⟩
      obtain ⟨rfl, hc⟩ := ints_at hx
      refine ⟨_, rfl, _, rfl, _, _, rfl, rfl, some (.int (c.getD i 0)), ?_⟩
      rw [fold_take DP.gcdI 0 c hc]
      rfl
    · rintro σ H' ⟨rfl, y, rfl⟩
      rw [List.length_map, List.take_length]
      refine ⟨.ref p, rfl, p, rfl, ⟨_, hp.q⟩, fun Da nD => ?_⟩
      refine lc_ints (walk_tup (xs := c.map V.int)) (fun i => c.getD i 0 / DP.gcdL c) nD (by simpa using Nat.le_of_lt (small1000 hl)) (fun H' sm => (hp.same sm).q) ?_ gn ?_
      · rintro i x H1 _ Q' hi sm ⟨rfl, hx⟩ hq
        obtain ⟨rfl, _⟩ := ints_at hx
        exact ⟨rfl, _, rfl, _, rfl, _, _, rfl, rfl, ⟨hg, Int.lt_trans hg1 (by decide)⟩, hq _ Same.refl'⟩
      · intro H1 sm h1
        have e : ((List.range (c.map V.int).length).map fun i => c.getD i 0 / DP.gcdL c) = DP.sharedM c := by
          rw [List.length_map]
          exact range_map_at 0 (fun x => x / DP.gcdL c) c
        rw [e] at h1
        exact ⟨Da, _, rfl, .inl ⟨.of h1, fun t nt => q _ _ (sm.trans (same_new nt)) upd_same⟩⟩
/-! ### step -/
/-- a payer and the coins behind it, or none -/
def QS (H : Hp) (r : Option (List Int)) (Q : VK) : Prop := match r with
  | some c => QT H c Q
  | none => ∀ H', Same H H' → Q .non H'
def spStep : Sp := fun vs H Q _ => ∃ (f : Int) (p : Addr) (c : List Int), vs = [.int f, .ref p] ∧ TupAt H p c ∧ small f ∧ small (f - 1) ∧ c.length ≤ 1000 ∧ QS H (DP.stepM f c) Q
theorem payers_lt {f : Int} {c : List Int} {k : Nat} {r : List Nat} (h : DP.payersM f c = k :: r) : k < c.length := by
  have : k ∈ DP.payersM f c := by
    rw [h]
    exact List.mem_cons_self
  exact List.mem_range.mp (List.mem_filter.mp this).1
theorem ok_step (D : Dn K mg "step" s_step ["factor", "coins"]) (c_payers_in : C8.Cal P w K mg base 1 "payers_in" spPayers []) (c_owed_in : C8.Cal P w K mg base 1 "owed_in" spOwed []) : C8.Cal P w K mg base 2 "step" spStep [] := by
  refine cal1 D sc_step (fun vs H Q E h => ?_) (fun cdv A outer s f H vs Q E hr h => ?_)
  · obtain ⟨f, p, c, rfl, _⟩ := h
    rfl
  · obtain ⟨fa, p, c, rfl, hp, hf, hf1, hl, q⟩ := h
    have nd := sc_step.nd
    refine ⟨_, (pss_cons (ps_set (i := 2) nd rfl (.inl rfl) (C8.pe_c c_payers_in hr (by first | decide | omega) (by rfl) (pa_cons (pv 0) (pa_cons (pv 1) pa_nil))))
      (pss_one (ps_ret (pe_ifExp (pt_cmpR (r := rNeD K) (op_neD (hu64 hr)) (pv 2) (pe_lst pa_nil) (nomark _)) (C8.pe_c c_owed_in hr (by first | decide | omega) (by rfl) (pa_cons (pv 0) (pa_cons (pv 1) (pa_cons (pe_ix (r := rIxL K) ix_list (pv 2) pe_int (fun _ _ => rfl)) pa_nil)))) pe_non)))), ?_⟩
    refine ⟨.int fa, rfl, .ref p, rfl, fa, p, c, rfl, hp, hf, hf1, hl, fun H1 a sm na ha => ?_⟩
    refine ⟨.ref a, rfl, by decide, fun l nl => ?_⟩
    have sm2 := same_new (o := .lst []) nl
    refine ⟨_, _, dp_lst (sm2 _ _ ha), dp_lst (ns := []) upd_same, sh_listI _, sh_listI [], _, rfl, ?_⟩
    rw [eq_nil]
    cases e : DP.payersM fa c with
    | nil =>
      rw [show DP.stepM fa c = none by simp only [DP.stepM, e]] at q
      exact iteF' rfl (q _ (sm.trans sm2))
    | cons k r =>
      rw [show DP.stepM fa c = some (DP.owedM fa c k) by simp only [DP.stepM, e]] at q
      have hk := payers_lt e
      rw [e] at ha
      refine iteT' rfl ⟨.int fa, rfl, .ref p, rfl, .ref a, rfl, a, _, 0, .int k, rfl, rfl, .of (sm2 _ _ ha), atI_nat (j := 0) rfl, fa, p, c, k, rfl, (hp.same sm).same sm2, hf, hf1, hk, hl, fun H2 b s2 hb => q _ _ ((sm.trans sm2).trans s2) hb⟩
end
end DK
namespace DK
open PySem PySem.Spec PyProof.Rows L2
section
variable {P : Program} {w : World} {K : PySem.W.Frag} {mg : Str → Option Value} {base : Heap}
/-! ### numbers_in -/
def spNums : Sp := fun vs H Q _ => ∃ (f : Int) (n : Nat) (p : Addr) (u : List Int), vs = [.int f, .int n, .ref p] ∧ TupAt H p u ∧ small f ∧ n ≤ 1000 ∧ (∀ x ∈ u, 0 ≤ x ∧ x < n) ∧ QL H (DP.numsM f n u) Q
theorem ok_numbers_in (D : Dn K mg "numbers_in" s_numbers_in ["factor", "players", "word"]) : C8.Cal P w K mg base 1 "numbers_in" spNums [] := by
  refine cal1 D sc_numbers_in (fun vs H Q E h => ?_) (fun cdv A outer s f H vs Q E hr h => ?_)
  · obtain ⟨f, n, p, u, rfl, _⟩ := h
    rfl
  · obtain ⟨fa, n, p, u, rfl, hp, hf, hn, hu, q⟩ := h
    have nd := sc_numbers_in.nd
    refine ⟨_, (pss_cons (ps_set (i := 3) nd rfl (.inl rfl) (pe_op op_rep (pe_lst (pa_cons pe_int pa_nil)) (pv 1)))
      (pss_cons (ps_for PassesOwn.never rfl (pi_tup (pv 2)) (pg_name (i := 4) nd rfl (Or.inl rfl)) (pss_cons (ps_setLc (i := 3) (own := [("one", 5)]) (g := gName 5) (tt := tYes) rfl nd rfl rfl (sw_true rfl rfl rfl (by decide +kernel)) (pi_list (pv 3)) (blkOk_by (N := ["factor", "players", "word", "found", "payer", "one"]) (sc := (C8.fnScope s_numbers_in)) (by decide +kernel)) (fun _ _ _ _ _ => (pg_name (i := 5) nd rfl (Or.inl rfl))) (fun _ _ _ _ _ => pts_nil) (fun _ _ _ _ _ => (pe_op op_mul (pv 0) (pv 5))))
      (pss_one (ps_augS (pv 3) (pv 4) get_list (pe_op op_sub (pv 0) pe_int) ip_add set_list))))
      (pss_one (ps_ret (pv 3))))), ?_⟩
    refine ⟨by decide, fun l0 n0 => ⟨.int n, rfl, l0, n, _, rfl, rfl, upd_same, by omega, by omega, (by show 1 * n ≤ sizeLine; have := small1000 hn; omega), fun l nl => ?_⟩⟩
    have sm0 : Same H (upd (upd H l0 (.lst [V.int 0])) l (.lst (List.replicate n (V.int 0)))) := by
      exact (same_new n0).trans (same_new nl)
    have nlH : H l = none := by
      cases e : H l with
      | none => rfl
      | some o =>
        have := same_new (o := .lst [V.int 0]) n0 l o e
        rw [this] at nl
        cases nl
    have e0 : (List.replicate (n : Int).toNat [V.int 0]).flatten = List.replicate n (V.int 0) := by
      rw [List.flatten_replicate_singleton]
      rfl
    refine ⟨.ref p, rfl, p, rfl, ⟨_, (hp.same (same_new n0) |>.same (same_new nl)).q⟩, for_tup (xs := u.map V.int) (fun i σ H' => ∃ l y5 y6, σ = [some (.int fa), some (.int n), some (.ref p), some (.ref l), y5, y6] ∧ Same H H' ∧ H l = none ∧ H' l = some (.lst (((u.take i).foldl (DP.numStep fa) (List.replicate n 0)).map V.int))) ⟨l, _, _, rfl, ?_, nlH, ?_⟩ ?_ ?_ ?_⟩
    · rw [e0]
      exact sm0
    · rw [upd_same, e0]
      simp
    · rintro i σ H' hi ⟨l, y5, y6, rfl, sm, nl, hl⟩
      exact (hp.same sm).q
    · rintro i x σ H' hx ⟨l, y5, y6, rfl, sm, nl, hl⟩
      obtain ⟨rfl, hc⟩ := ints_at hx
      have hb := hu _ (List.mem_of_getElem? hc)
      obtain ⟨acc, ea⟩ : ∃ acc, acc = (u.take i).foldl (DP.numStep fa) (List.replicate n 0) := ⟨_, rfl⟩
      have la : acc.length = n := by rw [ea, numFold_len, List.length_replicate]
      rw [← ea] at hl
      refine ⟨.ref l, rfl, l, rfl, ⟨_, .of hl⟩, fun Da nD => ?_⟩
      refine lc_ints (walk_list (xs := acc.map V.int)) (fun i => fa * acc.getD i 0) nD (by simpa [la] using Nat.le_of_lt (small1000 hn)) (fun H' sm => .of (sm _ _ hl)) ?_ gn ?_
      · rintro j x H1 _ Q' hj sm1 ⟨rfl, hx⟩ hq
        obtain ⟨rfl, _⟩ := ints_at hx
        exact ⟨rfl, _, rfl, _, rfl, _, _, rfl, rfl, .inl hf, hq _ Same.refl'⟩
      · intro H1 sm1 h1
        have e : ((List.range (acc.map V.int).length).map fun i => fa * acc.getD i 0) = acc.map fun x => fa * x := by
          rw [List.length_map]
          exact range_map_at 0 (fun x => fa * x) acc
        rw [e] at h1
        obtain ⟨k, ek⟩ : ∃ k : Nat, u.getD i 0 = k := ⟨(u.getD i 0).toNat, by omega⟩
        have hk : k < acc.length := by omega
        have gk : ((acc.map fun x => fa * x).map V.int)[k]? = some (.int (fa * acc.getD k 0)) := by
          rw [List.map_map, List.getElem?_map, List.getD_eq_getElem?_getD, List.getElem?_eq_getElem hk]
          rfl
        rw [ek]
        refine ⟨.ref Da, rfl, .int k, rfl, Da, _, k, _, rfl, rfl, .of h1, gk, .int fa, rfl, fa, 1, rfl, rfl, _, _, rfl, rfl, Da, _, k, k, rfl, rfl, h1, ixN_at (by simpa using hk), ?_⟩
        have nDH : H Da = none := by
          cases e : H Da with
          | none => rfl
          | some o =>
            rw [sm _ _ e] at nD
            cases nD
        refine ⟨Da, _, _, rfl, SameX.upd.same nDH (sm.trans sm1), nDH, ?_⟩
        rw [fold_take (DP.numStep fa) _ u hc, ← ea, ek, set_ints]
        exact upd_same
    · rintro σ H' ⟨l, y5, y6, rfl, sm, nl, hl⟩
      rw [List.length_map, List.take_length] at hl
      exact ⟨_, rfl, q _ _ sm nl hl⟩
theorem none_of {H H' : Hp} {a : Addr} (s : Same H H') (h : H' a = none) : H a = none := by
  cases e : H a with
  | none => rfl
  | some o =>
    rw [s _ _ e] at h
    cases h
/-! ### forever_in -/
def spFor : Sp := fun vs H Q _ => ∃ (f : Int) (p : Addr) (c : List Int) (b : Bool), vs = [.int f, .ref p] ∧ TupAt H p c ∧ small f ∧ small (f - 1) ∧ c.length ≤ 1000 ∧ 0 < DP.gcdL c ∧ DP.gcdL c < 1000000 ∧ DP.foreverM f c = some b ∧ ∀ H', Same H H' → Q (.bl b) H'
/-- here: coins or None -/
def HereAt (H : Hp) (r : Option (List Int)) (v : V) : Prop := match r with
  | none => v = .non
  | some c => c.length ≤ 1000 ∧ ∃ q, v = .ref q ∧ TupAt H q c
theorem HereAt.of {H H' : Hp} {r : Option (List Int)} {v : V} (s : SameT H H') (h : HereAt H r v) : HereAt H' r v := by
  cases r with
  | none => exact h
  | some c => exact ⟨h.1, h.2.imp fun q h => ⟨h.1, s _ _ h.2⟩⟩
theorem foreverL_seen {f : Int} {n : Nat} {r : Option (List Int)} {seen : List (List Int)} {b : Bool} (h : DP.foreverL f n r seen = some b) : ∃ m, n = m + 1 := by
  cases n with
  | zero => cases h
  | succ m => exact ⟨m, rfl⟩
theorem ok_forever_in (D : Dn K mg "forever_in" s_forever_in ["factor", "coins"]) (c_shared : C8.Cal P w K mg base 2 "shared" spShared []) (c_step : C8.Cal P w K mg base 2 "step" spStep []) (m_len : mg "len" = none) : C8.Cal P w K mg base 3 "forever_in" spFor [] := by
  refine cal1 D sc_forever_in (fun vs H Q E h => ?_) (fun cdv A outer s f H vs Q E hr h => ?_)
  · obtain ⟨f, p, c, b, rfl, _⟩ := h
    rfl
  · obtain ⟨fa, p, c, b, rfl, hp, hf, hf1, hl, hg, hg1, hb, q⟩ := h
    have nd := sc_forever_in.nd
    refine ⟨_, (pss_cons (ps_set (i := 2) nd rfl (.inl rfl) (C8.pe_c c_shared hr (by first | decide | omega) (by rfl) (pa_cons (pv 1) pa_nil)))
      (pss_cons (ps_if (PW.pt (pw_and (pt_cmpR op_eq (pv 0) pe_int (nomark _)) (pw_and1 (pt_cmpR op_lt (pe_callB (id := "len") (r := rLenS K) cr_lenS (by rfl) m_len PySem.boot_len (pa_cons (pe_lc (own := [("one", 4)]) (g := gName 4) rfl nd (pi_tup (pv 2)) (blkOk_by (N := ["factor", "coins", "here", "seen", "one"]) (sc := (C8.fnScope s_forever_in)) (by decide +kernel)) (fun _ _ _ _ _ => (pg_name (i := 4) nd rfl (Or.inl rfl))) (fun _ _ _ _ _ => pts_one (pt_cmpR op_gt (pv 4) pe_int (nomark _))) (fun _ _ _ _ _ => (pv 4))) pa_nil)) pe_int (nomark _))))) (pss_one (ps_ret pe_bl)) pss_nil)
      (pss_cons (ps_set (i := 3) nd rfl (.inl rfl) pe_dnewT)
      (pss_cons (ps_while PassesOwn.never (PW.pt (pw_and (pt_cmpR op_notN (pv 2) pe_non (nomark _)) (pw_and1 (pt_cmp (pc_dnotin (hu_of hr) (pv 2) (pv 3)))))) (pss_cons (ps_dput (hu_of hr) (pv 3) (pv 2) pe_bl rfl)
      (pss_one (ps_set (i := 2) nd rfl (.inl rfl) (C8.pe_c c_step hr (by first | decide | omega) (by rfl) (pa_cons (pv 0) (pa_cons (pv 2) pa_nil)))))))
      (pss_one (ps_ret (pe_cmpR op_notN (pv 2) pe_non (nomark _)))))))), ?_⟩
    refine ⟨.ref p, rfl, p, c, rfl, hp, hl, hg, hg1, fun H1 t sm ht => ?_⟩
    have lt : (DP.sharedM c).length ≤ 1000 := by rw [sharedM_len]; exact hl
    refine' joinG (cond := fun H2 => Same H1 H2 ∧ DP.foreverL fa 40 (some (DP.sharedM c)) [] = some b) (fun loop => ?main) ?loop
    case main =>
      refine ⟨.int fa, rfl, rfl, _, rfl, ?_⟩
      by_cases e2 : fa = 2
      · rw [decide_eq_true (congrArg V.int e2)]
        refine iteT ⟨.ref t, rfl, t, rfl, ⟨_, ht.q⟩, fun Da nD => ?_⟩
        refine lc_intsC (walk_tup (xs := (DP.sharedM c).map V.int)) (fun i => decide (0 < (DP.sharedM c).getD i 0)) (fun i => (DP.sharedM c).getD i 0) nD (by simpa using Nat.le_of_lt (small1000 lt)) (fun H' sm => (ht.same sm).q) ?_ ?_
        · rintro i x H' _ Q' N hi sm1 ⟨rfl, hx⟩ q1 q2
          obtain ⟨rfl, _⟩ := ints_at hx
          refine ⟨rfl, _, rfl, _, _, rfl, rfl, _, rfl, ite2 (fun e => ?_) (fun e => ?_)⟩
          · exact ⟨_, rfl, q1 e _ Same.refl'⟩
          · exact q2 (eq_false_of_ne_true e) _ Same.refl'
        · intro H2 sm2 h2
          have el : ((((List.range ((DP.sharedM c).map V.int).length).filter fun i => decide (0 < (DP.sharedM c).getD i 0)).map fun i => (DP.sharedM c).getD i 0)) = (DP.sharedM c).filter fun x => decide (0 < x) := by
            rw [List.length_map]
            have := range_filter_at 0 (fun x => decide (0 < x)) (fun x => x) (DP.sharedM c)
            rw [this, List.map_id']
          rw [el] at h2
          refine ⟨Da, _, rfl, .inl (.of h2), _, _, rfl, rfl, _, rfl, ite2 (fun e => ?_) (fun e => ?_)⟩
          · have e3 : ((DP.sharedM c).filter fun x => decide (0 < x)).length < 3 := by
              have := of_decide_eq_true e
              rw [List.length_map] at this
              omega
            unfold DP.foreverM at hb
            rw [if_pos ⟨e2, e3⟩] at hb
            cases hb
            exact q _ (sm.trans sm2)
          · have e3 : ¬ ((DP.sharedM c).filter fun x => decide (0 < x)).length < 3 := fun z => e (decide_eq_true (by rw [List.length_map]; omega))
            unfold DP.foreverM at hb
            rw [if_neg (fun z => e3 z.2)] at hb
            exact loop H2 ⟨sm2, hb⟩
      · rw [decide_eq_false (fun z => e2 (V.int.inj z))]
        unfold DP.foreverM at hb
        rw [if_neg (fun z => e2 z.1)] at hb
        exact iteF (iteF' rfl (loop H1 ⟨Same.refl', hb⟩))
    case loop =>
      intro H2 ⟨sm2, hb⟩ d nd0
      refine ⟨fun m σ H' => ∃ r v y5 seen, σ = [some (.int fa), some (.ref p), some v, some (.ref d), y5] ∧ Same H H' ∧ HereAt H' r v ∧ H' d = some (.dT (kD (seenD seen))) ∧ seen.length + m ≤ 40 ∧ DP.foreverL fa m r seen = some b,
        ⟨40, some (DP.sharedM c), .ref t, _, [], rfl, (sm.trans sm2).trans (same_new nd0), ⟨lt, t, rfl, (ht.same sm2).same (same_new nd0)⟩, upd_same, by decide, hb⟩, fun m σ H' hW => ?_⟩
      obtain ⟨r, v, y5, seen, rfl, sm3, hv, hd, hm, hr⟩ := hW
      obtain ⟨m, rfl⟩ := foreverL_seen hr
      cases r with
      | none =>
        have hv : v = .non := hv
        subst hv
        have e : b = false := by cases hr; rfl
        subst e
        exact ⟨.non, rfl, rfl, _, rfl, iteF' rfl (iteF' rfl ⟨.non, rfl, rfl, q _ sm3⟩)⟩
      | some c' =>
        obtain ⟨lc, q', rfl, hq⟩ := hv
        refine ⟨.ref q', rfl, rfl, _, rfl, iteT' rfl ⟨.ref q', rfl, .ref d, rfl, d, _, rfl, DGet.t hd hq, _, rfl, ?_⟩⟩
        rw [seenD_val]
        have hr : (if seen.contains c' = true then some true else DP.foreverL fa m (DP.stepM fa c') (c' :: seen)) = some b := hr
        by_cases hs : seen.contains c' = true
        · rw [if_pos hs] at hr
          cases hr
          rw [if_pos hs]
          exact iteF' rfl ⟨.ref q', rfl, rfl, q _ sm3⟩
        · rw [if_neg hs] at hr
          rw [if_neg hs]
          refine iteT' rfl ⟨fun σ H' => ∃ r v y5 seen, σ = [some (.int fa), some (.ref p), some v, some (.ref d), y5] ∧ Same H H' ∧ HereAt H' r v ∧ H' d = some (.dT (kD (seenD seen))) ∧ seen.length + m ≤ 40 ∧ DP.foreverL fa m r seen = some b, fun σ' H'' h => ⟨m, by omega, h⟩, ?_⟩
          have sl : (seenD seen).lookup c' = none := by rw [seenD_val, if_neg hs]
          refine ⟨.ref d, rfl, .ref q', rfl, d, _, rfl, DPut.t hd hq (by rw [seenD_len]; exact small1000 (by omega)) sl (.bl true), ?_⟩
          have sm4 : Same H (upd H' d (.dT (kD (seenD seen ++ [(c', V.bl true)])))) := SameX.upd.same (none_of (sm.trans sm2) nd0) sm3
          have hq4 : TupAt (upd H' d (.dT (kD (seenD seen ++ [(c', V.bl true)])))) q' c' := by
            show upd H' d _ q' = _
            rw [upd_ne (ne_of hq hd (by intro z; cases z))]
            exact hq
          refine ⟨_, rfl, .ref q', rfl, fa, q', c', rfl, hq4, hf, hf1, lc, ?_⟩
          have hd4 : (upd H' d (.dT (kD (seenD seen ++ [(c', V.bl true)])))) d = some (.dT (kD (seenD (c' :: seen)))) := by
            rw [upd_same, seenD_cons]
          cases e : DP.stepM fa c' with
          | none =>
            rw [e] at hr
            intro H5 s5
            exact ⟨none, .non, y5, c' :: seen, rfl, sm4.trans s5, rfl, s5 _ _ hd4, by simp; omega, hr⟩
          | some c5 =>
            rw [e] at hr
            intro H5 q5 s5 h5
            exact ⟨some c5, .ref q5, y5, c' :: seen, rfl, sm4.trans s5, ⟨by rw [stepM_len e]; exact lc, q5, rfl, h5⟩, s5 _ _ hd4, by simp; omega, hr⟩
end
end DK
namespace DK
open PySem PySem.Spec PyProof.Rows L2
section
variable {P : Program} {w : World} {K : PySem.W.Frag} {mg : Str → Option Value} {base : Heap}
/-- a factor -/
def fac (f : Int) : Prop := 2 ≤ f ∧ f ≤ 9
theorem fac.s {f : Int} (h : fac f) : small f := by obtain ⟨a, b⟩ := h; constructor <;> omega
theorem fac.s1 {f : Int} (h : fac f) : small (f - 1) := by obtain ⟨a, b⟩ := h; constructor <;> omega
theorem gcd_fac {f : Int} (h : fac f) (r : Int) : DP.gcdI r f < 1073741824 := by
  obtain ⟨a, b⟩ := h
  have := Nat.le_of_dvd (by omega : 0 < f.natAbs) (Nat.gcd_dvd_right r.natAbs f.natAbs)
  unfold DP.gcdI
  omega
/-! ### split -/
def spSplit : Sp := fun vs H Q _ => ∃ f t a r : Int, vs = [.int f, .int t] ∧ fac f ∧ DP.splitL f 10 t 0 = some (a, r) ∧ QT H [a, r] Q
theorem ok_split (D : Dn K mg "split" s_split ["factor", "total"]) (c_gcd : C8.Cal P w K mg base 1 "gcd" spGcd []) : C8.Cal P w K mg base 2 "split" spSplit [] := by
  refine cal1 D sc_split (fun vs H Q E h => ?_) (fun cdv A outer s f H vs Q E hr h => ?_)
  · obtain ⟨f, t, a, r, rfl, _⟩ := h
    rfl
  · obtain ⟨fa, t, a, r, rfl, hf, hs, q⟩ := h
    have nd := sc_split.nd
    refine ⟨_, (pss_cons (ps_par (i := 2) (j := 3) (by rfl) nd rfl rfl (by decide) rfl rfl (pa_cons (pv 1) (pa_cons pe_int pa_nil)) (by rfl))
      (pss_cons (ps_while PassesOwn.never (pt_cmpR op_gt (C8.pe_c c_gcd hr (by first | decide | omega) (by rfl) (pa_cons (pv 2) (pa_cons (pv 0) pa_nil))) pe_int (nomark _)) (pss_cons (ps_aug (i := 2) nd rfl (.inl rfl) (C8.pe_c c_gcd hr (by first | decide | omega) (by rfl) (pa_cons (pv 2) (pa_cons (pv 0) pa_nil))) iop_fdiv)
      (pss_one (ps_aug (i := 3) nd rfl (.inl rfl) pe_int ip_add))))
      (pss_one (ps_ret (pe_tup (pa_cons (pv 3) (pa_cons (pv 2) pa_nil))))))), ?_⟩
    refine ⟨.int t, rfl, _, _, rfl, ?_⟩
    refine ⟨fun m σ H' => H' = H ∧ ∃ x y : Int, σ = [some (.int fa), some (.int t), some (.int x), some (.int y)] ∧ DP.splitL fa m x y = some (a, r), ⟨10, rfl, t, 0, rfl, hs⟩, fun m σ H' hW => ?_⟩
    obtain ⟨rfl, x, y, rfl, hx⟩ := hW
    cases m with
    | zero => cases hx
    | succ m =>
      have hx : (if 1 < DP.gcdI x fa then DP.splitL fa m (x / DP.gcdI x fa) (y + 1) else some (y, x)) = some (a, r) := hx
      refine ⟨.int x, rfl, .int fa, rfl, x, fa, rfl, _, _, rfl, rfl, _, rfl, ?_⟩
      by_cases hg : 1 < DP.gcdI x fa
      · rw [if_pos hg] at hx
        refine iteT' (decide_eq_true hg) ⟨fun σ H'' => H'' = H' ∧ ∃ x y : Int, σ = [some (.int fa), some (.int t), some (.int x), some (.int y)] ∧ DP.splitL fa m x y = some (a, r), fun σ' H'' h => ⟨m, Nat.lt_succ_self m, h⟩, ?_⟩
        refine ⟨.int x, rfl, .int x, rfl, .int fa, rfl, x, fa, rfl, x, DP.gcdI x fa, rfl, rfl, ⟨by show (0 : Int) < _; omega, gcd_fac hf x⟩, ?_⟩
        exact ⟨.int y, rfl, y, 1, rfl, rfl, rfl, _, _, rfl, hx⟩
      · rw [if_neg hg] at hx
        cases hx
        refine iteF' (decide_eq_false hg) ⟨.int a, rfl, .int r, rfl, (by show 2 ≤ sizeLine; decide), fun p np => q _ _ (same_new np) upd_same⟩
/-! ### order_of -/
def spOrder : Sp := fun vs H Q _ => ∃ f r o : Int, vs = [.int f, .int r] ∧ fac f ∧ 0 < r ∧ DP.orderM f r = some o ∧ Q (.int o) H
theorem ok_order_of (D : Dn K mg "order_of" s_order_of ["factor", "rest"]) : C8.Cal P w K mg base 1 "order_of" spOrder [] := by
  refine cal1 D sc_order_of (fun vs H Q E h => ?_) (fun cdv A outer s f H vs Q E hr h => ?_)
  · obtain ⟨f, r, o, rfl, _⟩ := h
    rfl
  · obtain ⟨fa, r, o, rfl, hf, hr0, ho, q⟩ := h
    have nd := sc_order_of.nd
    refine ⟨_, (pss_cons (ps_if (pt_cmpR op_eq (pv 1) pe_int (nomark _)) (pss_one (ps_ret pe_int)) pss_nil)
      (pss_cons (ps_par (i := 2) (j := 3) (by rfl) nd rfl rfl (by decide) rfl rfl (pa_cons pe_int (pa_cons (pe_op op_mod (pv 0) (pv 1)) pa_nil)) (by rfl))
      (pss_cons (ps_while PassesOwn.never (pt_cmpR op_ne (pv 3) pe_int (nomark _)) (pss_one (ps_par (i := 2) (j := 3) (by rfl) nd rfl rfl (by decide) rfl rfl (pa_cons (pe_op op_add (pv 2) pe_int) (pa_cons (pe_op op_mod (pe_op op_mul (pv 3) (pv 0)) (pv 1)) pa_nil)) (by rfl))))
      (pss_one (ps_ret (pv 2)))))), ?_⟩
    refine ⟨.int r, rfl, rfl, _, rfl, ite2 (fun e => ?_) (fun e => ?_)⟩
    · have e1 : r = 1 := V.int.inj (of_decide_eq_true e)
      unfold DP.orderM at ho
      rw [if_pos e1] at ho
      cases ho
      exact q
    · have e1 : ¬ r = 1 := fun z => e (decide_eq_true (congrArg V.int z))
      unfold DP.orderM at ho
      rw [if_neg e1] at ho
      refine ⟨.int fa, rfl, .int r, rfl, fa, r, rfl, rfl, hr0, _, _, rfl, ?_⟩
      refine ⟨fun m σ H' => H' = H ∧ ∃ x y : Int, σ = [some (.int fa), some (.int r), some (.int x), some (.int y)] ∧ DP.orderL fa r m x y = some o, ⟨20, rfl, 1, _, rfl, ho⟩, fun m σ H' hW => ?_⟩
      obtain ⟨rfl, x, y, rfl, hx⟩ := hW
      cases m with
      | zero => cases hx
      | succ m =>
        have hx : (if y = 1 then some x else DP.orderL fa r m (x + 1) (y * fa % r)) = some o := hx
        refine ⟨.int y, rfl, rfl, _, rfl, ?_⟩
        by_cases hy : y = 1
        · rw [if_pos hy] at hx
          cases hx
          subst hy
          exact iteF' rfl ⟨_, rfl, q⟩
        · rw [if_neg hy] at hx
          refine iteT' (by rw [decide_eq_false (fun z => hy (V.int.inj z))]; rfl) ⟨fun σ H'' => H'' = H' ∧ ∃ x y : Int, σ = [some (.int fa), some (.int r), some (.int x), some (.int y)] ∧ DP.orderL fa r m x y = some o, fun σ' H'' h => ⟨m, Nat.lt_succ_self m, h⟩, ?_⟩
          exact ⟨.int x, rfl, x, 1, rfl, rfl, .int y, rfl, .int fa, rfl, y, fa, rfl, rfl, .inr hf.s, .int r, rfl, y * fa, r, rfl, rfl, hr0, _, _, rfl, rfl, _, _, rfl, hx⟩
/-! ### period_in -/
def spPeriod : Sp := fun vs H Q _ => ∃ (f : Int) (p : Addr) (c : List Int) (a r o : Int), vs = [.int f, .ref p] ∧ TupAt H p c ∧ fac f ∧ c.length ≤ 1000 ∧ 0 < DP.gcdL c ∧ DP.gcdL c < 1000000 ∧
  DP.splitL f 10 (DP.sharedM c).sum 0 = some (a, r) ∧ 0 < r ∧ DP.orderM f r = some o ∧ QT H [a, o] Q
theorem ok_period_in (D : Dn K mg "period_in" s_period_in ["factor", "coins"]) (c_split : C8.Cal P w K mg base 2 "split" spSplit []) (c_shared : C8.Cal P w K mg base 2 "shared" spShared []) (c_order_of : C8.Cal P w K mg base 1 "order_of" spOrder []) (m_sum : mg "sum" = none) : C8.Cal P w K mg base 3 "period_in" spPeriod [] := by
  refine cal1 D sc_period_in (fun vs H Q E h => ?_) (fun cdv A outer s f H vs Q E hr h => ?_)
  · obtain ⟨f, p, c, a, r, o, rfl, _⟩ := h
    rfl
  · obtain ⟨fa, p, c, a, r, o, rfl, hp, hf, hl, hg, hg1, hs, hr0, ho, q⟩ := h
    have nd := sc_period_in.nd
    refine ⟨_, (pss_cons (ps_asg (C8.pe_c c_split hr (by first | decide | omega) (by rfl) (pa_cons (pv 0) (pa_cons (pe_callB (id := "sum") (r := rSumT K) (cr_sumT rfl) (by rfl) m_sum (by decide +kernel) (pa_cons (C8.pe_c c_shared hr (by first | decide | omega) (by rfl) (pa_cons (pv 1) pa_nil)) pa_nil)) pa_nil))) (pg_tup rfl (pgs_cons (pg_name (i := 2) nd rfl (Or.inl rfl)) (pgs_cons (pg_name (i := 3) nd rfl (Or.inl rfl)) pgs_nil))))
      (pss_one (ps_ret (pe_tup (pa_cons (pv 2) (pa_cons (C8.pe_c c_order_of hr (by first | decide | omega) (by rfl) (pa_cons (pv 0) (pa_cons (pv 3) pa_nil))) pa_nil)))))), ?_⟩
    refine ⟨.int fa, rfl, .ref p, rfl, p, c, rfl, hp, hl, hg, hg1, fun H1 t sm ht => ?_⟩
    refine ⟨t, _, rfl, ht.q, fa, _, a, r, rfl, hf, hs, fun H2 t2 sm2 ht2 => ?_⟩
    refine ⟨t2, [.int a, .int r], rfl, ht2.q, rfl, .int a, _, rfl, .int r, _, rfl, rfl, ?_⟩
    exact ⟨_, rfl, _, rfl, _, rfl, fa, r, o, rfl, hf, hr0, ho, (by show 2 ≤ sizeLine; decide), fun p np => q _ _ ((sm.trans sm2).trans (same_new np)) upd_same⟩
/-! ### payers_along -/
def spAlong : Sp := fun vs H Q _ => ∃ (f : Int) (p : Addr) (c : List Int) (n : Nat) (r : List Int), vs = [.int f, .ref p, .int n] ∧ TupAt H p c ∧ fac f ∧ c.length ≤ 1000 ∧ n ≤ 1000 ∧ DP.alongL f n c = some r ∧ QL H r Q
theorem alongL_len {f : Int} : ∀ {n : Nat} {c r : List Int}, DP.alongL f n c = some r → r.length = n
  | 0, _, _, h => by cases h; rfl
  | n + 1, c, r, h => by
    unfold DP.alongL at h
    cases e : DP.payersM f c with
    | nil => rw [e] at h; cases h
    | cons k t =>
      rw [e] at h
      obtain ⟨r', h1, rfl⟩ := Option.map_eq_some_iff.mp h
      rw [List.length_cons, alongL_len h1]
theorem ok_payers_along (D : Dn K mg "payers_along" s_payers_along ["factor", "coins", "many"]) (c_payers_in : C8.Cal P w K mg base 1 "payers_in" spPayers []) (c_step : C8.Cal P w K mg base 2 "step" spStep []) (m_range : mg "range" = none) : C8.Cal P w K mg base 3 "payers_along" spAlong [] := by
  refine cal1 D sc_payers_along (fun vs H Q E h => ?_) (fun cdv A outer s f H vs Q E hr h => ?_)
  · obtain ⟨f, p, c, n, r, rfl, _⟩ := h
    rfl
  · obtain ⟨fa, p, c, n, r, rfl, hp, hf, hl, hn, ho, q⟩ := h
    have nd := sc_payers_along.nd
    refine ⟨_, (pss_cons (ps_par (i := 3) (j := 4) (by rfl) nd rfl rfl (by decide) rfl rfl (pa_cons (pe_lst pa_nil) (pa_cons (pv 1) pa_nil)) (by rfl))
      (pss_cons (ps_for PassesOwn.never rfl (pi_range1 (by rfl) m_range (pa_cons (pv 2) pa_nil)) (pg_name (i := 5) nd rfl (Or.inl rfl)) (pss_cons (ps_expr (pe_bm PySem.F.plainAttrs_list PySem.F.slot_list_append PySem.F.type_list_append mt_append (pv 3) (pa_cons (pe_ix (r := rIxL K) ix_list (C8.pe_c c_payers_in hr (by first | decide | omega) (by rfl) (pa_cons (pv 0) (pa_cons (pv 4) pa_nil))) pe_int (fun _ _ => rfl)) pa_nil)))
      (pss_one (ps_set (i := 4) nd rfl (.inl rfl) (C8.pe_c c_step hr (by first | decide | omega) (by rfl) (pa_cons (pv 0) (pa_cons (pv 4) pa_nil)))))))
      (pss_one (ps_ret (pv 3))))), ?_⟩
    refine ⟨by decide, fun D nD => ⟨.ref p, rfl, _, _, rfl, ?_⟩⟩
    refine ⟨.int n, rfl, n, rfl, by omega, by omega, for_range (n := n) (fun i σ H' => ∃ (q' : Addr) (c' acc r' : List Int) (y5 : Option V), σ = [some (.int fa), some (.ref p), some (.int n), some (.ref D), some (.ref q'), y5] ∧ Same H H' ∧ TupAt H' q' c' ∧ c'.length ≤ 1000 ∧ acc.length = i ∧
      H' D = some (.lst (acc.map V.int)) ∧ DP.alongL fa (n - i) c' = some r' ∧ acc ++ r' = r) ⟨p, c, [], r, _, rfl, same_new nD, hp.same (same_new nD), hl, rfl, upd_same, ho, rfl⟩ ?_ ?_⟩
    · rintro i σ H' hi ⟨q', c', acc, r', y5, rfl, sm, hq, lc, la, hD, hal, hr'⟩
      obtain ⟨m, em⟩ : ∃ m, n - i = m + 1 := ⟨n - i - 1, by omega⟩
      rw [em] at hal
      have hal : (match DP.payersM fa c' with | [] => none | k :: _ => (DP.alongL fa m (DP.owedM fa c' k)).map fun r => (k : Int) :: r) = some r' := hal
      cases ep : DP.payersM fa c' with
      | nil => rw [ep] at hal; cases hal
      | cons k t =>
        rw [ep] at hal
        obtain ⟨r2, h2, rfl⟩ := Option.map_eq_some_iff.mp hal
        have es : DP.stepM fa c' = some (DP.owedM fa c' k) := by simp only [DP.stepM, ep]
        refine ⟨.ref D, rfl, .inl ⟨rfl, _, .of hD⟩, .int fa, rfl, .ref q', rfl, fa, q', c', rfl, hq, hf.s, hf.s1, lc, fun H1 a s1 na ha => ?_⟩
        rw [ep] at ha
        have hD1 := s1 _ _ hD
        refine ⟨a, _, 0, .int k, rfl, rfl, .of ha, atI_nat (j := 0) rfl, D, _, _, rfl, rfl, hD1, by rw [List.length_map]; exact small1000 (by omega), ?_⟩
        have s2 : Same H (upd H1 D (.lst (acc.map V.int ++ [.int k]))) := SameX.upd.same nD (sm.trans s1)
        have hq2 : TupAt (upd H1 D (.lst (acc.map V.int ++ [.int k]))) q' c' := by
          show upd H1 D _ q' = _
          rw [upd_ne (ne_of (hq.same s1) hD1 (by intro z; cases z))]
          exact hq.same s1
        refine ⟨_, rfl, .ref q', rfl, fa, q', c', rfl, hq2, hf.s, hf.s1, lc, ?_⟩
        rw [es]
        intro H3 q3 s3 h3
        refine ⟨q3, _, acc ++ [(k : Int)], r2, _, rfl, s2.trans s3, h3, by rw [owedM_len]; exact lc, by simp; omega, ?_, ?_, by simpa using hr'⟩
        · rw [s3 _ _ upd_same, List.map_append]
          rfl
        · rw [show n - (i + 1) = m by omega]
          exact h2
    · rintro σ H' ⟨q', c', acc, r', y5, rfl, sm, hq, lc, la, hD, hal, hr'⟩
      rw [Nat.sub_self] at hal
      cases hal
      rw [List.append_nil] at hr'
      subst hr'
      exact ⟨_, rfl, q _ _ sm nD hD⟩
end
end DK
namespace DK
open PySem PySem.Spec PyProof.Rows L2
section
variable {P : Program} {w : World} {K : PySem.W.Frag} {mg : Str → Option Value} {base : Heap}
/-- a table (f, coins) at t -/
def TabAt (H : Hp) (t : Addr) (f : Int) (c : List Int) : Prop := ∃ p, H t = some (.tup [.int f, .ref p]) ∧ TupAt H p c
theorem TabAt.same {H H' : Hp} {t : Addr} {f : Int} {c : List Int} (e : Same H H') (h : TabAt H t f c) : TabAt H' t f c := by
  obtain ⟨p, a, b⟩ := h
  exact ⟨p, e _ _ a, b.same e⟩
/-- coins as the program wants them -/
structure Coins (f : Int) (c : List Int) : Prop where
  f : fac f
  l1 : 1 ≤ c.length
  l2 : c.length ≤ 6
  in0 : ∀ x ∈ c, 0 ≤ x ∧ x ≤ 1000000
  s : 0 < c.sum
  g : 0 < DP.gcdL c
  g1 : DP.gcdL c < 1000000
theorem Coins.l {f : Int} {c : List Int} (h : Coins f c) : c.length ≤ 1000 := Nat.le_trans h.l2 (by decide)
def spNeedTable : Sp := fun vs H Q _ => ∃ (t : Addr) (f : Int) (c : List Int), vs = [.ref t] ∧ TabAt H t f c ∧ Coins f c ∧ ∀ H', Same H H' → Q .non H'
theorem ok_need_table (D : Dn K mg "need_table" s_need_table ["table"]) (c_is_in : C8.Cal P w K mg base 1 "is_in" spIsIn []) (c_is_factor : C8.Cal P w K mg base 2 "is_factor" (spIs1 2 9 (.bl true)) [])
    (m_isinstance : mg "isinstance" = none) (m_tuple : mg "tuple" = none) (m_len : mg "len" = none) (m_enumerate : mg "enumerate" = none) (m_sum : mg "sum" = none) {t1 t2 : Nat} (g_MOST_PLAYERS : mg "MOST_PLAYERS" = some (.int 6 t1)) (g_MOST_COINS : mg "MOST_COINS" = some (.int 1000000 t2)) :
    C8.Cal P w K mg base 3 "need_table" spNeedTable [] := by
  refine cal1 D sc_need_table (fun vs H Q E h => ?_) (fun cdv A outer s f H vs Q E hr h => ?_)
  · obtain ⟨t, f, c, rfl, _⟩ := h
    rfl
  · obtain ⟨t, fa, c, rfl, ⟨p, ht, hp⟩, hc, q⟩ := h
    have nd := sc_need_table.nd
    refine ⟨_, (pss_cons (ps_if (PW.pt (pw_or (pt_not (pt_val (pe_callB (id := "isinstance") (r := rIsi K) call_isi (by rfl) m_isinstance (by decide +kernel) (pa_cons (pv 0) (pa_cons (pe_bltn (v := .ty "tuple") (by rfl) m_tuple (by decide +kernel) rfl) pa_nil))))) (pw_or (pt_cmpR op_ne (pe_callB (id := "len") (r := rLenS K) cr_lenS (by rfl) m_len PySem.boot_len (pa_cons (pv 0) pa_nil)) pe_int (nomark _)) (pw_or1 (pt_not (pt_val (C8.pe_c c_is_factor hr (by first | decide | omega) (by rfl) (pa_cons (pe_ix (r := rIxT K) ix_tup (pv 0) pe_int (fun _ _ => rfl)) pa_nil)))))))) pss_never pss_nil)
      (pss_cons (ps_if (PW.pt (pw_or (pt_not (pt_val (pe_callB (id := "isinstance") (r := rIsi K) call_isi (by rfl) m_isinstance (by decide +kernel) (pa_cons (pe_ix (r := rIxT K) ix_tup (pv 0) pe_int (fun _ _ => rfl)) (pa_cons (pe_bltn (v := .ty "tuple") (by rfl) m_tuple (by decide +kernel) rfl) pa_nil))))) (pw_or1 (pt_not (pt_chain op_le op_le pe_int (pe_callB (id := "len") (r := rLenS K) cr_lenS (by rfl) m_len PySem.boot_len (pa_cons (pe_ix (r := rIxT K) ix_tup (pv 0) pe_int (fun _ _ => rfl)) pa_nil)) (pe_glob (v := .int 6) rfl g_MOST_PLAYERS ⟨_, rfl⟩)))))) pss_never pss_nil)
      (pss_cons (ps_for PassesOwn.never rfl (pi_enumT (by rfl) m_enumerate (pa_cons (pe_ix (r := rIxT K) ix_tup (pv 0) pe_int (fun _ _ => rfl)) pa_nil)) (pg_tup rfl (pgs_cons (pg_name (i := 1) nd rfl (Or.inl rfl)) (pgs_cons (pg_name (i := 2) nd rfl (Or.inl rfl)) pgs_nil))) (pss_one (ps_if (pt_not (pt_val (C8.pe_c c_is_in hr (by first | decide | omega) (by rfl) (pa_cons (pv 2) (pa_cons pe_int (pa_cons (pe_glob (v := .int 1000000) rfl g_MOST_COINS ⟨_, rfl⟩) pa_nil)))))) pss_never pss_nil)))
      (pss_one (ps_if (pt_cmpR op_eq (pe_callB (id := "sum") (r := rSumT K) (cr_sumT rfl) (by rfl) m_sum (by decide +kernel) (pa_cons (pe_ix (r := rIxT K) ix_tup (pv 0) pe_int (fun _ _ => rfl)) pa_nil)) pe_int (nomark _)) pss_never pss_nil))))), ?_⟩
    have ix0 : ∀ {v : V}, v = .int fa → atI [V.int fa, V.ref p] ((0 : Nat) : Int) = some v := fun e => by rw [e]; exact atI_nat rfl
    have ix1 : atI [V.int fa, V.ref p] ((1 : Nat) : Int) = some (.ref p) := atI_nat rfl
    refine ⟨.ref t, rfl, .ref t, .ty "tuple", .type "tuple", .type "tuple", true, rfl, .ty _, .base (.tup ht), kit_ty (by decide +kernel), true, rfl, iteF' rfl ?_⟩
    refine ⟨.ref t, rfl, t, _, rfl, .inr (.of ht), rfl, _, rfl, iteF' rfl ?_⟩
    refine ⟨.ref t, rfl, t, _, 0, .int fa, rfl, rfl, .of ht, ix0 rfl, fa, rfl, hc.f.1, hc.f.2, true, rfl, iteF' rfl ?_⟩
    refine ⟨.ref t, rfl, t, _, 1, .ref p, rfl, rfl, .of ht, ix1, .ref p, .ty "tuple", .type "tuple", .type "tuple", true, rfl, .ty _, .base (.tup hp), kit_ty (by decide +kernel), true, rfl, iteF' rfl ?_⟩
    refine ⟨.ref t, rfl, t, _, 1, .ref p, rfl, rfl, .of ht, ix1, p, _, rfl, .inr hp.q, 1, _, rfl, rfl, _, rfl, iteT' (decide_eq_true (by rw [List.length_map]; exact Int.ofNat_le.mpr hc.l1)) ?_⟩
    refine ⟨_, 6, rfl, rfl, _, rfl, ?_⟩
    rw [decide_eq_true (by rw [List.length_map]; exact Int.ofNat_le.mpr hc.l2)]
    refine iteF' rfl ?_
    refine ⟨.ref t, rfl, t, _, 1, .ref p, rfl, rfl, .of ht, ix1, p, _, rfl, hp.q, ?_⟩
    refine for_it (walk_enumT (xs := c.map V.int)) (fun i σ H' => Same H H' ∧ ∃ y1 y2, σ = [some (.ref t), y1, y2]) ⟨Same.refl', _, _, rfl⟩ (fun i σ H' _ h => (hp.same h.1).q) ?_ ?_
    · rintro i x σ H' H2 hi ⟨sm, y1, y2, rfl⟩ ⟨T, x, rfl, nT, rfl, hx⟩
      obtain ⟨rfl, hx'⟩ := ints_at hx
      have hb := hc.in0 _ (List.mem_of_getElem? hx')
      refine ⟨T, _, rfl, .of upd_same, rfl, .int (i : Nat), _, rfl, .int (c.getD i 0), _, rfl, rfl, ?_⟩
      exact ⟨.int (c.getD i 0), rfl, c.getD i 0, 0, 1000000, rfl, hb.1, hb.2, true, rfl, iteF' rfl ⟨sm.trans (same_new nT), _, _, rfl⟩⟩
    · rintro σ H' ⟨sm, y1, y2, rfl⟩
      refine ⟨.ref t, rfl, t, _, 1, .ref p, rfl, rfl, .of (sm _ _ ht), ix1, p, c, rfl, (hp.same sm).q, rfl, _, rfl, ?_⟩
      have : c.sum ≠ 0 := by have := hc.s; omega
      rw [decide_eq_false (fun z => this (V.int.inj z))]
      exact iteF' rfl (q _ sm)
/-! ### back_in -/
/-- what back_in needs of the coins, and its answer -/
structure Back (f : Int) (c : List Int) (o : Int) : Prop where
  co : Coins f c
  fo : DP.foreverM f c = some true
  sp : ∃ a r, DP.splitL f 10 (DP.sharedM c).sum 0 = some (a, r) ∧ 0 < r ∧ DP.orderM f r = some o ∧ (a ≤ 0 ∨ c.sum ≤ DP.maxI c)
  o : o ≤ 60
def spBack : Sp := fun vs H Q _ => ∃ (t : Addr) (f : Int) (c : List Int) (o : Int), vs = [.ref t] ∧ TabAt H t f c ∧ Back f c o ∧ ∀ H', Same H H' → Q (.int o) H'
theorem ok_back_in (D : Dn K mg "back_in" s_back_in ["table"]) (c_need_table : C8.Cal P w K mg base 3 "need_table" spNeedTable []) (c_forever_in : C8.Cal P w K mg base 3 "forever_in" spFor []) (c_period_in : C8.Cal P w K mg base 3 "period_in" spPeriod [])
    (m_max : mg "max" = none) (m_sum : mg "sum" = none) {t1 : Nat} (g_MOST_CYCLE : mg "MOST_CYCLE" = some (.int 60 t1)) :
    C8.Cal P w K mg base 4 "back_in" spBack [] := by
  refine cal1 D sc_back_in (fun vs H Q E h => ?_) (fun cdv A outer s f H vs Q E hr h => ?_)
  · obtain ⟨t, f, c, o, rfl, _⟩ := h
    rfl
  · obtain ⟨t, fa, c, o, rfl, hT, hb, q⟩ := h
    have nd := sc_back_in.nd
    obtain ⟨hc, hfo, ⟨a, r, hs, hr0, ho, hor⟩, h60⟩ := hb
    refine ⟨_, (pss_cons (ps_expr (C8.pe_c c_need_table hr (by first | decide | omega) (by rfl) (pa_cons (pv 0) pa_nil)))
      (pss_cons (ps_asg (pv 0) (pg_tup rfl (pgs_cons (pg_name (i := 1) nd rfl (Or.inl rfl)) (pgs_cons (pg_name (i := 2) nd rfl (Or.inl rfl)) pgs_nil))))
      (pss_cons (ps_if (pt_not (pt_val (C8.pe_c c_forever_in hr (by first | decide | omega) (by rfl) (pa_cons (pv 1) (pa_cons (pv 2) pa_nil))))) (pss_one (ps_ret pe_non)) pss_nil)
      (pss_cons (ps_asg (C8.pe_c c_period_in hr (by first | decide | omega) (by rfl) (pa_cons (pv 1) (pa_cons (pv 2) pa_nil))) (pg_tup rfl (pgs_cons (pg_name (i := 3) nd rfl (Or.inl rfl)) (pgs_cons (pg_name (i := 4) nd rfl (Or.inl rfl)) pgs_nil))))
      (pss_cons (ps_if (PW.pt (pw_and (pt_cmpR op_gt (pv 3) pe_int (nomark _)) (pw_and1 (pt_cmpR op_lt (pe_callB (id := "max") (r := rMaxT K) (cr_maxT rfl (hu2 hr)) (by rfl) m_max (by decide +kernel) (pa_cons (pv 2) pa_nil)) (pe_callB (id := "sum") (r := rSumT K) (cr_sumT rfl) (by rfl) m_sum (by decide +kernel) (pa_cons (pv 2) pa_nil)) (nomark _))))) (pss_one (ps_ret pe_non)) pss_nil)
      (pss_cons (ps_if (pt_cmpR op_gt (pv 4) (pe_glob (v := .int 60) rfl g_MOST_CYCLE ⟨_, rfl⟩) (nomark _)) pss_never pss_nil)
      (pss_one (ps_ret (pv 4))))))))), ?_⟩
    refine ⟨.ref t, rfl, t, fa, c, rfl, hT, hc, fun H1 sm => ?_⟩
    obtain ⟨p, ht, hp⟩ := hT.same sm
    refine ⟨.ref t, rfl, t, _, rfl, .of ht, rfl, .int fa, _, rfl, .ref p, _, rfl, rfl, ?_⟩
    refine ⟨.int fa, rfl, .ref p, rfl, fa, p, c, true, rfl, hp, hc.f.s, hc.f.s1, hc.l, hc.g, hc.g1, hfo, fun H2 sm2 => ⟨true, rfl, iteF' rfl ?_⟩⟩
    refine ⟨.int fa, rfl, .ref p, rfl, fa, p, c, a, r, o, rfl, hp.same sm2, hc.f, hc.l, hc.g, hc.g1, hs, hr0, ho, fun H3 t3 sm3 ht3 => ?_⟩
    refine ⟨t3, _, rfl, ht3.q, rfl, .int a, _, rfl, .int o, _, rfl, rfl, ?_⟩
    have hp3 := (hp.same sm2).same sm3
    have smA := (sm.trans sm2).trans sm3
    refine' joinG (cond := fun H4 => H4 = H3) (fun go => ?main) ?go
    case main =>
      refine ⟨.int a, rfl, a, 0, rfl, rfl, _, rfl, ?_⟩
      by_cases ha : 0 < a
      · rw [decide_eq_true ha]
        have hm : c.sum ≤ DP.maxI c := by omega
        obtain ⟨n, ns, rfl⟩ : ∃ n ns, c = n :: ns := by
          cases c with
          | nil => exact absurd hc.l1 (by decide)
          | cons n ns => exact ⟨n, ns, rfl⟩
        refine iteT ⟨.ref p, rfl, p, n, ns, rfl, hp3.q, .ref p, rfl, p, _, rfl, hp3.q, _, _, rfl, rfl, _, rfl, ?_⟩
        rw [maxI_eq]
        exact iteF' (decide_eq_false (by omega)) (go _ rfl)
      · rw [decide_eq_false ha]
        exact iteF (iteF' rfl (go _ rfl))
    case go =>
      rintro H4 rfl
      exact ⟨.int o, rfl, o, 60, rfl, rfl, _, rfl, iteF' (decide_eq_false (by omega)) ⟨_, rfl, q _ smA⟩⟩
/-! ### word_again -/
def spAgain : Sp := fun vs H Q _ => ∃ (t : Addr) (f : Int) (c : List Int) (o : Nat) (r : List Int), vs = [.ref t] ∧ TabAt H t f c ∧ Back f c o ∧ DP.alongL f o c = some r ∧ QT H r Q
theorem ok_word_again (D : Dn K mg "word_again" s_word_again ["table"]) (c_back_in : C8.Cal P w K mg base 4 "back_in" spBack []) (c_payers_along : C8.Cal P w K mg base 3 "payers_along" spAlong []) (m_tuple : mg "tuple" = none) :
    C8.Cal P w K mg base 5 "word_again" spAgain [] := by
  refine cal1 D sc_word_again (fun vs H Q E h => ?_) (fun cdv A outer s f H vs Q E hr h => ?_)
  · obtain ⟨t, f, c, o, r, rfl, _⟩ := h
    rfl
  · obtain ⟨t, fa, c, o, r, rfl, hT, hb, ha, q⟩ := h
    have nd := sc_word_again.nd
    refine ⟨_, (pss_cons (ps_set (i := 1) nd rfl (.inl rfl) (C8.pe_c c_back_in hr (by first | decide | omega) (by rfl) (pa_cons (pv 0) pa_nil)))
      (pss_one (ps_ret (pe_ifExp (pt_cmpR op_isN (pv 1) pe_non (nomark _)) pe_non (pe_callTy (T := "tuple") (r := rTupOf K) cr_tupOf (by rfl) m_tuple (by decide +kernel) (pa_cons (C8.pe_c c_payers_along hr (by first | decide | omega) (by rfl) (pa_cons (pe_ix (r := rIxT K) ix_tup (pv 0) pe_int (fun _ _ => rfl)) (pa_cons (pe_ix (r := rIxT K) ix_tup (pv 0) pe_int (fun _ _ => rfl)) (pa_cons (pv 1) pa_nil)))) pa_nil)))))), ?_⟩
    refine ⟨.ref t, rfl, t, fa, c, o, rfl, hT, hb, fun H1 sm => ?_⟩
    obtain ⟨p, ht, hp⟩ := hT.same sm
    have h60 := hb.o
    refine ⟨.int o, rfl, rfl, _, rfl, iteF' rfl ?_⟩
    refine ⟨.ref t, rfl, t, _, 0, .int fa, rfl, rfl, .of ht, atI_nat (j := 0) rfl, .ref t, rfl, t, _, 1, .ref p, rfl, rfl, .of ht, atI_nat (j := 1) rfl, .int o, rfl, ?_⟩
    refine ⟨fa, p, c, o, r, rfl, hp, hb.co.f, hb.co.l, by omega, ha, fun H2 l sm2 nl hl => ?_⟩
    exact ⟨l, _, rfl, .inl ⟨.of hl, fun z nz => q _ _ ((sm.trans sm2).trans (same_new nz)) upd_same⟩⟩
end
end DK
namespace DK
open PySem PySem.Spec PyProof.Rows L2
section
variable {P : Program} {w : World} {K : PySem.W.Frag} {mg : Str → Option Value} {base : Heap}
/-- hands back a new list of tuples -/
def QLT (H : Hp) (ws : List (List Int)) (Q : VK) : Prop := ∀ H' a, Same H H' → H a = none → LstT H' a ws → Q (.ref a) H'
/-! ### necklaces -/
def spNeck : Sp := fun vs H Q _ => ∃ n m : Nat, vs = [.int n, .int m] ∧ 1 ≤ n ∧ n ≤ 6 ∧ 1 ≤ m ∧ m ≤ 40 ∧ ∀ H', Same H H' → Q (.int (DP.necklacesM n m)) H'
theorem ok_necklaces (D : Dn K mg "necklaces" s_necklaces ["players", "many"]) (c_need_players : C8.Cal P w K mg base 2 "need_players" (spIs1 1 6 .non) []) (c_is_in : C8.Cal P w K mg base 1 "is_in" spIsIn []) (c_power : C8.Cal P w K mg base 1 "power" spPow []) (c_gcd : C8.Cal P w K mg base 1 "gcd" spGcd [])
    (m_sum : mg "sum" = none) (m_range : mg "range" = none) {t1 : Nat} (g_MOST_ROUNDS : mg "MOST_ROUNDS" = some (.int 40 t1)) :
    C8.Cal P w K mg base 3 "necklaces" spNeck [] := by
  refine cal1 D sc_necklaces (fun vs H Q E h => ?_) (fun cdv A outer s f H vs Q E hr h => ?_)
  · obtain ⟨n, m, rfl, _⟩ := h
    rfl
  · obtain ⟨n, m, rfl, hn1, hn2, hm1, hm2, q⟩ := h
    have nd := sc_necklaces.nd
    refine ⟨_, (pss_cons (ps_expr (C8.pe_c c_need_players hr (by first | decide | omega) (by rfl) (pa_cons (pv 0) pa_nil)))
      (pss_cons (ps_if (pt_not (pt_val (C8.pe_c c_is_in hr (by first | decide | omega) (by rfl) (pa_cons (pv 1) (pa_cons pe_int (pa_cons (pe_glob (v := .int 40) rfl g_MOST_ROUNDS ⟨_, rfl⟩) pa_nil)))))) pss_never pss_nil)
      (pss_one (ps_ret (pe_op op_fdiv (pe_callB (id := "sum") (r := rSum K) (cr_sum rfl) (by rfl) m_sum (by decide +kernel) (pa_cons (pe_lc (own := [("turn", 2)]) (g := gName 2) (tt := tYes) rfl nd (pi_range1 (by rfl) m_range (pa_cons (pv 1) pa_nil)) (blkOk_by (N := ["players", "many", "turn"]) (sc := (C8.fnScope s_necklaces)) (by decide +kernel)) (fun _ _ _ _ _ => (pg_name (i := 2) nd rfl (Or.inl rfl))) (fun _ _ _ _ _ => pts_nil) (fun _ _ _ _ _ => (C8.pe_c c_power hr (by first | decide | omega) (by rfl) (pa_cons (pv 0) (pa_cons (C8.pe_c c_gcd hr (by first | decide | omega) (by rfl) (pa_cons (pv 2) (pa_cons (pv 1) pa_nil))) pa_nil))))) pa_nil)) (pv 1)))))), ?_⟩
    refine ⟨.int n, rfl, n, rfl, by omega, by omega, .int m, rfl, m, 1, 40, rfl, by omega, by omega, true, rfl, iteF' rfl ?_⟩
    refine ⟨.int m, rfl, m, rfl, by omega, by omega, fun Da nD => ?_⟩
    refine lc_ints (walk_range0 (n := m)) (fun t => DP.powM n (Nat.gcd t m)) nD (Nat.le_of_lt (small1000 (by omega))) (fun _ _ => trivial) ?_ gn ?_
    · rintro i x H' _ Q' hi sm ⟨rfl, rfl⟩ hq
      have hg : Nat.gcd i m ≤ m := Nat.le_of_dvd (by omega) (Nat.gcd_dvd_right i m)
      exact ⟨rfl, .int n, rfl, .int i, rfl, .int m, rfl, i, m, rfl, n, Nat.gcd i m, rfl, ⟨by omega, by omega⟩, by omega, hq _ Same.refl'⟩
    · intro H1 sm h1
      exact ⟨Da, _, rfl, .of h1, .int m, rfl, _, _, rfl, rfl, ⟨by omega, by omega⟩, q _ sm⟩
/-! ### need_words -/
def spNeedW : Sp := fun vs H Q _ => ∃ (f : Int) (n m : Nat), vs = [.int f, .int n, .int m] ∧ fac f ∧ 1 ≤ n ∧ n ≤ 4 ∧ 1 ≤ m ∧ m ≤ 6 ∧ DP.powM n m ≤ 2000 ∧ Q .non H
theorem ok_need_words (D : Dn K mg "need_words" s_need_words ["factor", "players", "many"]) (c_need_factor : C8.Cal P w K mg base 3 "need_factor" (spIs1 2 9 .non) []) (c_need_few : C8.Cal P w K mg base 2 "need_few" (spIs1 1 4 .non) []) (c_is_in : C8.Cal P w K mg base 1 "is_in" spIsIn []) (c_power : C8.Cal P w K mg base 1 "power" spPow [])
    {t1 t2 : Nat} (g_MOST_LONG : mg "MOST_LONG" = some (.int 6 t1)) (g_MOST_WORDS : mg "MOST_WORDS" = some (.int 2000 t2)) :
    C8.Cal P w K mg base 4 "need_words" spNeedW [] := by
  refine cal1 D sc_need_words (fun vs H Q E h => ?_) (fun cdv A outer s f H vs Q E hr h => ?_)
  · obtain ⟨f, n, m, rfl, _⟩ := h
    rfl
  · obtain ⟨fa, n, m, rfl, hf, hn1, hn2, hm1, hm2, hw, q⟩ := h
    have nd := sc_need_words.nd
    refine ⟨_, (pss_cons (ps_expr (C8.pe_c c_need_factor hr (by first | decide | omega) (by rfl) (pa_cons (pv 0) pa_nil)))
      (pss_cons (ps_expr (C8.pe_c c_need_few hr (by first | decide | omega) (by rfl) (pa_cons (pv 1) pa_nil)))
      (pss_cons (ps_if (pt_not (pt_val (C8.pe_c c_is_in hr (by first | decide | omega) (by rfl) (pa_cons (pv 2) (pa_cons pe_int (pa_cons (pe_glob (v := .int 6) rfl g_MOST_LONG ⟨_, rfl⟩) pa_nil)))))) pss_never pss_nil)
      (pss_one (ps_if (pt_cmpR op_gt (C8.pe_c c_power hr (by first | decide | omega) (by rfl) (pa_cons (pv 1) (pa_cons (pv 2) pa_nil))) (pe_glob (v := .int 2000) rfl g_MOST_WORDS ⟨_, rfl⟩) (nomark _)) pss_never pss_nil))))), ?_⟩
    refine ⟨.int fa, rfl, fa, rfl, hf.1, hf.2, .int n, rfl, n, rfl, by omega, by omega, .int m, rfl, m, 1, 6, rfl, by omega, by omega, true, rfl, iteF' rfl ?_⟩
    exact ⟨.int n, rfl, .int m, rfl, n, m, rfl, ⟨by omega, by omega⟩, by omega, _, _, rfl, rfl, _, rfl, iteF' (decide_eq_false (by omega)) q⟩
/-! ### words_in -/
def spWords : Sp := fun vs H Q _ => ∃ n m : Nat, vs = [.int n, .int m] ∧ 1 ≤ n ∧ n ≤ 1000 ∧ m ≤ 1000 ∧ n ^ m ≤ 2000 ∧ QLT H (DP.wordsM n m) Q
theorem small2000 {n : Nat} (h : n ≤ 2000) : n < sizeLine := Nat.lt_of_le_of_lt h (by decide)
theorem ok_words_in (D : Dn K mg "words_in" s_words_in ["players", "many"]) (m_range : mg "range" = none) : C8.Cal P w K mg base 1 "words_in" spWords [] := by
  refine cal1 D sc_words_in (fun vs H Q E h => ?_) (fun cdv A outer s f H vs Q E hr h => ?_)
  · obtain ⟨n, m, rfl, _⟩ := h
    rfl
  · obtain ⟨n, m, rfl, hn1, hn, hm, hnm, q⟩ := h
    have nd := sc_words_in.nd
    refine ⟨_, (pss_cons (ps_set (i := 2) nd rfl (.inl rfl) (pe_lst (pa_cons (pe_tup pa_nil) pa_nil)))
      (pss_cons (ps_for PassesOwn.never rfl (pi_range1 (by rfl) m_range (pa_cons (pv 1) pa_nil)) (pg_name (i := 3) nd rfl (Or.inl rfl)) (pss_one (ps_setLc2 (i := 2) (own := [("word", 4), ("payer", 5)]) (g := gName 4) (g1 := gName 5) (vs1 := [5]) (tt1 := tYes) (tt := tYes) rfl nd rfl rfl (sw_true rfl rfl rfl (by decide +kernel)) (pi_list (pv 2)) (blkOk_by (N := ["players", "many", "found", "turn", "word", "payer"]) (sc := (C8.fnScope s_words_in)) (by decide +kernel)) (by decide) (fun _ _ _ _ _ => (pg_name (i := 4) nd rfl (Or.inl rfl))) (fun _ _ _ _ _ => pts_nil) (fun _ _ _ _ _ => (pi_range1 (by rfl) m_range (pa_cons (pv 0) pa_nil))) (fun _ _ _ _ _ => (pg_name (i := 5) nd rfl (Or.inl rfl))) (fun _ _ _ _ _ => pts_nil) (fun _ _ _ _ _ => (pe_op (r := rCatA K) op_catA (pv 4) (pe_tup (pa_cons (pv 5) pa_nil)))))))
      (pss_one (ps_ret (pv 2))))), ?_⟩
    refine ⟨by show 0 ≤ sizeLine; decide, fun t0 n0 => ⟨by show 1 ≤ sizeLine; decide, fun l0 nl0 => ?_⟩⟩
    have sm0 : Same H (upd (upd H t0 (.tup [])) l0 (.lst [.ref t0])) := (same_new n0).trans (same_new nl0)
    refine ⟨.int m, rfl, m, rfl, by omega, by omega, for_range (n := m) (fun i σ H' => ∃ l y3 y4 y5, σ = [some (.int n), some (.int m), some (.ref l), y3, y4, y5] ∧ Same H H' ∧ H l = none ∧ LstT H' l (DP.wordsM n i)) ⟨l0, _, _, _, rfl, sm0, none_of (same_new n0) nl0, [t0], upd_same, .cons ?_ .nil⟩ ?_ ?_⟩
    · show upd (upd H t0 _) l0 _ t0 = _
      rw [upd_ne (ne_of_none upd_same nl0), upd_same]
      rfl
    · rintro i σ H' hi ⟨l, y3, y4, y5, rfl, sm, nl, hl⟩
      have big : (DP.wordsM n (i + 1)).length ≤ 2000 := by
        rw [wordsM_len]
        exact Nat.le_trans (Nat.pow_le_pow_right hn1 hi) hnm
      obtain ⟨ws, ew⟩ : ∃ ws, ws = DP.wordsM n i := ⟨_, rfl⟩
      have e1 : DP.wordsM n (i + 1) = ws.flatMap fun w => (List.range n).map fun (p : Nat) => w ++ [(p : Int)] := by rw [ew]; rfl
      rw [← ew] at hl
      obtain ⟨ps, hL, hP⟩ := hl
      have lps : ps.length = ws.length := paired_len hP
      refine ⟨.ref l, rfl, l, rfl, ⟨_, .of hL⟩, fun Da nD => ?_⟩
      have eR : ((List.range ps.length).flatMap fun i => (List.range n).map fun (p : Nat) => ws.getD i [] ++ [(p : Int)]) = DP.wordsM n (i + 1) := by
        rw [e1, lps]
        exact range_flat_at [] (fun w => (List.range n).map fun (p : Nat) => w ++ [(p : Int)]) ws
      refine lc2_grow (A := fun i x => (ps.map V.ref)[i]? = some x) (n := (ps.map V.ref).length) (walk_list (K := K) (a := l) (xs := ps.map V.ref)) (fun i => (List.range n).map fun (p : Nat) => ws.getD i [] ++ [(p : Int)]) (fun z y H => ∃ p, y = .ref p ∧ TupAt H p z) nD ?_ (fun _ => rfl) (fun _ _ => rfl) (fun H4 s4 => .of (s4 _ _ hL)) (fun z y H4 H5 s ⟨p, e, h⟩ => ⟨p, e, s _ _ h⟩) ?_ ?_
      · rw [List.length_map, eR]
        exact Nat.le_of_lt (small2000 big)
      · rintro j x H4 ys k hj s4 hD hx inner
        obtain ⟨q', rfl, hq, hw⟩ := tups_at (hP.same s4) hx
        refine ⟨.int n, rfl, n, rfl, by omega, by omega, ?_⟩
        refine inner _ n _ (fun j x => x = .int (j : Nat)) H4 (walk_range0 (n := n)) Same.refl' (fun _ _ => trivial) (by simp) ?_
        rintro pl z x' H5 Q' hz s5 sx5 rfl kk
        have hpl : pl < n := by
          have := (List.getElem?_eq_some_iff.mp hz).1
          simpa using this
        have ez : z = ws.getD j [] ++ [(pl : Int)] := by
          rw [List.getElem?_map, List.getElem?_range hpl] at hz
          exact (Option.some.inj hz).symm
        subst ez
        have hq5 : TupAt H5 q' (ws.getD j []) := sx5 _ _ (ne_of hq hD (by intro z; cases z)) hq
        refine ⟨.ref q', rfl, .int pl, rfl, by show 1 ≤ sizeLine; decide, fun t nt => ?_⟩
        have s6 : Same H5 (upd H5 t (.tup [.int pl])) := same_new nt
        have ht : TupAt (upd H5 t (.tup [.int pl])) t [(pl : Int)] := upd_same
        refine ⟨q', t, _, _, rfl, rfl, (hq5.same s6).q, ht.q, ?_, fun e => ?_, fun _ e => (by cases e), fun _ _ u nu => ?_⟩
        · have hin : ws.getD j [] ∈ DP.wordsM n i := by
            rw [← ew]
            exact List.mem_of_getElem? hw
          rw [List.length_map, (wordsM_item hin).1]
          show i + 1 ≤ sizeLine
          exact Nat.le_of_lt (small1000 (by omega))
        · have e2 : ws.getD j [] = [] := List.map_eq_nil_iff.mp e
          rw [e2] at kk
          exact kk _ _ s6 ⟨t, rfl, ht⟩
        · refine kk _ _ (s6.trans (same_new nu)) ⟨u, rfl, ?_⟩
          show upd _ u _ u = _
          rw [upd_same, List.map_append]
      · intro H4 ys s4 hD hp
        rw [List.length_map, eR] at hp
        have hp' : Paired (fun z y => ∃ p, y = .ref p ∧ TupAt H4 p (id z)) (DP.wordsM n (i + 1)) ys := hp
        obtain ⟨qs, rfl, hqs⟩ := pair_tups hp'
        rw [List.map_id] at hqs
        exact ⟨Da, _, _, _, rfl, sm.trans s4, none_of sm nD, qs, hD, hqs⟩
    · rintro σ H' ⟨l, y3, y4, y5, rfl, sm, nl, hl⟩
      exact ⟨_, rfl, q _ _ sm nl hl⟩
/-! ### all_tables -/
def spAllT : Sp := fun vs H Q _ => ∃ (f : Int) (n m : Nat), vs = [.int f, .int n, .int m] ∧ fac f ∧ 1 ≤ n ∧ n ≤ 4 ∧ 1 ≤ m ∧ m ≤ 6 ∧ DP.powM n m ≤ 2000 ∧ n ^ m ≤ 2000 ∧ QLT H (DP.toldM f n m) Q
theorem ok_all_tables (D : Dn K mg "all_tables" s_all_tables ["factor", "players", "many"]) (c_need_words : C8.Cal P w K mg base 4 "need_words" spNeedW []) (c_words_in : C8.Cal P w K mg base 1 "words_in" spWords []) (c_numbers_in : C8.Cal P w K mg base 1 "numbers_in" spNums [])
    (m_sorted : mg "sorted" = none) (m_tuple : mg "tuple" = none) :
    C8.Cal P w K mg base 5 "all_tables" spAllT [] := by
  refine cal1 D sc_all_tables (fun vs H Q E h => ?_) (fun cdv A outer s f H vs Q E hr h => ?_)
  · obtain ⟨f, n, m, rfl, _⟩ := h
    rfl
  · obtain ⟨fa, n, m, rfl, hf, hn1, hn2, hm1, hm2, hw, hnm, q⟩ := h
    have nd := sc_all_tables.nd
    refine ⟨_, (pss_cons (ps_expr (C8.pe_c c_need_words hr (by first | decide | omega) (by rfl) (pa_cons (pv 0) (pa_cons (pv 1) (pa_cons (pv 2) pa_nil)))))
      (pss_one (ps_ret (pe_callB (id := "sorted") (cr_sortedL (hu4 hr)) (by rfl) m_sorted (by decide +kernel) (pa_cons (pe_lc (own := [("word", 3)]) (g := gName 3) (tt := tYes) rfl nd (pi_list (C8.pe_c c_words_in hr (by first | decide | omega) (by rfl) (pa_cons (pv 1) (pa_cons (pv 2) pa_nil)))) (blkOk_by (N := ["factor", "players", "many", "word"]) (sc := (C8.fnScope s_all_tables)) (by decide +kernel)) (fun _ _ _ _ _ => (pg_name (i := 3) nd rfl (Or.inl rfl))) (fun _ _ _ _ _ => pts_nil) (fun _ _ _ _ _ => (pe_callTy (T := "tuple") (r := rTupOf K) cr_tupOf (by rfl) m_tuple (by decide +kernel) (pa_cons (C8.pe_c c_numbers_in hr (by first | decide | omega) (by rfl) (pa_cons (pv 0) (pa_cons (pv 1) (pa_cons (pv 3) pa_nil)))) pa_nil)))) pa_nil))))), ?_⟩
    refine ⟨.int fa, rfl, .int n, rfl, .int m, rfl, fa, n, m, rfl, hf, hn1, hn2, hm1, hm2, hw, ?_⟩
    refine ⟨.int n, rfl, .int m, rfl, n, m, rfl, hn1, by omega, by omega, hnm, fun H1 a s1 na ha => ?_⟩
    obtain ⟨ws, ew⟩ : ∃ ws, ws = DP.wordsM n m := ⟨_, rfl⟩
    rw [← ew] at ha
    obtain ⟨ps, hL, hP⟩ := ha
    have lps : ps.length = ws.length := paired_len hP
    refine ⟨a, rfl, ⟨_, .of hL⟩, fun Da nD => ?_⟩
    refine lc_tups (walk_list (xs := ps.map V.ref)) (fun i => DP.numsM fa n (ws.getD i [])) nD ?_ (fun H' sm => .of (sm _ _ hL)) ?_ gn ?_
    · rw [List.length_map, lps, ew, wordsM_len]
      exact Nat.le_of_lt (small2000 hnm)
    · rintro i x H2 _ Q' hi s2 ⟨rfl, hx⟩ hq
      obtain ⟨q', rfl, hq', hu⟩ := tups_at (hP.same s2) hx
      have hin : ws.getD i [] ∈ DP.wordsM n m := by
        rw [← ew]
        exact List.mem_of_getElem? hu
      refine ⟨rfl, .int fa, rfl, .int n, rfl, .ref q', rfl, fa, n, q', ws.getD i [], rfl, hq', hf.s, by omega, (wordsM_item hin).2, fun H3 l s3 nl hl => ?_⟩
      exact ⟨l, _, rfl, .inl ⟨.of hl, fun t nt => hq t _ (s3.trans (same_new nt)) upd_same⟩⟩
    · intro H2 qs s2 hD hqs
      have e : ((List.range (ps.map V.ref).length).map fun i => DP.numsM fa n (ws.getD i [])) = ws.map (DP.numsM fa n) := by
        rw [List.length_map, lps]
        exact range_map_at [] (DP.numsM fa n) ws
      rw [e] at hqs
      refine ⟨Da, ws.map (DP.numsM fa n), rfl, ⟨qs, hD, hqs⟩, fun u hu z => ?_, fun rs p hrs np => ?_⟩
      · obtain ⟨v, _, rfl⟩ := List.mem_map.mp hu
        have := numsM_len fa n v
        rw [z] at this
        have : (0 : Nat) = n := this
        omega
      · have et : DP.toldM fa n m = DP.sortL (ws.map (DP.numsM fa n)) := by rw [ew]; rfl
        refine q _ _ ((s1.trans s2).trans (same_new np)) (none_of (s1.trans s2) np) ⟨rs, upd_same, ?_⟩
        rw [et]
        exact hrs.same (same_new np)
end
end DK
namespace DK
open PySem PySem.Spec PyProof.Rows L2
section
variable {P : Program} {w : World} {K : PySem.W.Frag} {mg : Str → Option Value} {base : Heap}
/-- hands back a tuple of tuples -/
def QTT (H : Hp) (ws : List (List Int)) (Q : VK) : Prop := ∀ H' p (ps : List Addr), Same H H' → H' p = some (.tup (ps.map V.ref)) → Tups H' ps ws → Q (.ref p) H'
def two (cs : List (Int × Int)) : List (List Int) := cs.map fun p => [p.1, p.2]
def spCyc : Sp := fun vs H Q _ => ∃ (f : Int) (n m : Nat), vs = [.int f, .int n, .int m] ∧ fac f ∧ 1 ≤ n ∧ n ≤ 4 ∧ 1 ≤ m ∧ m ≤ 6 ∧ DP.powM n m ≤ 2000 ∧ n ^ m ≤ 2000 ∧ QTT H (two (DP.cyclesM n m)) Q
theorem countsM_ok {m : Nat} (hm : 1 ≤ m) : ∀ (ws : List (List Int)), (∀ u ∈ ws, u.length = m) → ((DP.countsM m ws).map (·.1)).Nodup ∧ ∀ x ∈ (DP.countsM m ws).map (·.1), 1 ≤ x ∧ x ≤ m := by
  intro ws
  have gen : ∀ (ws : List (List Int)) (cs : List (Nat × Int)), (∀ u ∈ ws, u.length = m) → (cs.map (·.1)).Nodup → (∀ x ∈ cs.map (·.1), 1 ≤ x ∧ x ≤ m) →
      ((ws.foldl (fun cs w => DP.putC ((DP.cycsOf w m).headD 0) cs) cs).map (·.1)).Nodup ∧ ∀ x ∈ (ws.foldl (fun cs w => DP.putC ((DP.cycsOf w m).headD 0) cs) cs).map (·.1), 1 ≤ x ∧ x ≤ m := by
    intro ws
    induction ws with
    | nil => exact fun cs _ a b => ⟨a, b⟩
    | cons u r ih =>
      intro cs hu a b
      rw [List.foldl_cons]
      have lu := hu u List.mem_cons_self
      obtain ⟨k, t, e, k1, k2⟩ := cycsOf_ne (w := u) (by omega)
      rw [lu] at e k2
      refine ih _ (fun v hv => hu v (List.mem_cons_of_mem _ hv)) (putC_nodup _ _ a) fun x hx => ?_
      rcases (putC_keys _ _ _).mp hx with z | z
      · rw [z, e]
        exact ⟨k1, k2⟩
      · exact b x z
  intro h
  exact gen ws [] h List.nodup_nil (fun x hx => by cases hx)
theorem countsM_len {m : Nat} (hm : 1 ≤ m) {ws : List (List Int)} (h : ∀ u ∈ ws, u.length = m) : (DP.countsM m ws).length ≤ m := by
  have := countsM_ok hm ws h
  have := nodup_bound m _ this.1 this.2
  rwa [List.length_map] at this
theorem ok_cycle_lengths (D : Dn K mg "cycle_lengths" s_cycle_lengths ["factor", "players", "many"]) (c_need_words : C8.Cal P w K mg base 4 "need_words" spNeedW []) (c_words_in : C8.Cal P w K mg base 1 "words_in" spWords [])
    (m_sorted : mg "sorted" = none) (m_tuple : mg "tuple" = none) (m_range : mg "range" = none) :
    C8.Cal P w K mg base 5 "cycle_lengths" spCyc [] := by
  refine cal1 D sc_cycle_lengths (fun vs H Q E h => ?_) (fun cdv A outer s f H vs Q E hr h => ?_)
  · obtain ⟨f, n, m, rfl, _⟩ := h
    rfl
  · obtain ⟨fa, n, m, rfl, hf, hn1, hn2, hm1, hm2, hw, hnm, q⟩ := h
    have nd := sc_cycle_lengths.nd
    refine ⟨_, (pss_cons (ps_expr (C8.pe_c c_need_words hr (by first | decide | omega) (by rfl) (pa_cons (pv 0) (pa_cons (pv 1) (pa_cons (pv 2) pa_nil)))))
      (pss_cons (ps_set (i := 3) nd rfl (.inr rfl) pe_dnewK)
      (pss_cons (ps_for PassesOwn.never rfl (pi_list (C8.pe_c c_words_in hr (by first | decide | omega) (by rfl) (pa_cons (pv 1) (pa_cons (pv 2) pa_nil)))) (pg_name (i := 4) nd rfl (Or.inr rfl)) (pss_cons (ps_set (i := 5) nd rfl (.inl rfl) (pe_ix (r := rIxL K) ix_list (pe_lc (own := [("size", 6)]) (g := gName 6) rfl nd (pi_range2 (by rfl) m_range (pa_cons pe_int (pa_cons (pe_op op_add (pv 2) pe_int) pa_nil))) (blkOk_by (N := ["factor", "players", "many", "counts", "word", "length", "size"]) (sc := (C8.fnScope s_cycle_lengths)) (by decide +kernel)) (fun _ _ _ _ _ => (pg_name (i := 6) nd rfl (Or.inl rfl))) (fun _ _ _ _ _ => pts_one (pt_cmpR (r := rEqD K) (op_eqD (hu64 hr)) (pe_op (r := rCatA K) op_catA (pe_slice (r := rSlA K) sl_tupA (pv 4) (po_some (pv 6)) po_none) (pe_slice (r := rSlA K) sl_tupA (pv 4) po_none (po_some (pv 6)))) (pv 4) (nomark _))) (fun _ _ _ _ _ => (pv 6))) pe_int (fun _ _ => rfl)))
      (pss_one (ps_dput (hu_of hr) (pv 3) (pv 5) (pe_op op_add (pe_dget2 (hu_of hr) (pv 3) (pv 5) pe_int ⟨rfl, rfl, rfl, rfl⟩) pe_int) rfl))))
      (pss_one (ps_ret (pe_callTy (T := "tuple") (r := rTupOf K) cr_tupOf (by rfl) m_tuple (by decide +kernel) (pa_cons (pe_lc (own := [("length", 5)]) (g := gName 5) (tt := tYes) rfl nd (pi_list (pe_callB (id := "sorted") (r := rSortedKeys) (cr_sortedKeys rfl) (by rfl) m_sorted (by decide +kernel) (pa_cons (pe_bm0 PySem.F.plainAttrs_dict PySem.F.slot_dict_keys PySem.F.type_dict_keys mt_keysV (pv 3)) pa_nil))) (blkOk_by (N := ["factor", "players", "many", "counts", "word", "length", "size"]) (sc := (C8.fnScope s_cycle_lengths)) (by decide +kernel)) (fun _ _ _ _ _ => (pg_name (i := 5) nd rfl (Or.inl rfl))) (fun _ _ _ _ _ => pts_nil) (fun _ _ _ _ _ => (pe_tup (pa_cons (pv 5) (pa_cons (pe_op op_fdiv (pe_dget (hu_of hr) (pv 3) (pv 5) (fun _ _ => rfl)) (pv 5)) pa_nil))))) pa_nil))))))), ?_⟩
    refine ⟨.int fa, rfl, .int n, rfl, .int m, rfl, fa, n, m, rfl, hf, hn1, hn2, hm1, hm2, hw, ?_⟩
    intro d nd0
    refine ⟨.int n, rfl, .int m, rfl, n, m, rfl, hn1, by omega, by omega, hnm, fun H1 a s1 na ha => ?_⟩
    obtain ⟨ws, ew⟩ : ∃ ws, ws = DP.wordsM n m := ⟨_, rfl⟩
    have hlen : ∀ u ∈ ws, u.length = m := fun u hu => (wordsM_item (by rw [← ew]; exact hu)).1
    have lws : ws.length ≤ 2000 := by rw [ew, wordsM_len]; exact hnm
    rw [← ew] at ha
    obtain ⟨ps, hL, hP⟩ := ha
    have lps : ps.length = ws.length := paired_len hP
    have hd1 : H1 d = some (.dK (kK [])) := s1 _ _ upd_same
    refine ⟨a, rfl, ⟨_, .of hL⟩, for_list (xs := ps.map V.ref) (fun i σ H' => ∃ y4 y5 y6, σ = [some (.int fa), some (.int n), some (.int m), some (.ref d), y4, y5, y6] ∧ SameX d H1 H' ∧ Same H H' ∧ H' d = some (.dK (kK (DP.countsM m (ws.take i))))) ⟨_, _, _, rfl, fun b o _ h => h, (same_new nd0).trans s1, hd1⟩ ?_ ?_ ?_⟩
    · rintro i σ H' hi ⟨y4, y5, y6, rfl, sx, sm, hd⟩
      exact .of (sx _ _ (ne_of hL hd1 (by intro z; cases z)) hL)
    · rintro i x σ H' hx ⟨y4, y5, y6, rfl, sx, sm, hd⟩
      have hP' : Tups H' ps ws := paired_mono (fun b v h => sx _ _ (ne_of h hd1 (by intro z; cases z)) h) hP
      obtain ⟨u, rfl, hu, hwu⟩ := tups_at hP' hx
      have lu : (ws.getD i []).length = m := hlen _ (List.mem_of_getElem? hwu)
      refine ⟨.int m, rfl, _, _, rfl, rfl, 1, (m : Int) + 1, rfl, ⟨by omega, by omega, by omega, by omega⟩, fun Da nD => ?_⟩
      have en : ((m : Int) + 1 - 1).toNat = m := by omega
      rw [en]
      refine lc_intsC (walk_range (lo := 1) (n := m)) (fun j => DP.turnL (ws.getD i []) (j + 1) == ws.getD i []) (fun j => ((j + 1 : Nat) : Int)) nD (Nat.le_of_lt (small1000 (by omega))) (fun _ _ => trivial) ?_ ?_
      · rintro j x H2 _ Q' N hj s2 ⟨rfl, rfl⟩ q1 q2
        have ej : (1 : Int) + (j : Int) = ((j + 1 : Nat) : Int) := by omega
        show gName _ (V.int (1 + (j : Int))) _ _ _
        rw [ej]
        refine ⟨rfl, ?_⟩
        have hu2 := hu.same s2
        refine ⟨.ref u, rfl, .int ((j + 1 : Nat) : Int), rfl, ((j + 1 : Nat) : Int), rfl, ?_⟩
        delta tNoPart
        dsimp only
        refine slA_drop hu2 fun H3 t3 s3 ht3 => ⟨.ref u, rfl, .int ((j + 1 : Nat) : Int), rfl, ((j + 1 : Nat) : Int), rfl, ?_⟩
        dsimp only
        refine slA_take (hu2.same s3) fun H4 t4 s4 ht4 => ?_
        refine catA_at (ht3.same s4) ht4 (by rw [List.length_drop, List.length_take]; have := small1000 (n := 12) (by decide); omega) fun H5 t5 s5 ht5 => ?_
        have s35 := (s3.trans s4).trans s5
        refine ⟨.ref u, rfl, _, _, dp_tup ht5, dp_tup (hu2.same s35), sh_tupI _, sh_tupI _, _, rfl, ?_⟩
        rw [eqv_tup, eq_ints]
        refine ite2 (fun e => ?_) (fun e => ?_)
        · exact ⟨_, rfl, q1 (beq_iff_eq.mpr (of_decide_eq_true e)) _ s35⟩
        · exact q2 (beq_eq_false_iff_ne.mpr (fun z => e (decide_eq_true z))) _ s35
      · intro H2 s2 h2
        have ec : ((((List.range m).filter fun j => DP.turnL (ws.getD i []) (j + 1) == ws.getD i []).map fun j => ((j + 1 : Nat) : Int))) = nI (DP.cycsOf (ws.getD i []) m) := by
          unfold DP.cycsOf nI
          rw [List.filter_map, List.map_map]
          rfl
        rw [ec] at h2
        obtain ⟨k, t, ek, k1, k2⟩ := cycsOf_ne (w := ws.getD i []) (by omega)
        rw [lu] at ek k2
        rw [ek] at h2
        obtain ⟨ok1, ok2⟩ := countsM_ok hm1 (ws.take i) (fun u hu => hlen u (List.mem_of_mem_take hu))
        have lc := countsM_len hm1 (ws := ws.take i) (fun u hu => hlen u (List.mem_of_mem_take hu))
        have hd2 := s2 _ _ hd
        refine ⟨Da, _, 0, .int k, rfl, rfl, .of h2, atI_nat (j := 0) rfl, ?_⟩
        have eg : (DP.countsM m (ws.take i)).lookup k = (DP.countsM m (ws.take i)).lookup k := rfl
        refine ⟨.ref d, rfl, d, rfl, .inl ⟨_, .inl hd2⟩, .int k, rfl, _, DGet.k (k := Sum.inl (k : Int)) hd2, ?_⟩
        rw [kK_val]
        refine ⟨((DP.countsM m (ws.take i)).lookup k).getD 0, 1, ?_, rfl, ?_⟩
        · cases (DP.countsM m (ws.take i)).lookup k <;> rfl
        · refine ⟨.ref d, rfl, .int k, rfl, d, _, rfl, DPut.k (k := Sum.inl (k : Int)) hd2 (by unfold kK; rw [List.length_map]; exact small1000 (by omega)), ?_⟩
          rw [kK_put k _ ok1]
          refine ⟨_, _, _, rfl, (sx.trans (SameX.of s2)).trans SameX.upd, SameX.upd.same nd0 (sm.trans s2), ?_⟩
          rw [upd_same, show DP.countsM m (ws.take (i + 1)) = DP.putC k (DP.countsM m (ws.take i)) by
            unfold DP.countsM
            rw [fold_take _ _ ws hwu, ek]
            rfl]
    · rintro σ H' ⟨y4, y5, y6, rfl, sx, sm, hd⟩
      rw [List.length_map, lps, List.take_length] at hd
      obtain ⟨ok1, ok2⟩ := countsM_ok hm1 ws hlen
      have lc := countsM_len hm1 hlen
      obtain ⟨cs, ecs⟩ : ∃ cs, cs = DP.countsM m ws := ⟨_, rfl⟩
      rw [← ecs] at hd ok1 ok2 lc
      refine ⟨.ref d, rfl, .inr (.inr (.inl ⟨rfl, .inl ⟨_, hd⟩⟩)), d, kK cs, rfl, rfl, hd, fun v nv => ?_⟩
      have sv : Same H' (upd H' v (keysO v d)) := same_new nv
      refine ⟨v, d, kK cs, cs.map fun p => (p.1 : Int), rfl, upd_same, sv _ _ hd, (by unfold kK; rw [List.map_map, List.map_map]; rfl), by rw [List.length_map]; omega, fun ys l perm srt nl => ?_⟩
      have sl := sv.trans (same_new (o := .lst (ys.map V.int)) nl)
      have ndk : (cs.map fun p => (p.1 : Int)).Nodup := by
        have : (cs.map fun p => (p.1 : Int)) = (cs.map (·.1)).map fun (k : Nat) => (k : Int) := by rw [List.map_map]; rfl
        rw [this]
        exact List.Pairwise.map _ (fun a b h z => h (Int.ofNat_inj.mp z)) ok1
      have ndy : ys.Nodup := perm.nodup_iff.mpr ndk
      have ey : ys = DP.sortN (cs.map fun p => (p.1 : Int)) := by
        refine DP.sortN_one ?_ (fun z => perm.mem_iff)
        refine List.Pairwise.imp₂ (fun a b (h1 : a ≤ b) (h2 : a ≠ b) => by omega) srt ndy
      have hk : ∀ y ∈ ys, ∃ k : Nat, y = k ∧ 1 ≤ k ∧ k ≤ m := fun y hy => by
        obtain ⟨p, hp, rfl⟩ := List.mem_map.mp (perm.mem_iff.mp hy)
        have := ok2 p.1 (List.mem_map.mpr ⟨p, hp, rfl⟩)
        exact ⟨p.1, rfl, this⟩
      have ly : ys.length ≤ m := by rw [perm.length_eq, List.length_map]; exact lc
      refine ⟨l, rfl, ⟨_, .of upd_same⟩, fun Da nD => ?_⟩
      refine lc_tups (walk_list (xs := ys.map V.int)) (fun i => [ys.getD i 0, ((cs.lookup (ys.getD i 0).toNat).getD 0) / ys.getD i 0]) nD (by rw [List.length_map]; exact Nat.le_of_lt (small1000 (by omega))) (fun H2 s2 => .of (s2 _ _ upd_same)) ?_ gn ?_
      · rintro i x H2 _ Q' hi s2 ⟨rfl, hx⟩ hq
        obtain ⟨rfl, hy⟩ := ints_at hx
        obtain ⟨k, ek, k1, k2⟩ := hk _ (List.mem_of_getElem? hy)
        rw [ek]
        rw [ek] at hq
        have hd3 := s2 _ _ (sl _ _ hd)
        have hcs : ∃ z, cs.lookup k = some z := by
          have : k ∈ cs.map (·.1) := by
            have := perm.mem_iff.mp (List.mem_of_getElem? hy)
            rw [ek] at this
            obtain ⟨p, hp, e⟩ := List.mem_map.mp this
            exact List.mem_map.mpr ⟨p, hp, by omega⟩
          cases z : cs.lookup k with
          | some v => exact ⟨v, rfl⟩
          | none =>
            have := List.lookup_eq_none_iff.mp z
            obtain ⟨p, hp, e⟩ := List.mem_map.mp ‹k ∈ cs.map (·.1)›
            have := this p hp
            rw [e] at this
            simp at this
        obtain ⟨z, ez⟩ := hcs
        refine ⟨rfl, .int k, rfl, .ref d, rfl, .int k, rfl, d, .int z, rfl, ?_, .int k, rfl, z, k, rfl, rfl, ⟨by omega, by omega⟩, by show 2 ≤ sizeLine; decide, fun t nt => hq t _ (same_new nt) ?_⟩
        · have := DGet.k (k := Sum.inl (k : Int)) hd3
          rw [kK_val, ez] at this
          exact this
        · show upd _ t _ t = _
          rw [upd_same, Int.toNat_natCast, ez]
          rfl
      · intro H3 qs s3 hD hqs
        refine ⟨Da, _, rfl, .inl ⟨.of hD, fun t nt => q _ t qs ((((sm.trans sl).trans s3)).trans (same_new nt)) upd_same ?_⟩⟩
        refine Tups.same (same_new nt) ?_
        have e : ((List.range (ys.map V.int).length).map fun i => [ys.getD i 0, ((cs.lookup (ys.getD i 0).toNat).getD 0) / ys.getD i 0]) = two (DP.cyclesM n m) := by
          rw [List.length_map, range_map_at 0 (fun y => [y, ((cs.lookup y.toNat).getD 0) / y]) ys]
          unfold two DP.cyclesM
          simp only []
          rw [← ew, ← ecs, ← ey, List.map_map]
          rfl
        rw [← e]
        exact hqs
end
end DK
namespace DK
open PySem PySem.Spec PyProof.Rows L2
section
variable {P : Program} {w : World} {K : PySem.W.Frag} {mg : Str → Option Value} {base : Heap}
/-! ### shares -/
def spShares (n : Nat) : Sp := fun vs H Q _ => ∃ t : Nat, vs = [.int t, .int ((n + 1 : Nat) : Int)] ∧ t ≤ 100 ∧ QLT H (DP.sharesM (n + 1) t) Q
theorem ok_shares0 (D : Dn K mg "shares" s_shares ["total", "players"]) : C8.Cal P w K mg base 1 "shares" (spShares 0) [] := by
  refine cal1 D sc_shares (fun vs H Q E h => ?_) (fun cdv A outer s f H vs Q E hr h => ?_)
  · obtain ⟨t, rfl, _⟩ := h
    rfl
  · obtain ⟨t, rfl, ht, q⟩ := h
    have nd := sc_shares.nd
    refine ⟨_, pss_cons (ps_if (pt_cmpR op_eq (pv 1) pe_int (nomark _)) (pss_one (ps_ret (pe_lst (pa_cons (pe_tup (pa_cons (pv 0) pa_nil)) pa_nil)))) pss_nil) pss_never, ?_⟩
    refine ⟨.int ((0 + 1 : Nat) : Int), rfl, rfl, _, rfl, iteT' rfl ⟨.int t, rfl, by show 1 ≤ sizeLine; decide, fun p np => ⟨by show 1 ≤ sizeLine; decide, fun l nl => ?_⟩⟩⟩
    refine q _ _ ((same_new np).trans (same_new nl)) (none_of (same_new np) nl) ⟨[p], upd_same, .cons ?_ .nil⟩
    show upd _ l _ p = _
    rw [upd_ne (ne_of_none upd_same nl), upd_same]
    rfl
theorem ok_sharesS (D : Dn K mg "shares" s_shares ["total", "players"]) (m_range : mg "range" = none) {n k : Nat} (hn : n + 1 + 1 ≤ 4) (c_shares : C8.Cal P w K mg base k "shares" (spShares n) []) : C8.Cal P w K mg base (k + 1) "shares" (spShares (n + 1)) [] := by
  refine cal1 D sc_shares (fun vs H Q E h => ?_) (fun cdv A outer s f H vs Q E hr h => ?_)
  · obtain ⟨t, rfl, _⟩ := h
    rfl
  · obtain ⟨t, rfl, ht, q⟩ := h
    have nd := sc_shares.nd
    refine ⟨_, (pss_cons (ps_if (pt_cmpR op_eq (pv 1) pe_int (nomark _)) (pss_one (ps_ret (pe_lst (pa_cons (pe_tup (pa_cons (pv 0) pa_nil)) pa_nil)))) pss_nil)
      (pss_one (ps_ret (pe_lc2 (own := [("one", 2), ("rest", 3)]) (g := gName 2) (g1 := gName 3) (vs1 := [3]) (tt1 := tYes) (wi1 := iList K _) (tt := tYes) rfl nd (pi_range1 (by rfl) m_range (pa_cons (pe_op op_add (pv 0) pe_int) pa_nil)) (blkOk_by (N := ["total", "players", "one", "rest"]) (sc := (C8.fnScope s_shares)) (by decide +kernel)) (by decide) (fun _ _ _ _ _ => (pg_name (i := 2) nd rfl (Or.inl rfl))) (fun _ _ _ _ _ => pts_nil) (fun _ _ _ _ _ => (pi_list (C8.pe_c c_shares hr (by first | decide | omega) (by rfl) (pa_cons (pe_op op_sub (pv 0) (pv 2)) (pa_cons (pe_op op_sub (pv 1) pe_int) pa_nil))))) (fun _ _ _ _ _ => (pg_name (i := 3) nd rfl (Or.inl rfl))) (fun _ _ _ _ _ => pts_nil) (fun _ _ _ _ _ => (pe_op (r := rCatA K) op_catA (pe_tup (pa_cons (pv 2) pa_nil)) (pv 3))))))), ?_⟩
    have ne1 : ((n + 1 + 1 : Nat) : Int) ≠ 1 := by omega
    refine ⟨.int ((n + 1 + 1 : Nat) : Int), rfl, rfl, _, rfl, iteF' (decide_eq_false (fun z => ne1 (V.int.inj z))) ?_⟩
    refine ⟨.int t, rfl, _, _, rfl, rfl, (t : Int) + 1, rfl, by omega, by omega, fun Da nD => ?_⟩
    have et : ((t : Int) + 1).toNat = t + 1 := by omega
    rw [et]
    refine lc2_grow (A := fun i x => x = .int (i : Nat)) (n := t + 1) (walk_range0 (n := t + 1)) (fun i => (DP.sharesM (n + 1) (t - i)).map fun r => (i : Int) :: r) (fun z y H => ∃ p, y = .ref p ∧ TupAt H p z) nD ?_ (fun _ => rfl) (fun _ _ => rfl) (fun H4 s4 => trivial) (fun z y H4 H5 s ⟨p, e, h⟩ => ⟨p, e, s _ _ h⟩) ?_ ?_
    · rw [← sharesM_two]
      exact Nat.le_trans (sharesM_fits hn ht) (by decide)
    · rintro j x H4 ys kk hj s4 hD rfl inner
      refine ⟨.int t, rfl, .int j, rfl, t, j, rfl, rfl, .int ((n + 1 + 1 : Nat) : Int), rfl, _, _, rfl, rfl, t - j, ?_, by omega, fun H5 a s5 na ha => ?_⟩
      · have e1 : (t : Int) - (j : Int) = ((t - j : Nat) : Int) := by omega
        have e2 : ((n + 1 + 1 : Nat) : Int) - 1 = ((n + 1 : Nat) : Int) := by omega
        show [V.int ((t : Int) - (j : Int)), V.int (((n + 1 + 1 : Nat) : Int) - 1)] = _
        rw [e1, e2]
      obtain ⟨ws, ew⟩ : ∃ ws, ws = DP.sharesM (n + 1) (t - j) := ⟨_, rfl⟩
      rw [← ew] at ha
      obtain ⟨ps, hL, hP⟩ := ha
      have lps : ps.length = ws.length := paired_len hP
      have aD : a ≠ Da := fun z => by rw [z, hD] at na; cases na
      refine ⟨a, rfl, ⟨_, .of hL⟩, inner _ _ _ (fun i x => (ps.map V.ref)[i]? = some x) H5 (walk_list (K := K) (a := a) (xs := ps.map V.ref)) s5 (fun H6 s6 => .of (s6 _ _ aD hL)) ?_ ?_⟩
      · rw [List.length_map, List.length_map, lps, ew]
      · rintro i z x' H6 Q' hz s6 sx6 hx' kq
        have hD5 := s5 _ _ hD
        have hP6 : Tups H6 ps ws := paired_mono (fun b v h => sx6 _ _ (ne_of h hD5 (by intro z; cases z)) h) hP
        obtain ⟨u, rfl, hu, hwu⟩ := tups_at hP6 hx'
        have ez : z = (j : Int) :: ws.getD i [] := by
          rw [List.getElem?_map, ← ew, hwu] at hz
          exact (Option.some.inj hz).symm
        subst ez
        refine ⟨.int j, rfl, by show 1 ≤ sizeLine; decide, fun p np => ⟨.ref u, rfl, ?_⟩⟩
        have hin : ws.getD i [] ∈ DP.sharesM (n + 1) (t - j) := by
          rw [← ew]
          exact List.mem_of_getElem? hwu
        refine catA_at (u := [(j : Int)]) (v := ws.getD i []) upd_same (hu.same (same_new np)) ?_ fun H7 q7 s7 h7 => kq _ _ ((same_new np).trans s7) ⟨q7, rfl, h7⟩
        rw [sharesM_item hin]
        show 1 + (n + 1) ≤ sizeLine
        exact Nat.le_of_lt (small1000 (by omega))
    · intro H4 ys s4 hD hp
      rw [← sharesM_two] at hp
      have hp' : Paired (fun z y => ∃ p, y = .ref p ∧ TupAt H4 p (id z)) (DP.sharesM (n + 2) t) ys := hp
      obtain ⟨qs, rfl, hqs⟩ := pair_tups hp'
      rw [List.map_id] at hqs
      exact q _ _ s4 nD ⟨qs, hD, hqs⟩
theorem ok_shares (D : Dn K mg "shares" s_shares ["total", "players"]) (m_range : mg "range" = none) : ∀ n : Nat, n + 1 ≤ 4 → C8.Cal P w K mg base (n + 1) "shares" (spShares n) []
  | 0, _ => ok_shares0 D
  | n + 1, h => ok_sharesS D m_range h (ok_shares D m_range n (by omega))
/-! ### least_in -/
def spLeast : Sp := fun vs H Q _ => ∃ (f : Int) (n : Nat) (t : Int) (p : Addr) (u : List Int), vs = [.int f, .int n, .int t, .ref p] ∧ TupAt H p u ∧ fac f ∧ n ≤ 1000 ∧ small t ∧ u.length ≤ 1000 ∧ DP.powM f u.length < 1073741824 ∧ (∀ x ∈ u, 0 ≤ x ∧ x < n) ∧ QL H (DP.leastM f n t u) Q
theorem ok_least_in (D : Dn K mg "least_in" s_least_in ["factor", "players", "total", "word"]) (c_power : C8.Cal P w K mg base 1 "power" spPow []) (c_numbers_in : C8.Cal P w K mg base 1 "numbers_in" spNums []) (m_len : mg "len" = none) : C8.Cal P w K mg base 2 "least_in" spLeast [] := by
  refine cal1 D sc_least_in (fun vs H Q E h => ?_) (fun cdv A outer s f H vs Q E hr h => ?_)
  · obtain ⟨f, n, t, p, u, rfl, _⟩ := h
    rfl
  · obtain ⟨fa, n, t, p, u, rfl, hp, hf, hn, ht, hl, hpw, hu, q⟩ := h
    have nd := sc_least_in.nd
    have hf1 := hf.1
    refine ⟨_, (pss_cons (ps_set (i := 4) nd rfl (.inr rfl) (C8.pe_c c_power hr (by first | decide | omega) (by rfl) (pa_cons (pv 0) (pa_cons (pe_callB (id := "len") (r := rLenS K) cr_lenS (by rfl) m_len PySem.boot_len (pa_cons (pv 3) pa_nil)) pa_nil))))
      (pss_one (ps_ret (pe_lc (own := [("number", 5)]) (g := gName 5) (tt := tYes) rfl nd (pi_list (C8.pe_c c_numbers_in hr (by first | decide | omega) (by rfl) (pa_cons (pv 0) (pa_cons (pv 1) (pa_cons (pv 3) pa_nil))))) (blkOk_by (N := ["factor", "players", "total", "word", "size", "number"]) (sc := (C8.fnScope s_least_in)) (by decide +kernel)) (fun _ _ _ _ _ => (pg_name (i := 5) nd rfl (Or.inl rfl))) (fun _ _ _ _ _ => pts_nil) (fun _ _ _ _ _ => (pe_op op_fdiv (pe_op op_sub (pe_op op_add (pe_op op_mul (pv 2) (pv 5)) (pv 4)) pe_int) (pv 4))))))), ?_⟩
    refine ⟨.int fa, rfl, .ref p, rfl, p, _, rfl, .inr hp.q, fa, u.length, by rw [List.length_map]; rfl, hf.s, hl, ?_⟩
    refine ⟨.int fa, rfl, .int n, rfl, .ref p, rfl, fa, n, p, u, rfl, hp, hf.s, hn, hu, fun H1 a s1 na ha => ?_⟩
    refine ⟨a, rfl, ⟨_, .of ha⟩, fun Da nD => ?_⟩
    refine lc_ints (walk_list (xs := (DP.numsM fa n u).map V.int)) (fun i => (t * (DP.numsM fa n u).getD i 0 + DP.powM fa u.length - 1) / DP.powM fa u.length) nD (by rw [List.length_map, numsM_len]; exact Nat.le_of_lt (small1000 hn)) (fun H' sm => .of (sm _ _ ha)) ?_ gn ?_
    · rintro i x H2 _ Q' hi s2 ⟨rfl, hx⟩ hq
      obtain ⟨rfl, _⟩ := ints_at hx
      exact ⟨rfl, .int t, rfl, _, rfl, _, _, rfl, rfl, .inl ht, .int (DP.powM fa u.length), rfl, _, _, rfl, rfl, _, 1, rfl, rfl, .int (DP.powM fa u.length), rfl, _, _, rfl, rfl, ⟨powM_pos (by omega) _, hpw⟩, hq _ Same.refl'⟩
    · intro H2 s2 h2
      have e : ((List.range ((DP.numsM fa n u).map V.int).length).map fun i => (t * (DP.numsM fa n u).getD i 0 + DP.powM fa u.length - 1) / DP.powM fa u.length) = DP.leastM fa n t u := by
        rw [List.length_map]
        exact range_map_at 0 (fun x => (t * x + DP.powM fa u.length - 1) / DP.powM fa u.length) (DP.numsM fa n u)
      rw [e] at h2
      exact q _ _ (s1.trans s2) (none_of s1 nD) h2
end
end DK
namespace DK
open PySem PySem.Spec PyProof.Rows L2
section
variable {P : Program} {w : World} {K : PySem.W.Frag} {mg : Str → Option Value} {base : Heap}
/-! ### tables_in -/
def spTabs : Sp := fun vs H Q _ => ∃ (f : Int) (n : Nat) (t : Int) (ws : List (List Int)), vs = [.int f, .int ((n + 1 : Nat) : Int), .int t] ∧ fac f ∧ n + 1 ≤ 4 ∧ 0 ≤ t ∧ t ≤ 100 ∧ DP.tablesM f (n + 1) t = some ws ∧ QLT H ws Q
def Items (n k : Nat) (ws : List (List Int)) : Prop := ∀ u ∈ ws, u.length = k ∧ ∀ x ∈ u, 0 ≤ x ∧ x < n
theorem take_more {f : Int} {n : Nat} {t : Int} {ws : List (List Int)} {i : Nat} {u : List Int} (h : ws[i]? = some u) : DP.moreM f n t (ws.take (i + 1)) = DP.moreM f n t (ws.take i) ++ ((List.range n).map fun (p : Nat) => u ++ [(p : Int)]).filter (DP.fitsM f n t) := by
  unfold DP.moreM
  rw [List.take_add_one, h, List.flatMap_append]
  simp
theorem ok_tables_in (D : Dn K mg "tables_in" s_tables_in ["factor", "players", "total"]) (c_power : C8.Cal P w K mg base 1 "power" spPow []) (c_least_in : C8.Cal P w K mg base 2 "least_in" spLeast []) (c_sh : ∀ n, n + 1 ≤ 4 → C8.Cal P w K mg base (n + 1) "shares" (spShares n) []) (c_forever_in : C8.Cal P w K mg base 3 "forever_in" spFor [])
    (m_sum : mg "sum" = none) (m_range : mg "range" = none) (m_tuple : mg "tuple" = none) (m_zip : mg "zip" = none) (m_sorted : mg "sorted" = none) :
    C8.Cal P w K mg base 5 "tables_in" spTabs [] := by
  refine cal1 D sc_tables_in (fun vs H Q E h => ?_) (fun cdv A outer s f H vs Q E hr h => ?_)
  · obtain ⟨f, n, t, ws, rfl, _⟩ := h
    rfl
  · obtain ⟨fa, n, T, wsR, rfl, hf, hn, hT0, hT1, hR, q⟩ := h
    have nd := sc_tables_in.nd
    have c_shares := c_sh n hn
    have hf1 := hf.1
    have hf2 := hf.2
    have smT : small T := ⟨by omega, by omega⟩
    obtain ⟨wsF, hW, hR⟩ := Option.bind_eq_some_iff.mp hR
    obtain ⟨fdF, hF, hR⟩ := Option.bind_eq_some_iff.mp hR
    have hR : DP.sortL ((fdF.filter (·.2)).map (·.1)) = wsR := Option.some.inj hR
    refine ⟨_, (pss_cons (ps_par (i := 3) (j := 4) (by rfl) nd rfl rfl (by decide) rfl rfl (pa_cons (pe_lst (pa_cons (pe_tup pa_nil) pa_nil)) (pa_cons pe_int pa_nil)) (by rfl))
      (pss_cons (ps_while PassesOwn.never (pt_cmpR op_le (C8.pe_c c_power hr (by first | decide | omega) (by rfl) (pa_cons (pv 0) (pa_cons (pv 4) pa_nil))) (pv 2) (nomark _)) (pss_cons (ps_set (i := 5) nd rfl (.inl rfl) (pe_lst pa_nil))
      (pss_cons (ps_for PassesOwn.never rfl (pi_list (pv 3)) (pg_name (i := 6) nd rfl (Or.inl rfl)) (pss_one (ps_for PassesOwn.never rfl (pi_range1 (by rfl) m_range (pa_cons (pv 1) pa_nil)) (pg_name (i := 7) nd rfl (Or.inl rfl)) (pss_one (ps_if (pt_cmpR op_le (pe_callB (id := "sum") (r := rSum K) (cr_sum rfl) (by rfl) m_sum (by decide +kernel) (pa_cons (C8.pe_c c_least_in hr (by first | decide | omega) (by rfl) (pa_cons (pv 0) (pa_cons (pv 1) (pa_cons (pv 2) (pa_cons (pe_op (r := rCatA K) op_catA (pv 6) (pe_tup (pa_cons (pv 7) pa_nil))) pa_nil))))) pa_nil)) (pv 2) (nomark _)) (pss_one (ps_expr (pe_bm PySem.F.plainAttrs_list PySem.F.slot_list_append PySem.F.type_list_append mt_append (pv 5) (pa_cons (pe_op (r := rCatA K) op_catA (pv 6) (pe_tup (pa_cons (pv 7) pa_nil))) pa_nil)))) pss_nil)))))
      (pss_one (ps_par (i := 3) (j := 4) (by rfl) nd rfl rfl (by decide) rfl rfl (pa_cons (pv 5) (pa_cons (pe_op op_add (pv 4) pe_int) pa_nil)) (by rfl))))))
      (pss_cons (ps_set (i := 8) nd rfl (.inr rfl) pe_dnewT)
      (pss_cons (ps_for PassesOwn.never rfl (pi_list (pv 3)) (pg_name (i := 6) nd rfl (Or.inl rfl)) (pss_cons (ps_set (i := 9) nd rfl (.inl rfl) (C8.pe_c c_least_in hr (by first | decide | omega) (by rfl) (pa_cons (pv 0) (pa_cons (pv 1) (pa_cons (pv 2) (pa_cons (pv 6) pa_nil))))))
      (pss_one (ps_for PassesOwn.never rfl (pi_list (C8.pe_c c_shares hr (by first | decide | omega) (by rfl) (pa_cons (pe_op op_sub (pv 2) (pe_callB (id := "sum") (r := rSum K) (cr_sum rfl) (by rfl) m_sum (by decide +kernel) (pa_cons (pv 9) pa_nil))) (pa_cons (pv 1) pa_nil)))) (pg_name (i := 10) nd rfl (Or.inl rfl)) (pss_cons (ps_set (i := 11) nd rfl (.inl rfl) (pe_callTy (T := "tuple") (r := rTupOf K) cr_tupOf (by rfl) m_tuple (by decide +kernel) (pa_cons (pe_lc (own := [("one", 12), ("other", 13)]) (g := gTup K 2 _) (tt := tYes) rfl nd (pi_zipM (by rfl) m_zip (pa_cons (pv 9) (pa_cons (pv 10) pa_nil))) (blkOk_by (N := ["factor", "players", "total", "words", "many", "more", "word", "payer", "found", "least", "rest", "coins", "one", "other"]) (sc := (C8.fnScope s_tables_in)) (by decide +kernel)) (fun _ _ _ _ _ => (pg_tup rfl (pgs_cons (pg_name (i := 12) nd rfl (Or.inl rfl)) (pgs_cons (pg_name (i := 13) nd rfl (Or.inl rfl)) pgs_nil)))) (fun _ _ _ _ _ => pts_nil) (fun _ _ _ _ _ => (pe_op op_add (pv 12) (pv 13)))) pa_nil)))
      (pss_one (ps_if (pt_cmp (pc_dnotin (hu_of hr) (pv 11) (pv 8))) (pss_one (ps_dput (hu_of hr) (pv 8) (pv 11) (C8.pe_c c_forever_in hr (by first | decide | omega) (by rfl) (pa_cons (pv 0) (pa_cons (pv 11) pa_nil))) rfl)) pss_nil)))))))
      (pss_one (ps_ret (pe_callB (id := "sorted") (cr_sortedL (hu4 hr)) (by rfl) m_sorted (by decide +kernel) (pa_cons (pe_lock (pe_lc (own := [("coins", 11)]) (g := gName 11) rfl nd (pi_keysT (pv 8)) (blkOk_by (N := ["factor", "players", "total", "words", "many", "more", "word", "payer", "found", "least", "rest", "coins", "one", "other"]) (sc := (C8.fnScope s_tables_in)) (by decide +kernel)) (fun _ _ _ _ _ => (pg_name (i := 11) nd rfl (Or.inl rfl))) (fun _ _ _ _ _ => pts_one (pt_val (pe_dget (hu_of hr) (pv 8) (pv 11) (fun _ _ => rfl)))) (fun _ _ _ _ _ => (pv 11)))) pa_nil)))))))), ?_⟩
    -- words, many = ([()], 0)
    refine ⟨by show 0 ≤ sizeLine; decide, fun t0 n0 => ⟨by show 1 ≤ sizeLine; decide, fun l0 nl0 => ⟨_, _, rfl, ?_⟩⟩⟩
    have sm0 : Same H (upd (upd H t0 (.tup [])) l0 (.lst [.ref t0])) := (same_new n0).trans (same_new nl0)
    have ht0 : TupAt (upd (upd H t0 (.tup [])) l0 (.lst [.ref t0])) t0 [] := by
      show upd (upd H t0 _) l0 _ t0 = _
      rw [upd_ne (ne_of_none upd_same nl0), upd_same]
      rfl
    refine ⟨fun m σ H' => ∃ l ws many y5 y6 y7 y8 y9 y10 y11 y12 y13, σ = [some (.int fa), some (.int ((n + 1 : Nat) : Int)), some (.int T), some (.ref l), some (.int (many : Nat)), y5, y6, y7, y8, y9, y10, y11, y12, y13] ∧ Same H H' ∧ LstT H' l ws ∧ Items (n + 1) many ws ∧ many + m ≤ 10 ∧ DP.powM fa many < 1073741824 ∧ DP.wordsT fa (n + 1) T m ws many = some wsF,
      ⟨10, l0, [[]], 0, _, _, _, _, _, _, _, _, _, rfl, sm0, ⟨[t0], upd_same, .cons ht0 .nil⟩, fun u hu => by
        have : u = [] := by simpa using hu
        subst this
        exact ⟨rfl, fun x hx => by cases hx⟩, by decide, (by decide : (1 : Int) < 1073741824), hW⟩, fun m σ H' hW => ?_⟩
    obtain ⟨l, ws, many, y5, y6, y7, y8, y9, y10, y11, y12, y13, rfl, sm, hl, hit, hm, hpm, hW⟩ := hW
    obtain ⟨ps, hL, hP⟩ := hl
    have lps : ps.length = ws.length := paired_len hP
    refine ⟨.int fa, rfl, .int many, rfl, fa, many, rfl, hf.s, by omega, .int T, rfl, _, _, rfl, rfl, _, rfl, ?_⟩
    obtain ⟨m, rfl⟩ : ∃ m', m = m' + 1 := by
      cases m with
      | zero => cases hW
      | succ m => exact ⟨m, rfl⟩
    have hW : (if DP.powM fa many ≤ T then (if ws.length ≤ 10000 then DP.wordsT fa (n + 1) T m (DP.moreM fa (n + 1) T ws) (many + 1) else none) else some ws) = some wsF := hW
    by_cases hp : DP.powM fa many ≤ T
    · rw [if_pos hp] at hW
      by_cases hw : ws.length ≤ 10000
      case neg => rw [if_neg hw] at hW; cases hW
      rw [if_pos hw] at hW
      have hpm1 : DP.powM fa (many + 1) < 1073741824 := by
        show DP.powM fa many * fa < _
        have h0 := powM_pos (show 0 < fa by omega) many
        have : DP.powM fa many * fa ≤ 100 * 9 := Int.mul_le_mul (by omega) hf2 (by omega) (by decide)
        omega
      have hpow : ∀ u : List Int, u.length = many + 1 → DP.powM fa u.length < 1073741824 := fun u hu => by
        rw [hu]
        exact hpm1
      refine iteT' (decide_eq_true hp) ⟨_, fun σ' H'' h => ⟨m, Nat.lt_succ_self m, h⟩, ?_⟩
      -- more = []
      refine ⟨by show 0 ≤ sizeLine; decide, fun lm nm => ?_⟩
      have nmH : H lm = none := none_of sm nm
      have hL1 : upd H' lm (.lst []) l = some (.lst (ps.map V.ref)) := same_new nm _ _ hL
      have llm : l ≠ lm := ne_of_none hL nm
      -- for word in words
      refine ⟨.ref l, rfl, l, rfl, ⟨_, .of hL1⟩, for_list (xs := ps.map V.ref) (fun i σ H2 => ∃ y6 y7, σ = [some (.int fa), some (.int ((n + 1 : Nat) : Int)), some (.int T), some (.ref l), some (.int (many : Nat)), some (.ref lm), y6, y7, y8, y9, y10, y11, y12, y13] ∧ Same H H2 ∧ SameX lm H' H2 ∧ LstT H2 lm (DP.moreM fa (n + 1) T (ws.take i))) ⟨_, _, rfl, sm.trans (same_new nm), SameX.of (same_new nm), [], upd_same, .nil⟩ ?_ ?_ ?_⟩
      · rintro i σ H2 hi ⟨y6, y7, rfl, sm2, sx2, hmo⟩
        exact .of (sx2 _ _ llm hL)
      · rintro i x σ H2 hx ⟨y6, y7, rfl, sm2, sx2, hmo⟩
        have hPx : ∀ {H3}, SameX lm H' H3 → Tups H3 ps ws := fun s => paired_mono (fun b v h => s _ _ (ne_of_none h nm) h) hP
        obtain ⟨u, rfl, hu, hwu⟩ := tups_at (hPx sx2) hx
        have huu : u ≠ lm := fun z => by
          subst z
          obtain ⟨qs, e1, e2⟩ := hmo
          rw [show H2 u = some (HO.tup ((ws.getD i []).map V.int)) from hu] at e1
          cases e1
        obtain ⟨lu, iu⟩ := hit _ (List.mem_of_getElem? hwu)
        -- for payer in range(players)
        refine ⟨.int ((n + 1 : Nat) : Int), rfl, _, rfl, by omega, by omega, for_range (n := n + 1) (fun j σ H3 => ∃ y7, σ = [some (.int fa), some (.int ((n + 1 : Nat) : Int)), some (.int T), some (.ref l), some (.int (many : Nat)), some (.ref lm), some (.ref u), y7, y8, y9, y10, y11, y12, y13] ∧ Same H H3 ∧ SameX lm H' H3 ∧ TupAt H3 u (ws.getD i []) ∧ LstT H3 lm (DP.moreM fa (n + 1) T (ws.take i) ++ ((List.range j).map fun (p : Nat) => ws.getD i [] ++ [(p : Int)]).filter (DP.fitsM fa (n + 1) T))) ⟨_, rfl, sm2, sx2, hu, by simpa using hmo⟩ ?_ ?_⟩
        · rintro j σ H3 hj ⟨y7, rfl, sm3, sx3, hu3, hmo3⟩
          have hu3' : TupAt H3 u (ws.getD i []) := hu3
          show gName _ (V.int (0 + (j : Int))) _ _ _
          rw [Int.zero_add]
          refine ⟨.int fa, rfl, .int ((n + 1 : Nat) : Int), rfl, .int T, rfl, .ref u, rfl, .int j, rfl, by show 1 ≤ sizeLine; decide, fun p1 np1 => ?_⟩
          refine catA_at (u := ws.getD i []) (v := [(j : Int)]) (hu3'.same (same_new np1)) upd_same (by rw [lu]; exact Nat.le_of_lt (small1000 (n := many + 1) (by omega))) fun H4 p2 s4 hp2 => ?_
          have s34 := (same_new (o := .tup [V.int j]) np1).trans s4
          have lu2 : (ws.getD i [] ++ [(j : Int)]).length = many + 1 := by rw [List.length_append, lu]; rfl
          have iu2 : ∀ x ∈ ws.getD i [] ++ [(j : Int)], 0 ≤ x ∧ x < ((n + 1 : Nat) : Int) := fun x hx => by
            rcases List.mem_append.mp hx with z | z
            · exact iu x z
            · have : x = j := by simpa using z
              subst this
              omega
          refine ⟨fa, n + 1, T, p2, _, rfl, hp2, hf, by omega, smT, by omega, hpow _ lu2, iu2, fun H5 a s5 na ha => ?_⟩
          have s35 := s34.trans s5
          refine ⟨a, _, rfl, .of ha, .int T, rfl, _, _, rfl, rfl, _, rfl, ?_⟩
          have eF : ((List.range (j + 1)).map fun (p : Nat) => ws.getD i [] ++ [(p : Int)]).filter (DP.fitsM fa (n + 1) T) = ((List.range j).map fun (p : Nat) => ws.getD i [] ++ [(p : Int)]).filter (DP.fitsM fa (n + 1) T) ++ (if DP.fitsM fa (n + 1) T (ws.getD i [] ++ [(j : Int)]) = true then [ws.getD i [] ++ [(j : Int)]] else []) := by
            rw [List.range_succ, List.map_append, List.filter_append]
            congr 1
            by_cases z : DP.fitsM fa (n + 1) T (ws.getD i [] ++ [(j : Int)]) = true
            · rw [if_pos z, List.map_singleton, List.filter_cons_of_pos z]
              rfl
            · rw [if_neg z, List.map_singleton, List.filter_cons_of_neg z]
              rfl
          have hu5 := hu3'.same s35
          have hmo5 := hmo3.same s35
          by_cases z : DP.fitsM fa (n + 1) T (ws.getD i [] ++ [(j : Int)]) = true
          · refine iteT' z ?_
            obtain ⟨qs, e1, e2⟩ := hmo5
            refine ⟨.ref lm, rfl, .inl ⟨rfl, _, .of e1⟩, .ref u, rfl, .int j, rfl, by show 1 ≤ sizeLine; decide, fun p3 np3 => ?_⟩
            refine catA_at (u := ws.getD i []) (v := [(j : Int)]) (hu5.same (same_new np3)) upd_same (by rw [lu]; exact Nat.le_of_lt (small1000 (n := many + 1) (by omega))) fun H6 p4 s6 hp4 => ?_
            have s56 := (same_new (o := .tup [V.int j]) np3).trans s6
            have e16 := s56 _ _ e1
            refine ⟨lm, _, _, rfl, rfl, e16, ?_, ?_⟩
            · rw [List.length_map, paired_len e2, List.length_append]
              have b1 := moreM_len (f := fa) (n := n + 1) (t := T) (ws.take i)
              have b2 : (ws.take i).length ≤ ws.length := by rw [List.length_take]; exact Nat.min_le_right _ _
              have b3 := List.length_filter_le (DP.fitsM fa (n + 1) T) ((List.range j).map fun (p : Nat) => ws.getD i [] ++ [(p : Int)])
              rw [List.length_map, List.length_range] at b3
              have b4 : (ws.take i).length * (n + 1) ≤ 10000 * 4 := Nat.mul_le_mul (by omega) hn
              refine Nat.lt_of_le_of_lt (show _ ≤ 50000 by omega) (by decide)
            · have neu : u ≠ lm := huu
              refine ⟨_, rfl, SameX.upd.same nmH ((sm3.trans s35).trans s56), (sx3.trans (SameX.of (s35.trans s56))).trans SameX.upd, ?_, qs ++ [p4], ?_, ?_⟩
              · show upd H6 lm _ u = _
                rw [upd_ne neu]
                exact hu5.same s56
              · rw [upd_same, List.map_append]
                rfl
              · rw [eF, if_pos z, ← List.append_assoc]
                have tt : ∀ {b v}, TupAt H6 b v → TupAt (upd H6 lm (.lst (qs.map V.ref ++ [V.ref p4]))) b v := fun h => by
                  show upd H6 lm _ _ = _
                  rw [upd_ne (ne_of h e16 (by intro z; cases z))]
                  exact h
                exact paired_snoc (paired_mono (fun _ _ h => tt h) (Tups.same s56 e2)) (tt hp4)
          · refine iteF' (eq_false_of_ne_true z) ?_
            refine ⟨_, rfl, sm3.trans s35, sx3.trans (SameX.of s35), hu5, ?_⟩
            rw [eF, if_neg z, List.append_nil]
            exact hmo5
        · rintro σ H3 ⟨y7, rfl, sm3, sx3, hu3, hmo3⟩
          refine ⟨_, _, rfl, sm3, sx3, ?_⟩
          rw [take_more hwu]
          exact hmo3
      · rintro σ H2 ⟨y6, y7, rfl, sm2, sx2, hmo⟩
        rw [List.length_map, lps, List.take_length] at hmo
        exact ⟨.ref lm, rfl, .int many, rfl, many, 1, rfl, rfl, _, _, rfl, lm, DP.moreM fa (n + 1) T ws, many + 1, _, _, _, _, _, _, _, _, _, rfl, sm2, hmo, moreM_item hit, by omega, hpm1, hW⟩
    · rw [if_neg hp] at hW
      have eW := Option.some.inj hW
      subst eW
      refine iteF' (decide_eq_false hp) ?_
      -- found = {}
      intro d nd0
      have ndH : H d = none := none_of sm nd0
      have sd : Same H' (upd H' d (.dT [])) := same_new nd0
      have ltot : many ≤ 10 := by omega
      refine ⟨.ref l, rfl, l, rfl, ⟨_, .of (sd _ _ hL)⟩, for_list (xs := ps.map V.ref) (fun i σ H2 => ∃ y6 y9 y10 y11 fd, σ = [some (.int fa), some (.int ((n + 1 : Nat) : Int)), some (.int T), some (.ref l), some (.int (many : Nat)), y5, y6, y7, some (.ref d), y9, y10, y11, y12, y13] ∧ Same H H2 ∧ SameX d H' H2 ∧ H2 d = some (.dT (kD (fdV fd))) ∧ FdOk (n + 1) fd ∧ (ws.drop i).foldlM (DP.addW fa (n + 1) T) fd = some fdF) ⟨_, _, _, _, [], rfl, sm.trans sd, SameX.of sd, upd_same, ⟨List.nodup_nil, (fun p hp => by cases hp), by decide⟩, by simpa using hF⟩ ?_ ?_ ?_⟩
      · rintro i σ H2 hi ⟨y6, y9, y10, y11, fd, rfl, sm2, sx2, hd, hok, hF⟩
        exact .of (sx2 _ _ (ne_of_none hL nd0) hL)
      · rintro i x σ H2 hx ⟨y6, y9, y10, y11, fd, rfl, sm2, sx2, hd, hok, hF⟩
        have hPx : Tups H2 ps ws := paired_mono (fun b v h => sx2 _ _ (ne_of_none h nd0) h) hP
        obtain ⟨u, rfl, hu, hwu⟩ := tups_at hPx hx
        obtain ⟨lu, iu⟩ := hit _ (List.mem_of_getElem? hwu)
        have hpow : DP.powM fa (ws.getD i []).length < 1073741824 := by
          rw [lu]
          exact hpm
        have hwi : ws.drop i = ws.getD i [] :: ws.drop (i + 1) := by
          obtain ⟨h1, h2⟩ := List.getElem?_eq_some_iff.mp hwu
          rw [← h2]
          exact List.drop_eq_getElem_cons h1
        rw [hwi, List.foldlM_cons] at hF
        obtain ⟨fd2, hA, hF2⟩ := Option.bind_eq_some_iff.mp hF
        unfold DP.addW at hA
        simp only [] at hA
        by_cases hc : 0 ≤ (DP.leastM fa (n + 1) T (ws.getD i [])).sum ∧ (DP.leastM fa (n + 1) T (ws.getD i [])).sum ≤ T
        case neg => rw [if_neg hc] at hA; cases hA
        rw [if_pos hc] at hA
        obtain ⟨ls, els⟩ : ∃ ls, ls = DP.leastM fa (n + 1) T (ws.getD i []) := ⟨_, rfl⟩
        have lls : ls.length = n + 1 := by rw [els, leastM_len]
        rw [← els] at hA hc
        refine ⟨.int fa, rfl, .int ((n + 1 : Nat) : Int), rfl, .int T, rfl, .ref u, rfl, fa, n + 1, T, u, _, rfl, hu, hf, by omega, smT, by omega, hpow, iu, fun H3 a s3 na ha => ?_⟩
        rw [← els] at ha
        have hd3 := s3 _ _ hd
        refine ⟨.int T, rfl, .ref a, rfl, a, ls, rfl, .of ha, T, ls.sum, rfl, rfl, .int ((n + 1 : Nat) : Int), rfl, (T - ls.sum).toNat, ?_, by omega, fun H4 b s4 nb hb => ?_⟩
        · have : T - ls.sum = ((T - ls.sum).toNat : Int) := by omega
          show [V.int (T - ls.sum), _] = _
          rw [← this]
        obtain ⟨rs, ers⟩ : ∃ rs, rs = DP.sharesM (n + 1) (T - ls.sum).toNat := ⟨_, rfl⟩
        rw [← ers] at hb hA
        obtain ⟨qs, hL4, hP4⟩ := hb
        have lqs : qs.length = rs.length := paired_len hP4
        have s24 := s3.trans s4
        have hd4 := s24 _ _ hd
        have ha4 := s4 _ _ ha
        have bd : b ≠ d := fun z => by subst z; rw [hd3] at nb; cases nb
        have ad : a ≠ d := fun z => by subst z; rw [hd] at na; cases na
        -- for rest in shares(..)
        refine ⟨b, rfl, ⟨_, .of hL4⟩, for_list (xs := qs.map V.ref) (fun j σ H5 => ∃ y10 y11 fd, σ = [some (.int fa), some (.int ((n + 1 : Nat) : Int)), some (.int T), some (.ref l), some (.int (many : Nat)), y5, some (.ref u), y7, some (.ref d), some (.ref a), y10, y11, y12, y13] ∧ Same H H5 ∧ SameX d H4 H5 ∧ H5 d = some (.dT (kD (fdV fd))) ∧ FdOk (n + 1) fd ∧ (rs.drop j).foldlM (fun fd r => DP.addT fa fd (List.zipWith (· + ·) ls r)) fd = some fd2) ⟨_, _, fd, rfl, sm2.trans s24, fun c o _ h => h, hd4, hok, by simpa using hA⟩ ?_ ?_ ?_⟩
        · rintro j σ H5 hj ⟨y10, y11, fd, rfl, sm5, sx5, hd5, hok, hA⟩
          exact .of (sx5 _ _ bd hL4)
        · rintro j x σ H5 hx ⟨y10, y11, fd, rfl, sm5, sx5, hd5, hok, hA⟩
          have hP5 : Tups H5 qs rs := paired_mono (fun c v h => sx5 _ _ (ne_of h hd4 (by intro z; cases z)) h) hP4
          obtain ⟨v, rfl, hv, hwv⟩ := tups_at hP5 hx
          have hlv : (rs.getD j []).length = n + 1 := sharesM_item (t := (T - ls.sum).toNat) (by rw [← ers]; exact List.mem_of_getElem? hwv)
          have hrj : rs.drop j = rs.getD j [] :: rs.drop (j + 1) := by
            obtain ⟨h1, h2⟩ := List.getElem?_eq_some_iff.mp hwv
            rw [← h2]
            exact List.drop_eq_getElem_cons h1
          rw [hrj, List.foldlM_cons] at hA
          obtain ⟨fd3, hA1, hA2⟩ := Option.bind_eq_some_iff.mp hA
          obtain ⟨c, ec⟩ : ∃ c, c = List.zipWith (· + ·) ls (rs.getD j []) := ⟨_, rfl⟩
          rw [← ec] at hA1
          have lc : c.length = n + 1 := by rw [ec, List.length_zipWith, lls, hlv, Nat.min_self]
          have ha5 := sx5 _ _ ad ha4
          refine ⟨.ref a, rfl, .ref v, rfl, a, v, _, _, rfl, .of ha5, hv.q, fun Da nD => ?_⟩
          refine lc_ints (walk_zipM (K := K) (a := a) (b := v) (xs := ls.map V.int) (ys := (rs.getD j []).map V.int) (by rw [List.length_map, List.length_map, lls, hlv])) (fun i => c.getD i 0) nD (by rw [List.length_map, lls]; exact Nat.le_of_lt (small1000 (by omega))) (fun H6 s6 => ⟨.of (s6 _ _ ha5), (hv.same s6).q⟩) ?_ ?_ ?_
          · rintro k x H6 H7 Q' hk s6 ⟨t, x1, x2, rfl, nt, rfl, g1, g2⟩ hq
            obtain ⟨rfl, h1⟩ := ints_at g1
            obtain ⟨rfl, h2⟩ := ints_at g2
            have eck : c.getD k 0 = ls.getD k 0 + (rs.getD j []).getD k 0 := by
              rw [ec, List.getD_eq_getElem?_getD, List.getElem?_zipWith, h1, h2]
              rfl
            refine ⟨t, _, rfl, .of upd_same, rfl, _, _, rfl, _, _, rfl, rfl, rfl, ?_⟩
            refine ⟨_, rfl, _, rfl, _, _, rfl, rfl, ?_⟩
            have := hq _ (same_new (o := .tup [V.int (ls.getD k 0), V.int ((rs.getD j []).getD k 0)]) nt)
            rw [eck] at this
            exact this
          · rintro x σ H A B h ⟨t, xs, e1, e2, e3, x1, r1, e4, x2, r2, e5, e6, h7⟩
            exact ⟨t, xs, e1, e2, e3, x1, r1, e4, x2, r2, e5, e6, h _ _ h7⟩
          · intro H6 s6 h6
            have e6 : ((List.range (ls.map V.int).length).map fun i => c.getD i 0) = c := by
              rw [List.length_map, lls, ← lc]
              have := range_map_at 0 (fun x => x) c
              rw [this, List.map_id']
            rw [e6] at h6
            refine ⟨Da, _, rfl, .inl ⟨.of h6, fun tc ntc => ?_⟩⟩
            have s57 := s6.trans (same_new (o := .tup (c.map V.int)) ntc)
            have htc : TupAt (upd H6 tc (.tup (c.map V.int))) tc c := upd_same
            have hd7 := s57 _ _ hd5
            refine ⟨.ref tc, rfl, .ref d, rfl, d, _, rfl, DGet.t hd7 htc, _, rfl, ?_⟩
            rcases addT_none hA1 with ⟨g, rfl⟩ | ⟨g, g1, g2, g3, bb, g4, rfl⟩
            · have : ∃ z, (fdV fd3).lookup c = some z := by
                rw [fdV_val]
                cases z : fd3.lookup c with
                | none => rw [lookup_none.mp z] at g; cases g
                | some bb => exact ⟨_, rfl⟩
              obtain ⟨z, ez⟩ := this
              rw [ez]
              exact iteF' rfl ⟨_, _, fd3, rfl, sm5.trans s57, sx5.trans (SameX.of s57), hd7, hok, hA2⟩
            · have ez : (fdV fd).lookup c = none := by
                rw [fdV_val, lookup_none.mpr g]
                rfl
              rw [ez]
              refine iteT' rfl ⟨.int fa, rfl, .ref tc, rfl, fa, tc, c, bb, rfl, htc, hf.s, hf.s1, by omega, g1, g2, g4, fun H8 s8 => ?_⟩
              refine ⟨.ref d, rfl, .ref tc, rfl, d, _, rfl, DPut.t (s8 _ _ hd7) (htc.same s8) (by rw [fdV_len]; exact Nat.lt_trans g3 (by decide)) ez (.bl bb), ?_⟩
              refine ⟨_, _, fd ++ [(c, bb)], rfl, SameX.upd.same ndH ((sm5.trans s57).trans s8), (sx5.trans (SameX.of (s57.trans s8))).trans SameX.upd, ?_, hok.snoc lc g g3, hA2⟩
              rw [upd_same]
              unfold fdV
              rw [List.map_append]
              rfl
        · rintro σ H5 ⟨y10, y11, fd', rfl, sm5, sx5, hd5, hok', hA'⟩
          rw [List.length_map, lqs, List.drop_length] at hA'
          have e : fd' = fd2 := Option.some.inj hA'
          subst e
          exact ⟨_, _, _, _, fd', rfl, sm5, (sx2.trans (SameX.of s24)).trans sx5, hd5, hok', hF2⟩
      · rintro σ H2 ⟨y6, y9, y10, y11, fd, rfl, sm2, sx2, hd, hok, hF⟩
        rw [List.length_map, lps, List.drop_length] at hF
        have e : fd = fdF := Option.some.inj hF
        subst e
        -- the comprehension over found.keys(), under its lock
        refine ⟨d, _, hd, trivial, fun od => ?_⟩
        have hdL : upd H2 d (.frz od (.dT (kD (fdV fd)))) d = some (.frz od (.dT (kD (fdV fd)))) := upd_same
        refine ⟨.ref d, rfl, d, od, kD (fdV fd), rfl, hdL, fun Da nD => ?_⟩
        have lk : (kD (fdV fd)).length = fd.length := by rw [kD_len, fdV_len]
        have DaD : Da ≠ d := fun z => by rw [z, hdL] at nD; cases nD
        have atk : ∀ {i : Nat} {k : List Key} {v : V}, (kD (fdV fd))[i]? = some (k, v) → ∃ c b, fd[i]? = some (c, b) ∧ k = kT c ∧ v = V.bl b := fun {i k v} h => by
          unfold kD fdV at h
          rw [List.map_map, List.getElem?_map] at h
          obtain ⟨p, hp, e⟩ := Option.map_eq_some_iff.mp h
          cases e
          exact ⟨p.1, p.2, hp, rfl, rfl⟩
        refine lc_tupsC (walk_keysT (d := d) (o := od) (kvs := kD (fdV fd))) (fun i => (fd.getD i ([], false)).2) (fun i => (fd.getD i ([], false)).1) nD ?_ (fun H' s => s _ _ hdL) ?_ ?_
        · rw [lk]
          exact Nat.le_trans hok.sz (by decide)
        · rintro i x H3 _ Q' N hi s3 ⟨rfl, k, v, q', hk, rfl, hq'⟩ q1 q2
          obtain ⟨c, b, hfd, rfl, rfl⟩ := atk hk
          have eg : fd.getD i ([], false) = (c, b) := by rw [List.getD_eq_getElem?_getD, hfd]; rfl
          rw [show (kT c).map kV = c.map V.int from key_tup c] at hq'
          have hq := hq'
          have hl : (fdV fd).lookup c = some (V.bl b) := by
            rw [fdV_val, lookup_at hok.nd hfd]
            rfl
          refine ⟨rfl, .ref d, rfl, .ref q', rfl, d, V.bl b, rfl, ?_, b, rfl, ?_⟩
          · rw [← hl]
            exact DGet.tR (.inr ⟨od, s3 _ _ hdL⟩) hq
          · rw [eg] at q1 q2
            cases b with
            | true => exact iteT' rfl ⟨_, rfl, q1 rfl q' _ Same.refl' hq⟩
            | false => exact iteF' rfl (q2 rfl _ Same.refl')
        · intro H3 qs s3 hD hqs
          have hd3 := s3 _ _ hdL
          have ef : ((List.range (kD (fdV fd)).length).filter fun i => (fd.getD i ([], false)).2).map (fun i => (fd.getD i ([], false)).1) = (fd.filter (·.2)).map (·.1) := by
            rw [lk]
            exact range_filter_at ([], false) (·.2) (·.1) fd
          rw [ef] at hqs
          refine ⟨hd3, Da, (fd.filter (·.2)).map (·.1), rfl, ⟨qs, by rw [upd_ne DaD]; exact hD, ?_⟩, fun u hu z => ?_, fun rs p hrs np => ?_⟩
          · refine paired_mono (fun b v h => ?_) hqs
            show upd H3 d _ b = _
            rw [upd_ne (ne_of h hd3 (by intro z; cases z))]
            exact h
          · obtain ⟨p, hp, rfl⟩ := List.mem_map.mp hu
            have := hok.ln p (List.mem_filter.mp hp).1
            rw [z] at this
            cases this
          · have sL := lockS hd s3
            rw [← hR] at q
            exact q _ _ ((sm2.trans sL).trans (same_new np)) (none_of (sm2.trans sL) np) ⟨rs, upd_same, hrs.same (same_new np)⟩
/-! ### forever_tables -/
theorem ok_forever_tables (D : Dn K mg "forever_tables" s_forever_tables ["factor", "players", "whole"]) (c_need_factor : C8.Cal P w K mg base 3 "need_factor" (spIs1 2 9 .non) []) (c_need_few : C8.Cal P w K mg base 2 "need_few" (spIs1 1 4 .non) []) (c_is_in : C8.Cal P w K mg base 1 "is_in" spIsIn []) (c_tables_in : C8.Cal P w K mg base 5 "tables_in" spTabs [])
    {t1 : Nat} (g_MOST_WHOLE : mg "MOST_WHOLE" = some (.int 100 t1)) :
    C8.Cal P w K mg base 6 "forever_tables" (fun vs H Q E => spTabs vs H Q E ∧ ∃ (a b : V) (t : Int), vs = [a, b, .int t] ∧ 1 ≤ t) [] := by
  refine cal1 D sc_forever_tables (fun vs H Q E h => ?_) (fun cdv A outer s f H vs Q E hr h => ?_)
  · obtain ⟨⟨f, n, t, ws, rfl, _⟩, _⟩ := h
    rfl
  · obtain ⟨⟨fa, n, T, wsR, rfl, hf, hn, hT0, hT1, hR, q⟩, a, b, t, e, ht⟩ := h
    have nd := sc_forever_tables.nd
    have et : T = t := by
      have := (List.cons.inj (List.cons.inj (List.cons.inj e).2).2).1
      exact V.int.inj this
    subst et
    refine ⟨_, (pss_cons (ps_expr (C8.pe_c c_need_factor hr (by first | decide | omega) (by rfl) (pa_cons (pv 0) pa_nil)))
      (pss_cons (ps_expr (C8.pe_c c_need_few hr (by first | decide | omega) (by rfl) (pa_cons (pv 1) pa_nil)))
      (pss_cons (ps_if (pt_not (pt_val (C8.pe_c c_is_in hr (by first | decide | omega) (by rfl) (pa_cons (pv 2) (pa_cons pe_int (pa_cons (pe_glob (v := .int 100) rfl g_MOST_WHOLE ⟨_, rfl⟩) pa_nil)))))) pss_never pss_nil)
      (pss_one (ps_ret (C8.pe_c c_tables_in hr (by first | decide | omega) (by rfl) (pa_cons (pv 0) (pa_cons (pv 1) (pa_cons (pv 2) pa_nil))))))))), ?_⟩
    refine ⟨.int fa, rfl, fa, rfl, hf.1, hf.2, .int ((n + 1 : Nat) : Int), rfl, _, rfl, by omega, by omega, .int T, rfl, T, 1, 100, rfl, ht, hT1, true, rfl, iteF' rfl ?_⟩
    exact ⟨.int fa, rfl, .int ((n + 1 : Nat) : Int), rfl, .int T, rfl, fa, n, T, wsR, rfl, hf, hn, hT0, hT1, hR, q⟩
end
end DK
namespace DK
open PySem PySem.Spec PyProof.Rows L2
section
variable {P : Program} {w : World} {K : PySem.W.Frag} {mg : Str → Option Value} {base : Heap}
/-! ### _law_owed -/
theorem lawOwed_len (f : Int) (c : List Int) (k : Nat) : (DP.lawOwed f c k).length = c.length := by
  simp [DP.lawOwed]
theorem lawOwed_at {f : Int} {c : List Int} {k : Nat} (h : k < c.length) : (DP.lawOwed f c k).getD k 0 = c.getD k 0 - ((c.map fun x => (f - 1) * x).sum - (f - 1) * c.getD k 0) := by
  unfold DP.lawOwed
  rw [List.getD_eq_getElem?_getD, List.getElem?_set_self (by simpa using h)]
  rfl
def spLOwed : Sp := fun vs H Q _ => ∃ (f : Int) (p : Addr) (c : List Int) (k : Nat), vs = [.int f, .ref p, .int k] ∧ TupAt H p c ∧ fac f ∧ k < c.length ∧ c.length ≤ 1000 ∧ QT H (DP.lawOwed f c k) Q
theorem ok__law_owed (D : Dn K mg "_law_owed" s__law_owed ["_law_factor", "_law_coins", "_law_payer"]) (m_sum : mg "sum" = none) (m_tuple : mg "tuple" = none) (m_range : mg "range" = none) (m_len : mg "len" = none) : C8.Cal P w K mg base 1 "_law_owed" spLOwed [] := by
  refine cal1 D sc__law_owed (fun vs H Q E h => ?_) (fun cdv A outer s f H vs Q E hr h => ?_)
  · obtain ⟨f, p, c, k, rfl, _⟩ := h
    rfl
  · obtain ⟨fa, p, c, k, rfl, hp, hf, hk, hl, q⟩ := h
    have nd := sc__law_owed.nd
    refine ⟨_, (pss_cons (ps_set (i := 3) nd rfl (.inr rfl) (pe_lc (own := [("_law_one", 5)]) (g := gName 5) (tt := tYes) rfl nd (pi_tup (pv 1)) (blkOk_by (N := ["_law_factor", "_law_coins", "_law_payer", "_law_gives", "_law_found", "_law_one", "_law_k"]) (sc := (C8.fnScope s__law_owed)) (by decide +kernel)) (fun _ _ _ _ _ => (pg_name (i := 5) nd rfl (Or.inl rfl))) (fun _ _ _ _ _ => pts_nil) (fun _ _ _ _ _ => (pe_op op_mul (pe_op op_sub (pv 0) pe_int) (pv 5)))))
      (pss_cons (ps_setLc (i := 4) (own := [("_law_k", 6)]) (g := gName 6) (tt := tYes) rfl nd rfl rfl (sw_true rfl rfl rfl (by decide +kernel)) (pi_range1 (by rfl) m_range (pa_cons (pe_callB (id := "len") (r := rLenS K) cr_lenS (by rfl) m_len PySem.boot_len (pa_cons (pv 1) pa_nil)) pa_nil)) (blkOk_by (N := ["_law_factor", "_law_coins", "_law_payer", "_law_gives", "_law_found", "_law_one", "_law_k"]) (sc := (C8.fnScope s__law_owed)) (by decide +kernel)) (fun _ _ _ _ _ => (pg_name (i := 6) nd rfl (Or.inl rfl))) (fun _ _ _ _ _ => pts_nil) (fun _ _ _ _ _ => (pe_op op_add (pe_ix (r := rIxT K) ix_tup (pv 1) (pv 6) (fun _ _ => rfl)) (pe_ix (r := rIxL K) ix_list (pv 3) (pv 6) (fun _ _ => rfl)))))
      (pss_cons (ps_asg (pe_op op_sub (pe_ix (r := rIxT K) ix_tup (pv 1) (pv 2) (fun _ _ => rfl)) (pe_op op_sub (pe_callB (id := "sum") (r := rSum K) (cr_sum rfl) (by rfl) m_sum (by decide +kernel) (pa_cons (pv 3) pa_nil)) (pe_ix (r := rIxL K) ix_list (pv 3) (pv 2) (fun _ _ => rfl)))) (pg_sub (pv 4) (pv 2) set_list))
      (pss_one (ps_ret (pe_callTy (T := "tuple") (r := rTupOf K) cr_tupOf (by rfl) m_tuple (by decide +kernel) (pa_cons (pv 4) pa_nil))))))), ?_⟩
    refine ⟨.ref p, rfl, p, rfl, ⟨_, hp.q⟩, fun Da nD => ?_⟩
    refine lc_ints (walk_tup (xs := c.map V.int)) (fun i => (fa - 1) * c.getD i 0) nD (by simpa using Nat.le_of_lt (small1000 hl)) (fun H' sm => (hp.same sm).q) ?_ gn ?_
    · rintro i x H' _ Q' hi sm ⟨rfl, hx⟩ hq
      obtain ⟨rfl, _⟩ := ints_at hx
      exact ⟨rfl, _, rfl, _, 1, rfl, rfl, _, rfl, _, _, rfl, rfl, .inl hf.s1, hq _ Same.refl'⟩
    · intro H1 sm h1
      have hp1 := hp.same sm
      have e : ((List.range (c.map V.int).length).map fun i => (fa - 1) * c.getD i 0) = c.map fun x => (fa - 1) * x := by
        rw [List.length_map]
        exact range_map_at 0 (fun x => (fa - 1) * x) c
      rw [e] at h1
      have gat : ∀ {i : Nat}, i < c.length → ((c.map fun x => (fa - 1) * x).map V.int)[i]? = some (.int ((fa - 1) * c.getD i 0)) := fun {i} hi => by
        rw [List.map_map, List.getElem?_map, List.getD_eq_getElem?_getD, List.getElem?_eq_getElem hi]
        rfl
      refine ⟨.ref p, rfl, p, _, rfl, .inr hp1.q, ((c.map V.int).length : Nat), rfl, by omega, by simp; omega, fun Db nB => ?_⟩
      rw [List.length_map]
      refine lc_ints (walk_range0 (n := c.length)) (fun i => c.getD i 0 + (fa - 1) * c.getD i 0) nB (Nat.le_of_lt (small1000 hl)) (fun H' sm => trivial) ?_ gn ?_
      · rintro i x H2 _ Q' hi s2 ⟨rfl, rfl⟩ hq
        exact ⟨rfl, .ref p, rfl, .int i, rfl, p, _, i, _, rfl, rfl, (hp1.same s2).q, atI_nat (getI hi), .ref Da, rfl, .int i, rfl, Da, _, i, _, rfl, rfl, .of (s2 _ _ h1), atI_nat (gat hi), _, _, rfl, rfl, hq _ Same.refl'⟩
      · intro H2 s2 h2
        have hp2 := hp1.same s2
        have h12 := s2 _ _ h1
        have e2 : ((List.range c.length).map fun i => c.getD i 0 + (fa - 1) * c.getD i 0) = c.map fun x => x + (fa - 1) * x := range_map_at 0 (fun x => x + (fa - 1) * x) c
        rw [e2] at h2
        refine ⟨.ref p, rfl, .int k, rfl, p, _, k, _, rfl, rfl, hp2.q, atI_nat (getI hk), .ref Da, rfl, Da, _, rfl, .of h12, .ref Da, rfl, .int k, rfl, Da, _, k, _, rfl, rfl, .of h12, atI_nat (gat hk), _, _, rfl, rfl, _, _, rfl, rfl, ?_⟩
        refine ⟨.ref Db, rfl, .int k, rfl, Db, _, k, k, rfl, rfl, h2, ixN_at (by simpa using hk), ?_⟩
        refine ⟨.ref Db, rfl, Db, _, rfl, .inl ⟨.of upd_same, fun t nt => q _ _ ((SameX.upd.same (none_of sm nB) (sm.trans s2)).trans (same_new nt)) ?_⟩⟩
        rw [set_ints]
        exact upd_same
/-! ### _law_payers -/
def spLPay : Sp := fun vs H Q _ => ∃ (f : Int) (p : Addr) (c : List Int), vs = [.int f, .ref p] ∧ TupAt H p c ∧ fac f ∧ c.length ≤ 1000 ∧ QL H (nI (DP.lawPay f c)) Q
theorem ok__law_payers (D : Dn K mg "_law_payers" s__law_payers ["_law_factor", "_law_coins"]) (c__law_owed : C8.Cal P w K mg base 1 "_law_owed" spLOwed []) (m_range : mg "range" = none) (m_len : mg "len" = none) : C8.Cal P w K mg base 2 "_law_payers" spLPay [] := by
  refine cal1 D sc__law_payers (fun vs H Q E h => ?_) (fun cdv A outer s f H vs Q E hr h => ?_)
  · obtain ⟨f, p, c, rfl, _⟩ := h
    rfl
  · obtain ⟨fa, p, c, rfl, hp, hf, hl, q⟩ := h
    have nd := sc__law_payers.nd
    refine ⟨_, (pss_one (ps_ret (pe_lc (own := [("_law_k", 2)]) (g := gName 2) rfl nd (pi_range1 (by rfl) m_range (pa_cons (pe_callB (id := "len") (r := rLenS K) cr_lenS (by rfl) m_len PySem.boot_len (pa_cons (pv 1) pa_nil)) pa_nil)) (blkOk_by (N := ["_law_factor", "_law_coins", "_law_k"]) (sc := (C8.fnScope s__law_payers)) (by decide +kernel)) (fun _ _ _ _ _ => (pg_name (i := 2) nd rfl (Or.inl rfl))) (fun _ _ _ _ _ => pts_one (pt_cmpR op_ge (pe_ix (r := rIxT K) ix_tup (C8.pe_c c__law_owed hr (by first | decide | omega) (by rfl) (pa_cons (pv 0) (pa_cons (pv 1) (pa_cons (pv 2) pa_nil)))) (pv 2) (fun _ _ => rfl)) pe_int (nomark _))) (fun _ _ _ _ _ => (pv 2))))), ?_⟩
    refine ⟨.ref p, rfl, p, _, rfl, .inr hp.q, ((c.map V.int).length : Nat), rfl, by omega, by simp; omega, fun Da nD => ?_⟩
    rw [List.length_map]
    refine lc_intsC (walk_range0 (n := c.length)) (fun k => decide (0 ≤ c.getD k 0 - ((c.map fun x => (fa - 1) * x).sum - (fa - 1) * c.getD k 0))) (fun i => (i : Int)) nD (Nat.le_of_lt (small1000 hl)) (fun _ _ => trivial) ?_ ?_
    · rintro i x H' _ Q' N hi sm ⟨rfl, rfl⟩ q1 q2
      refine ⟨rfl, .int fa, rfl, .ref p, rfl, .int i, rfl, fa, p, c, i, rfl, hp.same sm, hf, hi, hl, fun H1 t s1 ht => ?_⟩
      refine ⟨.int i, rfl, t, _, i, .int ((DP.lawOwed fa c i).getD i 0), rfl, rfl, ht.q, atI_nat (getI (by rw [lawOwed_len]; exact hi)), _, 0, rfl, rfl, _, rfl, ?_⟩
      rw [lawOwed_at hi]
      refine ite2 (fun e => ?_) (fun e => ?_)
      · exact ⟨_, rfl, q1 e _ s1⟩
      · exact q2 (eq_false_of_ne_true e) _ s1
    · intro H1 sm h1
      exact q _ _ sm nD h1
/-! ### _law_forever -/
def spLFor : Sp := fun vs H Q _ => ∃ (f : Int) (p : Addr) (c : List Int) (b : Bool), vs = [.int f, .ref p] ∧ TupAt H p c ∧ fac f ∧ c.length ≤ 1000 ∧ DP.lawForL f 40 c [] = some b ∧ ∀ H', Same H H' → Q (.bl b) H'
theorem ok__law_forever (D : Dn K mg "_law_forever" s__law_forever ["_law_factor", "_law_coins"]) (c__law_owed : C8.Cal P w K mg base 1 "_law_owed" spLOwed []) (c__law_payers : C8.Cal P w K mg base 2 "_law_payers" spLPay []) : C8.Cal P w K mg base 3 "_law_forever" spLFor [] := by
  refine cal1 D sc__law_forever (fun vs H Q E h => ?_) (fun cdv A outer s f H vs Q E hr h => ?_)
  · obtain ⟨f, p, c, b, rfl, _⟩ := h
    rfl
  · obtain ⟨fa, p, c, b, rfl, hp, hf, hl, hb, q⟩ := h
    have nd := sc__law_forever.nd
    refine ⟨_, (pss_cons (ps_par (i := 2) (j := 3) (by rfl) nd rfl rfl (by decide) rfl rfl (pa_cons pe_dnewT (pa_cons (pv 1) pa_nil)) (by rfl))
      (pss_cons (ps_while PassesOwn.never (pt_cmp (pc_dnotin (hu_of hr) (pv 3) (pv 2))) (pss_cons (ps_dput (hu_of hr) (pv 2) (pv 3) pe_bl rfl)
      (pss_cons (ps_set (i := 4) nd rfl (.inl rfl) (C8.pe_c c__law_payers hr (by first | decide | omega) (by rfl) (pa_cons (pv 0) (pa_cons (pv 3) pa_nil))))
      (pss_cons (ps_if (pt_cmpR (r := rEqD K) (op_eqD (hu64 hr)) (pv 4) (pe_lst pa_nil) (nomark _)) (pss_one (ps_ret pe_bl)) pss_nil)
      (pss_one (ps_set (i := 3) nd rfl (.inl rfl) (C8.pe_c c__law_owed hr (by first | decide | omega) (by rfl) (pa_cons (pv 0) (pa_cons (pv 3) (pa_cons (pe_ix (r := rIxL K) ix_list (pv 4) pe_int (fun _ _ => rfl)) pa_nil))))))))))
      (pss_one (ps_ret pe_bl)))), ?_⟩
    refine fun d nd0 => ⟨.ref p, rfl, _, _, rfl, ?_⟩
    refine ⟨fun m σ H' => ∃ q' c' y4 seen, σ = [some (.int fa), some (.ref p), some (.ref d), some (.ref q'), y4] ∧ Same H H' ∧ TupAt H' q' c' ∧ c'.length ≤ 1000 ∧ H' d = some (.dT (kD (seenD seen))) ∧ seen.length + m ≤ 40 ∧ DP.lawForL fa m c' seen = some b,
      ⟨40, p, c, _, [], rfl, same_new nd0, hp.same (same_new nd0), hl, upd_same, by decide, hb⟩, fun m σ H' hW => ?_⟩
    obtain ⟨q', c', y4, seen, rfl, sm, hq, lc, hd, hm, hr⟩ := hW
    cases m with
    | zero => cases hr
    | succ m =>
      have hr : (if seen.contains c' = true then some true else match DP.lawPay fa c' with | [] => some false | k :: _ => DP.lawForL fa m (DP.lawOwed fa c' k) (c' :: seen)) = some b := hr
      refine ⟨.ref q', rfl, .ref d, rfl, d, _, rfl, DGet.t hd hq, ?_⟩
      rw [seenD_val]
      by_cases hs : seen.contains c' = true
      · rw [if_pos hs] at hr
        cases hr
        rw [if_pos hs]
        exact ⟨_, rfl, iteF' rfl (q _ sm)⟩
      · rw [if_neg hs] at hr
        rw [if_neg hs]
        refine ⟨_, rfl, iteT' rfl ⟨_, fun σ' H'' h => ⟨m, Nat.lt_succ_self m, h⟩, ?_⟩⟩
        have sl : (seenD seen).lookup c' = none := by rw [seenD_val, if_neg hs]
        refine ⟨.ref d, rfl, .ref q', rfl, d, _, rfl, DPut.t hd hq (by rw [seenD_len]; exact small1000 (by omega)) sl (.bl true), ?_⟩
        have sm4 : Same H (upd H' d (.dT (kD (seenD seen ++ [(c', V.bl true)])))) := SameX.upd.same nd0 sm
        have hq4 : TupAt (upd H' d (.dT (kD (seenD seen ++ [(c', V.bl true)])))) q' c' := by
          show upd H' d _ q' = _
          rw [upd_ne (ne_of hq hd (by intro z; cases z))]
          exact hq
        have hd4 : (upd H' d (.dT (kD (seenD seen ++ [(c', V.bl true)])))) d = some (.dT (kD (seenD (c' :: seen)))) := by
          rw [upd_same, seenD_cons]
        refine ⟨.int fa, rfl, .ref q', rfl, fa, q', c', rfl, hq4, hf, lc, fun H5 a s5 na ha => ?_⟩
        refine ⟨.ref a, rfl, by decide, fun l nl => ?_⟩
        have s6 := same_new (o := .lst []) nl
        refine ⟨_, _, dp_lst (s6 _ _ ha), dp_lst (ns := []) upd_same, sh_listI _, sh_listI [], _, rfl, ?_⟩
        rw [eq_nil]
        have s56 := s5.trans s6
        cases e : DP.lawPay fa c' with
        | nil =>
          rw [e] at hr
          cases hr
          exact iteT' rfl (q _ (sm4.trans s56))
        | cons k t =>
          rw [e] at hr
          have hk : k < c'.length := by
            have : k ∈ DP.lawPay fa c' := by rw [e]; exact List.mem_cons_self
            exact List.mem_range.mp (List.mem_filter.mp this).1
          rw [e] at ha
          refine iteF' rfl ⟨.int fa, rfl, .ref q', rfl, .ref a, rfl, a, _, 0, .int k, rfl, rfl, .of (s6 _ _ ha), atI_nat (j := 0) rfl, fa, q', c', k, rfl, hq4.same s56, hf, hk, lc, fun H7 b7 s7 h7 => ?_⟩
          have s57 := s56.trans s7
          exact ⟨b7, DP.lawOwed fa c' k, _, c' :: seen, rfl, sm4.trans s57, h7, by rw [lawOwed_len]; exact lc, s57 _ _ hd4, by simp; omega, hr⟩
/-! ### _law_taken -/
/-- the row of the script at a, at r -/
def RowAt (K : PySem.W.Frag) (H : Hp) (r a : Addr) (ns : List Int) : Prop := ∃ i x y : Int, 0 ≤ i ∧ H r = some (.lst [.ref a, .int i, .int x, .int y]) ∧ SqL K H a (ns.map V.int)
theorem script_keep {H H' : Hp} {r a : Addr} {ns : List Int} {v : V} {vs : List V} (h : SqL K H a (ns.map V.int)) (hr : H r = some (.lst (.ref a :: v :: vs))) (s : SameX r H H') : SqL K H' a (ns.map V.int) := by
  have ne : ∀ {o : HO}, H a = some o → (o = .lst (ns.map V.int) ∨ ∃ u, o = .frz u (.lst (ns.map V.int))) → a ≠ r := fun {o} h1 h2 z => by
    subst z
    rw [h1] at hr
    have hr := Option.some.inj hr
    rcases h2 with z | ⟨u, z⟩
    · rw [z] at hr
      have := HO.lst.inj hr
      cases ns with
      | nil => cases this
      | cons n ns => cases this
    · rw [z] at hr
      cases hr
  rcases h with (h | ⟨o, h⟩) | h
  · exact .inl (.inl (s _ _ (ne h (.inl rfl)) h))
  · exact .inl (.inr ⟨o, s _ _ (ne h (.inr ⟨o, rfl⟩)) h⟩)
  · exact .inr h
def spTaken (K : PySem.W.Frag) : Sp := fun vs H Q _ => ∃ (r a : Addr) (ns : List Int) (m : Int), vs = [.ref r, .int m] ∧ RowAt K H r a ns ∧ 0 < m ∧ m < 1073741824 ∧ ∀ H' z, 0 ≤ z → z < m → SameX r H H' → RowAt K H' r a ns → Q (.int z) H'
theorem ok__law_taken (D : Dn K mg "_law_taken" s__law_taken ["_law_row", "_law_many"]) (m_int : mg "int" = none) (m_len : mg "len" = none) : C8.Cal P w K mg base 1 "_law_taken" (spTaken K) [] := by
  refine cal1 D sc__law_taken (fun vs H Q E h => ?_) (fun cdv A outer s f H vs Q E hr h => ?_)
  · obtain ⟨r, a, ns, m, rfl, _⟩ := h
    rfl
  · obtain ⟨r, a, ns, m, rfl, ⟨i, x, y, hi, hR, hS⟩, hm0, hm1, q⟩ := h
    have nd := sc__law_taken.nd
    refine ⟨_, (pss_cons (ps_if (pt_cmpR op_gt (pe_ix (r := rIxL K) ix_list (pv 0) pe_int (fun _ _ => rfl)) pe_int (nomark _)) (pss_cons (ps_set (i := 2) nd rfl (.inl rfl) (pe_op op_mod (pe_callTy (T := "int") call_int1 (by rfl) m_int (by decide +kernel) (pa_cons (pe_ix (r := rIxL K) ix_list (pv 0) pe_int (fun _ _ => rfl)) pa_nil)) (pv 1)))
      (pss_cons (ps_asg (pe_op op_fdiv (pe_ix (r := rIxL K) ix_list (pv 0) pe_int (fun _ _ => rfl)) (pv 1)) (pg_sub (pv 0) pe_int set_list))
      (pss_one (ps_ret (pv 2))))) pss_nil)
      (pss_cons (ps_asg (pe_op op_add (pe_ix (r := rIxL K) ix_list (pv 0) pe_int (fun _ _ => rfl)) pe_int) (pg_sub (pv 0) pe_int set_list))
      (pss_cons (ps_if (pt_cmpR op_gt (pe_ix (r := rIxL K) ix_list (pv 0) pe_int (fun _ _ => rfl)) (pe_callB (id := "len") (r := rLenS K) cr_lenS (by rfl) m_len PySem.boot_len (pa_cons (pe_ix (r := rIxL K) ix_list (pv 0) pe_int (fun _ _ => rfl)) pa_nil)) (nomark _)) (pss_cons (ps_asg (pe_op op_mod (pe_callTy (T := "int") call_int1 (by rfl) m_int (by decide +kernel) (pa_cons (pe_op op_add (pe_op op_mul (pe_ix (r := rIxL K) ix_list (pv 0) pe_int (fun _ _ => rfl)) pe_int) pe_int) pa_nil)) pe_int) (pg_sub (pv 0) pe_int set_list))
      (pss_one (ps_ret (pe_op op_mod (pe_callTy (T := "int") call_int1 (by rfl) m_int (by decide +kernel) (pa_cons (pe_op op_fdiv (pe_ix (r := rIxL K) ix_list (pv 0) pe_int (fun _ _ => rfl)) pe_int) pa_nil)) (pv 1))))) pss_nil)
      (pss_cons (ps_set (i := 3) nd rfl (.inl rfl) (pe_ix (r := rIxL K) ix_list (pe_ix (r := rIxL K) ix_list (pv 0) pe_int (fun _ _ => rfl)) (pe_op op_sub (pe_ix (r := rIxL K) ix_list (pv 0) pe_int (fun _ _ => rfl)) pe_int) (fun _ _ => rfl)))
      (pss_cons (ps_asg (pe_op op_mod (pe_callTy (T := "int") call_int1 (by rfl) m_int (by decide +kernel) (pa_cons (pe_op op_add (pe_op op_add (pe_op op_mul (pe_ix (r := rIxL K) ix_list (pv 0) pe_int (fun _ _ => rfl)) pe_int) (pv 3)) pe_int) pa_nil)) pe_int) (pg_sub (pv 0) pe_int set_list))
      (pss_cons (ps_if (pt_cmpR op_ge (pv 3) (pe_op op_pow pe_int pe_int) (nomark _)) (pss_one (ps_asg (pe_op op_fdiv (pv 3) (pv 1)) (pg_sub (pv 0) pe_int set_list))) pss_nil)
      (pss_one (ps_ret (pe_op op_mod (pe_callTy (T := "int") call_int1 (by rfl) m_int (by decide +kernel) (pa_cons (pv 3) pa_nil)) (pv 1)))))))))), ?_⟩
    refine ⟨.ref r, rfl, r, _, 3, .int y, rfl, rfl, .of hR, atI_nat (j := 3) rfl, y, 0, rfl, rfl, _, rfl, ite2 (fun e => ?_) (fun e => ?_)⟩
    · refine ⟨.ref r, rfl, r, _, 3, .int y, rfl, rfl, .of hR, atI_nat (j := 3) rfl, .inl ⟨y, rfl, .int m, rfl, y, m, rfl, rfl, hm0, ?_⟩⟩
      refine ⟨.ref r, rfl, r, _, 3, .int y, rfl, rfl, .of hR, atI_nat (j := 3) rfl, .int m, rfl, y, m, rfl, rfl, ⟨hm0, hm1⟩, ?_⟩
      refine ⟨.ref r, rfl, r, _, 3, 3, rfl, rfl, hR, rfl, _, rfl, ?_⟩
      exact q _ _ (Int.emod_nonneg _ (by omega)) (Int.emod_lt_of_pos _ hm0) SameX.upd ⟨i, x, y / m, hi, upd_same, script_keep hS hR SameX.upd⟩
    · refine ⟨.ref r, rfl, r, _, 1, .int i, rfl, rfl, .of hR, atI_nat (j := 1) rfl, i, 1, rfl, rfl, .ref r, rfl, r, _, 1, 1, rfl, rfl, hR, rfl, ?_⟩
      have sx1 : SameX r H (upd H r (.lst [.ref a, .int (i + 1), .int x, .int y])) := SameX.upd
      have hS1 := script_keep hS hR sx1
      have hR1 : upd H r (.lst [.ref a, .int (i + 1), .int x, .int y]) r = some (.lst [.ref a, .int (i + 1), .int x, .int y]) := upd_same
      refine ⟨.ref r, rfl, r, _, 1, .int (i + 1), rfl, rfl, .of hR1, atI_nat (j := 1) rfl, .ref r, rfl, r, _, 0, .ref a, rfl, rfl, .of hR1, atI_nat (j := 0) rfl, a, _, rfl, .inl hS1, _, _, rfl, rfl, _, rfl, ite2 (fun e => ?_) (fun e => ?_)⟩
      · refine ⟨.ref r, rfl, r, _, 2, .int x, rfl, rfl, .of hR1, atI_nat (j := 2) rfl, x, 48271, rfl, rfl, .inr ⟨by decide, by decide⟩, _, 11, rfl, rfl, .inl ⟨_, rfl, _, 2147483647, rfl, rfl, (by decide : (0 : Int) < 2147483647), ?_⟩⟩
        refine ⟨.ref r, rfl, r, _, 2, 2, rfl, rfl, hR1, rfl, ?_⟩
        refine ⟨.ref r, rfl, r, _, 2, _, rfl, rfl, .of upd_same, atI_nat (j := 2) rfl, _, 7, rfl, rfl, ⟨by decide, by decide⟩, .inl ⟨_, rfl, .int m, rfl, _, m, rfl, rfl, hm0, ?_⟩⟩
        exact q _ _ (Int.emod_nonneg _ (by omega)) (Int.emod_lt_of_pos _ hm0) (sx1.trans SameX.upd) ⟨i + 1, _, y, by omega, upd_same, script_keep hS1 hR1 SameX.upd⟩
      · have hlt : i.toNat < ns.length := by
          have : ¬ (i + 1 > ((ns.map V.int).length : Int)) := fun z => e (decide_eq_true z)
          rw [List.length_map] at this
          omega
        obtain ⟨cell, ec⟩ : ∃ cell, cell = ns.getD i.toNat 0 := ⟨_, rfl⟩
        have hc : atI (ns.map V.int) (i + 1 - 1) = some (.int cell) := by
          rw [ec, show i + 1 - 1 = ((i.toNat : Nat) : Int) by omega]
          exact atI_nat (getI hlt)
        refine ⟨.ref r, rfl, r, _, 0, .ref a, rfl, rfl, .of hR1, atI_nat (j := 0) rfl, .ref r, rfl, r, _, 1, .int (i + 1), rfl, rfl, .of hR1, atI_nat (j := 1) rfl, i + 1, 1, rfl, rfl, a, _, i + 1 - 1, _, rfl, rfl, hS1, hc, ?_⟩
        refine ⟨.ref r, rfl, r, _, 2, .int x, rfl, rfl, .of hR1, atI_nat (j := 2) rfl, x, 48271, rfl, rfl, .inr ⟨by decide, by decide⟩, .int cell, rfl, _, cell, rfl, rfl, _, 11, rfl, rfl, .inl ⟨_, rfl, _, 2147483647, rfl, rfl, (by decide : (0 : Int) < 2147483647), ?_⟩⟩
        refine ⟨.ref r, rfl, r, _, 2, 2, rfl, rfl, hR1, rfl, ?_⟩
        have hR2 : ∀ v, upd (upd H r (.lst [.ref a, .int (i + 1), .int x, .int y])) r (.lst [.ref a, .int (i + 1), v, .int y]) r = some (.lst [.ref a, .int (i + 1), v, .int y]) := fun v => upd_same
        have hS2 : ∀ v, SqL K (upd (upd H r (.lst [.ref a, .int (i + 1), .int x, .int y])) r (.lst [.ref a, .int (i + 1), v, .int y])) a (ns.map V.int) := fun v => script_keep hS1 hR1 SameX.upd
        refine ⟨.int cell, rfl, 10, 18, rfl, rfl, ⟨by decide, by decide, by decide⟩, cell, _, rfl, rfl, _, rfl, ite2 (fun e2 => ?_) (fun e2 => ?_)⟩
        · refine ⟨.int cell, rfl, .int m, rfl, cell, m, rfl, rfl, ⟨hm0, hm1⟩, .ref r, rfl, r, _, 3, 3, rfl, rfl, hR2 _, rfl, ?_⟩
          refine ⟨.int cell, rfl, .inl ⟨cell, rfl, .int m, rfl, cell, m, rfl, rfl, hm0, ?_⟩⟩
          exact q _ _ (Int.emod_nonneg _ (by omega)) (Int.emod_lt_of_pos _ hm0) ((sx1.trans SameX.upd).trans SameX.upd) ⟨i + 1, _, cell / m, by omega, upd_same, script_keep (hS2 _) (hR2 _) SameX.upd⟩
        · refine ⟨.int cell, rfl, .inl ⟨cell, rfl, .int m, rfl, cell, m, rfl, rfl, hm0, ?_⟩⟩
          exact q _ _ (Int.emod_nonneg _ (by omega)) (Int.emod_lt_of_pos _ hm0) (sx1.trans SameX.upd) ⟨i + 1, _, y, by omega, hR2 _, hS2 _⟩
end
end DK
namespace DK
open PySem PySem.Spec PyProof.Rows L2
section
variable {P : Program} {w : World} {K : PySem.W.Frag} {mg : Str → Option Value} {base : Heap}
theorem kA_int : PySem.W.kitAny K (.type "int") [.type "tuple", .type "list"] = some false := by
  have h1 : PySem.W.kitOne K (.type "int") (.type "tuple") = some false := kit_ty (by decide +kernel)
  have h2 : PySem.W.kitOne K (.type "int") (.type "list") = some false := kit_ty (by decide +kernel)
  simp [PySem.W.kitAny, h1, h2]
theorem kA_tup : PySem.W.kitAny K (.type "tuple") [.type "tuple", .type "list"] = some true := by
  have h1 : PySem.W.kitOne K (.type "tuple") (.type "tuple") = some true := kit_ty (by decide +kernel)
  have h2 : PySem.W.kitOne K (.type "tuple") (.type "list") = some false := kit_ty (by decide +kernel)
  simp [PySem.W.kitAny, h1, h2]
theorem sh_int (i : Int) : SeqAt.shaped (.int i) = true := rfl
/-! ### _law_alike: of the same -/
def spA0 : Sp := fun vs H Q _ => ∃ x : Int, vs = [.int x, .int x] ∧ ∀ H', Same H H' → Q (.bl true) H'
theorem ok_alike0 (D : Dn K mg "_law_alike" s__law_alike ["_law_found", "_law_due"]) (m_isinstance : mg "isinstance" = none) (m_tuple : mg "tuple" = none) (m_list : mg "list" = none) (m_str : mg "str" = none) (m_int : mg "int" = none) (m_bool : mg "bool" = none) : C8.Cal P w K mg base 1 "_law_alike" spA0 [] := by
  refine cal1 D sc__law_alike (fun vs H Q E h => ?_) (fun cdv A outer s f H vs Q E hr h => ?_)
  · obtain ⟨x, rfl, _⟩ := h
    rfl
  · obtain ⟨x, rfl, q⟩ := h
    have nd := sc__law_alike.nd
    refine ⟨_, pss_cons (ps_if (pt_val (pe_callB (id := "isinstance") (r := rIsiT K) call_isiT (by rfl) m_isinstance (by decide +kernel) (pa_cons (pv 1) (pa_cons (pe_tup (pa_cons (pe_bltn (v := .ty "tuple") (by rfl) m_tuple (by decide +kernel) rfl) (pa_cons (pe_bltn (v := .ty "list") (by rfl) m_list (by decide +kernel) rfl) pa_nil))) pa_nil)))) pss_never pss_nil) (pss_cons (ps_if (PW.pt (pw_or (pt_cmpR op_isN (pv 1) pe_non (nomark _)) (pw_or1 (pt_val (pe_callB (id := "isinstance") (r := rIsi K) call_isi (by rfl) m_isinstance (by decide +kernel) (pa_cons (pv 1) (pa_cons (pe_bltn (v := .ty "str") (by rfl) m_str (by decide +kernel) rfl) pa_nil))))))) pss_never pss_nil) (pss_one (ps_ret (pe_and (pe_callB (id := "isinstance") (r := rIsi K) call_isi (by rfl) m_isinstance (by decide +kernel) (pa_cons (pv 0) (pa_cons (pe_bltn (v := .ty "int") (by rfl) m_int (by decide +kernel) rfl) pa_nil))) (pe_and (pe_cmpR op_eq (pe_callB (id := "isinstance") (r := rIsi K) call_isi (by rfl) m_isinstance (by decide +kernel) (pa_cons (pv 0) (pa_cons (pe_bltn (v := .ty "bool") (by rfl) m_bool (by decide +kernel) rfl) pa_nil))) (pe_callB (id := "isinstance") (r := rIsi K) call_isi (by rfl) m_isinstance (by decide +kernel) (pa_cons (pv 1) (pa_cons (pe_bltn (v := .ty "bool") (by rfl) m_bool (by decide +kernel) rfl) pa_nil))) (nomark _)) (pe_one (pe_cmpR (r := rEqD K) (op_eqD (hu64 hr)) (pv 0) (pv 1) (nomark _)))))))), ?_⟩
    refine ⟨.int x, rfl, by show 2 ≤ sizeLine; decide, fun t nt => ?_⟩
    have s1 : Same H (upd H t (.tup [V.ty "tuple", V.ty "list"])) := same_new nt
    refine ⟨.int x, t, _, .type "int", _, false, rfl, upd_same, .cons (.ty _) (.cons (.ty _) .nil), .base (.int x), kA_int, false, rfl, iteF' rfl ?_⟩
    refine ⟨.int x, rfl, rfl, _, rfl, iteF' rfl ?_⟩
    refine ⟨.int x, rfl, .int x, .ty "str", .type "int", .type "str", false, rfl, .ty _, .base (.int x), kit_ty (by decide +kernel), false, rfl, iteF' rfl ?_⟩
    refine ⟨.int x, rfl, .int x, .ty "int", .type "int", .type "int", true, rfl, .ty _, .base (.int x), kit_ty (by decide +kernel), true, rfl, iteT' rfl ?_⟩
    refine ⟨.int x, rfl, .int x, .ty "bool", .type "int", .type "bool", false, rfl, .ty _, .base (.int x), kit_ty (by decide +kernel), .int x, rfl, .int x, .ty "bool", .type "int", .type "bool", false, rfl, .ty _, .base (.int x), kit_ty (by decide +kernel), rfl, true, rfl, iteT' rfl ?_⟩
    refine ⟨.int x, rfl, .int x, rfl, .int x, .int x, .int x, .int x, sh_int x, sh_int x, ?_⟩
    have : PyData.eqv (.int x) (.int x) = true := by
      show (x == x) = true
      simp
    rw [this]
    exact q _ s1
def spAS (S : Sp) : Sp := fun vs H Q _ => ∃ (p r : Addr) (xs ys : List V), vs = [.ref p, .ref r] ∧ H p = some (.tup xs) ∧ H r = some (.tup ys) ∧ xs.length = ys.length ∧ xs.length ≤ 1000 ∧
  (∀ (i : Nat) x y H' Q' E', xs[i]? = some x → ys[i]? = some y → Same H H' → (∀ H'', Same H' H'' → Q' (.bl true) H'') → S [x, y] H' Q' E') ∧ ∀ H', Same H H' → Q (.bl true) H'
theorem ok_alikeS (D : Dn K mg "_law_alike" s__law_alike ["_law_found", "_law_due"]) (m_isinstance : mg "isinstance" = none) (m_tuple : mg "tuple" = none) (m_list : mg "list" = none) (m_len : mg "len" = none) (m_range : mg "range" = none) {S : Sp} {k : Nat} (c__law_alike : C8.Cal P w K mg base k "_law_alike" S []) : C8.Cal P w K mg base (k + 1) "_law_alike" (spAS S) [] := by
  refine cal1 D sc__law_alike (fun vs H Q E h => ?_) (fun cdv A outer s f H vs Q E hr h => ?_)
  · obtain ⟨p, r, xs, ys, rfl, _⟩ := h
    rfl
  · obtain ⟨p, r, xs, ys, rfl, hp, hq, hxy, hl, hS, q⟩ := h
    have nd := sc__law_alike.nd
    refine ⟨_, pss_cons (ps_if (pt_val (pe_callB (id := "isinstance") (r := rIsiT K) call_isiT (by rfl) m_isinstance (by decide +kernel) (pa_cons (pv 1) (pa_cons (pe_tup (pa_cons (pe_bltn (v := .ty "tuple") (by rfl) m_tuple (by decide +kernel) rfl) (pa_cons (pe_bltn (v := .ty "list") (by rfl) m_list (by decide +kernel) rfl) pa_nil))) pa_nil)))) (pss_cons (ps_if (PW.pt (pw_or (pt_not (pt_val (pe_callB (id := "isinstance") (r := rIsiT K) call_isiT (by rfl) m_isinstance (by decide +kernel) (pa_cons (pv 0) (pa_cons (pe_tup (pa_cons (pe_bltn (v := .ty "tuple") (by rfl) m_tuple (by decide +kernel) rfl) (pa_cons (pe_bltn (v := .ty "list") (by rfl) m_list (by decide +kernel) rfl) pa_nil))) pa_nil))))) (pw_or1 (pt_cmpR op_ne (pe_callB (id := "isinstance") (r := rIsi K) call_isi (by rfl) m_isinstance (by decide +kernel) (pa_cons (pv 0) (pa_cons (pe_bltn (v := .ty "list") (by rfl) m_list (by decide +kernel) rfl) pa_nil))) (pe_callB (id := "isinstance") (r := rIsi K) call_isi (by rfl) m_isinstance (by decide +kernel) (pa_cons (pv 1) (pa_cons (pe_bltn (v := .ty "list") (by rfl) m_list (by decide +kernel) rfl) pa_nil))) (nomark _))))) (pss_one (ps_ret pe_bl)) pss_nil)
      (pss_cons (ps_if (pt_cmpR op_ne (pe_callB (id := "len") (r := rLenS K) cr_lenS (by rfl) m_len PySem.boot_len (pa_cons (pv 0) pa_nil)) (pe_callB (id := "len") (r := rLenS K) cr_lenS (by rfl) m_len PySem.boot_len (pa_cons (pv 1) pa_nil)) (nomark _)) (pss_one (ps_ret pe_bl)) pss_nil)
      (pss_one (ps_ret (pe_cmpR (r := rEqD K) (op_eqD (hu64 hr)) (pe_lc (own := [("_law_k", 2)]) (g := gName 2) rfl nd (pi_range1 (by rfl) m_range (pa_cons (pe_callB (id := "len") (r := rLenS K) cr_lenS (by rfl) m_len PySem.boot_len (pa_cons (pv 1) pa_nil)) pa_nil)) (blkOk_by (N := ["_law_found", "_law_due", "_law_k"]) (sc := (C8.fnScope s__law_alike)) (by decide +kernel)) (fun _ _ _ _ _ => (pg_name (i := 2) nd rfl (Or.inl rfl))) (fun _ _ _ _ _ => pts_one (pt_not (pt_val (C8.pe_c c__law_alike hr (by first | decide | omega) (by rfl) (pa_cons (pe_ix (r := rIxT K) ix_tup (pv 0) (pv 2) (fun _ _ => rfl)) (pa_cons (pe_ix (r := rIxT K) ix_tup (pv 1) (pv 2) (fun _ _ => rfl)) pa_nil)))))) (fun _ _ _ _ _ => (pv 2))) (pe_lst pa_nil) (nomark _)))))) pss_nil) pss_never, ?_⟩
    refine ⟨.ref r, rfl, by show 2 ≤ sizeLine; decide, fun t nt => ?_⟩
    have s1 : Same H (upd H t (.tup [V.ty "tuple", V.ty "list"])) := same_new nt
    refine ⟨.ref r, t, _, .type "tuple", _, true, rfl, upd_same, .cons (.ty _) (.cons (.ty _) .nil), .base (.tup (s1 _ _ hq)), kA_tup, true, rfl, iteT' rfl ?_⟩
    refine ⟨.ref p, rfl, by show 2 ≤ sizeLine; decide, fun t2 nt2 => ?_⟩
    have s2 := s1.trans (same_new (o := .tup [V.ty "tuple", V.ty "list"]) nt2)
    refine ⟨.ref p, t2, _, .type "tuple", _, true, rfl, upd_same, .cons (.ty _) (.cons (.ty _) .nil), .base (.tup (s2 _ _ hp)), kA_tup, true, rfl, iteF' rfl ?_⟩
    refine ⟨.ref p, rfl, .ref p, .ty "list", .type "tuple", .type "list", false, rfl, .ty _, .base (.tup (s2 _ _ hp)), kit_ty (by decide +kernel), .ref r, rfl, .ref r, .ty "list", .type "tuple", .type "list", false, rfl, .ty _, .base (.tup (s2 _ _ hq)), kit_ty (by decide +kernel), rfl, _, rfl, iteF' rfl ?_⟩
    refine ⟨.ref p, rfl, p, xs, rfl, .inr (.of (s2 _ _ hp)), .ref r, rfl, r, ys, rfl, .inr (.of (s2 _ _ hq)), rfl, _, rfl, ?_⟩
    rw [hxy]
    refine iteF' (by rw [decide_eq_true rfl]; rfl) ?_
    refine ⟨.ref r, rfl, r, ys, rfl, .inr (.of (s2 _ _ hq)), (ys.length : Nat), rfl, by omega, by omega, fun Da nD => ?_⟩
    refine lc_intsC (walk_range0 (n := ys.length)) (fun _ => false) (fun i => (i : Int)) nD (Nat.le_of_lt (small1000 (by omega))) (fun _ _ => trivial) ?_ ?_
    · rintro i x H' _ Q' N hi sm ⟨rfl, rfl⟩ q1 q2
      have s3 := s2.trans sm
      refine ⟨rfl, .ref p, rfl, .int i, rfl, p, xs, i, xs[i], rfl, rfl, .of (s3 _ _ hp), atI_nat (List.getElem?_eq_getElem (by omega)), .ref r, rfl, .int i, rfl, r, ys, i, ys[i], rfl, rfl, .of (s3 _ _ hq), atI_nat (List.getElem?_eq_getElem hi), ?_⟩
      refine hS i _ _ _ _ _ (List.getElem?_eq_getElem (by omega)) (List.getElem?_eq_getElem hi) s3 fun H4 s4 => ?_
      exact ⟨true, rfl, iteF' rfl (q2 rfl _ s4)⟩
    · intro H1 sm h1
      have e0 : (((List.range ys.length).filter fun _ => false).map fun (i : Nat) => (i : Int)) = [] := by
        rw [show ((List.range ys.length).filter fun _ => false) = [] from List.filter_eq_nil_iff.mpr (fun _ _ h => by cases h)]
        rfl
      rw [e0] at h1
      refine ⟨by decide, fun l nl => ?_⟩
      have s5 := same_new (o := .lst []) nl
      refine ⟨_, _, dp_lst (ns := []) (s5 _ _ h1), dp_lst (ns := []) upd_same, sh_listI [], sh_listI [], ?_⟩
      rw [eq_nil]
      exact q _ ((s2.trans sm).trans s5)
/-! ### _law_pick -/
def spPick (K : PySem.W.Frag) : Sp := fun vs H Q _ => ∃ (r a t : Addr) (ns : List Int) (ws : List (List Int)), vs = [.ref r, .ref t] ∧ RowAt K H r a ns ∧ LstT H t ws ∧ 0 < ws.length ∧ ws.length < 1073741824 ∧ ∀ H' p c, c ∈ ws → SameX r H H' → RowAt K H' r a ns → TupAt H' p c → Q (.ref p) H'
theorem ok__law_pick (D : Dn K mg "_law_pick" s__law_pick ["_law_row", "_law_things"]) (c__law_taken : C8.Cal P w K mg base 1 "_law_taken" (spTaken K) []) (m_len : mg "len" = none) : C8.Cal P w K mg base 2 "_law_pick" (spPick K) [] := by
  refine cal1 D sc__law_pick (fun vs H Q E h => ?_) (fun cdv A outer s f H vs Q E hr h => ?_)
  · obtain ⟨r, a, t, ns, ws, rfl, _⟩ := h
    rfl
  · obtain ⟨r, a, t, ns, ws, rfl, hR, ⟨ps, hL, hP⟩, hw0, hw1, q⟩ := h
    have nd := sc__law_pick.nd
    have lps : ps.length = ws.length := paired_len hP
    refine ⟨_, (pss_one (ps_ret (pe_ix (r := rIxL K) ix_list (pv 1) (C8.pe_c c__law_taken hr (by first | decide | omega) (by rfl) (pa_cons (pv 0) (pa_cons (pe_callB (id := "len") (r := rLenS K) cr_lenS (by rfl) m_len PySem.boot_len (pa_cons (pv 1) pa_nil)) pa_nil))) (fun _ _ => rfl)))), ?_⟩
    refine ⟨.ref t, rfl, .ref r, rfl, .ref t, rfl, t, _, rfl, .inl (.of hL), r, a, ns, _, rfl, hR, by rw [List.length_map, lps]; omega, by rw [List.length_map, lps]; omega, fun H1 z hz0 hz1 sx hR1 => ?_⟩
    rw [List.length_map, lps] at hz1
    have htr : t ≠ r := fun z => by
      subst z
      obtain ⟨i, x, y, _, e, _⟩ := hR
      rw [hL] at e
      have := HO.lst.inj (Option.some.inj e)
      cases ps with
      | nil => cases this
      | cons p1 ps =>
        have := (List.cons.inj this).2
        cases ps with
        | nil => cases this
        | cons p2 ps => cases (List.cons.inj this).1
    have hL1 := sx _ _ htr hL
    have hP1 : Tups H1 ps ws := paired_mono (fun b v h => sx _ _ (fun z => by
      subst z
      obtain ⟨i, x, y, _, e, _⟩ := hR
      rw [show H b = some (.tup (v.map V.int)) from h] at e
      cases e) h) hP
    obtain ⟨j, rfl⟩ : ∃ j : Nat, z = j := ⟨z.toNat, by omega⟩
    have hj : j < ps.length := by omega
    have g : (ps.map V.ref)[j]? = some (.ref ps[j]) := by
      rw [List.getElem?_map, List.getElem?_eq_getElem hj]
      rfl
    obtain ⟨p, e, hp, hw⟩ := tups_at hP1 g
    have e : ps[j] = p := V.ref.inj e
    refine ⟨t, _, j, .ref p, rfl, rfl, .of hL1, atI_nat (by rw [g, e]), q _ _ _ (List.mem_of_getElem? hw) sx hR1 hp⟩
end
end DK
namespace DK
open PySem PySem.Spec PyProof.Rows L2
section
variable {P : Program} {w : World} {K : PySem.W.Frag} {mg : Str → Option Value} {base : Heap}
/-! ### alike, of tuples of tuples -/
theorem alike_row {H : Hp} {p r : Addr} {u : List Int} {Q : VK} {E : XK} (hp : TupAt H p u) (hr : TupAt H r u) (hl : u.length ≤ 1000) (q : ∀ H', Same H H' → Q (.bl true) H') : spAS spA0 [.ref p, .ref r] H Q E := by
  refine ⟨p, r, u.map V.int, u.map V.int, rfl, hp, hr, rfl, by simpa using hl, fun i x y H' Q' E' hx hy s k => ?_, q⟩
  obtain ⟨rfl, _⟩ := ints_at hx
  obtain ⟨rfl, _⟩ := ints_at hy
  exact ⟨_, rfl, k⟩
theorem alike_tab {H : Hp} {p r : Addr} {ps qs : List Addr} {ws : List (List Int)} {Q : VK} {E : XK} (hp : H p = some (.tup (ps.map V.ref))) (hr : H r = some (.tup (qs.map V.ref))) (hP : Tups H ps ws) (hQ : Tups H qs ws) (hl : ws.length ≤ 1000) (hw : ∀ u ∈ ws, u.length ≤ 1000) (q : ∀ H', Same H H' → Q (.bl true) H') : spAS (spAS spA0) [.ref p, .ref r] H Q E := by
  refine ⟨p, r, ps.map V.ref, qs.map V.ref, rfl, hp, hr, ?_, ?_, fun i x y H' Q' E' hx hy s k => ?_, q⟩
  · rw [List.length_map, List.length_map, paired_len hP, paired_len hQ]
  · rw [List.length_map, paired_len hP]
    exact hl
  · obtain ⟨a, rfl, ha, g⟩ := tups_at (hP.same s) hx
    obtain ⟨b, rfl, hb, _⟩ := tups_at (hQ.same s) hy
    exact alike_row ha hb (hw _ (List.mem_of_getElem? g)) k
/-! ### the row -/
theorem RowAt.same {H H' : Hp} {r a : Addr} {ns : List Int} (h : RowAt K H r a ns) (s : Same H H') : RowAt K H' r a ns := by
  obtain ⟨i, x, y, h0, h1, h2⟩ := h
  exact ⟨i, x, y, h0, s _ _ h1, s.seq h2⟩
theorem row_ne {H : Hp} {r a b : Addr} {ns : List Int} (h : RowAt K H r a ns) (hb : H b = none) : b ≠ r := by
  obtain ⟨i, x, y, h0, h1, h2⟩ := h
  exact fun z => by
    subst z
    rw [h1] at hb
    cases hb
theorem row_tup {H : Hp} {r a b : Addr} {ns : List Int} {xs : List V} (h : RowAt K H r a ns) (hb : H b = some (.tup xs)) : b ≠ r := by
  obtain ⟨i, x, y, h0, h1, h2⟩ := h
  exact fun z => by
    subst z
    rw [h1] at hb
    cases hb
theorem LstT.but {H H' : Hp} {r a b : Addr} {ns : List Int} {ws : List (List Int)} (h : LstT H b ws) (hR : RowAt K H r a ns) (hb : b ≠ r) (s : SameX r H H') : LstT H' b ws := by
  obtain ⟨ps, h1, h2⟩ := h
  exact ⟨ps, s _ _ hb h1, paired_mono (fun p v h => s _ _ (row_tup hR h) h) h2⟩
/-! ### the inner comprehensions' scopes -/
def sc_min : Scope := { kind := .function, names := [(".0", .local), ("_law_word", .cell), ("min", .globalImplicit), ("range", .globalImplicit), ("_law_many", .cell)], isGenerator := false, isCoroutine := false }
def sc_len : Scope := { kind := .function, names := [(".0", .local), ("_law_word", .cell), ("len", .globalImplicit), ("set", .globalImplicit), ("range", .globalImplicit), ("_law_many", .cell)], isGenerator := false, isCoroutine := false }
theorem paired_app {α β : Type} {R : α → β → Prop} : ∀ {xs xs' : List α} {ys ys' : List β}, Paired R xs ys → Paired R xs' ys' → Paired R (xs ++ xs') (ys ++ ys')
  | _, _, _, _, .nil, h => h
  | _, _, _, _, .cons r t, h => .cons r (paired_app t h)
theorem two_len {cs : List (Int × Int)} : ∀ u ∈ two cs, u.length = 2 := fun u hu => by
  unfold two at hu
  obtain ⟨p, _, rfl⟩ := List.mem_map.mp hu
  rfl
/-- what okPick says of the coins -/
structure Picked (f : Int) (m : Nat) (c : List Int) : Prop where
  in0 : ∀ x ∈ c, 0 ≤ x ∧ x ≤ 1000000
  s : 0 < c.sum
  g : 0 < DP.gcdL c
  g1 : DP.gcdL c < 1000000
  fo : DP.foreverM f c = some true
  lf : DP.lawForL f 40 c [] = some true
  sp : ∃ a r o w, DP.splitL f 10 (DP.sharedM c).sum 0 = some (a, r) ∧ 0 < r ∧ DP.orderM f r = some o ∧ (a ≤ 0 ∨ c.sum ≤ DP.maxI c) ∧ 1 ≤ o ∧ o ≤ 60 ∧ DP.alongL f o.toNat c = some w ∧ m % o.toNat = 0
theorem picked {f : Int} {m : Nat} {c : List Int} (h : DP.okPick f m c = true) : Picked f m c := by
  unfold DP.okPick at h
  simp only [Bool.and_eq_true, decide_eq_true_eq, beq_iff_eq, List.all_eq_true] at h
  obtain ⟨⟨⟨⟨⟨⟨h1, h2⟩, h3⟩, h4⟩, h5⟩, h6⟩, h7⟩ := h
  refine ⟨fun x hx => h1 x hx, h2, h3, h4, h5, h6, ?_⟩
  cases e : DP.splitL f 10 (DP.sharedM c).sum 0 with
  | none => rw [e] at h7; cases h7
  | some p =>
    obtain ⟨a, r⟩ := p
    rw [e] at h7
    have h7 : DP.okPer f m c a r = true := h7
    unfold DP.okPer at h7
    simp only [Bool.and_eq_true, decide_eq_true_eq] at h7
    obtain ⟨h8, h9⟩ := h7
    cases e2 : DP.orderM f r with
    | none => rw [e2] at h9; cases h9
    | some o =>
      rw [e2] at h9
      simp only [Bool.and_eq_true, Bool.or_eq_true, decide_eq_true_eq] at h9
      obtain ⟨⟨⟨⟨g1, g2⟩, g3⟩, g4⟩, g5⟩ := h9
      obtain ⟨w, hw⟩ := Option.isSome_iff_exists.mp g4
      exact ⟨a, r, o, w, rfl, h8, e2, g1, g2, g3, hw, g5⟩
theorem joinZ {G : Int → Hp → Prop} {A : Prop} {cond : Int → Hp → Prop} (main : (∀ z H, cond z H → G z H) → A) (go : ∀ z H, cond z H → G z H) : A := main go
/-! ### law -/
def Dom (n m : Nat) : Prop := 1 ≤ n ∧ n ≤ 4 ∧ 1 ≤ m ∧ m ≤ (if n < 4 then 5 else 4)
theorem Dom.m5 {n m : Nat} (h : Dom n m) : m ≤ 5 := by
  have h4 := h.2.2.2
  split at h4 <;> omega
theorem Dom.nm {n m : Nat} (h : Dom n m) : n ^ m ≤ 1024 := by
  have h5 := h.m5
  have h2 := h.2.1
  calc n ^ m ≤ 4 ^ m := Nat.pow_le_pow_left h2 m
    _ ≤ 4 ^ 5 := Nat.pow_le_pow_right (by decide) h5
def spLaw (K : PySem.W.Frag) : Sp := fun vs H Q _ => ∃ (a : Addr) (ns : List Int), vs = [.ref a] ∧ SqL K H a (ns.map V.int) ∧ ns.length ≤ 63 ∧ ∀ H', Q (.bl true) H'
theorem fnok1 {x : Str} {st : Stmt} {f : Addr} {fd : FuncData} {N ps : List Str} {k : Nat} {sp : Sp} (F : L2.Fun K x x st f fd) (sc : FnScope N ps (C8.fnScope st))
    (len : ∀ vs H Q E, sp vs H Q E → vs.length = ps.length)
    (walk : ∀ (cdv : Value) (A : Around) (outer : List Env) (s : Shared) (f : Addr) (H : Hp) (vs : List V) (Q : VK) (E : XK),
      Room k (Around.deeper A (envOfC x (C8.fnScope st) s.heap.objs.size f cdv)) → sp vs H Q E →
      ∃ t, PSs (Cx.nox (cxOf C8.CX0 P w K mg base N x (C8.fnScope st) f cdv A outer s H E)) (C8.fnBody st) t ∧ t { nx := fun _ H' => Q .non H', rt := Q } (L2.start N vs) H) :
    FnOk P w K mg base CX0 (k + 1) f fd ps sp :=
  F.ok sc len fun cdv A outer s H vs Q E hr h => walk cdv A outer s f H vs Q E hr h
theorem ok_law {fl : Addr} {fdl : FuncData} (D : L2.Fun K "law" "law" s_law fl fdl) (c__law_taken : C8.Cal P w K mg base 1 "_law_taken" (spTaken K) []) (c_necklaces : C8.Cal P w K mg base 3 "necklaces" spNeck [])
    (c_al0 : C8.Cal P w K mg base 1 "_law_alike" spA0 []) (c_al2 : C8.Cal P w K mg base 3 "_law_alike" (spAS (spAS spA0)) [])
    (c_cycle_lengths : C8.Cal P w K mg base 5 "cycle_lengths" spCyc []) (c_all_tables : C8.Cal P w K mg base 5 "all_tables" spAllT []) (c__law_pick : C8.Cal P w K mg base 2 "_law_pick" (spPick K) []) (c_word_again : C8.Cal P w K mg base 5 "word_again" spAgain [])
    (c__law_forever : C8.Cal P w K mg base 3 "_law_forever" spLFor []) (c_forever_tables : C8.Cal P w K mg base 6 "forever_tables" (fun vs H Q E => spTabs vs H Q E ∧ ∃ (a b : V) (t : Int), vs = [a, b, .int t] ∧ 1 ≤ t) [])
    (m_range : mg "range" = none) (m_sorted : mg "sorted" = none) (m_set : mg "set" = none) (m_min : mg "min" = none) (m_len : mg "len" = none) (m_tuple : mg "tuple" = none) (m_sum : mg "sum" = none) (m_int : mg "int" = none)
    (T : ∀ n m, Dom n m → DP.okTop n m = true) (M : ∀ f n m : Nat, 2 ≤ f → f ≤ 4 → Dom n m → DP.okMid (f : Int) n m = true) :
    FnOk P w K mg base CX0 7 fl fdl ["_law_script"] (spLaw K) := by
  refine fnok1 D sc_law (fun vs H Q E h => ?_) (fun cdv A outer s f H vs Q E hr h => ?_)
  · obtain ⟨a, ns, rfl, _⟩ := h
    rfl
  · obtain ⟨a, ns, rfl, hS, hlen, q⟩ := h
    have nd := sc_law.nd
    refine ⟨_, (pss_cons (ps_set (i := 1) nd rfl (.inl rfl) (pe_lst (pa_cons (pv 0) (pa_cons pe_int (pa_cons pe_int (pa_cons pe_int pa_nil))))))
      (pss_cons (ps_set (i := 2) nd rfl (.inl rfl) (pe_op op_add pe_int (C8.pe_c c__law_taken hr (by first | decide | omega) (by rfl) (pa_cons (pv 1) (pa_cons pe_int pa_nil)))))
      (pss_cons (ps_set (i := 3) nd rfl (.inr rfl) (pe_op op_add pe_int (C8.pe_c c__law_taken hr (by first | decide | omega) (by rfl) (pa_cons (pv 1) (pa_cons (pe_ifExp (pt_cmpR op_lt (pv 2) pe_int (nomark _)) pe_int pe_int) pa_nil)))))
      (pss_cons (ps_set (i := 4) nd rfl (.inl rfl) (pe_lst (pa_cons (pe_tup pa_nil) pa_nil)))
      (pss_cons (ps_for PassesOwn.never rfl (pi_range1 (by rfl) m_range (pa_cons (pv 3) pa_nil)) (pg_name (i := 5) nd rfl (Or.inl rfl)) (pss_cons (ps_set (i := 6) nd rfl (.inl rfl) (pe_lst pa_nil))
      (pss_cons (ps_for PassesOwn.never rfl (pi_list (pv 4)) (pg_name (i := 7) nd rfl (Or.inr rfl)) (pss_one (ps_set (i := 6) nd rfl (.inl rfl) (pe_op op_cat (pv 6) (pe_lc (own := [("_law_payer", 16)]) (g := gName 16) (tt := tYes) rfl nd (pi_range1 (by rfl) m_range (pa_cons (pv 2) pa_nil)) (blkOk_by (N := ["_law_script", "_law_row", "_law_players", "_law_many", "_law_words", "_law_turn", "_law_more", "_law_word", "_law_least", "_law_lengths", "_law_due", "_law_factor", "_law_size", "_law_told", "_law_coins", "_law_again", "_law_payer", "_law_k", "_law_length"]) (sc := (C8.fnScope s_law)) (by decide +kernel)) (fun _ _ _ _ _ => (pg_name (i := 16) nd rfl (Or.inl rfl))) (fun _ _ _ _ _ => pts_nil) (fun _ _ _ _ _ => (pe_op (r := rCatA K) op_catA (pv 7) (pe_tup (pa_cons (pv 16) pa_nil)))))))))
      (pss_one (ps_set (i := 4) nd rfl (.inl rfl) (pv 6))))))
      (pss_cons (ps_set (i := 8) nd rfl (.inl rfl) (pe_callB (id := "sorted") (r := rSortB P w) (cr_sortB rfl (hu4 hr)) (by rfl) m_sorted (by decide +kernel) (pa_cons (pe_callTy (T := "set") (r := rSetL P w) (cr_setL rfl (hu64 hr)) (by rfl) m_set (by decide +kernel) (pa_cons (pe_lc (own := [("_law_word", 7)]) (g := gName 7) (tt := tYes) rfl nd (pi_list (pv 4)) (blkOk_by (N := ["_law_script", "_law_row", "_law_players", "_law_many", "_law_words", "_law_turn", "_law_more", "_law_word", "_law_least", "_law_lengths", "_law_due", "_law_factor", "_law_size", "_law_told", "_law_coins", "_law_again", "_law_payer", "_law_k", "_law_length"]) (sc := (C8.fnScope s_law)) (by decide +kernel)) (fun _ _ _ _ _ => (pg_name (i := 7) nd rfl (Or.inr rfl))) (fun _ _ _ _ _ => pts_nil) (fun _ _ _ _ _ => (pe_callB (id := "min") (r := rMinL) (cr_minL rfl (hu3 hr)) (by rfl) m_min (by decide +kernel) (pa_cons (pe_lc (own := [("_law_k", 17)]) (g := gName 17) (tt := tYes) rfl nd (pi_range1 (by rfl) m_range (pa_cons (pv 3) pa_nil)) (blkOk_by (N := ["_law_script", "_law_row", "_law_players", "_law_many", "_law_words", "_law_turn", "_law_more", "_law_word", "_law_least", "_law_lengths", "_law_due", "_law_factor", "_law_size", "_law_told", "_law_coins", "_law_again", "_law_payer", "_law_k", "_law_length"]) (sc := sc_min) (by decide +kernel)) (fun _ _ _ _ _ => (pg_name (i := 17) nd rfl (Or.inl rfl))) (fun _ _ _ _ _ => pts_nil) (fun _ _ _ _ _ => (pe_op (r := rCatA K) op_catA (pe_slice (r := rSlA K) sl_tupA (pv 7) (po_some (pv 17)) po_none) (pe_slice (r := rSlA K) sl_tupA (pv 7) po_none (po_some (pv 17)))))) pa_nil)))) pa_nil)) pa_nil)))
      (pss_cons (ps_if (pt_not (pt_val (C8.pe_c c_al0 hr (by first | decide | omega) (by rfl) (pa_cons (C8.pe_c c_necklaces hr (by first | decide | omega) (by rfl) (pa_cons (pv 2) (pa_cons (pv 3) pa_nil))) (pa_cons (pe_callB (id := "len") (r := rLenS K) cr_lenS (by rfl) m_len PySem.boot_len (pa_cons (pv 8) pa_nil)) pa_nil))))) (pss_one (ps_ret pe_bl)) pss_nil)
      (pss_cons (ps_set (i := 9) nd rfl (.inr rfl) (pe_lc (own := [("_law_word", 7)]) (g := gName 7) (tt := tYes) rfl nd (pi_list (pv 8)) (blkOk_by (N := ["_law_script", "_law_row", "_law_players", "_law_many", "_law_words", "_law_turn", "_law_more", "_law_word", "_law_least", "_law_lengths", "_law_due", "_law_factor", "_law_size", "_law_told", "_law_coins", "_law_again", "_law_payer", "_law_k", "_law_length"]) (sc := (C8.fnScope s_law)) (by decide +kernel)) (fun _ _ _ _ _ => (pg_name (i := 7) nd rfl (Or.inr rfl))) (fun _ _ _ _ _ => pts_nil) (fun _ _ _ _ _ => (pe_callB (id := "len") (r := rLenB P w) cr_lenB (by rfl) m_len PySem.boot_len (pa_cons (pe_callTy (T := "set") (r := rSetL P w) (cr_setL rfl (hu64 hr)) (by rfl) m_set (by decide +kernel) (pa_cons (pe_lc (own := [("_law_k", 17)]) (g := gName 17) (tt := tYes) rfl nd (pi_range1 (by rfl) m_range (pa_cons (pv 3) pa_nil)) (blkOk_by (N := ["_law_script", "_law_row", "_law_players", "_law_many", "_law_words", "_law_turn", "_law_more", "_law_word", "_law_least", "_law_lengths", "_law_due", "_law_factor", "_law_size", "_law_told", "_law_coins", "_law_again", "_law_payer", "_law_k", "_law_length"]) (sc := sc_len) (by decide +kernel)) (fun _ _ _ _ _ => (pg_name (i := 17) nd rfl (Or.inl rfl))) (fun _ _ _ _ _ => pts_nil) (fun _ _ _ _ _ => (pe_op (r := rCatA K) op_catA (pe_slice (r := rSlA K) sl_tupA (pv 7) (po_some (pv 17)) po_none) (pe_slice (r := rSlA K) sl_tupA (pv 7) po_none (po_some (pv 17)))))) pa_nil)) pa_nil)))))
      (pss_cons (ps_set (i := 10) nd rfl (.inl rfl) (pe_callTy (T := "tuple") (r := rTupOf K) cr_tupOf (by rfl) m_tuple (by decide +kernel) (pa_cons (pe_lc (own := [("_law_length", 18)]) (g := gName 18) (tt := tYes) rfl nd (pi_list (pe_callB (id := "sorted") (r := rSortI w) (cr_sortI rfl) (by rfl) m_sorted (by decide +kernel) (pa_cons (pe_callTy (T := "set") (r := rSetI w) (cr_setI rfl (hu64 hr)) (by rfl) m_set (by decide +kernel) (pa_cons (pv 9) pa_nil)) pa_nil))) (blkOk_by (N := ["_law_script", "_law_row", "_law_players", "_law_many", "_law_words", "_law_turn", "_law_more", "_law_word", "_law_least", "_law_lengths", "_law_due", "_law_factor", "_law_size", "_law_told", "_law_coins", "_law_again", "_law_payer", "_law_k", "_law_length"]) (sc := (C8.fnScope s_law)) (by decide +kernel)) (fun _ _ _ _ _ => (pg_name (i := 18) nd rfl (Or.inl rfl))) (fun _ _ _ _ _ => pts_nil) (fun _ _ _ _ _ => (pe_tup (pa_cons (pv 18) (pa_cons (bmK (K := K) (r := rCntI K) rfl (pe_bm PySem.F.plainAttrs_list PySem.F.slot_list_count PySem.F.type_list_count mt_lcount (pv 9) (pa_cons (pv 18) pa_nil))) pa_nil))))) pa_nil)))
      (pss_cons (ps_asg (pe_tup (pa_cons (pe_op op_add pe_int (C8.pe_c c__law_taken hr (by first | decide | omega) (by rfl) (pa_cons (pv 1) (pa_cons pe_int pa_nil)))) (pa_cons pe_int pa_nil))) (pg_tup rfl (pgs_cons (pg_name (i := 11) nd rfl (Or.inl rfl)) (pgs_cons (pg_name (i := 12) nd rfl (Or.inr rfl)) pgs_nil))))
      (pss_cons (ps_if (pt_not (pt_val (C8.pe_c c_al2 hr (by first | decide | omega) (by rfl) (pa_cons (C8.pe_c c_cycle_lengths hr (by first | decide | omega) (by rfl) (pa_cons (pv 11) (pa_cons (pv 2) (pa_cons (pv 3) pa_nil)))) (pa_cons (pv 10) pa_nil))))) (pss_one (ps_ret pe_bl)) pss_nil)
      (pss_cons (ps_for PassesOwn.never rfl (pi_range1 (by rfl) m_range (pa_cons (pv 3) pa_nil)) (pg_name (i := 5) nd rfl (Or.inl rfl)) (pss_one (ps_set (i := 12) nd rfl (.inr rfl) (pe_op op_mul (pv 12) (pv 11)))))
      (pss_cons (ps_set (i := 13) nd rfl (.inl rfl) (C8.pe_c c_all_tables hr (by first | decide | omega) (by rfl) (pa_cons (pv 11) (pa_cons (pv 2) (pa_cons (pv 3) pa_nil)))))
      (pss_cons (ps_if (PW.pt (pw_or (pt_cmpR op_ne (pe_callB (id := "len") (r := rLenS K) cr_lenS (by rfl) m_len PySem.boot_len (pa_cons (pv 13) pa_nil)) (pe_callB (id := "len") (r := rLenS K) cr_lenS (by rfl) m_len PySem.boot_len (pa_cons (pv 4) pa_nil)) (nomark _)) (pw_or1 (pt_cmpR (r := rNeD K) (op_neD (hu64 hr)) (pv 13) (pe_callB (id := "sorted") (cr_sortedL (hu4 hr)) (by rfl) m_sorted (by decide +kernel) (pa_cons (pv 13) pa_nil)) (nomark _))))) (pss_one (ps_ret pe_bl)) pss_nil)
      (pss_cons (ps_if (pt_cmpR (r := rNeD K) (op_neD (hu64 hr)) (pe_lc (own := [("_law_coins", 14)]) (g := gName 14) rfl nd (pi_list (pv 13)) (blkOk_by (N := ["_law_script", "_law_row", "_law_players", "_law_many", "_law_words", "_law_turn", "_law_more", "_law_word", "_law_least", "_law_lengths", "_law_due", "_law_factor", "_law_size", "_law_told", "_law_coins", "_law_again", "_law_payer", "_law_k", "_law_length"]) (sc := (C8.fnScope s_law)) (by decide +kernel)) (fun _ _ _ _ _ => (pg_name (i := 14) nd rfl (Or.inl rfl))) (fun _ _ _ _ _ => pts_one (pt_cmpR op_ne (pe_callB (id := "sum") (r := rSumT K) (cr_sumT rfl) (by rfl) m_sum (by decide +kernel) (pa_cons (pv 14) pa_nil)) (pe_op op_sub (pv 12) pe_int) (nomark _))) (fun _ _ _ _ _ => (pv 14))) (pe_lst pa_nil) (nomark _)) (pss_one (ps_ret pe_bl)) pss_nil)
      (pss_cons (ps_set (i := 14) nd rfl (.inl rfl) (C8.pe_c c__law_pick hr (by first | decide | omega) (by rfl) (pa_cons (pv 1) (pa_cons (pv 13) pa_nil))))
      (pss_cons (ps_set (i := 15) nd rfl (.inl rfl) (C8.pe_c c_word_again hr (by first | decide | omega) (by rfl) (pa_cons (pe_tup (pa_cons (pv 11) (pa_cons (pv 14) pa_nil))) pa_nil)))
      (pss_cons (ps_if (PW.pt (pw_or (pt_cmpR op_isN (pv 15) pe_non (nomark _)) (pw_or (pt_cmpR op_ne (pe_op op_mod (pe_callTy (T := "int") call_int1 (by rfl) m_int (by decide +kernel) (pa_cons (pv 3) pa_nil)) (pe_callB (id := "len") (r := rLenS K) cr_lenS (by rfl) m_len PySem.boot_len (pa_cons (pv 15) pa_nil))) pe_int (nomark _)) (pw_or1 (pt_not (pt_val (C8.pe_c c__law_forever hr (by first | decide | omega) (by rfl) (pa_cons (pv 11) (pa_cons (pv 14) pa_nil))))))))) (pss_one (ps_ret pe_bl)) pss_nil)
      (pss_one (ps_ret (pe_or (pe_cmpR op_gt (pv 12) pe_int (nomark _)) (pe_one (pe_cmpR (r := rEqD K) (op_eqD (hu64 hr)) (C8.pe_c c_forever_tables hr (by first | decide | omega) (by rfl) (pa_cons (pv 11) (pa_cons (pv 2) (pa_cons (pe_op op_sub (pv 12) pe_int) pa_nil)))) (pv 13) (nomark _)))))))))))))))))))))))), ?_⟩
    -- the row
    refine ⟨.ref a, rfl, by show 4 ≤ sizeLine; decide, fun r nr => ?_⟩
    have R0 : RowAt K (upd H r (.lst [.ref a, .int 0, .int 9817, .int 0])) r a ns := ⟨0, 9817, 0, Int.le_refl _, upd_same, (same_new nr).seq hS⟩
    -- players, many
    refine ⟨.ref r, rfl, r, a, ns, 4, rfl, R0, by decide, by decide, fun H1 z1 z10 z11 sx1 R1 => ⟨1, z1, rfl, rfl, ?_⟩⟩
    obtain ⟨n, hn⟩ : ∃ n : Nat, (1 : Int) + z1 = (n : Int) := ⟨(1 + z1).toNat, by omega⟩
    show gName 2 (V.int (1 + z1)) _ _ _
    rw [hn]
    refine ⟨.ref r, rfl, .int n, rfl, n, 4, rfl, rfl, _, rfl, ?_⟩
    refine' joinZ (cond := fun z H2 => 0 ≤ z ∧ z < (if n < 4 then 5 else 4) ∧ SameX r H1 H2 ∧ RowAt K H2 r a ns) (fun go => ?main) ?go
    case main =>
      refine ite2 (fun e => ?_) (fun e => ?_)
      · have e := of_decide_eq_true e
        exact ⟨r, a, ns, 5, rfl, R1, by decide, by decide, fun H2 z2 z20 z21 sx2 R2 => ⟨1, z2, rfl, rfl, go z2 H2 ⟨z20, by rw [if_pos (by omega)]; exact z21, sx2, R2⟩⟩⟩
      · have e : ¬ (n : Int) < 4 := fun z => e (decide_eq_true z)
        exact ⟨r, a, ns, 4, rfl, R1, by decide, by decide, fun H2 z2 z20 z21 sx2 R2 => ⟨1, z2, rfl, rfl, go z2 H2 ⟨z20, by rw [if_neg (by omega)]; exact z21, sx2, R2⟩⟩⟩
    case go =>
      rintro z2 H2 ⟨z20, z21, sx2, R2⟩
      obtain ⟨m, hm⟩ : ∃ m : Nat, (1 : Int) + z2 = (m : Int) := ⟨(1 + z2).toNat, by omega⟩
      show gName 3 (V.int (1 + z2)) _ _ _
      rw [hm]
      have dom : Dom n m := ⟨by omega, by omega, by omega, by split at z21 <;> split <;> omega⟩
      have hm1 := dom.2.2.1
      have hm5 := dom.m5
      have hn1 := dom.1
      have hn4 := dom.2.1
      have hnm := dom.nm
      -- words
      refine ⟨by show 0 ≤ sizeLine; decide, fun t0 n0 => ⟨by show 1 ≤ sizeLine; decide, fun l0 nl0 => ?_⟩⟩
      have sm0 : Same H2 (upd (upd H2 t0 (.tup [])) l0 (.lst [.ref t0])) := (same_new n0).trans (same_new nl0)
      have ht0 : TupAt (upd (upd H2 t0 (.tup [])) l0 (.lst [.ref t0])) t0 [] := by
        show upd (upd H2 t0 _) l0 _ t0 = _
        rw [upd_ne (ne_of_none upd_same nl0), upd_same]
        rfl
      refine ⟨.int m, rfl, m, rfl, by omega, by omega, for_range (n := m) (fun i σ H' => ∃ l y5 y6 y7, σ = [some (.ref a), some (.ref r), some (.int n), some (.int m), some (.ref l), y5, y6, y7, none, none, none, none, none, none, none, none, none, none, none] ∧ Same H2 H' ∧ H2 l = none ∧ LstT H' l (DP.wordsM n i)) ⟨l0, _, _, _, rfl, sm0, none_of (same_new n0) nl0, [t0], upd_same, .cons ht0 .nil⟩ ?_ ?_⟩
      · rintro i σ H' hi ⟨l, y5, y6, y7, rfl, sm, nl, hl⟩
        refine ⟨by show 0 ≤ sizeLine; decide, fun lm nm => ?_⟩
        obtain ⟨ws, ew⟩ : ∃ ws, ws = DP.wordsM n i := ⟨_, rfl⟩
        rw [← ew] at hl
        obtain ⟨ps, hL, hP⟩ := hl
        have lps : ps.length = ws.length := paired_len hP
        have s1 := same_new (o := .lst []) nm
        have lws : (DP.wordsM n (i + 1)).length ≤ 1024 := by
          rw [wordsM_len]
          exact Nat.le_trans (Nat.pow_le_pow_right hn1 hi) hnm
        have e1 : DP.wordsM n (i + 1) = ws.flatMap fun w => (List.range n).map fun (p : Nat) => w ++ [(p : Int)] := by rw [ew]; rfl
        refine ⟨.ref l, rfl, l, rfl, ⟨_, .of (s1 _ _ hL)⟩, for_list (xs := ps.map V.ref) (fun j σ H4 => ∃ lm y5 y7, σ = [some (.ref a), some (.ref r), some (.int n), some (.int m), some (.ref l), y5, some (.ref lm), y7, none, none, none, none, none, none, none, none, none, none, none] ∧ Same H' H4 ∧ H' lm = none ∧ LstT H4 lm ((ws.take j).flatMap fun w => (List.range n).map fun (p : Nat) => w ++ [(p : Int)])) ⟨lm, _, _, rfl, s1, nm, [], upd_same, .nil⟩ ?_ ?_ ?_⟩
        · rintro j σ H4 hj ⟨lm, y5, y7, rfl, s4, nm4, hmo⟩
          exact .of (s4 _ _ hL)
        · rintro j x σ H4 hx ⟨lm, y5, y7, rfl, s4, nm4, qs, hM, hQ⟩
          obtain ⟨u, rfl, hu, hwu⟩ := tups_at (hP.same s4) hx
          have lu : (ws.getD j []).length = i := (wordsM_item (n := n) (m := i) (by rw [← ew]; exact List.mem_of_getElem? hwu)).1
          refine ⟨.ref lm, rfl, .int n, rfl, n, rfl, by omega, by omega, fun Da nD => ?_⟩
          refine lc_tups (walk_range0 (n := n)) (fun p => ws.getD j [] ++ [(p : Int)]) nD (Nat.le_of_lt (small1000 (by omega))) (fun _ _ => trivial) ?_ gn ?_
          · rintro p x H5 _ Q' hp s5 ⟨rfl, rfl⟩ hq
            refine ⟨rfl, .ref u, rfl, .int p, rfl, by show 1 ≤ sizeLine; decide, fun t nt => ?_⟩
            refine catA_at (u := ws.getD j []) (v := [(p : Int)]) ((hu.same s5).same (same_new nt)) upd_same (by rw [lu]; exact Nat.le_of_lt (small1000 (n := i + 1) (by omega))) fun H6 q6 s6 h6 => hq q6 H6 ((same_new nt).trans s6) h6
          · intro H5 rs s5 hD hR
            have hM5 := s5 _ _ hM
            have e2 : (ws.take (j + 1)).flatMap (fun w => (List.range n).map fun (p : Nat) => w ++ [(p : Int)]) = ((ws.take j).flatMap fun w => (List.range n).map fun (p : Nat) => w ++ [(p : Int)]) ++ (List.range n).map fun (p : Nat) => ws.getD j [] ++ [(p : Int)] := by
              rw [List.take_add_one, hwu, List.flatMap_append]
              simp
            have l2 : (qs.map V.ref).length + (rs.map V.ref).length ≤ sizeLine := by
              have h1 := paired_len hQ
              have h2 := paired_len hR
              have h3 : ((ws.take (j + 1)).flatMap fun w => (List.range n).map fun (p : Nat) => w ++ [(p : Int)]).length ≤ 1024 := by
                refine Nat.le_trans ?_ lws
                rw [e1]
                conv => rhs; rw [← List.take_append_drop (j + 1) ws]
                rw [List.flatMap_append, List.length_append]
                omega
              rw [e2, List.length_append, ← h1, ← h2] at h3
              rw [List.length_map, List.length_map]
              exact Nat.le_trans h3 (by decide)
            refine ⟨lm, Da, _, _, rfl, rfl, hM5, hD, l2, fun p np => ?_⟩
            have s6 := s5.trans (same_new (o := .lst (qs.map V.ref ++ rs.map V.ref)) np)
            refine ⟨p, _, _, rfl, s4.trans s6, none_of (s4.trans s5) np, qs ++ rs, ?_, ?_⟩
            · rw [upd_same, List.map_append]
            · rw [e2]
              exact paired_app (hQ.same s6) (hR.same (same_new np))
        · rintro σ H4 ⟨lm, y5, y7, rfl, s4, nm4, hmo⟩
          rw [List.length_map, lps, List.take_length, ← e1] at hmo
          exact ⟨.ref lm, rfl, lm, _, _, _, rfl, sm.trans s4, none_of sm nm4, hmo⟩
      · rintro σ H4 ⟨lw, y5, y6, y7, rfl, s24, nlw, hw⟩
        have R4 := R2.same s24
        have lwr : lw ≠ r := row_ne R2 nlw
        have hT := T n m dom
        simp only [DP.okTop, Bool.and_eq_true, decide_eq_true_eq, beq_iff_eq] at hT
        obtain ⟨⟨⟨t1, t2⟩, t3⟩, t4⟩ := hT
        -- least
        obtain ⟨ws, ew⟩ : ∃ ws, ws = DP.wordsM n m := ⟨_, rfl⟩
        rw [← ew] at hw
        have wit : ∀ u ∈ ws, u.length = m := fun u hu => (wordsM_item (by rw [← ew]; exact hu)).1
        have lws : ws.length ≤ 1024 := by rw [ew, wordsM_len]; exact hnm
        obtain ⟨ps, hL, hP⟩ := id hw
        have lps : ps.length = ws.length := paired_len hP
        -- the turns of a word, as a list
        refine ⟨.ref lw, rfl, lw, rfl, ⟨_, .of hL⟩, fun Da nD => ?_⟩
        refine lc_tups (walk_list (xs := ps.map V.ref)) (fun i => DP.leastTurn m (ws.getD i [])) nD (by rw [List.length_map, lps]; exact Nat.le_of_lt (small2000 (by omega))) (fun H' s => .of (s _ _ hL)) ?_ gn ?_
        · rintro i x H5 _ Q' hi s5 ⟨rfl, hx⟩ hq
          obtain ⟨u, rfl, hu, hwu⟩ := tups_at (hP.same s5) hx
          have lu : (ws.getD i []).length = m := wit _ (List.mem_of_getElem? hwu)
          refine ⟨rfl, .int m, rfl, m, rfl, by omega, by omega, fun Db nB => ?_⟩
          refine lc_tups (walk_range0 (n := m)) (fun k => DP.turnL (ws.getD i []) k) nB (Nat.le_of_lt (small1000 (by omega))) (fun _ _ => trivial) ?_ gn ?_
          · rintro k x H6 _ Q2 hk s6 ⟨rfl, rfl⟩ hq2
            have hu6 := hu.same s6
            refine ⟨rfl, .ref u, rfl, .int k, rfl, k, rfl, ?_⟩
            delta tNoPart
            dsimp only
            refine slA_drop hu6 fun H7 a7 s7 h7 => ⟨.ref u, rfl, .int k, rfl, k, rfl, ?_⟩
            dsimp only
            refine slA_take (hu6.same s7) fun H8 a8 s8 h8 => ?_
            refine catA_at (h7.same s8) h8 (by rw [List.length_drop, List.length_take]; have := small1000 (n := 12) (by decide); omega) fun H9 a9 s9 h9 => hq2 a9 H9 ((s7.trans s8).trans s9) h9
          · intro H6 rs s6 hD6 hR6
            obtain ⟨t1, tr, et⟩ := turns_cons (w := ws.getD i []) hm1
            have hR7 : Tups H6 rs (DP.turns (ws.getD i []) m) := hR6
            rw [et] at hR7
            refine ⟨Db, t1, tr, rfl, ⟨rs, hD6, hR7⟩, fun p hp => hq p H6 s6 ?_⟩
            unfold DP.leastTurn
            rw [et]
            exact hp
        · intro H5 rs s5 hD5 hR5
          have e5 : ((List.range (ps.map V.ref).length).map fun i => DP.leastTurn m (ws.getD i [])) = ws.map (DP.leastTurn m) := by
            rw [List.length_map, lps]
            exact range_map_at [] (DP.leastTurn m) ws
          rw [e5] at hR5
          have e6 : DP.necks n m = DP.sortU (ws.map (DP.leastTurn m)) := by rw [ew]; rfl
          refine ⟨Da, _, rfl, ⟨rs, hD5, hR5⟩, by rw [← e6]; exact t3, fun sa L nsa ndL hTL mem => ?_⟩
          have s6 := s5.trans (same_new (o := BagO P w sa L) nsa)
          have e7 : DP.sortU (L.map (·.2)) = DP.necks n m := by rw [e6]; exact sortU_congr mem
          refine ⟨sa, L, rfl, upd_same, ndL, fun p hp => (hTL p hp).same (same_new nsa), fun p hp z => ?_, fun qs ll hqs nll => ?_⟩
          · have h1 := (mem p.2).mp (List.mem_map.mpr ⟨p, hp, rfl⟩)
            obtain ⟨v, hv, e⟩ := List.mem_map.mp h1
            have := leastTurn_len (w := v) hm1
            rw [e, z, wit v hv] at this
            have : (0 : Nat) = m := this
            omega
          · rw [e7] at hqs
            have s7 := s6.trans (same_new (o := .lst (qs.map V.ref)) nll)
            obtain ⟨nk, enk⟩ : ∃ nk, nk = DP.necks n m := ⟨_, rfl⟩
            rw [← enk] at hqs
            have lqs : qs.length = nk.length := paired_len hqs
            have hLL : (upd (upd H5 sa (BagO P w sa L)) ll (.lst (qs.map V.ref))) ll = some (.lst (qs.map V.ref)) := upd_same
            have hQQ := hqs.same (same_new (o := .lst (qs.map V.ref)) nll)
            generalize upd (upd H5 sa (BagO P w sa L)) ll (.lst (qs.map V.ref)) = H7 at s7 hLL hQQ ⊢
            have nit : ∀ u ∈ nk, u.length = m := fun u hu => necks_item hm1 (by rw [← enk]; exact hu)
            -- necklaces
            refine ⟨.int n, rfl, .int m, rfl, n, m, rfl, hn1, by omega, hm1, by omega, fun H8 s8 => ⟨.ref ll, rfl, ll, _, rfl, .inl (.of (s8 _ _ hLL)), DP.necklacesM n m, ?_, fun H9 s9 => ⟨true, rfl, iteF' rfl ?_⟩⟩⟩
            · show [V.int (DP.necklacesM n m), V.int ((qs.map V.ref).length : Nat)] = _
              rw [List.length_map, lqs, enk, ← t1]
            have s79 := s8.trans s9
            have s49 := s7.trans s79
            have hLL9 := s79 _ _ hLL
            have hQ9 := hQQ.same s79
            -- lengths
            refine ⟨.ref ll, rfl, ll, rfl, ⟨_, .of hLL9⟩, fun Db nB => ?_⟩
            refine lc_ints (walk_list (xs := qs.map V.ref)) (fun i => ((DP.sortU (DP.turns (nk.getD i []) m)).length : Int)) nB (by rw [List.length_map, lqs, enk]; exact Nat.le_of_lt (small1000 (by omega))) (fun H' s => .of (s _ _ hLL9)) ?_ gn ?_
            · rintro i x H10 _ Q' hi s10 ⟨rfl, hx⟩ hq
              obtain ⟨u, rfl, hu, hwu⟩ := tups_at (hQ9.same s10) hx
              have lu : (nk.getD i []).length = m := nit _ (List.mem_of_getElem? hwu)
              refine ⟨rfl, .int m, rfl, m, rfl, by omega, by omega, fun Dc nC => ?_⟩
              refine lc_tups (walk_range0 (n := m)) (fun k => DP.turnL (nk.getD i []) k) nC (Nat.le_of_lt (small1000 (by omega))) (fun _ _ => trivial) ?_ gn ?_
              · rintro k x H11 _ Q2 hk s11 ⟨rfl, rfl⟩ hq2
                have hu6 := hu.same s11
                refine ⟨rfl, .ref u, rfl, .int k, rfl, k, rfl, ?_⟩
                delta tNoPart
                dsimp only
                refine slA_drop hu6 fun H7 a7 s7 h7 => ⟨.ref u, rfl, .int k, rfl, k, rfl, ?_⟩
                dsimp only
                refine slA_take (hu6.same s7) fun H8 a8 s8 h8 => ?_
                refine catA_at (h7.same s8) h8 (by rw [List.length_drop, List.length_take]; have := small1000 (n := 12) (by decide); omega) fun H9 a9 s9 h9 => hq2 a9 H9 ((s7.trans s8).trans s9) h9
              · intro H11 rs2 s11 hD11 hR11
                have hR12 : Tups H11 rs2 (DP.turns (nk.getD i []) m) := hR11
                have l76 : (DP.sortU (DP.turns (nk.getD i []) m)).length ≤ 76 := by
                  have := sortU_le (DP.turns (nk.getD i []) m)
                  have e : (DP.turns (nk.getD i []) m).length = m := by simp [DP.turns]
                  omega
                refine ⟨Dc, _, rfl, ⟨rs2, hD11, hR12⟩, l76, fun sb L2 nsb nd2 hT2 mem2 => ⟨sb, L2, rfl, upd_same, ?_⟩⟩
                have := DP.sortU_len nd2 mem2
                rw [List.length_map] at this
                rw [this]
                exact hq _ (s11.trans (same_new nsb))
            · intro H10 s10 hD10
              have eln : ((List.range (qs.map V.ref).length).map fun i => ((DP.sortU (DP.turns (nk.getD i []) m)).length : Int)) = DP.lensM n m := by
                rw [List.length_map, lqs]
                unfold DP.lensM
                rw [← enk]
                exact range_map_at [] (fun w => ((DP.sortU (DP.turns w m)).length : Int)) nk
              rw [eln] at hD10
              obtain ⟨lens, elens⟩ : ∃ lens, lens = DP.lensM n m := ⟨_, rfl⟩
              rw [← elens] at hD10 t4
              have llen : lens.length ≤ 76 := by
                rw [elens]
                unfold DP.lensM
                rw [List.length_map]
                exact t3
              have s410 := s49.trans s10
              -- due
              refine ⟨.ref Db, rfl, Db, lens, rfl, hD10, by omega, fun sb S k nsb mem hk => ?_⟩
              refine ⟨sb, S, k, lens, rfl, upd_same, by omega, mem, fun lb nlb => ⟨lb, rfl, ⟨_, .of upd_same⟩, fun Dd nDd => ?_⟩⟩
              have s11 := (same_new (o := SetO w sb S k) nsb).trans (same_new (o := .lst ((DP.sortN lens).map V.int)) nlb)
              have hB11 := s11 _ _ hD10
              have hlb : upd (upd H10 sb (SetO w sb S k)) lb (.lst ((DP.sortN lens).map V.int)) lb = some (.lst ((DP.sortN lens).map V.int)) := upd_same
              generalize upd (upd H10 sb (SetO w sb S k)) lb (.lst ((DP.sortN lens).map V.int)) = H11 at s11 hB11 hlb nDd ⊢
              refine lc_tups (walk_list (xs := (DP.sortN lens).map V.int)) (fun i => [(DP.sortN lens).getD i 0, (lens.count ((DP.sortN lens).getD i 0) : Int)]) nDd (by rw [List.length_map]; exact Nat.le_of_lt (small1000 (by omega))) (fun H' s => .of (s _ _ hlb)) ?_ gn ?_
              · rintro i x H12 _ Q' hi s12 ⟨rfl, hx⟩ hq
                obtain ⟨rfl, _⟩ := ints_at hx
                refine ⟨rfl, _, rfl, .ref Db, rfl, .inl ⟨rfl, _, .of (s12 _ _ hB11)⟩, _, rfl, Db, lens, _, rfl, rfl, .of (s12 _ _ hB11), by show 2 ≤ sizeLine; decide, fun t nt => hq t _ (same_new nt) upd_same⟩
              · intro H12 ds s12 hD12 hds
                have edue : ((List.range ((DP.sortN lens).map V.int).length).map fun i => [(DP.sortN lens).getD i 0, (lens.count ((DP.sortN lens).getD i 0) : Int)]) = two (DP.dueM n m) := by
                  rw [List.length_map, range_map_at 0 (fun k => [k, (lens.count k : Int)]) (DP.sortN lens)]
                  unfold two DP.dueM
                  simp only []
                  rw [← elens, List.map_map]
                  rfl
                rw [edue] at hds
                refine ⟨Dd, _, rfl, .inl ⟨.of hD12, fun td ntd => ?_⟩⟩
                have s412 := ((s410.trans s11).trans s12).trans (same_new (o := .tup (ds.map V.ref)) ntd)
                have htd : upd H12 td (.tup (ds.map V.ref)) td = some (.tup (ds.map V.ref)) := upd_same
                have hds2 := hds.same (same_new (o := .tup (ds.map V.ref)) ntd)
                generalize upd H12 td (.tup (ds.map V.ref)) = H13 at s412 htd hds2 ⊢
                have R13 := R4.same s412
                have hw13 : LstT H13 lw ws := LstT.same s412 hw
                have tdr : td ≠ r := row_tup R13 htd
                -- factor, size
                refine ⟨.ref r, rfl, r, a, ns, 3, rfl, R13, by decide, by decide, fun H14 z3 z30 z31 sx14 R14 => ⟨2, z3, rfl, rfl, by show 2 ≤ sizeLine; decide, fun tp ntp => ?_⟩⟩
                obtain ⟨fa, hfa⟩ : ∃ fa : Nat, (2 : Int) + z3 = (fa : Int) := ⟨(2 + z3).toNat, by omega⟩
                have hf2 : 2 ≤ fa := by omega
                have hf4 : fa ≤ 4 := by omega
                have hfac : fac (fa : Int) := ⟨by omega, by omega⟩
                refine ⟨tp, [.int fa, .int 1], rfl, .of ?_, rfl, .int fa, _, rfl, .int 1, _, rfl, rfl, ?_⟩
                · rw [upd_same]
                  show some (HO.tup [V.int (2 + z3), V.int 1]) = _
                  rw [hfa]
                have hw15 : LstT H14 lw ws := hw13.but R13 lwr sx14
                have htd14 := sx14 _ _ tdr htd
                have hds14 : Tups H14 ds (two (DP.dueM n m)) := paired_mono (fun p v h => sx14 _ _ (row_tup R13 h) h) hds2
                have s15 : Same H14 (upd H14 tp (.tup [.int (2 + z3), .int 1])) := same_new ntp
                have R15 := R14.same s15
                have hw16 := hw15.same s15
                have htd15 := s15 _ _ htd14
                have hds15 := hds14.same s15
                show _
                generalize upd H14 tp _ = H15 at R15 hw16 htd15 hds15 ⊢
                have hMid := M fa n m hf2 hf4 dom
                simp only [DP.okMid, Bool.and_eq_true, Bool.or_eq_true, decide_eq_true_eq, beq_iff_eq, List.all_eq_true] at hMid
                obtain ⟨⟨⟨k1, k2⟩, k3⟩, k4⟩ := hMid
                have hpw : DP.powM n m ≤ 2000 := by rw [powM_nat]; omega
                have ldue : (two (DP.dueM n m)).length ≤ 1000 := by
                  unfold two DP.dueM
                  simp only [List.length_map]
                  rw [← elens]
                  omega
                -- cycle_lengths
                refine ⟨.int fa, rfl, .int n, rfl, .int m, rfl, fa, n, m, rfl, hfac, hn1, hn4, hm1, by omega, hpw, by omega, fun H16 pc cps s16 hpc hcps => ⟨.ref td, rfl, ?_⟩⟩
                have hc16 : Tups H16 cps (two (DP.dueM n m)) := by rw [← t2]; exact hcps
                have hd16 := hds15.same s16
                refine ⟨pc, td, cps.map V.ref, ds.map V.ref, rfl, hpc, s16 _ _ htd15, by rw [List.length_map, List.length_map, paired_len hc16, paired_len hd16], by rw [List.length_map, paired_len hc16]; exact ldue, fun i x y H' Q' E' hx hy s k => ?_, fun H17 s17 => ⟨true, rfl, iteF' rfl ?_⟩⟩
                · obtain ⟨b1, rfl, hb1, g1⟩ := tups_at (hc16.same s) hx
                  obtain ⟨b2, rfl, hb2, _⟩ := tups_at (hd16.same s) hy
                  refine alike_row hb1 hb2 ?_ k
                  rw [two_len _ (List.mem_of_getElem? g1)]
                  decide
                have s1517 := s16.trans s17
                have R17 := R15.same s1517
                have hw17 := hw16.same s1517
                -- size
                refine ⟨.int m, rfl, m, rfl, by omega, by omega, for_range (n := m) (fun i σ H' => H' = H17 ∧ ∃ y5, σ = [some (.ref a), some (.ref r), some (.int n), some (.int m), some (.ref lw), y5, y6, y7, some (.ref ll), some (.ref Db), some (.ref td), some (.int fa), some (.int (DP.powM fa i)), none, none, none, none, none, none]) ⟨rfl, _, rfl⟩ ?_ ?_⟩
                · rintro i σ H' hi ⟨rfl, y5, rfl⟩
                  exact ⟨_, rfl, .int fa, rfl, _, _, rfl, rfl, .inr hfac.s, rfl, _, rfl⟩
                · rintro σ H' ⟨rfl, y5, rfl⟩
                  -- all_tables
                  refine ⟨.int fa, rfl, .int n, rfl, .int m, rfl, fa, n, m, rfl, hfac, hn1, hn4, hm1, by omega, hpw, by omega, fun H18 lt s18 nlt hlt => ?_⟩
                  obtain ⟨told, etold⟩ : ∃ told, told = DP.toldM fa n m := ⟨_, rfl⟩
                  rw [← etold] at hlt k1 k2 k3 k4
                  have R18 := R17.same s18
                  have hw18 := hw17.same s18
                  have ltr : lt ≠ r := row_ne R17 nlt
                  have tit : ∀ u ∈ told, u.length = n := fun u hu => by
                    rw [etold] at hu
                    unfold DP.toldM at hu
                    obtain ⟨v, _, rfl⟩ := List.mem_map.mp ((DP.sortL_perm _).mem_iff.mp hu)
                    exact numsM_len ..
                  have ltold : told.length ≤ 1024 := by
                    rw [k1, wordsM_len]
                    exact hnm
                  obtain ⟨ts, hT18, hTT⟩ := id hlt
                  have lts : ts.length = told.length := paired_len hTT
                  obtain ⟨wps, hW18, hWW⟩ := id hw18
                  have lwps : wps.length = ws.length := paired_len hWW
                  -- len(told) != len(words) or told != sorted(told)
                  refine ⟨.ref lt, rfl, lt, _, rfl, .inl (.of hT18), .ref lw, rfl, lw, _, rfl, .inl (.of hW18), rfl, _, rfl, iteF' ?_ ?_⟩
                  · rw [List.length_map, List.length_map, lts, lwps, k1, ew, decide_eq_true rfl]
                    rfl
                  refine ⟨.ref lt, rfl, .ref lt, rfl, lt, told, rfl, hlt, fun u hu z => ?_, fun ss lp hss nlp => ?_⟩
                  · have := tit u hu
                    rw [z] at this
                    have : (0 : Nat) = n := this
                    omega
                  have e19 : DP.sortL told = told := by rw [etold]; exact sortL_twice _
                  rw [e19] at hss
                  have s19 := same_new (o := .lst (ss.map V.ref)) nlp
                  have hlp : LstT (upd H18 lp (.lst (ss.map V.ref))) lp told := ⟨ss, upd_same, hss.same s19⟩
                  have hlt19 := hlt.same s19
                  refine ⟨_, _, dp_lstT hlt19, dp_lstT hlp, sh_listT _, sh_listT _, _, rfl, iteF' ?_ ?_⟩
                  · rw [eqv_list, eq_tups, decide_eq_true rfl]
                    rfl
                  have R19 := R18.same s19
                  show _
                  generalize upd H18 lp (.lst (ss.map V.ref)) = H19 at R19 hlt19 ⊢
                  -- the sums
                  obtain ⟨ts2, hT19, hTT2⟩ := id hlt19
                  have lts2 : ts2.length = told.length := paired_len hTT2
                  refine ⟨.ref lt, rfl, lt, rfl, ⟨_, .of hT19⟩, fun Dk nDk => ?_⟩
                  refine lc_tupsC (walk_list (xs := ts2.map V.ref)) (fun _ => false) (fun i => told.getD i []) nDk (by rw [List.length_map, lts2]; exact Nat.le_of_lt (small2000 (by omega))) (fun H' s => .of (s _ _ hT19)) ?_ ?_
                  · rintro i x H20 _ Q' N hi s20 ⟨rfl, hx⟩ q1 q2
                    obtain ⟨u, rfl, hu, hwu⟩ := tups_at (hTT2.same s20) hx
                    have hs := k2 _ (List.mem_of_getElem? hwu)
                    refine ⟨rfl, .ref u, rfl, u, _, rfl, hu.q, _, rfl, _, 1, rfl, rfl, rfl, _, rfl, iteF' ?_ (q2 rfl _ Same.refl')⟩
                    show (!decide (V.int (told.getD i []).sum = V.int (DP.powM fa m - 1))) = false
                    rw [hs, decide_eq_true rfl]
                    rfl
                  · intro H20 es s20 hD20 hes
                    have e0 : (((List.range (ts2.map V.ref).length).filter fun _ => false).map fun i => told.getD i []) = [] := by
                      rw [show ((List.range (ts2.map V.ref).length).filter fun _ => false) = [] from List.filter_eq_nil_iff.mpr (fun _ _ h => by cases h)]
                      rfl
                    rw [e0] at hes
                    cases hes
                    refine ⟨by decide, fun lz nlz => ?_⟩
                    have s21 := same_new (o := .lst []) nlz
                    refine ⟨_, _, dp_lst (ns := []) (s21 _ _ hD20), dp_lst (ns := []) upd_same, sh_listI [], sh_listI [], _, rfl, iteF' ?_ ?_⟩
                    · rw [eq_nil]
                      rfl
                    have s1921 := s20.trans s21
                    have R21 := R19.same s1921
                    have hlt21 := hlt19.same s1921
                    show _
                    generalize upd H20 lz (.lst []) = H21 at R21 hlt21 ⊢
                    have hnp : 0 < told.length := by
                      rw [k1, wordsM_len]
                      exact Nat.pow_pos hn1
                    -- the pick
                    refine ⟨.ref r, rfl, .ref lt, rfl, r, a, lt, ns, told, rfl, R21, hlt21, hnp, by omega, fun H22 pc c hc sx22 R22 hpc => ?_⟩
                    have hlt22 := hlt21.but R21 ltr sx22
                    have pk := picked (k4 c hc)
                    have lc := tit c hc
                    have hCo : Coins fa c := ⟨hfac, by omega, by omega, pk.in0, pk.s, pk.g, pk.g1⟩
                    obtain ⟨pa, pr, po, pw, p1, p2, p3, p4, p5, p6, p7, p8⟩ := pk.sp
                    have epo : ((po.toNat : Nat) : Int) = po := by omega
                    have lpw := alongL_len p7
                    -- word_again
                    refine ⟨.int fa, rfl, .ref pc, rfl, by show 2 ≤ sizeLine; decide, fun tq ntq => ?_⟩
                    have s23 := same_new (o := .tup [V.int fa, V.ref pc]) ntq
                    refine ⟨tq, fa, c, po.toNat, pw, rfl, ⟨pc, upd_same, hpc.same s23⟩, ⟨hCo, pk.fo, ⟨pa, pr, p1, p2, by rw [epo]; exact p3, p4⟩, by rw [epo]; exact p6⟩, p7, fun H24 wa s24 hwa => ?_⟩
                    have s2224 := s23.trans s24
                    refine ⟨.ref wa, rfl, rfl, _, rfl, iteF' rfl ?_⟩
                    refine ⟨.int m, rfl, .inl ⟨m, rfl, .ref wa, rfl, wa, _, rfl, .inr hwa.q, _, _, rfl, rfl, ?_, rfl, _, rfl, iteF' ?_ ?_⟩⟩
                    · show (0 : Int) < ((pw.map V.int).length : Nat)
                      rw [List.length_map, lpw]
                      omega
                    · show (!decide (V.int ((m : Int) % ((pw.map V.int).length : Nat)) = V.int 0)) = false
                      rw [List.length_map, lpw, ← Int.natCast_emod, p8]
                      rfl
                    refine ⟨.int fa, rfl, .ref pc, rfl, fa, pc, c, true, rfl, hpc.same s2224, hfac, by omega, pk.lf, fun H25 s25 => ⟨true, rfl, iteF' rfl ?_⟩⟩
                    have s2225 := s2224.trans s25
                    have hlt25 := hlt22.same s2225
                    -- the end
                    refine ⟨.int (DP.powM fa m), rfl, DP.powM fa m, 100, rfl, rfl, _, rfl, ite2 (fun e => q _) (fun e => ?_)⟩
                    have h100 : ¬ 100 < DP.powM fa m := fun z => e (decide_eq_true z)
                    have hTab : DP.tablesM fa n (DP.powM fa m - 1) = some told := by
                      rcases k3 with z | z
                      · exact absurd z h100
                      · exact z
                    have hpos : 2 ≤ DP.powM fa m := by
                      obtain ⟨m', rfl⟩ : ∃ m', m = m' + 1 := ⟨m - 1, by omega⟩
                      show 2 ≤ DP.powM fa m' * fa
                      have h0 := powM_pos (show (0 : Int) < fa by omega) m'
                      have : 1 * 2 ≤ DP.powM fa m' * (fa : Int) := Int.mul_le_mul (by omega) (by omega) (by decide) (by omega)
                      omega
                    obtain ⟨n', en'⟩ : ∃ n', n = n' + 1 := ⟨n - 1, by omega⟩
                    refine ⟨.int fa, rfl, .int n, rfl, .int (DP.powM fa m), rfl, DP.powM fa m, 1, rfl, rfl, ⟨fa, n', DP.powM fa m - 1, told, by rw [en']; rfl, hfac, by omega, by omega, by omega, by rw [← en']; exact hTab, fun H26 lq s26 nlq hlq => ?_⟩, .int fa, .int n, DP.powM fa m - 1, rfl, by omega⟩
                    refine ⟨.ref lt, rfl, _, _, dp_lstT hlq, dp_lstT (hlt25.same s26), sh_listT _, sh_listT _, ?_⟩
                    rw [eqv_list, eq_tups, decide_eq_true rfl]
                    exact q _
end
end DK
namespace DK
open PySem PySem.Spec PyProof.Rows L2
section
variable {P : Program} {w : World} {K : PySem.W.Frag} {mg : Str → Option Value} {base : Heap}
/-- a def as the heap holds it -/
theorem dn_mk {h : Heap} {x : Str} {st : Stmt} {ps : List Str} {f : Addr} {od an : Option Addr} {sl : Array (Option Value)} {oc kV dc pm cd ct : Value} (X : K.In h) (G : h.Ns mainGlobals mg)
    (a : PySem.W.nsIn K mainGlobals x = some (some (.ref f))) (l : K.lookup f = some ⟨oc, od, .func (PySem.W.fnOf x x (C8.fnArgs st) (C8.fnBody st) (C8.fnScope st) .none kV dc pm an cd ct), sl⟩) (c : PySem.W.codeIn K cd x = true) (k : PySem.W.keepIn K (.ref f) = true)
    (b : ∀ (kV doc pm : Value) (an : Option Addr) (cdv ct : Value) (us : List Value), us.length = ps.length → bindArgs (PySem.W.fnOf x x (C8.fnArgs st) (C8.fnBody st) (C8.fnScope st) Value.none kV doc pm an cdv ct) ⟨us, []⟩ = pure (ps.zip us)) : Dn K mg x st ps := by
  have F : C8.Fun K x x st f (PySem.W.fnOf x x (C8.fnArgs st) (C8.fnBody st) (C8.fnScope st) .none kV dc pm an cd ct) := ⟨oc, od, .none, kV, dc, pm, an, cd, ct, sl, rfl, l, c⟩
  exact ⟨f, _, ⟨F, PySem.W.mg_of X G a, k⟩, F.binds rfl b⟩
/-- what the law's def leans on -/
structure All (K : PySem.W.Frag) (mg : Str → Option Value) : Prop where
  d_is_in : Dn K mg "is_in" s_is_in ["value", "least", "most"]
  d_gcd : Dn K mg "gcd" s_gcd ["one", "other"]
  d_is_factor : Dn K mg "is_factor" s_is_factor ["value"]
  d_need_table : Dn K mg "need_table" s_need_table ["table"]
  d_owed_in : Dn K mg "owed_in" s_owed_in ["factor", "coins", "player"]
  d_payers_in : Dn K mg "payers_in" s_payers_in ["factor", "coins"]
  d_need_factor : Dn K mg "need_factor" s_need_factor ["factor"]
  d_need_players : Dn K mg "need_players" s_need_players ["players"]
  d_power : Dn K mg "power" s_power ["factor", "many"]
  d_numbers_in : Dn K mg "numbers_in" s_numbers_in ["factor", "players", "word"]
  d_shared : Dn K mg "shared" s_shared ["coins"]
  d_step : Dn K mg "step" s_step ["factor", "coins"]
  d_forever_in : Dn K mg "forever_in" s_forever_in ["factor", "coins"]
  d_split : Dn K mg "split" s_split ["factor", "total"]
  d_order_of : Dn K mg "order_of" s_order_of ["factor", "rest"]
  d_period_in : Dn K mg "period_in" s_period_in ["factor", "coins"]
  d_payers_along : Dn K mg "payers_along" s_payers_along ["factor", "coins", "many"]
  d_shares : Dn K mg "shares" s_shares ["total", "players"]
  d_least_in : Dn K mg "least_in" s_least_in ["factor", "players", "total", "word"]
  d_tables_in : Dn K mg "tables_in" s_tables_in ["factor", "players", "total"]
  d_need_few : Dn K mg "need_few" s_need_few ["players"]
  d_forever_tables : Dn K mg "forever_tables" s_forever_tables ["factor", "players", "whole"]
  d_back_in : Dn K mg "back_in" s_back_in ["table"]
  d_word_again : Dn K mg "word_again" s_word_again ["table"]
  d_necklaces : Dn K mg "necklaces" s_necklaces ["players", "many"]
  d_need_words : Dn K mg "need_words" s_need_words ["factor", "players", "many"]
  d_words_in : Dn K mg "words_in" s_words_in ["players", "many"]
  d_all_tables : Dn K mg "all_tables" s_all_tables ["factor", "players", "many"]
  d_cycle_lengths : Dn K mg "cycle_lengths" s_cycle_lengths ["factor", "players", "many"]
  d__law_taken : Dn K mg "_law_taken" s__law_taken ["_law_row", "_law_many"]
  d__law_alike : Dn K mg "_law_alike" s__law_alike ["_law_found", "_law_due"]
  d__law_pick : Dn K mg "_law_pick" s__law_pick ["_law_row", "_law_things"]
  d__law_owed : Dn K mg "_law_owed" s__law_owed ["_law_factor", "_law_coins", "_law_payer"]
  d__law_payers : Dn K mg "_law_payers" s__law_payers ["_law_factor", "_law_coins"]
  d__law_forever : Dn K mg "_law_forever" s__law_forever ["_law_factor", "_law_coins"]
  m_isinstance : mg "isinstance" = none
  m_int : mg "int" = none
  m_bool : mg "bool" = none
  m_abs : mg "abs" = none
  m_sum : mg "sum" = none
  m_tuple : mg "tuple" = none
  m_len : mg "len" = none
  m_range : mg "range" = none
  m_enumerate : mg "enumerate" = none
  m_max : mg "max" = none
  m_sorted : mg "sorted" = none
  m_zip : mg "zip" = none
  m_set : mg "set" = none
  m_min : mg "min" = none
  m_list : mg "list" = none
  m_str : mg "str" = none
  g_MOST_PLAYERS : ∃ t : Nat, mg "MOST_PLAYERS" = some (.int 6 t)
  g_MOST_COINS : ∃ t : Nat, mg "MOST_COINS" = some (.int 1000000 t)
  g_LEAST_FACTOR : ∃ t : Nat, mg "LEAST_FACTOR" = some (.int 2 t)
  g_MOST_FACTOR : ∃ t : Nat, mg "MOST_FACTOR" = some (.int 9 t)
  g_MOST_ROUNDS : ∃ t : Nat, mg "MOST_ROUNDS" = some (.int 40 t)
  g_MOST_LISTED : ∃ t : Nat, mg "MOST_LISTED" = some (.int 4 t)
  g_MOST_WHOLE : ∃ t : Nat, mg "MOST_WHOLE" = some (.int 100 t)
  g_MOST_CYCLE : ∃ t : Nat, mg "MOST_CYCLE" = some (.int 60 t)
  g_MOST_WORDS : ∃ t : Nat, mg "MOST_WORDS" = some (.int 2000 t)
  g_MOST_LONG : ∃ t : Nat, mg "MOST_LONG" = some (.int 6 t)
theorem fn_law {fl : Addr} {fdl : FuncData} (A : All K mg) (F : L2.Fun K "law" "law" s_law fl fdl) : FnOk P w K mg base CX0 7 fl fdl ["_law_script"] (spLaw K) := by
  obtain ⟨d_is_in, d_gcd, d_is_factor, d_need_table, d_owed_in, d_payers_in, d_need_factor, d_need_players, d_power, d_numbers_in, d_shared, d_step, d_forever_in, d_split, d_order_of, d_period_in, d_payers_along, d_shares, d_least_in, d_tables_in, d_need_few, d_forever_tables, d_back_in, d_word_again, d_necklaces, d_need_words, d_words_in, d_all_tables, d_cycle_lengths, d__law_taken, d__law_alike, d__law_pick, d__law_owed, d__law_payers, d__law_forever, m_isinstance, m_int, m_bool, m_abs, m_sum, m_tuple, m_len, m_range, m_enumerate, m_max, m_sorted, m_zip, m_set, m_min, m_list, m_str, ⟨_, g_MOST_PLAYERS⟩, ⟨_, g_MOST_COINS⟩, ⟨_, g_LEAST_FACTOR⟩, ⟨_, g_MOST_FACTOR⟩, ⟨_, g_MOST_ROUNDS⟩, ⟨_, g_MOST_LISTED⟩, ⟨_, g_MOST_WHOLE⟩, ⟨_, g_MOST_CYCLE⟩, ⟨_, g_MOST_WORDS⟩, ⟨_, g_MOST_LONG⟩⟩ := A
  have c_is_in : C8.Cal P w K mg base 1 "is_in" spIsIn [] := ok_is_in d_is_in m_isinstance m_int m_bool
  have c_gcd : C8.Cal P w K mg base 1 "gcd" spGcd [] := ok_gcd d_gcd m_abs
  have c_is_factor : C8.Cal P w K mg base 2 "is_factor" (spIs1 2 9 (.bl true)) [] := ok_is_factor d_is_factor c_is_in g_LEAST_FACTOR g_MOST_FACTOR
  have c_need_factor : C8.Cal P w K mg base 3 "need_factor" (spIs1 2 9 .non) [] := ok_need_factor d_need_factor c_is_factor
  have c_need_players : C8.Cal P w K mg base 2 "need_players" (spIs1 1 6 .non) [] := ok_need_players d_need_players c_is_in g_MOST_PLAYERS
  have c_need_few : C8.Cal P w K mg base 2 "need_few" (spIs1 1 4 .non) [] := ok_need_few d_need_few c_is_in g_MOST_LISTED
  have c_power : C8.Cal P w K mg base 1 "power" spPow [] := ok_power d_power m_range
  have c_owed_in : C8.Cal P w K mg base 1 "owed_in" spOwed [] := ok_owed_in d_owed_in m_sum m_tuple
  have c_payers_in : C8.Cal P w K mg base 1 "payers_in" spPayers [] := ok_payers_in d_payers_in m_sum m_len m_range
  have c_shared : C8.Cal P w K mg base 2 "shared" spShared [] := ok_shared d_shared c_gcd m_tuple
  have c_step : C8.Cal P w K mg base 2 "step" spStep [] := ok_step d_step c_payers_in c_owed_in
  have c_numbers_in : C8.Cal P w K mg base 1 "numbers_in" spNums [] := ok_numbers_in d_numbers_in
  have c_forever_in : C8.Cal P w K mg base 3 "forever_in" spFor [] := ok_forever_in d_forever_in c_shared c_step m_len
  have c_split : C8.Cal P w K mg base 2 "split" spSplit [] := ok_split d_split c_gcd
  have c_order_of : C8.Cal P w K mg base 1 "order_of" spOrder [] := ok_order_of d_order_of
  have c_period_in : C8.Cal P w K mg base 3 "period_in" spPeriod [] := ok_period_in d_period_in c_split c_shared c_order_of m_sum
  have c_payers_along : C8.Cal P w K mg base 3 "payers_along" spAlong [] := ok_payers_along d_payers_along c_payers_in c_step m_range
  have c_need_table : C8.Cal P w K mg base 3 "need_table" spNeedTable [] := ok_need_table d_need_table c_is_in c_is_factor m_isinstance m_tuple m_len m_enumerate m_sum g_MOST_PLAYERS g_MOST_COINS
  have c_back_in : C8.Cal P w K mg base 4 "back_in" spBack [] := ok_back_in d_back_in c_need_table c_forever_in c_period_in m_max m_sum g_MOST_CYCLE
  have c_word_again : C8.Cal P w K mg base 5 "word_again" spAgain [] := ok_word_again d_word_again c_back_in c_payers_along m_tuple
  have c_necklaces : C8.Cal P w K mg base 3 "necklaces" spNeck [] := ok_necklaces d_necklaces c_need_players c_is_in c_power c_gcd m_sum m_range g_MOST_ROUNDS
  have c_need_words : C8.Cal P w K mg base 4 "need_words" spNeedW [] := ok_need_words d_need_words c_need_factor c_need_few c_is_in c_power g_MOST_LONG g_MOST_WORDS
  have c_words_in : C8.Cal P w K mg base 1 "words_in" spWords [] := ok_words_in d_words_in m_range
  have c_all_tables : C8.Cal P w K mg base 5 "all_tables" spAllT [] := ok_all_tables d_all_tables c_need_words c_words_in c_numbers_in m_sorted m_tuple
  have c_cycle_lengths : C8.Cal P w K mg base 5 "cycle_lengths" spCyc [] := ok_cycle_lengths d_cycle_lengths c_need_words c_words_in m_sorted m_tuple m_range
  have c_least_in : C8.Cal P w K mg base 2 "least_in" spLeast [] := ok_least_in d_least_in c_power c_numbers_in m_len
  have c_tables_in : C8.Cal P w K mg base 5 "tables_in" spTabs [] := ok_tables_in d_tables_in c_power c_least_in (ok_shares d_shares m_range) c_forever_in m_sum m_range m_tuple m_zip m_sorted
  have c_forever_tables : C8.Cal P w K mg base 6 "forever_tables" (fun vs H Q E => spTabs vs H Q E ∧ ∃ (a b : V) (t : Int), vs = [a, b, .int t] ∧ 1 ≤ t) [] := ok_forever_tables d_forever_tables c_need_factor c_need_few c_is_in c_tables_in g_MOST_WHOLE
  have c__law_taken : C8.Cal P w K mg base 1 "_law_taken" (spTaken K) [] := ok__law_taken d__law_taken m_int m_len
  have c_al0 : C8.Cal P w K mg base 1 "_law_alike" spA0 [] := ok_alike0 d__law_alike m_isinstance m_tuple m_list m_str m_int m_bool
  have c_al1 : C8.Cal P w K mg base 2 "_law_alike" (spAS spA0) [] := ok_alikeS d__law_alike m_isinstance m_tuple m_list m_len m_range c_al0
  have c_al2 : C8.Cal P w K mg base 3 "_law_alike" (spAS (spAS spA0)) [] := ok_alikeS d__law_alike m_isinstance m_tuple m_list m_len m_range c_al1
  have c__law_pick : C8.Cal P w K mg base 2 "_law_pick" (spPick K) [] := ok__law_pick d__law_pick c__law_taken m_len
  have c__law_owed : C8.Cal P w K mg base 1 "_law_owed" spLOwed [] := ok__law_owed d__law_owed m_sum m_tuple m_range m_len
  have c__law_payers : C8.Cal P w K mg base 2 "_law_payers" spLPay [] := ok__law_payers d__law_payers c__law_owed m_range m_len
  have c__law_forever : C8.Cal P w K mg base 3 "_law_forever" spLFor [] := ok__law_forever d__law_forever c__law_owed c__law_payers
  exact ok_law F c__law_taken c_necklaces c_al0 c_al2 c_cycle_lengths c_all_tables c__law_pick c_word_again c__law_forever c_forever_tables m_range m_sorted m_set m_min m_len m_tuple m_sum m_int (fun n m h => top_all h.1 h.2.1 h.2.2.1 h.2.2.2) (fun f n m h1 h2 h => mid_all h1 h2 h.1 h.2.1 h.2.2.1 h.2.2.2)
theorem all_mk {l : PySem.W.OpenLaw} {h : Heap} {fa f1 : Addr} {od an : Option Addr} {sl : Array (Option Value)} {oc kV dc pm cd ct : Value} (X : K.In h) (G : h.Ns mainGlobals mg) (hfa : mg "law" = some (.ref fa))
    (a1 : PySem.W.nsIn K mainGlobals "law" = some (some (.ref f1))) (l1 : K.lookup f1 = some ⟨oc, od, .func (PySem.W.fnOf "law" "law" (L2.defArgs s_law) (L2.defBody s_law) (L2.defScope s_law) .none kV dc pm an cd ct), sl⟩) (c1 : PySem.W.codeIn K cd "law" = true) (k1 : PySem.W.keepIn K (.ref f1) = true) (A : All K mg) :
    ∃ fd : FuncData, (∀ (s : Shared) (v : Value), BindsTo s fd ⟨[v], []⟩ [("_law_script", v)]) ∧ ∀ base : Heap, K.In base → base.Ns mainGlobals mg → FnOk l.prog w K mg base CX0 7 fa fd ["_law_script"] (spLaw K) := by
  have e := hfa.symm.trans (PySem.W.mg_of X G a1)
  cases e
  have F1 := fun_mk (st := s_law) l1 c1 k1
  exact ⟨_, fun s v => .of_eq rfl, fun base _ _ => fn_law A F1⟩
end
end DK
open PySem PySem.W PyProof.Rows
set_option maxHeartbeats 0 in
theorem PySem.Challenge.cw_doublepay_k17_whole_necklaces_holds : PySem.Challenge.rw_doublepay_k17_whole_necklaces.Holds := by
  w_on; o_law; k_head; (case hw => w_witness2)
  k_fill
  refine L2.walk_of (l := PySem.Challenge.rw_doublepay_k17_whole_necklaces) (n := 63) (k := 7) (x := "_law_script") (CX := fun _ => L2.CX0) (sp := fun w => DK.spLaw _) rfl (by decide) rfl ⟨rfl, by decide, by decide⟩ (fun w h Y => PySem.W.kIn_of Y) ?F (fun _ _ a ns hl _ hS => ⟨a, ns, rfl, hS, hl, fun _ => rfl⟩) (fun _ _ _ _ _ h => h)
  case F =>
    intro w mg fa h KX G hmg
    refine' DK.all_mk KX G hmg ?aL ?lL ?cL ?kL ?S
    (case aL => k_is); (case lL => k_is); (case cL => k_is); (case kL => k_is)
    case S =>
      refine' ⟨?d_is_in, ?d_gcd, ?d_is_factor, ?d_need_table, ?d_owed_in, ?d_payers_in, ?d_need_factor, ?d_need_players, ?d_power, ?d_numbers_in, ?d_shared, ?d_step, ?d_forever_in, ?d_split, ?d_order_of, ?d_period_in, ?d_payers_along, ?d_shares, ?d_least_in, ?d_tables_in, ?d_need_few, ?d_forever_tables, ?d_back_in, ?d_word_again, ?d_necklaces, ?d_need_words, ?d_words_in, ?d_all_tables, ?d_cycle_lengths, ?d__law_taken, ?d__law_alike, ?d__law_pick, ?d__law_owed, ?d__law_payers, ?d__law_forever, ?m_isinstance, ?m_int, ?m_bool, ?m_abs, ?m_sum, ?m_tuple, ?m_len, ?m_range, ?m_enumerate, ?m_max, ?m_sorted, ?m_zip, ?m_set, ?m_min, ?m_list, ?m_str, ?g_MOST_PLAYERS, ?g_MOST_COINS, ?g_LEAST_FACTOR, ?g_MOST_FACTOR, ?g_MOST_ROUNDS, ?g_MOST_LISTED, ?g_MOST_WHOLE, ?g_MOST_CYCLE, ?g_MOST_WORDS, ?g_MOST_LONG⟩
      case d_is_in =>
        refine' DK.dn_mk KX G ?a ?l ?c ?k (fun _ _ _ _ _ _ us hl => match us, hl with | [_, _, _], _ => rfl)
        (case a => k_is); (case l => k_is); (case c => k_is); (case k => k_is)
      case d_gcd =>
        refine' DK.dn_mk KX G ?a ?l ?c ?k (fun _ _ _ _ _ _ us hl => match us, hl with | [_, _], _ => rfl)
        (case a => k_is); (case l => k_is); (case c => k_is); (case k => k_is)
      case d_is_factor =>
        refine' DK.dn_mk KX G ?a ?l ?c ?k (fun _ _ _ _ _ _ us hl => match us, hl with | [_], _ => rfl)
        (case a => k_is); (case l => k_is); (case c => k_is); (case k => k_is)
      case d_need_table =>
        refine' DK.dn_mk KX G ?a ?l ?c ?k (fun _ _ _ _ _ _ us hl => match us, hl with | [_], _ => rfl)
        (case a => k_is); (case l => k_is); (case c => k_is); (case k => k_is)
      case d_owed_in =>
        refine' DK.dn_mk KX G ?a ?l ?c ?k (fun _ _ _ _ _ _ us hl => match us, hl with | [_, _, _], _ => rfl)
        (case a => k_is); (case l => k_is); (case c => k_is); (case k => k_is)
      case d_payers_in =>
        refine' DK.dn_mk KX G ?a ?l ?c ?k (fun _ _ _ _ _ _ us hl => match us, hl with | [_, _], _ => rfl)
        (case a => k_is); (case l => k_is); (case c => k_is); (case k => k_is)
      case d_need_factor =>
        refine' DK.dn_mk KX G ?a ?l ?c ?k (fun _ _ _ _ _ _ us hl => match us, hl with | [_], _ => rfl)
        (case a => k_is); (case l => k_is); (case c => k_is); (case k => k_is)
      case d_need_players =>
        refine' DK.dn_mk KX G ?a ?l ?c ?k (fun _ _ _ _ _ _ us hl => match us, hl with | [_], _ => rfl)
        (case a => k_is); (case l => k_is); (case c => k_is); (case k => k_is)
      case d_power =>
        refine' DK.dn_mk KX G ?a ?l ?c ?k (fun _ _ _ _ _ _ us hl => match us, hl with | [_, _], _ => rfl)
        (case a => k_is); (case l => k_is); (case c => k_is); (case k => k_is)
      case d_numbers_in =>
        refine' DK.dn_mk KX G ?a ?l ?c ?k (fun _ _ _ _ _ _ us hl => match us, hl with | [_, _, _], _ => rfl)
        (case a => k_is); (case l => k_is); (case c => k_is); (case k => k_is)
      case d_shared =>
        refine' DK.dn_mk KX G ?a ?l ?c ?k (fun _ _ _ _ _ _ us hl => match us, hl with | [_], _ => rfl)
        (case a => k_is); (case l => k_is); (case c => k_is); (case k => k_is)
      case d_step =>
        refine' DK.dn_mk KX G ?a ?l ?c ?k (fun _ _ _ _ _ _ us hl => match us, hl with | [_, _], _ => rfl)
        (case a => k_is); (case l => k_is); (case c => k_is); (case k => k_is)
      case d_forever_in =>
        refine' DK.dn_mk KX G ?a ?l ?c ?k (fun _ _ _ _ _ _ us hl => match us, hl with | [_, _], _ => rfl)
        (case a => k_is); (case l => k_is); (case c => k_is); (case k => k_is)
      case d_split =>
        refine' DK.dn_mk KX G ?a ?l ?c ?k (fun _ _ _ _ _ _ us hl => match us, hl with | [_, _], _ => rfl)
        (case a => k_is); (case l => k_is); (case c => k_is); (case k => k_is)
      case d_order_of =>
        refine' DK.dn_mk KX G ?a ?l ?c ?k (fun _ _ _ _ _ _ us hl => match us, hl with | [_, _], _ => rfl)
        (case a => k_is); (case l => k_is); (case c => k_is); (case k => k_is)
      case d_period_in =>
        refine' DK.dn_mk KX G ?a ?l ?c ?k (fun _ _ _ _ _ _ us hl => match us, hl with | [_, _], _ => rfl)
        (case a => k_is); (case l => k_is); (case c => k_is); (case k => k_is)
      case d_payers_along =>
        refine' DK.dn_mk KX G ?a ?l ?c ?k (fun _ _ _ _ _ _ us hl => match us, hl with | [_, _, _], _ => rfl)
        (case a => k_is); (case l => k_is); (case c => k_is); (case k => k_is)
      case d_shares =>
        refine' DK.dn_mk KX G ?a ?l ?c ?k (fun _ _ _ _ _ _ us hl => match us, hl with | [_, _], _ => rfl)
        (case a => k_is); (case l => k_is); (case c => k_is); (case k => k_is)
      case d_least_in =>
        refine' DK.dn_mk KX G ?a ?l ?c ?k (fun _ _ _ _ _ _ us hl => match us, hl with | [_, _, _, _], _ => rfl)
        (case a => k_is); (case l => k_is); (case c => k_is); (case k => k_is)
      case d_tables_in =>
        refine' DK.dn_mk KX G ?a ?l ?c ?k (fun _ _ _ _ _ _ us hl => match us, hl with | [_, _, _], _ => rfl)
        (case a => k_is); (case l => k_is); (case c => k_is); (case k => k_is)
      case d_need_few =>
        refine' DK.dn_mk KX G ?a ?l ?c ?k (fun _ _ _ _ _ _ us hl => match us, hl with | [_], _ => rfl)
        (case a => k_is); (case l => k_is); (case c => k_is); (case k => k_is)
      case d_forever_tables =>
        refine' DK.dn_mk KX G ?a ?l ?c ?k (fun _ _ _ _ _ _ us hl => match us, hl with | [_, _, _], _ => rfl)
        (case a => k_is); (case l => k_is); (case c => k_is); (case k => k_is)
      case d_back_in =>
        refine' DK.dn_mk KX G ?a ?l ?c ?k (fun _ _ _ _ _ _ us hl => match us, hl with | [_], _ => rfl)
        (case a => k_is); (case l => k_is); (case c => k_is); (case k => k_is)
      case d_word_again =>
        refine' DK.dn_mk KX G ?a ?l ?c ?k (fun _ _ _ _ _ _ us hl => match us, hl with | [_], _ => rfl)
        (case a => k_is); (case l => k_is); (case c => k_is); (case k => k_is)
      case d_necklaces =>
        refine' DK.dn_mk KX G ?a ?l ?c ?k (fun _ _ _ _ _ _ us hl => match us, hl with | [_, _], _ => rfl)
        (case a => k_is); (case l => k_is); (case c => k_is); (case k => k_is)
      case d_need_words =>
        refine' DK.dn_mk KX G ?a ?l ?c ?k (fun _ _ _ _ _ _ us hl => match us, hl with | [_, _, _], _ => rfl)
        (case a => k_is); (case l => k_is); (case c => k_is); (case k => k_is)
      case d_words_in =>
        refine' DK.dn_mk KX G ?a ?l ?c ?k (fun _ _ _ _ _ _ us hl => match us, hl with | [_, _], _ => rfl)
        (case a => k_is); (case l => k_is); (case c => k_is); (case k => k_is)
      case d_all_tables =>
        refine' DK.dn_mk KX G ?a ?l ?c ?k (fun _ _ _ _ _ _ us hl => match us, hl with | [_, _, _], _ => rfl)
        (case a => k_is); (case l => k_is); (case c => k_is); (case k => k_is)
      case d_cycle_lengths =>
        refine' DK.dn_mk KX G ?a ?l ?c ?k (fun _ _ _ _ _ _ us hl => match us, hl with | [_, _, _], _ => rfl)
        (case a => k_is); (case l => k_is); (case c => k_is); (case k => k_is)
      case d__law_taken =>
        refine' DK.dn_mk KX G ?a ?l ?c ?k (fun _ _ _ _ _ _ us hl => match us, hl with | [_, _], _ => rfl)
        (case a => k_is); (case l => k_is); (case c => k_is); (case k => k_is)
      case d__law_alike =>
        refine' DK.dn_mk KX G ?a ?l ?c ?k (fun _ _ _ _ _ _ us hl => match us, hl with | [_, _], _ => rfl)
        (case a => k_is); (case l => k_is); (case c => k_is); (case k => k_is)
      case d__law_pick =>
        refine' DK.dn_mk KX G ?a ?l ?c ?k (fun _ _ _ _ _ _ us hl => match us, hl with | [_, _], _ => rfl)
        (case a => k_is); (case l => k_is); (case c => k_is); (case k => k_is)
      case d__law_owed =>
        refine' DK.dn_mk KX G ?a ?l ?c ?k (fun _ _ _ _ _ _ us hl => match us, hl with | [_, _, _], _ => rfl)
        (case a => k_is); (case l => k_is); (case c => k_is); (case k => k_is)
      case d__law_payers =>
        refine' DK.dn_mk KX G ?a ?l ?c ?k (fun _ _ _ _ _ _ us hl => match us, hl with | [_, _], _ => rfl)
        (case a => k_is); (case l => k_is); (case c => k_is); (case k => k_is)
      case d__law_forever =>
        refine' DK.dn_mk KX G ?a ?l ?c ?k (fun _ _ _ _ _ _ us hl => match us, hl with | [_, _], _ => rfl)
        (case a => k_is); (case l => k_is); (case c => k_is); (case k => k_is)
      case m_isinstance =>
        refine' PySem.W.mg_none_of KX G ?z
        (case z => k_is)
      case m_int =>
        refine' PySem.W.mg_none_of KX G ?z
        (case z => k_is)
      case m_bool =>
        refine' PySem.W.mg_none_of KX G ?z
        (case z => k_is)
      case m_abs =>
        refine' PySem.W.mg_none_of KX G ?z
        (case z => k_is)
      case m_sum =>
        refine' PySem.W.mg_none_of KX G ?z
        (case z => k_is)
      case m_tuple =>
        refine' PySem.W.mg_none_of KX G ?z
        (case z => k_is)
      case m_len =>
        refine' PySem.W.mg_none_of KX G ?z
        (case z => k_is)
      case m_range =>
        refine' PySem.W.mg_none_of KX G ?z
        (case z => k_is)
      case m_enumerate =>
        refine' PySem.W.mg_none_of KX G ?z
        (case z => k_is)
      case m_max =>
        refine' PySem.W.mg_none_of KX G ?z
        (case z => k_is)
      case m_sorted =>
        refine' PySem.W.mg_none_of KX G ?z
        (case z => k_is)
      case m_zip =>
        refine' PySem.W.mg_none_of KX G ?z
        (case z => k_is)
      case m_set =>
        refine' PySem.W.mg_none_of KX G ?z
        (case z => k_is)
      case m_min =>
        refine' PySem.W.mg_none_of KX G ?z
        (case z => k_is)
      case m_list =>
        refine' PySem.W.mg_none_of KX G ?z
        (case z => k_is)
      case m_str =>
        refine' PySem.W.mg_none_of KX G ?z
        (case z => k_is)
      case g_MOST_PLAYERS =>
        refine' ⟨_, (PySem.W.mg_of KX G ?z).trans ?e⟩
        (case z => k_is)
        (case e => exact rfl)
      case g_MOST_COINS =>
        refine' ⟨_, (PySem.W.mg_of KX G ?z).trans ?e⟩
        (case z => k_is)
        (case e => exact rfl)
      case g_LEAST_FACTOR =>
        refine' ⟨_, (PySem.W.mg_of KX G ?z).trans ?e⟩
        (case z => k_is)
        (case e => exact rfl)
      case g_MOST_FACTOR =>
        refine' ⟨_, (PySem.W.mg_of KX G ?z).trans ?e⟩
        (case z => k_is)
        (case e => exact rfl)
      case g_MOST_ROUNDS =>
        refine' ⟨_, (PySem.W.mg_of KX G ?z).trans ?e⟩
        (case z => k_is)
        (case e => exact rfl)
      case g_MOST_LISTED =>
        refine' ⟨_, (PySem.W.mg_of KX G ?z).trans ?e⟩
        (case z => k_is)
        (case e => exact rfl)
      case g_MOST_WHOLE =>
        refine' ⟨_, (PySem.W.mg_of KX G ?z).trans ?e⟩
        (case z => k_is)
        (case e => exact rfl)
      case g_MOST_CYCLE =>
        refine' ⟨_, (PySem.W.mg_of KX G ?z).trans ?e⟩
        (case z => k_is)
        (case e => exact rfl)
      case g_MOST_WORDS =>
        refine' ⟨_, (PySem.W.mg_of KX G ?z).trans ?e⟩
        (case z => k_is)
        (case e => exact rfl)
      case g_MOST_LONG =>
        refine' ⟨_, (PySem.W.mg_of KX G ?z).trans ?e⟩
        (case z => k_is)
        (case e => exact rfl)

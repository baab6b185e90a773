import PyProof.Rows.All
import Wide.All
import OpenK.AllK
import Wide.FinOn
import KE.KStateDown
import HandS.ForMost
import HandS.Exc
import HandS.More
import HandS.Codes
import HandS.IsInst
import HandS.Style
import HandS.Defaults
import HandS.HeadHook1
import HandS.HeadHook2
import HandS.Head0
import HandS.Head1
import HandS.Head2
import HandS.HeadEnd
import HandS.HeadHook3
import KE.KDictList
import KE.GoesEnum
import KE.GoesMore
import KE.GoesZip
import HandS.Walk
import PySem.Challenge.RW_breakback_k10_permutation_swaps
set_option Elab.async false
set_option linter.all false
set_option autoImplicit false
set_option maxRecDepth 100000
set_option maxHeartbeats 0
namespace Bb
/-! ## The pure machine: bits, draws as a tree, breakers, replies -/
abbrev Bs := List Bool
/-- a computation that draws: each time one of m -/
inductive Tr (α : Type) where
  | ret (a : α)
  | draw (m : Int) (k : Int → Tr α)
/-- an oracle: the i-th draw's choice, among so many -/
abbrev Ora := Nat → Int → Int
abbrev Dws := List (Int × Int)
namespace Tr
def bind {α β : Type} : Tr α → (α → Tr β) → Tr β
  | .ret a, f => f a
  | .draw m k, f => .draw m fun c => (k c).bind f
def run {α : Type} (o : Ora) : Tr α → Nat → α × Dws
  | .ret a, _ => (a, [])
  | .draw m k, i => (((k (o i m)).run o (i + 1)).1, (o i m, m) :: ((k (o i m)).run o (i + 1)).2)
def ok {α : Type} (o : Ora) : Tr α → Nat → Prop
  | .ret _, _ => True
  | .draw m k, i => 0 ≤ o i m ∧ o i m < m ∧ (k (o i m)).ok o (i + 1)
/-- whatever is drawn: positive numbers alone are drawn among, and P holds of the end and of how many draws there were -/
def All {α : Type} (P : α → Nat → Prop) : Tr α → Nat → Prop
  | .ret a, n => P a n
  | .draw m k, n => 0 < m ∧ ∀ c, 0 ≤ c → c < m → (k c).All P (n + 1)
theorem run_bind {α β : Type} (o : Ora) (f : α → Tr β) : ∀ (t : Tr α) (i : Nat),
    (t.bind f).run o i = (((f (t.run o i).1).run o (i + (t.run o i).2.length)).1, (t.run o i).2 ++ ((f (t.run o i).1).run o (i + (t.run o i).2.length)).2)
  | .ret a, i => by simp [bind, run]
  | .draw m k, i => by
    have h := run_bind o f (k (o i m)) (i + 1)
    simp only [bind, run, h, List.length_cons, List.cons_append]
    rw [show i + 1 + ((k (o i m)).run o (i + 1)).2.length = i + (((k (o i m)).run o (i + 1)).2.length + 1) from by omega]
theorem ok_bind {α β : Type} (o : Ora) (f : α → Tr β) : ∀ (t : Tr α) (i : Nat),
    (t.bind f).ok o i ↔ t.ok o i ∧ (f (t.run o i).1).ok o (i + (t.run o i).2.length)
  | .ret a, i => by simp [bind, run, ok]
  | .draw m k, i => by
    have h := ok_bind o f (k (o i m)) (i + 1)
    simp only [bind, run, ok, h, List.length_cons]
    rw [show i + 1 + ((k (o i m)).run o (i + 1)).2.length = i + (((k (o i m)).run o (i + 1)).2.length + 1) from by omega]
    constructor
    · rintro ⟨a, b, c, d⟩; exact ⟨⟨a, b, c⟩, d⟩
    · rintro ⟨⟨a, b, c⟩, d⟩; exact ⟨a, b, c, d⟩
theorem all_bind {α β : Type} {P : α → Nat → Prop} {Q : β → Nat → Prop} {f : α → Tr β} (hf : ∀ a n, P a n → (f a).All Q n) : ∀ (t : Tr α) (n : Nat), t.All P n → (t.bind f).All Q n
  | .ret a, n, h => hf a n h
  | .draw m k, n, h => ⟨h.1, fun c h0 h1 => all_bind hf (k c) (n + 1) (h.2 c h0 h1)⟩
theorem all_mono {α : Type} {P Q : α → Nat → Prop} (h : ∀ a n, P a n → Q a n) : ∀ (t : Tr α) (n : Nat), t.All P n → t.All Q n
  | .ret a, n, q => h a n q
  | .draw m k, n, q => ⟨q.1, fun c h0 h1 => all_mono h (k c) (n + 1) (q.2 c h0 h1)⟩
theorem all_run {α : Type} {P : α → Nat → Prop} (o : Ora) : ∀ (t : Tr α) (n i : Nat), t.All P n → t.ok o i → P (t.run o i).1 (n + (t.run o i).2.length)
  | .ret a, n, i, h, _ => h
  | .draw m k, n, i, h, q => by
    have z := all_run o (k (o i m)) (n + 1) (i + 1) (h.2 _ q.1 q.2.1) q.2.2
    simp only [run, List.length_cons]
    rw [show n + (((k (o i m)).run o (i + 1)).2.length + 1) = n + 1 + ((k (o i m)).run o (i + 1)).2.length from by omega]
    exact z
theorem all_ok {α : Type} {P : α → Nat → Prop} {o : Ora} (ho : ∀ i m, 0 < m → 0 ≤ o i m ∧ o i m < m) : ∀ (t : Tr α) (n i : Nat), t.All P n → t.ok o i
  | .ret a, n, i, _ => trivial
  | .draw m k, n, i, h => ⟨(ho i m h.1).1, (ho i m h.1).2, all_ok ho (k (o i m)) (n + 1) (i + 1) (h.2 _ (ho i m h.1).1 (ho i m h.1).2)⟩
end Tr
/-! ### the two rows of choices -/
/-- the law's: remainders -/
def oRem (row : List Int) : Ora := fun i m => match row[i]? with
  | some c => c % m
  | none => 0
/-- the program's: as they are told -/
def oTold (cs : List Int) : Ora := fun i _ => cs.getD i 0
theorem oRem_ok (row : List Int) (i : Nat) (m : Int) (h : 0 < m) : 0 ≤ oRem row i m ∧ oRem row i m < m := by
  unfold oRem
  cases row[i]? with
  | none => exact ⟨Int.le_refl 0, h⟩
  | some c => exact ⟨Int.emod_nonneg _ (by omega), Int.emod_lt_of_pos _ h⟩
/-- the choices that were taken, told again (with others behind them) -/
theorem told_again {α : Type} {P : α → Nat → Prop} (o : Ora) (ho : ∀ i m, 0 < m → 0 ≤ o i m ∧ o i m < m) (cs : List Int) : ∀ (t : Tr α) (n i : Nat), t.All P n →
    (∀ j d, (t.run o i).2[j]? = some d → cs[i + j]? = some d.1) → t.ok (oTold cs) i ∧ t.run (oTold cs) i = t.run o i
  | .ret a, n, i, _, _ => ⟨trivial, rfl⟩
  | .draw m k, n, i, h, q => by
    have e : oTold cs i m = o i m := by
      have z := q 0 (o i m, m) rfl
      unfold oTold
      rw [List.getD_eq_getElem?_getD, show i = i + 0 from rfl, z]
      rfl
    obtain ⟨h0, h1⟩ := ho i m h.1
    obtain ⟨a, b⟩ := told_again o ho cs (k (o i m)) (n + 1) (i + 1) (h.2 _ h0 h1) fun j d hj => by
      have z := q (j + 1) d (by simpa [Tr.run] using hj)
      rw [show i + 1 + j = i + (j + 1) from by omega]
      exact z
    refine ⟨?_, ?_⟩
    · show 0 ≤ oTold cs i m ∧ oTold cs i m < m ∧ (k (oTold cs i m)).ok (oTold cs) (i + 1)
      rw [e]
      exact ⟨h0, h1, a⟩
    · show (((k (oTold cs i m)).run (oTold cs) (i + 1)).1, (oTold cs i m, m) :: ((k (oTold cs i m)).run (oTold cs) (i + 1)).2) = _
      rw [e, b]
      rfl
/-- a part of them: the law's machine over the part and the program agree -/
theorem part_again {α : Type} {P : α → Nat → Prop} (o : Ora) (ho : ∀ i m, 0 < m → 0 ≤ o i m ∧ o i m < m) (cs : List Int) : ∀ (t : Tr α) (n i : Nat), t.All P n →
    (i < cs.length → ∀ j, i + j < cs.length → ∃ d, (t.run o i).2[j]? = some d ∧ cs[i + j]? = some d.1) → t.ok (oTold cs) i ∧ t.run (oTold cs) i = t.run (oRem cs) i
  | .ret a, n, i, _, _ => ⟨trivial, rfl⟩
  | .draw m k, n, i, h, q => by
    by_cases hi : i < cs.length
    · obtain ⟨h0, h1⟩ := ho i m h.1
      have z : cs[i]? = some (o i m) := by
        obtain ⟨d, e1, e2⟩ := q hi 0 hi
        have e3 : (o i m, m) = d := Option.some.inj e1
        rw [← e3] at e2
        exact e2
      have e : oTold cs i m = o i m := by
        unfold oTold
        rw [List.getD_eq_getElem?_getD, z]
        rfl
      have e' : oRem cs i m = o i m := by
        unfold oRem
        rw [z]
        exact Int.emod_eq_of_lt h0 h1
      obtain ⟨a, b⟩ := part_again o ho cs (k (o i m)) (n + 1) (i + 1) (h.2 _ h0 h1) fun _ j hj => by
        obtain ⟨d, e1, e2⟩ := q hi (j + 1) (by omega)
        exact ⟨d, by simpa [Tr.run] using e1, by rw [show i + 1 + j = i + (j + 1) from by omega]; exact e2⟩
      refine ⟨?_, ?_⟩
      · show 0 ≤ oTold cs i m ∧ oTold cs i m < m ∧ (k (oTold cs i m)).ok (oTold cs) (i + 1)
        rw [e]
        exact ⟨h0, h1, a⟩
      · show (((k (oTold cs i m)).run (oTold cs) (i + 1)).1, (oTold cs i m, m) :: ((k (oTold cs i m)).run (oTold cs) (i + 1)).2) = (((k (oRem cs i m)).run (oRem cs) (i + 1)).1, (oRem cs i m, m) :: ((k (oRem cs i m)).run (oRem cs) (i + 1)).2)
        rw [e, e', b]
    · have z : cs[i]? = none := List.getElem?_eq_none_iff.mpr (by omega)
      have e : oTold cs i m = 0 := by
        unfold oTold
        rw [List.getD_eq_getElem?_getD, z]
        rfl
      have e' : oRem cs i m = 0 := by
        unfold oRem
        rw [z]
      obtain ⟨a, b⟩ := part_again o ho cs (k 0) (n + 1) (i + 1) (h.2 _ (Int.le_refl 0) h.1) fun hj => absurd hj (by omega)
      refine ⟨?_, ?_⟩
      · show 0 ≤ oTold cs i m ∧ oTold cs i m < m ∧ (k (oTold cs i m)).ok (oTold cs) (i + 1)
        rw [e]
        exact ⟨Int.le_refl 0, h.1, a⟩
      · show (((k (oTold cs i m)).run (oTold cs) (i + 1)).1, (oTold cs i m, m) :: ((k (oTold cs i m)).run (oTold cs) (i + 1)).2) = (((k (oRem cs i m)).run (oRem cs) (i + 1)).1, (oRem cs i m, m) :: ((k (oRem cs i m)).run (oRem cs) (i + 1)).2)
        rw [e, e', b]
/-- what was drawn is drawn as o says -/
theorem run_get {α : Type} {P : α → Nat → Prop} (o : Ora) (ho : ∀ i m, 0 < m → 0 ≤ o i m ∧ o i m < m) : ∀ (t : Tr α) (n i : Nat), t.All P n → ∀ d, d ∈ (t.run o i).2 → 0 ≤ d.1 ∧ d.1 < d.2
  | .ret a, n, i, _, d, hd => by cases hd
  | .draw m k, n, i, h, d, hd => by
    rcases List.mem_cons.mp hd with e | e
    · rw [e]; exact ho i m h.1
    · exact run_get o ho (k (o i m)) (n + 1) (i + 1) (h.2 _ (ho i m h.1).1 (ho i m h.1).2) d e
/-! ### bits -/
def bitAt (v : Int) (k : Nat) : Bool := decide (v / 2 ^ k % 2 = 1)
/-- the lowest bit first -/
def lsb (n : Nat) (v : Int) : Bs := (List.range n).map (bitAt v)
def bitsB (n : Nat) (v : Int) : Bs := (lsb n v).reverse
theorem lsb_succ (n : Nat) (v : Int) : lsb (n + 1) v = lsb n v ++ [bitAt v n] := by
  unfold lsb; rw [List.range_succ, List.map_append]; rfl
theorem lsb_length (n : Nat) (v : Int) : (lsb n v).length = n := by unfold lsb; simp
theorem bitsB_length (n : Nat) (v : Int) : (bitsB n v).length = n := by unfold bitsB; rw [List.length_reverse, lsb_length]
theorem bitsB_succ (n : Nat) (v : Int) : bitsB (n + 1) v = bitAt v n :: bitsB n v := by
  unfold bitsB; rw [lsb_succ, List.reverse_append]; rfl
def xorB : Bs → Bs → Bs := List.zipWith fun a b => a != b
theorem xorB_length (a b : Bs) : (xorB a b).length = min a.length b.length := by unfold xorB; rw [List.length_zipWith]
/-! ### parts, breakers -/
abbrev Part := Sum Bool Nat
def partB (hd : Bs) : Part → Bool
  | .inl b => b
  | .inr n => hd.getD n false
def made (ps : List Part) (hd : Bs) : Bs := ps.map (partB hd)
theorem made_length (ps : List Part) (hd : Bs) : (made ps hd).length = ps.length := by unfold made; rw [List.length_map]
inductive Brk where
  | say (ps : List Part)
  | toss (n : Nat) (f : Nat → Brk)
  | look (n : Nat) (a b : Brk)
  | ask (ps : List Part) (b : Brk)
/-- nested at most d deep, the parts within bounds -/
def PartsOk (ps : List Part) : Prop := ps.length ≤ 8 ∧ ∀ n, Sum.inr n ∈ ps → n ≤ 100
def Deep : Brk → Nat → Prop
  | .say ps, d => PartsOk ps ∧ 1 ≤ d
  | .toss n f, d => 1 ≤ n ∧ n ≤ 3 ∧ 1 ≤ d ∧ ∀ i, i < n → Deep (f i) (d - 1)
  | .look n a b, d => n ≤ 100 ∧ 1 ≤ d ∧ Deep a (d - 1) ∧ Deep b (d - 1)
  | .ask ps b, d => PartsOk ps ∧ 1 ≤ d ∧ Deep b (d - 1)
def sumN : Nat → (Nat → Nat) → Nat
  | 0, _ => 0
  | n + 1, f => sumN n f + f n
/-- how many breakers there are, itself counted -/
def size : Brk → Nat
  | .say _ => 1
  | .toss n f => 1 + sumN n fun i => size (f i)
  | .look _ a b => 1 + size a + size b
  | .ask _ b => 1 + size b
theorem size_pos : ∀ b : Brk, 1 ≤ size b
  | .say _ => Nat.le_refl 1
  | .toss n f => by unfold size; omega
  | .look _ a b => by unfold size; omega
  | .ask _ b => by unfold size; omega
theorem deep_mono : ∀ (b : Brk) (d e : Nat), Deep b d → d ≤ e → Deep b e
  | .say ps, d, e, h, l => ⟨h.1, Nat.le_trans h.2 l⟩
  | .toss n f, d, e, h, l => ⟨h.1, h.2.1, Nat.le_trans h.2.2.1 l, fun i hi => deep_mono (f i) (d - 1) (e - 1) (h.2.2.2 i hi) (by omega)⟩
  | .look n a b, d, e, h, l => ⟨h.1, Nat.le_trans h.2.1 l, deep_mono a _ _ h.2.2.1 (by omega), deep_mono b _ _ h.2.2.2 (by omega)⟩
  | .ask ps b, d, e, h, l => ⟨h.1, Nat.le_trans h.2.1 l, deep_mono b _ _ h.2.2 (by omega)⟩
/-! ### a run of a breaker, over any replies -/
structure Rep (σ : Type) where
  go : σ → Bs → Tr (Bs × σ)
  /-- what holds of the state, that has at most n entries -/
  inv : σ → Nat → Prop
  mono : ∀ st n m, inv st n → n ≤ m → inv st m
  all : ∀ st n s k, inv st n → (go st s).All (fun r j => r.1.length ≤ 8 ∧ inv r.2 (n + 4) ∧ j ≤ k + 4) k
abbrev Pairs := List (Bs × Bs)
def runB {σ : Type} (R : Rep σ) : Brk → Bs → σ → Pairs → Tr (Bs × Pairs)
  | .say ps, hd, _, qs => .ret (made ps hd, qs)
  | .toss n f, hd, st, qs => .draw n fun c => runB R (f c.toNat) hd st qs
  | .look n a b, hd, st, qs => if hd.getD n false then runB R b hd st qs else runB R a hd st qs
  | .ask ps b, hd, st, qs => (R.go st (made ps hd)).bind fun r => runB R b (hd ++ r.1) r.2 (qs ++ [(made ps hd, r.1)])
theorem runB_all {σ : Type} (R : Rep σ) : ∀ (b : Brk) (d : Nat) (hd : Bs) (st : σ) (qs : Pairs) (n k : Nat), Deep b d → R.inv st n → (runB R b hd st qs).All (fun _ j => j ≤ k + 4 * d) k
  | .say ps, d, hd, st, qs, n, k, _, _ => by show k ≤ k + 4 * d; omega
  | .toss m f, d, hd, st, qs, n, k, h, hi => by
    refine ⟨by have := h.1; omega, fun c h0 h1 => ?_⟩
    have z := runB_all R (f c.toNat) (d - 1) hd st qs n (k + 1) (h.2.2.2 c.toNat (by omega)) hi
    refine Tr.all_mono (fun _ j hj => ?_) _ _ z
    have := h.2.2.1
    omega
  | .look m a b, d, hd, st, qs, n, k, h, hi => by
    have hd1 := h.2.1
    show (if hd.getD m false = true then runB R b hd st qs else runB R a hd st qs).All _ k
    split
    · exact Tr.all_mono (fun _ j hj => by omega) _ _ (runB_all R b (d - 1) hd st qs n k h.2.2.2 hi)
    · exact Tr.all_mono (fun _ j hj => by omega) _ _ (runB_all R a (d - 1) hd st qs n k h.2.2.1 hi)
  | .ask ps b, d, hd, st, qs, n, k, h, hi => by
    have hd1 := h.2.1
    refine Tr.all_bind (fun r j hr => ?_) _ _ (R.all st n (made ps hd) k hi)
    exact Tr.all_mono (fun _ i hj => by omega) _ _ (runB_all R b (d - 1) (hd ++ r.1) r.2 (qs ++ [(made ps hd, r.1)]) (n + 4) j h.2.2 hr.2.1)
/-! ### lists without doubles -/
theorem nodup_le {α : Type} [DecidableEq α] : ∀ {l m : List α}, l.Nodup → (∀ x, x ∈ l → x ∈ m) → l.length ≤ m.length
  | [], m, _, _ => Nat.zero_le _
  | a :: r, m, h, s => by
    have h' := List.nodup_cons.mp h
    have ha : a ∈ m := s a List.mem_cons_self
    have e : (m.erase a).length = m.length - 1 := List.length_erase_of_mem ha
    have q := nodup_le (l := r) (m := m.erase a) h'.2 fun x hx => by
      have ne : x ≠ a := fun z => h'.1 (z ▸ hx)
      exact (List.mem_erase_of_ne ne).mpr (s x (List.mem_cons_of_mem _ hx))
    have p : 0 < m.length := List.length_pos_of_mem ha
    show r.length + 1 ≤ m.length
    omega
/-! ### every string is written by a number -/
def allB (l : Nat) : List Bs := (List.range (2 ^ l)).map fun (k : Nat) => bitsB l (k : Int)
theorem allB_length (l : Nat) : (allB l).length = 2 ^ l := by unfold allB; simp
def natOf : Bs → Nat
  | [] => 0
  | b :: r => (if b then 1 else 0) * 2 ^ r.length + natOf r
theorem natOf_lt : ∀ s : Bs, natOf s < 2 ^ s.length
  | [] => by decide
  | b :: r => by
    have h := natOf_lt r
    show (if b = true then 1 else 0) * 2 ^ r.length + natOf r < 2 ^ (r.length + 1)
    rw [Nat.pow_succ]
    cases b
    · simp; omega
    · simp; omega
theorem bitAt_nat (v k : Nat) : bitAt (v : Int) k = decide (v / 2 ^ k % 2 = 1) := by
  unfold bitAt
  have e : ((v : Int) / 2 ^ k % 2) = ((v / 2 ^ k % 2 : Nat) : Int) := by
    rw [Int.natCast_emod, Int.natCast_ediv, Int.natCast_pow]
    rfl
  rw [e]
  have h : (((v / 2 ^ k % 2 : Nat) : Int) = 1) ↔ v / 2 ^ k % 2 = 1 := by omega
  exact decide_eq_decide.mpr h
theorem bitsB_add (n w v : Nat) (k : Nat) (hk : k < n) : bitAt ((w * 2 ^ n + v : Nat) : Int) k = bitAt (v : Int) k := by
  rw [bitAt_nat, bitAt_nat]
  have e : (w * 2 ^ n + v) / 2 ^ k % 2 = v / 2 ^ k % 2 := by
    have e1 : w * 2 ^ n = 2 ^ k * (w * 2 ^ (n - k)) := by
      have : 2 ^ n = 2 ^ k * 2 ^ (n - k) := by rw [← Nat.pow_add]; congr 1; omega
      rw [this, Nat.mul_left_comm]
    rw [e1, Nat.mul_add_div (Nat.two_pow_pos k)]
    have e2 : w * 2 ^ (n - k) = 2 * (w * 2 ^ (n - k - 1)) := by
      have : 2 ^ (n - k) = 2 * 2 ^ (n - k - 1) := by rw [← Nat.pow_succ']; congr 1; omega
      rw [this, Nat.mul_left_comm]
    rw [e2]
    omega
  rw [e]
theorem lsb_congr (n : Nat) (v w : Int) (h : ∀ k, k < n → bitAt v k = bitAt w k) : lsb n v = lsb n w := by
  unfold lsb
  exact List.map_congr_left fun k hk => h k (List.mem_range.mp hk)
theorem bitsB_natOf : ∀ s : Bs, bitsB s.length (natOf s : Int) = s
  | [] => rfl
  | b :: r => by
    show bitsB (r.length + 1) _ = b :: r
    rw [bitsB_succ]
    have h := natOf_lt r
    have e1 : bitsB r.length ((natOf (b :: r) : Nat) : Int) = bitsB r.length (natOf r : Int) := by
      unfold bitsB
      rw [lsb_congr]
      intro k hk
      exact bitsB_add r.length (if b then 1 else 0) (natOf r) k hk
    rw [e1, bitsB_natOf r]
    congr 1
    rw [bitAt_nat]
    show decide (((if b = true then 1 else 0) * 2 ^ r.length + natOf r) / 2 ^ r.length % 2 = 1) = b
    rw [Nat.mul_comm, Nat.mul_add_div (Nat.two_pow_pos _), Nat.div_eq_of_lt h]
    cases b <;> rfl
theorem mem_allB (s : Bs) : s ∈ allB s.length := List.mem_map.mpr ⟨natOf s, List.mem_range.mpr (natOf_lt s), bitsB_natOf s⟩
theorem of_mem_allB {l : Nat} {s : Bs} (h : s ∈ allB l) : s.length = l := by
  obtain ⟨k, _, e⟩ := List.mem_map.mp h
  rw [← e, bitsB_length]
theorem natOf_bitsB : ∀ (l v : Nat), v < 2 ^ l → natOf (bitsB l (v : Int)) = v
  | 0, v, h => by
    have : v = 0 := by simpa using h
    rw [this]; rfl
  | l + 1, v, h => by
    rw [bitsB_succ]
    show (if bitAt (v : Int) l = true then 1 else 0) * 2 ^ (bitsB l (v : Int)).length + natOf (bitsB l (v : Int)) = v
    rw [bitsB_length]
    have hp := Nat.two_pow_pos l
    have e : bitsB l (v : Int) = bitsB l ((v % 2 ^ l : Nat) : Int) := by
      unfold bitsB
      rw [lsb_congr]
      intro k hk
      have q := bitsB_add l (v / 2 ^ l) (v % 2 ^ l) k hk
      rw [Nat.div_add_mod' v (2 ^ l)] at q
      exact q
    rw [e, natOf_bitsB l (v % 2 ^ l) (Nat.mod_lt _ hp)]
    have hv := Nat.div_add_mod' v (2 ^ l)
    have hlt : v / 2 ^ l < 2 := by
      rw [Nat.div_lt_iff_lt_mul hp, Nat.mul_comm]
      rw [Nat.pow_succ] at h
      exact h
    rw [bitAt_nat]
    generalize v / 2 ^ l = a at hv hlt
    have hq : a = 0 ∨ a = 1 := by omega
    rcases hq with q | q
    · rw [q] at hv ⊢
      simp at hv ⊢
      exact hv
    · rw [q] at hv ⊢
      simp at hv ⊢
      exact hv
theorem allB_nodup (l : Nat) : (allB l).Nodup := by
  unfold allB
  rw [List.nodup_iff_pairwise_ne, List.pairwise_map]
  refine List.Pairwise.imp_of_mem ?_ List.pairwise_lt_range
  intro a b ha hb hab e
  have ea := natOf_bitsB l a (List.mem_range.mp ha)
  have eb := natOf_bitsB l b (List.mem_range.mp hb)
  rw [e, eb] at ea
  omega
/-! ### what is known -/
def seek {κ : Type} [DecidableEq κ] : List (κ × Bs) → κ → Option Bs
  | [], _ => none
  | p :: r, k => if p.1 = k then some p.2 else seek r k
/-! ### the permutation -/
abbrev PKn := List (Bs × Bs)
def freeB (l : Nat) (kn : PKn) : List Bs := (allB l).filter fun v => !decide (v ∈ kn.map (·.2))
def goP (l : Nat) (kn : PKn) (s : Bs) : Tr (Bs × PKn) :=
  if s.length = l then
    match seek kn s with
    | some v => .ret (v, kn)
    | none => .draw (freeB l kn).length fun c => .ret ((freeB l kn).getD c.toNat [], kn ++ [(s, (freeB l kn).getD c.toNat [])])
  else .ret ([], kn)
structure PInv (l : Nat) (kn : PKn) (n : Nat) : Prop where
  len : kn.length ≤ n
  nd : (kn.map (·.1)).Nodup
  ks : ∀ p, p ∈ kn → p.1.length = l ∧ p.2.length = l
theorem lookup_none_mem {κ : Type} [DecidableEq κ] {s : κ} : ∀ {kn : List (κ × Bs)}, seek kn s = none → ¬ s ∈ kn.map (·.1)
  | [], _ => by simp
  | p :: r, h => by
    have h' : (if p.1 = s then some p.2 else seek r s) = none := h
    split at h'
    · cases h'
    · rename_i ne
      intro m
      rcases List.mem_cons.mp m with e | e
      · exact ne e.symm
      · exact lookup_none_mem h' e
theorem lookup_some_mem {κ : Type} [DecidableEq κ] {s : κ} {v : Bs} : ∀ {kn : List (κ × Bs)}, seek kn s = some v → (s, v) ∈ kn
  | [], h => by cases h
  | p :: r, h => by
    have h' : (if p.1 = s then some p.2 else seek r s) = some v := h
    split at h'
    · rename_i e
      have e2 := Option.some.inj h'
      rw [← e, ← e2]
      exact List.mem_cons_self
    · exact List.mem_cons_of_mem _ (lookup_some_mem h')
theorem free_pos {l n : Nat} {kn : PKn} {s : Bs} (h : PInv l kn n) (hs : s.length = l) (hk : seek kn s = none) : 0 < (freeB l kn).length := by
  have h1 : (kn.map (·.1)).length + 1 ≤ (allB l).length := by
    have q := nodup_le (l := s :: kn.map (·.1)) (m := allB l) (List.nodup_cons.mpr ⟨lookup_none_mem hk, h.nd⟩) fun x hx => by
      rcases List.mem_cons.mp hx with e | e
      · rw [e, ← hs]; exact mem_allB s
      · obtain ⟨p, hp, e2⟩ := List.mem_map.mp e
        rw [← e2, ← (h.ks p hp).1]
        exact mem_allB _
    exact q
  apply Nat.pos_of_ne_zero
  intro z
  have z' : freeB l kn = [] := List.eq_nil_of_length_eq_zero z
  have h2 : (allB l).length ≤ (kn.map (·.2)).length := nodup_le (allB_nodup l) fun x hx => by
    by_cases hm : x ∈ kn.map (·.2)
    · exact hm
    · have : x ∈ freeB l kn := List.mem_filter.mpr ⟨hx, by rw [decide_eq_false hm]; rfl⟩
      rw [z'] at this
      cases this
  rw [List.length_map] at h1 h2
  omega
theorem free_len {l : Nat} {kn : PKn} {c : Int} (h0 : 0 ≤ c) (h1 : c < (freeB l kn).length) : ((freeB l kn).getD c.toNat []).length = l ∧ (freeB l kn)[c.toNat]? = some ((freeB l kn).getD c.toNat []) := by
  have hl : c.toNat < (freeB l kn).length := by omega
  rw [List.getD_eq_getElem?_getD, List.getElem?_eq_getElem hl]
  refine ⟨?_, rfl⟩
  show ((freeB l kn)[c.toNat]).length = l
  exact of_mem_allB (List.mem_filter.mp (List.getElem_mem hl)).1
def repP (l : Nat) (hl : l ≤ 3) : Rep PKn where
  go := goP l
  inv := PInv l
  mono := fun st n m h q => ⟨Nat.le_trans h.len q, h.nd, h.ks⟩
  all := fun kn n s k h => by
    unfold goP
    split
    · rename_i hs
      split
      · rename_i v hv
        have m := (h.ks _ (lookup_some_mem hv)).2
        exact ⟨by show v.length ≤ 8; rw [show v.length = l from m]; omega, ⟨by show kn.length ≤ n + 4; have := h.len; omega, h.nd, h.ks⟩, by omega⟩
      · rename_i hv
        refine ⟨by have := free_pos h hs hv; omega, fun c h0 h1 => ?_⟩
        obtain ⟨e1, e2⟩ := free_len (l := l) (kn := kn) h0 h1
        refine ⟨by show ((freeB l kn).getD c.toNat []).length ≤ 8; rw [e1]; omega, ⟨?_, ?_, ?_⟩, by omega⟩
        · show (kn ++ [(s, (freeB l kn).getD c.toNat [])]).length ≤ n + 4
          rw [List.length_append]
          have := h.len
          simp
          omega
        · show ((kn ++ [(s, (freeB l kn).getD c.toNat [])]).map (·.1)).Nodup
          rw [List.map_append, List.nodup_append]
          refine ⟨h.nd, by simp, fun a ha b hb => ?_⟩
          have eb : b = s := by simpa using hb
          rw [eb]
          rintro rfl
          exact lookup_none_mem hv ha
        · intro p hp
          rcases List.mem_append.mp hp with e | e
          · exact h.ks p e
          · have ep : p = (s, (freeB l kn).getD c.toNat []) := by simpa using e
            rw [ep]
            exact ⟨hs, e1⟩
    · exact ⟨by show 0 ≤ 8; omega, ⟨by show kn.length ≤ n + 4; have := h.len; omega, h.nd, h.ks⟩, by omega⟩
/-! ### the swaps -/
abbrev SKn := List ((Nat × Bs) × Bs)
def goF (h t : Nat) (kn : SKn) (r : Bs) : Tr (Bs × SKn) :=
  match seek kn (t, r) with
  | some v => .ret (v, kn)
  | none => .draw (2 ^ h) fun c => .ret (bitsB h c, kn ++ [((t, r), bitsB h c)])
def goR (h : Nat) : Nat → Nat → Bs → Bs → SKn → Tr (Bs × SKn)
  | 0, _, L, R, kn => .ret (L ++ R, kn)
  | n + 1, t, L, R, kn => (goF h t kn R).bind fun q => goR h n (t + 1) R (xorB L q.1) q.2
def goS (h rounds : Nat) (kn : SKn) (s : Bs) : Tr (Bs × SKn) :=
  if s.length = 2 * h then goR h rounds 0 (s.take h) (s.drop h) kn else .ret ([], kn)
structure SInv (h : Nat) (kn : SKn) (n : Nat) : Prop where
  len : kn.length ≤ n
  vs : ∀ p, p ∈ kn → p.2.length = h
theorem goF_all {h t n k : Nat} {kn : SKn} {r : Bs} (i : SInv h kn n) : (goF h t kn r).All (fun q j => q.1.length = h ∧ SInv h q.2 (n + 1) ∧ j ≤ k + 1) k := by
  unfold goF
  split
  · rename_i v hv
    exact ⟨i.vs _ (lookup_some_mem hv), ⟨by show kn.length ≤ n + 1; have := i.len; omega, i.vs⟩, by omega⟩
  · refine ⟨Int.pow_pos (by decide), fun c h0 h1 => ⟨bitsB_length h c, ⟨?_, ?_⟩, Nat.le_refl _⟩⟩
    · show (kn ++ [((t, r), bitsB h c)]).length ≤ n + 1
      rw [List.length_append]
      have := i.len
      simp
      omega
    · intro p hp
      rcases List.mem_append.mp hp with e | e
      · exact i.vs p e
      · have ep : p = ((t, r), bitsB h c) := by simpa using e
        rw [ep]
        exact bitsB_length h c
theorem goR_all {h : Nat} : ∀ (m t n k : Nat) (L R : Bs) (kn : SKn), L.length = h → R.length = h → SInv h kn n → (goR h m t L R kn).All (fun q j => q.1.length = 2 * h ∧ SInv h q.2 (n + m) ∧ j ≤ k + m) k
  | 0, t, n, k, L, R, kn, hL, hR, i => ⟨by show (L ++ R).length = 2 * h; rw [List.length_append]; omega, i, Nat.le_refl _⟩
  | m + 1, t, n, k, L, R, kn, hL, hR, i => by
    refine Tr.all_bind (fun q j hq => ?_) _ _ (goF_all (t := t) (r := R) (k := k) i)
    refine Tr.all_mono (fun a b z => ⟨z.1, ?_, by omega⟩) _ _ (goR_all m (t + 1) (n + 1) j R (xorB L q.1) q.2 hR (by rw [xorB_length, hq.1, hL]; omega) hq.2.1)
    have := z.2.1
    rw [show n + (m + 1) = n + 1 + m from by omega]
    exact this
def repS (h rounds : Nat) (hh : h ≤ 2) (hr : rounds ≤ 4) : Rep SKn where
  go := goS h rounds
  inv := SInv h
  mono := fun st n m i q => ⟨Nat.le_trans i.len q, i.vs⟩
  all := fun kn n s k i => by
    unfold goS
    split
    · rename_i hs
      refine Tr.all_mono (fun a b z => ⟨by rw [z.1]; omega, ⟨by have := z.2.1.len; omega, z.2.1.vs⟩, by omega⟩) _ _ (goR_all rounds 0 n k (s.take h) (s.drop h) kn (by rw [List.length_take]; omega) (by rw [List.length_drop]; omega) i)
    · exact ⟨by show 0 ≤ 8; omega, ⟨by show kn.length ≤ n + 4; have := i.len; omega, i.vs⟩, by omega⟩
end Bb
namespace Bb
open PySem PySem.Spec PyProof.Rows L2
/-! ## The text by places -/
def top (i : Nat) : Stmt := PySem.Challenge.pw_breakback_k10_permutation_swaps.main.body.getD i (.Pass ⟨0, 0, 0, 0⟩)
abbrev s_bits : Stmt := top 1
abbrev s_xor : Stmt := top 3
abbrev s_is_number : Stmt := top 12
abbrev s_is_bits : Stmt := top 13
abbrev s_are_parts : Stmt := top 32
abbrev s_inner_plain : Stmt := top 33
abbrev s_check_plain : Stmt := top 34
abbrev s_has_plain_word : Stmt := top 39
abbrev s_check_breaker : Stmt := top 40
abbrev s_made_string : Stmt := top 52
abbrev s_run_plain : Stmt := top 54
abbrev s_run_breaker : Stmt := top 73
abbrev s_is_right : Stmt := top 79
abbrev s_check_game : Stmt := top 80
abbrev s_played : Stmt := top 86
abbrev s_play : Stmt := top 87
abbrev s_Ldraws : Stmt := top 89
abbrev s_Ltake : Stmt := top 90
abbrev s_Lparts : Stmt := top 91
abbrev s_Lbreaker : Stmt := top 92
abbrev s_Lmade : Stmt := top 93
abbrev s_Lbits : Stmt := top 94
abbrev s_Lchoice : Stmt := top 95
abbrev s_Lany : Stmt := top 96
abbrev s_Lxor : Stmt := top 97
abbrev s_Lstart : Stmt := top 98
abbrev s_Lreply : Stmt := top 99
abbrev s_Lend : Stmt := top 100
abbrev s_Lrun : Stmt := top 101
abbrev s_Lsame_play : Stmt := top 102
abbrev s_Lis_played : Stmt := top 103
abbrev s_Lfar : Stmt := top 104
abbrev s_Lasked : Stmt := top 105
abbrev s_law : Stmt := top 106
abbrev s_AnyWorld_init : Stmt := inClass (top 44) 0
abbrev s_AnyWorld_answer : Stmt := inClass (top 44) 1
abbrev s_PermutationWorld_init : Stmt := inClass (top 45) 0
abbrev s_PermutationWorld_answer : Stmt := inClass (top 45) 1
abbrev s_SwapWorld_init : Stmt := inClass (top 46) 0
abbrev s_SwapWorld_answer : Stmt := inClass (top 46) 1
abbrev s_Stopped_init : Stmt := inClass (top 53) 0
abbrev s_Stopped_now : Stmt := inClass (top 53) 1
abbrev s_Tape_init : Stmt := inClass (top 75) 0
abbrev s_Tape_draw : Stmt := inClass (top 75) 1
abbrev s_Tape_string : Stmt := inClass (top 75) 2
abbrev s_Play_init : Stmt := inClass (top 81) 0
abbrev s_Notes_init : Stmt := inClass (top 82) 0
abbrev s_Notes_answer : Stmt := inClass (top 82) 1
abbrev s_Table_init : Stmt := inClass (top 85) 0
abbrev s_Table_begin_asks : Stmt := inClass (top 85) 1
abbrev s_Table_has_won : Stmt := inClass (top 85) 4
/-! ## How a def, a method, a class stands behind the top -/
section
variable (K : PySem.W.Frag) (mg : Str → Option Value)
structure Dq (x : Str) (st : Stmt) (ps : List Str) : Prop where
  ex : ∃ (f : Addr) (fd : FuncData), mg x = some (.ref f) ∧ FunD K x x (defArgs st) (defBody st) (defScope st) [] [] f fd ∧ Binds K fd ps []
structure Mq (C : Addr) (m qual : Str) (st : Stmt) (ps : List Str) : Prop where
  ex : ∃ (f : Addr) (fd : FuncData), Cls K C ∧ Meth K C m f ∧ FunD K m qual (defArgs st) (defBody st) (defScope st) [] [] f fd ∧ Binds K fd ps []
structure Iq (x : Str) (C : Addr) (qual : Str) (st : Stmt) (ps : List Str) : Prop where
  ex : ∃ (f : Addr) (fd : FuncData), Mk K C f ∧ mg x = some (.ref C) ∧ FunD K "__init__" qual (defArgs st) (defBody st) (defScope st) [] [] f fd ∧ Binds K fd ps []
end
section
variable {P : Program} {w : World} {K : PySem.W.Frag} {mg : Str → Option Value} {base : Heap} {x m qual : Str} {C : Addr} {st : Stmt} {N ps : List Str} {k : Nat} {sp : Sp}
/-- a def by its body -/
theorem Dq.cal (D : Dq K mg x st ps) (S : FnScope N ps (defScope st)) (len : ∀ vs H Q E, sp vs H Q E → vs.length = ps.length)
    (body : ∀ (f : Addr) (cdv : Value) (A : Around) (outer : List Env) (s : Shared) (H : Hp) (vs : List V) (Q : VK) (E : XK), Room k (A.deeper (envOfC x (defScope st) s.heap.objs.size f cdv)) → sp vs H Q E →
      ∃ t, PSs (cxOf CX0 P w K mg base N x (defScope st) f cdv A outer s H E).nox (defBody st) t ∧ t { nx := fun _ H' => Q .non H', rt := Q } (start N vs) H) : C8.Cal P w K mg base (k + 1) x sp [] := by
  obtain ⟨f, fd, h1, F, b⟩ := D.ex
  refine ⟨f, fd, ps, [], F.ok S len fun cdv A outer s H vs Q E hr h => ?_, h1, F.kp, b, .nil⟩
  obtain ⟨t, h2, h3⟩ := body f cdv A outer s H vs Q E hr h
  exact ⟨t, PSs.nox h2, h3⟩
theorem Mq.met (D : Mq K C m qual st ps) (S : FnScope N ps (defScope st)) (len : ∀ vs H Q E, sp vs H Q E → vs.length = ps.length)
    (body : ∀ (f : Addr) (cdv : Value) (A : Around) (outer : List Env) (s : Shared) (H : Hp) (vs : List V) (Q : VK) (E : XK), Room k (A.deeper (envOfC qual (defScope st) s.heap.objs.size f cdv)) → sp vs H Q E →
      ∃ t, PSs (cxOf CX0 P w K mg base N qual (defScope st) f cdv A outer s H E).nox (defBody st) t ∧ t { nx := fun _ H' => Q .non H', rt := Q } (start N vs) H) : C8.Met P w K mg base (k + 1) C m sp [] := by
  obtain ⟨f, fd, h1, h2, F, b⟩ := D.ex
  refine ⟨f, fd, ps, [], h1, h2, F.ok S len fun cdv A outer s H vs Q E hr h => ?_, b, .nil⟩
  obtain ⟨t, h2, h3⟩ := body f cdv A outer s H vs Q E hr h
  exact ⟨t, PSs.nox h2, h3⟩
theorem Iq.mak (D : Iq K mg x C qual st ps) (S : FnScope N ps (defScope st)) (len : ∀ vs H Q E, sp vs H Q E → vs.length = ps.length)
    (body : ∀ (f : Addr) (cdv : Value) (A : Around) (outer : List Env) (s : Shared) (H : Hp) (vs : List V) (Q : VK) (E : XK), Room k (A.deeper (envOfC qual (defScope st) s.heap.objs.size f cdv)) → sp vs H Q E →
      ∃ t, PSs (cxOf CX0 P w K mg base N qual (defScope st) f cdv A outer s H E).nox (defBody st) t ∧ t { nx := fun _ H' => Q .non H', rt := Q } (start N vs) H) : C8.Mak P w K mg base (k + 1) x C sp [] := by
  obtain ⟨f, fd, h1, h2, F, b⟩ := D.ex
  refine ⟨f, fd, ps, [], h1, F.ok S len fun cdv A outer s H vs Q E hr h => ?_, h2, b, .nil⟩
  obtain ⟨t, h2, h3⟩ := body f cdv A outer s H vs Q E hr h
  exact ⟨t, PSs.nox h2, h3⟩
end
/-- a class whose __init__ is object's own -/
structure Bare (K : PySem.W.Frag) (C : Addr) : Prop where
  mks : PySem.W.makesIn K C = true
  init : PySem.W.findIn K (.ref C) "__init__" = some (some (.builtin "object.__init__"))
  kp : PySem.W.keepIn K (.ref C) = true
/-- an instance's own class, as isinstance asks for it -/
structure Inst (K : PySem.W.Frag) (C : Addr) : Prop where
  cl : Cls K C
  ha : PySem.W.findIn K (.ref C) "__class__" = some (some (.builtin "object.__class__"))
  hn : PySem.W.specialIn K (.builtin "object.__class__") "__get__" = some (some (.builtin "getset_descriptor.__get__"))
  tk : PySem.W.takesIn K (.builtin "object.__class__") = some true
  hm : PySem.W.mroIn K C (.type "object") = some true
theorem Inst.ty {K : PySem.W.Frag} {C : Addr} (i : Inst K C) {H : Hp} {a dx : Addr} {fs : List (Str × V)} (h : H a = some (.ins C dx fs)) : TyOf K H (.ref a) (.ref C) := .ins h i.cl i.ha i.hn i.tk i.hm
/-! ## What the walks ask of the top -/
structure Tx (K : PySem.W.Frag) (mg : Str → Option Value) (w : World) : Prop where
  d_bits : Dq K mg "bits" s_bits ["length", "number"]
  d_xor : Dq K mg "xor" s_xor ["first", "second"]
  d_is_number : Dq K mg "is_number" s_is_number ["value", "least", "most"]
  d_is_bits : Dq K mg "is_bits" s_is_bits ["value", "length"]
  d_are_parts : Dq K mg "are_parts" s_are_parts ["value"]
  d_inner_plain : Dq K mg "inner_plain" s_inner_plain ["breaker"]
  d_check_plain : Dq K mg "check_plain" s_check_plain ["breaker"]
  d_has_plain_word : Dq K mg "has_plain_word" s_has_plain_word ["value"]
  d_check_breaker : Dq K mg "check_breaker" s_check_breaker ["breaker"]
  d_made_string : Dq K mg "made_string" s_made_string ["parts", "handed"]
  d_run_plain : Dq K mg "run_plain" s_run_plain ["breaker", "tape", "challenge", "world"]
  d_run_breaker : Dq K mg "run_breaker" s_run_breaker ["breaker", "tape", "challenge", "world"]
  d_is_right : Dq K mg "is_right" s_is_right ["game"]
  d_check_game : Dq K mg "check_game" s_check_game ["game"]
  d_played : Dq K mg "played" s_played ["game", "breaker", "choices"]
  d_play : Dq K mg "play" s_play ["game", "breaker", "choices"]
  d_Ldraws : Dq K mg "_law_draws" s_Ldraws ["_law_script", "_law_many"]
  d_Ltake : Dq K mg "_law_take" s_Ltake ["_law_hand", "_law_many"]
  d_Lparts : Dq K mg "_law_parts" s_Lparts ["_law_hand", "_law_length"]
  d_Lbreaker : Dq K mg "_law_breaker" s_Lbreaker ["_law_hand", "_law_depth", "_law_asks", "_law_length", "_law_said"]
  d_Lmade : Dq K mg "_law_made" s_Lmade ["_law_parts_here", "_law_handed"]
  d_Lbits : Dq K mg "_law_bits" s_Lbits ["_law_length", "_law_number"]
  d_Lchoice : Dq K mg "_law_choice" s_Lchoice ["_law_state", "_law_many"]
  d_Lany : Dq K mg "_law_any" s_Lany ["_law_state", "_law_length"]
  d_Lxor : Dq K mg "_law_xor" s_Lxor ["_law_first", "_law_second"]
  d_Lstart : Dq K mg "_law_start" s_Lstart ["_law_game", "_law_state"]
  d_Lreply : Dq K mg "_law_reply" s_Lreply ["_law_game", "_law_state", "_law_ask"]
  d_Lend : Dq K mg "_law_end" s_Lend ["_law_game", "_law_state", "_law_said"]
  d_Lrun : Dq K mg "_law_run" s_Lrun ["_law_game", "_law_breaker_here", "_law_row"]
  d_Lsame_play : Dq K mg "_law_same_play" s_Lsame_play ["_law_told", "_law_due"]
  d_Lis_played : Dq K mg "_law_is_played" s_Lis_played ["_law_game", "_law_breaker_here", "_law_hand"]
  d_Lfar : Dq K mg "_law_far" s_Lfar ["_law_hand", "_law_breaker_here"]
  d_Lasked : Dq K mg "_law_asked" s_Lasked ["_law_hand"]
  d_law : Dq K mg "law" s_law ["_law_script"]
  c_AnyWorld : Cls K (He.ga K "AnyWorld")
  n_AnyWorld_tape : NoAttr K (He.ga K "AnyWorld") "tape"
  n_AnyWorld_l : NoAttr K (He.ga K "AnyWorld") "l"
  n_AnyWorld_m : NoAttr K (He.ga K "AnyWorld") "m"
  n_AnyWorld_told : NoAttr K (He.ga K "AnyWorld") "told"
  i_AnyWorld : Iq K mg "AnyWorld" (He.ga K "AnyWorld") "AnyWorld.__init__" s_AnyWorld_init ["self", "tape", "l", "m"]
  m_AnyWorld_answer : Mq K (He.ga K "AnyWorld") "answer" "AnyWorld.answer" s_AnyWorld_answer ["self", "string"]
  c_PermutationWorld : Cls K (He.ga K "PermutationWorld")
  n_PermutationWorld_tape : NoAttr K (He.ga K "PermutationWorld") "tape"
  n_PermutationWorld_l : NoAttr K (He.ga K "PermutationWorld") "l"
  n_PermutationWorld_told : NoAttr K (He.ga K "PermutationWorld") "told"
  i_PermutationWorld : Iq K mg "PermutationWorld" (He.ga K "PermutationWorld") "PermutationWorld.__init__" s_PermutationWorld_init ["self", "tape", "l"]
  m_PermutationWorld_answer : Mq K (He.ga K "PermutationWorld") "answer" "PermutationWorld.answer" s_PermutationWorld_answer ["self", "string"]
  c_SwapWorld : Cls K (He.ga K "SwapWorld")
  n_SwapWorld_h : NoAttr K (He.ga K "SwapWorld") "h"
  n_SwapWorld_functions : NoAttr K (He.ga K "SwapWorld") "functions"
  i_SwapWorld : Iq K mg "SwapWorld" (He.ga K "SwapWorld") "SwapWorld.__init__" s_SwapWorld_init ["self", "tape", "h", "rounds"]
  m_SwapWorld_answer : Mq K (He.ga K "SwapWorld") "answer" "SwapWorld.answer" s_SwapWorld_answer ["self", "string"]
  c_Stopped : Cls K (He.ga K "Stopped")
  n_Stopped_world : NoAttr K (He.ga K "Stopped") "world"
  i_Stopped : Iq K mg "Stopped" (He.ga K "Stopped") "Stopped.__init__" s_Stopped_init ["self", "world"]
  m_Stopped_now : Mq K (He.ga K "Stopped") "now" "Stopped.now" s_Stopped_now ["self"]
  c_Tape : Cls K (He.ga K "Tape")
  n_Tape_choices : NoAttr K (He.ga K "Tape") "choices"
  n_Tape_draws : NoAttr K (He.ga K "Tape") "draws"
  i_Tape : Iq K mg "Tape" (He.ga K "Tape") "Tape.__init__" s_Tape_init ["self", "choices"]
  m_Tape_draw : Mq K (He.ga K "Tape") "draw" "Tape.draw" s_Tape_draw ["self", "many"]
  m_Tape_string : Mq K (He.ga K "Tape") "string" "Tape.string" s_Tape_string ["self", "length"]
  c_Play : Cls K (He.ga K "Play")
  n_Play_outcome : NoAttr K (He.ga K "Play") "outcome"
  n_Play_said : NoAttr K (He.ga K "Play") "said"
  n_Play_draws : NoAttr K (He.ga K "Play") "draws"
  n_Play_asked : NoAttr K (He.ga K "Play") "asked"
  i_Play : Iq K mg "Play" (He.ga K "Play") "Play.__init__" s_Play_init ["self", "outcome", "said", "draws", "asked"]
  c_Notes : Cls K (He.ga K "Notes")
  n_Notes_world : NoAttr K (He.ga K "Notes") "world"
  n_Notes_asked : NoAttr K (He.ga K "Notes") "asked"
  i_Notes : Iq K mg "Notes" (He.ga K "Notes") "Notes.__init__" s_Notes_init ["self", "world"]
  m_Notes_answer : Mq K (He.ga K "Notes") "answer" "Notes.answer" s_Notes_answer ["self", "string"]
  c_Table : Cls K (He.ga K "Table")
  n_Table_game : NoAttr K (He.ga K "Table") "game"
  n_Table_tape : NoAttr K (He.ga K "Table") "tape"
  n_Table_kind : NoAttr K (He.ga K "Table") "kind"
  n_Table_challenge : NoAttr K (He.ga K "Table") "challenge"
  n_Table_world : NoAttr K (He.ga K "Table") "world"
  n_Table_secret : NoAttr K (He.ga K "Table") "secret"
  i_Table : Iq K mg "Table" (He.ga K "Table") "Table.__init__" s_Table_init ["self", "game", "tape"]
  m_Table_begin_asks : Mq K (He.ga K "Table") "begin_asks" "Table.begin_asks" s_Table_begin_asks ["self"]
  m_Table_has_won : Mq K (He.ga K "Table") "has_won" "Table.has_won" s_Table_has_won ["self", "said", "asked"]
  f_len : mg "len" = none
  f_range : mg "range" = none
  f_zip : mg "zip" = none
  f_isinstance : mg "isinstance" = none
  f_int : mg "int" = none
  f_bool : mg "bool" = none
  f_str : mg "str" = none
  f_tuple : mg "tuple" = none
  f_list : mg "list" = none
  f_all : mg "all" = none
  f_abs : mg "abs" = none
  k_MOST_BIT : ∃ t, mg "MOST_BIT" = some (.int 9999 t)
  k_MOST_TOSSED : ∃ t, mg "MOST_TOSSED" = some (.int 64 t)
  k_MOST_DEPTH : ∃ t, mg "MOST_DEPTH" = some (.int 60 t)
  k_MOST_WITHIN : ∃ t, mg "MOST_WITHIN" = some (.int 2000 t)
  g_OnetimeWorld : mg "OnetimeWorld" = some (.ref (He.ga K "OnetimeWorld"))
  g_Play : mg "Play" = some (.ref (He.ga K "Play"))
  g_PLAIN_WORDS : mg "PLAIN_WORDS" = some (.ref (He.ga K "PLAIN_WORDS"))
  g_SIZES : mg "SIZES" = some (.ref (He.ga K "SIZES"))
  g_RUNS : mg "RUNS" = some (.ref (He.ga K "RUNS"))
  g_Silent : mg "Silent" = some (.ref (He.ga K "Silent"))
  b_Silent : Bare K (He.ga K "Silent")
  t_Notes : Inst K (He.ga K "Notes")
  t_Play : Inst K (He.ga K "Play")
  q_Notes : PySem.W.kitOne K (.ref (He.ga K "Notes")) (.ref (He.ga K "OnetimeWorld")) = some false
  q_Play : PySem.W.kitOne K (.ref (He.ga K "Play")) (.ref (He.ga K "Play")) = some true
  words : ∀ H : Hp, SqT K H (He.ga K "PLAIN_WORDS") [.str "say", .str "toss", .str "look", .str "ask"]
  sizes : ∃ es n, KDict K w (He.ga K "SIZES") es n
  sizeP : ∃ u, PySem.W.nsIn K (He.ga K "SIZES") "permutation" = some (some u) ∧ RelV (.int 2) u
  sizeS : ∃ u, PySem.W.nsIn K (He.ga K "SIZES") "swaps" = some (some u) ∧ RelV (.int 3) u
  runs : ∃ es n, KDict K w (He.ga K "RUNS") es n
  runSay : PySem.W.nsIn K (He.ga K "RUNS") "say" = some none
  runToss : PySem.W.nsIn K (He.ga K "RUNS") "toss" = some none
  runLook : PySem.W.nsIn K (He.ga K "RUNS") "look" = some none
  runAsk : PySem.W.nsIn K (He.ga K "RUNS") "ask" = some none
end Bb
namespace Bb
open PySem PySem.Spec PyProof.Rows L2
/-! ## The head: the facts, by names -/
def e_bits : He.DefD := ⟨("bits", none), "bits", "bits", defArgs s_bits, defBody s_bits, defScope s_bits, [], []⟩
def e_xor : He.DefD := ⟨("xor", none), "xor", "xor", defArgs s_xor, defBody s_xor, defScope s_xor, [], []⟩
def e_is_number : He.DefD := ⟨("is_number", none), "is_number", "is_number", defArgs s_is_number, defBody s_is_number, defScope s_is_number, [], []⟩
def e_is_bits : He.DefD := ⟨("is_bits", none), "is_bits", "is_bits", defArgs s_is_bits, defBody s_is_bits, defScope s_is_bits, [], []⟩
def e_are_parts : He.DefD := ⟨("are_parts", none), "are_parts", "are_parts", defArgs s_are_parts, defBody s_are_parts, defScope s_are_parts, [], []⟩
def e_inner_plain : He.DefD := ⟨("inner_plain", none), "inner_plain", "inner_plain", defArgs s_inner_plain, defBody s_inner_plain, defScope s_inner_plain, [], []⟩
def e_check_plain : He.DefD := ⟨("check_plain", none), "check_plain", "check_plain", defArgs s_check_plain, defBody s_check_plain, defScope s_check_plain, [], []⟩
def e_has_plain_word : He.DefD := ⟨("has_plain_word", none), "has_plain_word", "has_plain_word", defArgs s_has_plain_word, defBody s_has_plain_word, defScope s_has_plain_word, [], []⟩
def e_check_breaker : He.DefD := ⟨("check_breaker", none), "check_breaker", "check_breaker", defArgs s_check_breaker, defBody s_check_breaker, defScope s_check_breaker, [], []⟩
def e_made_string : He.DefD := ⟨("made_string", none), "made_string", "made_string", defArgs s_made_string, defBody s_made_string, defScope s_made_string, [], []⟩
def e_run_plain : He.DefD := ⟨("run_plain", none), "run_plain", "run_plain", defArgs s_run_plain, defBody s_run_plain, defScope s_run_plain, [], []⟩
def e_run_breaker : He.DefD := ⟨("run_breaker", none), "run_breaker", "run_breaker", defArgs s_run_breaker, defBody s_run_breaker, defScope s_run_breaker, [], []⟩
def e_is_right : He.DefD := ⟨("is_right", none), "is_right", "is_right", defArgs s_is_right, defBody s_is_right, defScope s_is_right, [], []⟩
def e_check_game : He.DefD := ⟨("check_game", none), "check_game", "check_game", defArgs s_check_game, defBody s_check_game, defScope s_check_game, [], []⟩
def e_played : He.DefD := ⟨("played", none), "played", "played", defArgs s_played, defBody s_played, defScope s_played, [], []⟩
def e_play : He.DefD := ⟨("play", none), "play", "play", defArgs s_play, defBody s_play, defScope s_play, [], []⟩
def e_Ldraws : He.DefD := ⟨("_law_draws", none), "_law_draws", "_law_draws", defArgs s_Ldraws, defBody s_Ldraws, defScope s_Ldraws, [], []⟩
def e_Ltake : He.DefD := ⟨("_law_take", none), "_law_take", "_law_take", defArgs s_Ltake, defBody s_Ltake, defScope s_Ltake, [], []⟩
def e_Lparts : He.DefD := ⟨("_law_parts", none), "_law_parts", "_law_parts", defArgs s_Lparts, defBody s_Lparts, defScope s_Lparts, [], []⟩
def e_Lbreaker : He.DefD := ⟨("_law_breaker", none), "_law_breaker", "_law_breaker", defArgs s_Lbreaker, defBody s_Lbreaker, defScope s_Lbreaker, [], []⟩
def e_Lmade : He.DefD := ⟨("_law_made", none), "_law_made", "_law_made", defArgs s_Lmade, defBody s_Lmade, defScope s_Lmade, [], []⟩
def e_Lbits : He.DefD := ⟨("_law_bits", none), "_law_bits", "_law_bits", defArgs s_Lbits, defBody s_Lbits, defScope s_Lbits, [], []⟩
def e_Lchoice : He.DefD := ⟨("_law_choice", none), "_law_choice", "_law_choice", defArgs s_Lchoice, defBody s_Lchoice, defScope s_Lchoice, [], []⟩
def e_Lany : He.DefD := ⟨("_law_any", none), "_law_any", "_law_any", defArgs s_Lany, defBody s_Lany, defScope s_Lany, [], []⟩
def e_Lxor : He.DefD := ⟨("_law_xor", none), "_law_xor", "_law_xor", defArgs s_Lxor, defBody s_Lxor, defScope s_Lxor, [], []⟩
def e_Lstart : He.DefD := ⟨("_law_start", none), "_law_start", "_law_start", defArgs s_Lstart, defBody s_Lstart, defScope s_Lstart, [], []⟩
def e_Lreply : He.DefD := ⟨("_law_reply", none), "_law_reply", "_law_reply", defArgs s_Lreply, defBody s_Lreply, defScope s_Lreply, [], []⟩
def e_Lend : He.DefD := ⟨("_law_end", none), "_law_end", "_law_end", defArgs s_Lend, defBody s_Lend, defScope s_Lend, [], []⟩
def e_Lrun : He.DefD := ⟨("_law_run", none), "_law_run", "_law_run", defArgs s_Lrun, defBody s_Lrun, defScope s_Lrun, [], []⟩
def e_Lsame_play : He.DefD := ⟨("_law_same_play", none), "_law_same_play", "_law_same_play", defArgs s_Lsame_play, defBody s_Lsame_play, defScope s_Lsame_play, [], []⟩
def e_Lis_played : He.DefD := ⟨("_law_is_played", none), "_law_is_played", "_law_is_played", defArgs s_Lis_played, defBody s_Lis_played, defScope s_Lis_played, [], []⟩
def e_Lfar : He.DefD := ⟨("_law_far", none), "_law_far", "_law_far", defArgs s_Lfar, defBody s_Lfar, defScope s_Lfar, [], []⟩
def e_Lasked : He.DefD := ⟨("_law_asked", none), "_law_asked", "_law_asked", defArgs s_Lasked, defBody s_Lasked, defScope s_Lasked, [], []⟩
def e_law : He.DefD := ⟨("law", none), "law", "law", defArgs s_law, defBody s_law, defScope s_law, [], []⟩
def e_AnyWorld_init : He.DefD := ⟨("AnyWorld", some "__init__"), "__init__", "AnyWorld.__init__", defArgs s_AnyWorld_init, defBody s_AnyWorld_init, defScope s_AnyWorld_init, [], []⟩
def e_AnyWorld_answer : He.DefD := ⟨("AnyWorld", some "answer"), "answer", "AnyWorld.answer", defArgs s_AnyWorld_answer, defBody s_AnyWorld_answer, defScope s_AnyWorld_answer, [], []⟩
def e_PermutationWorld_init : He.DefD := ⟨("PermutationWorld", some "__init__"), "__init__", "PermutationWorld.__init__", defArgs s_PermutationWorld_init, defBody s_PermutationWorld_init, defScope s_PermutationWorld_init, [], []⟩
def e_PermutationWorld_answer : He.DefD := ⟨("PermutationWorld", some "answer"), "answer", "PermutationWorld.answer", defArgs s_PermutationWorld_answer, defBody s_PermutationWorld_answer, defScope s_PermutationWorld_answer, [], []⟩
def e_SwapWorld_init : He.DefD := ⟨("SwapWorld", some "__init__"), "__init__", "SwapWorld.__init__", defArgs s_SwapWorld_init, defBody s_SwapWorld_init, defScope s_SwapWorld_init, [], []⟩
def e_SwapWorld_answer : He.DefD := ⟨("SwapWorld", some "answer"), "answer", "SwapWorld.answer", defArgs s_SwapWorld_answer, defBody s_SwapWorld_answer, defScope s_SwapWorld_answer, [], []⟩
def e_Stopped_init : He.DefD := ⟨("Stopped", some "__init__"), "__init__", "Stopped.__init__", defArgs s_Stopped_init, defBody s_Stopped_init, defScope s_Stopped_init, [], []⟩
def e_Stopped_now : He.DefD := ⟨("Stopped", some "now"), "now", "Stopped.now", defArgs s_Stopped_now, defBody s_Stopped_now, defScope s_Stopped_now, [], []⟩
def e_Tape_init : He.DefD := ⟨("Tape", some "__init__"), "__init__", "Tape.__init__", defArgs s_Tape_init, defBody s_Tape_init, defScope s_Tape_init, [], []⟩
def e_Tape_draw : He.DefD := ⟨("Tape", some "draw"), "draw", "Tape.draw", defArgs s_Tape_draw, defBody s_Tape_draw, defScope s_Tape_draw, [], []⟩
def e_Tape_string : He.DefD := ⟨("Tape", some "string"), "string", "Tape.string", defArgs s_Tape_string, defBody s_Tape_string, defScope s_Tape_string, [], []⟩
def e_Play_init : He.DefD := ⟨("Play", some "__init__"), "__init__", "Play.__init__", defArgs s_Play_init, defBody s_Play_init, defScope s_Play_init, [], []⟩
def e_Notes_init : He.DefD := ⟨("Notes", some "__init__"), "__init__", "Notes.__init__", defArgs s_Notes_init, defBody s_Notes_init, defScope s_Notes_init, [], []⟩
def e_Notes_answer : He.DefD := ⟨("Notes", some "answer"), "answer", "Notes.answer", defArgs s_Notes_answer, defBody s_Notes_answer, defScope s_Notes_answer, [], []⟩
def e_Table_init : He.DefD := ⟨("Table", some "__init__"), "__init__", "Table.__init__", defArgs s_Table_init, defBody s_Table_init, defScope s_Table_init, [], []⟩
def e_Table_begin_asks : He.DefD := ⟨("Table", some "begin_asks"), "begin_asks", "Table.begin_asks", defArgs s_Table_begin_asks, defBody s_Table_begin_asks, defScope s_Table_begin_asks, [], []⟩
def e_Table_has_won : He.DefD := ⟨("Table", some "has_won"), "has_won", "Table.has_won", defArgs s_Table_has_won, defBody s_Table_has_won, defScope s_Table_has_won, [], []⟩
def hfn0 : List He.DefD := [e_bits, e_xor, e_is_number, e_is_bits, e_are_parts, e_inner_plain, e_check_plain, e_has_plain_word, e_check_breaker, e_made_string, e_run_plain, e_run_breaker, e_is_right, e_check_game, e_played, e_play, e_Ldraws, e_Ltake, e_Lparts, e_Lbreaker, e_Lmade, e_Lbits, e_Lchoice, e_Lany, e_Lxor, e_Lstart, e_Lreply, e_Lend, e_Lrun, e_Lsame_play]
def hfn1 : List He.DefD := [e_Lis_played, e_Lfar, e_Lasked, e_law, e_AnyWorld_init, e_AnyWorld_answer, e_PermutationWorld_init, e_PermutationWorld_answer, e_SwapWorld_init, e_SwapWorld_answer, e_Stopped_init, e_Stopped_now, e_Tape_init, e_Tape_draw, e_Tape_string, e_Play_init, e_Notes_init, e_Notes_answer, e_Table_init, e_Table_begin_asks, e_Table_has_won]
def hfn : List He.DefD := hfn0 ++ (hfn1)
def hfa0 : List He.Fa := [.glo "bits", .glo "xor", .glo "is_number", .glo "is_bits", .glo "are_parts", .glo "inner_plain", .glo "check_plain", .glo "has_plain_word", .glo "check_breaker", .glo "made_string", .glo "run_plain", .glo "run_breaker", .glo "is_right", .glo "check_game", .glo "played", .glo "play", .glo "_law_draws", .glo "_law_take", .glo "_law_parts", .glo "_law_breaker", .glo "_law_made", .glo "_law_bits", .glo "_law_choice", .glo "_law_any", .glo "_law_xor", .glo "_law_start", .glo "_law_reply", .glo "_law_end", .glo "_law_run", .glo "_law_same_play"]
def hfa1 : List He.Fa := [.glo "_law_is_played", .glo "_law_far", .glo "_law_asked", .glo "law", .glo "AnyWorld", .glo "PermutationWorld", .glo "SwapWorld", .glo "Stopped", .glo "Tape", .glo "Play", .glo "Notes", .glo "Table", .glo "OnetimeWorld", .glo "PLAIN_WORDS", .glo "SIZES", .glo "RUNS", .glo "Silent", .free "len", .free "range", .free "zip", .free "isinstance", .free "int", .free "bool", .free "str", .free "tuple", .free "list", .free "all", .free "abs", .int "MOST_BIT" 9999, .int "MOST_TOSSED" 64]
def hfa2 : List He.Fa := [.int "MOST_DEPTH" 60, .int "MOST_WITHIN" 2000, .cls "AnyWorld", .noat "AnyWorld" "tape", .noat "AnyWorld" "l", .noat "AnyWorld" "m", .noat "AnyWorld" "told", .mkr "AnyWorld", .meth "AnyWorld" "answer", .cls "PermutationWorld", .noat "PermutationWorld" "tape", .noat "PermutationWorld" "l", .noat "PermutationWorld" "told", .mkr "PermutationWorld", .meth "PermutationWorld" "answer", .cls "SwapWorld", .noat "SwapWorld" "h", .noat "SwapWorld" "functions", .mkr "SwapWorld", .meth "SwapWorld" "answer", .cls "Stopped", .noat "Stopped" "world", .mkr "Stopped", .meth "Stopped" "now", .cls "Tape", .noat "Tape" "choices", .noat "Tape" "draws", .mkr "Tape", .meth "Tape" "draw", .meth "Tape" "string"]
def hfa3 : List He.Fa := [.cls "Play", .noat "Play" "outcome", .noat "Play" "said", .noat "Play" "draws", .noat "Play" "asked", .mkr "Play", .cls "Notes", .noat "Notes" "world", .noat "Notes" "asked", .mkr "Notes", .meth "Notes" "answer", .cls "Table", .noat "Table" "game", .noat "Table" "tape", .noat "Table" "kind", .noat "Table" "challenge", .noat "Table" "world", .noat "Table" "secret", .mkr "Table", .meth "Table" "begin_asks", .meth "Table" "has_won"]
def hfa : List He.Fa := hfa0 ++ (hfa1 ++ (hfa2 ++ (hfa3)))
def hnames0 : List PySem.Str := ["__name__", "bits", "number_of", "xor", "parity", "BreakError", "BadBreaker", "BadGame", "BadChoice", "MOST_LENGTH", "is_number", "is_bits", "is_row", "is_generator", "is_function", "row_at", "value_at", "put_out", "go_down", "half", "tree_turns", "PLAIN_WORDS", "MOST_BIT", "MOST_TOSSED", "MOST_DEPTH", "MOST_LAYERS", "MOST_WITHIN", "MOST_ASKS", "MOST_COUNTED", "are_parts"]
def hnames1 : List PySem.Str := ["inner_plain", "check_plain", "fits_longer", "fits_tree", "is_length", "fits_word", "has_plain_word", "check_breaker", "Silent", "KeyedWorld", "AnyWorld", "PermutationWorld", "SwapWorld", "SecretWorld", "OnceWorld", "MarkWorld", "OnetimeWorld", "made_string", "Stopped", "run_plain", "run_longer", "TreeWorld", "run_tree", "run_marks", "guessed", "run_secrets", "run_once", "run_opening", "run_onetime", "prefix_challenge"]
def hnames2 : List PySem.Str := ["run_next", "run_guess", "run_counter", "run_cut", "run_bit", "squares_of", "run_hard", "RUNS", "run_breaker", "Tape", "SIZES", "is_truth", "is_right", "check_game", "Play", "Notes", "cover", "function_world", "Table", "played", "play", "_law_draws", "_law_take", "_law_parts", "_law_breaker", "_law_made", "_law_bits", "_law_choice", "_law_any", "_law_xor"]
def hnames3 : List PySem.Str := ["_law_start", "_law_reply", "_law_end", "_law_run", "_law_same_play", "_law_is_played", "_law_far", "_law_asked"]
def hnames : List PySem.Str := hnames0 ++ (hnames1 ++ (hnames2 ++ (hnames3)))
def hlook0 : List PySem.Str := ["bits", "xor", "is_number", "is_bits", "are_parts", "inner_plain", "check_plain", "has_plain_word", "check_breaker", "made_string", "run_plain", "run_breaker", "is_right", "check_game", "played", "play", "_law_draws", "_law_take", "_law_parts", "_law_breaker", "_law_made", "_law_bits", "_law_choice", "_law_any", "_law_xor", "_law_start", "_law_reply", "_law_end", "_law_run", "_law_same_play"]
def hlook1 : List PySem.Str := ["_law_is_played", "_law_far", "_law_asked", "law", "PLAIN_WORDS", "SIZES", "RUNS"]
def hlook : List PySem.Str := hlook0 ++ (hlook1)
def hlookC0 : List PySem.Str := ["AnyWorld", "PermutationWorld", "SwapWorld", "Stopped", "Tape", "Play", "Notes", "Table", "Silent", "OnetimeWorld"]
def hlookC : List PySem.Str := hlookC0
def htab : List He.Tab := [(fun K => He.ga K "SIZES", ["generator", "function", "permutation", "swaps", "marks", "secrets", "once", "opening", "next", "inverse", "onetime", "hard"]), (fun K => He.ga K "RUNS", ["counter", "cut", "bit", "longer", "tree", "marks", "secrets", "once", "opening", "onetime", "next", "guess", "hard"])]
def instB (K : PySem.W.Frag) (C : Addr) : Bool := He.eqO (PySem.W.findIn K (.ref C) "__class__") (some (some (.builtin "object.__class__"))) && (He.eqO (PySem.W.specialIn K (.builtin "object.__class__") "__get__") (some (some (.builtin "getset_descriptor.__get__"))) &&
  (decide (PySem.W.takesIn K (.builtin "object.__class__") = some true) && decide (PySem.W.mroIn K C (.type "object") = some true)))
theorem instB_ok {K : PySem.W.Frag} {C : Addr} (h : instB K C = true) (c : Cls K C) : Inst K C := by
  obtain ⟨h1, h⟩ := He.ba h
  obtain ⟨h2, h⟩ := He.ba h
  obtain ⟨h3, h4⟩ := He.ba h
  exact ⟨c, He.eqO_ok h1, He.eqO_ok h2, of_decide_eq_true h3, of_decide_eq_true h4⟩
def bareB (K : PySem.W.Frag) (C : Addr) : Bool := PySem.W.makesIn K C && (He.eqO (PySem.W.findIn K (.ref C) "__init__") (some (some (.builtin "object.__init__"))) && PySem.W.keepIn K (.ref C))
theorem bareB_ok {K : PySem.W.Frag} {C : Addr} (h : bareB K C = true) : Bare K C := by
  obtain ⟨h1, h⟩ := He.ba h
  obtain ⟨h2, h3⟩ := He.ba h
  exact ⟨h1, He.eqO_ok h2, h3⟩
def noneB (K : PySem.W.Frag) (x : Str) : Bool := He.eqO (PySem.W.nsIn K (He.ga K "RUNS") x) (some none)
def hex (K : PySem.W.Frag) : Bool := bareB K (He.ga K "Silent") && (instB K (He.ga K "Notes") && (instB K (He.ga K "Play") && (decide (PySem.W.kitOne K (.ref (He.ga K "Notes")) (.ref (He.ga K "OnetimeWorld")) = some false) &&
  (decide (PySem.W.kitOne K (.ref (He.ga K "Play")) (.ref (He.ga K "Play")) = some true) && (He.tupB K "PLAIN_WORDS" [.str "say", .str "toss", .str "look", .str "ask"] && (He.valsB K (He.ga K "SIZES") [("permutation", .int 2), ("swaps", .int 3)] &&
  (noneB K "say" && (noneB K "toss" && (noneB K "look" && noneB K "ask")))))))))
abbrev R : PySem.W.OpenRow := PySem.W.OpenLaw.row PySem.Challenge.rw_breakback_k10_permutation_swaps
/-! the part of the heap that is looked at: the module's names that are asked for, their code, their classes' methods and these methods' code -/
def refsM (g : Addr → Option Obj) (a : Addr) : List Addr := match g a with
  | some ⟨_, _, .func fd, _⟩ => He.refV fd.code
  | some ⟨_, _, .cls cd, _⟩ => [cd.ns]
  | _ => []
def refsN (g : Addr → Option Obj) (a : Addr) : List Addr := match g a with
  | some ⟨_, _, .dict es _, _⟩ => es.toList.flatMap fun e => He.refV e.val
  | _ => []
def as1 (g : Addr → Option Obj) : List Addr := hlook.map (He.ga (He.frG g [mainGlobals]))
def as1c (g : Addr → Option Obj) : List Addr := hlookC.map (He.ga (He.frG g [mainGlobals]))
def asM (g : Addr → Option Obj) : List Addr :=
  mainGlobals :: (as1 g ++ (as1 g).flatMap (refsM g) ++ (as1c g ++ (as1c g).flatMap (refsM g) ++ (((as1c g).flatMap (refsM g)).flatMap (refsN g) ++ (((as1c g).flatMap (refsM g)).flatMap (refsN g)).flatMap (refsM g))))
abbrev AlM : Type := He.AlT × Bool
def obsM (g : Addr → Option Obj) : AlM := (He.obsT hfa hfn htab (He.frG g (asM g)), hex (He.frG g (asM g)))
def hk : PySem.W.Hook where
  α := AlM
  obs := fun s => obsM s.heap.get?
  val := fun w => (He.valT hfn htab w, true)
  says := fun w h => ∃ K : PySem.W.Frag, K.In h ∧ He.SaysT hfa hfn htab w K ∧ hex K = true
  of := fun _ _ e => ⟨_, He.frG_in, congrArg (fun z : AlM => z.1) e, congrArg (fun z : AlM => z.2) e⟩
  keeps := fun _ _ _ ⟨K, hK, c⟩ k => ⟨K, PySem.W.Frag.In.keeps hK k, c⟩
def hob (s : PySem.W.SharedT) : AlM := obsM (HandSHeadRun.getT s)
theorem hob_eq (s : PySem.W.SharedT) : hob s = hk.obs s.abs := by
  have e : HandSHeadRun.getT s = s.abs.heap.get? := funext (HandSHeadRun.getT_eq s)
  show obsM (HandSHeadRun.getT s) = obsM s.abs.heap.get?
  rw [e]
theorem hrun0 (w : World) : HandSHeadRun.RunEq R (PySem.W.view R.prog [106]) hk hob 7600 hnames (w.withFollow "special-get-raises" false) := by
  intro os
  kernel_rfl
theorem hrun1 (w : World) : HandSHeadRun.RunEq R (PySem.W.view R.prog [106]) hk hob 7600 hnames (w.withFollow "special-get-raises" true) := by
  intro os
  kernel_rfl
theorem hrun (w : World) : HandSHeadRun.RunEq R (PySem.W.view R.prog [106]) hk hob 7600 hnames w := PySem.W.byRow2 "special-get-raises" hrun0 hrun1 w
theorem facts {w : World} {K : PySem.W.Frag} {h : Heap} {mg : Str → Option Value} (X : K.In h) (G : h.Ns mainGlobals mg) (c : He.SaysT hfa hfn htab w K) (cx : hex K = true) : Tx K mg w := by
  have d := c.d
  obtain ⟨_, F0⟩ := d.def_ 0 (d := e_bits) rfl
  obtain ⟨_, F1⟩ := d.def_ 1 (d := e_xor) rfl
  obtain ⟨_, F2⟩ := d.def_ 2 (d := e_is_number) rfl
  obtain ⟨_, F3⟩ := d.def_ 3 (d := e_is_bits) rfl
  obtain ⟨_, F4⟩ := d.def_ 4 (d := e_are_parts) rfl
  obtain ⟨_, F5⟩ := d.def_ 5 (d := e_inner_plain) rfl
  obtain ⟨_, F6⟩ := d.def_ 6 (d := e_check_plain) rfl
  obtain ⟨_, F7⟩ := d.def_ 7 (d := e_has_plain_word) rfl
  obtain ⟨_, F8⟩ := d.def_ 8 (d := e_check_breaker) rfl
  obtain ⟨_, F9⟩ := d.def_ 9 (d := e_made_string) rfl
  obtain ⟨_, F10⟩ := d.def_ 10 (d := e_run_plain) rfl
  obtain ⟨_, F11⟩ := d.def_ 11 (d := e_run_breaker) rfl
  obtain ⟨_, F12⟩ := d.def_ 12 (d := e_is_right) rfl
  obtain ⟨_, F13⟩ := d.def_ 13 (d := e_check_game) rfl
  obtain ⟨_, F14⟩ := d.def_ 14 (d := e_played) rfl
  obtain ⟨_, F15⟩ := d.def_ 15 (d := e_play) rfl
  obtain ⟨_, F16⟩ := d.def_ 16 (d := e_Ldraws) rfl
  obtain ⟨_, F17⟩ := d.def_ 17 (d := e_Ltake) rfl
  obtain ⟨_, F18⟩ := d.def_ 18 (d := e_Lparts) rfl
  obtain ⟨_, F19⟩ := d.def_ 19 (d := e_Lbreaker) rfl
  obtain ⟨_, F20⟩ := d.def_ 20 (d := e_Lmade) rfl
  obtain ⟨_, F21⟩ := d.def_ 21 (d := e_Lbits) rfl
  obtain ⟨_, F22⟩ := d.def_ 22 (d := e_Lchoice) rfl
  obtain ⟨_, F23⟩ := d.def_ 23 (d := e_Lany) rfl
  obtain ⟨_, F24⟩ := d.def_ 24 (d := e_Lxor) rfl
  obtain ⟨_, F25⟩ := d.def_ 25 (d := e_Lstart) rfl
  obtain ⟨_, F26⟩ := d.def_ 26 (d := e_Lreply) rfl
  obtain ⟨_, F27⟩ := d.def_ 27 (d := e_Lend) rfl
  obtain ⟨_, F28⟩ := d.def_ 28 (d := e_Lrun) rfl
  obtain ⟨_, F29⟩ := d.def_ 29 (d := e_Lsame_play) rfl
  obtain ⟨_, F30⟩ := d.def_ 30 (d := e_Lis_played) rfl
  obtain ⟨_, F31⟩ := d.def_ 31 (d := e_Lfar) rfl
  obtain ⟨_, F32⟩ := d.def_ 32 (d := e_Lasked) rfl
  obtain ⟨_, F33⟩ := d.def_ 33 (d := e_law) rfl
  obtain ⟨_, F34⟩ := d.def_ 34 (d := e_AnyWorld_init) rfl
  obtain ⟨_, F35⟩ := d.def_ 35 (d := e_AnyWorld_answer) rfl
  obtain ⟨_, F36⟩ := d.def_ 36 (d := e_PermutationWorld_init) rfl
  obtain ⟨_, F37⟩ := d.def_ 37 (d := e_PermutationWorld_answer) rfl
  obtain ⟨_, F38⟩ := d.def_ 38 (d := e_SwapWorld_init) rfl
  obtain ⟨_, F39⟩ := d.def_ 39 (d := e_SwapWorld_answer) rfl
  obtain ⟨_, F40⟩ := d.def_ 40 (d := e_Stopped_init) rfl
  obtain ⟨_, F41⟩ := d.def_ 41 (d := e_Stopped_now) rfl
  obtain ⟨_, F42⟩ := d.def_ 42 (d := e_Tape_init) rfl
  obtain ⟨_, F43⟩ := d.def_ 43 (d := e_Tape_draw) rfl
  obtain ⟨_, F44⟩ := d.def_ 44 (d := e_Tape_string) rfl
  obtain ⟨_, F45⟩ := d.def_ 45 (d := e_Play_init) rfl
  obtain ⟨_, F46⟩ := d.def_ 46 (d := e_Notes_init) rfl
  obtain ⟨_, F47⟩ := d.def_ 47 (d := e_Notes_answer) rfl
  obtain ⟨_, F48⟩ := d.def_ 48 (d := e_Table_init) rfl
  obtain ⟨_, F49⟩ := d.def_ 49 (d := e_Table_begin_asks) rfl
  obtain ⟨_, F50⟩ := d.def_ 50 (d := e_Table_has_won) rfl
  obtain ⟨x1, x⟩ := He.ba cx
  obtain ⟨x2, x⟩ := He.ba x
  obtain ⟨x3, x⟩ := He.ba x
  obtain ⟨x4, x⟩ := He.ba x
  obtain ⟨x5, x⟩ := He.ba x
  obtain ⟨x6, x⟩ := He.ba x
  obtain ⟨x7, x⟩ := He.ba x
  obtain ⟨x8, x⟩ := He.ba x
  obtain ⟨x9, x⟩ := He.ba x
  obtain ⟨x10, x11⟩ := He.ba x
  exact {
    d_bits := ⟨_, _, He.glo_ok X G (d.fact 0 (f := .glo "bits") rfl), F0, FunD.bindsN F0 fun _ _ _ _ _ _ us hl => match us, hl with | [_, _], _ => rfl⟩
    d_xor := ⟨_, _, He.glo_ok X G (d.fact 1 (f := .glo "xor") rfl), F1, FunD.bindsN F1 fun _ _ _ _ _ _ us hl => match us, hl with | [_, _], _ => rfl⟩
    d_is_number := ⟨_, _, He.glo_ok X G (d.fact 2 (f := .glo "is_number") rfl), F2, FunD.bindsN F2 fun _ _ _ _ _ _ us hl => match us, hl with | [_, _, _], _ => rfl⟩
    d_is_bits := ⟨_, _, He.glo_ok X G (d.fact 3 (f := .glo "is_bits") rfl), F3, FunD.bindsN F3 fun _ _ _ _ _ _ us hl => match us, hl with | [_, _], _ => rfl⟩
    d_are_parts := ⟨_, _, He.glo_ok X G (d.fact 4 (f := .glo "are_parts") rfl), F4, FunD.bindsN F4 fun _ _ _ _ _ _ us hl => match us, hl with | [_], _ => rfl⟩
    d_inner_plain := ⟨_, _, He.glo_ok X G (d.fact 5 (f := .glo "inner_plain") rfl), F5, FunD.bindsN F5 fun _ _ _ _ _ _ us hl => match us, hl with | [_], _ => rfl⟩
    d_check_plain := ⟨_, _, He.glo_ok X G (d.fact 6 (f := .glo "check_plain") rfl), F6, FunD.bindsN F6 fun _ _ _ _ _ _ us hl => match us, hl with | [_], _ => rfl⟩
    d_has_plain_word := ⟨_, _, He.glo_ok X G (d.fact 7 (f := .glo "has_plain_word") rfl), F7, FunD.bindsN F7 fun _ _ _ _ _ _ us hl => match us, hl with | [_], _ => rfl⟩
    d_check_breaker := ⟨_, _, He.glo_ok X G (d.fact 8 (f := .glo "check_breaker") rfl), F8, FunD.bindsN F8 fun _ _ _ _ _ _ us hl => match us, hl with | [_], _ => rfl⟩
    d_made_string := ⟨_, _, He.glo_ok X G (d.fact 9 (f := .glo "made_string") rfl), F9, FunD.bindsN F9 fun _ _ _ _ _ _ us hl => match us, hl with | [_, _], _ => rfl⟩
    d_run_plain := ⟨_, _, He.glo_ok X G (d.fact 10 (f := .glo "run_plain") rfl), F10, FunD.bindsN F10 fun _ _ _ _ _ _ us hl => match us, hl with | [_, _, _, _], _ => rfl⟩
    d_run_breaker := ⟨_, _, He.glo_ok X G (d.fact 11 (f := .glo "run_breaker") rfl), F11, FunD.bindsN F11 fun _ _ _ _ _ _ us hl => match us, hl with | [_, _, _, _], _ => rfl⟩
    d_is_right := ⟨_, _, He.glo_ok X G (d.fact 12 (f := .glo "is_right") rfl), F12, FunD.bindsN F12 fun _ _ _ _ _ _ us hl => match us, hl with | [_], _ => rfl⟩
    d_check_game := ⟨_, _, He.glo_ok X G (d.fact 13 (f := .glo "check_game") rfl), F13, FunD.bindsN F13 fun _ _ _ _ _ _ us hl => match us, hl with | [_], _ => rfl⟩
    d_played := ⟨_, _, He.glo_ok X G (d.fact 14 (f := .glo "played") rfl), F14, FunD.bindsN F14 fun _ _ _ _ _ _ us hl => match us, hl with | [_, _, _], _ => rfl⟩
    d_play := ⟨_, _, He.glo_ok X G (d.fact 15 (f := .glo "play") rfl), F15, FunD.bindsN F15 fun _ _ _ _ _ _ us hl => match us, hl with | [_, _, _], _ => rfl⟩
    d_Ldraws := ⟨_, _, He.glo_ok X G (d.fact 16 (f := .glo "_law_draws") rfl), F16, FunD.bindsN F16 fun _ _ _ _ _ _ us hl => match us, hl with | [_, _], _ => rfl⟩
    d_Ltake := ⟨_, _, He.glo_ok X G (d.fact 17 (f := .glo "_law_take") rfl), F17, FunD.bindsN F17 fun _ _ _ _ _ _ us hl => match us, hl with | [_, _], _ => rfl⟩
    d_Lparts := ⟨_, _, He.glo_ok X G (d.fact 18 (f := .glo "_law_parts") rfl), F18, FunD.bindsN F18 fun _ _ _ _ _ _ us hl => match us, hl with | [_, _], _ => rfl⟩
    d_Lbreaker := ⟨_, _, He.glo_ok X G (d.fact 19 (f := .glo "_law_breaker") rfl), F19, FunD.bindsN F19 fun _ _ _ _ _ _ us hl => match us, hl with | [_, _, _, _, _], _ => rfl⟩
    d_Lmade := ⟨_, _, He.glo_ok X G (d.fact 20 (f := .glo "_law_made") rfl), F20, FunD.bindsN F20 fun _ _ _ _ _ _ us hl => match us, hl with | [_, _], _ => rfl⟩
    d_Lbits := ⟨_, _, He.glo_ok X G (d.fact 21 (f := .glo "_law_bits") rfl), F21, FunD.bindsN F21 fun _ _ _ _ _ _ us hl => match us, hl with | [_, _], _ => rfl⟩
    d_Lchoice := ⟨_, _, He.glo_ok X G (d.fact 22 (f := .glo "_law_choice") rfl), F22, FunD.bindsN F22 fun _ _ _ _ _ _ us hl => match us, hl with | [_, _], _ => rfl⟩
    d_Lany := ⟨_, _, He.glo_ok X G (d.fact 23 (f := .glo "_law_any") rfl), F23, FunD.bindsN F23 fun _ _ _ _ _ _ us hl => match us, hl with | [_, _], _ => rfl⟩
    d_Lxor := ⟨_, _, He.glo_ok X G (d.fact 24 (f := .glo "_law_xor") rfl), F24, FunD.bindsN F24 fun _ _ _ _ _ _ us hl => match us, hl with | [_, _], _ => rfl⟩
    d_Lstart := ⟨_, _, He.glo_ok X G (d.fact 25 (f := .glo "_law_start") rfl), F25, FunD.bindsN F25 fun _ _ _ _ _ _ us hl => match us, hl with | [_, _], _ => rfl⟩
    d_Lreply := ⟨_, _, He.glo_ok X G (d.fact 26 (f := .glo "_law_reply") rfl), F26, FunD.bindsN F26 fun _ _ _ _ _ _ us hl => match us, hl with | [_, _, _], _ => rfl⟩
    d_Lend := ⟨_, _, He.glo_ok X G (d.fact 27 (f := .glo "_law_end") rfl), F27, FunD.bindsN F27 fun _ _ _ _ _ _ us hl => match us, hl with | [_, _, _], _ => rfl⟩
    d_Lrun := ⟨_, _, He.glo_ok X G (d.fact 28 (f := .glo "_law_run") rfl), F28, FunD.bindsN F28 fun _ _ _ _ _ _ us hl => match us, hl with | [_, _, _], _ => rfl⟩
    d_Lsame_play := ⟨_, _, He.glo_ok X G (d.fact 29 (f := .glo "_law_same_play") rfl), F29, FunD.bindsN F29 fun _ _ _ _ _ _ us hl => match us, hl with | [_, _], _ => rfl⟩
    d_Lis_played := ⟨_, _, He.glo_ok X G (d.fact 30 (f := .glo "_law_is_played") rfl), F30, FunD.bindsN F30 fun _ _ _ _ _ _ us hl => match us, hl with | [_, _, _], _ => rfl⟩
    d_Lfar := ⟨_, _, He.glo_ok X G (d.fact 31 (f := .glo "_law_far") rfl), F31, FunD.bindsN F31 fun _ _ _ _ _ _ us hl => match us, hl with | [_, _], _ => rfl⟩
    d_Lasked := ⟨_, _, He.glo_ok X G (d.fact 32 (f := .glo "_law_asked") rfl), F32, FunD.bindsN F32 fun _ _ _ _ _ _ us hl => match us, hl with | [_], _ => rfl⟩
    d_law := ⟨_, _, He.glo_ok X G (d.fact 33 (f := .glo "law") rfl), F33, FunD.bindsN F33 fun _ _ _ _ _ _ us hl => match us, hl with | [_], _ => rfl⟩
    i_AnyWorld := ⟨_, _, He.mkr_ok (d.fact 67 (f := .mkr "AnyWorld") rfl), He.glo_ok X G (d.fact 34 (f := .glo "AnyWorld") rfl), F34, FunD.bindsN F34 fun _ _ _ _ _ _ us hl => match us, hl with | [_, _, _, _], _ => rfl⟩
    m_AnyWorld_answer := ⟨_, _, He.cls_ok (d.fact 62 (f := .cls "AnyWorld") rfl), He.meth_ok (d.fact 68 (f := .meth "AnyWorld" "answer") rfl), F35, FunD.bindsN F35 fun _ _ _ _ _ _ us hl => match us, hl with | [_, _], _ => rfl⟩
    i_PermutationWorld := ⟨_, _, He.mkr_ok (d.fact 73 (f := .mkr "PermutationWorld") rfl), He.glo_ok X G (d.fact 35 (f := .glo "PermutationWorld") rfl), F36, FunD.bindsN F36 fun _ _ _ _ _ _ us hl => match us, hl with | [_, _, _], _ => rfl⟩
    m_PermutationWorld_answer := ⟨_, _, He.cls_ok (d.fact 69 (f := .cls "PermutationWorld") rfl), He.meth_ok (d.fact 74 (f := .meth "PermutationWorld" "answer") rfl), F37, FunD.bindsN F37 fun _ _ _ _ _ _ us hl => match us, hl with | [_, _], _ => rfl⟩
    i_SwapWorld := ⟨_, _, He.mkr_ok (d.fact 78 (f := .mkr "SwapWorld") rfl), He.glo_ok X G (d.fact 36 (f := .glo "SwapWorld") rfl), F38, FunD.bindsN F38 fun _ _ _ _ _ _ us hl => match us, hl with | [_, _, _, _], _ => rfl⟩
    m_SwapWorld_answer := ⟨_, _, He.cls_ok (d.fact 75 (f := .cls "SwapWorld") rfl), He.meth_ok (d.fact 79 (f := .meth "SwapWorld" "answer") rfl), F39, FunD.bindsN F39 fun _ _ _ _ _ _ us hl => match us, hl with | [_, _], _ => rfl⟩
    i_Stopped := ⟨_, _, He.mkr_ok (d.fact 82 (f := .mkr "Stopped") rfl), He.glo_ok X G (d.fact 37 (f := .glo "Stopped") rfl), F40, FunD.bindsN F40 fun _ _ _ _ _ _ us hl => match us, hl with | [_, _], _ => rfl⟩
    m_Stopped_now := ⟨_, _, He.cls_ok (d.fact 80 (f := .cls "Stopped") rfl), He.meth_ok (d.fact 83 (f := .meth "Stopped" "now") rfl), F41, FunD.bindsN F41 fun _ _ _ _ _ _ us hl => match us, hl with | [_], _ => rfl⟩
    i_Tape := ⟨_, _, He.mkr_ok (d.fact 87 (f := .mkr "Tape") rfl), He.glo_ok X G (d.fact 38 (f := .glo "Tape") rfl), F42, FunD.bindsN F42 fun _ _ _ _ _ _ us hl => match us, hl with | [_, _], _ => rfl⟩
    m_Tape_draw := ⟨_, _, He.cls_ok (d.fact 84 (f := .cls "Tape") rfl), He.meth_ok (d.fact 88 (f := .meth "Tape" "draw") rfl), F43, FunD.bindsN F43 fun _ _ _ _ _ _ us hl => match us, hl with | [_, _], _ => rfl⟩
    m_Tape_string := ⟨_, _, He.cls_ok (d.fact 84 (f := .cls "Tape") rfl), He.meth_ok (d.fact 89 (f := .meth "Tape" "string") rfl), F44, FunD.bindsN F44 fun _ _ _ _ _ _ us hl => match us, hl with | [_, _], _ => rfl⟩
    i_Play := ⟨_, _, He.mkr_ok (d.fact 95 (f := .mkr "Play") rfl), He.glo_ok X G (d.fact 39 (f := .glo "Play") rfl), F45, FunD.bindsN F45 fun _ _ _ _ _ _ us hl => match us, hl with | [_, _, _, _, _], _ => rfl⟩
    i_Notes := ⟨_, _, He.mkr_ok (d.fact 99 (f := .mkr "Notes") rfl), He.glo_ok X G (d.fact 40 (f := .glo "Notes") rfl), F46, FunD.bindsN F46 fun _ _ _ _ _ _ us hl => match us, hl with | [_, _], _ => rfl⟩
    m_Notes_answer := ⟨_, _, He.cls_ok (d.fact 96 (f := .cls "Notes") rfl), He.meth_ok (d.fact 100 (f := .meth "Notes" "answer") rfl), F47, FunD.bindsN F47 fun _ _ _ _ _ _ us hl => match us, hl with | [_, _], _ => rfl⟩
    i_Table := ⟨_, _, He.mkr_ok (d.fact 108 (f := .mkr "Table") rfl), He.glo_ok X G (d.fact 41 (f := .glo "Table") rfl), F48, FunD.bindsN F48 fun _ _ _ _ _ _ us hl => match us, hl with | [_, _, _], _ => rfl⟩
    m_Table_begin_asks := ⟨_, _, He.cls_ok (d.fact 101 (f := .cls "Table") rfl), He.meth_ok (d.fact 109 (f := .meth "Table" "begin_asks") rfl), F49, FunD.bindsN F49 fun _ _ _ _ _ _ us hl => match us, hl with | [_], _ => rfl⟩
    m_Table_has_won := ⟨_, _, He.cls_ok (d.fact 101 (f := .cls "Table") rfl), He.meth_ok (d.fact 110 (f := .meth "Table" "has_won") rfl), F50, FunD.bindsN F50 fun _ _ _ _ _ _ us hl => match us, hl with | [_, _, _], _ => rfl⟩
    c_AnyWorld := He.cls_ok (d.fact 62 (f := .cls "AnyWorld") rfl)
    n_AnyWorld_tape := He.noat_ok (d.fact 63 (f := .noat "AnyWorld" "tape") rfl)
    n_AnyWorld_l := He.noat_ok (d.fact 64 (f := .noat "AnyWorld" "l") rfl)
    n_AnyWorld_m := He.noat_ok (d.fact 65 (f := .noat "AnyWorld" "m") rfl)
    n_AnyWorld_told := He.noat_ok (d.fact 66 (f := .noat "AnyWorld" "told") rfl)
    c_PermutationWorld := He.cls_ok (d.fact 69 (f := .cls "PermutationWorld") rfl)
    n_PermutationWorld_tape := He.noat_ok (d.fact 70 (f := .noat "PermutationWorld" "tape") rfl)
    n_PermutationWorld_l := He.noat_ok (d.fact 71 (f := .noat "PermutationWorld" "l") rfl)
    n_PermutationWorld_told := He.noat_ok (d.fact 72 (f := .noat "PermutationWorld" "told") rfl)
    c_SwapWorld := He.cls_ok (d.fact 75 (f := .cls "SwapWorld") rfl)
    n_SwapWorld_h := He.noat_ok (d.fact 76 (f := .noat "SwapWorld" "h") rfl)
    n_SwapWorld_functions := He.noat_ok (d.fact 77 (f := .noat "SwapWorld" "functions") rfl)
    c_Stopped := He.cls_ok (d.fact 80 (f := .cls "Stopped") rfl)
    n_Stopped_world := He.noat_ok (d.fact 81 (f := .noat "Stopped" "world") rfl)
    c_Tape := He.cls_ok (d.fact 84 (f := .cls "Tape") rfl)
    n_Tape_choices := He.noat_ok (d.fact 85 (f := .noat "Tape" "choices") rfl)
    n_Tape_draws := He.noat_ok (d.fact 86 (f := .noat "Tape" "draws") rfl)
    c_Play := He.cls_ok (d.fact 90 (f := .cls "Play") rfl)
    n_Play_outcome := He.noat_ok (d.fact 91 (f := .noat "Play" "outcome") rfl)
    n_Play_said := He.noat_ok (d.fact 92 (f := .noat "Play" "said") rfl)
    n_Play_draws := He.noat_ok (d.fact 93 (f := .noat "Play" "draws") rfl)
    n_Play_asked := He.noat_ok (d.fact 94 (f := .noat "Play" "asked") rfl)
    c_Notes := He.cls_ok (d.fact 96 (f := .cls "Notes") rfl)
    n_Notes_world := He.noat_ok (d.fact 97 (f := .noat "Notes" "world") rfl)
    n_Notes_asked := He.noat_ok (d.fact 98 (f := .noat "Notes" "asked") rfl)
    c_Table := He.cls_ok (d.fact 101 (f := .cls "Table") rfl)
    n_Table_game := He.noat_ok (d.fact 102 (f := .noat "Table" "game") rfl)
    n_Table_tape := He.noat_ok (d.fact 103 (f := .noat "Table" "tape") rfl)
    n_Table_kind := He.noat_ok (d.fact 104 (f := .noat "Table" "kind") rfl)
    n_Table_challenge := He.noat_ok (d.fact 105 (f := .noat "Table" "challenge") rfl)
    n_Table_world := He.noat_ok (d.fact 106 (f := .noat "Table" "world") rfl)
    n_Table_secret := He.noat_ok (d.fact 107 (f := .noat "Table" "secret") rfl)
    f_len := He.free_ok X G (d.fact 47 (f := .free "len") rfl)
    f_range := He.free_ok X G (d.fact 48 (f := .free "range") rfl)
    f_zip := He.free_ok X G (d.fact 49 (f := .free "zip") rfl)
    f_isinstance := He.free_ok X G (d.fact 50 (f := .free "isinstance") rfl)
    f_int := He.free_ok X G (d.fact 51 (f := .free "int") rfl)
    f_bool := He.free_ok X G (d.fact 52 (f := .free "bool") rfl)
    f_str := He.free_ok X G (d.fact 53 (f := .free "str") rfl)
    f_tuple := He.free_ok X G (d.fact 54 (f := .free "tuple") rfl)
    f_list := He.free_ok X G (d.fact 55 (f := .free "list") rfl)
    f_all := He.free_ok X G (d.fact 56 (f := .free "all") rfl)
    f_abs := He.free_ok X G (d.fact 57 (f := .free "abs") rfl)
    k_MOST_BIT := He.int_ok X G (d.fact 58 (f := .int "MOST_BIT" 9999) rfl)
    k_MOST_TOSSED := He.int_ok X G (d.fact 59 (f := .int "MOST_TOSSED" 64) rfl)
    k_MOST_DEPTH := He.int_ok X G (d.fact 60 (f := .int "MOST_DEPTH" 60) rfl)
    k_MOST_WITHIN := He.int_ok X G (d.fact 61 (f := .int "MOST_WITHIN" 2000) rfl)
    g_OnetimeWorld := He.glo_ok X G (d.fact 42 (f := .glo "OnetimeWorld") rfl)
    g_Play := He.glo_ok X G (d.fact 39 (f := .glo "Play") rfl)
    g_PLAIN_WORDS := He.glo_ok X G (d.fact 43 (f := .glo "PLAIN_WORDS") rfl)
    g_SIZES := He.glo_ok X G (d.fact 44 (f := .glo "SIZES") rfl)
    g_RUNS := He.glo_ok X G (d.fact 45 (f := .glo "RUNS") rfl)
    g_Silent := He.glo_ok X G (d.fact 46 (f := .glo "Silent") rfl)
    b_Silent := bareB_ok x1
    t_Notes := instB_ok x2 (He.cls_ok (d.fact 96 (f := .cls "Notes") rfl))
    t_Play := instB_ok x3 (He.cls_ok (d.fact 90 (f := .cls "Play") rfl))
    q_Notes := of_decide_eq_true x4
    q_Play := of_decide_eq_true x5
    words := fun H => He.tupB_ok x6 H
    sizes := c.tab 0 rfl
    sizeP := He.valsB_ok x7 (q := ("permutation", .int 2)) List.mem_cons_self
    sizeS := He.valsB_ok x7 (q := ("swaps", .int 3)) (List.mem_cons_of_mem _ List.mem_cons_self)
    runs := c.tab 1 rfl
    runSay := He.eqO_ok x8
    runToss := He.eqO_ok x9
    runLook := He.eqO_ok x10
    runAsk := He.eqO_ok x11
  }
end Bb
namespace Bb
open PySem PySem.Spec PyProof.Rows L2
/-! ## Rules that the layer lacks -/
/-! ### C() of a class without an own __init__ -/
def tBare (C : Addr) : TE := fun _ H Q => ∀ x dx, H x = none → H dx = none → dx ≠ x → Q (.ref x) (upd (upd H dx (.own x)) x (.ins C dx []))
section
variable {X : Cx} {C : Addr} {x : Str} {p pos : Pos}
theorem run_bare {pins : List (Addr × Obj)} {σ : L2.St} {H : Hp} {s : Shared} {Q : VK} (M : Bare X.K C) (I : Inv X pins σ H s) (q : tBare C σ H Q) : wpAny (model X.prog X.w) X.A (call (.ref C) []) (EP X pins σ Q) X.xe s := by
  have I2 := Inv.made (C := C) I
  have q2 := q (s.heap.objs.size + 1) s.heap.objs.size (I.hok.fresh (Nat.le_succ _)) (I.hok.fresh (Nat.le_refl _)) (Nat.ne_of_lt (Nat.lt_succ_self _))
  have Y := PySem.W.makes_of (M := model X.prog X.w) I.kIn M.mks
  have e1 : ((s.heap.push PySem.W.emptyDict).push (PySem.W.instObj C s.heap.objs.size)).get? (s.heap.objs.size + 1) = some (PySem.W.instObj C s.heap.objs.size) := by
    have z := Heap.get?_push_size (s.heap.push PySem.W.emptyDict) (o := PySem.W.instObj C s.heap.objs.size) rfl
    rw [Heap.size_push] at z
    exact z
  have t1 : PySem.W.Looks (model X.prog X.w) ((s.heap.push PySem.W.emptyDict).push (PySem.W.instObj C s.heap.objs.size)) (typeOf (.ref (s.heap.objs.size + 1))) (.ref C) := (PySem.W.Looks.ld e1).andThen .now
  have t2 : PySem.W.Looks (model X.prog X.w) ((s.heap.push PySem.W.emptyDict).push (PySem.W.instObj C s.heap.objs.size)) (isInstance (.ref (s.heap.objs.size + 1)) (.type "object")) true :=
    t1.andThen (Y.top.keeps fun b o e => Heap.get?_push_of_some _ (Heap.get?_push_of_some _ e))
  refine wpAny_call (make_map0 I.kIn M.mks M.init (fun self => PySem.W.Looks.of_pure (PySem.W.oi_bind self)) ?_)
  refine codeAny_call_builtin PySem.W.oi_plain PySem.W.entry_oi (@PySem.W.check_slot (model X.prog X.w) _ _ _ "object.__init__" "object" "__init__" (.ref (s.heap.objs.size + 1)) [] [] _ PySem.W.oi_kind PySem.W.oi_split t2 (PySem.W.oi_args (.ref (s.heap.objs.size + 1))) ?_)
  rw [PySem.W.oi_run]
  exact wpAny_pure (And.intro rfl ⟨V.ref (s.heap.objs.size + 1), _, I2, rfl, q2⟩)
theorem pe_bare (M : Bare X.K C) (hg : Gl X x) (hm : X.mg x = some (.ref C)) (hdb : (x == ("__debug__" : Str)) = false := by decide) : PE X (.Call (.Name x p) [] [] pos) (tBare C) := by
  refine ⟨fun pins s σ H Q I h => ?_⟩
  refine wpAny_Call_Name_kw (ld_glob I hg hm ?_ hdb)
  exact PySem.W.callWith_K0 I.kIn M.kp (run_bare M I h)
end
/-! ### f(k = v, ..): keywords alone -/
section
variable {X : Cx} {CX : CXT} {k : Nat} {f : Addr} {fd : FuncData} {ps ks : List Str} {sp : Sp} {E : XK} {x : Str} {p pos : Pos} {kws : List Keyword} {tk : TA} {g : List Value → List Value → List Value} {gV : List V → List V → List V}
theorem pe_callK0 (F : FnOk X.prog X.w X.K X.mg X.base CX k f fd ps sp) (hr : Room k X.A) (hg : Gl X x) (hm : X.mg x = some (.ref f)) (kp : PySem.W.keepIn X.K (.ref f) = true) (hb : KBinds X.K fd ps ks g gV) (hx : Passes CX X E) (hkw : PK X kws tk)
    (hall : (backToKw pos (keywordEach kws X.env)).all (·.1.isSome) = true := by rfl) (hks : (backToKw pos (keywordEach kws X.env)).filterMap (·.1) = ks := by rfl) (hdb : (x == ("__debug__" : Str)) = false := by decide)
    (hpl : ((backTo pos (starEach [] X.env)).any (·.1) || (backToKw pos (keywordEach kws X.env)).any (·.1.isNone)) = false := by rfl) :
    PE X (.Call (.Name x p) [] kws pos) (tCallK sp gV E tNil tk) := by
  refine ⟨fun pins s σ H Q I h => ?_⟩
  refine wpAny_Call_Name_kw (ld_glob I hg hm ?_ hdb)
  refine PySem.W.callWith_KW0 (h₀ := X.base) I.ok.mod.kin kp hall ?_ hpl
  refine thn (hkw.run pos pins s σ H _ I h) fun ws s2 ⟨zs, H2, I2, rz, q2⟩ => ⟨I2.kIn, ?_⟩
  rw [hks]
  exact run_fnk (us := []) (vs := []) F hr hb hx I2 .nil rz q2
end
/-! ### list(d.values()) -/
def tListVals (te : TE) : TE := fun σ H Q => te σ H fun x H1 => ∃ (d : Addr) (kvs : List (Key × V)), x = .ref d ∧ H1 d = some (.dK kvs) ∧ ∀ p, H1 p = none → Q (.ref p) (upd H1 p (.lst (kvs.map (·.2))))
theorem kv_vals : ∀ {kvs : List (Key × V)} {vs : List (Key × Value)}, KV kvs vs → Vals (kvs.map (·.2)) (vs.map (·.2))
  | _, _, .nil => .nil
  | _, _, .cons r t => .cons r.2 (kv_vals t)
section
variable {X : Cx} {e : Expr} {te : TE} {p apos cpos pos : Pos}
theorem pe_listVals (hc : X.calm = true) (he : PE X e te) (hg : Gl X "list") (hm : X.mg "list" = none) (hv : bootBuiltins "list" = some (.type "list"))
    (hbase : attributeBase e "values" X.env (eval e X.env) = eval e X.env := by rfl) (hline : (apos.endLine == cpos.line) = true := by rfl)
    (hs : starEach [.Call (.Attribute e "values" apos) [] [] cpos] X.env = (false, eval (.Call (.Attribute e "values" apos) [] [] cpos) X.env) :: starEach [] X.env := by rfl) :
    PE X (.Call (.Name "list" p) [.Call (.Attribute e "values" apos) [] [] cpos] [] pos) (tListVals te) := by
  refine ⟨fun pins s σ H Q I hq => ?_⟩
  refine wpAny_Call_Name_kw (ld_blt I hg hm hv ?_)
  refine PyProof.Rows.callWith_type1 ?_ hs rfl
  rw [hs]
  show wpAny _ _ (spliced ((false, eval (.Call (.Attribute e "values" apos) [] [] cpos) X.env) :: backTo pos (starEach [] X.env))) _ _ s
  refine Calls.spliced_cons ?_
  refine wpAny_Call_method (T := "dict") (id := "dict.values") hbase rfl hline F.plainAttrs_dict F.slot_dict_values F.type_dict_values (thn (he.run pins s σ H _ I hq) fun u s1 ⟨x, H1, I1, rx, d, kvs, ex, hd, q⟩ => ?_)
  subst ex
  obtain rfl : u = Value.ref d := rx
  obtain ⟨hz, hs0, vs, kv, hdo⟩ := I1.hok d _ hd
  obtain ⟨ep, hat⟩ := hdo.dictAt
  have lk : kvs.length = vs.length := Paired.length kv
  have I2 : Inv X pins σ H1 { s1 with heap := s1.heap.push { cls := .type "dict_values", data := .fields #[.ref d] } } := I1.kept (t' := s1.toks) fun b ob q => Heap.get?_push_of_some _ q
  refine ⟨hdo.typeIs, hdo.mapOf.noDict, ?_⟩
  show wpAny _ _ (callWith cpos (.builtin "dict.values") [.ref d] [] []) _ X.xe s1
  refine method_meetsIn F.slot_dict_values F.entry_dict_values rfl (PySem.evalArgs_none ⟨rfl, hdo.typeIs, F.args_dict_values_1 _, _, meets_dict_values (mixKind X.prog X.w) d hs0, ⟨vs, hdo⟩, ?_⟩)
  refine Calls.spliced_nil ?_
  refine PySem.W.kdl_call (PySem.W.kdl_values (knd := mixKind X.prog X.w) (kvs := vs) (ep := ep)) (I1.ok.hd hc) ⟨⟨_, Heap.get?_push_size _ rfl, rfl, rfl⟩, hat.push _⟩ (by rw [← lk]; exact hz) fun h' tk acc c hk hS hacc => ?_
  have ev : acc.toList = vs.map (·.2) := PySem.W.kdl_vals_eq acc.toList (by rw [Array.length_toList]; exact hacc.1) fun j v ej => hacc.2 j v (by rw [← Array.getElem?_toList]; exact ej)
  have hn := I2.hok.fresh (Nat.le_refl _)
  have new : ObjOk X.prog X.w (upd H1 (s1.heap.push { cls := .type "dict_values", data := .fields #[.ref d] }).objs.size (.lst (kvs.map (·.2)))) h' (s1.heap.push { cls := .type "dict_values", data := .fields #[.ref d] }).objs.size (.lst (kvs.map (·.2))) := by
    refine ⟨by rw [List.length_map]; exact hz, acc.toList, c, by rw [ev]; exact kv_vals kv, ?_⟩
    rw [Array.toArray_toList]
    exact hS
  exact ⟨.ref _, _, I2.laid (t' := tk) hk (Nat.le_refl _) new, rfl, q _ hn⟩
end
/-! ### zip of two texts -/
def ItzS (x y : Str) : It :=
  ⟨fun i _ => i < x.cps.size ∧ i < y.cps.size,
    fun i H v H' => ∃ T c d, v = .ref T ∧ H T = none ∧ H' = upd H T (.tup [.str ⟨#[c]⟩, .str ⟨#[d]⟩]) ∧ x.cps[i]? = some c ∧ y.cps[i]? = some d,
    fun i _ => i ≤ x.cps.size ∧ i ≤ y.cps.size ∧ (i = x.cps.size ∨ i = y.cps.size)⟩
theorem turn_zipS {P : Program} {w : World} {K : PySem.W.Frag} {elts : List Expr} {kk : Nat} {tpos : Pos} {x y : Str} {tx ty : Tok} {z TI TO i1 i2 : Addr} (D : ZipSep2 z TI TO i1 i2 [i1] [i2]) :
    Turn P w K (.Tuple elts kk tpos) (ItzS x y) [z, TI, TO, i1, i2] z (fun i h => IsZip h z TI TO .none ∧ IsTupOf2 h TI (.ref i1) (.ref i2) ∧ (∃ a b, IsTupOf2 h TO a b) ∧ h.IsStrIter i1 (strIterType x) x tx i ∧ h.IsStrIter i2 (strIterType y) y ty i) where
  mem := by simp
  obj := fun i h st c hc => by
    obtain ⟨hz, hTI, ⟨a, b, hTO⟩, ⟨o1, e1, _, d1⟩, ⟨o2, e2, _, d2⟩⟩ := st
    simp only [List.mem_cons, List.not_mem_nil, or_false] at hc
    rcases hc with q | q | q | q | q
    · rw [q]; exact ⟨_, hz, fun v q => nomatch q⟩
    · rw [q]; exact ⟨_, hTI, fun v q => nomatch q⟩
    · rw [q]; exact ⟨_, hTO, fun v q => nomatch q⟩
    · rw [q]; exact ⟨o1, e1, fun v q => by rw [d1] at q; cases q⟩
    · rw [q]; exact ⟨o2, e2, fun v q => by rw [d2] at q; cases q⟩
  keep := fun i h h' st k => by
    obtain ⟨hz, hTI, ⟨a, b, hTO⟩, ⟨o1, e1, r1⟩, ⟨o2, e2, r2⟩⟩ := st
    exact ⟨k z (by simp) _ hz, k TI (by simp) _ hTI, ⟨a, b, k TO (by simp) _ hTO⟩, ⟨o1, k i1 (by simp) _ e1, r1⟩, ⟨o2, k i2 (by simp) _ e2, r2⟩⟩
  item := by
    intro X hP hw hK hc i pins s σ H E I hf st hg
    subst hP hw hK
    obtain ⟨hz, hTI, ⟨a0, b0, hTO⟩, h1, h2⟩ := st
    have hzl : z < s.heap.objs.size := Heap.lt_size hz
    have hi1 : i1 < s.heap.objs.size := let ⟨_, e, _⟩ := h1; Heap.lt_size e
    have hi2 : i2 < s.heap.objs.size := let ⟨_, e, _⟩ := h2; Heap.lt_size e
    refine wpAny_pyNext_zipD2_item D (Draws.text (A := X.A.in1) (I.ok.hd hc) i1 x tx) (Draws.text (A := X.A.in1) (I.ok.hd hc) i2 y ty) hz hTI hTO h1 h2 hg.1 hg.2 fun x1 x2 h' tk p1 p2 z' TO' h1' h2' hT hsz hk => ?_
    obtain ⟨c, uc, hcx, rfl⟩ := p1
    obtain ⟨d, ud, hdy, rfl⟩ := p2
    refine ⟨_, rfl, wpAny_letOwnedTupleGo_zip (s := { s with heap := h', toks := tk }) z' fun h'' z'' sb => ?_⟩
    have hT2 : h''.get? s.heap.objs.size = some { cls := .type "tuple", data := .seq #[.str ⟨#[c]⟩ uc, .str ⟨#[d]⟩ ud] } := (sb.2 _ (Nat.ne_of_gt hzl)).trans hT
    have new : ObjOk X.prog X.w (upd H s.heap.objs.size (.tup [.str ⟨#[c]⟩, .str ⟨#[d]⟩])) h'' s.heap.objs.size (.tup [.str ⟨#[c]⟩, .str ⟨#[d]⟩]) :=
      ⟨by show 2 ≤ sizeLine; decide, [.str ⟨#[c]⟩ uc, .str ⟨#[d]⟩ ud], .cons ⟨_, rfl⟩ (.cons ⟨_, rfl⟩ .nil), ⟨_, hT2, rfl, _, rfl⟩⟩
    have off : ∀ b o, b ∉ [z, TI, TO, i1, i2] → s.heap.get? b = some o → h''.get? b = some o := fun b o hb q => by
      simp only [List.mem_cons, List.not_mem_nil, or_false, not_or] at hb
      exact (sb.2 b hb.1).trans (hk b o hb.1 hb.2.2.1 hb.2.2.2.1 hb.2.2.2.2 q)
    have I1 : Inv X pins σ (upd H s.heap.objs.size (.tup [.str ⟨#[c]⟩, .str ⟨#[d]⟩])) { s with heap := h'', toks := tk } := I.turnedNew (t' := tk) (ch := [z, TI, TO, i1, i2]) off hf (Nat.le_refl _) new
    refine ⟨.ref s.heap.objs.size, _, I1, rfl, ⟨_, c, d, rfl, I.hok.fresh (Nat.le_refl _), rfl, hcx, hdy⟩, ⟨z'', ?_, ⟨_, _, (sb.2 _ D.TOz).trans TO'⟩, ?_, ?_⟩, fun b hb => ?_⟩
    · exact (sb.2 _ D.TIz).trans (hk _ _ D.TIz D.TITO D.TIi1 D.TIi2 hTI)
    · obtain ⟨o, e, r⟩ := h1'
      exact ⟨o, (sb.2 _ D.zi1.symm).trans e, r⟩
    · obtain ⟨o, e, r⟩ := h2'
      exact ⟨o, (sb.2 _ D.zi2.symm).trans e, r⟩
    · have hlt : b < s.heap.objs.size := by
        have hb' := hb
        simp only [List.mem_cons, List.not_mem_nil, or_false] at hb'
        rcases hb' with q | q | q | q | q
        · rw [q]; exact hzl
        · rw [q]; exact Heap.lt_size hTI
        · rw [q]; exact Heap.lt_size hTO
        · rw [q]; exact hi1
        · rw [q]; exact hi2
      rw [upd_ne (Nat.ne_of_lt hlt)]
      exact (hf b hb).1
  done := by
    intro X hP hw hK hc i pins s σ H E I hf st hg
    subst hP hw hK
    obtain ⟨hz, hTI, ⟨a0, b0, hTO⟩, h1, h2⟩ := st
    obtain ⟨l1, l2, l3⟩ := hg
    refine wpAny_pyNext_zipD2_end D (Draws.text (A := X.A.in1) (I.ok.hd hc) i1 x tx) (Draws.text (A := X.A.in1) (I.ok.hd hc) i2 y ty) hz hTI hTO h1 h2 l1 l2 l3 fun h' tk hk => ⟨rfl, I.turnedL (t' := tk) (ch := [z, TI, TO, i1, i2]) (fun b o hb q => ?_) hf⟩
    simp only [List.mem_cons, List.not_mem_nil, or_false, not_or] at hb
    exact hk b o hb.1 hb.2.2.1 hb.2.2.2.1 hb.2.2.2.2 q
  self := fun A i s Q E st h => wpAny_pyIter_zip st.1 h
def iZipS (ta : TA) : TI := fun σ H R => ta σ H fun vs H1 => ∃ x y, vs = [.str x, .str y] ∧ R (ItzS x y) H1
theorem pi_zipS {X : Cx} {e e2 : Expr} {ta : TA} {p pos tpos : Pos} {elts : List Expr} {kk : Nat} (hg : Gl X "zip") (hm : X.mg "zip" = none) (ha : PA X [e, e2] ta)
    (hs : starEach [e, e2] X.env = (false, eval e X.env) :: starEach [e2] X.env := by rfl) (hpl : (backTo pos (starEach [e2] X.env)).any (·.1) = false := by rfl) :
    PI X (.Tuple elts kk tpos) (.Call (.Name "zip" p) [e, e2] [] pos) (iZipS ta) := by
  refine ⟨fun pins s σ H R I h => ?_⟩
  refine Call_ (ld_blt I hg hm PyProof.Rows.boot_zip (PyProof.Rows.callWith_type1 (thn (ha.run pos pins s σ H _ I h) fun us s1 ⟨vs, H1, I1, r1, q1⟩ => ?_) hs hpl))
  obtain ⟨x, y, ex, q1⟩ := q1
  subst ex
  obtain ⟨u1, u2, rfl, ⟨tx, rx⟩, ⟨ty, ry⟩⟩ := vals2 r1
  subst rx ry
  refine zip_begins2 (begins_text x tx) (begins_text y ty) trivial trivial fun h' hz hTI hTO e1 e2 hsz hk => wpAny_pyIter_zip hz ?_
  have I2 : Inv X pins σ H1 { s1 with heap := h' } := I1.kept (t' := s1.toks) hk
  refine ⟨s1.heap.objs.size + 4, [s1.heap.objs.size + 4, s1.heap.objs.size + 2, s1.heap.objs.size + 3, s1.heap.objs.size, s1.heap.objs.size + 1], _, _, H1, rfl, I2,
    turn_zipS (x := x) (y := y) (tx := tx) (ty := ty) (zip_sep2 (N := s1.heap.objs.size) (fp1 := []) (fp2 := []) (fun b hb => nomatch hb) fun b hb => nomatch hb), ⟨hz, hTI, ⟨_, _, hTO⟩, ⟨_, e1, rfl, rfl⟩, ⟨_, e2, rfl, rfl⟩⟩, fun c hc => ?_, q1⟩
  have hle : s1.heap.objs.size ≤ c := by
    simp only [List.mem_cons, List.not_mem_nil, or_false] at hc
    rcases hc with q | q | q | q | q
    · rw [q]; exact Nat.le_add_right _ _
    · rw [q]; exact Nat.le_add_right _ _
    · rw [q]; exact Nat.le_add_right _ _
    · rw [q]; exact Nat.le_refl _
    · rw [q]; exact Nat.le_add_right _ _
  exact I1.fpOk hle (I1.hok.fresh hle)
/-- a comprehension over zip of two texts of one length -/
theorem lc_zipS {x y : Str} {g : TG} {tt : TT} {te : TE} {vs : List Nat} {σ : L2.St} {H1 : Hp} {D : Addr} {Qd : Hp → Prop} (hl : x.cps.size = y.cps.size) (Pv : Nat → Hp → Prop) (h0 : Pv 0 (upd H1 D (.lst [])))
    (hs : ∀ (i : Nat) (c d : Nat) (T : Addr) H, x.cps[i]? = some c → y.cps[i]? = some d → Pv i H → H T = none → g (.ref T) (wipe σ vs) (upd H T (.tup [.str ⟨#[c]⟩, .str ⟨#[d]⟩])) fun σ2 H2 => wipe σ2 vs = wipe σ vs ∧ tt σ2 H2 fun b H3 =>
      if b = true then te σ2 H3 fun v H4 => ∃ acc, H4 D = some (.lst acc) ∧ acc.length < sizeLine ∧ Pv (i + 1) (upd H4 D (.lst (acc ++ [v]))) else Pv (i + 1) H3) (hd : ∀ H, Pv x.cps.size H → Qd H) :
    ∃ W : Nat → Nat → Hp → Prop, (∃ m, W 0 m (upd H1 D (.lst []))) ∧ ∀ i m H, W i m H →
      ((ItzS x y).stop i H ∧ Qd H) ∨ ((ItzS x y).go i H ∧ ∃ Nx : Hp → Prop, (∀ H', Nx H' → ∃ m', m' < m ∧ W (i + 1) m' H') ∧ ∀ v H', (ItzS x y).yld i H v H' → g v (wipe σ vs) H' fun σ2 H2 => wipe σ2 vs = wipe σ vs ∧ tt σ2 H2 fun b H3 =>
        if b = true then te σ2 H3 fun v H4 => ∃ acc, H4 D = some (.lst acc) ∧ acc.length < sizeLine ∧ Nx (upd H4 D (.lst (acc ++ [v]))) else Nx H3) := by
  refine ⟨fun i m H => m = x.cps.size - i ∧ i ≤ x.cps.size ∧ Pv i H, ⟨x.cps.size, by simp, Nat.zero_le _, h0⟩, ?_⟩
  rintro i m H ⟨rfl, hi, pv⟩
  by_cases hlt : i < x.cps.size
  · refine .inr ⟨⟨hlt, by omega⟩, Pv (i + 1), fun H' p' => ⟨x.cps.size - (i + 1), by omega, rfl, hlt, p'⟩, fun v H' q => ?_⟩
    obtain ⟨T, c, d, rfl, hT, rfl, e1, e2⟩ := q
    exact hs i c d T H e1 e2 pv hT
  · have e : i = x.cps.size := by omega
    exact .inl ⟨⟨by omega, by omega, .inl e⟩, hd H (e ▸ pv)⟩
end Bb
namespace Bb
open PySem PySem.Spec PyProof.Rows L2
/-! ## Bits as texts -/
def sg (b : Bool) : Nat := if b then 49 else 48
def S (b : Bs) : Str := ⟨(b.map sg).toArray⟩
theorem S_nil : S [] = ("" : Str) := by decide +kernel
theorem S_0 : S [false] = ("0" : Str) := by decide +kernel
theorem S_1 : S [true] = ("1" : Str) := by decide +kernel
theorem S_app (a b : Bs) : S a ++ S b = S (a ++ b) := by
  show (⟨(S a).cps ++ (S b).cps⟩ : Str) = S (a ++ b)
  unfold S
  simp
theorem S_len (a : Bs) : (S a).length = a.length := by
  show (S a).cps.size = _
  unfold S
  simp
theorem S_size (a : Bs) : (S a).cps.size = a.length := S_len a
theorem S_inj {a b : Bs} (h : S a = S b) : a = b := by
  have e : a.map sg = b.map sg := by
    have := congrArg (fun x : Str => x.cps.toList) h
    simpa [S] using this
  have inj : ∀ x y : Bool, sg x = sg y → x = y := by decide
  exact List.map_inj_right inj |>.mp e
theorem S_eq_dec (a b : Bs) : decide (S a = S b) = decide (a = b) := by
  by_cases h : a = b
  · subst h; simp
  · rw [decide_eq_false h, decide_eq_false fun e => h (S_inj e)]
theorem S_get (a : Bs) (i : Nat) : (S a).cps[i]? = (a[i]?).map sg := by
  unfold S
  simp
theorem S_sign (b : Bool) : (⟨#[sg b]⟩ : Str) = S [b] := rfl
theorem S_list (a : Bs) : (S a).cps.toList = a.map sg := by
  unfold S
  simp
theorem join_signs : ∀ (l : List Bs), Txt.join ("" : Str) (l.map S) = S l.flatten := by
  intro l
  show Builtin.Str.glued ("" : Str) (l.map S) = _
  rw [PySem.StrLaws.glued_eq_join]
  induction l with
  | nil => exact S_nil.symm
  | cons a r ih =>
    cases r with
    | nil => show S a = _; simp
    | cons b t =>
      show S a ++ ("" : Str) ++ Str.join ("" : Str) ((b :: t).map S) = _
      rw [ih, ← S_nil, S_app, S_app]
      simp
theorem flat_signs : ∀ l : Bs, (l.map fun b => [b]).flatten = l
  | [] => rfl
  | a :: r => by
    show [a] ++ (r.map fun b => [b]).flatten = a :: r
    rw [flat_signs r]
    rfl
theorem join_bools (l : Bs) : Txt.join ("" : Str) (l.map fun b => S [b]) = S l := by
  have h := join_signs (l.map fun b => [b])
  rw [List.map_map] at h
  rw [flat_signs l] at h
  exact h
theorem len_small {a : Bs} {n : Nat} (h : a.length ≤ n) (hn : n ≤ 100000) : (S a).length ≤ sizeLine := by
  rw [S_len]
  exact Nat.le_trans (Nat.le_trans h hn) (by decide)
theorem small5 {n : Nat} (h : n ≤ 100000) : n < sizeLine := Nat.lt_of_le_of_lt h (by decide)
/-! ## Frames: what is left as it was -/
/-- all but what M holds is as it was -/
def Keep (M : Addr → Prop) (H H' : Hp) : Prop := ∀ b o, H b = some o → ¬ M b → H' b = some o
theorem Keep.same {M : Addr → Prop} {H H' : Hp} (h : Same H H') : Keep M H H' := fun b o e _ => h b o e
theorem Keep.refl {M : Addr → Prop} {H : Hp} : Keep M H H := fun _ _ e _ => e
theorem Keep.trans {M : Addr → Prop} {H H1 H2 : Hp} (a : Keep M H H1) (b : Keep M H1 H2) : Keep M H H2 := fun c o e n => b c o (a c o e n) n
theorem Keep.mono {M N : Addr → Prop} {H H' : Hp} (h : Keep M H H') (s : ∀ b, M b → N b) : Keep N H H' := fun b o e n => h b o e fun m => n (s b m)
/-- the tuples stand -/
def Tups (H H' : Hp) : Prop := ∀ a xs, H a = some (.tup xs) → H' a = some (.tup xs)
theorem Tups.same {H H' : Hp} (h : Same H H') : Tups H H' := fun a xs e => h a _ e
theorem Tups.refl {H : Hp} : Tups H H := fun _ _ e => e
theorem Tups.trans {H H1 H2 : Hp} (a : Tups H H1) (b : Tups H1 H2) : Tups H H2 := fun c xs e => b c xs (a c xs e)
/-- M holds no tuple -/
def NoTup (M : Addr → Prop) (H : Hp) : Prop := ∀ b xs, M b → H b ≠ some (.tup xs)
theorem Keep.tups {M : Addr → Prop} {H H' : Hp} (h : Keep M H H') (n : NoTup M H) : Tups H H' := fun a xs e => h a _ e fun m => n a xs m e
theorem same_upd {H : Hp} {p : Addr} {o : HO} (h : H p = none) : Same H (upd H p o) := fun b u e => by
  rw [upd_ne (ne_of_none e h)]
  exact e
theorem keep_upd {M : Addr → Prop} {H : Hp} {p : Addr} {o : HO} (h : M p) : Keep M H (upd H p o) := fun b u e n => by
  rw [upd_ne fun z => n (by rw [z]; exact h)]
  exact e
theorem same_two {H : Hp} {x dx C : Addr} {u v : HO} (nx : H x = none) (ndx : H dx = none) : Same H (upd (upd H dx u) x v) := fun b o e => by
  rw [upd_ne (ne_of_none e nx), upd_ne (ne_of_none e ndx)]
  exact e
theorem Keep.free {M : Addr → Prop} {H H' : Hp} {p : Addr} (h : Keep M H H') (hm : ¬ M p) (e : H' p = none) : H p = none := by
  cases q : H p with
  | none => rfl
  | some o =>
    rw [h p o q hm] at e
    cases e
/-! ## Breakers as tuples -/
def partV : Part → V
  | .inl b => .str (S [b])
  | .inr n => .int (n : Int)
def BrkAt (H : Hp) : Brk → V → Prop
  | .say ps, v => ∃ a t, v = .ref a ∧ H a = some (.tup [.str "say", .ref t]) ∧ H t = some (.tup (ps.map partV))
  | .toss n f, v => ∃ a t xs, v = .ref a ∧ H a = some (.tup [.str "toss", .ref t]) ∧ H t = some (.tup xs) ∧ xs.length = n ∧ ∀ i, i < n → ∃ x, xs[i]? = some x ∧ BrkAt H (f i) x
  | .look n p q, v => ∃ a x y, v = .ref a ∧ H a = some (.tup [.str "look", .int (n : Int), x, y]) ∧ BrkAt H p x ∧ BrkAt H q y
  | .ask ps p, v => ∃ a t x, v = .ref a ∧ H a = some (.tup [.str "ask", .ref t, x]) ∧ H t = some (.tup (ps.map partV)) ∧ BrkAt H p x
theorem BrkAt.tups {H H' : Hp} (h : Tups H H') : ∀ (b : Brk) (v : V), BrkAt H b v → BrkAt H' b v
  | .say ps, v, ⟨a, t, e, h1, h2⟩ => ⟨a, t, e, h _ _ h1, h _ _ h2⟩
  | .toss n f, v, ⟨a, t, xs, e, h1, h2, hl, h3⟩ => ⟨a, t, xs, e, h _ _ h1, h _ _ h2, hl, fun i hi => let ⟨x, e1, e2⟩ := h3 i hi; ⟨x, e1, BrkAt.tups h (f i) x e2⟩⟩
  | .look n p q, v, ⟨a, x, y, e, h1, h2, h3⟩ => ⟨a, x, y, e, h _ _ h1, BrkAt.tups h p x h2, BrkAt.tups h q y h3⟩
  | .ask ps p, v, ⟨a, t, x, e, h1, h2, h3⟩ => ⟨a, t, x, e, h _ _ h1, h _ _ h2, BrkAt.tups h p x h3⟩
theorem BrkAt.ref {H : Hp} : ∀ {b : Brk} {v : V}, BrkAt H b v → ∃ a, v = .ref a
  | .say ps, v, ⟨a, _, e, _⟩ => ⟨a, e⟩
  | .toss n f, v, ⟨a, _, _, e, _⟩ => ⟨a, e⟩
  | .look n p q, v, ⟨a, _, _, e, _⟩ => ⟨a, e⟩
  | .ask ps p, v, ⟨a, _, _, e, _⟩ => ⟨a, e⟩
/-! ## The row of choices as an object -/
def fTape (cl dl : Addr) : List (Str × V) := [("choices", .ref cl), ("draws", .ref dl)]
/-- the draws so far: a list of pairs -/
def DwsAt (H : Hp) (dl : Addr) (ds : Dws) : Prop := ∃ ts : List Addr, H dl = some (.lst (ts.map V.ref)) ∧ Paired (fun (t : Addr) (d : Int × Int) => H t = some (.tup [.int d.1, .int d.2])) ts ds
theorem paired_mono {α β : Type} {F G : α → β → Prop} (h : ∀ a b, F a b → G a b) : ∀ {l : List α} {m : List β}, Paired F l m → Paired G l m
  | _, _, .nil => .nil
  | _, _, .cons r t => .cons (h _ _ r) (paired_mono h t)
theorem paired_snoc {α β : Type} {F : α → β → Prop} {a : α} {b : β} (h : F a b) : ∀ {l : List α} {m : List β}, Paired F l m → Paired F (l ++ [a]) (m ++ [b])
  | _, _, .nil => .cons h .nil
  | _, _, .cons r t => .cons r (paired_snoc h t)
theorem paired_len {α β : Type} {F : α → β → Prop} : ∀ {l : List α} {m : List β}, Paired F l m → l.length = m.length
  | _, _, .nil => rfl
  | _, _, .cons _ t => congrArg (· + 1) (paired_len t)
theorem paired_at {α β : Type} {F : α → β → Prop} : ∀ {l : List α} {m : List β} {i : Nat} {a : α}, Paired F l m → l[i]? = some a → ∃ b, m[i]? = some b ∧ F a b
  | _, _, i, a, .nil, h => by simp at h
  | _, _, 0, a, .cons r _, h => ⟨_, rfl, by
    have e := Option.some.inj h
    rw [← e]
    exact r⟩
  | _, _, i + 1, a, .cons _ t, h => paired_at (i := i) t (by simpa using h)
theorem paired_at2 {α β : Type} {F : α → β → Prop} : ∀ {l : List α} {m : List β} {i : Nat} {b : β}, Paired F l m → m[i]? = some b → ∃ a, l[i]? = some a ∧ F a b
  | _, _, i, a, .nil, h => by simp at h
  | _, _, 0, a, .cons r _, h => ⟨_, rfl, by
    have e := Option.some.inj h
    rw [← e]
    exact r⟩
  | _, _, i + 1, a, .cons _ t, h => paired_at2 (i := i) t (by simpa using h)
theorem DwsAt.keep {H H' : Hp} {dl : Addr} {ds : Dws} (h : DwsAt H dl ds) (e : H' dl = H dl) (t : Tups H H') : DwsAt H' dl ds := by
  obtain ⟨ts, h1, h2⟩ := h
  exact ⟨ts, e.trans h1, paired_mono (fun a b q => t _ _ q) h2⟩
theorem DwsAt.same {H H' : Hp} {dl : Addr} {ds : Dws} (h : DwsAt H dl ds) (s : Same H H') : DwsAt H' dl ds := by
  obtain ⟨ts, h1, h2⟩ := h
  exact ⟨ts, s _ _ h1, paired_mono (fun a b q => s _ _ q) h2⟩
/-- a Tape stands at p: its choices at cl, what it drew at dl -/
structure TapeAt (K : PySem.W.Frag) (H : Hp) (p cl dl : Addr) (cs : List Int) (ds : Dws) : Prop where
  ob : ∃ dx, H p = some (.ins (He.ga K "Tape") dx (fTape cl dl))
  ch : H cl = some (.lst (cs.map V.int))
  dw : DwsAt H dl ds
  ne : cl ≠ dl
theorem TapeAt.same {K : PySem.W.Frag} {H H' : Hp} {p cl dl : Addr} {cs : List Int} {ds : Dws} (h : TapeAt K H p cl dl cs ds) (s : Same H H') : TapeAt K H' p cl dl cs ds :=
  ⟨let ⟨dx, e⟩ := h.ob; ⟨dx, s _ _ e⟩, s _ _ h.ch, h.dw.same s, h.ne⟩
theorem TapeAt.dlst {K : PySem.W.Frag} {H : Hp} {p cl dl : Addr} {cs : List Int} {ds : Dws} (h : TapeAt K H p cl dl cs ds) : ∃ xs, H dl = some (.lst xs) := let ⟨ts, e, _⟩ := h.dw; ⟨_, e⟩
/-- kept by what touches neither the Tape nor its draws -/
theorem TapeAt.keep {K : PySem.W.Frag} {M : Addr → Prop} {H H' : Hp} {p cl dl : Addr} {cs : List Int} {ds : Dws} (h : TapeAt K H p cl dl cs ds) (k : Keep M H H') (t : Tups H H') (n1 : ¬ M p) (n2 : ¬ M cl) (n3 : ¬ M dl) : TapeAt K H' p cl dl cs ds := by
  obtain ⟨⟨dx, e⟩, c, ⟨ts, e2, d⟩, ne⟩ := h
  exact ⟨⟨dx, k _ _ e n1⟩, k _ _ c n2, ⟨ts, k _ _ e2 n3, paired_mono (fun a b q => t _ _ q) d⟩, ne⟩
end Bb
namespace Bb
open PySem PySem.Spec PyProof.Rows L2
section
variable {P : Program} {w : World} {K : PySem.W.Frag} {mg : Str → Option Value} {base : Heap}
/-! ## bits -/
def spBits : Sp := fun vs H Q _ => ∃ (n : Nat) (v : Int), vs = [.int (n : Int), .int v] ∧ n ≤ 1000 ∧ ∀ H', Same H H' → Q (.str (S (bitsB n v))) H'
theorem sc_bits : FnScope ["length", "number", "signs", "_"] ["length", "number"] (defScope s_bits) := C8.fnScope_by (by decide +kernel)
theorem half_pow (v : Int) (i : Nat) : v / 2 ^ i / 2 = v / 2 ^ (i + 1) := by
  rw [Int.ediv_ediv_of_nonneg (Int.pow_nonneg (by decide)), Int.pow_succ]
theorem cal_bits (T : Tx K mg w) : C8.Cal P w K mg base 1 "bits" spBits [] := by
  refine T.d_bits.cal sc_bits (fun vs H Q E h => ?_) fun f cdv A outer s H vs Q E hr h => ?_
  · obtain ⟨n, v, rfl, _⟩ := h
    rfl
  · obtain ⟨n, v, rfl, hn, k⟩ := h
    refine ⟨_, pss_cons (ps_set (i := 2) sc_bits.nd rfl (Or.inl rfl) (pe_lst pa_nil))
      (pss_cons (ps_for PassesOwn.never rfl (pi_range1 rfl T.f_range (pa_cons (pv 0) pa_nil)) (pg_name (i := 3) sc_bits.nd rfl (Or.inl rfl))
        (pss_cons (ps_expr (pe_bm PySem.F.plainAttrs_list PySem.F.slot_list_append PySem.F.type_list_append mt_append (pv 2)
            (pa_cons (pe_ifExp (pt_cmpR op_eq (pe_op op_mod (pv 1) pe_int) pe_int (nomark _)) pe_str pe_str) pa_nil)))
          (pss_one (ps_set (i := 1) sc_bits.nd rfl (Or.inl rfl) (pe_op op_fdiv (pv 1) pe_int)))))
      (pss_one (ps_ret (pe_join pe_str (pe_revL (pv 2)))))), ?_⟩
    refine ⟨Nat.zero_le _, fun l hl => ?_⟩
    refine ⟨_, rfl, (n : Int), rfl, by omega, by omega, for_range (lo := 0) (n := ((n : Int)).toNat)
      (fun i σ H' => ∃ u : Option V, σ = [some (.int (n : Int)), some (.int (v / 2 ^ i)), some (.ref l), u] ∧ Same H H' ∧ H l = none ∧ H' l = some (.lst ((lsb i v).map fun b => V.str (S [b]))))
      ⟨none, by rw [Int.pow_zero, Int.ediv_one]; rfl, same_upd hl, hl, upd_same⟩ ?_ ?_⟩
    · rintro i σ H' hi ⟨u, rfl, sm, hl0, hL⟩
      have hi' : i < n := by omega
      refine ⟨_, rfl, Or.inl ⟨rfl, _, SqL.of hL⟩, ?_⟩
      refine ⟨_, rfl, _, _, rfl, rfl, (by show (0 : Int) < 2; decide), rfl, _, rfl, ?_⟩
      have fin : ∀ z : Str, z = S [bitAt v i] → (∃ (q : Addr) (xs : List V) (y : V), V.ref l = .ref q ∧ [V.str z] = [y] ∧ H' q = some (.lst xs) ∧ xs.length < sizeLine ∧
          (∃ x : V, [some (V.int (n : Int)), some (V.int (v / 2 ^ i)), some (V.ref l), some (V.int (0 + (i : Int)))][1]? = some (some x) ∧ ∃ a b : Int, x = .int a ∧ V.int 2 = .int b ∧ CDiv a b ∧ ∃ u : Option V,
            ([some (V.int (n : Int)), some (V.int (v / 2 ^ i)), some (V.ref l), some (V.int (0 + (i : Int)))] : L2.St).set 1 (some (.int (a / b))) = [some (.int (n : Int)), some (.int (v / 2 ^ (i + 1))), some (.ref l), u] ∧
            Same H (upd H' q (.lst (xs ++ [y]))) ∧ H l = none ∧ (upd H' q (.lst (xs ++ [y]))) l = some (.lst ((lsb (i + 1) v).map fun b => V.str (S [b]))))) := by
        rintro z rfl
        refine ⟨l, _, _, rfl, rfl, hL, by rw [List.length_map, lsb_length]; exact small5 (by omega), _, rfl, _, _, rfl, rfl, ⟨by decide, by decide⟩, some (.int (0 + (i : Int))), ?_, ?_, hl0, ?_⟩
        · rw [half_pow]
          rfl
        · intro b o e
          rw [upd_ne (ne_of_none e hl0)]
          exact sm b o e
        · rw [upd_same, lsb_succ, List.map_append]
          rfl
      refine ite2 (fun c => ?_) (fun c => ?_)
      · obtain ⟨q, xs, y, e1, e2, e3, e4, rest⟩ := fin "1" (by
          have h1 : v / 2 ^ i % 2 = 1 := by simpa using c
          unfold bitAt
          rw [decide_eq_true h1]
          exact S_1.symm)
        exact ⟨q, xs, y, e1, e2, e3, e4, rest⟩
      · obtain ⟨q, xs, y, e1, e2, e3, e4, rest⟩ := fin "0" (by
          have h1 : ¬ v / 2 ^ i % 2 = 1 := by simpa using c
          unfold bitAt
          rw [decide_eq_false h1]
          exact S_0.symm)
        exact ⟨q, xs, y, e1, e2, e3, e4, rest⟩
    · rintro σ H' ⟨u, rfl, sm, hl0, hL⟩
      rw [Int.toNat_natCast] at hL
      refine ⟨⟨_, rfl⟩, _, rfl, l, _, rfl, SqL.of hL, fun p hp => ?_⟩
      have e : ((lsb n v).map fun b => V.str (S [b])).reverse = ((bitsB n v).map fun b => S [b]).map V.str := by
        rw [← List.map_reverse, List.map_map]
        rfl
      refine ⟨_, p, (bitsB n v).map fun b => S [b], rfl, rfl, Or.inl (SqL.of (by rw [upd_same, e])), ?_, ?_⟩
      · rw [List.map_map, List.length_map, bitsB_length]
        have : ((bitsB n v).map ((fun x : Str => x.length) ∘ fun b => S [b])).sum ≤ n := by
          have h1 : ∀ l : Bs, (l.map ((fun x : Str => x.length) ∘ fun b => S [b])).sum = l.length := by
            intro l
            induction l with
            | nil => rfl
            | cons a r ih => rw [List.map_cons, List.sum_cons, ih]; show 1 + r.length = r.length + 1; omega
          rw [h1, bitsB_length]
          exact Nat.le_refl n
        have h0 : ("" : Str).length = 0 := by decide +kernel
        rw [h0]
        omega
      · rw [join_bools]
        exact k _ (sm.trans (same_upd hp))
end
end Bb
namespace Bb
open PySem PySem.Spec PyProof.Rows L2
section
variable {P : Program} {w : World} {K : PySem.W.Frag} {mg : Str → Option Value} {base : Heap}
/-! ## xor -/
def spXor : Sp := fun vs H Q _ => ∃ a b : Bs, vs = [.str (S a), .str (S b)] ∧ a.length = b.length ∧ a.length ≤ 1000 ∧ ∀ H', Same H H' → Q (.str (S (xorB a b))) H'
abbrev nXor : List Str := ["first", "second", "one", "two"]
theorem sc_xor : FnScope nXor ["first", "second"] (defScope s_xor) := C8.fnScope_by (by decide +kernel)
theorem xorB_get {a b : Bs} {i : Nat} {x y : Bool} (hx : a[i]? = some x) (hy : b[i]? = some y) : (xorB a b)[i]? = some (x != y) := by
  unfold xorB
  rw [List.getElem?_zipWith, hx, hy]
theorem take_snoc {α : Type} {l : List α} {i : Nat} {x : α} (h : l[i]? = some x) : l.take (i + 1) = l.take i ++ [x] := by
  rw [List.take_add_one, h]
  rfl
theorem sum_ones (l : Bs) : ((l.map fun b => S [b]).map fun x : Str => x.length).sum = l.length := by
  induction l with
  | nil => rfl
  | cons a r ih => rw [List.map_cons, List.map_cons, List.sum_cons, ih]; show 1 + r.length = r.length + 1; omega
theorem empty_len : ("" : Str).length = 0 := by decide +kernel
theorem map_bits (l : Bs) : (l.map fun b => V.str (S [b])) = (l.map fun b => S [b]).map V.str := by
  rw [List.map_map]
  rfl
theorem dec_sg : ∀ x y : Bool, decide (V.str ⟨#[sg x]⟩ = V.str ⟨#[sg y]⟩) = (x == y) := by decide +kernel
theorem cal_xor (T : Tx K mg w) : C8.Cal P w K mg base 1 "xor" spXor [] := by
  refine T.d_xor.cal sc_xor (fun vs H Q E h => ?_) fun f cdv A outer s H vs Q E hr h => ?_
  · obtain ⟨a, b, rfl, _⟩ := h
    rfl
  · obtain ⟨a, b, rfl, hl, hn, k⟩ := h
    refine ⟨_, pss_one (ps_ret (pe_join pe_str (pe_lc (own := [("one", 2), ("two", 3)]) (g := gTup K 2 (gCons (gName 2) (gCons (gName 3) gNil))) (tt := tYes) rfl sc_xor.nd (pi_zipS rfl T.f_zip (pa_cons (pv 0) (pa_cons (pv 1) pa_nil)))
      (blkOk_by (N := nXor) (sc := defScope s_xor) (by decide +kernel))
      (fun _ _ _ _ _ => pg_tup rfl (pgs_cons (pg_name (i := 2) sc_xor.nd (by rfl) (by exact Or.inl rfl) (by exact Or.inr rfl)) (pgs_cons (pg_name (i := 3) sc_xor.nd (by rfl) (by exact Or.inl rfl) (by exact Or.inr rfl)) pgs_nil)))
      (fun _ _ _ _ _ => pts_nil) (fun _ _ _ _ _ => pe_ifExp (pt_cmpR op_eq (pv 2) (pv 3) (nomark _)) pe_str pe_str)))), ?_⟩
    refine ⟨⟨_, rfl⟩, _, rfl, _, rfl, S a, S b, rfl, fun D hD => lc_zipS (by rw [S_size, S_size, hl])
      (fun i H' => Same H H' ∧ H' D = some (.lst (((xorB a b).take i).map fun b => V.str (S [b])))) ⟨same_upd hD, upd_same⟩ ?_ ?_⟩
    · rintro i c d t H' hc hd ⟨sm, hL⟩ ht
      rw [S_get] at hc hd
      obtain ⟨x, hx, rfl⟩ := Option.map_eq_some_iff.mp hc
      obtain ⟨y, hy, rfl⟩ := Option.map_eq_some_iff.mp hd
      have hi : i < a.length := (List.getElem?_eq_some_iff.mp hx).1
      have hg : (xorB a b)[i]? = some (x != y) := xorB_get hx hy
      have nD : D ≠ t := ne_of_none hL ht
      refine ⟨t, _, rfl, Or.inl (Or.inl upd_same), rfl, _, _, rfl, _, _, rfl, rfl, rfl, ?_⟩
      refine ⟨_, rfl, _, rfl, rfl, _, rfl, ?_⟩
      have fin : ∀ z : Str, z = S [x != y] → ∃ acc, (upd H' t (.tup [.str ⟨#[sg x]⟩, .str ⟨#[sg y]⟩])) D = some (.lst acc) ∧ acc.length < sizeLine ∧
          Same H (upd (upd H' t (.tup [.str ⟨#[sg x]⟩, .str ⟨#[sg y]⟩])) D (.lst (acc ++ [V.str z]))) ∧ (upd (upd H' t (.tup [.str ⟨#[sg x]⟩, .str ⟨#[sg y]⟩])) D (.lst (acc ++ [V.str z]))) D = some (.lst (((xorB a b).take (i + 1)).map fun b => V.str (S [b]))) := by
        rintro z rfl
        refine ⟨_, (upd_ne nD).trans hL, by rw [List.length_map, List.length_take]; exact small5 (by omega), fun q o e => ?_, ?_⟩
        · rw [upd_ne (ne_of_none e hD), upd_ne (ne_of_none (sm _ _ e) ht)]
          exact sm _ _ e
        · rw [upd_same, take_snoc hg, List.map_append]
          rfl
      rw [show decide (V.str ⟨#[sg x]⟩ = V.str ⟨#[sg y]⟩) = (x == y) from dec_sg x y]
      refine ite2 (fun e => ?_) (fun e => ?_)
      · refine fin _ ?_
        have : (x != y) = false := by rw [bne, e]; rfl
        rw [this]
        exact S_0.symm
      · refine fin _ ?_
        have : (x != y) = true := by
          rw [bne, Bool.eq_false_iff.mpr e]
          rfl
        rw [this]
        exact S_1.symm
    · rintro H' ⟨sm, hL⟩
      have hlen : (xorB a b).length = a.length := by rw [xorB_length]; omega
      rw [S_size, List.take_of_length_le (by omega), map_bits] at hL
      refine ⟨_, D, _, rfl, rfl, Or.inl (SqL.of hL), ?_, ?_⟩
      · rw [sum_ones, empty_len]
        omega
      · rw [join_bools]
        exact k _ sm
/-! ## is_number -/
def spNum : Sp := fun vs H Q _ => ∃ z lo hi : Int, vs = [.int z, .int lo, .int hi] ∧ Q (.bl (decide (lo ≤ z) && decide (z ≤ hi))) H
theorem sc_is_number : FnScope ["value", "least", "most"] ["value", "least", "most"] (defScope s_is_number) := C8.fnScope_by (by decide +kernel)
theorem cal_is_number (T : Tx K mg w) : C8.Cal P w K mg base 1 "is_number" spNum [] := by
  refine T.d_is_number.cal sc_is_number (fun vs H Q E h => ?_) fun f cdv A outer s H vs Q E hr h => ?_
  · obtain ⟨z, lo, hi, rfl, _⟩ := h
    rfl
  · obtain ⟨z, lo, hi, rfl, k⟩ := h
    refine ⟨_, pss_one (ps_ret (pe_and (pe_callB call_isi rfl T.f_isinstance (by decide +kernel) (pa_cons (pv 0) (pa_cons (pe_bltn (v := .ty "int") rfl T.f_int (by decide +kernel) rfl) pa_nil)))
      (pe_and (pe_not (pe_callB call_isi rfl T.f_isinstance (by decide +kernel) (pa_cons (pv 0) (pa_cons (pe_bltn (v := .ty "bool") rfl T.f_bool (by decide +kernel) rfl) pa_nil))))
        (pe_one (pe_chain op_le op_le (pv 1) (pv 0) (pv 2)))))), ?_⟩
    refine ⟨_, rfl, .int z, .ty "int", _, _, true, rfl, .ty _, .base (.int z), kit_ty (by decide +kernel), _, rfl, iteT ?_⟩
    refine ⟨_, rfl, .int z, .ty "bool", _, _, false, rfl, .ty _, .base (.int z), kit_ty (by decide +kernel), _, rfl, _, rfl, iteT ?_⟩
    refine ⟨_, rfl, _, rfl, lo, z, rfl, rfl, _, rfl, ?_⟩
    by_cases h1 : lo ≤ z
    · rw [decide_eq_true h1] at k ⊢
      exact iteT ⟨_, rfl, z, hi, rfl, rfl, k⟩
    · rw [decide_eq_false h1] at k ⊢
      exact iteF k
/-! ## is_bits: of a number, of one sign -/
def spIsBits : Sp := fun vs H Q _ => (∃ z : Int, vs = [.int z, .int 1] ∧ Q (.bl false) H) ∨ ∃ b : Bool, vs = [.str (S [b]), .int 1] ∧ ∀ H', Same H H' → Q (.bl true) H'
abbrev nIsBits : List Str := ["value", "length", "sign"]
theorem sc_is_bits : FnScope nIsBits ["value", "length"] (defScope s_is_bits) := C8.fnScope_by (by decide +kernel)
theorem sg_in : ∀ b : Bool, decide (sg b ∈ ("01" : Str).cps.toList) = true := by decide +kernel
theorem cal_is_bits (T : Tx K mg w) : C8.Cal P w K mg base 1 "is_bits" spIsBits [] := by
  refine T.d_is_bits.cal sc_is_bits (fun vs H Q E h => ?_) fun f cdv A outer s H vs Q E hr h => ?_
  · rcases h with ⟨z, rfl, _⟩ | ⟨b, rfl, _⟩ <;> rfl
  · refine ⟨_, pss_one (ps_ret (pe_and (pe_callB call_isi rfl T.f_isinstance (by decide +kernel) (pa_cons (pv 0) (pa_cons (pe_bltn (v := .ty "str") rfl T.f_str (by decide +kernel) rfl) pa_nil)))
      (pe_and (pe_cmpR op_eq (pe_callB call_len_str rfl T.f_len PySem.boot_len (pa_cons (pv 0) pa_nil)) (pv 1) (nomark _))
        (pe_one (pe_callB (cr_all rfl) rfl T.f_all (by decide +kernel) (pa_cons (pe_lc (own := [("sign", 2)]) (g := gName 2) (tt := tYes) rfl sc_is_bits.nd (pi_str (pv 0))
          (blkOk_by (N := nIsBits) (sc := defScope s_is_bits) (by decide +kernel)) (fun _ _ _ _ _ => pg_name (i := 2) sc_is_bits.nd rfl (Or.inl rfl)) (fun _ _ _ _ _ => pts_nil)
          (fun _ _ _ _ _ => pe_cmpR op_in_sign (pv 2) pe_str (by rfl))) pa_nil)))))), ?_⟩
    rcases h with ⟨z, rfl, k⟩ | ⟨b, rfl, k⟩
    · exact ⟨_, rfl, .int z, .ty "str", _, _, false, rfl, .ty _, .base (.int z), kit_ty (by decide +kernel), _, rfl, iteF k⟩
    · refine ⟨_, rfl, .str _, .ty "str", _, _, true, rfl, .ty _, .base (.str _), kit_ty (by decide +kernel), _, rfl, iteT ?_⟩
      refine ⟨_, rfl, _, rfl, (by show 1 ≤ sizeLine; decide), _, rfl, rfl, _, rfl, ?_⟩
      rw [show decide (V.int (((S [b]).length : Nat) : Int) = V.int 1) = true from by rw [S_len]; rfl]
      refine iteT ?_
      refine ⟨_, rfl, S [b], rfl, fun D hD => ?_⟩
      refine ⟨fun i m H' => m = 1 - i ∧ i ≤ 1 ∧ Same H H' ∧ H D = none ∧ H' D = some (.lst ((List.replicate i true).map V.bl)), ⟨1, rfl, Nat.zero_le _, same_upd hD, hD, upd_same⟩, ?_⟩
      rintro i m H' ⟨rfl, hi, sm, hD0, hL⟩
      by_cases h0 : i = 0
      · subst h0
        refine .inr ⟨(by show 0 < (S [b]).cps.size; rw [S_size]; exact Nat.one_pos), fun H2 => Same H H2 ∧ H2 D = some (.lst ((List.replicate 1 true).map V.bl)), fun H2 ⟨a1, a2⟩ => ⟨0, by omega, rfl, Nat.le_refl _, a1, hD0, a2⟩, fun x H2 y => ?_⟩
        obtain ⟨rfl, c, hc, rfl⟩ := y
        rw [S_get] at hc
        obtain ⟨b', hb', rfl⟩ := Option.map_eq_some_iff.mp hc
        refine ⟨rfl, ?_⟩
        refine ⟨_, rfl, sg b', ("01" : Str), rfl, rfl, _, hL, (by show 0 < sizeLine; decide), fun q o e => ?_, ?_⟩
        · rw [upd_ne (ne_of_none e hD0)]
          exact sm _ _ e
        · rw [upd_same, sg_in b']
          rfl
      · have h1 : i = 1 := by omega
        subst h1
        refine .inl ⟨(by show (S [b]).cps.size ≤ 1; rw [S_size]; exact Nat.le_refl _), D, List.replicate 1 true, rfl, SqL.of hL, ?_⟩
        exact k _ sm
/-! ## has_plain_word -/
def spPlainW : Sp := fun vs H Q _ => ∃ (b : Brk) (v : V), vs = [v] ∧ BrkAt H b v ∧ Q (.bl true) H
theorem sc_has_plain_word : FnScope ["value"] ["value"] (defScope s_has_plain_word) := C8.fnScope_by (by decide +kernel)
/-- a breaker's tuple: its word, and more -/
theorem BrkAt.word {H : Hp} : ∀ {b : Brk} {v : V}, BrkAt H b v → ∃ (a : Addr) (x : Str) (y : V) (r : List V), v = .ref a ∧ H a = some (.tup (.str x :: y :: r)) ∧ r.length ≤ 2 ∧ (x = "say" ∨ x = "toss" ∨ x = "look" ∨ x = "ask")
  | .say ps, v, ⟨a, t, e, h, _⟩ => ⟨a, _, _, _, e, h, by decide, .inl rfl⟩
  | .toss n f, v, ⟨a, t, xs, e, h, _⟩ => ⟨a, _, _, _, e, h, by decide, .inr (.inl rfl)⟩
  | .look n p q, v, ⟨a, x, y, e, h, _⟩ => ⟨a, _, _, _, e, h, Nat.le_refl 2, .inr (.inr (.inl rfl))⟩
  | .ask ps p, v, ⟨a, t, x, e, h, _⟩ => ⟨a, _, _, _, e, h, Nat.le_succ 1, .inr (.inr (.inr rfl))⟩
theorem in_words : inV (.str ("say" : Str)) [.str "say", .str "toss", .str "look", .str "ask"] = true ∧ inV (.str ("toss" : Str)) [.str "say", .str "toss", .str "look", .str "ask"] = true ∧
    inV (.str ("look" : Str)) [.str "say", .str "toss", .str "look", .str "ask"] = true ∧ inV (.str ("ask" : Str)) [.str "say", .str "toss", .str "look", .str "ask"] = true := by decide +kernel
theorem cal_has_plain_word (T : Tx K mg w) : C8.Cal P w K mg base 1 "has_plain_word" spPlainW [] := by
  refine T.d_has_plain_word.cal sc_has_plain_word (fun vs H Q E h => ?_) fun f cdv A outer s H vs Q E hr h => ?_
  · obtain ⟨b, v, rfl, _⟩ := h
    rfl
  · obtain ⟨b, v, rfl, hb, k⟩ := h
    refine ⟨_, pss_one (ps_ret (pe_and (pe_callB call_isi rfl T.f_isinstance (by decide +kernel) (pa_cons (pv 0) (pa_cons (pe_bltn (v := .ty "tuple") rfl T.f_tuple (by decide +kernel) rfl) pa_nil)))
      (pe_and (pe_cmpR op_gt (pe_callB call_len_seq rfl T.f_len PySem.boot_len (pa_cons (pv 0) pa_nil)) pe_int (nomark _))
      (pe_and (pe_callB call_isi rfl T.f_isinstance (by decide +kernel) (pa_cons (pe_ix ix_tup (pv 0) pe_int (fun _ _ => rfl)) (pa_cons (pe_bltn (v := .ty "str") rfl T.f_str (by decide +kernel) rfl) pa_nil)))
        (pe_one (pe_cmpR op_in_seq (pe_ix ix_tup (pv 0) pe_int (fun _ _ => rfl)) (pe_glob (v := .ref (He.ga K "PLAIN_WORDS")) rfl T.g_PLAIN_WORDS rfl) (by rfl))))))), ?_⟩
    obtain ⟨a, x, y, r, rfl, ha, hr2, hx⟩ := hb.word
    refine ⟨_, rfl, .ref a, .ty "tuple", _, _, true, rfl, .ty _, .base (.tup ha), kit_ty (by decide +kernel), _, rfl, iteT ?_⟩
    refine ⟨_, rfl, a, _, rfl, .inr (SqT.of ha), _, _, rfl, rfl, _, rfl, ?_⟩
    rw [decide_eq_true (show (0 : Int) < (((V.str x :: y :: r).length : Nat) : Int) from by show (0 : Int) < ((r.length + 1 + 1 : Nat) : Int); omega)]
    refine iteT ?_
    have e0 : atI (V.str x :: y :: r) 0 = some (.str x) := atI_nat (j := 0) rfl
    refine ⟨_, rfl, a, _, _, _, rfl, rfl, SqT.of ha, e0, .str x, .ty "str", _, _, true, rfl, .ty _, .base (.str x), kit_ty (by decide +kernel), _, rfl, iteT ?_⟩
    refine ⟨_, rfl, a, _, _, _, rfl, rfl, SqT.of ha, e0, _, _, rfl, .inr (T.words _), rfl, (by decide +kernel), ?_⟩
    obtain ⟨w1, w2, w3, w4⟩ := in_words
    show Q (.bl (inV (.str x) _)) _
    rcases hx with rfl | rfl | rfl | rfl
    · rw [w1]; exact k
    · rw [w2]; exact k
    · rw [w3]; exact k
    · rw [w4]; exact k
end
end Bb
namespace Bb
open PySem PySem.Spec PyProof.Rows L2
section
variable {P : Program} {w : World} {K : PySem.W.Frag} {mg : Str → Option Value} {base : Heap}
/-! ## are_parts -/
def spParts : Sp := fun vs H Q _ => ∃ (t : Addr) (ps : List Part), vs = [.ref t] ∧ H t = some (.tup (ps.map partV)) ∧ (∀ n, Sum.inr n ∈ ps → n ≤ 9999) ∧ ∀ H', Same H H' → Q (.bl true) H'
theorem sc_are_parts : FnScope ["value", "part"] ["value"] (defScope s_are_parts) := C8.fnScope_by (by decide +kernel)
theorem cal_are_parts (T : Tx K mg w) : C8.Cal P w K mg base 2 "are_parts" spParts [] := by
  refine T.d_are_parts.cal sc_are_parts (fun vs H Q E h => ?_) fun f cdv A outer s H vs Q E hr h => ?_
  · obtain ⟨t, ps, rfl, _⟩ := h
    rfl
  · obtain ⟨t, ps, rfl, ht, hp, k⟩ := h
    obtain ⟨tB, kB⟩ := T.k_MOST_BIT
    refine ⟨_, pss_cons (ps_if (pt_not (pt_val (pe_callB call_isi rfl T.f_isinstance (by decide +kernel) (pa_cons (pv 0) (pa_cons (pe_bltn (v := .ty "tuple") rfl T.f_tuple (by decide +kernel) rfl) pa_nil))))) (pss_one (ps_ret pe_bl)) pss_nil)
      (pss_cons (ps_for PassesOwn.never rfl (pi_tup (pv 0)) (pg_name (i := 1) sc_are_parts.nd rfl (Or.inl rfl))
        (pss_one (ps_if (PW.pt (pw_and (pt_not (pt_val (C8.pe_c (cal_is_bits T) hr (by decide) rfl (pa_cons (pv 1) (pa_cons pe_int pa_nil)))))
          (pw_and1 (pt_not (pt_val (C8.pe_c (cal_is_number T) hr (by decide) rfl (pa_cons (pv 1) (pa_cons pe_int (pa_cons (pe_glob (v := .int 9999) rfl kB ⟨_, rfl⟩) pa_nil)))))))))
          (pss_one (ps_ret pe_bl)) pss_nil)))
      (pss_one (ps_ret pe_bl))), ?_⟩
    refine ⟨_, rfl, .ref t, .ty "tuple", _, _, true, rfl, .ty _, .base (.tup ht), kit_ty (by decide +kernel), _, rfl, ?_⟩
    refine iteF ?_
    refine ⟨_, rfl, t, rfl, ⟨_, SqT.of ht⟩, for_tup (K := K) (a := t) (xs := ps.map partV) (fun i σ H' => ∃ u : Option V, σ = [some (.ref t), u] ∧ Same H H') ⟨none, rfl, Same.refl H⟩ (fun i σ H' _ ⟨_, _, sm⟩ => SqT.of (sm _ _ ht)) ?_ ?_⟩
    · rintro i x σ H' hx ⟨u, rfl, sm⟩
      rw [List.getElem?_map] at hx
      obtain ⟨p, hp1, rfl⟩ := Option.map_eq_some_iff.mp hx
      cases p with
      | inl b =>
        refine ⟨_, rfl, .inr ⟨b, rfl, fun H2 s2 => ⟨_, rfl, ?_⟩⟩⟩
        refine iteF ?_
        refine iteF ?_
        exact ⟨_, rfl, sm.trans s2⟩
      | inr n =>
        have hn := hp n (List.mem_of_getElem? hp1)
        refine ⟨_, rfl, .inl ⟨(n : Int), rfl, _, rfl, ?_⟩⟩
        refine iteT ?_
        refine ⟨_, rfl, (n : Int), 0, 9999, rfl, ?_⟩
        rw [decide_eq_true (show (0 : Int) ≤ (n : Int) by omega), decide_eq_true (show (n : Int) ≤ 9999 by omega)]
        refine ⟨_, rfl, ?_⟩
        refine iteF ?_
        exact ⟨_, rfl, sm⟩
    · rintro σ H' ⟨u, rfl, sm⟩
      exact k _ sm
/-! ## inner_plain -/
def kids : Brk → List Brk
  | .say _ => []
  | .toss n f => (List.range n).map f
  | .look _ a b => [a, b]
  | .ask _ b => [b]
def KidsAt (H : Hp) (t : Addr) (b : Brk) : Prop := ∃ xs, H t = some (.tup xs) ∧ Paired (fun (x : V) (c : Brk) => BrkAt H c x) xs (kids b)
def spInner : Sp := fun vs H Q _ => ∃ (b : Brk) (v : V) (d : Nat), vs = [v] ∧ BrkAt H b v ∧ Deep b d ∧ ∀ t H', Same H H' → KidsAt H' t b → Q (.ref t) H'
theorem sc_inner_plain : FnScope ["breaker", "word", "rest"] ["breaker"] (defScope s_inner_plain) := C8.fnScope_by (by decide +kernel)
theorem words_ne : decide (V.str ("toss" : Str) = V.str ("say" : Str)) = false ∧ decide (V.str ("look" : Str) = V.str ("say" : Str)) = false ∧ decide (V.str ("look" : Str) = V.str ("toss" : Str)) = false ∧
    decide (V.str ("ask" : Str) = V.str ("say" : Str)) = false ∧ decide (V.str ("ask" : Str) = V.str ("toss" : Str)) = false ∧ decide (V.str ("ask" : Str) = V.str ("look" : Str)) = false := by decide +kernel
theorem dec_same (v : V) : decide (v = v) = true := decide_eq_true rfl
theorem kids_paired {H : Hp} : ∀ (n : Nat) (f : Nat → Brk) (xs : List V), xs.length = n → (∀ i, i < n → ∃ x, xs[i]? = some x ∧ BrkAt H (f i) x) → Paired (fun (x : V) (c : Brk) => BrkAt H c x) xs ((List.range n).map f)
  | 0, f, xs, hl, _ => by
    have : xs = [] := List.eq_nil_of_length_eq_zero hl
    rw [this]
    exact .nil
  | n + 1, f, xs, hl, h => by
    have h1 := kids_paired n f (xs.take n) (by rw [List.length_take]; omega) fun i hi => by
      obtain ⟨x, e1, e2⟩ := h i (by omega)
      exact ⟨x, by rw [List.getElem?_take_of_lt hi]; exact e1, e2⟩
    obtain ⟨x, e1, e2⟩ := h n (Nat.lt_succ_self n)
    have e : xs = xs.take n ++ [x] := by
      have := take_snoc e1
      rw [← this, List.take_of_length_le (by omega)]
    rw [e, List.range_succ, List.map_append]
    exact paired_snoc (F := fun (x : V) (c : Brk) => BrkAt H c x) e2 h1
theorem BrkAt.same {H H' : Hp} (h : Same H H') {b : Brk} {v : V} (hb : BrkAt H b v) : BrkAt H' b v := BrkAt.tups (Tups.same h) b v hb
theorem cal_inner_plain (T : Tx K mg w) : C8.Cal P w K mg base 3 "inner_plain" spInner [] := by
  refine T.d_inner_plain.cal sc_inner_plain (fun vs H Q E h => ?_) fun f cdv A outer s H vs Q E hr h => ?_
  · obtain ⟨b, v, d, rfl, _⟩ := h
    rfl
  · obtain ⟨b, v, d, rfl, hb, hd, k⟩ := h
    obtain ⟨tB, kB⟩ := T.k_MOST_BIT
    obtain ⟨tM, kM⟩ := T.k_MOST_TOSSED
    refine ⟨_, pss_cons (ps_if (PW.pt (pw_and (pt_val (pe_callB call_isi rfl T.f_isinstance (by decide +kernel) (pa_cons (pv 0) (pa_cons (pe_bltn (v := .ty "tuple") rfl T.f_tuple (by decide +kernel) rfl) pa_nil))))
        (pw_and (pt_cmpR op_gt (pe_callB call_len_seq rfl T.f_len PySem.boot_len (pa_cons (pv 0) pa_nil)) pe_int (nomark _))
        (pw_and1 (pt_val (pe_callB call_isi rfl T.f_isinstance (by decide +kernel) (pa_cons (pe_ix ix_tup (pv 0) pe_int (fun _ _ => rfl)) (pa_cons (pe_bltn (v := .ty "str") rfl T.f_str (by decide +kernel) rfl) pa_nil))))))))
      (pss_cons (ps_par (i := 1) (j := 2) (by rfl) sc_inner_plain.nd rfl rfl (by decide) rfl rfl (pa_cons (pe_ix ix_tup (pv 0) pe_int (fun _ _ => rfl)) (pa_cons (pe_slice sl_tup (pv 0) (po_some pe_int) po_none) pa_nil)) (by rfl))
      (pss_cons (ps_if (PW.pt (pw_and (pt_cmpR op_eq (pv 1) pe_str (nomark _)) (pw_and (pt_cmpR op_eq (pe_callB call_len_seq rfl T.f_len PySem.boot_len (pa_cons (pv 2) pa_nil)) pe_int (nomark _))
          (pw_and1 (pt_val (C8.pe_c (cal_are_parts T) hr (by decide) rfl (pa_cons (pe_ix ix_tup (pv 2) pe_int (fun _ _ => rfl)) pa_nil))))))) (pss_one (ps_ret (pe_tup pa_nil))) pss_nil)
      (pss_cons (ps_if (PW.pt (pw_and (pt_cmpR op_eq (pv 1) pe_str (nomark _)) (pw_and (pt_cmpR op_eq (pe_callB call_len_seq rfl T.f_len PySem.boot_len (pa_cons (pv 2) pa_nil)) pe_int (nomark _))
          (pw_and (pt_val (pe_callB call_isi rfl T.f_isinstance (by decide +kernel) (pa_cons (pe_ix ix_tup (pv 2) pe_int (fun _ _ => rfl)) (pa_cons (pe_bltn (v := .ty "tuple") rfl T.f_tuple (by decide +kernel) rfl) pa_nil))))
          (pw_and1 (pt_chain op_le op_le pe_int (pe_callB call_len_seq rfl T.f_len PySem.boot_len (pa_cons (pe_ix ix_tup (pv 2) pe_int (fun _ _ => rfl)) pa_nil)) (pe_glob (v := .int 64) rfl kM ⟨_, rfl⟩)))))))
          (pss_one (ps_ret (pe_ix ix_tup (pv 2) pe_int (fun _ _ => rfl)))) pss_nil)
      (pss_cons (ps_if (PW.pt (pw_and (pt_cmpR op_eq (pv 1) pe_str (nomark _)) (pw_and (pt_cmpR op_eq (pe_callB call_len_seq rfl T.f_len PySem.boot_len (pa_cons (pv 2) pa_nil)) pe_int (nomark _))
          (pw_and1 (pt_val (C8.pe_c (cal_is_number T) hr (by decide) rfl (pa_cons (pe_ix ix_tup (pv 2) pe_int (fun _ _ => rfl)) (pa_cons pe_int (pa_cons (pe_glob (v := .int 9999) rfl kB ⟨_, rfl⟩) pa_nil)))))))))
          (pss_one (ps_ret (pe_slice sl_tup (pv 2) (po_some pe_int) po_none))) pss_nil)
      (pss_one (ps_if (PW.pt (pw_and (pt_cmpR op_eq (pv 1) pe_str (nomark _)) (pw_and (pt_cmpR op_eq (pe_callB call_len_seq rfl T.f_len PySem.boot_len (pa_cons (pv 2) pa_nil)) pe_int (nomark _))
          (pw_and1 (pt_val (C8.pe_c (cal_are_parts T) hr (by decide) rfl (pa_cons (pe_ix ix_tup (pv 2) pe_int (fun _ _ => rfl)) pa_nil)))))))
          (pss_one (ps_ret (pe_slice sl_tup (pv 2) (po_some pe_int) po_none))) pss_nil)))))) pss_nil)
      (pss_one ps_never), ?_⟩
    obtain ⟨q1, q2, q3, q4, q5, q6⟩ := words_ne
    cases b with
    | say ps =>
      obtain ⟨a, t, rfl, ha, ht⟩ := hb
      obtain ⟨⟨_, hp⟩, _⟩ := hd
      refine ⟨_, rfl, .ref a, .ty "tuple", _, _, true, rfl, .ty _, .base (.tup ha), kit_ty (by decide +kernel), _, rfl, ?_⟩
      refine iteT ?_
      refine ⟨_, rfl, a, _, rfl, .inr (SqT.of ha), _, _, rfl, rfl, _, rfl, ?_⟩
      refine iteT ?_
      refine ⟨_, rfl, a, _, _, _, rfl, rfl, SqT.of ha, atI_nat (j := 0) rfl, .str _, .ty "str", _, _, true, rfl, .ty _, .base (.str _), kit_ty (by decide +kernel), _, rfl, ?_⟩
      refine iteT ?_
      refine ⟨_, rfl, a, _, _, _, rfl, rfl, SqT.of ha, atI_nat (j := 0) rfl, _, rfl, _, rfl, a, _, rfl, SqT.of ha, fun e => absurd (show (1 : Nat) = 0 from e.1) (by decide), fun p hp0 => ⟨_, _, rfl, ?_⟩⟩
      have s1 : Same H (upd H p (.tup [.ref t])) := same_upd hp0
      refine ⟨_, rfl, rfl, _, rfl, ?_⟩
      rw [dec_same]
      refine iteT ?_
      refine ⟨_, rfl, p, [.ref t], rfl, .inr (SqT.of upd_same), rfl, _, rfl, ?_⟩
      refine iteT ?_
      refine ⟨_, rfl, p, [.ref t], 0, _, rfl, rfl, SqT.of upd_same, atI_nat (j := 0) rfl, t, ps, rfl, s1 _ _ ht, fun n hn => Nat.le_trans (hp n hn) (by decide), fun H2 s2 => ⟨_, rfl, ?_⟩⟩
      refine iteT ?_
      refine ⟨Nat.zero_le _, fun u hu => ?_⟩
      exact k u _ ((s1.trans s2).trans (same_upd hu)) ⟨[], upd_same, .nil⟩
    | toss n f =>
      obtain ⟨a, t, xs, rfl, ha, ht, hl, hx⟩ := hb
      obtain ⟨hn1, hn3, _, _⟩ := hd
      refine ⟨_, rfl, .ref a, .ty "tuple", _, _, true, rfl, .ty _, .base (.tup ha), kit_ty (by decide +kernel), _, rfl, ?_⟩
      refine iteT ?_
      refine ⟨_, rfl, a, _, rfl, .inr (SqT.of ha), _, _, rfl, rfl, _, rfl, ?_⟩
      refine iteT ?_
      refine ⟨_, rfl, a, _, _, _, rfl, rfl, SqT.of ha, atI_nat (j := 0) rfl, .str _, .ty "str", _, _, true, rfl, .ty _, .base (.str _), kit_ty (by decide +kernel), _, rfl, ?_⟩
      refine iteT ?_
      refine ⟨_, rfl, a, _, _, _, rfl, rfl, SqT.of ha, atI_nat (j := 0) rfl, _, rfl, _, rfl, a, _, rfl, SqT.of ha, fun e => absurd (show (1 : Nat) = 0 from e.1) (by decide), fun p hp0 => ⟨_, _, rfl, ?_⟩⟩
      have s1 : Same H (upd H p (.tup [.ref t])) := same_upd hp0
      refine ⟨_, rfl, rfl, _, rfl, ?_⟩
      rw [q1]
      refine iteF ?_
      refine iteF ?_
      refine ⟨_, rfl, rfl, _, rfl, ?_⟩
      rw [dec_same]
      refine iteT ?_
      refine ⟨_, rfl, p, [.ref t], rfl, .inr (SqT.of upd_same), rfl, _, rfl, ?_⟩
      refine iteT ?_
      refine ⟨_, rfl, p, [.ref t], 0, _, rfl, rfl, SqT.of upd_same, atI_nat (j := 0) rfl, .ref t, .ty "tuple", _, _, true, rfl, .ty _, .base (.tup (s1 _ _ ht)), kit_ty (by decide +kernel), _, rfl, ?_⟩
      refine iteT ?_
      refine ⟨_, rfl, p, [.ref t], 0, _, rfl, rfl, SqT.of upd_same, atI_nat (j := 0) rfl, t, xs, rfl, .inr (SqT.of (s1 _ _ ht)), _, _, rfl, rfl, _, rfl, ?_⟩
      rw [decide_eq_true (show (1 : Int) ≤ ((xs.length : Nat) : Int) by omega)]
      refine iteT ?_
      refine ⟨_, _, rfl, rfl, _, rfl, ?_⟩
      rw [decide_eq_true (show ((xs.length : Nat) : Int) ≤ 64 by omega)]
      refine iteT ?_
      refine ⟨_, rfl, p, [.ref t], 0, _, rfl, rfl, SqT.of upd_same, atI_nat (j := 0) rfl, ?_⟩
      exact k t _ s1 ⟨xs, s1 _ _ ht, kids_paired n f xs hl fun i hi => let ⟨x, e1, e2⟩ := hx i hi; ⟨x, e1, e2.same s1⟩⟩
    | look n b c =>
      obtain ⟨a, x, y, rfl, ha, hx, hy⟩ := hb
      obtain ⟨hn, _⟩ := hd
      refine ⟨_, rfl, .ref a, .ty "tuple", _, _, true, rfl, .ty _, .base (.tup ha), kit_ty (by decide +kernel), _, rfl, ?_⟩
      refine iteT ?_
      refine ⟨_, rfl, a, _, rfl, .inr (SqT.of ha), _, _, rfl, rfl, _, rfl, ?_⟩
      refine iteT ?_
      refine ⟨_, rfl, a, _, _, _, rfl, rfl, SqT.of ha, atI_nat (j := 0) rfl, .str _, .ty "str", _, _, true, rfl, .ty _, .base (.str _), kit_ty (by decide +kernel), _, rfl, ?_⟩
      refine iteT ?_
      refine ⟨_, rfl, a, _, _, _, rfl, rfl, SqT.of ha, atI_nat (j := 0) rfl, _, rfl, _, rfl, a, _, rfl, SqT.of ha, fun e => absurd (show (1 : Nat) = 0 from e.1) (by decide), fun p hp0 => ⟨_, _, rfl, ?_⟩⟩
      have s1 : Same H (upd H p (.tup [.int (n : Int), x, y])) := same_upd hp0
      refine ⟨_, rfl, rfl, _, rfl, ?_⟩
      rw [q2]
      refine iteF ?_
      refine iteF ?_
      refine ⟨_, rfl, rfl, _, rfl, ?_⟩
      rw [q3]
      refine iteF ?_
      refine iteF ?_
      refine ⟨_, rfl, rfl, _, rfl, ?_⟩
      rw [dec_same]
      refine iteT ?_
      refine ⟨_, rfl, p, [.int (n : Int), x, y], rfl, .inr (SqT.of upd_same), rfl, _, rfl, ?_⟩
      refine iteT ?_
      refine ⟨_, rfl, p, [.int (n : Int), x, y], 0, _, rfl, rfl, SqT.of upd_same, atI_nat (j := 0) rfl, (n : Int), 0, 9999, rfl, ?_⟩
      rw [decide_eq_true (show (0 : Int) ≤ (n : Int) by omega), decide_eq_true (show (n : Int) ≤ 9999 by omega)]
      refine ⟨_, rfl, ?_⟩
      refine iteT ?_
      refine ⟨_, rfl, _, rfl, p, [.int (n : Int), x, y], rfl, SqT.of upd_same, fun e => absurd (show (1 : Nat) = 0 from e.1) (by decide), fun u hu => ?_⟩
      have s2 := s1.trans (same_upd (o := .tup [x, y]) hu)
      exact k u _ s2 ⟨[x, y], upd_same, .cons (hx.same s2) (.cons (hy.same s2) .nil)⟩
    | ask ps b =>
      obtain ⟨a, t, x, rfl, ha, ht, hx⟩ := hb
      obtain ⟨⟨_, hp⟩, _⟩ := hd
      refine ⟨_, rfl, .ref a, .ty "tuple", _, _, true, rfl, .ty _, .base (.tup ha), kit_ty (by decide +kernel), _, rfl, ?_⟩
      refine iteT ?_
      refine ⟨_, rfl, a, _, rfl, .inr (SqT.of ha), _, _, rfl, rfl, _, rfl, ?_⟩
      refine iteT ?_
      refine ⟨_, rfl, a, _, _, _, rfl, rfl, SqT.of ha, atI_nat (j := 0) rfl, .str _, .ty "str", _, _, true, rfl, .ty _, .base (.str _), kit_ty (by decide +kernel), _, rfl, ?_⟩
      refine iteT ?_
      refine ⟨_, rfl, a, _, _, _, rfl, rfl, SqT.of ha, atI_nat (j := 0) rfl, _, rfl, _, rfl, a, _, rfl, SqT.of ha, fun e => absurd (show (1 : Nat) = 0 from e.1) (by decide), fun p hp0 => ⟨_, _, rfl, ?_⟩⟩
      have s1 : Same H (upd H p (.tup [.ref t, x])) := same_upd hp0
      refine ⟨_, rfl, rfl, _, rfl, ?_⟩
      rw [q4]
      refine iteF ?_
      refine iteF ?_
      refine ⟨_, rfl, rfl, _, rfl, ?_⟩
      rw [q5]
      refine iteF ?_
      refine iteF ?_
      refine ⟨_, rfl, rfl, _, rfl, ?_⟩
      rw [q6]
      refine iteF ?_
      refine iteF ?_
      refine ⟨_, rfl, rfl, _, rfl, ?_⟩
      rw [dec_same]
      refine iteT ?_
      refine ⟨_, rfl, p, [.ref t, x], rfl, .inr (SqT.of upd_same), rfl, _, rfl, ?_⟩
      refine iteT ?_
      refine ⟨_, rfl, p, [.ref t, x], 0, _, rfl, rfl, SqT.of upd_same, atI_nat (j := 0) rfl, t, ps, rfl, s1 _ _ ht, fun n hn => Nat.le_trans (hp n hn) (by decide), fun H2 s2 => ⟨_, rfl, ?_⟩⟩
      refine iteT ?_
      refine ⟨_, rfl, _, rfl, p, [.ref t, x], rfl, SqT.of (s2 _ _ upd_same), fun e => absurd (show (1 : Nat) = 0 from e.1) (by decide), fun u hu => ?_⟩
      have s3 := (s1.trans s2).trans (same_upd (o := .tup [x]) hu)
      exact k u _ s3 ⟨[x], upd_same, .cons (hx.same s3) .nil⟩
end
end Bb
namespace Bb
open PySem PySem.Spec PyProof.Rows L2
section
variable {P : Program} {w : World} {K : PySem.W.Frag} {mg : Str → Option Value} {base : Heap}
/-! ## check_plain: the stack of breakers that wait -/
def wt (qs : List (Brk × Nat)) : Nat := (qs.map fun q => size q.1).sum
theorem wt_app (a b : List (Brk × Nat)) : wt (a ++ b) = wt a + wt b := by
  unfold wt
  rw [List.map_append, List.sum_append]
theorem wt_len : ∀ qs : List (Brk × Nat), qs.length ≤ wt qs
  | [] => Nat.le_refl 0
  | q :: r => by
    have h := wt_len r
    have p := size_pos q.1
    show r.length + 1 ≤ size q.1 + wt r
    omega
theorem sum_range (n : Nat) (f : Nat → Nat) : ((List.range n).map f).sum = sumN n f := by
  induction n with
  | zero => rfl
  | succ n ih =>
    rw [List.range_succ, List.map_append, List.sum_append, ih]
    show sumN n f + (f n + 0) = sumN n f + f n
    rfl
theorem wt_kids (b : Brk) (d : Nat) : wt ((kids b).map fun c => (c, d)) + 1 = size b := by
  unfold wt
  rw [List.map_map]
  cases b with
  | say ps => rfl
  | toss n f =>
    show (((List.range n).map f).map fun c => size c).sum + 1 = 1 + sumN n fun i => size (f i)
    rw [List.map_map, Nat.add_comm]
    show 1 + ((List.range n).map fun i => size (f i)).sum = _
    rw [sum_range]
  | look n a b =>
    show size a + (size b + 0) + 1 = 1 + size a + size b
    omega
  | ask ps b =>
    show size b + 0 + 1 = 1 + size b
    omega
theorem deep_kids {b : Brk} {e : Nat} (h : Deep b e) : 1 ≤ e ∧ ∀ c, c ∈ kids b → Deep c (e - 1) := by
  cases b with
  | say ps => exact ⟨h.2, fun c hc => by cases hc⟩
  | toss n f =>
    refine ⟨h.2.2.1, fun c hc => ?_⟩
    obtain ⟨i, hi, rfl⟩ := List.mem_map.mp hc
    exact h.2.2.2 i (List.mem_range.mp hi)
  | look n a b =>
    refine ⟨h.2.1, fun c hc => ?_⟩
    have hc' : c = a ∨ c = b := by simpa [kids] using hc
    rcases hc' with rfl | rfl
    · exact h.2.2.1
    · exact h.2.2.2
  | ask ps b =>
    refine ⟨h.2.1, fun c hc => ?_⟩
    have hc' : c = b := by simpa [kids] using hc
    rw [hc']
    exact h.2.2
theorem paired_last {α β : Type} {F : α → β → Prop} : ∀ {l : List α} {m : List β}, Paired F l m → l ≠ [] → ∃ l0 a m0 b, l = l0 ++ [a] ∧ m = m0 ++ [b] ∧ Paired F l0 m0 ∧ F a b
  | _, _, .nil, h => absurd rfl h
  | a :: l, b :: m, .cons r t, _ => by
    cases l with
    | nil =>
      cases t
      exact ⟨[], a, [], b, rfl, rfl, .nil, r⟩
    | cons c l =>
      obtain ⟨l0, x, m0, y, e1, e2, p, q⟩ := paired_last t (by simp)
      exact ⟨a :: l0, x, b :: m0, y, by rw [e1]; rfl, by rw [e2]; rfl, .cons r p, q⟩
theorem paired_app {α β : Type} {F : α → β → Prop} : ∀ {l : List α} {m : List β} {l2 : List α} {m2 : List β}, Paired F l m → Paired F l2 m2 → Paired F (l ++ l2) (m ++ m2)
  | _, _, _, _, .nil, h => h
  | _, _, _, _, .cons r t, h => .cons r (paired_app t h)
/-- one that waits: the pair of the breaker and how deep it stands -/
def Waits (H : Hp) (t : Addr) (q : Brk × Nat) : Prop := ∃ v, H t = some (.tup [v, .int (q.2 : Int)]) ∧ BrkAt H q.1 v
def DeepAll (qs : List (Brk × Nat)) : Prop := ∀ q, q ∈ qs → ∃ e, Deep q.1 e ∧ q.2 + e ≤ 61
def spCheck : Sp := fun vs H Q _ => ∃ (b : Brk) (v : V) (d : Nat), vs = [v] ∧ BrkAt H b v ∧ Deep b d ∧ d ≤ 60 ∧ size b ≤ 2000 ∧ ∀ H', Same H H' → Q .non H'
abbrev nCheck : List Str := ["breaker", "waiting", "within", "one", "depth", "inner", "other"]
theorem sc_check_plain : FnScope nCheck ["breaker"] (defScope s_check_plain) := C8.fnScope_by (by decide +kernel)
theorem cal_check_plain (T : Tx K mg w) : C8.Cal P w K mg base 4 "check_plain" spCheck [] := by
  refine T.d_check_plain.cal sc_check_plain (fun vs H Q E h => ?_) fun f cdv A outer s H vs Q E hr h => ?_
  · obtain ⟨b, v, d, rfl, _⟩ := h
    rfl
  · obtain ⟨b, v, d, rfl, hb, hd, hd60, hsz, k⟩ := h
    obtain ⟨tD, kD⟩ := T.k_MOST_DEPTH
    obtain ⟨tW, kW⟩ := T.k_MOST_WITHIN
    refine ⟨_, pss_cons (ps_set (i := 1) sc_check_plain.nd rfl (Or.inl rfl) (pe_lst (pa_cons (pe_tup (pa_cons (pv 0) (pa_cons pe_int pa_nil))) pa_nil))) <|
      pss_cons (ps_set (i := 2) sc_check_plain.nd rfl (Or.inl rfl) pe_int) <|
      pss_one <| ps_while PassesOwn.never (pt_cmpR op_gt (pe_callB call_len_seq rfl T.f_len PySem.boot_len (pa_cons (pv 1) pa_nil)) pe_int (nomark _)) <|
        pss_cons (ps_asg (g := gTup K 2 (gCons (gName 3) (gCons (gName 4) gNil))) (pe_bm0 PySem.F.plainAttrs_list PySem.F.slot_list_pop PySem.F.type_list_pop mt_pop (pv 1))
            (pg_tup rfl (pgs_cons (pg_name (i := 3) sc_check_plain.nd (by rfl) (by exact Or.inl rfl)) (pgs_cons (pg_name (i := 4) sc_check_plain.nd (by rfl) (by exact Or.inr rfl)) pgs_nil)))) <|
        pss_cons (ps_set (i := 5) sc_check_plain.nd rfl (Or.inl rfl) (C8.pe_c (cal_inner_plain T) hr (by decide) rfl (pa_cons (pv 3) pa_nil))) <|
        pss_cons (ps_aug (i := 2) sc_check_plain.nd rfl (Or.inl rfl) (pe_callB call_len_seq rfl T.f_len PySem.boot_len (pa_cons (pv 5) pa_nil)) ip_add) <|
        pss_cons (ps_if (PW.pt (pw_or (pt_cmpR op_gt (pv 4) (pe_glob (v := .int 60) rfl kD ⟨_, rfl⟩) (nomark _)) (pw_or1 (pt_cmpR op_gt (pv 2) (pe_glob (v := .int 2000) rfl kW ⟨_, rfl⟩) (nomark _))))) pss_never pss_nil) <|
        pss_one <| ps_expr <| pe_bm PySem.F.plainAttrs_list PySem.F.slot_list_extend PySem.F.type_list_extend mt_extend (pv 1) <|
          pa_cons (pe_lc (own := [("other", 6)]) (g := gName 6) (tt := tYes) rfl sc_check_plain.nd (pi_tup (pv 5)) (blkOk_by (N := nCheck) (sc := defScope s_check_plain) (by decide +kernel))
            (fun _ _ _ _ _ => pg_name (i := 6) sc_check_plain.nd rfl (Or.inl rfl)) (fun _ _ _ _ _ => pts_nil) (fun _ _ _ _ _ => pe_tup (pa_cons (pv 6) (pa_cons (pe_op op_add (pv 4) pe_int) pa_nil)))) pa_nil, ?_⟩
    refine ⟨_, rfl, (by show 2 ≤ sizeLine; decide), fun t0 ht0 => ⟨(by show 1 ≤ sizeLine; decide), fun l hl => ?_⟩⟩
    have sm0 : Same H (upd H t0 (.tup [v, .int 1])) := same_upd ht0
    have hl0 : H l = none := sm0.free hl
    have sm1 : Same H (upd (upd H t0 (.tup [v, .int 1])) l (.lst [.ref t0])) := sm0.trans (same_upd hl)
    refine ⟨fun m σ H' => ∃ (wi : Nat) (o3 o4 o5 o6 : Option V) (ts : List Addr) (qs : List (Brk × Nat)), σ = [some v, some (.ref l), some (.int (wi : Int)), o3, o4, o5, o6] ∧ Same H H' ∧ H' l = some (.lst (ts.map V.ref)) ∧
        Paired (Waits H') ts qs ∧ DeepAll qs ∧ wi + wt qs = size b - 1 + qs.length ∧ wt qs ≤ 2000 ∧ m = wt qs, ?_, ?_⟩
    · refine ⟨size b, 0, none, none, none, none, [t0], [(b, 1)], rfl, sm1, upd_same, .cons ⟨v, ?_, hb.same sm1⟩ .nil, ?_, ?_, hsz, ?_⟩
      · rw [upd_ne (ne_of_none (upd_same) hl), upd_same]
        rfl
      · intro q hq
        have e : q = (b, 1) := by simpa using hq
        rw [e]
        exact ⟨d, hd, by show 1 + d ≤ 61; omega⟩
      · have := size_pos b
        show 0 + (size b + 0) = size b - 1 + 1
        omega
      · show size b = size b + 0
        rfl
    · rintro m σ H' ⟨wi, o3, o4, o5, o6, ts, qs, rfl, sm, hL, hp, hdp, hw, hw2, rfl⟩
      have hlen := paired_len hp
      refine ⟨_, rfl, l, _, rfl, .inl (SqL.of hL), _, _, rfl, rfl, _, rfl, ?_⟩
      rw [List.length_map]
      by_cases h0 : ts = []
      · subst h0
        refine iteF ?_
        exact k _ sm
      · obtain ⟨ts0, t, qs0, ⟨c, e⟩, rfl, rfl, hp0, v1, hv1, hb1⟩ := paired_last hp h0
        have hpos : (0 : Int) < (((ts0 ++ [t]).length : Nat) : Int) := by rw [List.length_append]; show (0 : Int) < ((ts0.length + 1 : Nat) : Int); omega
        rw [decide_eq_true hpos]
        refine iteT ?_
        obtain ⟨e1, hde, he61⟩ := hdp (c, e) (List.mem_append_right _ List.mem_cons_self)
        obtain ⟨he1, hkid⟩ := deep_kids hde
        have hwl := wt_app qs0 [(c, e)]
        have hwc : wt [(c, e)] = size c := rfl
        have hwk := wt_kids c (e + 1)
        have hlk : ((kids c).map fun x => (x, e + 1)).length = (kids c).length := List.length_map _
        have hl2 := wt_len qs0
        have hl3 := wt_len ((kids c).map fun x => (x, e + 1))
        rw [List.length_append, List.length_singleton] at hw
        refine ⟨fun σ' H'' => ∃ m', m' < wt (qs0 ++ [(c, e)]) ∧ ∃ (wi : Nat) (o3 o4 o5 o6 : Option V) (ts : List Addr) (qs : List (Brk × Nat)), σ' = [some v, some (.ref l), some (.int (wi : Int)), o3, o4, o5, o6] ∧ Same H H'' ∧ H'' l = some (.lst (ts.map V.ref)) ∧
          Paired (Waits H'') ts qs ∧ DeepAll qs ∧ wi + wt qs = size b - 1 + qs.length ∧ wt qs ≤ 2000 ∧ m' = wt qs, fun σ' H'' z => z, ?_⟩
        have hne : ∀ q u, H' q = some (.tup u) → q ≠ l := fun q u e => ne_of e hL (by intro z; cases z)
        refine ⟨_, rfl, .inl ⟨rfl, _, SqL.of hL⟩, l, _, .ref t, rfl, rfl, hL, ?_, t, _, rfl, .inl (.inl ((upd_ne (hne _ _ hv1)).trans hv1)), rfl, _, _, rfl, _, _, rfl, rfl, ?_⟩
        · rw [List.map_append, List.length_append]
          show (List.map V.ref ts0 ++ [V.ref t])[(List.map V.ref ts0).length + 1 - 1]? = some (V.ref t)
          rw [Nat.add_sub_cancel, List.getElem?_append_right (Nat.le_refl _), Nat.sub_self]
          rfl
        have tu : Tups H' (upd H' l (.lst ((List.map V.ref (ts0 ++ [t])).dropLast))) := fun a xs e => (upd_ne (hne a xs e)).trans e
        have edl : (List.map V.ref (ts0 ++ [t])).dropLast = ts0.map V.ref := by rw [List.map_append]; exact List.dropLast_concat
        rw [edl] at tu ⊢
        refine ⟨_, rfl, c, v1, e1, rfl, BrkAt.tups tu c v1 hb1, hde, fun p H2 s2 ⟨xs, hxs, hpk⟩ => ?_⟩
        have hL2 : H2 l = some (.lst (ts0.map V.ref)) := s2 _ _ upd_same
        have hxl := paired_len hpk
        refine ⟨_, rfl, _, rfl, p, xs, rfl, .inr (SqT.of hxs), _, _, rfl, rfl, _, rfl, _, _, rfl, rfl, _, rfl, ?_⟩
        rw [decide_eq_false (show ¬ (60 : Int) < (e : Int) by omega)]
        refine iteF ?_
        refine ⟨_, rfl, _, _, rfl, rfl, _, rfl, ?_⟩
        rw [decide_eq_false (show ¬ (2000 : Int) < (wi : Int) + ((xs.length : Nat) : Int) by omega)]
        refine iteF ?_
        refine ⟨_, rfl, .inl ⟨rfl, _, SqL.of hL2⟩, _, rfl, p, rfl, ⟨_, SqT.of hxs⟩, fun D hD => ?_⟩
        refine lc_tup (K := K) (a := p) (xs := xs) (fun i H3 => Same H2 H3 ∧ H2 D = none ∧ ∃ us : List Addr, H3 D = some (.lst (us.map V.ref)) ∧ Paired (Waits H3) us (((kids c).map fun x => (x, e + 1)).take i)) ⟨same_upd hD, hD, [], upd_same, .nil⟩ (fun i H3 _ z => SqT.of (z.1 _ _ hxs)) ?_ ?_
        · rintro i x H3 hx ⟨s3, hD0, us, hus, hpu⟩
          obtain ⟨ci, hci, hbi⟩ := paired_at hpk hx
          refine ⟨rfl, _, rfl, _, rfl, _, _, rfl, rfl, (by show 2 ≤ sizeLine; decide), fun r hr0 => ?_⟩
          have hul : us.length ≤ 3000 := by
            have := paired_len hpu
            rw [this, List.length_take]
            omega
          have nDr : D ≠ r := ne_of_none hus hr0
          have tu3 : Tups H3 (upd (upd H3 r (.tup [x, .int ((e : Int) + 1)])) D (.lst (us.map V.ref ++ [.ref r]))) := fun a ys q => by
            rw [upd_ne (ne_of q hus (by intro z; cases z)), upd_ne (ne_of_none q hr0)]
            exact q
          refine ⟨_, (upd_ne nDr).trans hus, by rw [List.length_map]; exact small5 (by omega), fun q o z => ?_, hD0, us ++ [r], ?_, ?_⟩
          · rw [upd_ne (ne_of_none z hD0), upd_ne (ne_of_none (s3 _ _ z) hr0)]
            exact s3 _ _ z
          · rw [upd_same, List.map_append]
            rfl
          · have ek : ((kids c).map fun x => (x, e + 1))[i]? = some (ci, e + 1) := by rw [List.getElem?_map, hci]; rfl
            rw [take_snoc ek]
            refine paired_snoc (F := Waits _) ⟨x, ?_, BrkAt.tups tu3 ci x (hbi.same s3)⟩ (paired_mono (fun a q ⟨y, y1, y2⟩ => ⟨y, tu3 _ _ y1, BrkAt.tups tu3 q.1 y y2⟩) hpu)
            rw [upd_ne nDr.symm, upd_same]
            rfl
        · rintro H3 ⟨s3, hD0, us, hus, hpu⟩
          have hL3 := s3 _ _ hL2
          have eall : ((kids c).map fun x => (x, e + 1)).take xs.length = (kids c).map fun x => (x, e + 1) := List.take_of_length_le (by rw [hlk]; omega)
          rw [eall] at hpu
          have hul := paired_len hpu
          have htl := paired_len hp0
          have tu4 : Tups H3 (upd H3 l (.lst (ts0.map V.ref ++ us.map V.ref))) := fun a ys q => by
            rw [upd_ne (ne_of q hL3 (by intro z; cases z))]
            exact q
          refine ⟨l, D, _, _, rfl, rfl, hL3, hus, by rw [List.length_map, List.length_map]; exact Nat.le_of_lt (small5 (by omega)), ?_⟩
          refine ⟨wt (qs0 ++ (kids c).map fun x => (x, e + 1)), ?_, wi + xs.length, _, _, _, _, ts0 ++ us, qs0 ++ (kids c).map fun x => (x, e + 1), rfl, fun q o z => ?_, ?_, ?_, ?_, ?_, by rw [wt_app]; omega, rfl⟩
          · rw [wt_app, wt_app]
            omega
          · have nl : q ≠ l := ne_of_none z hl0
            rw [upd_ne nl]
            refine s3 _ _ (s2 _ _ ?_)
            rw [upd_ne nl]
            exact sm _ _ z
          · rw [upd_same, List.map_append]
          · have t2 : Tups H' (upd H3 l (.lst (ts0.map V.ref ++ us.map V.ref))) := fun a ys q => tu4 _ _ (s3 _ _ (s2 _ _ (tu _ _ q)))
            exact paired_app (paired_mono (fun a q ⟨y, y1, y2⟩ => ⟨y, t2 _ _ y1, BrkAt.tups t2 q.1 y y2⟩) hp0) (paired_mono (fun a q ⟨y, y1, y2⟩ => ⟨y, tu4 _ _ y1, BrkAt.tups tu4 q.1 y y2⟩) hpu)
          · intro q hq
            rcases List.mem_append.mp hq with z | z
            · exact hdp q (List.mem_append_left _ z)
            · obtain ⟨x, hx, rfl⟩ := List.mem_map.mp z
              exact ⟨e1 - 1, hkid x hx, by show e + 1 + (e1 - 1) ≤ 61; omega⟩
          · rw [wt_app, List.length_append, hlk]
            omega
/-! ## check_breaker -/
theorem sc_check_breaker : FnScope ["breaker", "layers", "word"] ["breaker"] (defScope s_check_breaker) := C8.fnScope_by (by decide +kernel)
theorem cal_check_breaker (T : Tx K mg w) : C8.Cal P w K mg base 5 "check_breaker" spCheck [] := by
  refine T.d_check_breaker.cal sc_check_breaker (fun vs H Q E h => ?_) fun f cdv A outer s H vs Q E hr h => ?_
  · obtain ⟨b, v, d, rfl, _⟩ := h
    rfl
  · obtain ⟨b, v, d, rfl, hb, hd, hd60, hsz, k⟩ := h
    refine ⟨_, pss_cons (ps_set (i := 1) sc_check_breaker.nd rfl (Or.inl rfl) pe_int) <| pss_cons (ps_set (i := 2) sc_check_breaker.nd rfl (Or.inl rfl) pe_non) <|
      pss_cons (ps_while PassesOwn.never (pt_not (pt_val (C8.pe_c (cal_has_plain_word T) hr (by decide) rfl (pa_cons (pv 0) pa_nil)))) pss_never) <|
      pss_one (ps_expr (C8.pe_c (cal_check_plain T) hr (by decide) rfl (pa_cons (pv 0) pa_nil))), ?_⟩
    refine ⟨fun m σ H' => m = 0 ∧ σ = [some v, some (.int 0), some .non] ∧ H' = H, ⟨0, rfl, rfl, rfl⟩, ?_⟩
    rintro m σ H' ⟨rfl, rfl, rfl⟩
    refine ⟨_, rfl, b, v, rfl, hb, _, rfl, ?_⟩
    refine iteF ?_
    exact ⟨_, rfl, b, v, d, rfl, hb, hd, hd60, hsz, fun H' sm => k H' sm⟩
end
end Bb
namespace Bb
open PySem PySem.Spec PyProof.Rows L2
/-! ## Tape -/
theorem lk_choices (cl dl : Addr) : (fTape cl dl).lookup ("choices" : Str) = some (.ref cl) := by kernel_rfl
theorem lk_draws (cl dl : Addr) : (fTape cl dl).lookup ("draws" : Str) = some (.ref dl) := by kernel_rfl
theorem lk_draw (cl dl : Addr) : (fTape cl dl).lookup ("draw" : Str) = none := by kernel_rfl
theorem lk_string (cl dl : Addr) : (fTape cl dl).lookup ("string" : Str) = none := by kernel_rfl
theorem pt_tape (cl dl : Addr) : putF "draws" (.ref dl) (putF "choices" (.ref cl) []) = fTape cl dl := by kernel_rfl
section
variable {P : Program} {w : World} {K : PySem.W.Frag} {mg : Str → Option Value} {base : Heap}
def spTapeI (K : PySem.W.Frag) : Sp := fun vs H Q _ => ∃ (p dx c : Addr) (cs : List Int), vs = [.ref p, .ref c] ∧ H p = some (.ins (He.ga K "Tape") dx []) ∧ (SqL K H c (cs.map V.int) ∨ SqT K H c (cs.map V.int)) ∧
  ∀ cl dl H', H cl = none → H dl = none → TapeAt K H' p cl dl cs [] → (∀ b o, H b = some o → b ≠ p → H' b = some o) → Q .non H'
theorem sc_TapeI : FnScope ["self", "choices"] ["self", "choices"] (defScope s_Tape_init) := C8.fnScope_by (by decide +kernel)
theorem mak_Tape (T : Tx K mg w) : C8.Mak P w K mg base 1 "Tape" (He.ga K "Tape") (spTapeI K) [] := by
  refine T.i_Tape.mak sc_TapeI (fun vs H Q E h => ?_) fun f cdv A outer s H vs Q E hr h => ?_
  · obtain ⟨p, dx, c, cs, rfl, _⟩ := h
    rfl
  · obtain ⟨p, dx, c, cs, rfl, hp, hc, k⟩ := h
    refine ⟨_, pss_cons (ps_fld (pv 0) (pe_callTy call_list_of rfl T.f_list (by decide +kernel) (pa_cons (pv 1) pa_nil)) rfl) (pss_one (ps_fld (pv 0) (pe_lst pa_nil) rfl)), ?_⟩
    refine ⟨_, rfl, c, _, rfl, hc, fun cl hcl => ?_⟩
    have npc : p ≠ cl := ne_of_none hp hcl
    refine ⟨_, rfl, p, _, dx, [], rfl, (upd_ne npc).trans hp, T.c_Tape, T.n_Tape_choices, (by show 0 < 1000; decide), ?_⟩
    refine ⟨Nat.zero_le _, fun dl hdl => ?_⟩
    have npd : p ≠ dl := ne_of_none upd_same hdl
    have ncd : cl ≠ dl := ne_of_none ((upd_ne npc.symm).trans upd_same) hdl
    have hdl0 : H dl = none := by
      rw [upd_ne npd.symm, upd_ne ncd.symm] at hdl
      exact hdl
    refine ⟨_, rfl, p, _, dx, _, rfl, (upd_ne npd).trans upd_same, T.c_Tape, T.n_Tape_draws, (by show 1 < 1000; decide), ?_⟩
    refine k cl dl _ hcl hdl0 ⟨⟨dx, ?_⟩, ?_, ⟨[], ?_, .nil⟩, ncd⟩ fun b o e hb => ?_
    · rw [upd_same, pt_tape]
    · rw [upd_ne npc.symm, upd_ne ncd, upd_ne npc.symm, upd_same]
    · rw [upd_ne npd.symm, upd_same]
      rfl
    · rw [upd_ne hb, upd_ne (fun q => by rw [q, hdl0] at e; cases e), upd_ne hb, upd_ne (ne_of_none e hcl)]
      exact e
def spDraw (K : PySem.W.Frag) : Sp := fun vs H Q _ => ∃ (p cl dl : Addr) (cs : List Int) (ds : Dws) (m : Int), vs = [.ref p, .int m] ∧ TapeAt K H p cl dl cs ds ∧ ds.length ≤ 90000 ∧ 0 ≤ oTold cs ds.length m ∧ oTold cs ds.length m < m ∧
  ∀ H', TapeAt K H' p cl dl cs (ds ++ [(oTold cs ds.length m, m)]) → Keep (fun b => b = dl) H H' → Tups H H' → Q (.int (oTold cs ds.length m)) H'
theorem sc_draw : FnScope ["self", "many", "at", "choice"] ["self", "many"] (defScope s_Tape_draw) := C8.fnScope_by (by decide +kernel)
theorem told_at (cs : List Int) (i : Nat) (m : Int) (h : i < cs.length) : (cs.map V.int)[i]? = some (V.int (oTold cs i m)) := by
  unfold oTold
  rw [List.getElem?_map, List.getElem?_eq_getElem h, List.getD_eq_getElem?_getD, List.getElem?_eq_getElem h]
  rfl
theorem told_off (cs : List Int) (i : Nat) (m : Int) (h : ¬ i < cs.length) : oTold cs i m = 0 := by
  unfold oTold
  rw [List.getD_eq_getElem?_getD, List.getElem?_eq_none_iff.mpr (by omega)]
  rfl
theorem met_draw (T : Tx K mg w) : C8.Met P w K mg base 1 (He.ga K "Tape") "draw" (spDraw K) [] := by
  refine T.m_Tape_draw.met sc_draw (fun vs H Q E h => ?_) fun f cdv A outer s H vs Q E hr h => ?_
  · obtain ⟨p, cl, dl, cs, ds, m, rfl, _⟩ := h
    rfl
  · obtain ⟨p, cl, dl, cs, ds, m, rfl, ta, hlen, c0, c1, k⟩ := h
    refine ⟨_, pss_cons (ps_set (i := 2) sc_draw.nd rfl (Or.inl rfl) (pe_callB call_len_seq rfl T.f_len PySem.boot_len (pa_cons (pe_fld (pv 0) rfl) pa_nil))) <|
      pss_cons (ps_set (i := 3) sc_draw.nd rfl (Or.inl rfl) (pe_ifExp (pt_cmpR op_lt (pv 2) (pe_callB call_len_seq rfl T.f_len PySem.boot_len (pa_cons (pe_fld (pv 0) rfl) pa_nil)) (nomark _)) (pe_ix ix_list (pe_fld (pv 0) rfl) (pv 2) (fun _ _ => rfl)) pe_int)) <|
      pss_cons (ps_if (pt_not (pt_chain op_le op_lt pe_int (pv 3) (pv 1))) pss_never pss_nil) <|
      pss_cons (ps_expr (pe_bm PySem.F.plainAttrs_list PySem.F.slot_list_append PySem.F.type_list_append mt_append (pe_fld (pv 0) rfl) (pa_cons (pe_tup (pa_cons (pv 3) (pa_cons (pv 1) pa_nil))) pa_nil))) <|
      pss_one (ps_ret (pv 3)), ?_⟩
    obtain ⟨⟨dx, hp⟩, hc, ⟨ts, hd, hpd⟩, ne⟩ := id ta
    have hl := paired_len hpd
    refine ⟨_, rfl, p, _, dx, _, _, rfl, hp, T.c_Tape, T.n_Tape_draws, lk_draws _ _, dl, _, rfl, .inl (SqL.of hd), ?_⟩
    rw [List.length_map, hl]
    refine ⟨_, rfl, _, rfl, p, _, dx, _, _, rfl, hp, T.c_Tape, T.n_Tape_choices, lk_choices _ _, cl, _, rfl, .inl (SqL.of hc), _, _, rfl, rfl, _, rfl, ?_⟩
    rw [List.length_map]
    generalize hcz : oTold cs ds.length m = z at c0 c1 k
    have go : (tSeq (tIfS (tNot (tTest (tChain (rI0 fun i j => .bl (decide (i ≤ j))) (rI0 fun i j => .bl (decide (i < j))) (tC (.int 0)) (tVar 3) (tVar 1)))) tNever tNext)
        (tSeq (tDrop (tBM K "list" rAppend (tFld K (tVar 0) "draws") (tCons (tTup (tCons (tVar 3) (tCons (tVar 1) tNil))) tNil))) (tRet (tVar 3)))) { nx := fun _ H' => Q .non H', rt := Q } [some (.ref p), some (.int m), some (.int ((ds.length : Nat) : Int)), some (.int z)] H := by
      refine ⟨_, rfl, _, _, rfl, rfl, _, rfl, ?_⟩
      rw [decide_eq_true c0]
      refine iteT ?_
      refine ⟨_, rfl, _, _, rfl, rfl, _, rfl, ?_⟩
      rw [decide_eq_true c1]
      refine iteF ?_
      refine ⟨_, rfl, p, _, dx, _, _, rfl, hp, T.c_Tape, T.n_Tape_draws, lk_draws _ _, .inl ⟨rfl, _, SqL.of hd⟩, _, rfl, _, rfl, (by show 2 ≤ sizeLine; decide), fun t ht => ?_⟩
      have ntd : dl ≠ t := ne_of_none hd ht
      refine ⟨dl, _, _, rfl, rfl, (upd_ne ntd).trans hd, by rw [List.length_map, hl]; exact small5 (by omega), _, rfl, ?_⟩
      have tu : Tups H (upd (upd H t (.tup [.int z, .int m])) dl (.lst (ts.map V.ref ++ [.ref t]))) := fun a xs e => by
        rw [upd_ne (ne_of e hd (by intro q; cases q)), upd_ne (ne_of_none e ht)]
        exact e
      refine k _ ⟨⟨dx, ?_⟩, ?_, ⟨ts ++ [t], ?_, ?_⟩, ne⟩ (fun b o e nb => ?_) tu
      · rw [upd_ne (ne_of hp hd (by intro q; cases q)), upd_ne (ne_of_none hp ht)]
        exact hp
      · rw [upd_ne ne, upd_ne (ne_of_none hc ht)]
        exact hc
      · rw [upd_same, List.map_append]
        rfl
      · refine paired_snoc (F := fun (t : Addr) (d : Int × Int) => _ = some (HO.tup [.int d.1, .int d.2])) ?_ (paired_mono (fun a q e => tu _ _ e) hpd)
        rw [upd_ne ntd.symm, upd_same]
      · rw [upd_ne nb, upd_ne (ne_of_none e ht)]
        exact e
    by_cases hlt : ds.length < cs.length
    · rw [decide_eq_true (show ((ds.length : Nat) : Int) < ((cs.length : Nat) : Int) by omega)]
      refine iteT ?_
      have e := told_at cs ds.length m hlt
      rw [hcz] at e
      exact ⟨_, rfl, p, _, dx, _, _, rfl, hp, T.c_Tape, T.n_Tape_choices, lk_choices _ _, _, rfl, cl, _, _, _, rfl, rfl, SqL.of hc, atI_nat (j := ds.length) e, go⟩
    · rw [decide_eq_false (show ¬ ((ds.length : Nat) : Int) < ((cs.length : Nat) : Int) by omega)]
      refine iteF ?_
      have e := told_off cs ds.length m hlt
      rw [hcz] at e
      rw [e] at go
      exact go
def spString (K : PySem.W.Frag) : Sp := fun vs H Q _ => ∃ (p cl dl : Addr) (cs : List Int) (ds : Dws) (n : Nat), vs = [.ref p, .int (n : Int)] ∧ TapeAt K H p cl dl cs ds ∧ ds.length ≤ 90000 ∧ n ≤ 1000 ∧ 0 ≤ oTold cs ds.length (2 ^ n) ∧ oTold cs ds.length (2 ^ n) < 2 ^ n ∧
  ∀ H', TapeAt K H' p cl dl cs (ds ++ [(oTold cs ds.length (2 ^ n), 2 ^ n)]) → Keep (fun b => b = dl) H H' → Tups H H' → Q (.str (S (bitsB n (oTold cs ds.length (2 ^ n))))) H'
theorem sc_string : FnScope ["self", "length"] ["self", "length"] (defScope s_Tape_string) := C8.fnScope_by (by decide +kernel)
theorem shl_eq (n : Nat) : (1 : Int) * 2 ^ ((n : Int)).toNat = 2 ^ n := by rw [Int.one_mul, Int.toNat_natCast]
theorem met_string (T : Tx K mg w) : C8.Met P w K mg base 2 (He.ga K "Tape") "string" (spString K) [] := by
  refine T.m_Tape_string.met sc_string (fun vs H Q E h => ?_) fun f cdv A outer s H vs Q E hr h => ?_
  · obtain ⟨p, cl, dl, cs, ds, n, rfl, _⟩ := h
    rfl
  · obtain ⟨p, cl, dl, cs, ds, n, rfl, ta, hlen, hn, c0, c1, k⟩ := h
    refine ⟨_, pss_one (ps_ret (C8.pe_c (cal_bits T) hr (by decide) rfl (pa_cons (pv 1) (pa_cons (C8.pe_mt (met_draw T) hr (by decide) (pv 0) (pa_cons (pe_op op_shl pe_int (pv 1)) pa_nil)) pa_nil)))), ?_⟩
    obtain ⟨⟨dx, hp⟩, _⟩ := id ta
    refine ⟨_, rfl, _, rfl, p, dx, _, rfl, hp, lk_draw _ _, _, rfl, _, _, rfl, rfl, ⟨by omega, by omega, by decide⟩, ?_⟩
    refine ⟨p, cl, dl, cs, ds, 2 ^ n, congrArg (fun z => [V.ref p, V.int z]) (shl_eq n), ta, hlen, c0, c1, fun H' t2 k2 tu => ?_⟩
    refine ⟨n, _, rfl, hn, fun H2 s2 => ?_⟩
    exact k H2 (t2.same s2) (k2.trans (Keep.same s2)) (tu.trans (Tups.same s2))
end
end Bb
namespace Bb
open PySem PySem.Spec PyProof.Rows L2
/-! ## A world that is asked -/
/-- how a world stands in the heap: its own instance at p, over the Tape at tp; Mu: its dicts, Fo: its lists -/
structure Wld (σ : Type) where
  Par : Type
  C : Addr
  rep : Rep σ
  At : Addr → Addr → Par → Hp → σ → Prop
  Mu : Par → Addr → Prop
  Fo : Par → Addr → Prop
  keep : ∀ {p tp : Addr} {x : Par} {H H' : Hp} {st : σ} {N : Addr → Prop}, At p tp x H st → Keep N H H' → (∀ b, N b → ∃ xs, H b = some (.lst xs)) → (∀ b, Fo x b → ¬ N b) → At p tp x H' st
  dict : ∀ {p tp : Addr} {x : Par} {H : Hp} {st : σ} {b : Addr}, At p tp x H st → Mu x b → ∃ kvs, H b = some (.dK kvs)
  lsts : ∀ {p tp : Addr} {x : Par} {H : Hp} {st : σ} {b : Addr}, At p tp x H st → Fo x b → ∃ xs, H b = some (.lst xs)
  inst : ∀ {p tp : Addr} {x : Par} {H : Hp} {st : σ}, At p tp x H st → ∃ dx fs, H p = some (.ins C dx fs) ∧ fs.lookup ("answer" : Str) = none
def spAns (K : PySem.W.Frag) {σ : Type} (W : Wld σ) : Sp := fun vs H Q _ => ∃ (p tp cl dl : Addr) (cs : List Int) (ds : Dws) (x : W.Par) (st : σ) (s : Bs) (n : Nat), vs = [.ref p, .str (S s)] ∧ TapeAt K H tp cl dl cs ds ∧ W.At p tp x H st ∧
  W.rep.inv st n ∧ n ≤ 1000 ∧ ds.length ≤ 1000 ∧ s.length ≤ 1000 ∧ (∀ b, W.Fo x b → b ≠ dl) ∧ (W.rep.go st s).ok (oTold cs) ds.length ∧
  ∀ H', TapeAt K H' tp cl dl cs (ds ++ ((W.rep.go st s).run (oTold cs) ds.length).2) → W.At p tp x H' ((W.rep.go st s).run (oTold cs) ds.length).1.2 → Keep (fun b => b = dl ∨ W.Mu x b) H H' → Tups H H' →
    Q (.str (S ((W.rep.go st s).run (oTold cs) ds.length).1.1)) H'
/-! ## The permutation -/
def fPerm (tp kd : Addr) (l : Nat) : List (Str × V) := [("tape", .ref tp), ("l", .int (l : Int)), ("told", .ref kd)]
theorem pk_tape (tp kd : Addr) (l : Nat) : (fPerm tp kd l).lookup ("tape" : Str) = some (.ref tp) := by kernel_rfl
theorem pk_l (tp kd : Addr) (l : Nat) : (fPerm tp kd l).lookup ("l" : Str) = some (.int (l : Int)) := by kernel_rfl
theorem pk_told (tp kd : Addr) (l : Nat) : (fPerm tp kd l).lookup ("told" : Str) = some (.ref kd) := by kernel_rfl
theorem pk_answer (tp kd : Addr) (l : Nat) : (fPerm tp kd l).lookup ("answer" : Str) = none := by kernel_rfl
theorem pk_put (tp kd : Addr) (l : Nat) : putF "told" (.ref kd) (putF "l" (.int (l : Int)) (putF "tape" (.ref tp) [])) = fPerm tp kd l := by kernel_rfl
def permK (kn : PKn) : List (Key × V) := kn.map fun q => (Sum.inr (S q.1), V.str (S q.2))
theorem valV_seek {κ : Type} [DecidableEq κ] (f : κ → Key) (hf : ∀ a b, f a = f b → a = b) (k : κ) : ∀ kn : List (κ × Bs), valV (kn.map fun q => (f q.1, V.str (S q.2))) (f k) = (seek kn k).map fun v => V.str (S v)
  | [] => rfl
  | q :: r => by
    rw [List.map_cons]
    by_cases h : q.1 = k
    · rw [valV_pos (by rw [h])]
      show _ = Option.map _ (if q.1 = k then some q.2 else seek r k)
      rw [if_pos h]
      rfl
    · rw [valV_neg fun e => h (hf _ _ e), valV_seek f hf k r]
      show _ = Option.map _ (if q.1 = k then some q.2 else seek r k)
      rw [if_neg h]
theorem inr_S_inj (a b : Bs) (h : (Sum.inr (S a) : Key) = Sum.inr (S b)) : a = b := S_inj (Sum.inr.inj h)
theorem valV_perm (kn : PKn) (s : Bs) : valV (permK kn) (Sum.inr (S s)) = (seek kn s).map fun v => V.str (S v) := valV_seek (fun a : Bs => (Sum.inr (S a) : Key)) inr_S_inj s kn
def permW (K : PySem.W.Frag) (l : Nat) (hl : l ≤ 3) : Wld PKn where
  Par := Addr
  C := He.ga K "PermutationWorld"
  rep := repP l hl
  At := fun p tp kd H kn => (∃ dx, H p = some (.ins (He.ga K "PermutationWorld") dx (fPerm tp kd l))) ∧ H kd = some (.dK (permK kn))
  Mu := fun kd b => b = kd
  Fo := fun _ _ => False
  keep := fun ⟨⟨dx, h1⟩, h2⟩ k n _ => ⟨⟨dx, k _ _ h1 fun m => let ⟨xs, e⟩ := n _ m; by rw [h1] at e; cases e⟩, k _ _ h2 fun m => let ⟨xs, e⟩ := n _ m; by rw [h2] at e; cases e⟩
  dict := fun ⟨_, h2⟩ e => ⟨_, e ▸ h2⟩
  lsts := fun _ h => h.elim
  inst := fun ⟨⟨dx, h1⟩, _⟩ => ⟨dx, _, h1, pk_answer _ _ _⟩
section
variable {P : Program} {w : World} {K : PySem.W.Frag} {mg : Str → Option Value} {base : Heap}
def spPermI (K : PySem.W.Frag) : Sp := fun vs H Q _ => ∃ (p dx tp : Addr) (l : Nat), vs = [.ref p, .ref tp, .int (l : Int)] ∧ H p = some (.ins (He.ga K "PermutationWorld") dx []) ∧
  ∀ kd H', H kd = none → H' p = some (.ins (He.ga K "PermutationWorld") dx (fPerm tp kd l)) → H' kd = some (.dK []) → (∀ b o, H b = some o → b ≠ p → H' b = some o) → Q .non H'
theorem sc_PermI : FnScope ["self", "tape", "l"] ["self", "tape", "l"] (defScope s_PermutationWorld_init) := C8.fnScope_by (by decide +kernel)
theorem mak_Perm (T : Tx K mg w) : C8.Mak P w K mg base 1 "PermutationWorld" (He.ga K "PermutationWorld") (spPermI K) [] := by
  refine T.i_PermutationWorld.mak sc_PermI (fun vs H Q E h => ?_) fun f cdv A outer s H vs Q E hr h => ?_
  · obtain ⟨p, dx, tp, l, rfl, _⟩ := h
    rfl
  · obtain ⟨p, dx, tp, l, rfl, hp, k⟩ := h
    refine ⟨_, pss_cons (ps_fld (pv 0) (pv 1) rfl) <| pss_cons (ps_fld (pv 0) (pv 2) rfl) <| pss_one (ps_fld (pv 0) pe_dnewK rfl), ?_⟩
    refine ⟨_, rfl, _, rfl, p, _, dx, [], rfl, hp, T.c_PermutationWorld, T.n_PermutationWorld_tape, (by show 0 < 1000; decide), ?_⟩
    refine ⟨_, rfl, _, rfl, p, _, dx, _, rfl, upd_same, T.c_PermutationWorld, T.n_PermutationWorld_l, (by show 1 < 1000; decide), fun kd hkd => ?_⟩
    have npk : p ≠ kd := ne_of_none upd_same hkd
    have hkd0 : H kd = none := by
      rw [upd_ne npk.symm, upd_ne npk.symm] at hkd
      exact hkd
    refine ⟨_, rfl, p, _, dx, _, rfl, (upd_ne npk).trans upd_same, T.c_PermutationWorld, T.n_PermutationWorld_told, (by show 2 < 1000; decide), ?_⟩
    refine k kd _ hkd0 (by rw [upd_same, pk_put]) (by rw [upd_ne npk.symm, upd_same]) fun b o e hb => ?_
    rw [upd_ne hb, upd_ne (ne_of_none e hkd0), upd_ne hb, upd_ne hb]
    exact e
abbrev nPerm : List Str := ["self", "string", "given", "left", "k", "value"]
theorem sc_permA : FnScope nPerm ["self", "string"] (defScope s_PermutationWorld_answer) := C8.fnScope_by (by decide +kernel)
theorem inV_S (v : Bs) : ∀ l : List Bs, inV (.str (S v)) (l.map fun b => V.str (S b)) = decide (v ∈ l)
  | [] => rfl
  | a :: r => by
    have h := inV_S v r
    show (eqV (.str (S a)) (.str (S v)) || inV (.str (S v)) (r.map fun b => V.str (S b))) = _
    rw [h]
    show ((S a == S v) || decide (v ∈ r)) = _
    by_cases e : v = a
    · subst e
      simp
    · have e1 : (S a == S v) = false := by
        rw [beq_eq_false_iff_ne]
        exact fun z => e (S_inj z).symm
      rw [e1, Bool.false_or]
      simp [e]
theorem flat_S (l : List Bs) : (l.map fun b => V.str (S b)).all flatV = true := by
  rw [List.all_map]
  exact List.all_eq_true.mpr fun x _ => rfl
theorem permK_snd (kn : PKn) : (permK kn).map (·.2) = (kn.map (·.2)).map fun b => V.str (S b) := by
  unfold permK
  rw [List.map_map, List.map_map]
  rfl
theorem permK_snoc (kn : PKn) (s v : Bs) (h : seek kn s = none) : putK (permK kn) (Sum.inr (S s)) (.str (S v)) = permK (kn ++ [(s, v)]) := by
  rw [putK_new _ (by rw [valV_perm, h]; rfl)]
  unfold permK
  rw [List.map_append]
  rfl
theorem seek_snoc {κ : Type} [DecidableEq κ] (k : κ) (v : Bs) : ∀ kn : List (κ × Bs), seek kn k = none → seek (kn ++ [(k, v)]) k = some v
  | [], _ => if_pos rfl
  | q :: r, h => by
    have h' : (if q.1 = k then some q.2 else seek r k) = none := h
    show (if q.1 = k then some q.2 else seek (r ++ [(k, v)]) k) = some v
    split at h'
    · cases h'
    · rename_i ne
      rw [if_neg ne]
      exact seek_snoc k v r h'
theorem ne_len (a b : Nat) : (!decide (V.int (a : Int) = V.int (b : Int))) = !decide (a = b) := by
  congr 1
  apply decide_eq_decide.mpr
  constructor
  · intro h
    have := V.int.inj h
    omega
  · intro h
    rw [h]
theorem two_pow {l : Nat} (h : l ≤ 8) : (0 : Int) < 2 ^ l ∧ (2 : Int) ^ l ≤ 256 ∧ ((2 : Int) ^ l).toNat = 2 ^ l := by
  have e : ((2 ^ l : Nat) : Int) = (2 : Int) ^ l := Int.natCast_pow 2 l
  have h1 : 2 ^ l ≤ 2 ^ 8 := Nat.pow_le_pow_right (by decide) h
  have h2 := Nat.two_pow_pos l
  have h3 : (2 : Nat) ^ 8 = 256 := by decide
  rw [h3] at h1
  rw [← e]
  refine ⟨by omega, by omega, Int.toNat_natCast _⟩
theorem met_permA (T : Tx K mg w) (l : Nat) (hl3 : l ≤ 3) : C8.Met P w K mg base 2 (He.ga K "PermutationWorld") "answer" (spAns K (permW K l hl3)) [] := by
  refine T.m_PermutationWorld_answer.met sc_permA (fun vs H Q E h => ?_) fun f cdv A outer s H vs Q E hr h => ?_
  · obtain ⟨p, tp, cl, dl, cs, ds, x, st, s, n, rfl, _⟩ := h
    rfl
  · obtain ⟨p, tp, cl, dl, cs, ds, kd, kn, z, n, rfl, ta, ⟨⟨dx, hp⟩, hk⟩, inv, hn, hds, hz, _, hok, k⟩ := h
    have hu := hu_of hr
    refine ⟨_, pss_cons (ps_if (pt_cmpR op_ne (pe_callB call_len_str rfl T.f_len PySem.boot_len (pa_cons (pv 1) pa_nil)) (pe_fld (pv 0) rfl) (nomark _)) (pss_one (ps_ret pe_str)) pss_nil) <|
      pss_cons (ps_if (pt_cmp (pc_dnotin hu (pv 1) (pe_fld (pv 0) rfl)))
        (pss_cons (ps_set (i := 2) sc_permA.nd rfl (Or.inr rfl) (pe_listVals rfl (pe_fld (pv 0) rfl) rfl T.f_list (by decide +kernel))) <|
          pss_cons (ps_setLc (i := 3) (own := [("value", 5)]) (g := gName 5) (tt := tTest (tOp (rIn K true) (tVar 5) (tVar 2))) (by rfl) sc_permA.nd rfl rfl (sw_true rfl rfl rfl (by decide +kernel))
            (pi_list (pe_lc (own := [("k", 4)]) (g := gName 4) (tt := tYes) (te := tCall spBits [] E0 (tCons (tFld K (tVar 0) "l") (tCons (tVar 4) tNil))) rfl sc_permA.nd (pi_range1 rfl T.f_range (pa_cons (pe_op op_shl pe_int (pe_fld (pv 0) rfl)) pa_nil)) (blkOk_by (N := nPerm) (sc := defScope s_PermutationWorld_answer) (by decide +kernel))
              (fun _ _ _ _ _ => pg_name (i := 4) sc_permA.nd rfl (Or.inl rfl)) (fun _ _ _ _ _ => pts_nil) (fun _ _ _ _ _ => C8.pe_c (cal_bits T) hr (by decide) rfl (pa_cons (pe_fld (pv 0) rfl) (pa_cons (pv 4) pa_nil)))))
            (blkOk_by (N := nPerm) (sc := defScope s_PermutationWorld_answer) (by decide +kernel)) (fun _ _ _ _ _ => pg_name (i := 5) sc_permA.nd rfl (Or.inl rfl)) (fun _ _ _ _ _ => pts_one (pt_cmpR op_notIn_seq (pv 5) (pv 2) (by rfl))) (fun _ _ _ _ _ => pv 5)) <|
          pss_one (ps_dput hu (pe_fld (pv 0) rfl) (pv 1) (pe_ix ix_list (pv 3) (C8.pe_mt (met_draw T) hr (by decide) (pe_fld (pv 0) rfl) (pa_cons (pe_callB call_len_seq rfl T.f_len PySem.boot_len (pa_cons (pv 3) pa_nil)) pa_nil)) (fun _ _ => rfl)) rfl)) pss_nil) <|
      pss_one (ps_ret (pe_dget hu (pe_fld (pv 0) rfl) (pv 1) (fun _ _ => rfl))), ?_⟩
    refine ⟨_, rfl, _, rfl, len_small hz (by decide), _, rfl, p, _, dx, _, _, rfl, hp, T.c_PermutationWorld, T.n_PermutationWorld_l, pk_l _ _ _, rfl, _, rfl, ?_⟩
    rw [S_len, ne_len]
    have hgo : (permW K l hl3).rep.go kn z = goP l kn z := rfl
    rw [hgo] at hok k
    have enil : ds ++ [] = ds := List.append_nil ds
    by_cases hzl : z.length = l
    · rw [decide_eq_true hzl]
      refine iteF ?_
      refine ⟨_, rfl, _, rfl, p, _, dx, _, _, rfl, hp, T.c_PermutationWorld, T.n_PermutationWorld_told, pk_told _ _ _, kd, _, rfl, DGet.k (k := Sum.inr (S z)) hk, _, rfl, ?_⟩
      rw [valV_perm]
      cases hs : seek kn z with
      | some v =>
        have hg : goP l kn z = .ret (v, kn) := by unfold goP; rw [if_pos hzl, hs]
        rw [hg] at hok k
        refine iteF ?_
        refine ⟨_, rfl, p, _, dx, _, _, rfl, hp, T.c_PermutationWorld, T.n_PermutationWorld_told, pk_told _ _ _, _, rfl, kd, V.str (S v), rfl, ?_, ?_⟩
        · have e := DGet.k (k := Sum.inr (S z)) hk
          rw [valV_perm, hs] at e
          exact e
        · exact k H (by show TapeAt K H tp cl dl cs (ds ++ []); rw [enil]; exact ta) ⟨⟨dx, hp⟩, hk⟩ Keep.refl Tups.refl
      | none =>
        have hg : goP l kn z = .draw (freeB l kn).length fun c => .ret ((freeB l kn).getD c.toNat [], kn ++ [(z, (freeB l kn).getD c.toNat [])]) := by unfold goP; rw [if_pos hzl, hs]
        rw [hg] at hok k
        obtain ⟨c0, c1, _⟩ := hok
        obtain ⟨b1, b2, b3⟩ := two_pow (show l ≤ 8 by omega)
        refine iteT ?_
        -- given
        refine ⟨_, rfl, p, _, dx, _, _, rfl, hp, T.c_PermutationWorld, T.n_PermutationWorld_told, pk_told _ _ _, kd, _, rfl, hk, fun g hg0 => ?_⟩
        rw [permK_snd]
        have s1 : Same H (upd H g (.lst ((kn.map (·.2)).map fun b => V.str (S b)))) := same_upd hg0
        generalize eH1 : upd H g (.lst ((kn.map (·.2)).map fun b => V.str (S b))) = H1 at s1 ⊢
        have hg1 : H1 g = some (.lst ((kn.map (·.2)).map fun b => V.str (S b))) := by rw [← eH1, upd_same]
        -- all strings
        refine ⟨_, rfl, p, _, dx, _, _, rfl, s1 _ _ hp, T.c_PermutationWorld, T.n_PermutationWorld_l, pk_l _ _ _, _, _, rfl, rfl, ⟨by omega, by omega, by decide⟩, (2 : Int) ^ l, congrArg (fun z => [V.int z]) (shl_eq l), by omega, by omega, fun D hD => ?_⟩
        refine lc_range (lo := 0) (n := ((2 : Int) ^ l).toNat) (fun i H' => Same H1 H' ∧ H1 D = none ∧ H' D = some (.lst (((List.range i).map fun (k : Nat) => bitsB l (k : Int)).map fun b => V.str (S b)))) ⟨same_upd hD, hD, upd_same⟩ ?_ ?_
        · rintro i H' hi ⟨s2, hD0, hL⟩
          rw [b3] at hi
          refine ⟨rfl, _, rfl, p, _, dx, _, _, rfl, s2 _ _ (s1 _ _ hp), T.c_PermutationWorld, T.n_PermutationWorld_l, pk_l _ _ _, _, rfl, l, 0 + (i : Int), rfl, by omega, fun H2 s3 => ?_⟩
          refine ⟨_, s3 _ _ hL, by rw [List.length_map, List.length_map, List.length_range]; exact small5 (by omega), fun q o e => ?_, hD0, ?_⟩
          · rw [upd_ne (ne_of_none e hD0)]
            exact s3 _ _ (s2 _ _ e)
          · rw [upd_same, List.range_succ, List.map_append, List.map_append, Int.zero_add]
            rfl
        rintro H2 ⟨s2, _, hL⟩
        rw [b3] at hL
        -- the free ones
        refine ⟨D, rfl, ⟨_, SqL.of hL⟩, fun D2 hD2 => ?_⟩
        refine lc_list (K := K) (a := D) (xs := (allB l).map fun b => V.str (S b)) (fun i H' => Same H2 H' ∧ H2 D2 = none ∧ H' D2 = some (.lst ((((allB l).take i).filter fun v => !decide (v ∈ kn.map (·.2))).map fun b => V.str (S b)))) ⟨same_upd hD2, hD2, upd_same⟩ (fun i H' _ z => SqL.of (z.1 _ _ hL)) ?_ ?_
        · rintro i x H' hx ⟨s3, hD0, hL2⟩
          rw [List.getElem?_map] at hx
          obtain ⟨v, hv, rfl⟩ := Option.map_eq_some_iff.mp hx
          refine ⟨rfl, _, rfl, _, rfl, g, _, rfl, .inl (SqL.of (s3 _ _ (s2 _ _ hg1))), rfl, flat_S _, _, rfl, ?_⟩
          have ev : (if true = true then !inV (V.str (S v)) ((kn.map (·.2)).map fun b => V.str (S b)) else inV (V.str (S v)) ((kn.map (·.2)).map fun b => V.str (S b))) = !decide (v ∈ kn.map (·.2)) := by
            rw [if_pos rfl, inV_S]
          rw [ev]
          have hle : (((allB l).take i).filter fun v => !decide (v ∈ kn.map (·.2))).length ≤ 256 := by
            refine Nat.le_trans (List.length_filter_le _ _) ?_
            rw [List.length_take, allB_length]
            omega
          have mid : ∀ acc : List Bs, acc = ((allB l).take (i + 1)).filter (fun v => !decide (v ∈ kn.map (·.2))) → Same H2 (upd H' D2 (.lst (acc.map fun b => V.str (S b)))) := fun acc _ q o e => by
            rw [upd_ne (ne_of_none e hD0)]
            exact s3 _ _ e
          by_cases hm : v ∈ kn.map (·.2)
          · rw [decide_eq_true hm]
            refine iteF ?_
            refine ⟨s3, hD0, ?_⟩
            rw [hL2, take_snoc hv, List.filter_append]
            simp [hm]
          · rw [decide_eq_false hm]
            refine iteT ?_
            refine ⟨_, rfl, _, hL2, by rw [List.length_map]; exact small5 (by omega), fun q o e => ?_, hD0, ?_⟩
            · rw [upd_ne (ne_of_none e hD0)]
              exact s3 _ _ e
            · rw [upd_same, take_snoc hv, List.filter_append, List.map_append]
              simp [hm]
        rintro H3 ⟨s3, hD20, hL2⟩
        have ef : (((allB l).take ((allB l).map fun b => V.str (S b)).length).filter fun v => !decide (v ∈ kn.map (·.2))) = freeB l kn := by
          rw [List.length_map, List.take_length]
          rfl
        rw [ef] at hL2
        -- the draw
        have s4 : Same H H3 := (s1.trans s2).trans s3
        have ta3 := ta.same s4
        obtain ⟨dxT, hT⟩ := ta3.ob
        have nDd : D2 ≠ dl := by
          obtain ⟨xs, e⟩ := (ta.same (s1.trans s2)).dlst
          exact (ne_of_none e hD20).symm
        refine ⟨_, rfl, _, rfl, p, _, dx, _, _, rfl, s4 _ _ hp, T.c_PermutationWorld, T.n_PermutationWorld_tape, pk_tape _ _ _, tp, dxT, _, rfl, hT, lk_draw _ _, _, rfl, D2, _, rfl, .inl (SqL.of hL2), ?_⟩
        refine ⟨tp, cl, dl, cs, ds, ((freeB l kn).length : Int), congrArg (fun z : Nat => [V.ref tp, V.int (z : Int)]) (List.length_map _), ta3, by omega, c0, c1, fun H4 t4 k4 tu4 => ?_⟩
        obtain ⟨e1, e2⟩ := free_len (l := l) (kn := kn) c0 c1
        have hL4 := k4 _ _ hL2 nDd
        obtain ⟨dsl, hdl⟩ := ta3.dlst
        have hp4 := k4 _ _ (s4 _ _ hp) (ne_of (s4 _ _ hp) hdl (by intro q; cases q))
        have hk4 := k4 _ _ (s4 _ _ hk) (ne_of (s4 _ _ hk) hdl (by intro q; cases q))
        have il : kn.length ≤ 1000 := Nat.le_trans inv.len hn
        refine ⟨D2, _, _, _, rfl, rfl, SqL.of hL4, at_of (j := (oTold cs ds.length ((freeB l kn).length : Int)).toNat) (by omega) (by rw [List.getElem?_map, e2]; rfl), ?_⟩
        refine ⟨_, rfl, p, _, dx, _, _, rfl, hp4, T.c_PermutationWorld, T.n_PermutationWorld_told, pk_told _ _ _, _, rfl, kd, _, rfl, DPut.k (k := Sum.inr (S z)) hk4 (by unfold permK; rw [List.length_map]; exact small5 (by omega)), ?_⟩
        rw [permK_snoc _ _ _ hs]
        have npk : p ≠ kd := ne_of hp4 hk4 (by intro q; cases q)
        have hk5 : (upd H4 kd (.dK (permK (kn ++ [(z, (freeB l kn).getD (oTold cs ds.length ((freeB l kn).length : Int)).toNat [])])))) kd = some (.dK (permK (kn ++ [(z, (freeB l kn).getD (oTold cs ds.length ((freeB l kn).length : Int)).toNat [])]))) := upd_same
        refine ⟨_, rfl, p, _, dx, _, _, rfl, (upd_ne npk).trans hp4, T.c_PermutationWorld, T.n_PermutationWorld_told, pk_told _ _ _, _, rfl, kd, _, rfl, by
          have e := DGet.k (k := Sum.inr (S z)) hk5
          rw [valV_perm, seek_snoc _ _ _ hs] at e
          exact e, ?_⟩
        have tu5 : Tups H (upd H4 kd (.dK (permK (kn ++ [(z, (freeB l kn).getD (oTold cs ds.length ((freeB l kn).length : Int)).toNat [])])))) := fun a xs e => by
          have e4 := tu4 _ _ (s4 _ _ e)
          rw [upd_ne (ne_of e4 hk4 (by intro q; cases q))]
          exact e4
        refine k _ ?_ ⟨⟨dx, (upd_ne npk).trans hp4⟩, hk5⟩ (fun b o e nb => ?_) tu5
        · refine t4.keep (M := fun b => b = kd) (keep_upd rfl) (fun a xs e => ?_) (fun q => ?_) (fun q => ?_) (fun q => ?_)
          · rw [upd_ne (ne_of e hk4 (by intro q; cases q))]
            exact e
          · obtain ⟨_, e⟩ := t4.ob
            rw [q, hk4] at e
            cases e
          · have e := t4.ch
            rw [q, hk4] at e
            cases e
          · obtain ⟨_, e⟩ := t4.dlst
            rw [q, hk4] at e
            cases e
        · rw [upd_ne fun q => nb (.inr q)]
          exact k4 _ _ (s4 _ _ e) fun q => nb (.inl q)
    · rw [decide_eq_false hzl]
      refine iteT ?_
      have hg : goP l kn z = .ret ([], kn) := by unfold goP; rw [if_neg hzl]
      rw [hg] at k
      have := k H (by show TapeAt K H tp cl dl cs (ds ++ []); rw [enil]; exact ta) ⟨⟨dx, hp⟩, hk⟩ Keep.refl Tups.refl
      rw [show S ((Tr.ret ([], kn) : Tr (Bs × PKn)).run (oTold cs) ds.length).1.1 = ("" : Str) from S_nil] at this
      exact this
end
end Bb
namespace Bb
open PySem PySem.Spec PyProof.Rows L2
/-! ## Any function, drawn as it is asked -/
def fAny (tp kd : Addr) (h : Nat) : List (Str × V) := [("tape", .ref tp), ("l", .int (h : Int)), ("m", .int (h : Int)), ("told", .ref kd)]
theorem ak_tape (tp kd : Addr) (h : Nat) : (fAny tp kd h).lookup ("tape" : Str) = some (.ref tp) := by kernel_rfl
theorem ak_l (tp kd : Addr) (h : Nat) : (fAny tp kd h).lookup ("l" : Str) = some (.int (h : Int)) := by kernel_rfl
theorem ak_m (tp kd : Addr) (h : Nat) : (fAny tp kd h).lookup ("m" : Str) = some (.int (h : Int)) := by kernel_rfl
theorem ak_told (tp kd : Addr) (h : Nat) : (fAny tp kd h).lookup ("told" : Str) = some (.ref kd) := by kernel_rfl
theorem ak_answer (tp kd : Addr) (h : Nat) : (fAny tp kd h).lookup ("answer" : Str) = none := by kernel_rfl
theorem ak_put (tp kd : Addr) (h : Nat) : putF "told" (.ref kd) (putF "m" (.int (h : Int)) (putF "l" (.int (h : Int)) (putF "tape" (.ref tp) []))) = fAny tp kd h := by kernel_rfl
def anyK (t : Nat) (kn : SKn) : List (Key × V) := (kn.filter fun q => decide (q.1.1 = t)).map fun q => (Sum.inr (S q.1.2), V.str (S q.2))
theorem valV_any2 (t : Nat) (r : Bs) : ∀ kn : SKn, valV (anyK t kn) (Sum.inr (S r)) = (seek kn (t, r)).map fun v => V.str (S v)
  | [] => rfl
  | q :: k => by
    have ih := valV_any2 t r k
    unfold anyK at ih ⊢
    show _ = Option.map _ (if q.1 = (t, r) then some q.2 else seek k (t, r))
    by_cases h1 : q.1.1 = t
    · rw [List.filter_cons, if_pos (decide_eq_true h1), List.map_cons]
      by_cases h2 : q.1.2 = r
      · rw [valV_pos (by rw [h2]), if_pos (Prod.ext h1 h2)]
        rfl
      · rw [valV_neg fun e => h2 (inr_S_inj _ _ e), ih, if_neg fun e => h2 (congrArg Prod.snd e)]
    · rw [List.filter_cons, if_neg (by simp [h1]), ih, if_neg fun e => h1 (congrArg Prod.fst e)]
theorem anyK_same (t : Nat) (kn : SKn) (r v : Bs) : anyK t (kn ++ [((t, r), v)]) = anyK t kn ++ [(Sum.inr (S r), V.str (S v))] := by
  unfold anyK
  rw [List.filter_append, List.map_append]
  simp
theorem anyK_other (t u : Nat) (kn : SKn) (r v : Bs) (h : u ≠ t) : anyK u (kn ++ [((t, r), v)]) = anyK u kn := by
  unfold anyK
  rw [List.filter_append, List.map_append]
  simp [Ne.symm h]
theorem anyK_go (h t u : Nat) (kn : SKn) (r : Bs) (o : Ora) (i : Nat) (hu : u ≠ t) : anyK u ((goF h t kn r).run o i).1.2 = anyK u kn := by
  unfold goF
  cases seek kn (t, r) with
  | some v => rfl
  | none => exact anyK_other t u kn r _ hu
structure AnyAt (K : PySem.W.Frag) (H : Hp) (f tp kd : Addr) (h t : Nat) (kn : SKn) : Prop where
  ob : ∃ dx, H f = some (.ins (He.ga K "AnyWorld") dx (fAny tp kd h))
  dc : H kd = some (.dK (anyK t kn))
section
variable {P : Program} {w : World} {K : PySem.W.Frag} {mg : Str → Option Value} {base : Heap}
def spAnyI (K : PySem.W.Frag) : Sp := fun vs H Q _ => ∃ (p dx tp : Addr) (h : Nat), vs = [.ref p, .ref tp, .int (h : Int), .int (h : Int)] ∧ H p = some (.ins (He.ga K "AnyWorld") dx []) ∧
  ∀ kd H', H kd = none → H' p = some (.ins (He.ga K "AnyWorld") dx (fAny tp kd h)) → H' kd = some (.dK []) → (∀ b o, H b = some o → b ≠ p → H' b = some o) → Q .non H'
theorem sc_AnyI : FnScope ["self", "tape", "l", "m"] ["self", "tape", "l", "m"] (defScope s_AnyWorld_init) := C8.fnScope_by (by decide +kernel)
theorem mak_Any (T : Tx K mg w) : C8.Mak P w K mg base 1 "AnyWorld" (He.ga K "AnyWorld") (spAnyI K) [] := by
  refine T.i_AnyWorld.mak sc_AnyI (fun vs H Q E h => ?_) fun f cdv A outer s H vs Q E hr h => ?_
  · obtain ⟨p, dx, tp, l, rfl, _⟩ := h
    rfl
  · obtain ⟨p, dx, tp, l, rfl, hp, k⟩ := h
    refine ⟨_, pss_cons (ps_fld (pv 0) (pv 1) rfl) <| pss_cons (ps_fld (pv 0) (pv 2) rfl) <| pss_cons (ps_fld (pv 0) (pv 3) rfl) <| pss_one (ps_fld (pv 0) pe_dnewK rfl), ?_⟩
    refine ⟨_, rfl, _, rfl, p, _, dx, [], rfl, hp, T.c_AnyWorld, T.n_AnyWorld_tape, (by show 0 < 1000; decide), ?_⟩
    refine ⟨_, rfl, _, rfl, p, _, dx, _, rfl, upd_same, T.c_AnyWorld, T.n_AnyWorld_l, (by show 1 < 1000; decide), ?_⟩
    refine ⟨_, rfl, _, rfl, p, _, dx, _, rfl, upd_same, T.c_AnyWorld, T.n_AnyWorld_m, (by show 2 < 1000; decide), fun kd hkd => ?_⟩
    have npk : p ≠ kd := ne_of_none upd_same hkd
    have hkd0 : H kd = none := by
      rw [upd_ne npk.symm, upd_ne npk.symm, upd_ne npk.symm] at hkd
      exact hkd
    refine ⟨_, rfl, p, _, dx, _, rfl, (upd_ne npk).trans upd_same, T.c_AnyWorld, T.n_AnyWorld_told, (by show 3 < 1000; decide), ?_⟩
    refine k kd _ hkd0 (by rw [upd_same, ak_put]) (by rw [upd_ne npk.symm, upd_same]) fun b o e hb => ?_
    rw [upd_ne hb, upd_ne (ne_of_none e hkd0), upd_ne hb, upd_ne hb, upd_ne hb]
    exact e
def spAnyA (K : PySem.W.Frag) : Sp := fun vs H Q _ => ∃ (f tp cl dl kd : Addr) (cs : List Int) (ds : Dws) (h t : Nat) (kn : SKn) (r : Bs), vs = [.ref f, .str (S r)] ∧ TapeAt K H tp cl dl cs ds ∧ AnyAt K H f tp kd h t kn ∧ r.length = h ∧ h ≤ 8 ∧ kn.length ≤ 5000 ∧ ds.length ≤ 5000 ∧
  (goF h t kn r).ok (oTold cs) ds.length ∧ ∀ H', TapeAt K H' tp cl dl cs (ds ++ ((goF h t kn r).run (oTold cs) ds.length).2) → H' kd = some (.dK (anyK t ((goF h t kn r).run (oTold cs) ds.length).1.2)) →
    Keep (fun b => b = dl ∨ b = kd) H H' → Tups H H' → Q (.str (S ((goF h t kn r).run (oTold cs) ds.length).1.1)) H'
theorem sc_anyA : FnScope ["self", "string"] ["self", "string"] (defScope s_AnyWorld_answer) := C8.fnScope_by (by decide +kernel)
theorem anyK_len (t : Nat) (kn : SKn) : (anyK t kn).length ≤ kn.length := by
  unfold anyK
  rw [List.length_map]
  exact List.length_filter_le _ _
theorem met_anyA (T : Tx K mg w) : C8.Met P w K mg base 3 (He.ga K "AnyWorld") "answer" (spAnyA K) [] := by
  refine T.m_AnyWorld_answer.met sc_anyA (fun vs H Q E h => ?_) fun f cdv A outer s H vs Q E hr h => ?_
  · obtain ⟨f, tp, cl, dl, kd, cs, ds, h, t, kn, r, rfl, _⟩ := h
    rfl
  · obtain ⟨f, tp, cl, dl, kd, cs, ds, h, t, kn, r, rfl, ta, ⟨⟨dx, hp⟩, hk⟩, hrl, hh, hkn, hds, hok, k⟩ := h
    have hu := hu_of hr
    refine ⟨_, pss_cons (ps_if (pt_cmpR op_ne (pe_callB call_len_str rfl T.f_len PySem.boot_len (pa_cons (pv 1) pa_nil)) (pe_fld (pv 0) rfl) (nomark _)) (pss_one (ps_ret pe_str)) pss_nil) <|
      pss_cons (ps_if (pt_cmp (pc_dnotin hu (pv 1) (pe_fld (pv 0) rfl)))
        (pss_one (ps_dput hu (pe_fld (pv 0) rfl) (pv 1) (C8.pe_mt (met_string T) hr (by decide) (pe_fld (pv 0) rfl) (pa_cons (pe_fld (pv 0) rfl) pa_nil)) rfl)) pss_nil) <|
      pss_one (ps_ret (pe_dget hu (pe_fld (pv 0) rfl) (pv 1) (fun _ _ => rfl))), ?_⟩
    refine ⟨_, rfl, _, rfl, len_small (show r.length ≤ 8 by omega) (by decide), _, rfl, f, _, dx, _, _, rfl, hp, T.c_AnyWorld, T.n_AnyWorld_l, ak_l _ _ _, rfl, _, rfl, ?_⟩
    rw [S_len, ne_len, decide_eq_true hrl]
    refine iteF ?_
    refine ⟨_, rfl, _, rfl, f, _, dx, _, _, rfl, hp, T.c_AnyWorld, T.n_AnyWorld_told, ak_told _ _ _, kd, _, rfl, DGet.k (k := Sum.inr (S r)) hk, _, rfl, ?_⟩
    rw [valV_any2]
    have enil : ds ++ [] = ds := List.append_nil ds
    cases hs : seek kn (t, r) with
    | some v =>
      have hg : goF h t kn r = .ret (v, kn) := by unfold goF; rw [hs]
      rw [hg] at hok k
      refine iteF ?_
      refine ⟨_, rfl, f, _, dx, _, _, rfl, hp, T.c_AnyWorld, T.n_AnyWorld_told, ak_told _ _ _, _, rfl, kd, V.str (S v), rfl, ?_, ?_⟩
      · have e := DGet.k (k := Sum.inr (S r)) hk
        rw [valV_any2, hs] at e
        exact e
      · exact k H (by show TapeAt K H tp cl dl cs (ds ++ []); rw [enil]; exact ta) hk Keep.refl Tups.refl
    | none =>
      have hg : goF h t kn r = .draw (2 ^ h) fun c => .ret (bitsB h c, kn ++ [((t, r), bitsB h c)]) := by unfold goF; rw [hs]
      rw [hg] at hok k
      obtain ⟨c0, c1, _⟩ := hok
      refine iteT ?_
      obtain ⟨dxT, hT⟩ := ta.ob
      refine ⟨_, rfl, f, _, dx, _, _, rfl, hp, T.c_AnyWorld, T.n_AnyWorld_tape, ak_tape _ _ _, tp, dxT, _, rfl, hT, lk_string _ _, _, rfl, f, _, dx, _, _, rfl, hp, T.c_AnyWorld, T.n_AnyWorld_m, ak_m _ _ _, ?_⟩
      refine ⟨tp, cl, dl, cs, ds, h, rfl, ta, by omega, by omega, c0, c1, fun H4 t4 k4 tu4 => ?_⟩
      obtain ⟨dsl, hdl⟩ := ta.dlst
      have hp4 := k4 _ _ hp (ne_of hp hdl (by intro q; cases q))
      have hk4 := k4 _ _ hk (ne_of hk hdl (by intro q; cases q))
      have hl4 := anyK_len t kn
      refine ⟨_, rfl, f, _, dx, _, _, rfl, hp4, T.c_AnyWorld, T.n_AnyWorld_told, ak_told _ _ _, _, rfl, kd, _, rfl, DPut.k (k := Sum.inr (S r)) hk4 (small5 (by omega)), ?_⟩
      have eput : putK (anyK t kn) (Sum.inr (S r)) (.str (S (bitsB h (oTold cs ds.length (2 ^ h))))) = anyK t (kn ++ [((t, r), bitsB h (oTold cs ds.length (2 ^ h)))]) := by
        rw [putK_new _ (by rw [valV_any2, hs]; rfl), anyK_same]
      rw [eput]
      have npk : f ≠ kd := ne_of hp4 hk4 (by intro q; cases q)
      have hk5 : (upd H4 kd (.dK (anyK t (kn ++ [((t, r), bitsB h (oTold cs ds.length (2 ^ h)))])))) kd = some (.dK (anyK t (kn ++ [((t, r), bitsB h (oTold cs ds.length (2 ^ h)))]))) := upd_same
      refine ⟨_, rfl, f, _, dx, _, _, rfl, (upd_ne npk).trans hp4, T.c_AnyWorld, T.n_AnyWorld_told, ak_told _ _ _, _, rfl, kd, _, rfl, by
        have e := DGet.k (k := Sum.inr (S r)) hk5
        rw [valV_any2, seek_snoc _ _ _ hs] at e
        exact e, ?_⟩
      have tu5 : Tups H (upd H4 kd (.dK (anyK t (kn ++ [((t, r), bitsB h (oTold cs ds.length (2 ^ h)))])))) := fun a xs e => by
        have e4 := tu4 _ _ e
        rw [upd_ne (ne_of e4 hk4 (by intro q; cases q))]
        exact e4
      refine k _ ?_ hk5 (fun b o e nb => ?_) tu5
      · refine t4.keep (M := fun b => b = kd) (keep_upd rfl) (fun a xs e => ?_) (fun q => ?_) (fun q => ?_) (fun q => ?_)
        · rw [upd_ne (ne_of e hk4 (by intro q; cases q))]
          exact e
        · obtain ⟨_, e⟩ := t4.ob
          rw [q, hk4] at e
          cases e
        · have e := t4.ch
          rw [q, hk4] at e
          cases e
        · obtain ⟨_, e⟩ := t4.dlst
          rw [q, hk4] at e
          cases e
      · rw [upd_ne fun q => nb (.inr q)]
        exact k4 _ _ e fun q => nb (.inl q)
end
/-! ## The swaps -/
def fSwap (fl : Addr) (h : Nat) : List (Str × V) := [("h", .int (h : Int)), ("functions", .ref fl)]
theorem wk_h (fl : Addr) (h : Nat) : (fSwap fl h).lookup ("h" : Str) = some (.int (h : Int)) := by kernel_rfl
theorem wk_fun (fl : Addr) (h : Nat) : (fSwap fl h).lookup ("functions" : Str) = some (.ref fl) := by kernel_rfl
theorem wk_answer (fl : Addr) (h : Nat) : (fSwap fl h).lookup ("answer" : Str) = none := by kernel_rfl
theorem wk_put (fl : Addr) (h : Nat) : putF "functions" (.ref fl) (putF "h" (.int (h : Int)) []) = fSwap fl h := by kernel_rfl
/-- the rounds' functions: the list, the instances, their dicts -/
structure SwPar where
  fl : Addr
  fs : List Addr
  kds : List Addr
structure SwapAt (K : PySem.W.Frag) (p tp : Addr) (h rounds : Nat) (x : SwPar) (H : Hp) (kn : SKn) : Prop where
  ob : ∃ dx, H p = some (.ins (He.ga K "SwapWorld") dx (fSwap x.fl h))
  ls : H x.fl = some (.lst (x.fs.map V.ref))
  lf : x.fs.length = rounds
  lk : x.kds.length = rounds
  nd : x.kds.Nodup
  at_ : ∀ (t : Nat) (f kd : Addr), x.fs[t]? = some f → x.kds[t]? = some kd → AnyAt K H f tp kd h t kn
theorem SwapAt.kd {K : PySem.W.Frag} {p tp : Addr} {h rounds : Nat} {x : SwPar} {H : Hp} {kn : SKn} (a : SwapAt K p tp h rounds x H kn) {b : Addr} (hb : b ∈ x.kds) : ∃ kvs, H b = some (.dK kvs) := by
  obtain ⟨t, ht, e⟩ := List.mem_iff_getElem.mp hb
  have hf : t < x.fs.length := by rw [a.lf, ← a.lk]; exact ht
  exact ⟨_, (a.at_ t x.fs[t] b (List.getElem?_eq_getElem hf) (by rw [List.getElem?_eq_getElem ht, e])).dc⟩
def swapW (K : PySem.W.Frag) (h rounds : Nat) (hh : h ≤ 2) (hr : rounds ≤ 4) : Wld SKn where
  Par := SwPar
  C := He.ga K "SwapWorld"
  rep := repS h rounds hh hr
  At := fun p tp x H kn => SwapAt K p tp h rounds x H kn
  Mu := fun x b => b ∈ x.kds
  Fo := fun x b => b = x.fl
  keep := fun a k n fo => by
    obtain ⟨⟨dx, h1⟩, h2, l1, l2, nd, h3⟩ := a
    refine ⟨⟨dx, k _ _ h1 fun m => ?_⟩, k _ _ h2 (fo _ rfl), l1, l2, nd, fun t f kd e1 e2 => ?_⟩
    · obtain ⟨xs, e⟩ := n _ m
      rw [h1] at e
      cases e
    · obtain ⟨⟨dx, g1⟩, g2⟩ := h3 t f kd e1 e2
      refine ⟨⟨dx, k _ _ g1 fun m => ?_⟩, k _ _ g2 fun m => ?_⟩
      · obtain ⟨xs, e⟩ := n _ m
        rw [g1] at e
        cases e
      · obtain ⟨xs, e⟩ := n _ m
        rw [g2] at e
        cases e
  dict := fun a hb => a.kd hb
  lsts := fun a hb => ⟨_, hb ▸ a.ls⟩
  inst := fun a => let ⟨dx, h1⟩ := a.ob; ⟨dx, _, h1, wk_answer _ _⟩
end Bb
namespace Bb
open PySem PySem.Spec PyProof.Rows L2
section
variable {P : Program} {w : World} {K : PySem.W.Frag} {mg : Str → Option Value} {base : Heap}
/-! ## SwapWorld is made -/
def spSwapI (K : PySem.W.Frag) : Sp := fun vs H Q _ => ∃ (p dx tp : Addr) (h rounds : Nat), vs = [.ref p, .ref tp, .int (h : Int), .int (rounds : Int)] ∧ H p = some (.ins (He.ga K "SwapWorld") dx []) ∧ rounds ≤ 4 ∧
  ∀ (x : SwPar) H', H x.fl = none → (∀ b, b ∈ x.kds → H b = none) → SwapAt K p tp h rounds x H' [] → (∀ b o, H b = some o → b ≠ p → H' b = some o) → Q .non H'
abbrev nSwapI : List Str := ["self", "tape", "h", "rounds", "_"]
theorem sc_SwapI : FnScope nSwapI ["self", "tape", "h", "rounds"] (defScope s_SwapWorld_init) := C8.fnScope_by (by decide +kernel)
theorem get_snoc {α : Type} {l : List α} {a b : α} {i : Nat} (h : (l ++ [a])[i]? = some b) : (i < l.length ∧ l[i]? = some b) ∨ (i = l.length ∧ b = a) := by
  by_cases hi : i < l.length
  · rw [List.getElem?_append_left hi] at h
    exact .inl ⟨hi, h⟩
  · have hi2 : i = l.length := by
      have := (List.getElem?_eq_some_iff.mp h).1
      rw [List.length_append] at this
      simp at this
      omega
    rw [hi2, List.getElem?_append_right (Nat.le_refl _), Nat.sub_self] at h
    exact .inr ⟨hi2, (Option.some.inj h).symm⟩
theorem mak_Swap (T : Tx K mg w) : C8.Mak P w K mg base 3 "SwapWorld" (He.ga K "SwapWorld") (spSwapI K) [] := by
  refine T.i_SwapWorld.mak sc_SwapI (fun vs H Q E h => ?_) fun f cdv A outer s H vs Q E hr h => ?_
  · obtain ⟨p, dx, tp, h, rounds, rfl, _⟩ := h
    rfl
  · obtain ⟨p, dx, tp, h, rounds, rfl, hp, hr4, k⟩ := h
    refine ⟨_, pss_cons (ps_fld (pv 0) (pv 2) rfl) <|
      pss_one (ps_fld (pv 0) (pe_lc (own := [("_", 4)]) (g := gName 4) (tt := tYes) (te := tMake (He.ga K "AnyWorld") (spAnyI K) [] C8.E0 (tCons (tVar 1) (tCons (tVar 2) (tCons (tVar 2) tNil)))) rfl sc_SwapI.nd (pi_range1 rfl T.f_range (pa_cons (pv 3) pa_nil))
        (blkOk_by (N := nSwapI) (sc := defScope s_SwapWorld_init) (by decide +kernel)) (fun _ _ _ _ _ => pg_name (i := 4) sc_SwapI.nd rfl (Or.inl rfl)) (fun _ _ _ _ _ => pts_nil)
        (fun _ _ _ _ _ => C8.pe_mk (mak_Any T) hr (by decide) rfl (pa_cons (pv 1) (pa_cons (pv 2) (pa_cons (pv 2) pa_nil))))) rfl), ?_⟩
    refine ⟨_, rfl, _, rfl, p, _, dx, [], rfl, hp, T.c_SwapWorld, T.n_SwapWorld_h, (by show 0 < 1000; decide), ?_⟩
    generalize eH1 : upd H p (.ins (He.ga K "SwapWorld") dx (putF "h" (.int (h : Int)) [])) = H1
    have hp1 : H1 p = some (.ins (He.ga K "SwapWorld") dx (putF "h" (.int (h : Int)) [])) := by rw [← eH1, upd_same]
    refine ⟨_, rfl, (rounds : Int), rfl, by omega, by omega, fun D hD => ?_⟩
    have npD : p ≠ D := ne_of_none hp1 hD
    refine lc_range (lo := 0) (n := ((rounds : Int)).toNat) (fun i H' => Same H1 H' ∧ ∃ fs kds : List Addr, H' D = some (.lst (fs.map V.ref)) ∧ fs.length = i ∧ kds.length = i ∧ kds.Nodup ∧ (∀ kd, kd ∈ kds → H' kd ≠ none ∧ H kd = none) ∧
        ∀ (t : Nat) (f kd : Addr), fs[t]? = some f → kds[t]? = some kd → AnyAt K H' f tp kd h t []) ⟨same_upd hD, [], [], upd_same, rfl, rfl, List.nodup_nil, (fun _ hm => nomatch hm), (fun t f kd e _ => by simp at e)⟩ ?_ ?_
    · rintro i H' hi ⟨s1, fs, kds, hL, lf, lk, nd, hne, hat⟩
      refine ⟨rfl, _, rfl, _, rfl, _, rfl, fun x dy nx ndy nxy => ⟨x, dy, tp, h, rfl, upd_same, fun kd H2 hkd e1 e2 kp => ⟨rfl, ?_⟩⟩⟩
      have s2 : Same H' H2 := Same.made nx ndy kp
      have nDx : D ≠ x := ne_of_none hL nx
      have hkd0 : H' kd = none := (same_two (C := x) nx ndy).free hkd
      have hD2 := s2 _ _ hL
      have s3 : ∀ b o, H' b = some o → b ≠ D → (upd H2 D (.lst (fs.map V.ref ++ [.ref x]))) b = some o := fun b o e hb => by
        rw [upd_ne hb]
        exact s2 _ _ e
      refine ⟨_, hD2, by rw [List.length_map, lf]; exact small5 (by omega), fun b o e => s3 b o (s1 _ _ e) (ne_of_none e hD), fs ++ [x], kds ++ [kd], ?_, ?_, ?_, ?_, ?_, ?_⟩
      · rw [upd_same, List.map_append]
        rfl
      · rw [List.length_append, lf]
        rfl
      · rw [List.length_append, lk]
        rfl
      · rw [List.nodup_append]
        refine ⟨nd, by simp, fun a ha b hb => ?_⟩
        have eb : b = kd := by simpa using hb
        rw [eb]
        rintro rfl
        exact (hne _ ha).1 hkd0
      · intro q hq
        rcases List.mem_append.mp hq with z | z
        · refine ⟨?_, (hne q z).2⟩
          cases e : H' q with
          | none => exact absurd e (hne q z).1
          | some o =>
            by_cases hqD : q = D
            · rw [hqD, upd_same]
              exact fun z => nomatch z
            · rw [s3 q o e hqD]
              exact fun z => nomatch z
        · have eq : q = kd := by simpa using z
          have nkD : kd ≠ D := fun z => by rw [z, hL] at hkd0; cases hkd0
          have hk1 := s1.free hkd0
          have npk : kd ≠ p := fun z => by rw [z, hp1] at hk1; cases hk1
          rw [← eH1, upd_ne npk] at hk1
          refine ⟨?_, by rw [eq]; exact hk1⟩
          rw [eq, upd_ne nkD, e2]
          exact fun z => nomatch z
      · intro t g kq h1 h2
        rcases get_snoc h1 with ⟨_, g1⟩ | ⟨g0, rfl⟩
        · rcases get_snoc h2 with ⟨_, g2⟩ | ⟨g3, _⟩
          · obtain ⟨⟨dz, a1⟩, a2⟩ := hat t g kq g1 g2
            exact ⟨⟨dz, s3 _ _ a1 (ne_of a1 hL (by intro q; cases q))⟩, s3 _ _ a2 (ne_of a2 hL (by intro q; cases q))⟩
          · omega
        · rcases get_snoc h2 with ⟨g2, _⟩ | ⟨_, rfl⟩
          · omega
          · have nkD : kq ≠ D := fun z => by rw [z, hL] at hkd0; cases hkd0
            exact ⟨⟨dy, (upd_ne nDx.symm).trans e1⟩, (upd_ne nkD).trans e2⟩
    · rintro H' ⟨s1, fs, kds, hL, lf, lk, nd, hne, hat⟩
      rw [Int.toNat_natCast] at lf lk
      have hp2 := s1 _ _ hp1
      have hD0 : H D = none := by
        rw [← eH1, upd_ne npD.symm] at hD
        exact hD
      refine ⟨_, rfl, p, _, dx, _, rfl, hp2, T.c_SwapWorld, T.n_SwapWorld_functions, (by show 1 < 1000; decide), ?_⟩
      refine k ⟨D, fs, kds⟩ _ hD0 (fun b hb => (hne b hb).2) ⟨⟨dx, by rw [upd_same, wk_put]⟩, (upd_ne npD.symm).trans hL, lf, lk, nd, fun t g kq h1 h2 => ?_⟩ fun b o e hb => ?_
      · obtain ⟨⟨dz, a1⟩, a2⟩ := hat t g kq h1 h2
        refine ⟨⟨dz, (upd_ne fun q => ?_).trans a1⟩, (upd_ne (ne_of a2 hp2 (by intro q; cases q))).trans a2⟩
        rw [q, hp2] at a1
        have z := HO.ins.inj (Option.some.inj a1)
        have : ("h" : Str) = "tape" := congrArg Prod.fst (List.cons.inj z.2.2).1
        exact absurd this (by decide +kernel)
      · rw [upd_ne hb]
        refine s1 _ _ ?_
        rw [← eH1, upd_ne hb]
        exact e
/-! ## SwapWorld answers -/
theorem cut_lo {a : Bs} {h : Nat} (hl : h ≤ a.length) : cutS (S a) none (some (h : Int)) = S (a.take h) := by
  unfold cutS
  rw [HT.sIx_none, HT.sIx_nat, S_len, Nat.min_eq_left hl, List.drop_zero, Nat.sub_zero, S_list, ← List.map_take]
  rfl
theorem cut_hi {a : Bs} {h : Nat} (hl : h ≤ a.length) : cutS (S a) (some (h : Int)) none = S (a.drop h) := by
  unfold cutS
  rw [HT.sIx_none, HT.sIx_nat, S_len, Nat.min_eq_left hl, S_list, ← List.map_drop, List.take_of_length_le (by rw [List.length_map, List.length_drop]; exact Nat.le_refl _)]
  rfl
abbrev nSwapA : List Str := ["self", "string", "left", "right", "function"]
theorem sc_swapA : FnScope nSwapA ["self", "string"] (defScope s_SwapWorld_answer) := C8.fnScope_by (by decide +kernel)
theorem met_swapA (T : Tx K mg w) (h rounds : Nat) (hh : h ≤ 2) (hr4 : rounds ≤ 4) : C8.Met P w K mg base 4 (He.ga K "SwapWorld") "answer" (spAns K (swapW K h rounds hh hr4)) [] := by
  refine T.m_SwapWorld_answer.met sc_swapA (fun vs H Q E h => ?_) fun f cdv A outer s H vs Q E hr hsp => ?_
  · obtain ⟨p, tp, cl, dl, cs, ds, x, st, s, n, rfl, _⟩ := h
    rfl
  · obtain ⟨p, tp, cl, dl, cs, ds, x, kn, z, n, rfl, ta, sa, inv, hn, hds, hz, hfo, hok, k⟩ := hsp
    have hgo : (swapW K h rounds hh hr4).rep.go kn z = goS h rounds kn z := rfl
    rw [hgo] at hok k
    refine ⟨_, pss_cons (ps_if (pt_cmpR op_ne (pe_callB call_len_str rfl T.f_len PySem.boot_len (pa_cons (pv 1) pa_nil)) (pe_op op_mul pe_int (pe_fld (pv 0) rfl)) (nomark _)) (pss_one (ps_ret pe_str)) pss_nil) <|
      pss_cons (ps_par (i := 2) (j := 3) (by rfl) sc_swapA.nd rfl rfl (by decide) rfl rfl (pa_cons (pe_slice sl_str (pv 1) po_none (po_some (pe_fld (pv 0) rfl))) (pa_cons (pe_slice sl_str (pv 1) (po_some (pe_fld (pv 0) rfl)) po_none) pa_nil)) (by rfl)) <|
      pss_cons (ps_for PassesOwn.never rfl (pi_list (pe_fld (pv 0) rfl)) (pg_name (i := 4) sc_swapA.nd rfl (Or.inl rfl))
        (pss_one (ps_par (i := 2) (j := 3) (by rfl) sc_swapA.nd rfl rfl (by decide) rfl rfl
          (pa_cons (pv 3) (pa_cons (C8.pe_c (cal_xor T) hr (by decide) rfl (pa_cons (pv 2) (pa_cons (C8.pe_mt (met_anyA T) hr (by decide) (pv 4) (pa_cons (pv 3) pa_nil)) pa_nil))) pa_nil)) (by rfl)))) <|
      pss_one (ps_ret (pe_op op_add_str (pv 2) (pv 3))), ?_⟩
    obtain ⟨dx, hp⟩ := sa.ob
    have hfl := sa.ls
    have enil : ds ++ [] = ds := List.append_nil ds
    refine ⟨_, rfl, _, rfl, len_small hz (by decide), _, rfl, p, _, dx, _, _, rfl, hp, T.c_SwapWorld, T.n_SwapWorld_h, wk_h _ _, _, _, rfl, rfl, .inl ⟨by decide, by decide⟩, rfl, _, rfl, ?_⟩
    have e2 : (!decide (V.int (((S z).length : Nat) : Int) = V.int (2 * (h : Int)))) = !decide (z.length = 2 * h) := by
      have := ne_len z.length (2 * h)
      rw [S_len, ← this]
      congr 1
    rw [e2]
    by_cases hzl : z.length = 2 * h
    · rw [decide_eq_true hzl]
      refine iteF ?_
      have hg : goS h rounds kn z = goR h rounds 0 (z.take h) (z.drop h) kn := by unfold goS; rw [if_pos hzl]
      rw [hg] at hok k
      have i0 : SInv h kn n := inv
      refine ⟨_, rfl, _, rfl, p, _, dx, _, _, rfl, hp, T.c_SwapWorld, T.n_SwapWorld_h, wk_h _ _, _, rfl, _, rfl, len_small hz (by decide), ?_⟩
      refine ⟨_, rfl, _, rfl, p, _, dx, _, _, rfl, hp, T.c_SwapWorld, T.n_SwapWorld_h, wk_h _ _, _, rfl, _, rfl, len_small hz (by decide), _, _, rfl, ?_⟩
      rw [cut_lo (show h ≤ z.length by omega), cut_hi (show h ≤ z.length by omega)]
      refine ⟨_, rfl, p, _, dx, _, _, rfl, hp, T.c_SwapWorld, T.n_SwapWorld_functions, wk_fun _ _, x.fl, rfl, ⟨_, SqL.of hfl⟩, for_list (K := K) (a := x.fl) (xs := x.fs.map V.ref)
        (fun i σ H' => ∃ (L R : Bs) (kn' : SKn) (ds' : Dws) (u : Option V), σ = [some (.ref p), some (.str (S z)), some (.str (S L)), some (.str (S R)), u] ∧ L.length = h ∧ R.length = h ∧ TapeAt K H' tp cl dl cs ds' ∧
          SwapAt K p tp h rounds x H' kn' ∧ SInv h kn' (n + i) ∧ ds'.length ≤ ds.length + i ∧ i ≤ rounds ∧ (goR h (rounds - i) i L R kn').ok (oTold cs) ds'.length ∧
          ((goR h (rounds - i) i L R kn').run (oTold cs) ds'.length).1 = ((goR h rounds 0 (z.take h) (z.drop h) kn).run (oTold cs) ds.length).1 ∧
          ds' ++ ((goR h (rounds - i) i L R kn').run (oTold cs) ds'.length).2 = ds ++ ((goR h rounds 0 (z.take h) (z.drop h) kn).run (oTold cs) ds.length).2 ∧
          Keep (fun b => b = dl ∨ b ∈ x.kds) H H' ∧ Tups H H')
        ⟨z.take h, z.drop h, kn, ds, none, rfl, by rw [List.length_take]; omega, by rw [List.length_drop]; omega, ta, sa, i0, Nat.le_refl _, Nat.zero_le _, hok, rfl, rfl, Keep.refl, Tups.refl⟩ ?_ ?_ ?_⟩
      · rintro i σ H' _ ⟨L, R, kn', ds', u, rfl, _, _, _, sa', _⟩
        exact SqL.of sa'.ls
      · rintro i y σ H' hy ⟨L, R, kn', ds', u, rfl, hL, hR, ta', sa', inv', hdl', hir, ok', er, ed, kp, tu⟩
        rw [List.getElem?_map] at hy
        obtain ⟨f', hf', rfl⟩ := Option.map_eq_some_iff.mp hy
        have hi : i < rounds := by
          have := (List.getElem?_eq_some_iff.mp hf').1
          rw [sa.lf] at this
          exact this
        obtain ⟨kd, hkd⟩ : ∃ kd, x.kds[i]? = some kd := ⟨x.kds[i]'(by rw [sa.lk]; exact hi), List.getElem?_eq_getElem _⟩
        have hkm : kd ∈ x.kds := List.mem_of_getElem? hkd
        have am : AnyAt K H' f' tp kd h i kn' := sa'.at_ i f' kd hf' hkd
        obtain ⟨m, hm⟩ : ∃ m, rounds - i = m + 1 := ⟨rounds - i - 1, by omega⟩
        have hm2 : rounds - (i + 1) = m := by omega
        have hstep : goR h (m + 1) i L R kn' = (goF h i kn' R).bind fun q => goR h m (i + 1) R (xorB L q.1) q.2 := rfl
        rw [hm, hstep] at ok' er ed
        rw [Tr.ok_bind] at ok'
        rw [Tr.run_bind] at er ed
        obtain ⟨ok1, ok2⟩ := ok'
        obtain ⟨a1, a2, a3⟩ := Tr.all_run (oTold cs) _ 0 ds'.length (goF_all (t := i) (r := R) (k := 0) inv') ok1
        generalize hq : (goF h i kn' R).run (oTold cs) ds'.length = q at a1 a2 a3 ok2 er ed
        have ilen := inv'.len
        obtain ⟨dxf, hfo'⟩ := am.ob
        refine ⟨_, rfl, _, rfl, _, rfl, f', dxf, _, rfl, hfo', ak_answer _ _ _, _, rfl, f', tp, cl, dl, kd, cs, ds', h, i, kn', R, rfl, ta', am, hR, by omega, by omega, by omega, ok1, fun H2 t2 k2 kp2 tu2 => ?_⟩
        rw [hq] at t2 k2 ⊢
        refine ⟨L, q.1.1, rfl, by rw [hL, a1], by omega, fun H3 s3 => ⟨_, _, rfl, ?_⟩⟩
        obtain ⟨dsl, hdl⟩ := ta'.dlst
        have hkd' := am.dc
        have two : ∀ b o, H' b = some o → b ≠ dl → b ≠ kd → H3 b = some o := fun b o e n1 n2 => s3 _ _ (kp2 _ _ e fun z => z.elim n1 n2)
        have sa3 : SwapAt K p tp h rounds x H3 q.1.2 := by
          obtain ⟨⟨dz, g1⟩, g2, l1, l2, nd, g3⟩ := id sa'
          refine ⟨⟨dz, two _ _ g1 (ne_of g1 hdl (by intro q; cases q)) (ne_of g1 hkd' (by intro q; cases q))⟩, two _ _ g2 (hfo _ rfl) (ne_of g2 hkd' (by intro q; cases q)), l1, l2, nd, fun t g kq h1 h2 => ?_⟩
          obtain ⟨⟨dy, b1⟩, b2⟩ := g3 t g kq h1 h2
          refine ⟨⟨dy, two _ _ b1 (ne_of b1 hdl (by intro q; cases q)) (ne_of b1 hkd' (by intro q; cases q))⟩, ?_⟩
          by_cases ht : t = i
          · subst ht
            rw [hkd] at h2
            rw [← Option.some.inj h2]
            exact s3 _ _ k2
          · have nk : kq ≠ kd := fun e => ht (nd_ix nd h2 (by rw [e]; exact hkd))
            have e := anyK_go h i t kn' R (oTold cs) ds'.length ht
            rw [hq] at e
            rw [e]
            exact two _ _ b2 (ne_of b2 hdl (by intro q; cases q)) nk
        refine ⟨R, xorB L q.1.1, q.1.2, ds' ++ q.2, _, rfl, hR, by rw [xorB_length, hL, a1, Nat.min_self], t2.same s3, sa3, a2, by rw [List.length_append]; omega, by omega, ?_, ?_, ?_, ?_, ?_⟩
        · rw [hm2, List.length_append]
          exact ok2
        · rw [hm2, List.length_append]
          exact er
        · rw [hm2, List.length_append, List.append_assoc]
          exact ed
        · exact kp.trans ((kp2.mono fun b hb => hb.elim .inl fun e => .inr (by rw [e]; exact hkm)).trans (Keep.same s3))
        · exact tu.trans (tu2.trans (Tups.same s3))
      · rintro σ H' ⟨L, R, kn', ds', u, rfl, hL, hR, ta', sa', inv', hdl', hir, ok', er, ed, kp, tu⟩
        rw [List.length_map, sa.lf, Nat.sub_self] at er ed
        have e1 : ((goR h 0 rounds L R kn').run (oTold cs) ds'.length) = ((L ++ R, kn'), []) := rfl
        rw [e1] at er ed
        rw [← er, ← ed] at k
        have hLs : (S L).length + (S R).length ≤ sizeLine := by
          rw [S_len, S_len, hL, hR]
          exact Nat.le_of_lt (small5 (by omega))
        refine ⟨_, rfl, _, rfl, _, _, rfl, rfl, hLs, ?_⟩
        rw [S_app]
        exact k H' (by rw [List.append_nil]; exact ta') sa' kp tu
    · rw [decide_eq_false hzl]
      refine iteT ?_
      have hg : goS h rounds kn z = .ret ([], kn) := by unfold goS; rw [if_neg hzl]
      rw [hg] at k
      have := k H (by show TapeAt K H tp cl dl cs (ds ++ []); rw [enil]; exact ta) sa Keep.refl Tups.refl
      rw [show S ((Tr.ret ([], kn) : Tr (Bs × SKn)).run (oTold cs) ds.length).1.1 = ("" : Str) from S_nil] at this
      exact this
end
end Bb
namespace Bb
open PySem PySem.Spec PyProof.Rows L2
/-! ## Notes -/
def fNotes (wp al : Addr) : List (Str × V) := [("world", .ref wp), ("asked", .ref al)]
theorem nk_world (wp al : Addr) : (fNotes wp al).lookup ("world" : Str) = some (.ref wp) := by kernel_rfl
theorem nk_asked (wp al : Addr) : (fNotes wp al).lookup ("asked" : Str) = some (.ref al) := by kernel_rfl
theorem nk_answer (wp al : Addr) : (fNotes wp al).lookup ("answer" : Str) = none := by kernel_rfl
theorem nk_put (wp al : Addr) : putF "asked" (.ref al) (putF "world" (.ref wp) []) = fNotes wp al := by kernel_rfl
def AskAt (H : Hp) (al : Addr) (qs : Pairs) : Prop := ∃ ts : List Addr, H al = some (.lst (ts.map V.ref)) ∧ Paired (fun (t : Addr) (q : Bs × Bs) => H t = some (.tup [.str (S q.1), .str (S q.2)])) ts qs
theorem AskAt.same {H H' : Hp} {al : Addr} {qs : Pairs} (h : AskAt H al qs) (s : Same H H') : AskAt H' al qs := by
  obtain ⟨ts, h1, h2⟩ := h
  exact ⟨ts, s _ _ h1, paired_mono (fun a b q => s _ _ q) h2⟩
theorem AskAt.keep {M : Addr → Prop} {H H' : Hp} {al : Addr} {qs : Pairs} (h : AskAt H al qs) (k : Keep M H H') (t : Tups H H') (n : ¬ M al) : AskAt H' al qs := by
  obtain ⟨ts, h1, h2⟩ := h
  exact ⟨ts, k _ _ h1 n, paired_mono (fun a b q => t _ _ q) h2⟩
/-! ## Stopped -/
def fStop (q : Addr) : List (Str × V) := [("world", .ref q)]
theorem zk_world (q : Addr) : (fStop q).lookup ("world" : Str) = some (.ref q) := by kernel_rfl
theorem zk_now (q : Addr) : (fStop q).lookup ("now" : Str) = none := by kernel_rfl
section
variable {P : Program} {w : World} {K : PySem.W.Frag} {mg : Str → Option Value} {base : Heap}
def spNotesI (K : PySem.W.Frag) : Sp := fun vs H Q _ => ∃ (p dx wp : Addr), vs = [.ref p, .ref wp] ∧ H p = some (.ins (He.ga K "Notes") dx []) ∧
  ∀ al H', H al = none → H' p = some (.ins (He.ga K "Notes") dx (fNotes wp al)) → H' al = some (.lst []) → (∀ b o, H b = some o → b ≠ p → H' b = some o) → Q .non H'
theorem sc_NotesI : FnScope ["self", "world"] ["self", "world"] (defScope s_Notes_init) := C8.fnScope_by (by decide +kernel)
theorem mak_Notes (T : Tx K mg w) : C8.Mak P w K mg base 1 "Notes" (He.ga K "Notes") (spNotesI K) [] := by
  refine T.i_Notes.mak sc_NotesI (fun vs H Q E h => ?_) fun f cdv A outer s H vs Q E hr h => ?_
  · obtain ⟨p, dx, wp, rfl, _⟩ := h
    rfl
  · obtain ⟨p, dx, wp, rfl, hp, k⟩ := h
    refine ⟨_, pss_cons (ps_fld (pv 0) (pv 1) rfl) <| pss_one (ps_fld (pv 0) (pe_lst pa_nil) rfl), ?_⟩
    refine ⟨_, rfl, _, rfl, p, _, dx, [], rfl, hp, T.c_Notes, T.n_Notes_world, (by show 0 < 1000; decide), ?_⟩
    refine ⟨Nat.zero_le _, fun al hal => ?_⟩
    have npk : p ≠ al := ne_of_none upd_same hal
    have hal0 : H al = none := by
      rw [upd_ne npk.symm] at hal
      exact hal
    refine ⟨_, rfl, p, _, dx, _, rfl, (upd_ne npk).trans upd_same, T.c_Notes, T.n_Notes_asked, (by show 1 < 1000; decide), ?_⟩
    refine k al _ hal0 (by rw [upd_same, nk_put]) (by rw [upd_ne npk.symm, upd_same]) fun b o e hb => ?_
    rw [upd_ne hb, upd_ne (ne_of_none e hal0), upd_ne hb]
    exact e
def spNote (K : PySem.W.Frag) {σ : Type} (W : Wld σ) : Sp := fun vs H Q _ => ∃ (q dq p tp cl dl al : Addr) (cs : List Int) (ds : Dws) (x : W.Par) (st : σ) (s : Bs) (n : Nat) (qs : Pairs), vs = [.ref q, .str (S s)] ∧
  H q = some (.ins (He.ga K "Notes") dq (fNotes p al)) ∧ AskAt H al qs ∧ al ≠ dl ∧ al ≠ cl ∧ ¬ W.Fo x al ∧ qs.length ≤ 1000 ∧ TapeAt K H tp cl dl cs ds ∧ W.At p tp x H st ∧
  W.rep.inv st n ∧ n ≤ 1000 ∧ ds.length ≤ 1000 ∧ s.length ≤ 1000 ∧ (∀ b, W.Fo x b → b ≠ dl) ∧ (W.rep.go st s).ok (oTold cs) ds.length ∧
  ∀ H', TapeAt K H' tp cl dl cs (ds ++ ((W.rep.go st s).run (oTold cs) ds.length).2) → W.At p tp x H' ((W.rep.go st s).run (oTold cs) ds.length).1.2 → AskAt H' al (qs ++ [(s, ((W.rep.go st s).run (oTold cs) ds.length).1.1)]) →
    Keep (fun b => b = dl ∨ b = al ∨ W.Mu x b) H H' → Tups H H' → Q (.str (S ((W.rep.go st s).run (oTold cs) ds.length).1.1)) H'
theorem sc_note : FnScope ["self", "string", "found"] ["self", "string"] (defScope s_Notes_answer) := C8.fnScope_by (by decide +kernel)
theorem met_note (T : Tx K mg w) {σ : Type} (W : Wld σ) {j : Nat} (hj : j ≤ 4) (HW : C8.Met P w K mg base j W.C "answer" (spAns K W) []) : C8.Met P w K mg base 5 (He.ga K "Notes") "answer" (spNote K W) [] := by
  refine T.m_Notes_answer.met sc_note (fun vs H Q E h => ?_) fun f cdv A outer s H vs Q E hr h => ?_
  · obtain ⟨q, dq, p, tp, cl, dl, al, cs, ds, x, st, s, n, qs, rfl, _⟩ := h
    rfl
  · obtain ⟨q, dq, p, tp, cl, dl, al, cs, ds, x, st, z, n, qs, rfl, hq, ha, nad, nac, nfo, hqs, ta, wa, inv, hn, hds, hz, hfo, hok, k⟩ := h
    refine ⟨_, pss_cons (ps_set (i := 2) sc_note.nd rfl (Or.inl rfl) (C8.pe_mt HW hr hj (pe_fld (pv 0) rfl) (pa_cons (pv 1) pa_nil))) <|
      pss_cons (ps_expr (pe_bm PySem.F.plainAttrs_list PySem.F.slot_list_append PySem.F.type_list_append mt_append (pe_fld (pv 0) rfl) (pa_cons (pe_tup (pa_cons (pv 1) (pa_cons (pv 2) pa_nil))) pa_nil))) <|
      pss_one (ps_ret (pv 2)), ?_⟩
    obtain ⟨dw, fw, hw1, hw2⟩ := W.inst wa
    obtain ⟨dsl, hdl⟩ := ta.dlst
    refine ⟨_, rfl, q, _, dq, _, _, rfl, hq, T.c_Notes, T.n_Notes_world, nk_world _ _, p, dw, fw, rfl, hw1, hw2, _, rfl, p, tp, cl, dl, cs, ds, x, st, z, n, rfl, ta, wa, inv, hn, hds, hz, hfo, hok, fun H2 t2 w2 k2 u2 => ?_⟩
    have hal : ∃ xs, H al = some (.lst xs) := let ⟨ts, e, _⟩ := ha; ⟨_, e⟩
    have nM : ¬ (al = dl ∨ W.Mu x al) := fun m => m.elim nad fun m => by
      obtain ⟨kvs, e⟩ := W.dict wa m
      obtain ⟨xs, e2⟩ := hal
      rw [e] at e2
      cases e2
    have nQ : ¬ (q = dl ∨ W.Mu x q) := fun m => m.elim (ne_of hq hdl (by intro z; cases z)) fun m => by
      obtain ⟨kvs, e⟩ := W.dict wa m
      rw [e] at hq
      cases hq
    have hq2 := k2 _ _ hq nQ
    obtain ⟨ts, ha1, ha2⟩ := ha.keep k2 u2 nM
    refine ⟨_, rfl, q, _, dq, _, _, rfl, hq2, T.c_Notes, T.n_Notes_asked, nk_asked _ _, .inl ⟨rfl, _, SqL.of ha1⟩, _, rfl, _, rfl, (by show 2 ≤ sizeLine; decide), fun t ht => ?_⟩
    have nat : al ≠ t := ne_of_none ha1 ht
    have hlen := paired_len ha2
    refine ⟨al, _, _, rfl, rfl, (upd_ne nat).trans ha1, by rw [List.length_map, hlen]; exact small5 (by omega), _, rfl, ?_⟩
    have s3 : Same H2 (upd H2 t (.tup [.str (S z), .str (S ((W.rep.go st z).run (oTold cs) ds.length).1.1)])) := same_upd ht
    have k3 : Keep (fun b => b = al) H2 (upd (upd H2 t (.tup [.str (S z), .str (S ((W.rep.go st z).run (oTold cs) ds.length).1.1)])) al (.lst (ts.map V.ref ++ [.ref t]))) := (Keep.same s3).trans (keep_upd rfl)
    have u3 : Tups H2 (upd (upd H2 t (.tup [.str (S z), .str (S ((W.rep.go st z).run (oTold cs) ds.length).1.1)])) al (.lst (ts.map V.ref ++ [.ref t]))) := fun a xs e => k3 a _ e (ne_of e ha1 (by intro q; cases q))
    obtain ⟨dsl2, hdl2⟩ := t2.dlst
    refine k _ ?_ ?_ ⟨ts ++ [t], ?_, ?_⟩ (fun b o e nb => ?_) (u2.trans u3)
    · refine t2.keep k3 u3 (fun e => ?_) (fun e => nac e.symm) (fun e => nad e.symm)
      obtain ⟨_, e2⟩ := t2.ob
      rw [e, ha1] at e2
      cases e2
    · refine W.keep w2 k3 (fun b e => ⟨_, e ▸ ha1⟩) fun b fb e => nfo (e ▸ fb)
    · rw [upd_same, List.map_append]
      rfl
    · refine paired_snoc (F := fun (t : Addr) (q : Bs × Bs) => _ = some (HO.tup [.str (S q.1), .str (S q.2)])) ?_ (paired_mono (fun a q e => u3 _ _ e) ha2)
      rw [upd_ne nat.symm, upd_same]
    · exact k3 _ _ (k2 _ _ e fun m => nb (m.elim .inl fun m => .inr (.inr m))) fun e => nb (.inr (.inl e))
def spStopI (K : PySem.W.Frag) : Sp := fun vs H Q _ => ∃ (p dx q : Addr), vs = [.ref p, .ref q] ∧ H p = some (.ins (He.ga K "Stopped") dx []) ∧
  ∀ H', H' p = some (.ins (He.ga K "Stopped") dx (fStop q)) → (∀ b o, H b = some o → b ≠ p → H' b = some o) → Q .non H'
theorem sc_StopI : FnScope ["self", "world"] ["self", "world"] (defScope s_Stopped_init) := C8.fnScope_by (by decide +kernel)
theorem mak_Stop (T : Tx K mg w) : C8.Mak P w K mg base 1 "Stopped" (He.ga K "Stopped") (spStopI K) [] := by
  refine T.i_Stopped.mak sc_StopI (fun vs H Q E h => ?_) fun f cdv A outer s H vs Q E hr h => ?_
  · obtain ⟨p, dx, q, rfl, _⟩ := h
    rfl
  · obtain ⟨p, dx, q, rfl, hp, k⟩ := h
    refine ⟨_, pss_one (ps_fld (pv 0) (pv 1) rfl), ?_⟩
    refine ⟨_, rfl, _, rfl, p, _, dx, [], rfl, hp, T.c_Stopped, T.n_Stopped_world, (by show 0 < 1000; decide), ?_⟩
    exact k _ upd_same fun b o e hb => by rw [upd_ne hb]; exact e
def spNow (K : PySem.W.Frag) : Sp := fun vs H Q _ => ∃ (p dx q dq : Addr) (fq : List (Str × V)), vs = [.ref p] ∧ H p = some (.ins (He.ga K "Stopped") dx (fStop q)) ∧ H q = some (.ins (He.ga K "Notes") dq fq) ∧ Q (.bl false) H
theorem sc_now : FnScope ["self"] ["self"] (defScope s_Stopped_now) := C8.fnScope_by (by decide +kernel)
theorem met_now (T : Tx K mg w) : C8.Met P w K mg base 1 (He.ga K "Stopped") "now" (spNow K) [] := by
  refine T.m_Stopped_now.met sc_now (fun vs H Q E h => ?_) fun f cdv A outer s H vs Q E hr h => ?_
  · obtain ⟨p, dx, q, dq, fq, rfl, _⟩ := h
    rfl
  · obtain ⟨p, dx, q, dq, fq, rfl, hp, hq, k⟩ := h
    refine ⟨_, pss_one (ps_ret (pe_and (pe_callB call_isi rfl T.f_isinstance (by decide +kernel) (pa_cons (pe_fld (pv 0) rfl) (pa_cons (pe_glob (v := .ref (He.ga K "OnetimeWorld")) rfl T.g_OnetimeWorld rfl) pa_nil)))
      (pe_one (pe_fld (pe_fld (pv 0) rfl) rfl)))), ?_⟩
    refine ⟨_, rfl, p, _, dx, _, _, rfl, hp, T.c_Stopped, T.n_Stopped_world, zk_world _, .ref q, .ref _, _, _, false, rfl, .own _, .base (T.t_Notes.ty hq), T.q_Notes, _, rfl, ?_⟩
    exact iteF k
/-! ## made_string -/
def spMade : Sp := fun vs H Q _ => ∃ (t : Addr) (ps : List Part) (hd : Bs), vs = [.ref t, .str (S hd)] ∧ H t = some (.tup (ps.map partV)) ∧ ps.length ≤ 1000 ∧ hd.length ≤ 1000 ∧ Q (.str (S (made ps hd))) H
abbrev nMade : List Str := ["parts", "handed", "found", "part"]
theorem sc_made : FnScope nMade ["parts", "handed"] (defScope s_made_string) := C8.fnScope_by (by decide +kernel)
theorem made_snoc {ps : List Part} {i : Nat} {p : Part} (hd : Bs) (h : ps[i]? = some p) : made (ps.take (i + 1)) hd = made (ps.take i) hd ++ [partB hd p] := by
  unfold made
  rw [take_snoc h, List.map_append]
  rfl
theorem cal_made (T : Tx K mg w) : C8.Cal P w K mg base 1 "made_string" spMade [] := by
  refine T.d_made_string.cal sc_made (fun vs H Q E h => ?_) fun f cdv A outer s H vs Q E hr h => ?_
  · obtain ⟨t, ps, hd, rfl, _⟩ := h
    rfl
  · obtain ⟨t, ps, hd, rfl, ht, hps, hhd, k⟩ := h
    refine ⟨_, pss_cons (ps_set (i := 2) sc_made.nd rfl (Or.inl rfl) pe_str) <|
      pss_cons (ps_for PassesOwn.never rfl (pi_tup (pv 0)) (pg_name (i := 3) sc_made.nd rfl (Or.inl rfl))
        (pss_one (ps_if (pt_val (pe_callB call_isi rfl T.f_isinstance (by decide +kernel) (pa_cons (pv 3) (pa_cons (pe_bltn (v := .ty "str") rfl T.f_str (by decide +kernel) rfl) pa_nil))))
          (pss_one (ps_set (i := 2) sc_made.nd rfl (Or.inl rfl) (pe_op op_add_str (pv 2) (pv 3))))
          (pss_one (ps_set (i := 2) sc_made.nd rfl (Or.inl rfl) (pe_op op_add_str (pv 2) (pe_ifExp (pt_cmpR op_lt (pv 3) (pe_callB call_len_str rfl T.f_len PySem.boot_len (pa_cons (pv 1) pa_nil)) (nomark _)) (pe_ix ix_str (pv 1) (pv 3) (fun _ _ => rfl)) pe_str))))))) <|
      pss_one (ps_ret (pv 2)), ?_⟩
    refine ⟨_, rfl, t, rfl, ⟨_, SqT.of ht⟩, for_tup (K := K) (a := t) (xs := ps.map partV) (fun i σ H' => H' = H ∧ i ≤ ps.length ∧ ∃ u : Option V, σ = [some (.ref t), some (.str (S hd)), some (.str (S (made (ps.take i) hd))), u])
      ⟨rfl, Nat.zero_le _, none, by rw [List.take_zero]; show _ = [some (V.ref t), some (V.str (S hd)), some (V.str (S [])), none]; rw [S_nil]; rfl⟩ (fun i σ H' _ ⟨e, _⟩ => by rw [e]; exact SqT.of ht) ?_ ?_⟩
    · rintro i x σ H' hx ⟨rfl, hi, u, rfl⟩
      rw [List.getElem?_map] at hx
      obtain ⟨p, hp, rfl⟩ := Option.map_eq_some_iff.mp hx
      have hilt : i < ps.length := (List.getElem?_eq_some_iff.mp hp).1
      have hsz : (S (made (ps.take i) hd)).length + 1 ≤ sizeLine := by
        rw [S_len, made_length, List.length_take]
        exact Nat.le_of_lt (small5 (by omega))
      cases p with
      | inl b =>
        refine ⟨_, rfl, .str (S [b]), .ty "str", _, _, true, rfl, .ty _, .base (.str _), kit_ty (by decide +kernel), _, rfl, ?_⟩
        refine iteT ?_
        refine ⟨_, rfl, _, rfl, _, _, rfl, rfl, hsz, rfl, hilt, some (.str (S [b])), ?_⟩
        rw [made_snoc hd hp, S_app]
        rfl
      | inr n =>
        refine ⟨_, rfl, .int (n : Int), .ty "str", _, _, false, rfl, .ty _, .base (.int _), kit_ty (by decide +kernel), _, rfl, ?_⟩
        refine iteF ?_
        refine ⟨_, rfl, _, rfl, _, rfl, _, rfl, len_small hhd (by decide), _, _, rfl, rfl, _, rfl, ?_⟩
        rw [S_len]
        by_cases hlt : n < hd.length
        · rw [decide_eq_true (show ((n : Nat) : Int) < ((hd.length : Nat) : Int) by omega)]
          refine iteT ?_
          have e : hd[n]? = some hd[n] := List.getElem?_eq_getElem hlt
          refine ⟨_, rfl, _, rfl, S hd, (n : Int), sg hd[n], rfl, rfl, len_small hhd (by decide), atI_nat (j := n) (by rw [S_list, List.getElem?_map, e]; rfl), _, _, rfl, rfl, hsz, rfl, hilt, some (.int (n : Int)), ?_⟩
          rw [made_snoc hd hp, ← S_app]
          have e2 : partB hd (.inr n) = hd[n] := by
            show hd.getD n false = hd[n]
            rw [List.getD_eq_getElem?_getD, e]
            rfl
          rw [e2]
          rfl
        · rw [decide_eq_false (show ¬ ((n : Nat) : Int) < ((hd.length : Nat) : Int) by omega)]
          refine iteF ?_
          refine ⟨_, _, rfl, rfl, hsz, rfl, hilt, some (.int (n : Int)), ?_⟩
          rw [made_snoc hd hp, ← S_app]
          have e2 : partB hd (.inr n) = false := by
            show hd.getD n false = false
            rw [List.getD_eq_getElem?_getD, List.getElem?_eq_none_iff.mpr (by omega)]
            rfl
          rw [e2, S_0]
          rfl
    · rintro σ H' ⟨rfl, _, u, rfl⟩
      rw [List.length_map, List.take_length]
      exact ⟨_, rfl, k⟩
end
end Bb
namespace Bb
open PySem PySem.Spec PyProof.Rows L2
section
variable {P : Program} {w : World} {K : PySem.W.Frag} {mg : Str → Option Value} {base : Heap}
/-! ## run_plain -/
/-- a breaker's run begins: the Tape at tp, the Notes at q over the world at p -/
def spRunP (K : PySem.W.Frag) {τ : Type} (W : Wld τ) : Sp := fun vs H Q _ => ∃ (b : Brk) (d : Nat) (bv : V) (q dq p tp cl dl al : Addr) (cs : List Int) (x : W.Par) (st : τ), vs = [bv, .ref tp, .str (S []), .ref q] ∧ BrkAt H b bv ∧ Deep b d ∧ d ≤ 9 ∧
  H q = some (.ins (He.ga K "Notes") dq (fNotes p al)) ∧ AskAt H al [] ∧ al ≠ dl ∧ al ≠ cl ∧ ¬ W.Fo x al ∧ TapeAt K H tp cl dl cs [] ∧ W.At p tp x H st ∧ W.rep.inv st 0 ∧ (∀ b, W.Fo x b → b ≠ dl) ∧ (runB W.rep b [] st []).ok (oTold cs) 0 ∧
  ∀ H', TapeAt K H' tp cl dl cs ((runB W.rep b [] st []).run (oTold cs) 0).2 → AskAt H' al ((runB W.rep b [] st []).run (oTold cs) 0).1.2 → Keep (fun b => b = dl ∨ b = al ∨ W.Mu x b) H H' → Tups H H' →
    Q (.str (S ((runB W.rep b [] st []).run (oTold cs) 0).1.1)) H'
abbrev nRunP : List Str := ["breaker", "tape", "challenge", "world", "handed", "stopped"]
theorem sc_runP : FnScope nRunP ["breaker", "tape", "challenge", "world"] (defScope s_run_plain) := C8.fnScope_by (by decide +kernel)
theorem say_ne : (!decide (V.str ("toss" : Str) = V.str ("say" : Str))) = true ∧ (!decide (V.str ("look" : Str) = V.str ("say" : Str))) = true ∧ (!decide (V.str ("ask" : Str) = V.str ("say" : Str))) = true := by decide +kernel
theorem dec_0 (b : Bool) : decide (V.str (S [b]) = V.str ("0" : Str)) = !b := by
  rw [← S_0]
  cases b
  · exact decide_eq_true rfl
  · refine decide_eq_false fun e => ?_
    have := S_inj (V.str.inj e)
    cases this
theorem cal_runP (T : Tx K mg w) {τ : Type} (W : Wld τ) {j : Nat} (hj : j ≤ 4) (HW : C8.Met P w K mg base j W.C "answer" (spAns K W) []) : C8.Cal P w K mg base 6 "run_plain" (spRunP K W) [] := by
  refine T.d_run_plain.cal sc_runP (fun vs H Q E h => ?_) fun f cdv A outer s H vs Q E hr h => ?_
  · obtain ⟨b, d, bv, q, dq, p, tp, cl, dl, al, cs, x, st, rfl, _⟩ := h
    rfl
  · obtain ⟨b, d, bv, q, dq, p, tp, cl, dl, al, cs, x, st, rfl, hb, hd, hd9, hq, ha, nad, nac, nfo, ta, wa, inv, hfo, hok, k⟩ := h
    have HN := met_note T W hj HW
    refine ⟨_, pss_cons (ps_set (i := 4) sc_runP.nd rfl (Or.inl rfl) (pv 2)) <|
      pss_cons (ps_set (i := 5) sc_runP.nd rfl (Or.inl rfl) (C8.pe_mk (mak_Stop T) hr (by decide) rfl (pa_cons (pv 3) pa_nil))) <|
      pss_cons (ps_while PassesOwn.never (pt_cmpR op_ne (pe_ix ix_tup (pv 0) pe_int (fun _ _ => rfl)) pe_str (nomark _)) <|
        pss_one <| ps_if (pt_cmpR op_eq (pe_ix ix_tup (pv 0) pe_int (fun _ _ => rfl)) pe_str (nomark _))
          (pss_one (ps_set (i := 0) sc_runP.nd rfl (Or.inl rfl) (pe_ix ix_tup (pe_ix ix_tup (pv 0) pe_int (fun _ _ => rfl))
            (C8.pe_mt (met_draw T) hr (by decide) (pv 1) (pa_cons (pe_callB call_len_seq rfl T.f_len PySem.boot_len (pa_cons (pe_ix ix_tup (pv 0) pe_int (fun _ _ => rfl)) pa_nil)) pa_nil)) (fun _ _ => rfl))))
          (pss_one <| ps_if (pt_cmpR op_eq (pe_ix ix_tup (pv 0) pe_int (fun _ _ => rfl)) pe_str (nomark _))
            (pss_one (ps_set (i := 0) sc_runP.nd rfl (Or.inl rfl) (pe_ifExp (pt_cmpR op_eq (C8.pe_c (cal_made T) hr (by decide) rfl (pa_cons (pe_tup (pa_cons (pe_ix ix_tup (pv 0) pe_int (fun _ _ => rfl)) pa_nil)) (pa_cons (pv 4) pa_nil))) pe_str (nomark _))
              (pe_ix ix_tup (pv 0) pe_int (fun _ _ => rfl)) (pe_ix ix_tup (pv 0) pe_int (fun _ _ => rfl)))))
            (pss_cons (ps_set (i := 4) sc_runP.nd rfl (Or.inl rfl) (pe_op op_add_str (pv 4) (C8.pe_mt HN hr (by decide) (pv 3) (pa_cons (C8.pe_c (cal_made T) hr (by decide) rfl (pa_cons (pe_ix ix_tup (pv 0) pe_int (fun _ _ => rfl)) (pa_cons (pv 4) pa_nil))) pa_nil)))) <|
              pss_cons (ps_if (pt_val (C8.pe_mt0 (met_now T) hr (by decide) (pv 5))) (pss_one (ps_ret pe_str)) pss_nil) <|
              pss_one (ps_set (i := 0) sc_runP.nd rfl (Or.inl rfl) (pe_ix ix_tup (pv 0) pe_int (fun _ _ => rfl)))))) <|
      pss_one (ps_ret (C8.pe_c (cal_made T) hr (by decide) rfl (pa_cons (pe_ix ix_tup (pv 0) pe_int (fun _ _ => rfl)) (pa_cons (pv 4) pa_nil)))), ?_⟩
    obtain ⟨q1, q2, q3, q4, q5, q6⟩ := words_ne
    obtain ⟨n1, n2, n3⟩ := say_ne
    refine ⟨_, rfl, _, rfl, fun sp dsp nsp ndsp nsd => ⟨sp, dsp, q, rfl, upd_same, fun H1 hs1 kp1 => ⟨rfl, ?_⟩⟩⟩
    have s1 : Same H H1 := Same.made nsp ndsp kp1
    generalize hres : (runB W.rep b [] st []).run (oTold cs) 0 = res at k
    have hq1 := s1 _ _ hq
    have ha1 := ha.same s1
    have ta1 := ta.same s1
    have hal1 : ∃ xs, H1 al = some (.lst xs) := let ⟨ts, e, _⟩ := ha1; ⟨_, e⟩
    have wa1 : W.At p tp x H1 st := W.keep (N := fun _ => False) wa (Keep.same s1) (fun _ m => m.elim) fun _ _ m => m
    have notM : ∀ {r C dr : Addr} {fr : List (Str × V)}, H1 r = some (.ins C dr fr) → ¬ (r = dl ∨ r = al ∨ W.Mu x r) := fun {r C dr fr} e m => by
      rcases m with m | m | m
      · obtain ⟨xs, e2⟩ := ta1.dlst
        rw [m, e2] at e
        cases e
      · obtain ⟨xs, e2⟩ := hal1
        rw [m, e2] at e
        cases e
      · obtain ⟨kvs, e2⟩ := W.dict wa1 m
        rw [e2] at e
        cases e
    refine ⟨fun m σ H' => ∃ (b' : Brk) (bv' : V) (hd' : Bs) (st' : τ) (qs' : Pairs) (ds' : Dws) (n' : Nat), σ = [some bv', some (.ref tp), some (.str (S [])), some (.ref q), some (.str (S hd')), some (.ref sp)] ∧ BrkAt H' b' bv' ∧ Deep b' m ∧
      TapeAt K H' tp cl dl cs ds' ∧ W.At p tp x H' st' ∧ AskAt H' al qs' ∧ W.rep.inv st' n' ∧ n' + 4 * m ≤ 100 ∧ ds'.length + 4 * m ≤ 100 ∧ hd'.length + 8 * m ≤ 100 ∧ qs'.length + m ≤ 100 ∧ (runB W.rep b' hd' st' qs').ok (oTold cs) ds'.length ∧
      ((runB W.rep b' hd' st' qs').run (oTold cs) ds'.length).1 = res.1 ∧ ds' ++ ((runB W.rep b' hd' st' qs').run (oTold cs) ds'.length).2 = res.2 ∧ Keep (fun b => b = dl ∨ b = al ∨ W.Mu x b) H1 H' ∧ Tups H1 H', ?_, ?_⟩
    · refine ⟨d, b, bv, [], st, [], [], 0, rfl, hb.same s1, hd, ta1, wa1, ha1, inv, by omega, by show 0 + 4 * d ≤ 100; omega, by show 0 + 8 * d ≤ 100; omega, by show 0 + d ≤ 100; omega, hok, by rw [← hres]; rfl, by rw [← hres]; rfl, Keep.refl, Tups.refl⟩
    · rintro m σ H' ⟨b', bv', hd', st', qs', ds', n', rfl, hb', hde, ta', wa', ha', inv', l1, l2, l3, l4, ok', er, ed, kp, tu⟩
      have hq' := kp _ _ hq1 (notM hq1)
      have hs' := kp _ _ hs1 (notM hs1)
      cases b' with
      | say ps =>
        obtain ⟨a, t, rfl, hat, ht⟩ := hb'
        refine ⟨_, rfl, a, _, _, _, rfl, rfl, SqT.of hat, atI_nat (j := 0) rfl, rfl, _, rfl, ?_⟩
        rw [dec_same]
        refine iteF ?_
        obtain ⟨⟨hp8, _⟩, _⟩ := hde
        refine ⟨_, rfl, a, _, _, _, rfl, rfl, SqT.of hat, atI_nat (j := 1) rfl, _, rfl, t, ps, hd', rfl, ht, by omega, by omega, ?_⟩
        have e1 : ((runB W.rep (.say ps) hd' st' qs').run (oTold cs) ds'.length) = ((made ps hd', qs'), []) := rfl
        rw [e1] at er ed
        rw [List.append_nil] at ed
        have e2 : res = ((made ps hd', qs'), ds') := Prod.ext er.symm ed.symm
        rw [e2] at k
        exact k H' ta' ha' ((Keep.same s1).trans kp) ((Tups.same s1).trans tu)
      | toss n g =>
        obtain ⟨a, t, xs, rfl, hat, ht, hl, hx⟩ := hb'
        obtain ⟨hn1, hn3, hm1, hdk⟩ := hde
        refine ⟨_, rfl, a, _, _, _, rfl, rfl, SqT.of hat, atI_nat (j := 0) rfl, rfl, _, rfl, ?_⟩
        rw [n1]
        refine iteT ?_
        refine ⟨fun σ'' H'' => ∃ m', m' < m ∧ ∃ (b' : Brk) (bv' : V) (hd' : Bs) (st' : τ) (qs' : Pairs) (ds' : Dws) (n' : Nat), σ'' = [some bv', some (.ref tp), some (.str (S [])), some (.ref q), some (.str (S hd')), some (.ref sp)] ∧ BrkAt H'' b' bv' ∧ Deep b' m' ∧
          TapeAt K H'' tp cl dl cs ds' ∧ W.At p tp x H'' st' ∧ AskAt H'' al qs' ∧ W.rep.inv st' n' ∧ n' + 4 * m' ≤ 100 ∧ ds'.length + 4 * m' ≤ 100 ∧ hd'.length + 8 * m' ≤ 100 ∧ qs'.length + m' ≤ 100 ∧ (runB W.rep b' hd' st' qs').ok (oTold cs) ds'.length ∧
          ((runB W.rep b' hd' st' qs').run (oTold cs) ds'.length).1 = res.1 ∧ ds' ++ ((runB W.rep b' hd' st' qs').run (oTold cs) ds'.length).2 = res.2 ∧ Keep (fun b => b = dl ∨ b = al ∨ W.Mu x b) H1 H'' ∧ Tups H1 H'', fun _ _ z => z, ?_⟩
        refine ⟨_, rfl, a, _, _, _, rfl, rfl, SqT.of hat, atI_nat (j := 0) rfl, rfl, _, rfl, ?_⟩
        rw [dec_same]
        refine iteT ?_
        have hstep : runB W.rep (.toss n g) hd' st' qs' = .draw n fun c => runB W.rep (g c.toNat) hd' st' qs' := rfl
        rw [hstep] at ok' er ed
        obtain ⟨c0, c1, ok2⟩ := ok'
        obtain ⟨dxT, hT⟩ := ta'.ob
        refine ⟨_, rfl, a, _, _, _, rfl, rfl, SqT.of hat, atI_nat (j := 1) rfl, _, rfl, tp, dxT, _, rfl, hT, lk_draw _ _, _, rfl, a, _, _, _, rfl, rfl, SqT.of hat, atI_nat (j := 1) rfl, t, _, rfl, .inr (SqT.of ht), ?_⟩
        refine ⟨tp, cl, dl, cs, ds', (n : Int), congrArg (fun z : Nat => [V.ref tp, V.int (z : Int)]) hl, ta', by omega, c0, c1, fun H2 t2 k2 u2 => ?_⟩
        obtain ⟨y, hy, hby⟩ := hx (oTold cs ds'.length n).toNat (by omega)
        obtain ⟨dsl, hdl⟩ := ta'.dlst
        have hal' : ∃ xs, H' al = some (.lst xs) := let ⟨ts, e, _⟩ := ha'; ⟨_, e⟩
        refine ⟨t, xs, _, y, rfl, rfl, SqT.of (u2 _ _ ht), at_of (j := (oTold cs ds'.length n).toNat) (by omega) hy, m - 1, by omega, g (oTold cs ds'.length n).toNat, y, hd', st', qs', ds' ++ [(oTold cs ds'.length n, (n : Int))], n', rfl, BrkAt.tups u2 _ _ hby,
          hdk _ (by omega), t2, W.keep wa' k2 (fun b e => ⟨_, e ▸ hdl⟩) (fun b fb => hfo b fb), ha'.keep k2 u2 nad, inv', by omega, by rw [List.length_append]; show ds'.length + 1 + 4 * (m - 1) ≤ 100; omega, by omega, by omega, ?_, ?_, ?_, ?_, tu.trans u2⟩
        · rw [List.length_append]
          exact ok2
        · rw [List.length_append]
          exact er
        · rw [List.length_append, List.append_assoc]
          exact ed
        · exact kp.trans (k2.mono fun b e => .inl e)
      | look n b1 b2 =>
        obtain ⟨a, y1, y2, rfl, hat, hy1, hy2⟩ := hb'
        obtain ⟨hn, hm1, hd1, hd2⟩ := hde
        refine ⟨_, rfl, a, _, _, _, rfl, rfl, SqT.of hat, atI_nat (j := 0) rfl, rfl, _, rfl, ?_⟩
        rw [n2]
        refine iteT ?_
        refine ⟨fun σ'' H'' => ∃ m', m' < m ∧ ∃ (b' : Brk) (bv' : V) (hd' : Bs) (st' : τ) (qs' : Pairs) (ds' : Dws) (n' : Nat), σ'' = [some bv', some (.ref tp), some (.str (S [])), some (.ref q), some (.str (S hd')), some (.ref sp)] ∧ BrkAt H'' b' bv' ∧ Deep b' m' ∧
          TapeAt K H'' tp cl dl cs ds' ∧ W.At p tp x H'' st' ∧ AskAt H'' al qs' ∧ W.rep.inv st' n' ∧ n' + 4 * m' ≤ 100 ∧ ds'.length + 4 * m' ≤ 100 ∧ hd'.length + 8 * m' ≤ 100 ∧ qs'.length + m' ≤ 100 ∧ (runB W.rep b' hd' st' qs').ok (oTold cs) ds'.length ∧
          ((runB W.rep b' hd' st' qs').run (oTold cs) ds'.length).1 = res.1 ∧ ds' ++ ((runB W.rep b' hd' st' qs').run (oTold cs) ds'.length).2 = res.2 ∧ Keep (fun b => b = dl ∨ b = al ∨ W.Mu x b) H1 H'' ∧ Tups H1 H'', fun _ _ z => z, ?_⟩
        refine ⟨_, rfl, a, _, _, _, rfl, rfl, SqT.of hat, atI_nat (j := 0) rfl, rfl, _, rfl, ?_⟩
        rw [q3]
        refine iteF ?_
        refine ⟨_, rfl, a, _, _, _, rfl, rfl, SqT.of hat, atI_nat (j := 0) rfl, rfl, _, rfl, ?_⟩
        rw [dec_same]
        refine iteT ?_
        refine ⟨_, rfl, a, _, _, _, rfl, rfl, SqT.of hat, atI_nat (j := 1) rfl, (by show 1 ≤ sizeLine; decide), fun t ht => ⟨_, rfl, ?_⟩⟩
        have s3 : Same H' (upd H' t (.tup [.int (n : Int)])) := same_upd ht
        refine ⟨t, [.inr n], hd', rfl, upd_same, (by show 1 ≤ 1000; decide), by omega, rfl, _, rfl, ?_⟩
        have emd : made [.inr n] hd' = [hd'.getD n false] := rfl
        rw [emd, dec_0]
        have hstep : runB W.rep (.look n b1 b2) hd' st' qs' = if hd'.getD n false then runB W.rep b2 hd' st' qs' else runB W.rep b1 hd' st' qs' := rfl
        rw [hstep] at ok' er ed
        have wa3 : W.At p tp x (upd H' t (.tup [.int (n : Int)])) st' := W.keep (N := fun _ => False) wa' (Keep.same s3) (fun _ m => m.elim) fun _ _ m => m
        cases hbit : hd'.getD n false with
        | false =>
          rw [hbit] at ok' er ed
          refine iteT ?_
          exact ⟨_, rfl, a, _, _, _, rfl, rfl, SqT.of (s3 _ _ hat), atI_nat (j := 2) rfl, m - 1, by omega, b1, y1, hd', st', qs', ds', n', rfl, hy1.same s3, hd1, ta'.same s3, wa3, ha'.same s3, inv', by omega, by omega, by omega, by omega, ok', er, ed, kp.trans (Keep.same s3), tu.trans (Tups.same s3)⟩
        | true =>
          rw [hbit] at ok' er ed
          refine iteF ?_
          exact ⟨_, rfl, a, _, _, _, rfl, rfl, SqT.of (s3 _ _ hat), atI_nat (j := 3) rfl, m - 1, by omega, b2, y2, hd', st', qs', ds', n', rfl, hy2.same s3, hd2, ta'.same s3, wa3, ha'.same s3, inv', by omega, by omega, by omega, by omega, ok', er, ed, kp.trans (Keep.same s3), tu.trans (Tups.same s3)⟩
      | ask ps b1 =>
        obtain ⟨a, t, y1, rfl, hat, ht, hy1⟩ := hb'
        obtain ⟨⟨hp8, _⟩, hm1, hd1⟩ := hde
        refine ⟨_, rfl, a, _, _, _, rfl, rfl, SqT.of hat, atI_nat (j := 0) rfl, rfl, _, rfl, ?_⟩
        rw [n3]
        refine iteT ?_
        refine ⟨fun σ'' H'' => ∃ m', m' < m ∧ ∃ (b' : Brk) (bv' : V) (hd' : Bs) (st' : τ) (qs' : Pairs) (ds' : Dws) (n' : Nat), σ'' = [some bv', some (.ref tp), some (.str (S [])), some (.ref q), some (.str (S hd')), some (.ref sp)] ∧ BrkAt H'' b' bv' ∧ Deep b' m' ∧
          TapeAt K H'' tp cl dl cs ds' ∧ W.At p tp x H'' st' ∧ AskAt H'' al qs' ∧ W.rep.inv st' n' ∧ n' + 4 * m' ≤ 100 ∧ ds'.length + 4 * m' ≤ 100 ∧ hd'.length + 8 * m' ≤ 100 ∧ qs'.length + m' ≤ 100 ∧ (runB W.rep b' hd' st' qs').ok (oTold cs) ds'.length ∧
          ((runB W.rep b' hd' st' qs').run (oTold cs) ds'.length).1 = res.1 ∧ ds' ++ ((runB W.rep b' hd' st' qs').run (oTold cs) ds'.length).2 = res.2 ∧ Keep (fun b => b = dl ∨ b = al ∨ W.Mu x b) H1 H'' ∧ Tups H1 H'', fun _ _ z => z, ?_⟩
        refine ⟨_, rfl, a, _, _, _, rfl, rfl, SqT.of hat, atI_nat (j := 0) rfl, rfl, _, rfl, ?_⟩
        rw [q5]
        refine iteF ?_
        refine ⟨_, rfl, a, _, _, _, rfl, rfl, SqT.of hat, atI_nat (j := 0) rfl, rfl, _, rfl, ?_⟩
        rw [q6]
        refine iteF ?_
        have hstep : runB W.rep (.ask ps b1) hd' st' qs' = (W.rep.go st' (made ps hd')).bind fun r => runB W.rep b1 (hd' ++ r.1) r.2 (qs' ++ [(made ps hd', r.1)]) := rfl
        rw [hstep] at ok' er ed
        rw [Tr.ok_bind] at ok'
        rw [Tr.run_bind] at er ed
        obtain ⟨ok1, ok2⟩ := ok'
        obtain ⟨a1, a2, a3⟩ := Tr.all_run (oTold cs) _ 0 ds'.length (W.rep.all st' n' (made ps hd') 0 inv') ok1
        refine ⟨_, rfl, _, rfl, q, dq, _, rfl, hq', nk_answer _ _, _, rfl, a, _, _, _, rfl, rfl, SqT.of hat, atI_nat (j := 1) rfl, _, rfl, t, ps, hd', rfl, ht, by omega, by omega, ?_⟩
        refine ⟨q, dq, p, tp, cl, dl, al, cs, ds', x, st', made ps hd', n', qs', rfl, hq', ha', nad, nac, nfo, by omega, ta', wa', inv', by omega, by omega, by rw [made_length]; omega, hfo, ok1, fun H2 t2 w2 g2 k2 u2 => ?_⟩
        generalize hr1 : (W.rep.go st' (made ps hd')).run (oTold cs) ds'.length = r1 at a1 a2 a3 ok2 er ed t2 w2 g2 ⊢
        have hlr : (S hd').length + (S r1.1.1).length ≤ sizeLine := by
          rw [S_len, S_len]
          exact Nat.le_of_lt (small5 (by omega))
        have kp2 := kp.trans k2
        have hq2 := kp2 _ _ hq1 (notM hq1)
        have hs2 := kp2 _ _ hs1 (notM hs1)
        refine ⟨_, _, rfl, rfl, hlr, ?_⟩
        rw [S_app]
        refine ⟨_, rfl, sp, dsp, _, rfl, hs2, zk_now _, sp, dsp, q, dq, _, rfl, hs2, hq2, _, rfl, ?_⟩
        refine iteF ?_
        refine ⟨_, rfl, a, _, _, _, rfl, rfl, SqT.of (u2 _ _ hat), atI_nat (j := 2) rfl, m - 1, by omega, b1, y1, hd' ++ r1.1.1, r1.1.2, qs' ++ [(made ps hd', r1.1.1)], ds' ++ r1.2, n' + 4, rfl, BrkAt.tups u2 _ _ hy1, hd1, t2, w2, g2, a2, by omega, by rw [List.length_append]; omega,
          by rw [List.length_append]; omega, by rw [List.length_append]; show qs'.length + 1 + (m - 1) ≤ 100; omega, ?_, ?_, ?_, kp2, tu.trans u2⟩
        · rw [List.length_append]
          exact ok2
        · rw [List.length_append]
          exact er
        · rw [List.length_append, List.append_assoc]
          exact ed
/-! ## run_breaker -/
theorem sc_runB : FnScope ["breaker", "tape", "challenge", "world"] ["breaker", "tape", "challenge", "world"] (defScope s_run_breaker) := C8.fnScope_by (by decide +kernel)
theorem cal_runB (T : Tx K mg w) {τ : Type} (W : Wld τ) {j : Nat} (hj : j ≤ 4) (HW : C8.Met P w K mg base j W.C "answer" (spAns K W) []) : C8.Cal P w K mg base 7 "run_breaker" (spRunP K W) [] := by
  refine T.d_run_breaker.cal sc_runB (fun vs H Q E h => ?_) fun f cdv A outer s H vs Q E hr h => ?_
  · obtain ⟨b, d, bv, q, dq, p, tp, cl, dl, al, cs, x, st, rfl, _⟩ := h
    rfl
  · obtain ⟨es, en, D⟩ := T.runs
    have HR := cal_runP (P := P) (base := base) T W hj HW
    have hb : ∃ b bv q tp, vs = [bv, .ref tp, .str (S []), .ref q] ∧ BrkAt H b bv := let ⟨b, d, bv, q, dq, p, tp, cl, dl, al, cs, x, st, e, hb, _⟩ := h; ⟨b, bv, q, tp, e, hb⟩
    obtain ⟨b, bv, q, tp, rfl, hb⟩ := hb
    refine ⟨_, pss_cons (ps_if (pt_cmpR (op_in_kd D) (pe_ix ix_tup (pv 0) pe_int (fun _ _ => rfl)) (pe_glob (v := .ref (He.ga K "RUNS")) rfl T.g_RUNS rfl) (by rfl)) pss_never pss_nil) <|
      pss_one (ps_ret (C8.pe_c HR hr (by decide) rfl (pa_cons (pv 0) (pa_cons (pv 1) (pa_cons (pv 2) (pa_cons (pv 3) pa_nil)))))), ?_⟩
    obtain ⟨a, x, y, r, rfl, ha, _, hx⟩ := hb.word
    have hn : PySem.W.nsIn K (He.ga K "RUNS") x = some none := by
      rcases hx with rfl | rfl | rfl | rfl
      · exact T.runSay
      · exact T.runToss
      · exact T.runLook
      · exact T.runAsk
    refine ⟨_, rfl, a, _, _, _, rfl, rfl, SqT.of ha, atI_nat (j := 0) rfl, x, none, rfl, rfl, hn, _, rfl, ?_⟩
    refine iteF ?_
    exact ⟨_, rfl, _, rfl, _, rfl, _, rfl, h⟩
end
end Bb
namespace Bb
open PySem PySem.Spec PyProof.Rows L2
/-! ## The games -/
inductive Game where
  | perm (l : Nat)
  | swaps (h rounds : Nat)
def GmAt (H : Hp) (g : Addr) : Game → Prop
  | .perm l => H g = some (.tup [.str "permutation", .int (l : Int)])
  | .swaps h r => H g = some (.tup [.str "swaps", .int (h : Int), .int (r : Int)])
def GmOk : Game → Prop
  | .perm l => 1 ≤ l ∧ l ≤ 3
  | .swaps h r => 1 ≤ h ∧ h ≤ 2 ∧ 1 ≤ r ∧ r ≤ 4
theorem GmAt.tups {H H' : Hp} {g : Addr} (t : Tups H H') : ∀ {G : Game}, GmAt H g G → GmAt H' g G
  | .perm _, h => t _ _ h
  | .swaps _ _, h => t _ _ h
section
variable {P : Program} {w : World} {K : PySem.W.Frag} {mg : Str → Option Value} {base : Heap}
def spRight : Sp := fun vs H Q _ => ∃ (g : Addr) (G : Game), vs = [.ref g] ∧ GmAt H g G ∧ GmOk G ∧ ∀ H', Same H H' → Q (.bl true) H'
theorem sc_right : FnScope ["game", "kind", "rest", "right"] ["game"] (defScope s_is_right) := C8.fnScope_by (by decide +kernel)
theorem kinds_ne : decide (V.str ("swaps" : Str) = V.str ("permutation" : Str)) = false := by decide +kernel
theorem cal_right (T : Tx K mg w) : C8.Cal P w K mg base 2 "is_right" spRight [] := by
  refine T.d_is_right.cal sc_right (fun vs H Q E h => ?_) fun f cdv A outer s H vs Q E hr h => ?_
  · obtain ⟨g, G, rfl, _⟩ := h
    rfl
  · obtain ⟨g, G, rfl, hg, ok, k⟩ := h
    refine ⟨_, pss_cons (ps_par (i := 1) (j := 2) (by rfl) sc_right.nd rfl rfl (by decide) rfl rfl (pa_cons (pe_ix ix_tup (pv 0) pe_int (fun _ _ => rfl)) (pa_cons (pe_slice sl_tup (pv 0) (po_some pe_int) po_none) pa_nil)) (by rfl)) <|
      pss_cons (ps_if (pt_cmpR op_eq (pv 1) pe_str (nomark _)) (pss_one (ps_ret (C8.pe_c (cal_is_number T) hr (by decide) rfl (pa_cons (pe_ix ix_tup (pv 2) pe_int (fun _ _ => rfl)) (pa_cons pe_int (pa_cons pe_int pa_nil)))))) pss_nil) <|
      pss_cons (ps_if (pt_cmpR op_eq (pv 1) pe_str (nomark _)) (pss_one (ps_ret (pe_and (C8.pe_c (cal_is_number T) hr (by decide) rfl (pa_cons (pe_ix ix_tup (pv 2) pe_int (fun _ _ => rfl)) (pa_cons pe_int (pa_cons pe_int pa_nil))))
        (pe_one (C8.pe_c (cal_is_number T) hr (by decide) rfl (pa_cons (pe_ix ix_tup (pv 2) pe_int (fun _ _ => rfl)) (pa_cons pe_int (pa_cons pe_int pa_nil)))))))) pss_nil) pss_never, ?_⟩
    cases G with
    | perm l =>
      obtain ⟨l1, l3⟩ := ok
      refine ⟨_, rfl, g, _, _, _, rfl, rfl, SqT.of hg, atI_nat (j := 0) rfl, _, rfl, _, rfl, g, _, rfl, SqT.of hg, fun e => absurd (show (1 : Nat) = 0 from e.1) (by decide), fun p hp0 => ⟨_, _, rfl, ?_⟩⟩
      have s1 : Same H (upd H p (.tup [.int (l : Int)])) := same_upd hp0
      refine ⟨_, rfl, rfl, _, rfl, ?_⟩
      rw [dec_same]
      refine iteT ?_
      refine ⟨_, rfl, p, [.int (l : Int)], 0, _, rfl, rfl, SqT.of upd_same, atI_nat (j := 0) rfl, (l : Int), 1, 8, rfl, ?_⟩
      rw [decide_eq_true (show (1 : Int) ≤ (l : Int) from by omega), decide_eq_true (show (l : Int) ≤ 8 from by omega)]
      exact k _ s1
    | swaps h r =>
      obtain ⟨h1, h2, r1, r4⟩ := ok
      refine ⟨_, rfl, g, _, _, _, rfl, rfl, SqT.of hg, atI_nat (j := 0) rfl, _, rfl, _, rfl, g, _, rfl, SqT.of hg, fun e => absurd (show (1 : Nat) = 0 from e.1) (by decide), fun p hp0 => ⟨_, _, rfl, ?_⟩⟩
      have s1 : Same H (upd H p (.tup [.int (h : Int), .int (r : Int)])) := same_upd hp0
      refine ⟨_, rfl, rfl, _, rfl, ?_⟩
      rw [kinds_ne]
      refine iteF ?_
      refine ⟨_, rfl, rfl, _, rfl, ?_⟩
      rw [dec_same]
      refine iteT ?_
      refine ⟨_, rfl, p, [.int (h : Int), .int (r : Int)], 0, _, rfl, rfl, SqT.of upd_same, atI_nat (j := 0) rfl, (h : Int), 1, 4, rfl, _, rfl, ?_⟩
      rw [decide_eq_true (show (1 : Int) ≤ (h : Int) from by omega), decide_eq_true (show (h : Int) ≤ 4 from by omega)]
      refine iteT ?_
      refine ⟨_, rfl, p, [.int (h : Int), .int (r : Int)], 1, _, rfl, rfl, SqT.of upd_same, atI_nat (j := 1) rfl, (r : Int), 1, 4, rfl, ?_⟩
      rw [decide_eq_true (show (1 : Int) ≤ (r : Int) from by omega), decide_eq_true (show (r : Int) ≤ 4 from by omega)]
      exact k _ s1
/-! ## check_game -/
def spGame : Sp := fun vs H Q _ => ∃ (g : Addr) (G : Game), vs = [.ref g] ∧ GmAt H g G ∧ GmOk G ∧ ∀ H', Same H H' → Q .non H'
theorem sc_game : FnScope ["game"] ["game"] (defScope s_check_game) := C8.fnScope_by (by decide +kernel)
theorem cal_game (T : Tx K mg w) : C8.Cal P w K mg base 3 "check_game" spGame [] := by
  refine T.d_check_game.cal sc_game (fun vs H Q E h => ?_) fun f cdv A outer s H vs Q E hr h => ?_
  · obtain ⟨g, G, rfl, _⟩ := h
    rfl
  · obtain ⟨g, G, rfl, hg, ok, k⟩ := h
    obtain ⟨es, en, D⟩ := T.sizes
    refine ⟨_, pss_cons (ps_if (PW.pt (pw_or (pt_not (pt_val (pe_callB call_isi rfl T.f_isinstance (by decide +kernel) (pa_cons (pv 0) (pa_cons (pe_bltn (v := .ty "tuple") rfl T.f_tuple (by decide +kernel) rfl) pa_nil)))))
        (pw_or (pt_cmpR op_eq (pe_callB call_len_seq rfl T.f_len PySem.boot_len (pa_cons (pv 0) pa_nil)) pe_int (nomark _))
        (pw_or (pt_not (pt_val (pe_callB call_isi rfl T.f_isinstance (by decide +kernel) (pa_cons (pe_ix ix_tup (pv 0) pe_int (fun _ _ => rfl)) (pa_cons (pe_bltn (v := .ty "str") rfl T.f_str (by decide +kernel) rfl) pa_nil)))))
        (pw_or1 (pt_cmpR (op_notIn_kd D) (pe_ix ix_tup (pv 0) pe_int (fun _ _ => rfl)) (pe_glob (v := .ref (He.ga K "SIZES")) rfl T.g_SIZES rfl) (by rfl))))))) pss_never pss_nil) <|
      pss_one (ps_if (PW.pt (pw_or (pt_cmpR op_ne (pe_callB call_len_seq rfl T.f_len PySem.boot_len (pa_cons (pv 0) pa_nil)) (pe_ix ix_kdict (pe_glob (v := .ref (He.ga K "SIZES")) rfl T.g_SIZES rfl) (pe_ix ix_tup (pv 0) pe_int (fun _ _ => rfl)) (fun _ _ => rfl)) (nomark _))
        (pw_or1 (pt_not (pt_val (C8.pe_c (cal_right T) hr (by decide) rfl (pa_cons (pv 0) pa_nil))))))) pss_never pss_nil), ?_⟩
    have hh : ∃ (x : Str) (r : List V) (u : Value), H g = some (.tup (.str x :: r)) ∧ PySem.W.nsIn K (He.ga K "SIZES") x = some (some u) ∧ RelV (.int ((r.length + 1 : Nat) : Int)) u := by
      cases G with
      | perm l =>
        obtain ⟨u, h1, h2⟩ := T.sizeP
        exact ⟨_, _, u, hg, h1, h2⟩
      | swaps h r =>
        obtain ⟨u, h1, h2⟩ := T.sizeS
        exact ⟨_, _, u, hg, h1, h2⟩
    obtain ⟨x, r, u, ha, hu1, hu2⟩ := hh
    have e0 : atI (V.str x :: r) 0 = some (.str x) := atI_nat (j := 0) rfl
    refine ⟨_, rfl, .ref g, .ty "tuple", _, _, true, rfl, .ty _, .base (.tup ha), kit_ty (by decide +kernel), _, rfl, iteF ?_⟩
    refine ⟨_, rfl, g, _, rfl, .inr (SqT.of ha), rfl, _, rfl, ?_⟩
    rw [decide_eq_false (show ¬ (V.int (((V.str x :: r).length : Nat) : Int) = V.int 0) from fun e => by
      have e2 : ((r.length + 1 : Nat) : Int) = 0 := V.int.inj e
      omega)]
    refine iteF ?_
    refine ⟨_, rfl, g, _, _, _, rfl, rfl, SqT.of ha, e0, .str x, .ty "str", _, _, true, rfl, .ty _, .base (.str x), kit_ty (by decide +kernel), _, rfl, iteF ?_⟩
    refine ⟨_, rfl, g, _, _, _, rfl, rfl, SqT.of ha, e0, x, some u, rfl, rfl, hu1, _, rfl, ?_⟩
    refine iteF ?_
    refine ⟨_, rfl, g, _, rfl, .inr (SqT.of ha), _, rfl, g, _, _, _, rfl, rfl, SqT.of ha, e0, _, _, _, rfl, rfl, ⟨_, _, u, D.at_, D.lit, hu1, hu2⟩, rfl, _, rfl, ?_⟩
    rw [show (!decide (V.int (((V.str x :: r).length : Nat) : Int) = V.int ((r.length + 1 : Nat) : Int))) = false from congrArg (fun b => !b) (decide_eq_true (show V.int (((V.str x :: r).length : Nat) : Int) = V.int ((r.length + 1 : Nat) : Int) from rfl))]
    refine iteF ?_
    exact ⟨_, rfl, g, G, rfl, hg, ok, fun H' sm => ⟨_, rfl, k H' sm⟩⟩
end
end Bb
namespace Bb
open PySem PySem.Spec PyProof.Rows L2
/-! ## Play -/
def fPlay (o : Int) (s : Str) (dl al : Addr) : List (Str × V) := [("outcome", .int o), ("said", .str s), ("draws", .ref dl), ("asked", .ref al)]
theorem yk_outcome (o : Int) (s : Str) (dl al : Addr) : (fPlay o s dl al).lookup ("outcome" : Str) = some (.int o) := by kernel_rfl
theorem yk_said (o : Int) (s : Str) (dl al : Addr) : (fPlay o s dl al).lookup ("said" : Str) = some (.str s) := by kernel_rfl
theorem yk_draws (o : Int) (s : Str) (dl al : Addr) : (fPlay o s dl al).lookup ("draws" : Str) = some (.ref dl) := by kernel_rfl
theorem yk_asked (o : Int) (s : Str) (dl al : Addr) : (fPlay o s dl al).lookup ("asked" : Str) = some (.ref al) := by kernel_rfl
theorem yk_put (o : Int) (s : Str) (dl al : Addr) : putF "asked" (.ref al) (putF "draws" (.ref dl) (putF "said" (.str s) (putF "outcome" (.int o) []))) = fPlay o s dl al := by kernel_rfl
/-! ## Table -/
def kindOf : Game → Str
  | .perm _ => "permutation"
  | .swaps _ _ => "swaps"
def fTab (g tp : Addr) (G : Game) (wv : V) : List (Str × V) := [("game", .ref g), ("tape", .ref tp), ("kind", .str (kindOf G)), ("challenge", .str (S [])), ("world", wv), ("secret", .non)]
section
variable (g tp : Addr) (G : Game) (wv : V)
theorem bk_game : (fTab g tp G wv).lookup ("game" : Str) = some (.ref g) := by kernel_rfl
theorem bk_tape : (fTab g tp G wv).lookup ("tape" : Str) = some (.ref tp) := by kernel_rfl
theorem bk_kind : (fTab g tp G wv).lookup ("kind" : Str) = some (.str (kindOf G)) := by kernel_rfl
theorem bk_challenge : (fTab g tp G wv).lookup ("challenge" : Str) = some (.str (S [])) := by kernel_rfl
theorem bk_world : (fTab g tp G wv).lookup ("world" : Str) = some wv := by kernel_rfl
theorem bk_begin : (fTab g tp G wv).lookup ("begin_asks" : Str) = none := by kernel_rfl
theorem bk_won : (fTab g tp G wv).lookup ("has_won" : Str) = none := by kernel_rfl
theorem bk_put (v : V) : putF "world" v (fTab g tp G wv) = fTab g tp G v := by kernel_rfl
theorem bk_put0 : putF "secret" .non (putF "world" wv (putF "challenge" (.str (S [])) (putF "kind" (.str (kindOf G)) (putF "tape" (.ref tp) (putF "game" (.ref g) []))))) = fTab g tp G wv := by kernel_rfl
end
theorem kind_at {H : Hp} {g : Addr} : ∀ {G : Game}, GmAt H g G → ∃ r, H g = some (.tup (.str (kindOf G) :: r))
  | .perm _, h => ⟨_, h⟩
  | .swaps _ _, h => ⟨_, h⟩
/-- the world of a game is new at wp -/
def WMade (K : PySem.W.Frag) (H H' : Hp) (wp tp : Addr) : Game → Prop
  | .perm l => ∃ kd, H kd = none ∧ (∃ dx, H' wp = some (.ins (He.ga K "PermutationWorld") dx (fPerm tp kd l))) ∧ H' kd = some (.dK [])
  | .swaps h r => ∃ x : SwPar, H x.fl = none ∧ (∀ b, b ∈ x.kds → H b = none) ∧ SwapAt K wp tp h r x H' []
section
variable {P : Program} {w : World} {K : PySem.W.Frag} {mg : Str → Option Value} {base : Heap}
def spPlayI (K : PySem.W.Frag) : Sp := fun vs H Q _ => ∃ (p dx : Addr) (o : Int) (s : Str) (dl al : Addr), vs = [.ref p, .int o, .str s, .ref dl, .ref al] ∧ H p = some (.ins (He.ga K "Play") dx []) ∧
  ∀ H', H' p = some (.ins (He.ga K "Play") dx (fPlay o s dl al)) → (∀ b o, H b = some o → b ≠ p → H' b = some o) → Q .non H'
theorem sc_PlayI : FnScope ["self", "outcome", "said", "draws", "asked"] ["self", "outcome", "said", "draws", "asked"] (defScope s_Play_init) := C8.fnScope_by (by decide +kernel)
theorem mak_Play (T : Tx K mg w) : C8.Mak P w K mg base 1 "Play" (He.ga K "Play") (spPlayI K) [] := by
  refine T.i_Play.mak sc_PlayI (fun vs H Q E h => ?_) fun f cdv A outer s H vs Q E hr h => ?_
  · obtain ⟨p, dx, o, z, dl, al, rfl, _⟩ := h
    rfl
  · obtain ⟨p, dx, o, z, dl, al, rfl, hp, k⟩ := h
    refine ⟨_, pss_cons (ps_fld (pv 0) (pv 1) rfl) <| pss_cons (ps_fld (pv 0) (pv 2) rfl) <| pss_cons (ps_fld (pv 0) (pv 3) rfl) <| pss_one (ps_fld (pv 0) (pv 4) rfl), ?_⟩
    refine ⟨_, rfl, _, rfl, p, _, dx, [], rfl, hp, T.c_Play, T.n_Play_outcome, (by show 0 < 1000; decide), ?_⟩
    refine ⟨_, rfl, _, rfl, p, _, dx, _, rfl, upd_same, T.c_Play, T.n_Play_said, (by show 1 < 1000; decide), ?_⟩
    refine ⟨_, rfl, _, rfl, p, _, dx, _, rfl, upd_same, T.c_Play, T.n_Play_draws, (by show 2 < 1000; decide), ?_⟩
    refine ⟨_, rfl, _, rfl, p, _, dx, _, rfl, upd_same, T.c_Play, T.n_Play_asked, (by show 3 < 1000; decide), ?_⟩
    exact k _ (by rw [upd_same, yk_put]) fun b o e hb => by
      rw [upd_ne hb, upd_ne hb, upd_ne hb, upd_ne hb]
      exact e
def spBegin (K : PySem.W.Frag) : Sp := fun vs H Q _ => ∃ (p dx g tp : Addr) (G : Game) (wv : V), vs = [.ref p] ∧ H p = some (.ins (He.ga K "Table") dx (fTab g tp G wv)) ∧ GmAt H g G ∧ GmOk G ∧
  ∀ wp H', WMade K H H' wp tp G → H' p = some (.ins (He.ga K "Table") dx (fTab g tp G (.ref wp))) → (∀ b o, H b = some o → b ≠ p → H' b = some o) → Q .non H'
theorem sc_begin : FnScope ["self", "game", "tape"] ["self"] (defScope s_Table_begin_asks) := C8.fnScope_by (by decide +kernel)
theorem met_begin (T : Tx K mg w) : C8.Met P w K mg base 5 (He.ga K "Table") "begin_asks" (spBegin K) [] := by
  refine T.m_Table_begin_asks.met sc_begin (fun vs H Q E h => ?_) fun f cdv A outer s H vs Q E hr h => ?_
  · obtain ⟨p, dx, g, tp, G, wv, rfl, _⟩ := h
    rfl
  · obtain ⟨p, dx, g, tp, G, wv, rfl, hp, hg, ok, k⟩ := h
    refine ⟨_, pss_cons (ps_par (i := 1) (j := 2) (by rfl) sc_begin.nd rfl rfl (by decide) rfl rfl (pa_cons (pe_fld (pv 0) rfl) (pa_cons (pe_fld (pv 0) rfl) pa_nil)) (by rfl)) <|
      pss_one (ps_if (pt_cmpR op_eq (pe_fld (pv 0) rfl) pe_str (nomark _))
        (pss_one (ps_fld (pv 0) (C8.pe_mk (mak_Perm T) hr (by decide) rfl (pa_cons (pv 2) (pa_cons (pe_ix ix_tup (pv 1) pe_int (fun _ _ => rfl)) pa_nil))) rfl))
        (pss_one (ps_if (pt_cmpR op_eq (pe_fld (pv 0) rfl) pe_str (nomark _))
          (pss_one (ps_fld (pv 0) (C8.pe_mk (mak_Swap T) hr (by decide) rfl (pa_cons (pv 2) (pa_cons (pe_ix ix_tup (pv 1) pe_int (fun _ _ => rfl)) (pa_cons (pe_ix ix_tup (pv 1) pe_int (fun _ _ => rfl)) pa_nil)))) rfl))
          pss_never))), ?_⟩
    refine ⟨_, rfl, p, _, dx, _, _, rfl, hp, T.c_Table, T.n_Table_game, bk_game _ _ _ _, _, rfl, p, _, dx, _, _, rfl, hp, T.c_Table, T.n_Table_tape, bk_tape _ _ _ _, _, _, rfl, ?_⟩
    refine ⟨_, rfl, p, _, dx, _, _, rfl, hp, T.c_Table, T.n_Table_kind, bk_kind _ _ _ _, rfl, _, rfl, ?_⟩
    cases G with
    | perm l =>
      rw [show decide (V.str (kindOf (.perm l)) = V.str ("permutation" : Str)) = true from dec_same _]
      refine iteT ?_
      refine ⟨_, rfl, _, rfl, g, _, _, _, rfl, rfl, SqT.of hg, atI_nat (j := 1) rfl, fun wp dw nw ndw _ => ⟨wp, dw, tp, l, rfl, upd_same, fun kd H2 hkd e1 e2 kp => ⟨rfl, ?_⟩⟩⟩
      have s2 : Same H H2 := Same.made nw ndw kp
      have hp2 := s2 _ _ hp
      refine ⟨_, rfl, p, _, dx, _, rfl, hp2, T.c_Table, T.n_Table_world, (by show 6 < 1000; decide), ?_⟩
      refine k wp _ ⟨kd, (same_two (C := wp) nw ndw).free hkd, ⟨dw, ?_⟩, ?_⟩ ?_ fun b o e hb => ?_
      · rw [upd_ne fun q => ?_]
        · exact e1
        · rw [q, hp] at nw
          cases nw
      · rw [upd_ne (ne_of e2 hp2 (by intro q; cases q))]
        exact e2
      · rw [upd_same, bk_put]
      · rw [upd_ne hb]
        exact s2 _ _ e
    | swaps h r =>
      obtain ⟨h1, h2, r1, r4⟩ := ok
      rw [show decide (V.str (kindOf (.swaps h r)) = V.str ("permutation" : Str)) = false from kinds_ne]
      refine iteF ?_
      refine ⟨_, rfl, p, _, dx, _, _, rfl, hp, T.c_Table, T.n_Table_kind, bk_kind _ _ _ _, rfl, _, rfl, ?_⟩
      rw [show decide (V.str (kindOf (.swaps h r)) = V.str ("swaps" : Str)) = true from dec_same _]
      refine iteT ?_
      refine ⟨_, rfl, _, rfl, g, _, _, _, rfl, rfl, SqT.of hg, atI_nat (j := 1) rfl, _, rfl, g, _, _, _, rfl, rfl, SqT.of hg, atI_nat (j := 2) rfl, fun wp dw nw ndw _ => ⟨wp, dw, tp, h, r, rfl, upd_same, r4, fun x H2 hfl hkd sw kp => ⟨rfl, ?_⟩⟩⟩
      have s2 : Same H H2 := Same.made nw ndw kp
      have hp2 := s2 _ _ hp
      refine ⟨_, rfl, p, _, dx, _, rfl, hp2, T.c_Table, T.n_Table_world, (by show 6 < 1000; decide), ?_⟩
      have s3 := same_two (C := wp) nw ndw (u := .own wp) (v := .ins (He.ga K "SwapWorld") dw []) (H := H)
      refine k wp _ ⟨x, s3.free hfl, fun b hb => s3.free (hkd b hb), ?_⟩ ?_ fun b o e hb => ?_
      · obtain ⟨⟨dy, a1⟩, a2, l1, l2, nd, a3⟩ := sw
        have off : ∀ (b : Addr) (C dz : Addr) (q : Str × V) (fs : List (Str × V)), H2 b = some (.ins C dz (q :: fs)) → q.1 ≠ "game" → b ≠ p := fun b C dz q fs e nq z => by
          rw [z, hp2] at e
          have y := HO.ins.inj (Option.some.inj e)
          exact nq (congrArg Prod.fst (List.cons.inj y.2.2).1).symm
        refine ⟨⟨dy, (upd_ne (off _ _ _ _ _ a1 (show ("h" : Str) ≠ "game" from by decide +kernel))).trans a1⟩, (upd_ne (ne_of a2 hp2 (by intro q; cases q))).trans a2, l1, l2, nd, fun t f kd e1 e2 => ?_⟩
        obtain ⟨⟨dz, b1⟩, b2⟩ := a3 t f kd e1 e2
        exact ⟨⟨dz, (upd_ne (off _ _ _ _ _ b1 (show ("tape" : Str) ≠ "game" from by decide +kernel))).trans b1⟩, (upd_ne (ne_of b2 hp2 (by intro q; cases q))).trans b2⟩
      · rw [upd_same, bk_put]
      · rw [upd_ne hb]
        exact s2 _ _ e
def spTableI (K : PySem.W.Frag) : Sp := fun vs H Q _ => ∃ (p dx g tp : Addr) (G : Game), vs = [.ref p, .ref g, .ref tp] ∧ H p = some (.ins (He.ga K "Table") dx []) ∧ GmAt H g G ∧ GmOk G ∧
  ∀ wp H', WMade K H H' wp tp G → H' p = some (.ins (He.ga K "Table") dx (fTab g tp G (.ref wp))) → (∀ b o, H b = some o → b ≠ p → H' b = some o) → Q .non H'
theorem sc_TableI : FnScope ["self", "game", "tape"] ["self", "game", "tape"] (defScope s_Table_init) := C8.fnScope_by (by decide +kernel)
def fiveK : List V := [.str "permutation", .str "swaps", .str "function", .str "marks", .str "secrets"]
theorem five_in : ∀ G : Game, inV (.str (kindOf G)) fiveK = true
  | .perm _ => show inV (.str "permutation") fiveK = true from by decide +kernel
  | .swaps _ _ => show inV (.str "swaps") fiveK = true from by decide +kernel
theorem GmAt.same {H H' : Hp} {g : Addr} (t : Same H H') {G : Game} (h : GmAt H g G) : GmAt H' g G := h.tups (Tups.same t)
theorem GmAt.keep {H H' : Hp} {g p : Addr} {C dx : Addr} {fs : List (Str × V)} (hp : H p = some (.ins C dx fs)) (t : ∀ b o, H b = some o → b ≠ p → H' b = some o) {G : Game} (h : GmAt H g G) : GmAt H' g G := by
  refine h.tups fun a xs e => t a _ e (ne_of e hp (by intro q; cases q))
theorem WMade.pre {H0 H H' : Hp} {wp tp : Addr} : ∀ {G : Game}, WMade K H H' wp tp G → (∀ b, H b = none → H0 b = none) → WMade K H0 H' wp tp G
  | .perm _, ⟨kd, a, b⟩, h => ⟨kd, h _ a, b⟩
  | .swaps _ _, ⟨x, a, b, c⟩, h => ⟨x, h _ a, fun d hd => h _ (b d hd), c⟩
theorem mak_Table (T : Tx K mg w) : C8.Mak P w K mg base 6 "Table" (He.ga K "Table") (spTableI K) [] := by
  refine T.i_Table.mak sc_TableI (fun vs H Q E h => ?_) fun f cdv A outer s H vs Q E hr h => ?_
  · obtain ⟨p, dx, g, tp, G, rfl, _⟩ := h
    rfl
  · obtain ⟨p, dx, g, tp, G, rfl, hp, hg, ok, k⟩ := h
    refine ⟨_, pss_cons (ps_fld (pv 0) (pv 1) rfl) <| pss_cons (ps_fld (pv 0) (pv 2) rfl) <| pss_cons (ps_fld (pv 0) (pe_ix ix_tup (pv 1) pe_int (fun _ _ => rfl)) rfl) <| pss_cons (ps_fld (pv 0) pe_str rfl) <|
      pss_cons (ps_fld (pv 0) (pe_bare (C := He.ga K "Silent") T.b_Silent rfl T.g_Silent) rfl) <| pss_cons (ps_fld (pv 0) pe_non rfl) <|
      pss_one (ps_if (pt_cmpR op_in_seq (pe_fld (pv 0) rfl) (pe_tup (pa_cons pe_str (pa_cons pe_str (pa_cons pe_str (pa_cons pe_str (pa_cons pe_str pa_nil)))))) (by rfl)) (pss_one (ps_expr (C8.pe_mt0 (met_begin T) hr (by decide) (pv 0)))) pss_never), ?_⟩
    refine ⟨_, rfl, _, rfl, p, _, dx, [], rfl, hp, T.c_Table, T.n_Table_game, (by show 0 < 1000; decide), ?_⟩
    refine ⟨_, rfl, _, rfl, p, _, dx, _, rfl, upd_same, T.c_Table, T.n_Table_tape, (by show 1 < 1000; decide), ?_⟩
    obtain ⟨r, hg0⟩ := kind_at hg
    have npg : g ≠ p := ne_of hg0 hp (by intro q; cases q)
    refine ⟨_, rfl, g, _, _, _, rfl, rfl, SqT.of ((upd_ne npg).trans ((upd_ne npg).trans hg0)), atI_nat (j := 0) rfl, _, rfl, p, _, dx, _, rfl, upd_same, T.c_Table, T.n_Table_kind, (by show 2 < 1000; decide), ?_⟩
    refine ⟨_, rfl, p, _, dx, _, rfl, upd_same, T.c_Table, T.n_Table_challenge, (by show 3 < 1000; decide), ?_⟩
    generalize e4 : upd (upd (upd (upd H p _) p _) p _) p _ = H4
    have hp4 : H4 p = some (.ins (He.ga K "Table") dx (putF "challenge" (.str (S [])) (putF "kind" (.str (kindOf G)) (putF "tape" (.ref tp) (putF "game" (.ref g) []))))) := by rw [← e4, upd_same]; exact congrArg (fun z => some (HO.ins _ dx (putF _ (V.str z) _))) S_nil.symm
    have k4 : ∀ b o, H b = some o → b ≠ p → H4 b = some o := fun b o e hb => by
      rw [← e4, upd_ne hb, upd_ne hb, upd_ne hb, upd_ne hb]
      exact e
    refine fun x dz nx ndz nxd => ?_
    have nxp : p ≠ x := ne_of_none hp4 nx
    have nzp : p ≠ dz := ne_of_none hp4 ndz
    have s5 : Same H4 (upd (upd H4 dz (.own x)) x (.ins (He.ga K "Silent") dz [])) := same_two (C := x) nx ndz
    refine ⟨_, rfl, p, _, dx, _, rfl, s5 _ _ hp4, T.c_Table, T.n_Table_world, (by show 4 < 1000; decide), ?_⟩
    refine ⟨_, rfl, p, _, dx, _, rfl, upd_same, T.c_Table, T.n_Table_secret, (by show 5 < 1000; decide), ?_⟩
    rw [bk_put0]
    generalize e6 : upd (upd (upd (upd H4 dz _) x _) p _) p _ = H6
    have hp6 : H6 p = some (.ins (He.ga K "Table") dx (fTab g tp G (.ref x))) := by rw [← e6, upd_same]
    have k6 : ∀ b o, H b = some o → b ≠ p → H6 b = some o := fun b o e hb => by
      rw [← e6, upd_ne hb, upd_ne hb]
      exact s5 _ _ (k4 b o e hb)
    refine ⟨_, rfl, p, _, dx, _, _, rfl, hp6, T.c_Table, T.n_Table_kind, bk_kind _ _ _ _, (by show 5 ≤ sizeLine; decide), fun t ht => ?_⟩
    have s7 : Same H6 (upd H6 t (.tup fiveK)) := same_upd ht
    refine ⟨t, fiveK, rfl, .inr (SqT.of upd_same), rfl, (by decide +kernel), _, rfl, ?_⟩
    rw [show (if false = true then !inV (V.str (kindOf G)) fiveK else inV (V.str (kindOf G)) fiveK) = true from five_in G]
    refine iteT ?_
    have hp7 := s7 _ _ hp6
    refine ⟨_, rfl, p, dx, _, rfl, hp7, bk_begin _ _ _ _, p, dx, g, tp, G, .ref x, rfl, hp7, (GmAt.keep hp k6 hg).same s7, ok, fun wp H8 wm e8 k8 => ?_⟩
    refine k wp H8 (wm.pre fun b hb => ?_) e8 fun b o e hb => k8 b o (s7 _ _ (k6 b o e hb)) hb
    cases q : H b with
    | none => rfl
    | some o =>
      by_cases hbp : b = p
      · rw [hbp] at hb
        exact absurd (hp7.symm.trans hb) fun z => nomatch z
      · exact absurd ((s7 _ _ (k6 b o q hbp)).symm.trans hb) fun z => nomatch z
def spWon (K : PySem.W.Frag) : Sp := fun vs H Q _ => ∃ (p dx g tp al : Addr) (G : Game) (wv : V) (said : Bs), vs = [.ref p, .str (S said), .ref al] ∧ H p = some (.ins (He.ga K "Table") dx (fTab g tp G wv)) ∧ Q (.bl (decide (said = [true]))) H
theorem sc_won : FnScope ["self", "said", "asked", "block"] ["self", "said", "asked"] (defScope s_Table_has_won) := C8.fnScope_by (by decide +kernel)
theorem kind_no (G : Game) : decide (V.str (kindOf G) = V.str ("marks" : Str)) = false ∧ decide (V.str (kindOf G) = V.str ("next" : Str)) = false ∧ decide (V.str (kindOf G) = V.str ("hard" : Str)) = false ∧
    decide (V.str (kindOf G) = V.str ("inverse" : Str)) = false ∧ decide (V.str (kindOf G) = V.str ("onetime" : Str)) = false := by
  have hp : decide (V.str ("permutation" : Str) = V.str ("marks" : Str)) = false ∧ decide (V.str ("permutation" : Str) = V.str ("next" : Str)) = false ∧ decide (V.str ("permutation" : Str) = V.str ("hard" : Str)) = false ∧
    decide (V.str ("permutation" : Str) = V.str ("inverse" : Str)) = false ∧ decide (V.str ("permutation" : Str) = V.str ("onetime" : Str)) = false := by decide +kernel
  have hs : decide (V.str ("swaps" : Str) = V.str ("marks" : Str)) = false ∧ decide (V.str ("swaps" : Str) = V.str ("next" : Str)) = false ∧ decide (V.str ("swaps" : Str) = V.str ("hard" : Str)) = false ∧
    decide (V.str ("swaps" : Str) = V.str ("inverse" : Str)) = false ∧ decide (V.str ("swaps" : Str) = V.str ("onetime" : Str)) = false := by decide +kernel
  cases G with
  | perm l => exact hp
  | swaps h r => exact hs
theorem dec_1 (b : Bs) : decide (V.str (S b) = V.str ("1" : Str)) = decide (b = [true]) := by
  rw [← S_1]
  by_cases h : b = [true]
  · rw [decide_eq_true h, decide_eq_true (by rw [h])]
  · rw [decide_eq_false h, decide_eq_false fun e => h (S_inj (V.str.inj e))]
theorem met_won (T : Tx K mg w) : C8.Met P w K mg base 1 (He.ga K "Table") "has_won" (spWon K) [] := by
  refine T.m_Table_has_won.met sc_won (fun vs H Q E h => ?_) fun f cdv A outer s H vs Q E hr h => ?_
  · obtain ⟨p, dx, g, tp, al, G, wv, said, rfl, _⟩ := h
    rfl
  · obtain ⟨p, dx, g, tp, al, G, wv, said, rfl, hp, k⟩ := h
    refine ⟨_, pss_cons (ps_if (pt_cmpR op_eq (pe_fld (pv 0) rfl) pe_str (nomark _)) pss_never pss_nil) <|
      pss_cons (ps_if (PW.pt (pw_or (pt_cmpR op_eq (pe_fld (pv 0) rfl) pe_str (nomark _)) (pw_or1 (pt_cmpR op_eq (pe_fld (pv 0) rfl) pe_str (nomark _))))) pss_never pss_nil) <|
      pss_cons (ps_if (pt_cmpR op_eq (pe_fld (pv 0) rfl) pe_str (nomark _)) pss_never pss_nil) <|
      pss_cons (ps_if (pt_cmpR op_eq (pe_fld (pv 0) rfl) pe_str (nomark _)) pss_never pss_nil) <|
      pss_one (ps_ret (pe_cmpR op_eq (pv 1) pe_str (nomark _))), ?_⟩
    obtain ⟨n1, n2, n3, n4, n5⟩ := kind_no G
    refine ⟨_, rfl, p, _, dx, _, _, rfl, hp, T.c_Table, T.n_Table_kind, bk_kind _ _ _ _, rfl, _, rfl, ?_⟩
    rw [n1]
    refine iteF ?_
    refine ⟨_, rfl, p, _, dx, _, _, rfl, hp, T.c_Table, T.n_Table_kind, bk_kind _ _ _ _, rfl, _, rfl, ?_⟩
    rw [n2]
    refine iteF ?_
    refine ⟨_, rfl, p, _, dx, _, _, rfl, hp, T.c_Table, T.n_Table_kind, bk_kind _ _ _ _, rfl, _, rfl, ?_⟩
    rw [n3]
    refine iteF ?_
    refine ⟨_, rfl, p, _, dx, _, _, rfl, hp, T.c_Table, T.n_Table_kind, bk_kind _ _ _ _, rfl, _, rfl, ?_⟩
    rw [n4]
    refine iteF ?_
    refine ⟨_, rfl, p, _, dx, _, _, rfl, hp, T.c_Table, T.n_Table_kind, bk_kind _ _ _ _, rfl, _, rfl, ?_⟩
    rw [n5]
    refine iteF ?_
    refine ⟨_, rfl, rfl, ?_⟩
    show Q (.bl (decide (V.str (S said) = V.str ("1" : Str)))) H
    rw [dec_1]
    exact k
end
end Bb
namespace Bb
open PySem PySem.Spec PyProof.Rows L2
/-! ## What a game is, played -/
def runG : Game → Brk → Tr (Bs × Pairs)
  | .perm l, b => if hl : l ≤ 3 then runB (repP l hl) b [] [] [] else .ret ([], [])
  | .swaps h r, b => if hh : h ≤ 2 ∧ r ≤ 4 then runB (repS h r hh.1 hh.2) b [] [] [] else .ret ([], [])
def oneB (s : Bs) : Int := if decide (s = [true]) = true then 1 else 0
section
variable {P : Program} {w : World} {K : PySem.W.Frag} {mg : Str → Option Value} {base : Heap}
theorem worldOf (T : Tx K mg w) (G : Game) (ok : GmOk G) : ∃ (τ : Type) (W : Wld τ) (st0 : τ) (j : Nat), j ≤ 4 ∧ C8.Met P w K mg base j W.C "answer" (spAns K W) [] ∧ W.rep.inv st0 0 ∧ (∀ b, runG G b = runB W.rep b [] st0 []) ∧
    ∀ H H' wp tp, WMade K H H' wp tp G → ∃ x, W.At wp tp x H' st0 ∧ (∀ b, W.Fo x b → H b = none) ∧ (∀ b, W.Mu x b → H b = none) := by
  cases G with
  | perm l =>
    obtain ⟨l1, l3⟩ := ok
    refine ⟨PKn, permW K l l3, [], 2, by decide, met_permA T l l3, ⟨Nat.le_refl _, List.nodup_nil, fun _ h => nomatch h⟩, fun b => dif_pos l3, fun H H' wp tp ⟨kd, a, b, c⟩ => ⟨kd, ⟨b, c⟩, fun _ h => h.elim, fun b e => ?_⟩⟩
    rw [show b = kd from e]
    exact a
  | swaps h r =>
    obtain ⟨h1, h2, r1, r4⟩ := ok
    exact ⟨SKn, swapW K h r h2 r4, [], 4, by decide, met_swapA T h r h2 r4, ⟨Nat.le_refl _, fun _ h => nomatch h⟩, fun b => dif_pos ⟨h2, r4⟩, fun H H' wp tp ⟨x, a, b, c⟩ => ⟨x, c, fun b e => by rw [show b = x.fl from e]; exact a, b⟩⟩
def spPlay (K : PySem.W.Frag) : Sp := fun vs H Q _ => ∃ (g c : Addr) (bv : V) (b : Brk) (d : Nat) (G : Game) (cs : List Int), vs = [.ref g, bv, .ref c] ∧ GmAt H g G ∧ GmOk G ∧ BrkAt H b bv ∧ Deep b d ∧ d ≤ 9 ∧ size b ≤ 2000 ∧
  (H c = some (.lst (cs.map V.int)) ∨ H c = some (.tup (cs.map V.int))) ∧ (runG G b).ok (oTold cs) 0 ∧
  ∀ q dq dl al H', Same H H' → H' q = some (.ins (He.ga K "Play") dq (fPlay (oneB ((runG G b).run (oTold cs) 0).1.1) (S ((runG G b).run (oTold cs) 0).1.1) dl al)) →
    DwsAt H' dl ((runG G b).run (oTold cs) 0).2 → AskAt H' al ((runG G b).run (oTold cs) 0).1.2 → Q (.ref q) H'
abbrev nPlayed : List Str := ["game", "breaker", "choices", "tape", "table", "notes", "said", "outcome"]
theorem sc_played : FnScope nPlayed ["game", "breaker", "choices"] (defScope s_played) := C8.fnScope_by (by decide +kernel)
theorem cal_played (T : Tx K mg w) : C8.Cal P w K mg base 8 "played" (spPlay K) [] := by
  refine T.d_played.cal sc_played (fun vs H Q E h => ?_) fun f cdv A outer s H vs Q E hr h => ?_
  · obtain ⟨g, c, bv, b, d, G, cs, rfl, _⟩ := h
    rfl
  · obtain ⟨g, c, bv, b, d, G, cs, rfl, hg, ok, hb, hd, hd9, hsz, hc, hok, k⟩ := h
    obtain ⟨τ, W, st0, j, hj, HW, inv, hrun, hmk⟩ := worldOf (P := P) (base := base) T G ok
    refine ⟨_, pss_cons (ps_set (i := 3) sc_played.nd rfl (Or.inl rfl) (C8.pe_mk (mak_Tape T) hr (by decide) rfl (pa_cons (pv 2) pa_nil))) <|
      pss_cons (ps_set (i := 4) sc_played.nd rfl (Or.inl rfl) (C8.pe_mk (mak_Table T) hr (by decide) rfl (pa_cons (pv 0) (pa_cons (pv 3) pa_nil)))) <|
      pss_cons (ps_set (i := 5) sc_played.nd rfl (Or.inl rfl) (C8.pe_mk (mak_Notes T) hr (by decide) rfl (pa_cons (pe_fld (pv 4) rfl) pa_nil))) <|
      pss_cons (ps_set (i := 6) sc_played.nd rfl (Or.inl rfl) (C8.pe_c (cal_runB T W hj HW) hr (by decide) rfl (pa_cons (pv 1) (pa_cons (pv 3) (pa_cons (pe_fld (pv 4) rfl) (pa_cons (pv 5) pa_nil)))))) <|
      pss_cons (ps_set (i := 7) sc_played.nd rfl (Or.inl rfl) (pe_callTy call_int1 rfl T.f_int (by decide +kernel) (pa_cons (C8.pe_mt (met_won T) hr (by decide) (pv 4) (pa_cons (pv 6) (pa_cons (pe_fld (pv 5) rfl) pa_nil))) pa_nil))) <|
      pss_one (ps_ret (C8.pe_mk (mak_Play T) hr (by decide) rfl (pa_cons (pv 7) (pa_cons (pv 6) (pa_cons (pe_fld (pv 3) rfl) (pa_cons (pe_fld (pv 5) rfl) pa_nil)))))), ?_⟩
    rw [hrun] at hok k
    refine ⟨_, rfl, fun tp dt nt ndt _ => ⟨tp, dt, c, cs, rfl, upd_same, ?_, fun cl dl H1 hcl hdl ta1 kp1 => ⟨rfl, ?_⟩⟩⟩
    · exact hc.elim (fun z => .inl (SqL.of (same_two (C := tp) nt ndt _ _ z))) fun z => .inr (SqT.of (same_two (C := tp) nt ndt _ _ z))
    have s1 : Same H H1 := Same.made nt ndt kp1
    have hdl0 := (same_two (C := tp) nt ndt).free hdl
    refine ⟨_, rfl, _, rfl, fun p dp np ndp _ => ⟨p, dp, g, tp, G, rfl, upd_same, ?_, ok, fun wp H2 wm e2 kp2 => ⟨rfl, ?_⟩⟩⟩
    · exact (hg.same s1).same (same_two (C := p) np ndp)
    have s2 : Same H1 H2 := Same.made np ndp kp2
    have wm1 : WMade K H1 H2 wp tp G := wm.pre fun b hb => (same_two (C := p) np ndp).free hb
    obtain ⟨x, wa2, fo2, mu2⟩ := hmk _ _ _ _ wm1
    obtain ⟨dw, fw, hw2, _⟩ := W.inst wa2
    refine ⟨_, rfl, p, _, dp, _, _, rfl, e2, T.c_Table, T.n_Table_world, bk_world _ _ _ _, fun q dq nq ndq _ => ⟨q, dq, wp, rfl, upd_same, fun al H3 hal e3 ea3 kp3 => ⟨rfl, ?_⟩⟩⟩
    have s3 : Same H2 H3 := Same.made nq ndq kp3
    have hal2 := (same_two (C := q) nq ndq).free hal
    have e23 := s3 _ _ e2
    have ta3 := (ta1.same s2).same s3
    have wa3 : W.At wp tp x H3 st0 := W.keep (N := fun _ => False) wa2 (Keep.same s3) (fun _ m => m.elim) fun _ _ m => m
    have nold : ∀ b o, H2 b = some o → al ≠ b := fun b o e z => by
      rw [z, e] at hal2
      cases hal2
    have fod : ∀ b, W.Fo x b → b ≠ dl := fun b fb z => by
      have := fo2 b fb
      obtain ⟨xs, e⟩ := ta1.dlst
      rw [z, e] at this
      cases this
    refine ⟨_, rfl, _, rfl, _, rfl, p, _, dp, _, _, rfl, e23, T.c_Table, T.n_Table_challenge, bk_challenge _ _ _ _, _, rfl, ?_⟩
    refine ⟨b, d, bv, q, dq, wp, tp, cl, dl, al, cs, x, st0, rfl, ((hb.same s1).same s2).same s3, hd, hd9, e3, ⟨[], ea3, .nil⟩, ?_, ?_, ?_, ta3, wa3, inv, fod, hok, ?_⟩
    · obtain ⟨xs, e⟩ := (ta1.same s2).dlst
      exact nold _ _ e
    · exact nold _ _ (ta1.same s2).ch
    · intro f
      obtain ⟨xs, e⟩ := W.lsts wa2 f
      exact nold _ _ e rfl
    intro H4 ta4 as4 kp4 tu4
    generalize hres : (runB W.rep b [] st0 []).run (oTold cs) 0 = res at k ta4 as4 ⊢
    have hal1 : H1 al = none := s2.free hal2
    have nm1 : ∀ b o, H1 b = some o → b ≠ dl → ¬ (b = dl ∨ b = al ∨ W.Mu x b) := fun b o e nd m => m.elim nd fun m => m.elim (fun z => by rw [z, hal1] at e; cases e) fun m => by rw [mu2 b m] at e; cases e
    have sH4 : Same H H4 := fun b o e => by
      refine kp4 b o (s3 _ _ (s2 _ _ (s1 _ _ e))) (nm1 b o (s1 _ _ e) fun z => ?_)
      rw [z, hdl0] at e
      cases e
    have nins : ∀ r C dr fr, H3 r = some (.ins C dr fr) → ¬ (r = dl ∨ r = al ∨ W.Mu x r) := fun r C dr fr e m => by
      rcases m with m | m | m
      · obtain ⟨xs, e2⟩ := ta3.dlst
        rw [m, e2] at e
        cases e
      · rw [m, ea3] at e
        cases e
      · obtain ⟨kvs, e2⟩ := W.dict wa3 m
        rw [e2] at e
        cases e
    have e24 := kp4 _ _ e23 (nins _ _ _ _ e23)
    have e34 := kp4 _ _ e3 (nins _ _ _ _ e3)
    refine ⟨_, rfl, p, dp, _, rfl, e24, bk_won _ _ _ _, _, rfl, _, rfl, q, _, dq, _, _, rfl, e34, T.c_Notes, T.n_Notes_asked, nk_asked _ _, p, dp, g, tp, al, G, .ref wp, res.1.1, rfl, e24, .inr ⟨_, rfl, ?_⟩⟩
    obtain ⟨dxT, eT⟩ := ta4.ob
    refine ⟨_, rfl, _, rfl, _, rfl, tp, _, dxT, _, _, rfl, eT, T.c_Tape, T.n_Tape_draws, lk_draws _ _, _, rfl, q, _, dq, _, _, rfl, e34, T.c_Notes, T.n_Notes_asked, nk_asked _ _, fun y dy ny ndy _ => ⟨y, dy, _, _, dl, al, rfl, upd_same, fun H5 e5 kp5 => ?_⟩⟩
    have s5 : Same H4 H5 := Same.made ny ndy kp5
    exact ⟨rfl, k y dy dl al H5 (sH4.trans s5) e5 (ta4.dw.same s5) (as4.same s5)⟩
theorem sc_play : FnScope ["game", "breaker", "choices"] ["game", "breaker", "choices"] (defScope s_play) := C8.fnScope_by (by decide +kernel)
theorem cal_play (T : Tx K mg w) : C8.Cal P w K mg base 9 "play" (spPlay K) [] := by
  refine T.d_play.cal sc_play (fun vs H Q E h => ?_) fun f cdv A outer s H vs Q E hr h => ?_
  · obtain ⟨g, c, bv, b, d, G, cs, rfl, _⟩ := h
    rfl
  · obtain ⟨g, c, bv, b, d, G, cs, rfl, hg, ok, hb, hd, hd9, hsz, hc, hok, k⟩ := h
    refine ⟨_, pss_cons (ps_expr (C8.pe_c (cal_game T) hr (by decide) rfl (pa_cons (pv 0) pa_nil))) <| pss_cons (ps_expr (C8.pe_c (cal_check_breaker T) hr (by decide) rfl (pa_cons (pv 1) pa_nil))) <|
      pss_one (ps_ret (C8.pe_c (cal_played T) hr (by decide) rfl (pa_cons (pv 0) (pa_cons (pv 1) (pa_cons (pv 2) pa_nil))))), ?_⟩
    refine ⟨_, rfl, g, G, rfl, hg, ok, fun H1 s1 => ⟨_, rfl, b, bv, d, rfl, hb.same s1, hd, by omega, hsz, fun H2 s2 => ?_⟩⟩
    have s12 := s1.trans s2
    exact ⟨_, rfl, _, rfl, _, rfl, g, c, bv, b, d, G, cs, rfl, hg.same s12, ok, hb.same s12, hd, hd9, hsz, hc.elim (fun z => .inl (s12 _ _ z)) (fun z => .inr (s12 _ _ z)), hok, fun q dq dl al H' s3 e3 dw as => k q dq dl al H' (s12.trans s3) e3 dw as⟩
end
end Bb
namespace Bb
open PySem PySem.Spec PyProof.Rows L2
/-! ## The law's own hand -/
structure Hand where
  hd : Addr
  dl : Addr
  ns : List Int
def HandAt (H : Hp) (h : Hand) : Prop := ∃ at_ : Nat, H h.hd = some (.lst [.ref h.dl, .int (at_ : Int)]) ∧ H h.dl = some (.lst (h.ns.map V.int)) ∧ h.ns.length ≤ 1000 ∧ h.hd ≠ h.dl
/-- from H to H' the hand was taken from, and new things made -/
def HandK (h : Hand) (H H' : Hp) : Prop := HandAt H' h ∧ Keep (fun b => b = h.hd) H H'
theorem HandAt.ls {H : Hp} {h : Hand} (a : HandAt H h) : ∃ xs, H h.hd = some (.lst xs) := let ⟨_, e, _⟩ := a; ⟨_, e⟩
theorem HandAt.dls {H : Hp} {h : Hand} (a : HandAt H h) : ∃ xs, H h.dl = some (.lst xs) := let ⟨_, _, e, _⟩ := a; ⟨_, e⟩
theorem HandAt.same {H H' : Hp} {h : Hand} (a : HandAt H h) (s : Same H H') : HandAt H' h := let ⟨i, e1, e2, e3, e4⟩ := a; ⟨i, s _ _ e1, s _ _ e2, e3, e4⟩
theorem HandAt.keep {M : Addr → Prop} {H H' : Hp} {h : Hand} (a : HandAt H h) (s : Keep M H H') (n1 : ¬ M h.hd) (n2 : ¬ M h.dl) : HandAt H' h := let ⟨i, e1, e2, e3, e4⟩ := a; ⟨i, s _ _ e1 n1, s _ _ e2 n2, e3, e4⟩
theorem HandK.trans {h : Hand} {H H1 H2 : Hp} (a : HandK h H H1) (b : HandK h H1 H2) : HandK h H H2 := ⟨b.1, a.2.trans b.2⟩
theorem HandK.same {h : Hand} {H H1 H2 : Hp} (a : HandK h H H1) (s : Same H1 H2) : HandK h H H2 := ⟨a.1.same s, a.2.trans (Keep.same s)⟩
theorem HandK.of {h : Hand} {H H1 : Hp} (a : HandAt H h) (s : Same H H1) : HandK h H H1 := ⟨a.same s, Keep.same s⟩
theorem HandK.tups {h : Hand} {H H1 : Hp} (k : HandK h H H1) (a : HandAt H h) : Tups H H1 := fun b xs e => k.2 b _ e fun z => by
  obtain ⟨ys, e2⟩ := a.ls
  rw [z, e2] at e
  cases e
/-- a new list at l grows while the hand is taken from -/
theorem HandK.put {h : Hand} {H H' : Hp} {l : Addr} {o : HO} (a : HandAt H h) (k : HandK h H H') (hl : H l = none) : HandK h H (upd H' l o) := by
  obtain ⟨⟨i, e1, e2, e3, e4⟩, kp⟩ := k
  obtain ⟨xs, d1⟩ := a.ls
  obtain ⟨ys, d2⟩ := a.dls
  exact ⟨⟨i, (upd_ne (ne_of_none d1 hl)).trans e1, (upd_ne (ne_of_none d2 hl)).trans e2, e3, e4⟩, fun b u e nb => by
    rw [upd_ne (ne_of_none e hl)]
    exact kp b u e nb⟩
section
variable {P : Program} {w : World} {K : PySem.W.Frag} {mg : Str → Option Value} {base : Heap}
def spTake : Sp := fun vs H Q _ => ∃ (h : Hand) (m : Int), vs = [.ref h.hd, .int m] ∧ 0 < m ∧ HandAt H h ∧ ∀ (z : Int) H', 0 ≤ z → z < m → HandK h H H' → Q (.int z) H'
theorem sc_take : FnScope ["_law_hand", "_law_many", "_law_at", "_law_draws_here"] ["_law_hand", "_law_many"] (defScope s_Ltake) := C8.fnScope_by (by decide +kernel)
theorem cal_take (T : Tx K mg w) : C8.Cal P w K mg base 1 "_law_take" spTake [] := by
  refine T.d_Ltake.cal sc_take (fun vs H Q E h => ?_) fun f cdv A outer s H vs Q E hr h => ?_
  · obtain ⟨hd, m, rfl, _⟩ := h
    rfl
  · obtain ⟨⟨hd, dl, ns⟩, m, rfl, hm, ⟨at_, h1, h2, h3, h4⟩, k⟩ := h
    have h4 : hd ≠ dl := h4
    have h1 : H hd = some (.lst [.ref dl, .int (at_ : Int)]) := h1
    have h2 : H dl = some (.lst (ns.map V.int)) := h2
    refine ⟨_, pss_cons (ps_set (i := 2) sc_take.nd rfl (Or.inl rfl) (pe_ix ix_list (pv 0) pe_int (fun _ _ => rfl))) <|
      pss_cons (ps_asg (pe_op op_add (pv 2) pe_int) (pg_sub (pv 0) pe_int set_list)) <|
      pss_cons (ps_set (i := 3) sc_take.nd rfl (Or.inl rfl) (pe_ix ix_list (pv 0) pe_int (fun _ _ => rfl))) <|
      pss_cons (ps_if (pt_cmpR op_ge (pv 2) (pe_callB call_len_seq rfl T.f_len PySem.boot_len (pa_cons (pv 3) pa_nil)) (nomark _)) (pss_one (ps_ret pe_int)) pss_nil) <|
      pss_one (ps_ret (pe_op op_mod (pe_op op_fdiv (pe_callTy call_int1 rfl T.f_int (by decide +kernel) (pa_cons (pe_ix ix_list (pv 3) (pv 2) (fun _ _ => rfl)) pa_nil)) pe_int) (pv 1))), ?_⟩
    refine ⟨_, rfl, hd, _, _, _, rfl, rfl, SqL.of h1, atI_nat (j := 1) rfl, ?_⟩
    refine ⟨_, rfl, _, _, rfl, rfl, _, rfl, hd, _, _, 1, rfl, rfl, h1, rfl, ?_⟩
    generalize eH : upd H hd _ = H1
    have g1 : H1 hd = some (.lst [.ref dl, .int ((at_ + 1 : Nat) : Int)]) := by rw [← eH, upd_same]; rfl
    have g2 : H1 dl = some (.lst (ns.map V.int)) := by rw [← eH, upd_ne h4.symm]; exact h2
    have hk : HandK ⟨hd, dl, ns⟩ H H1 := ⟨⟨at_ + 1, g1, g2, h3, h4⟩, by rw [← eH]; exact keep_upd rfl⟩
    refine ⟨_, rfl, hd, _, _, _, rfl, rfl, SqL.of g1, atI_nat (j := 0) rfl, ?_⟩
    refine ⟨_, rfl, _, rfl, dl, _, rfl, .inl (SqL.of g2), _, _, rfl, rfl, _, rfl, ?_⟩
    by_cases hlt : at_ < ns.length
    · rw [decide_eq_false (show ¬ (((ns.map V.int).length : Nat) : Int) ≤ (at_ : Int) from by rw [List.length_map]; omega)]
      refine iteF ?_
      have e : (ns.map V.int)[at_]? = some (V.int ns[at_]) := by rw [List.getElem?_map, List.getElem?_eq_getElem hlt]; rfl
      refine ⟨_, rfl, _, rfl, dl, _, _, _, rfl, rfl, SqL.of g2, atI_nat (j := at_) e, .inl ⟨_, rfl, ?_⟩⟩
      refine ⟨_, _, rfl, rfl, ⟨by decide, by decide⟩, _, rfl, _, _, rfl, rfl, hm, ?_⟩
      exact k _ _ (Int.emod_nonneg _ (by omega)) (Int.emod_lt_of_pos _ hm) hk
    · rw [decide_eq_true (show (((ns.map V.int).length : Nat) : Int) ≤ (at_ : Int) from by rw [List.length_map]; omega)]
      refine iteT ?_
      exact k 0 H1 (Int.le_refl 0) hm hk
theorem two_at {z : Int} (h0 : 0 ≤ z) (h2 : z < 2) : atI [V.str ("0" : Str), V.str ("1" : Str)] z = some (.str (S [decide (z = 1)])) := by
  have h : z = 0 ∨ z = 1 := by omega
  rcases h with rfl | rfl
  · rw [show decide ((0 : Int) = 1) = false from by decide, S_0]
    rfl
  · rw [show decide ((1 : Int) = 1) = true from by decide, S_1]
    rfl
/-! ## parts -/
def spLparts : Sp := fun vs H Q _ => ∃ (h : Hand) (n : Nat), vs = [.ref h.hd, .int (n : Int)] ∧ n ≤ 8 ∧ HandAt H h ∧ ∀ (t : Addr) (ps : List Part) H', H' t = some (.tup (ps.map partV)) → PartsOk ps → HandK h H H' → Q (.ref t) H'
abbrev nLparts : List Str := ["_law_hand", "_law_length", "_law_found", "_law_k", "_law_kind"]
theorem sc_Lparts : FnScope nLparts ["_law_hand", "_law_length"] (defScope s_Lparts) := C8.fnScope_by (by decide +kernel)
theorem cal_Lparts (T : Tx K mg w) : C8.Cal P w K mg base 2 "_law_parts" spLparts [] := by
  refine T.d_Lparts.cal sc_Lparts (fun vs H Q E h => ?_) fun f cdv A outer s H vs Q E hr h => ?_
  · obtain ⟨hd, n, rfl, _⟩ := h
    rfl
  · obtain ⟨hd, n, rfl, hn, ha, k⟩ := h
    refine ⟨_, pss_cons (ps_set (i := 2) sc_Lparts.nd rfl (Or.inl rfl) (pe_lst pa_nil)) <|
      pss_cons (ps_for PassesOwn.never rfl (pi_range1 rfl T.f_range (pa_cons (pv 1) pa_nil)) (pg_name (i := 3) sc_Lparts.nd rfl (Or.inl rfl))
        (pss_cons (ps_set (i := 4) sc_Lparts.nd rfl (Or.inl rfl) (C8.pe_c (cal_take T) hr (by decide) rfl (pa_cons (pv 0) (pa_cons pe_int pa_nil)))) <|
         pss_one (ps_if (pt_cmpR op_lt (pv 4) pe_int (nomark _))
          (pss_one (ps_expr (pe_bm PySem.F.plainAttrs_list PySem.F.slot_list_append PySem.F.type_list_append mt_append (pv 2) (pa_cons (pe_ix ix_list (pe_lst (pa_cons pe_str (pa_cons pe_str pa_nil))) (pv 4) (fun _ _ => rfl)) pa_nil))))
          (pss_one (ps_expr (pe_bm PySem.F.plainAttrs_list PySem.F.slot_list_append PySem.F.type_list_append mt_append (pv 2) (pa_cons (C8.pe_c (cal_take T) hr (by decide) rfl (pa_cons (pv 0) (pa_cons pe_int pa_nil))) pa_nil))))))) <|
      pss_one (ps_ret (pe_callTy call_tuple_of rfl T.f_tuple (by decide +kernel) (pa_cons (pv 2) pa_nil))), ?_⟩
    refine ⟨Nat.zero_le _, fun l hl => ?_⟩
    obtain ⟨hxs, hhd⟩ := ha.ls
    refine ⟨_, rfl, (n : Int), rfl, by omega, by omega, for_range (lo := 0) (n := ((n : Int)).toNat)
      (fun i σ H' => ∃ (u u2 : Option V) (ps : List Part), σ = [some (.ref hd.hd), some (.int (n : Int)), some (.ref l), u, u2] ∧ HandK hd H H' ∧ H' l = some (.lst (ps.map partV)) ∧ ps.length = i ∧ ∀ q, Sum.inr q ∈ ps → q ≤ 100)
      ⟨none, none, [], rfl, HandK.of ha (same_upd hl), upd_same, rfl, fun _ h => nomatch h⟩ ?_ ?_⟩
    · rintro i σ H' hi ⟨u, u2, ps, rfl, hk, hL, hpl, hq⟩
      have hi' : i < n := by omega
      have lk : ∀ {H2 : Hp}, HandK hd H' H2 → H2 l = some (.lst (ps.map partV)) := fun k2 => k2.2 _ _ hL fun z => (ne_of_none hhd hl) z.symm
      have app : ∀ (p : Part) H2, HandK hd H' H2 → (∀ q, p = .inr q → q ≤ 100) → HandK hd H (upd H2 l (.lst (ps.map partV ++ [partV p]))) ∧ (upd H2 l (.lst (ps.map partV ++ [partV p]))) l = some (.lst ((ps ++ [p]).map partV)) ∧ (ps ++ [p]).length = i + 1 ∧ ∀ q, Sum.inr q ∈ ps ++ [p] → q ≤ 100 := fun p H2 k2 hp => by
        refine ⟨(hk.trans k2).put ha hl, by rw [upd_same, List.map_append]; rfl, by rw [List.length_append, hpl]; rfl, fun q hm => ?_⟩
        rcases List.mem_append.mp hm with z | z
        · exact hq q z
        · exact hp q (List.mem_singleton.mp z).symm
      refine ⟨_, rfl, hd, 5, rfl, by decide, hk.1, fun z H2 z0 z5 k2 => ?_⟩
      refine ⟨_, rfl, _, _, rfl, rfl, _, rfl, ?_⟩
      refine ite2 (fun c => ?_) (fun c => ?_)
      · have z2 : z < 2 := by simpa using c
        refine ⟨_, rfl, .inl ⟨rfl, _, SqL.of (lk k2)⟩, ?_⟩
        refine ⟨by show (2 : Nat) ≤ sizeLine; decide, fun t ht => ?_⟩
        have s3 : Same H2 (upd H2 t (.lst [.str "0", .str "1"])) := same_upd ht
        obtain ⟨b1, b2, b3, b4⟩ := app (.inl (decide (z = 1))) _ (k2.same s3) (fun q e => nomatch e)
        exact ⟨_, rfl, t, [.str "0", .str "1"], z, .str (S [decide (z = 1)]), rfl, rfl, SqL.of upd_same, two_at z0 z2, l, _, _, rfl, rfl, s3 _ _ (lk k2), by rw [List.length_map, hpl]; exact small5 (by omega), some (.int (0 + (i : Int))), some (.int z), ps ++ [(Sum.inl (decide (z = 1)) : Part)], rfl, b1, b2, b3, b4⟩
      · refine ⟨_, rfl, .inl ⟨rfl, _, SqL.of (lk k2)⟩, _, rfl, hd, 9, rfl, by decide, k2.1, fun z2 H3 z0' z9 k3 => ?_⟩
        obtain ⟨b1, b2, b3, b4⟩ := app (.inr z2.toNat) H3 (k2.trans k3) (fun q e => by have := Sum.inr.inj e; omega)
        rw [show partV (.inr z2.toNat) = V.int z2 from congrArg V.int (Int.toNat_of_nonneg z0')] at b1 b2
        exact ⟨l, _, _, rfl, rfl, lk (k2.trans k3), by rw [List.length_map, hpl]; exact small5 (by omega), some (.int (0 + (i : Int))), some (.int z), ps ++ [.inr z2.toNat], rfl, b1, b2, b3, b4⟩
    · rintro σ H' ⟨u, u2, ps, rfl, hk, hL, hpl, hq⟩
      rw [Int.toNat_natCast] at hpl
      refine ⟨_, rfl, l, _, rfl, .inl ⟨SqL.of hL, fun t ht => ?_⟩⟩
      exact k t ps _ upd_same ⟨by omega, hq⟩ (hk.same (same_upd ht))
end
end Bb
namespace Bb
open PySem PySem.Spec PyProof.Rows L2
section
variable {P : Program} {w : World} {K : PySem.W.Frag} {mg : Str → Option Value} {base : Heap}
/-! ## The law's own made_string -/
abbrev nLmade : List Str := ["_law_parts_here", "_law_handed", "_law_found", "_law_part"]
theorem sc_Lmade : FnScope nLmade ["_law_parts_here", "_law_handed"] (defScope s_Lmade) := C8.fnScope_by (by decide +kernel)
theorem cal_Lmade (T : Tx K mg w) : C8.Cal P w K mg base 1 "_law_made" spMade [] := by
  refine T.d_Lmade.cal sc_Lmade (fun vs H Q E h => ?_) fun f cdv A outer s H vs Q E hr h => ?_
  · obtain ⟨t, ps, hd, rfl, _⟩ := h
    rfl
  · obtain ⟨t, ps, hd, rfl, ht, hps, hhd, k⟩ := h
    refine ⟨_, pss_cons (ps_set (i := 2) sc_Lmade.nd rfl (Or.inl rfl) pe_str) <|
      pss_cons (ps_for PassesOwn.never rfl (pi_tup (pv 0)) (pg_name (i := 3) sc_Lmade.nd rfl (Or.inl rfl))
        (pss_one (ps_if (pt_val (pe_callB call_isi rfl T.f_isinstance (by decide +kernel) (pa_cons (pv 3) (pa_cons (pe_bltn (v := .ty "str") rfl T.f_str (by decide +kernel) rfl) pa_nil))))
          (pss_one (ps_set (i := 2) sc_Lmade.nd rfl (Or.inl rfl) (pe_op op_add_str (pv 2) (pv 3))))
          (pss_one (ps_if (pt_cmpR op_lt (pv 3) (pe_callB call_len_str rfl T.f_len PySem.boot_len (pa_cons (pv 1) pa_nil)) (nomark _))
            (pss_one (ps_set (i := 2) sc_Lmade.nd rfl (Or.inl rfl) (pe_op op_add_str (pv 2) (pe_ix ix_str (pv 1) (pv 3) (fun _ _ => rfl)))))
            (pss_one (ps_set (i := 2) sc_Lmade.nd rfl (Or.inl rfl) (pe_op op_add_str (pv 2) pe_str)))))))) <|
      pss_one (ps_ret (pv 2)), ?_⟩
    refine ⟨_, rfl, t, rfl, ⟨_, SqT.of ht⟩, for_tup (K := K) (a := t) (xs := ps.map partV) (fun i σ H' => H' = H ∧ i ≤ ps.length ∧ ∃ u : Option V, σ = [some (.ref t), some (.str (S hd)), some (.str (S (made (ps.take i) hd))), u])
      ⟨rfl, Nat.zero_le _, none, by rw [List.take_zero]; show _ = [some (V.ref t), some (V.str (S hd)), some (V.str (S [])), none]; rw [S_nil]; rfl⟩ (fun i σ H' _ ⟨e, _⟩ => by rw [e]; exact SqT.of ht) ?_ ?_⟩
    · rintro i x σ H' hx ⟨rfl, hi, u, rfl⟩
      rw [List.getElem?_map] at hx
      obtain ⟨p, hp, rfl⟩ := Option.map_eq_some_iff.mp hx
      have hilt : i < ps.length := (List.getElem?_eq_some_iff.mp hp).1
      have hsz : (S (made (ps.take i) hd)).length + 1 ≤ sizeLine := by
        rw [S_len, made_length, List.length_take]
        exact Nat.le_of_lt (small5 (by omega))
      cases p with
      | inl b =>
        refine ⟨_, rfl, .str (S [b]), .ty "str", _, _, true, rfl, .ty _, .base (.str _), kit_ty (by decide +kernel), _, rfl, ?_⟩
        refine iteT ?_
        refine ⟨_, rfl, _, rfl, _, _, rfl, rfl, hsz, rfl, hilt, some (.str (S [b])), ?_⟩
        rw [made_snoc hd hp, S_app]
        rfl
      | inr n =>
        refine ⟨_, rfl, .int (n : Int), .ty "str", _, _, false, rfl, .ty _, .base (.int _), kit_ty (by decide +kernel), _, rfl, ?_⟩
        refine iteF ?_
        refine ⟨_, rfl, _, rfl, _, rfl, len_small hhd (by decide), _, _, rfl, rfl, _, rfl, ?_⟩
        rw [S_len]
        by_cases hlt : n < hd.length
        · rw [decide_eq_true (show ((n : Nat) : Int) < ((hd.length : Nat) : Int) by omega)]
          refine iteT ?_
          have e : hd[n]? = some hd[n] := List.getElem?_eq_getElem hlt
          refine ⟨_, rfl, _, rfl, _, rfl, S hd, (n : Int), sg hd[n], rfl, rfl, len_small hhd (by decide), atI_nat (j := n) (by rw [S_list, List.getElem?_map, e]; rfl), _, _, rfl, rfl, hsz, rfl, hilt, some (.int (n : Int)), ?_⟩
          rw [made_snoc hd hp, ← S_app]
          have e2 : partB hd (.inr n) = hd[n] := by
            show hd.getD n false = hd[n]
            rw [List.getD_eq_getElem?_getD, e]
            rfl
          rw [e2]
          rfl
        · rw [decide_eq_false (show ¬ ((n : Nat) : Int) < ((hd.length : Nat) : Int) by omega)]
          refine iteF ?_
          refine ⟨_, rfl, _, _, rfl, rfl, hsz, rfl, hilt, some (.int (n : Int)), ?_⟩
          rw [made_snoc hd hp, ← S_app]
          have e2 : partB hd (.inr n) = false := by
            show hd.getD n false = false
            rw [List.getD_eq_getElem?_getD, List.getElem?_eq_none_iff.mpr (by omega)]
            rfl
          rw [e2, S_0]
          rfl
    · rintro σ H' ⟨rfl, _, u, rfl⟩
      rw [List.length_map, List.take_length]
      exact ⟨_, rfl, k⟩
/-! ## The law's own bits -/
def spLbits : Sp := fun vs H Q _ => ∃ (n : Nat) (v : Int), vs = [.int (n : Int), .int v] ∧ n ≤ 3 ∧ Q (.str (S (bitsB n v))) H
theorem sc_Lbits : FnScope ["_law_length", "_law_number", "_law_found", "_law_k"] ["_law_length", "_law_number"] (defScope s_Lbits) := C8.fnScope_by (by decide +kernel)
theorem bit_val (v : Int) (i : Nat) : v / (1 * 2 ^ (0 + (i : Int)).toNat) - v / (2 * 2 ^ (0 + (i : Int)).toNat) * 2 = if bitAt v i = true then 1 else 0 := by
  have e : (0 + (i : Int)).toNat = i := by omega
  rw [e, Int.one_mul]
  have e2 : v / (2 * 2 ^ i) = v / 2 ^ i / 2 := by
    rw [Int.ediv_ediv_of_nonneg (Int.pow_nonneg (by decide)), Int.mul_comm]
  rw [e2]
  unfold bitAt
  have h : v / 2 ^ i % 2 = 0 ∨ v / 2 ^ i % 2 = 1 := by omega
  rcases h with h | h
  · rw [if_neg (by rw [h]; decide)]
    omega
  · rw [if_pos (by rw [h]; decide)]
    omega
theorem str_bit (b : Bool) : ((toString (if b = true then (1 : Int) else 0) : String) : Str) = S [b] := by
  cases b
  · decide +kernel
  · decide +kernel
theorem cal_Lbits (T : Tx K mg w) : C8.Cal P w K mg base 1 "_law_bits" spLbits [] := by
  refine T.d_Lbits.cal sc_Lbits (fun vs H Q E h => ?_) fun f cdv A outer s H vs Q E hr h => ?_
  · obtain ⟨n, v, rfl, _⟩ := h
    rfl
  · obtain ⟨n, v, rfl, hn, k⟩ := h
    refine ⟨_, pss_cons (ps_set (i := 2) sc_Lbits.nd rfl (Or.inl rfl) pe_str) <|
      pss_cons (ps_for PassesOwn.never rfl (pi_range1 rfl T.f_range (pa_cons (pv 0) pa_nil)) (pg_name (i := 3) sc_Lbits.nd rfl (Or.inl rfl))
        (pss_one (ps_set (i := 2) sc_Lbits.nd rfl (Or.inl rfl) (pe_op op_add_str (pe_callTy call_str_int rfl T.f_str (by decide +kernel) (pa_cons
          (pe_op op_sub (pe_op op_fdiv (pv 1) (pe_op op_shl pe_int (pv 3))) (pe_op op_mul (pe_op op_fdiv (pv 1) (pe_op op_shl pe_int (pv 3))) pe_int)) pa_nil)) (pv 2))))) <|
      pss_one (ps_ret (pv 2)), ?_⟩
    refine ⟨_, rfl, (n : Int), rfl, by omega, by omega, for_range (lo := 0) (n := ((n : Int)).toNat)
      (fun i σ H' => H' = H ∧ ∃ u : Option V, σ = [some (.int (n : Int)), some (.int v), some (.str (S (bitsB i v))), u])
      ⟨rfl, none, by rw [show bitsB 0 v = [] from rfl, S_nil]; rfl⟩ ?_ ?_⟩
    · rintro i σ H' hi ⟨rfl, u, rfl⟩
      have hi' : i < n := by omega
      have h3 : i = 0 ∨ i = 1 ∨ i = 2 := by omega
      have c1 : CDiv v (1 * 2 ^ (0 + (i : Int)).toNat) ∧ CDiv v (2 * 2 ^ (0 + (i : Int)).toNat) ∧ CPow 1 (0 + (i : Int)) ∧ CPow 2 (0 + (i : Int)) := by
        unfold CDiv CPow
        rcases h3 with rfl | rfl | rfl
        · decide +kernel
        · decide +kernel
        · decide +kernel
      obtain ⟨d1, d2, p1, p2⟩ := c1
      refine ⟨_, rfl, _, rfl, _, _, rfl, rfl, p1, _, _, rfl, rfl, d1, _, rfl, _, rfl, _, _, rfl, rfl, p2, _, _, rfl, rfl, d2, _, _, rfl, rfl, .inr ⟨by decide, by decide⟩, _, _, rfl, rfl, _, rfl, ?_⟩
      rw [bit_val]
      refine ⟨by cases bitAt v i <;> decide, _, rfl, ?_⟩
      rw [str_bit]
      refine ⟨_, _, rfl, rfl, ?_, ?_⟩
      · rw [S_len, S_len, bitsB_length]
        exact Nat.le_of_lt (small5 (by show 1 + i ≤ 100000; omega))
      · rw [S_app, show [bitAt v i] ++ bitsB i v = bitsB (i + 1) v from (bitsB_succ i v).symm]
        exact ⟨rfl, some (.int (0 + (i : Int))), rfl⟩
    · rintro σ H' ⟨rfl, u, rfl⟩
      rw [Int.toNat_natCast]
      exact ⟨_, rfl, k⟩
/-! ## The law's own xor -/
theorem sc_Lxor : FnScope ["_law_first", "_law_second", "_law_k"] ["_law_first", "_law_second"] (defScope s_Lxor) := C8.fnScope_by (by decide +kernel)
theorem cal_Lxor (T : Tx K mg w) : C8.Cal P w K mg base 1 "_law_xor" spXor [] := by
  refine T.d_Lxor.cal sc_Lxor (fun vs H Q E h => ?_) fun f cdv A outer s H vs Q E hr h => ?_
  · obtain ⟨a, b, rfl, _⟩ := h
    rfl
  · obtain ⟨a, b, rfl, hl, hn, k⟩ := h
    refine ⟨_, pss_one (ps_ret (pe_join pe_str (pe_lc (own := [("_law_k", 2)]) (g := gName 2) (tt := tYes)
      (te := tOp (rIxL K) (tLst (tCons (tC (.str "0")) (tCons (tC (.str "1")) tNil))) (tCB (fun xs H Q => (∃ i, xs = [.int i] ∧ Q (.int i) H) ∨ ∃ k, xs = [.bl k] ∧ Q (.int (if k then 1 else 0)) H) (tCons (tOp rNe (tOp rIxS (tVar 0) (tVar 2)) (tOp rIxS (tVar 1) (tVar 2))) tNil)))
      rfl sc_Lxor.nd (pi_range1 rfl T.f_range (pa_cons (pe_callB call_len_str rfl T.f_len PySem.boot_len (pa_cons (pv 0) pa_nil)) pa_nil))
      (blkOk_by (N := ["_law_first", "_law_second", "_law_k"]) (sc := defScope s_Lxor) (by decide +kernel))
      (fun _ _ _ _ _ => pg_name (i := 2) sc_Lxor.nd rfl (Or.inl rfl)) (fun _ _ _ _ _ => pts_nil)
      (fun _ _ _ _ _ => pe_ix ix_list (pe_lst (pa_cons pe_str (pa_cons pe_str pa_nil))) (pe_callTy call_int1 rfl T.f_int (by decide +kernel) (pa_cons (pe_cmpR op_ne (pe_ix ix_str (pv 0) (pv 2) (fun _ _ => rfl)) (pe_ix ix_str (pv 1) (pv 2) (fun _ _ => rfl)) (nomark _)) pa_nil)) (fun _ _ => rfl))))), ?_⟩
    refine ⟨⟨_, rfl⟩, _, rfl, _, rfl, len_small hn (by decide), _, rfl, by omega, by rw [S_len]; omega, fun D hD => lc_range (lo := 0) (n := (((S a).length : Nat) : Int).toNat)
      (fun i H' => Same H H' ∧ H' D = some (.lst (((xorB a b).take i).map fun b => V.str (S [b])))) ⟨same_upd hD, upd_same⟩ ?_ ?_⟩
    · rintro i H' hi ⟨sm, hL⟩
      rw [Int.toNat_natCast, S_len] at hi
      have ha : a[i]? = some a[i] := List.getElem?_eq_getElem hi
      have hi2 : i < b.length := by omega
      have hb : b[i]? = some b[i] := List.getElem?_eq_getElem hi2
      have hg : (xorB a b)[i]? = some (a[i] != b[i]) := xorB_get ha hb
      refine ⟨rfl, by show (2 : Nat) ≤ sizeLine; decide, fun t ht => ?_⟩
      have nD : D ≠ t := ne_of_none hL ht
      refine ⟨_, rfl, _, rfl, S a, 0 + (i : Int), sg a[i], rfl, rfl, len_small hn (by decide), ?_, _, rfl, _, rfl, S b, 0 + (i : Int), sg b[i], rfl, rfl, len_small (show b.length ≤ 1000 by omega) (by decide), ?_, rfl, .inr ⟨_, rfl, ?_⟩⟩
      · rw [Int.zero_add]
        exact atI_nat (by rw [S_list, List.getElem?_map, ha]; rfl)
      · rw [Int.zero_add]
        exact atI_nat (by rw [S_list, List.getElem?_map, hb]; rfl)
      rw [show decide (V.str ⟨#[sg a[i]]⟩ = V.str ⟨#[sg b[i]]⟩) = (a[i] == b[i]) from dec_sg a[i] b[i]]
      have e2 : atI [V.str ("0" : Str), V.str ("1" : Str)] (if (!(a[i] == b[i])) = true then (1 : Int) else 0) = some (.str (S [a[i] != b[i]])) := by
        rw [two_at (by split <;> decide) (by split <;> decide)]
        have e3 : decide ((if (!(a[i] == b[i])) = true then (1 : Int) else 0) = 1) = (a[i] != b[i]) := by
          cases a[i] <;> cases b[i] <;> rfl
        rw [e3]
      refine ⟨t, _, _, _, rfl, rfl, SqL.of upd_same, e2, _, (upd_ne nD).trans hL, by rw [List.length_map, List.length_take]; exact small5 (by omega), fun q o e => ?_, ?_⟩
      · rw [upd_ne (ne_of_none e hD), upd_ne (ne_of_none (sm _ _ e) ht)]
        exact sm _ _ e
      · rw [upd_same, take_snoc hg, List.map_append]
        rfl
    · rintro H' ⟨sm, hL⟩
      have hlen : (xorB a b).length = a.length := by rw [xorB_length]; omega
      rw [Int.toNat_natCast, S_len, List.take_of_length_le (by omega), map_bits] at hL
      refine ⟨_, D, _, rfl, rfl, Or.inl (SqL.of hL), ?_, ?_⟩
      · rw [sum_ones, empty_len]
        omega
      · rw [join_bools]
        exact k _ sm
end
end Bb
namespace Bb
open PySem PySem.Spec PyProof.Rows L2
/-! ## The law draws a breaker -/
def szB : Nat → Nat
  | 0 => 1
  | d + 1 => 1 + 3 * szB d
theorem szB_pos : ∀ d, 1 ≤ szB d
  | 0 => Nat.le_refl 1
  | d + 1 => by show 1 ≤ 1 + 3 * szB d; omega
theorem sumN_le {c : Nat} {g : Nat → Nat} : ∀ n, (∀ i, i < n → g i ≤ c) → sumN n g ≤ n * c
  | 0, _ => by show 0 ≤ 0 * c; omega
  | n + 1, h => by
    have a := sumN_le (c := c) (g := g) n fun i hi => h i (by omega)
    have b := h n (Nat.lt_succ_self n)
    show sumN n g + g n ≤ (n + 1) * c
    rw [Nat.add_mul]
    omega
theorem tups_upd {H : Hp} {p : Addr} {xs : List V} {o : HO} (h : H p = some (.lst xs)) : Tups H (upd H p o) := fun a ys e => by
  rw [upd_ne (ne_of e h (by intro z; cases z))]
  exact e
section
variable {P : Program} {w : World} {K : PySem.W.Frag} {mg : Str → Option Value} {base : Heap}
def spBrk (d : Nat) : Sp := fun vs H Q _ => ∃ (h : Hand) (asks len said : Nat), vs = [.ref h.hd, .int (d : Int), .int (asks : Int), .int (len : Int), .int (said : Int)] ∧ len ≤ 8 ∧ said ≤ 8 ∧ HandAt H h ∧
  ∀ (v : V) (b : Brk) H', BrkAt H' b v → Deep b (d + 1) → size b ≤ szB d → HandK h H H' → Q v H'
abbrev nBrk : List Str := ["_law_hand", "_law_depth", "_law_asks", "_law_length", "_law_said", "_law_kind", "_law_size", "_law_first", "_law_many", "_law_k"]
theorem sc_Lbrk : FnScope nBrk ["_law_hand", "_law_depth", "_law_asks", "_law_length", "_law_said"] (defScope s_Lbreaker) := C8.fnScope_by (by decide +kernel)
theorem cal_brk (T : Tx K mg w) : ∀ d : Nat, C8.Cal P w K mg base (3 + d) "_law_breaker" (spBrk d) []
  | 0 => by
    refine T.d_Lbreaker.cal sc_Lbrk (fun vs H Q E h => ?_) fun f cdv A outer s H vs Q E hr h => ?_
    · obtain ⟨hd, asks, len, said, rfl, _⟩ := h
      rfl
    · obtain ⟨hd, asks, len, said, rfl, hl, hs, ha, k⟩ := h
      refine ⟨_, pss_cons (ps_set (i := 5) sc_Lbrk.nd rfl (Or.inl rfl) (C8.pe_c (cal_take T) hr (by decide) rfl (pa_cons (pv 0) (pa_cons pe_int pa_nil)))) <|
        pss_cons (ps_if (PW.pt (pw_or (pt_cmpR op_eq (pv 1) pe_int (nomark _)) (pw_or1 (pt_cmpR op_eq (pv 5) pe_int (nomark _)))))
          (pss_cons (ps_set (i := 6) sc_Lbrk.nd rfl (Or.inl rfl) (pv 4)) <|
           pss_cons (ps_if (pt_cmpR op_eq (C8.pe_c (cal_take T) hr (by decide) rfl (pa_cons (pv 0) (pa_cons pe_int pa_nil))) pe_int (nomark _)) (pss_one (ps_set (i := 6) sc_Lbrk.nd rfl (Or.inl rfl) (C8.pe_c (cal_take T) hr (by decide) rfl (pa_cons (pv 0) (pa_cons pe_int pa_nil))))) pss_nil) <|
           pss_one (ps_ret (pe_tup (pa_cons pe_str (pa_cons (C8.pe_c (cal_Lparts T) hr (by decide) rfl (pa_cons (pv 0) (pa_cons (pv 6) pa_nil))) pa_nil))))) pss_nil) pss_never, ?_⟩
      refine ⟨_, rfl, hd, 6, rfl, by decide, ha, fun z H1 z0 z6 k1 => ?_⟩
      refine ⟨_, rfl, rfl, _, rfl, iteT ?_⟩
      refine ⟨_, rfl, _, rfl, hd, 9, rfl, by decide, k1.1, fun y H2 y0 y9 k2 => ⟨rfl, _, rfl, ?_⟩⟩
      have k12 := k1.trans k2
      refine ite2 (fun c => ?_) (fun c => ?_)
      · refine ⟨_, rfl, hd, 4, rfl, by decide, k2.1, fun x H3 x0 x4 k3 => ⟨_, rfl, _, rfl, hd, x.toNat, by rw [Int.toNat_of_nonneg x0]; rfl, by omega, k3.1, fun t ps H4 e4 hp k4 => ?_⟩⟩
        refine ⟨by show (2 : Nat) ≤ sizeLine; decide, fun p hp0 => k (.ref p) (.say ps) _ ⟨p, t, rfl, upd_same, (upd_ne (ne_of_none e4 hp0)).trans e4⟩ ⟨hp, by omega⟩ (Nat.le_refl 1) (((k12.trans k3).trans k4).same (same_upd hp0))⟩
      · refine ⟨_, rfl, _, rfl, hd, said, rfl, hs, k2.1, fun t ps H4 e4 hp k4 => ?_⟩
        refine ⟨by show (2 : Nat) ≤ sizeLine; decide, fun p hp0 => k (.ref p) (.say ps) _ ⟨p, t, rfl, upd_same, (upd_ne (ne_of_none e4 hp0)).trans e4⟩ ⟨hp, by omega⟩ (Nat.le_refl 1) ((k12.trans k4).same (same_upd hp0))⟩
  | d + 1 => by
    have IH := cal_brk T d
    refine T.d_Lbreaker.cal sc_Lbrk (fun vs H Q E h => ?_) fun f cdv A outer s H vs Q E hr h => ?_
    · obtain ⟨hd, asks, len, said, rfl, _⟩ := h
      rfl
    · obtain ⟨hd, asks, len, said, rfl, hl, hs, ha, k⟩ := h
      have l1 : 1 ≤ 3 + d := by omega
      have l2 : 2 ≤ 3 + d := by omega
      have e1 : ((d + 1 : Nat) : Int) - 1 = (d : Int) := by omega
      have a5 : [V.ref hd.hd, V.int (((d + 1 : Nat) : Int) - 1), V.int (asks : Int), V.int (len : Int), V.int (said : Int)] = [V.ref hd.hd, V.int (d : Int), V.int (asks : Int), V.int (len : Int), V.int (said : Int)] := by rw [e1]
      refine ⟨_, pss_cons (ps_set (i := 5) sc_Lbrk.nd rfl (Or.inl rfl) (C8.pe_c (cal_take T) hr l1 rfl (pa_cons (pv 0) (pa_cons pe_int pa_nil)))) <|
        pss_cons (ps_if (PW.pt (pw_or (pt_cmpR op_eq (pv 1) pe_int (nomark _)) (pw_or1 (pt_cmpR op_eq (pv 5) pe_int (nomark _)))))
          (pss_cons (ps_set (i := 6) sc_Lbrk.nd rfl (Or.inl rfl) (pv 4)) <|
           pss_cons (ps_if (pt_cmpR op_eq (C8.pe_c (cal_take T) hr l1 rfl (pa_cons (pv 0) (pa_cons pe_int pa_nil))) pe_int (nomark _)) (pss_one (ps_set (i := 6) sc_Lbrk.nd rfl (Or.inl rfl) (C8.pe_c (cal_take T) hr l1 rfl (pa_cons (pv 0) (pa_cons pe_int pa_nil))))) pss_nil) <|
           pss_one (ps_ret (pe_tup (pa_cons pe_str (pa_cons (C8.pe_c (cal_Lparts T) hr l2 rfl (pa_cons (pv 0) (pa_cons (pv 6) pa_nil))) pa_nil))))) pss_nil) <|
        pss_cons (ps_if (PW.pt (pw_or (pt_cmpR op_lt (pv 5) pe_int (nomark _)) (pw_or1 (PW.pt (pw_and (pt_cmpR op_eq (pv 5) pe_int (nomark _)) (pw_and1 (pt_cmpR op_eq (pv 2) pe_int (nomark _))))))))
          (pss_cons (ps_set (i := 7) sc_Lbrk.nd rfl (Or.inl rfl) (C8.pe_c IH hr (Nat.le_refl _) rfl (pa_cons (pv 0) (pa_cons (pe_op op_sub (pv 1) pe_int) (pa_cons (pv 2) (pa_cons (pv 3) (pa_cons (pv 4) pa_nil))))))) <|
           pss_one (ps_ret (pe_tup (pa_cons pe_str (pa_cons (C8.pe_c (cal_take T) hr l1 rfl (pa_cons (pv 0) (pa_cons pe_int pa_nil))) (pa_cons (pv 7) (pa_cons
             (C8.pe_c IH hr (Nat.le_refl _) rfl (pa_cons (pv 0) (pa_cons (pe_op op_sub (pv 1) pe_int) (pa_cons (pv 2) (pa_cons (pv 3) (pa_cons (pv 4) pa_nil)))))) pa_nil))))))) pss_nil) <|
        pss_cons (ps_if (pt_cmpR op_eq (pv 5) pe_int (nomark _))
          (pss_cons (ps_set (i := 8) sc_Lbrk.nd rfl (Or.inl rfl) (pe_op op_add pe_int (C8.pe_c (cal_take T) hr l1 rfl (pa_cons (pv 0) (pa_cons pe_int pa_nil))))) <|
           pss_one (ps_ret (pe_tup (pa_cons pe_str (pa_cons (pe_callTy call_tuple_of rfl T.f_tuple (by decide +kernel) (pa_cons (pe_lc (own := [("_law_k", 9)]) (g := gName 9) (tt := tYes)
             (te := tCall (spBrk d) [] C8.E0 (tCons (tVar 0) (tCons (tOp (rI0 fun i j => .int (i - j)) (tVar 1) (tC (.int 1))) (tCons (tVar 2) (tCons (tVar 3) (tCons (tVar 4) tNil))))))
             rfl sc_Lbrk.nd (pi_range1 rfl T.f_range (pa_cons (pv 8) pa_nil)) (blkOk_by (N := nBrk) (sc := defScope s_Lbreaker) (by decide +kernel)) (fun _ _ _ _ _ => pg_name (i := 9) sc_Lbrk.nd rfl (Or.inl rfl)) (fun _ _ _ _ _ => pts_nil)
             (fun _ _ _ _ _ => C8.pe_c IH hr (Nat.le_refl _) rfl (pa_cons (pv 0) (pa_cons (pe_op op_sub (pv 1) pe_int) (pa_cons (pv 2) (pa_cons (pv 3) (pa_cons (pv 4) pa_nil))))))) pa_nil)) pa_nil))))) pss_nil) <|
        pss_cons (ps_if (pt_cmpR op_eq (pv 2) pe_int (nomark _)) (pss_one (ps_ret (pe_tup (pa_cons pe_str (pa_cons (C8.pe_c (cal_Lparts T) hr l2 rfl (pa_cons (pv 0) (pa_cons (pv 4) pa_nil))) pa_nil))))) pss_nil) <|
        pss_cons (ps_set (i := 6) sc_Lbrk.nd rfl (Or.inl rfl) (pv 3)) <|
        pss_cons (ps_if (pt_cmpR op_eq (C8.pe_c (cal_take T) hr l1 rfl (pa_cons (pv 0) (pa_cons pe_int pa_nil))) pe_int (nomark _)) (pss_one (ps_set (i := 6) sc_Lbrk.nd rfl (Or.inl rfl) (C8.pe_c (cal_take T) hr l1 rfl (pa_cons (pv 0) (pa_cons pe_int pa_nil))))) pss_nil) <|
        pss_one (ps_ret (pe_tup (pa_cons pe_str (pa_cons (C8.pe_c (cal_Lparts T) hr l2 rfl (pa_cons (pv 0) (pa_cons (pv 6) pa_nil))) (pa_cons
          (C8.pe_c IH hr (Nat.le_refl _) rfl (pa_cons (pv 0) (pa_cons (pe_op op_sub (pv 1) pe_int) (pa_cons (pe_op op_sub (pv 2) pe_int) (pa_cons (pv 3) (pa_cons (pv 4) pa_nil)))))) pa_nil))))), ?_⟩
      refine ⟨_, rfl, hd, 6, rfl, by decide, ha, fun z H1 z0 z6 k1 => ?_⟩
      have hp1 := szB_pos d
      have say : ∀ (t : Addr) (ps : List Part) (H4 : Hp), H4 t = some (.tup (ps.map partV)) → PartsOk ps → HandK hd H H4 → ∀ p, H4 p = none → Q (.ref p) (upd H4 p (.tup [.str "say", .ref t])) := fun t ps H4 e4 hp k4 p hp0 =>
        k (.ref p) (.say ps) _ ⟨p, t, rfl, upd_same, (upd_ne (ne_of_none e4 hp0)).trans e4⟩ ⟨hp, by omega⟩ (by show 1 ≤ 1 + 3 * szB d; omega) (k4.same (same_upd hp0))
      refine ⟨_, rfl, rfl, _, rfl, ?_⟩
      rw [decide_eq_false (show ¬ (V.int ((d + 1 : Nat) : Int) = V.int 0) from fun e => by have := V.int.inj e; omega)]
      refine iteF ⟨_, rfl, rfl, _, rfl, ?_⟩
      refine ite2 (fun c => ?_) (fun c => ?_)
      · refine ⟨_, rfl, _, rfl, hd, 9, rfl, by decide, k1.1, fun y H2 y0 y9 k2 => ⟨rfl, _, rfl, ?_⟩⟩
        have k12 := k1.trans k2
        refine ite2 (fun c => ?_) (fun c => ?_)
        · refine ⟨_, rfl, hd, 4, rfl, by decide, k2.1, fun x H3 x0 x4 k3 => ⟨_, rfl, _, rfl, hd, x.toNat, by rw [Int.toNat_of_nonneg x0]; rfl, by omega, k3.1, fun t ps H4 e4 hp k4 => ?_⟩⟩
          exact ⟨by show (2 : Nat) ≤ sizeLine; decide, say t ps H4 e4 hp ((k12.trans k3).trans k4)⟩
        · refine ⟨_, rfl, _, rfl, hd, said, rfl, hs, k2.1, fun t ps H4 e4 hp k4 => ?_⟩
          exact ⟨by show (2 : Nat) ≤ sizeLine; decide, say t ps H4 e4 hp (k12.trans k4)⟩
      refine ⟨_, rfl, _, _, rfl, rfl, _, rfl, ?_⟩
      refine ite2 (fun c => ?_) (fun c => ?_)
      · refine ⟨_, rfl, _, rfl, _, _, rfl, rfl, _, rfl, _, rfl, _, rfl, hd, asks, len, said, a5, hl, hs, k1.1, fun v1 b1 H2 hb1 hd1 hz1 k2 => ?_⟩
        refine ⟨_, rfl, hd, 9, rfl, by decide, k2.1, fun x H3 x0 x9 k3 => ⟨_, rfl, ?_⟩⟩
        refine ⟨_, rfl, _, rfl, _, _, rfl, rfl, _, rfl, _, rfl, _, rfl, hd, asks, len, said, a5, hl, hs, k3.1, fun v2 b2 H4 hb2 hd2 hz2 k4 => ?_⟩
        refine ⟨by show (4 : Nat) ≤ sizeLine; decide, fun p hp0 => k (.ref p) (.look x.toNat b1 b2) _ ⟨p, v1, v2, rfl, ?_, ?_, ?_⟩ ⟨by omega, by omega, hd1, hd2⟩ (by show 1 + size b1 + size b2 ≤ 1 + 3 * szB d; omega) ((((k1.trans k2).trans k3).trans k4).same (same_upd hp0))⟩
        · rw [upd_same, Int.toNat_of_nonneg x0]
        · exact (BrkAt.tups ((k3.trans k4).tups k2.1) _ _ hb1).same (same_upd hp0)
        · exact hb2.same (same_upd hp0)
      refine ⟨_, rfl, rfl, _, rfl, ?_⟩
      by_cases c5 : z = 5 ∧ asks = 0
      · rw [decide_eq_true (show V.int z = V.int 5 from congrArg V.int c5.1)]
        refine iteT ⟨_, rfl, rfl, _, rfl, ?_⟩
        rw [decide_eq_true (show V.int (asks : Int) = V.int 0 from congrArg V.int (by omega))]
        refine iteT ?_
        refine ⟨_, rfl, _, rfl, _, _, rfl, rfl, _, rfl, _, rfl, _, rfl, hd, asks, len, said, a5, hl, hs, k1.1, fun v1 b1 H2 hb1 hd1 hz1 k2 => ?_⟩
        refine ⟨_, rfl, hd, 9, rfl, by decide, k2.1, fun x H3 x0 x9 k3 => ⟨_, rfl, ?_⟩⟩
        refine ⟨_, rfl, _, rfl, _, _, rfl, rfl, _, rfl, _, rfl, _, rfl, hd, asks, len, said, a5, hl, hs, k3.1, fun v2 b2 H4 hb2 hd2 hz2 k4 => ?_⟩
        refine ⟨by show (4 : Nat) ≤ sizeLine; decide, fun p hp0 => k (.ref p) (.look x.toNat b1 b2) _ ⟨p, v1, v2, rfl, ?_, ?_, ?_⟩ ⟨by omega, by omega, hd1, hd2⟩ (by show 1 + size b1 + size b2 ≤ 1 + 3 * szB d; omega) ((((k1.trans k2).trans k3).trans k4).same (same_upd hp0))⟩
        · rw [upd_same, Int.toNat_of_nonneg x0]
        · exact (BrkAt.tups ((k3.trans k4).tups k2.1) _ _ hb1).same (same_upd hp0)
        · exact hb2.same (same_upd hp0)
      by_cases c6 : z = 5
      · have ca0 : asks ≠ 0 := fun e => c5 ⟨c6, e⟩
        rw [decide_eq_true (show V.int z = V.int 5 from congrArg V.int c6)]
        refine iteT ⟨_, rfl, rfl, _, rfl, ?_⟩
        rw [decide_eq_false (show ¬ (V.int (asks : Int) = V.int 0) from fun e => by have := V.int.inj e; omega)]
        refine iteF ?_
        refine ⟨_, rfl, rfl, _, rfl, ?_⟩
        refine ite2 (fun c3 => ?_) (fun c3 => ?_)
        · refine ⟨_, rfl, hd, 3, rfl, by decide, k1.1, fun x H2 x0 x3 k2 => ⟨_, _, rfl, rfl, ?_⟩⟩
          obtain ⟨m, rfl⟩ : ∃ m : Nat, x = (m : Int) := ⟨x.toNat, (Int.toNat_of_nonneg x0).symm⟩
          refine ⟨_, rfl, _, rfl, by omega, by omega, fun D hD => ?_⟩
          refine lc_range (lo := 0) (n := (1 + (m : Int)).toNat) (fun i H' => HandK hd H2 H' ∧ ∃ (xs : List V) (bs : List Brk), H' D = some (.lst xs) ∧ xs.length = i ∧ Paired (fun (x : V) (b : Brk) => BrkAt H' b x) xs bs ∧ ∀ b, b ∈ bs → Deep b (d + 1) ∧ size b ≤ szB d)
            ⟨HandK.of k2.1 (same_upd hD), [], [], upd_same, rfl, .nil, fun _ h => nomatch h⟩ ?_ ?_
          · rintro i H' hi ⟨hk, xs, bs, hL, hlen, hP, hall⟩
            have hi2 : i ≤ m := by omega
            refine ⟨rfl, _, rfl, _, rfl, _, _, rfl, rfl, _, rfl, _, rfl, _, rfl, hd, asks, len, said, a5, hl, hs, hk.1, fun v b H4 hb hdp hz k4 => ?_⟩
            have hL4 := k4.2 _ _ hL fun z => by
              obtain ⟨ys, e⟩ := k2.1.ls
              rw [z, e] at hD
              cases hD
            have tu := (k4.tups hk.1).trans (tups_upd (o := .lst (xs ++ [v])) hL4)
            refine ⟨xs, hL4, by rw [hlen]; exact small5 (by omega), HandK.put k2.1 (hk.trans k4) hD, xs ++ [v], bs ++ [b], upd_same, by rw [List.length_append, hlen]; rfl, paired_snoc (F := fun (x : V) (b : Brk) => BrkAt _ b x) (BrkAt.tups (tups_upd hL4) _ _ hb) (paired_mono (fun x b q => BrkAt.tups tu _ _ q) hP), fun q hm => ?_⟩
            rcases List.mem_append.mp hm with e | e
            · exact hall q e
            · rw [List.mem_singleton.mp e]
              exact ⟨hdp, hz⟩
          · rintro H' ⟨hk, xs, bs, hL, hlen, hP, hall⟩
            have hlen2 : xs.length = m + 1 := by omega
            have hlb : bs.length = m + 1 := by rw [← paired_len hP]; exact hlen2
            refine ⟨D, _, rfl, .inl ⟨SqL.of hL, fun t ht => ⟨by show (2 : Nat) ≤ sizeLine; decide, fun p hp0 => ?_⟩⟩⟩
            have s1 : Same H' (upd (upd H' t (.tup xs)) p (.tup [.str "toss", .ref t])) := (same_upd ht).trans (same_upd hp0)
            have ent : t ≠ p := ne_of_none upd_same hp0
            have fb : ∀ i, i < m + 1 → ∃ x, xs[i]? = some x ∧ BrkAt H' (bs.getD i (.say [])) x ∧ bs.getD i (.say []) ∈ bs := fun i hi => by
              have hb : bs[i]? = some bs[i] := List.getElem?_eq_getElem (by omega)
              obtain ⟨x, e1, e2⟩ := paired_at2 hP hb
              refine ⟨x, e1, ?_⟩
              rw [List.getD_eq_getElem?_getD, hb]
              exact ⟨e2, List.getElem_mem _⟩
            refine k (.ref p) (.toss (m + 1) fun i => bs.getD i (.say [])) _ ⟨p, t, xs, rfl, upd_same, (upd_ne ent).trans upd_same, hlen2, fun i hi => ?_⟩ ⟨by omega, by omega, by omega, fun i hi => ?_⟩ ?_ (((k1.trans k2).trans hk).same s1)
            · obtain ⟨x, e1, e2, _⟩ := fb i hi
              exact ⟨x, e1, e2.same s1⟩
            · obtain ⟨x, _, _, e3⟩ := fb i hi
              exact (hall _ e3).1
            · have q := sumN_le (c := szB d) (g := fun i => size (bs.getD i (.say []))) (m + 1) fun i hi => by
                obtain ⟨x, _, _, e3⟩ := fb i hi
                exact (hall _ e3).2
              have q2 : (m + 1) * szB d ≤ 3 * szB d := Nat.mul_le_mul_right _ (by omega)
              show 1 + sumN (m + 1) (fun i => size (bs.getD i (.say []))) ≤ 1 + 3 * szB d
              omega
        refine ⟨_, rfl, rfl, _, rfl, ?_⟩
        refine ite2 (fun ca => ?_) (fun ca => ?_)
        · refine ⟨_, rfl, _, rfl, hd, said, rfl, hs, k1.1, fun t ps H4 e4 hp k4 => ?_⟩
          exact ⟨by show (2 : Nat) ≤ sizeLine; decide, say t ps H4 e4 hp (k1.trans k4)⟩
        have ca1 : 1 ≤ asks := by
          have : ¬ (V.int (asks : Int) = V.int 0) := of_decide_eq_false (Bool.eq_false_iff.mpr ca)
          have h0 : asks ≠ 0 := fun e => this (by rw [e]; rfl)
          omega
        have e2 : (asks : Int) - 1 = ((asks - 1 : Nat) : Int) := by omega
        have b5 : [V.ref hd.hd, V.int (((d + 1 : Nat) : Int) - 1), V.int ((asks : Int) - 1), V.int (len : Int), V.int (said : Int)] = [V.ref hd.hd, V.int (d : Int), V.int ((asks - 1 : Nat) : Int), V.int (len : Int), V.int (said : Int)] := by rw [e1, e2]
        refine ⟨_, rfl, _, rfl, hd, 9, rfl, by decide, k1.1, fun y H2 y0 y9 k2 => ⟨rfl, _, rfl, ?_⟩⟩
        refine ite2 (fun c => ?_) (fun c => ?_)
        · refine ⟨_, rfl, hd, 4, rfl, by decide, k2.1, fun x H3 x0 x4 k3 => ⟨_, rfl, _, rfl, hd, x.toNat, by rw [Int.toNat_of_nonneg x0]; rfl, by omega, k3.1, fun t ps H4 e4 hp k4 => ?_⟩⟩
          refine ⟨_, rfl, _, rfl, _, _, rfl, rfl, _, rfl, _, _, rfl, rfl, _, rfl, _, rfl, hd, asks - 1, len, said, b5, hl, hs, k4.1, fun v b H5 hb hdp hz k5 => ⟨by show (3 : Nat) ≤ sizeLine; decide, fun p hp0 => ?_⟩⟩
          exact k (.ref p) (.ask ps b) _ ⟨p, t, v, rfl, upd_same, same_upd hp0 _ _ (k5.tups k4.1 _ _ e4), hb.same (same_upd hp0)⟩ ⟨hp, by omega, hdp⟩ (by show 1 + size b ≤ 1 + 3 * szB d; omega) (((((k1.trans k2).trans k3).trans k4).trans k5).same (same_upd hp0))
        · refine ⟨_, rfl, _, rfl, hd, len, rfl, hl, k2.1, fun t ps H4 e4 hp k4 => ?_⟩
          refine ⟨_, rfl, _, rfl, _, _, rfl, rfl, _, rfl, _, _, rfl, rfl, _, rfl, _, rfl, hd, asks - 1, len, said, b5, hl, hs, k4.1, fun v b H5 hb hdp hz k5 => ⟨by show (3 : Nat) ≤ sizeLine; decide, fun p hp0 => ?_⟩⟩
          exact k (.ref p) (.ask ps b) _ ⟨p, t, v, rfl, upd_same, same_upd hp0 _ _ (k5.tups k4.1 _ _ e4), hb.same (same_upd hp0)⟩ ⟨hp, by omega, hdp⟩ (by show 1 + size b ≤ 1 + 3 * szB d; omega) ((((k1.trans k2).trans k4).trans k5).same (same_upd hp0))
      · rw [decide_eq_false (show ¬ (V.int z = V.int 5) from fun e => c6 (V.int.inj e))]
        refine iteF (iteF ?_)
        refine ⟨_, rfl, rfl, _, rfl, ?_⟩
        refine ite2 (fun c3 => ?_) (fun c3 => ?_)
        · refine ⟨_, rfl, hd, 3, rfl, by decide, k1.1, fun x H2 x0 x3 k2 => ⟨_, _, rfl, rfl, ?_⟩⟩
          obtain ⟨m, rfl⟩ : ∃ m : Nat, x = (m : Int) := ⟨x.toNat, (Int.toNat_of_nonneg x0).symm⟩
          refine ⟨_, rfl, _, rfl, by omega, by omega, fun D hD => ?_⟩
          refine lc_range (lo := 0) (n := (1 + (m : Int)).toNat) (fun i H' => HandK hd H2 H' ∧ ∃ (xs : List V) (bs : List Brk), H' D = some (.lst xs) ∧ xs.length = i ∧ Paired (fun (x : V) (b : Brk) => BrkAt H' b x) xs bs ∧ ∀ b, b ∈ bs → Deep b (d + 1) ∧ size b ≤ szB d)
            ⟨HandK.of k2.1 (same_upd hD), [], [], upd_same, rfl, .nil, fun _ h => nomatch h⟩ ?_ ?_
          · rintro i H' hi ⟨hk, xs, bs, hL, hlen, hP, hall⟩
            have hi2 : i ≤ m := by omega
            refine ⟨rfl, _, rfl, _, rfl, _, _, rfl, rfl, _, rfl, _, rfl, _, rfl, hd, asks, len, said, a5, hl, hs, hk.1, fun v b H4 hb hdp hz k4 => ?_⟩
            have hL4 := k4.2 _ _ hL fun z => by
              obtain ⟨ys, e⟩ := k2.1.ls
              rw [z, e] at hD
              cases hD
            have tu := (k4.tups hk.1).trans (tups_upd (o := .lst (xs ++ [v])) hL4)
            refine ⟨xs, hL4, by rw [hlen]; exact small5 (by omega), HandK.put k2.1 (hk.trans k4) hD, xs ++ [v], bs ++ [b], upd_same, by rw [List.length_append, hlen]; rfl, paired_snoc (F := fun (x : V) (b : Brk) => BrkAt _ b x) (BrkAt.tups (tups_upd hL4) _ _ hb) (paired_mono (fun x b q => BrkAt.tups tu _ _ q) hP), fun q hm => ?_⟩
            rcases List.mem_append.mp hm with e | e
            · exact hall q e
            · rw [List.mem_singleton.mp e]
              exact ⟨hdp, hz⟩
          · rintro H' ⟨hk, xs, bs, hL, hlen, hP, hall⟩
            have hlen2 : xs.length = m + 1 := by omega
            have hlb : bs.length = m + 1 := by rw [← paired_len hP]; exact hlen2
            refine ⟨D, _, rfl, .inl ⟨SqL.of hL, fun t ht => ⟨by show (2 : Nat) ≤ sizeLine; decide, fun p hp0 => ?_⟩⟩⟩
            have s1 : Same H' (upd (upd H' t (.tup xs)) p (.tup [.str "toss", .ref t])) := (same_upd ht).trans (same_upd hp0)
            have ent : t ≠ p := ne_of_none upd_same hp0
            have fb : ∀ i, i < m + 1 → ∃ x, xs[i]? = some x ∧ BrkAt H' (bs.getD i (.say [])) x ∧ bs.getD i (.say []) ∈ bs := fun i hi => by
              have hb : bs[i]? = some bs[i] := List.getElem?_eq_getElem (by omega)
              obtain ⟨x, e1, e2⟩ := paired_at2 hP hb
              refine ⟨x, e1, ?_⟩
              rw [List.getD_eq_getElem?_getD, hb]
              exact ⟨e2, List.getElem_mem _⟩
            refine k (.ref p) (.toss (m + 1) fun i => bs.getD i (.say [])) _ ⟨p, t, xs, rfl, upd_same, (upd_ne ent).trans upd_same, hlen2, fun i hi => ?_⟩ ⟨by omega, by omega, by omega, fun i hi => ?_⟩ ?_ (((k1.trans k2).trans hk).same s1)
            · obtain ⟨x, e1, e2, _⟩ := fb i hi
              exact ⟨x, e1, e2.same s1⟩
            · obtain ⟨x, _, _, e3⟩ := fb i hi
              exact (hall _ e3).1
            · have q := sumN_le (c := szB d) (g := fun i => size (bs.getD i (.say []))) (m + 1) fun i hi => by
                obtain ⟨x, _, _, e3⟩ := fb i hi
                exact (hall _ e3).2
              have q2 : (m + 1) * szB d ≤ 3 * szB d := Nat.mul_le_mul_right _ (by omega)
              show 1 + sumN (m + 1) (fun i => size (bs.getD i (.say []))) ≤ 1 + 3 * szB d
              omega
        refine ⟨_, rfl, rfl, _, rfl, ?_⟩
        refine ite2 (fun ca => ?_) (fun ca => ?_)
        · refine ⟨_, rfl, _, rfl, hd, said, rfl, hs, k1.1, fun t ps H4 e4 hp k4 => ?_⟩
          exact ⟨by show (2 : Nat) ≤ sizeLine; decide, say t ps H4 e4 hp (k1.trans k4)⟩
        have ca1 : 1 ≤ asks := by
          have : ¬ (V.int (asks : Int) = V.int 0) := of_decide_eq_false (Bool.eq_false_iff.mpr ca)
          have h0 : asks ≠ 0 := fun e => this (by rw [e]; rfl)
          omega
        have e2 : (asks : Int) - 1 = ((asks - 1 : Nat) : Int) := by omega
        have b5 : [V.ref hd.hd, V.int (((d + 1 : Nat) : Int) - 1), V.int ((asks : Int) - 1), V.int (len : Int), V.int (said : Int)] = [V.ref hd.hd, V.int (d : Int), V.int ((asks - 1 : Nat) : Int), V.int (len : Int), V.int (said : Int)] := by rw [e1, e2]
        refine ⟨_, rfl, _, rfl, hd, 9, rfl, by decide, k1.1, fun y H2 y0 y9 k2 => ⟨rfl, _, rfl, ?_⟩⟩
        refine ite2 (fun c => ?_) (fun c => ?_)
        · refine ⟨_, rfl, hd, 4, rfl, by decide, k2.1, fun x H3 x0 x4 k3 => ⟨_, rfl, _, rfl, hd, x.toNat, by rw [Int.toNat_of_nonneg x0]; rfl, by omega, k3.1, fun t ps H4 e4 hp k4 => ?_⟩⟩
          refine ⟨_, rfl, _, rfl, _, _, rfl, rfl, _, rfl, _, _, rfl, rfl, _, rfl, _, rfl, hd, asks - 1, len, said, b5, hl, hs, k4.1, fun v b H5 hb hdp hz k5 => ⟨by show (3 : Nat) ≤ sizeLine; decide, fun p hp0 => ?_⟩⟩
          exact k (.ref p) (.ask ps b) _ ⟨p, t, v, rfl, upd_same, same_upd hp0 _ _ (k5.tups k4.1 _ _ e4), hb.same (same_upd hp0)⟩ ⟨hp, by omega, hdp⟩ (by show 1 + size b ≤ 1 + 3 * szB d; omega) (((((k1.trans k2).trans k3).trans k4).trans k5).same (same_upd hp0))
        · refine ⟨_, rfl, _, rfl, hd, len, rfl, hl, k2.1, fun t ps H4 e4 hp k4 => ?_⟩
          refine ⟨_, rfl, _, rfl, _, _, rfl, rfl, _, rfl, _, _, rfl, rfl, _, rfl, _, rfl, hd, asks - 1, len, said, b5, hl, hs, k4.1, fun v b H5 hb hdp hz k5 => ⟨by show (3 : Nat) ≤ sizeLine; decide, fun p hp0 => ?_⟩⟩
          exact k (.ref p) (.ask ps b) _ ⟨p, t, v, rfl, upd_same, same_upd hp0 _ _ (k5.tups k4.1 _ _ e4), hb.same (same_upd hp0)⟩ ⟨hp, by omega, hdp⟩ (by show 1 + size b ≤ 1 + 3 * szB d; omega) ((((k1.trans k2).trans k4).trans k5).same (same_upd hp0))
end
end Bb
namespace Bb
open PySem PySem.Spec PyProof.Rows L2
theorem SqL_ext {K : PySem.W.Frag} {H H' : Hp} {a : Addr} {xs : List V} (h : SqL K H a xs) (e : Same H H') : SqL K H' a xs :=
  h.elim (fun r => .inl (r.elim (fun q => .inl (e _ _ q)) fun ⟨o, q⟩ => .inr ⟨o, e _ _ q⟩)) .inr
section
variable {P : Program} {w : World} {K : PySem.W.Frag} {mg : Str → Option Value} {base : Heap}
/-! ## The law's numbers -/
def spLdraws (K : PySem.W.Frag) : Sp := fun vs H Q _ => ∃ (c : Addr) (cs : List Int) (m : Nat), vs = [.ref c, .int (m : Int)] ∧ m ≤ 1000 ∧ cs.length ≤ 1000 ∧ SqL K H c (cs.map V.int) ∧
  ∀ (p : Addr) (ns : List Int) H', H p = none → H' p = some (.lst (ns.map V.int)) → ns.length ≤ 1000 → Same H H' → Q (.ref p) H'
abbrev nLdraws : List Str := ["_law_script", "_law_many", "_law_rests", "_law_draws_here", "_law_k", "_law_cell", "_law_at", "_law_mixed"]
theorem sc_Ldraws : FnScope nLdraws ["_law_script", "_law_many"] (defScope s_Ldraws) := C8.fnScope_by (by decide +kernel)
theorem cm1 (x y : Int) : CMul (x % 2147483647) y := by
  have h0 := Int.emod_nonneg x (show (2147483647 : Int) ≠ 0 by decide)
  have h1 := Int.emod_lt_of_pos x (show (0 : Int) < 2147483647 by decide)
  exact .inl ⟨by omega, by omega⟩
theorem cm2 (x y : Int) : CMul (x % 2147483629) y := by
  have h0 := Int.emod_nonneg x (show (2147483629 : Int) ≠ 0 by decide)
  have h1 := Int.emod_lt_of_pos x (show (0 : Int) < 2147483629 by decide)
  exact .inl ⟨by omega, by omega⟩
abbrev rInt1 : List V → Hp → VK → Prop := fun xs H Q => (∃ i, xs = [.int i] ∧ Q (.int i) H) ∨ ∃ k, xs = [.bl k] ∧ Q (.int (if k then 1 else 0)) H
abbrev rAbs : List V → Hp → VK → Prop := fun xs H Q => ∃ i, xs = [.int i] ∧ Q (.int (if i < 0 then -i else i)) H
theorem cal_Ldraws (T : Tx K mg w) : C8.Cal P w K mg base 1 "_law_draws" (spLdraws K) [] := by
  refine T.d_Ldraws.cal sc_Ldraws (fun vs H Q E h => ?_) fun f cdv A outer s H vs Q E hr h => ?_
  · obtain ⟨c, cs, m, rfl, _⟩ := h
    rfl
  · obtain ⟨c, cs, m, rfl, hm, hcs, hS, k⟩ := h
    refine ⟨_, pss_cons (ps_setLc (i := 2) (own := [("_law_cell", 5)]) (g := gName 5) (tt := tYes) (te := tCB rAbs (tCons (tCB rInt1 (tCons (tVar 5) tNil)) tNil)) (by rfl) sc_Ldraws.nd rfl rfl (sw_true rfl rfl rfl (by decide +kernel))
        (pi_list (pv 0)) (blkOk_by (N := nLdraws) (sc := defScope s_Ldraws) (by decide +kernel)) (fun _ _ _ _ _ => pg_name (i := 5) sc_Ldraws.nd rfl (Or.inl rfl)) (fun _ _ _ _ _ => pts_nil)
        (fun _ _ _ _ _ => pe_callB call_abs rfl T.f_abs (by decide +kernel) (pa_cons (pe_callTy call_int1 rfl T.f_int (by decide +kernel) (pa_cons (pv 5) pa_nil)) pa_nil))) <|
      pss_cons (ps_set (i := 3) sc_Ldraws.nd rfl (Or.inl rfl) (pe_lst pa_nil)) <|
      pss_cons (ps_for PassesOwn.never rfl (pi_range1 rfl T.f_range (pa_cons (pv 1) pa_nil)) (pg_name (i := 4) sc_Ldraws.nd rfl (Or.inl rfl))
        (pss_cons (ps_set (i := 5) sc_Ldraws.nd rfl (Or.inl rfl) (pv 4)) <|
         pss_cons (ps_if (pt_cmpR op_gt (pe_callB call_len_seq rfl T.f_len PySem.boot_len (pa_cons (pv 0) pa_nil)) pe_int (nomark _))
          (pss_cons (ps_set (i := 6) sc_Ldraws.nd rfl (Or.inl rfl) (pe_op op_mod (pv 4) (pe_callB call_len_seq rfl T.f_len PySem.boot_len (pa_cons (pv 0) pa_nil)))) <|
           pss_cons (ps_set (i := 5) sc_Ldraws.nd rfl (Or.inl rfl) (pe_callTy call_int1 rfl T.f_int (by decide +kernel) (pa_cons (pe_ix ix_list (pv 0) (pv 6) (fun _ _ => rfl)) pa_nil))) <|
           pss_one (ps_if (PW.pt (pw_and (pt_cmpR op_ge (pv 5) (pe_op op_pow pe_int pe_int) (nomark _)) (pw_and1 (pt_cmpR op_gt (pe_ix ix_list (pv 2) (pv 6) (fun _ _ => rfl)) pe_int (nomark _)))))
            (pss_cons (ps_expr (pe_bm PySem.F.plainAttrs_list PySem.F.slot_list_append PySem.F.type_list_append mt_append (pv 3) (pa_cons (pe_op op_mod (pe_callTy call_int1 rfl T.f_int (by decide +kernel) (pa_cons (pe_ix ix_list (pv 2) (pv 6) (fun _ _ => rfl)) pa_nil)) pe_int) pa_nil))) <|
             pss_cons (ps_asg (pe_op op_fdiv (pe_callTy call_int1 rfl T.f_int (by decide +kernel) (pa_cons (pe_ix ix_list (pv 2) (pv 6) (fun _ _ => rfl)) pa_nil)) pe_int) (pg_sub (pv 2) (pv 6) set_list)) <|
             pss_one ps_continue) pss_nil)) pss_nil) <|
         pss_cons (ps_set (i := 7) sc_Ldraws.nd rfl (Or.inl rfl) (pe_op op_mod (pe_callTy call_int1 rfl T.f_int (by decide +kernel) (pa_cons (pe_op op_add (pe_op op_add (pe_op op_mul (pv 5) pe_int) (pe_op op_mul (pv 4) pe_int)) pe_int) pa_nil)) pe_int)) <|
         pss_cons (ps_set (i := 7) sc_Ldraws.nd rfl (Or.inl rfl) (pe_op op_mod (pe_callTy call_int1 rfl T.f_int (by decide +kernel) (pa_cons (pe_op op_add (pe_op op_fdiv (pe_op op_mul (pv 7) (pv 7)) pe_int) (pv 7)) pa_nil)) pe_int)) <|
         pss_one (ps_expr (pe_bm PySem.F.plainAttrs_list PySem.F.slot_list_append PySem.F.type_list_append mt_append (pv 3) (pa_cons (pe_op op_mod (pe_callTy call_int1 rfl T.f_int (by decide +kernel) (pa_cons (pe_op op_add (pe_op op_fdiv (pe_op op_mul (pv 7) (pv 7)) pe_int) (pe_op op_mul (pv 4) pe_int)) pa_nil)) pe_int) pa_nil))))) <|
      pss_one (ps_ret (pv 3)), ?_⟩
    refine ⟨_, rfl, c, rfl, ⟨_, hS⟩, fun rl hrl => ?_⟩
    refine lc_list (K := K) (a := c) (xs := cs.map V.int) (fun i H' => Same H H' ∧ ∃ rs : List Int, H' rl = some (.lst (rs.map V.int)) ∧ rs.length = i) ⟨same_upd hrl, [], upd_same, rfl⟩ (fun i H' _ z => SqL_ext hS z.1) ?_ ?_
    · rintro i x H' hx ⟨sm, rs, hR, hlr⟩
      rw [List.getElem?_map] at hx
      obtain ⟨v, hv, rfl⟩ := Option.map_eq_some_iff.mp hx
      have hi : i < cs.length := (List.getElem?_eq_some_iff.mp hv).1
      refine ⟨rfl, _, rfl, .inl ⟨_, rfl, _, rfl, _, hR, by rw [List.length_map, hlr]; exact small5 (by omega), fun b o e => ?_, rs ++ [if v < 0 then -v else v], by rw [upd_same, List.map_append]; rfl, by rw [List.length_append, hlr]; rfl⟩⟩
      rw [upd_ne (ne_of_none e hrl)]
      exact sm b o e
    rintro H1 ⟨sm1, rs, hR, hlr⟩
    rw [List.length_map] at hlr
    refine ⟨Nat.zero_le _, fun dl hdl => ?_⟩
    have hdl0 : H dl = none := sm1.free hdl
    have ndr : dl ≠ rl := fun z => by rw [z, hR] at hdl; cases hdl
    refine ⟨_, rfl, (m : Int), rfl, by omega, by omega, for_range (lo := 0) (n := ((m : Int)).toNat)
      (fun i σ H' => ∃ (u4 u5 u6 u7 : Option V) (rs ns : List Int), σ = [some (.ref c), some (.int (m : Int)), some (.ref rl), some (.ref dl), u4, u5, u6, u7] ∧ Same H H' ∧ H' rl = some (.lst (rs.map V.int)) ∧ rs.length = cs.length ∧ H' dl = some (.lst (ns.map V.int)) ∧ ns.length = i)
      ⟨_, _, _, _, rs, [], rfl, sm1.trans (same_upd hdl), (upd_ne ndr.symm).trans hR, hlr, upd_same, rfl⟩ ?_ ?_⟩
    · rintro i σ H' hi ⟨u4, u5, u6, u7, rs, ns, rfl, sm, hR, hlr, hD, hln⟩
      have hi' : i < m := by omega
      have hS' := SqL_ext hS sm
      have put : ∀ z : Int, Same H (upd H' dl (.lst (ns.map V.int ++ [V.int z]))) ∧ (upd H' dl (.lst (ns.map V.int ++ [V.int z]))) rl = some (.lst (rs.map V.int)) ∧ rs.length = cs.length ∧
          (upd H' dl (.lst (ns.map V.int ++ [V.int z]))) dl = some (.lst ((ns ++ [z]).map V.int)) ∧ (ns ++ [z]).length = i + 1 := fun z =>
        ⟨fun b o e => by rw [upd_ne (ne_of_none e hdl0)]; exact sm b o e, (upd_ne ndr.symm).trans hR, hlr, by rw [upd_same, List.map_append]; rfl, by rw [List.length_append, hln]; rfl⟩
      have hsz : (ns.map V.int).length < sizeLine := by rw [List.length_map, hln]; exact small5 (by omega)
      refine ⟨_, rfl, _, rfl, c, _, rfl, .inl hS', _, _, rfl, rfl, _, rfl, ?_⟩
      refine ite2 (fun c0 => ?_) (fun c0 => ?_)
      · have hpos : 0 < cs.length := by
          have := of_decide_eq_true c0
          rw [List.length_map] at this
          omega
        have hat : i % cs.length < cs.length := Nat.mod_lt _ hpos
        refine ⟨_, rfl, _, rfl, c, _, rfl, .inl hS', _, _, rfl, rfl, by rw [List.length_map]; omega, ?_⟩
        have eJ : (0 + (i : Int)) % (((cs.map V.int).length : Nat) : Int) = ((i % cs.length : Nat) : Int) := by rw [List.length_map, Int.zero_add]; rfl
        have eS : (cs.map V.int)[i % cs.length]? = some (V.int cs[i % cs.length]) := by rw [List.getElem?_map, List.getElem?_eq_getElem hat]; rfl
        have hat2 : i % cs.length < rs.length := by omega
        have eR : (rs.map V.int)[i % cs.length]? = some (V.int rs[i % cs.length]) := by rw [List.getElem?_map, List.getElem?_eq_getElem hat2]; rfl
        have aS : atI (cs.map V.int) ((0 + (i : Int)) % (((cs.map V.int).length : Nat) : Int)) = some (V.int cs[i % cs.length]) := by rw [eJ]; exact atI_nat eS
        have aR : atI (rs.map V.int) ((0 + (i : Int)) % (((cs.map V.int).length : Nat) : Int)) = some (V.int rs[i % cs.length]) := by rw [eJ]; exact atI_nat eR
        have iR : ixN (rs.map V.int).length ((0 + (i : Int)) % (((cs.map V.int).length : Nat) : Int)) = some (i % cs.length) := by
          rw [eJ]
          unfold ixN
          rw [if_pos (by omega), if_pos (by rw [List.length_map]; omega)]
          rfl
        refine ⟨_, rfl, _, rfl, c, _, _, _, rfl, rfl, hS', aS, .inl ⟨_, rfl, ?_⟩⟩
        refine ⟨_, rfl, _, _, rfl, rfl, ⟨by decide, by decide, by decide⟩, _, _, rfl, rfl, _, rfl, ?_⟩
        refine ite2 (fun c1 => ?_) (fun c1 => ?_)
        · refine ⟨_, rfl, _, rfl, rl, _, _, _, rfl, rfl, SqL.of hR, aR, _, _, rfl, rfl, _, rfl, ?_⟩
          refine ite2 (fun c2 => ?_) (fun c2 => ?_)
          · refine ⟨_, rfl, .inl ⟨rfl, _, SqL.of hD⟩, _, rfl, _, rfl, rl, _, _, _, rfl, rfl, SqL.of hR, aR, .inl ⟨_, rfl, _, _, rfl, rfl, (show (0 : Int) < 1000003 from by decide), ?_⟩⟩
            obtain ⟨p1, p2, p3, p4, p5⟩ := put (rs[i % cs.length] % 1000003)
            refine ⟨dl, _, _, rfl, rfl, hD, hsz, ?_⟩
            generalize eH : upd H' dl _ = H2 at p1 p2 p4 ⊢
            refine ⟨_, rfl, _, rfl, rl, _, _, _, rfl, rfl, SqL.of p2, aR, .inl ⟨_, rfl, _, _, rfl, rfl, ⟨by decide, by decide⟩, ?_⟩⟩
            refine ⟨_, rfl, _, rfl, rl, _, _, i % cs.length, rfl, rfl, p2, iR, ?_⟩
            refine ⟨_, _, _, _, rs.set (i % cs.length) (rs[i % cs.length] / 1000003), _, rfl, fun b o e => ?_, ?_, ?_, ?_, p5⟩
            · rw [upd_ne (ne_of_none e hrl)]
              exact p1 b o e
            · rw [upd_same, List.map_set]
            · rw [List.length_set]
              exact hlr
            · rw [upd_ne ndr]
              exact p4
          · refine ⟨_, rfl, _, _, rfl, rfl, .inr ⟨by decide, by decide⟩, _, rfl, _, _, rfl, rfl, .inr ⟨by decide, by decide⟩, _, _, rfl, rfl, _, _, rfl, rfl, .inl ⟨_, rfl, _, _, rfl, rfl, (show (0 : Int) < 2147483647 from by decide), ?_⟩⟩
            refine ⟨_, rfl, _, rfl, _, _, rfl, rfl, cm1 _ _, _, _, rfl, rfl, ⟨by decide, by decide⟩, _, rfl, _, _, rfl, rfl, .inl ⟨_, rfl, _, _, rfl, rfl, (show (0 : Int) < 2147483629 from by decide), ?_⟩⟩
            refine ⟨_, rfl, .inl ⟨rfl, _, SqL.of hD⟩, _, rfl, _, rfl, _, _, rfl, rfl, cm2 _ _, _, _, rfl, rfl, ⟨by decide, by decide⟩, _, rfl, _, _, rfl, rfl, .inr ⟨by decide, by decide⟩, _, _, rfl, rfl, .inl ⟨_, rfl, _, _, rfl, rfl, (show (0 : Int) < 2147483629 from by decide), ?_⟩⟩
            exact ⟨dl, _, _, rfl, rfl, hD, hsz, _, _, _, _, rs, _, rfl, put _⟩
        · refine ⟨_, rfl, _, _, rfl, rfl, .inr ⟨by decide, by decide⟩, _, rfl, _, _, rfl, rfl, .inr ⟨by decide, by decide⟩, _, _, rfl, rfl, _, _, rfl, rfl, .inl ⟨_, rfl, _, _, rfl, rfl, (show (0 : Int) < 2147483647 from by decide), ?_⟩⟩
          refine ⟨_, rfl, _, rfl, _, _, rfl, rfl, cm1 _ _, _, _, rfl, rfl, ⟨by decide, by decide⟩, _, rfl, _, _, rfl, rfl, .inl ⟨_, rfl, _, _, rfl, rfl, (show (0 : Int) < 2147483629 from by decide), ?_⟩⟩
          refine ⟨_, rfl, .inl ⟨rfl, _, SqL.of hD⟩, _, rfl, _, rfl, _, _, rfl, rfl, cm2 _ _, _, _, rfl, rfl, ⟨by decide, by decide⟩, _, rfl, _, _, rfl, rfl, .inr ⟨by decide, by decide⟩, _, _, rfl, rfl, .inl ⟨_, rfl, _, _, rfl, rfl, (show (0 : Int) < 2147483629 from by decide), ?_⟩⟩
          exact ⟨dl, _, _, rfl, rfl, hD, hsz, _, _, _, _, rs, _, rfl, put _⟩
      · refine ⟨_, rfl, _, _, rfl, rfl, .inr ⟨by decide, by decide⟩, _, rfl, _, _, rfl, rfl, .inr ⟨by decide, by decide⟩, _, _, rfl, rfl, _, _, rfl, rfl, .inl ⟨_, rfl, _, _, rfl, rfl, (show (0 : Int) < 2147483647 from by decide), ?_⟩⟩
        refine ⟨_, rfl, _, rfl, _, _, rfl, rfl, cm1 _ _, _, _, rfl, rfl, ⟨by decide, by decide⟩, _, rfl, _, _, rfl, rfl, .inl ⟨_, rfl, _, _, rfl, rfl, (show (0 : Int) < 2147483629 from by decide), ?_⟩⟩
        refine ⟨_, rfl, .inl ⟨rfl, _, SqL.of hD⟩, _, rfl, _, rfl, _, _, rfl, rfl, cm2 _ _, _, _, rfl, rfl, ⟨by decide, by decide⟩, _, rfl, _, _, rfl, rfl, .inr ⟨by decide, by decide⟩, _, _, rfl, rfl, .inl ⟨_, rfl, _, _, rfl, rfl, (show (0 : Int) < 2147483629 from by decide), ?_⟩⟩
        exact ⟨dl, _, _, rfl, rfl, hD, hsz, _, _, _, _, rs, _, rfl, put _⟩
    · rintro σ H' ⟨u4, u5, u6, u7, rs, ns, rfl, sm, hR, hlr, hD, hln⟩
      exact ⟨_, rfl, k dl ns H' hdl0 hD (by omega) sm⟩
end
end Bb
namespace Bb
open PySem PySem.Spec PyProof.Rows L2
/-! ## The law's machine: its state -/
def stK (rl dl al kn pl : Addr) : List (Key × V) := [(.inr "row", .ref rl), (.inr "draws", .ref dl), (.inr "asked", .ref al), (.inr "known", .ref kn), (.inr "key", .int 0), (.inr "text", .str ""), (.inr "places", .ref pl)]
section
variable (rl dl al kn pl : Addr)
theorem sk_row : valV (stK rl dl al kn pl) (.inr "row") = some (.ref rl) := by kernel_rfl
theorem sk_draws : valV (stK rl dl al kn pl) (.inr "draws") = some (.ref dl) := by kernel_rfl
theorem sk_asked : valV (stK rl dl al kn pl) (.inr "asked") = some (.ref al) := by kernel_rfl
theorem sk_known : valV (stK rl dl al kn pl) (.inr "known") = some (.ref kn) := by kernel_rfl
end
structure StAt (H : Hp) (sd rl dl al kn : Addr) (row : List Int) (ds : Dws) : Prop where
  st : ∃ pl, H sd = some (.dK (stK rl dl al kn pl))
  rw : H rl = some (.lst (row.map V.int))
  dw : DwsAt H dl ds
  rd : rl ≠ dl
  ks : kn ≠ sd
section
variable {H H' : Hp} {sd rl dl al kn : Addr} {row : List Int} {ds ds' : Dws}
theorem StAt.gRow (a : StAt H sd rl dl al kn row ds) : DGet H sd (.str "row") (some (.ref rl)) := by
  obtain ⟨pl, e⟩ := a.st
  have z := DGet.k (k := Sum.inr "row") e
  rw [sk_row] at z
  exact z
theorem StAt.gDraws (a : StAt H sd rl dl al kn row ds) : DGet H sd (.str "draws") (some (.ref dl)) := by
  obtain ⟨pl, e⟩ := a.st
  have z := DGet.k (k := Sum.inr "draws") e
  rw [sk_draws] at z
  exact z
theorem StAt.gAsked (a : StAt H sd rl dl al kn row ds) : DGet H sd (.str "asked") (some (.ref al)) := by
  obtain ⟨pl, e⟩ := a.st
  have z := DGet.k (k := Sum.inr "asked") e
  rw [sk_asked] at z
  exact z
theorem StAt.gKnown (a : StAt H sd rl dl al kn row ds) : DGet H sd (.str "known") (some (.ref kn)) := by
  obtain ⟨pl, e⟩ := a.st
  have z := DGet.k (k := Sum.inr "known") e
  rw [sk_known] at z
  exact z
theorem StAt.dlst (a : StAt H sd rl dl al kn row ds) : ∃ xs, H dl = some (.lst xs) := let ⟨ts, e, _⟩ := a.dw; ⟨_, e⟩
theorem StAt.same (a : StAt H sd rl dl al kn row ds) (s : Same H H') : StAt H' sd rl dl al kn row ds := ⟨let ⟨pl, e⟩ := a.st; ⟨pl, s _ _ e⟩, s _ _ a.rw, a.dw.same s, a.rd, a.ks⟩
theorem StAt.keep {M : Addr → Prop} (a : StAt H sd rl dl al kn row ds) (k : Keep M H H') (n1 : ¬ M sd) (n2 : ¬ M rl) (d : DwsAt H' dl ds') : StAt H' sd rl dl al kn row ds' := ⟨let ⟨pl, e⟩ := a.st; ⟨pl, k _ _ e n1⟩, k _ _ a.rw n2, d, a.rd, a.ks⟩
theorem StAt.nsd (a : StAt H sd rl dl al kn row ds) : sd ≠ dl := by
  obtain ⟨pl, e⟩ := a.st
  obtain ⟨xs, e2⟩ := a.dlst
  exact ne_of e e2 (by intro q; cases q)
/-- after a draw -/
theorem StAt.drawn (a : StAt H sd rl dl al kn row ds) (k : Keep (fun b => b = dl) H H') (d : DwsAt H' dl ds') : StAt H' sd rl dl al kn row ds' := a.keep k a.nsd a.rd d
end
section
variable {P : Program} {w : World} {K : PySem.W.Frag} {mg : Str → Option Value} {base : Heap}
def spLchoice : Sp := fun vs H Q _ => ∃ (sd rl dl al kn : Addr) (row : List Int) (ds : Dws) (m : Int), vs = [.ref sd, .int m] ∧ StAt H sd rl dl al kn row ds ∧ 0 < m ∧ ds.length ≤ 1000 ∧
  ∀ H', StAt H' sd rl dl al kn row (ds ++ [(oRem row ds.length m, m)]) → Keep (fun b => b = dl) H H' → Tups H H' → Q (.int (oRem row ds.length m)) H'
theorem sc_Lchoice : FnScope ["_law_state", "_law_many", "_law_choice_here"] ["_law_state", "_law_many"] (defScope s_Lchoice) := C8.fnScope_by (by decide +kernel)
theorem cal_Lchoice (T : Tx K mg w) : C8.Cal P w K mg base 1 "_law_choice" spLchoice [] := by
  refine T.d_Lchoice.cal sc_Lchoice (fun vs H Q E h => ?_) fun f cdv A outer s H vs Q E hr h => ?_
  · obtain ⟨sd, rl, dl, al, kn, row, ds, m, rfl, _⟩ := h
    rfl
  · obtain ⟨sd, rl, dl, al, kn, row, ds, m, rfl, st, hm, hds, k⟩ := h
    have hu := hu_of hr
    refine ⟨_, pss_cons (ps_set (i := 2) sc_Lchoice.nd rfl (Or.inl rfl) pe_int) <|
      pss_cons (ps_if (pt_cmpR op_lt (pe_callB call_len_seq rfl T.f_len PySem.boot_len (pa_cons (pe_dget hu (pv 0) pe_str (fun _ _ => rfl)) pa_nil)) (pe_callB call_len_seq rfl T.f_len PySem.boot_len (pa_cons (pe_dget hu (pv 0) pe_str (fun _ _ => rfl)) pa_nil)) (nomark _))
        (pss_one (ps_set (i := 2) sc_Lchoice.nd rfl (Or.inl rfl) (pe_op op_mod (pe_callTy call_int1 rfl T.f_int (by decide +kernel) (pa_cons (pe_ix ix_list (pe_dget hu (pv 0) pe_str (fun _ _ => rfl))
          (pe_callB call_len_seq rfl T.f_len PySem.boot_len (pa_cons (pe_dget hu (pv 0) pe_str (fun _ _ => rfl)) pa_nil)) (fun _ _ => rfl)) pa_nil)) (pv 1)))) pss_nil) <|
      pss_cons (ps_expr (pe_bm PySem.F.plainAttrs_list PySem.F.slot_list_append PySem.F.type_list_append mt_append (pe_dget hu (pv 0) pe_str (fun _ _ => rfl)) (pa_cons (pe_tup (pa_cons (pv 2) (pa_cons (pv 1) pa_nil))) pa_nil))) <|
      pss_one (ps_ret (pv 2)), ?_⟩
    obtain ⟨ts, hL, hP⟩ := st.dw
    have hlen := paired_len hP
    have fin : ∀ c : Int, c = oRem row ds.length m → ∀ t, H t = none → Q (.int c) (upd (upd H t (.tup [.int c, .int m])) dl (.lst (ts.map V.ref ++ [.ref t]))) := fun c ec t ht => by
      have s1 : Same H (upd H t (.tup [.int c, .int m])) := same_upd ht
      have k1 : Keep (fun b => b = dl) H (upd (upd H t (.tup [.int c, .int m])) dl (.lst (ts.map V.ref ++ [.ref t]))) := (Keep.same s1).trans (keep_upd rfl)
      have u1 : Tups H (upd (upd H t (.tup [.int c, .int m])) dl (.lst (ts.map V.ref ++ [.ref t]))) := fun a xs e => k1 a _ e (ne_of e hL (by intro q; cases q))
      have ntd : t ≠ dl := (ne_of_none hL ht).symm
      rw [ec] at k1 u1 ⊢
      refine k _ (st.drawn k1 ⟨ts ++ [t], ?_, ?_⟩) k1 u1
      · rw [upd_same, List.map_append]
        rfl
      · refine paired_snoc (F := fun (t : Addr) (d : Int × Int) => _ = some (HO.tup [.int d.1, .int d.2])) ?_ (paired_mono (fun a b q => u1 _ _ q) hP)
        rw [upd_ne ntd, upd_same]
    have hsz : (ts.map V.ref).length < sizeLine := by rw [List.length_map, hlen]; exact small5 (by omega)
    refine ⟨_, rfl, sd, _, rfl, st.gDraws, dl, _, rfl, .inl (SqL.of hL), _, rfl, sd, _, rfl, st.gRow, rl, _, rfl, .inl (SqL.of st.rw), _, _, rfl, rfl, _, rfl, ?_⟩
    rw [List.length_map, List.length_map, hlen]
    by_cases hlt : ds.length < row.length
    · rw [decide_eq_true (show ((ds.length : Nat) : Int) < ((row.length : Nat) : Int) from by omega)]
      refine iteT ?_
      have e : (row.map V.int)[ds.length]? = some (V.int row[ds.length]) := by rw [List.getElem?_map, List.getElem?_eq_getElem hlt]; rfl
      have eo : row[ds.length] % m = oRem row ds.length m := by
        unfold oRem
        rw [List.getElem?_eq_getElem hlt]
      refine ⟨_, rfl, sd, _, rfl, st.gRow, _, rfl, sd, _, rfl, st.gDraws, dl, _, rfl, .inl (SqL.of hL), rl, _, _, _, rfl, rfl, SqL.of st.rw, atI_nat (j := (ts.map V.ref).length) (by rw [List.length_map, hlen]; exact e), .inl ⟨_, rfl, _, rfl, _, _, rfl, rfl, hm, ?_⟩⟩
      refine ⟨_, rfl, sd, _, rfl, st.gDraws, .inl ⟨rfl, _, SqL.of hL⟩, _, rfl, _, rfl, by show (2 : Nat) ≤ sizeLine; decide, fun t ht => ?_⟩
      exact ⟨dl, _, _, rfl, rfl, (upd_ne (ne_of_none hL ht)).trans hL, hsz, _, rfl, fin _ eo t ht⟩
    · rw [decide_eq_false (show ¬ ((ds.length : Nat) : Int) < ((row.length : Nat) : Int) from by omega)]
      refine iteF ?_
      have eo : 0 = oRem row ds.length m := by
        unfold oRem
        rw [List.getElem?_eq_none_iff.mpr (by omega)]
      refine ⟨_, rfl, sd, _, rfl, st.gDraws, .inl ⟨rfl, _, SqL.of hL⟩, _, rfl, _, rfl, by show (2 : Nat) ≤ sizeLine; decide, fun t ht => ?_⟩
      exact ⟨dl, _, _, rfl, rfl, (upd_ne (ne_of_none hL ht)).trans hL, hsz, _, rfl, fin _ eo t ht⟩
def spLany : Sp := fun vs H Q _ => ∃ (sd rl dl al kn : Addr) (row : List Int) (ds : Dws) (n : Nat), vs = [.ref sd, .int (n : Int)] ∧ StAt H sd rl dl al kn row ds ∧ n ≤ 3 ∧ ds.length ≤ 1000 ∧
  ∀ H', StAt H' sd rl dl al kn row (ds ++ [(oRem row ds.length (2 ^ n), 2 ^ n)]) → Keep (fun b => b = dl) H H' → Tups H H' → Q (.str (S (bitsB n (oRem row ds.length (2 ^ n))))) H'
theorem sc_Lany : FnScope ["_law_state", "_law_length"] ["_law_state", "_law_length"] (defScope s_Lany) := C8.fnScope_by (by decide +kernel)
theorem cal_Lany (T : Tx K mg w) : C8.Cal P w K mg base 2 "_law_any" spLany [] := by
  refine T.d_Lany.cal sc_Lany (fun vs H Q E h => ?_) fun f cdv A outer s H vs Q E hr h => ?_
  · obtain ⟨sd, rl, dl, al, kn, row, ds, n, rfl, _⟩ := h
    rfl
  · obtain ⟨sd, rl, dl, al, kn, row, ds, n, rfl, st, hn, hds, k⟩ := h
    refine ⟨_, pss_one (ps_ret (C8.pe_c (cal_Lbits T) hr (by decide) rfl (pa_cons (pv 1) (pa_cons (C8.pe_c (cal_Lchoice T) hr (by decide) rfl (pa_cons (pv 0) (pa_cons (pe_op op_shl pe_int (pv 1)) pa_nil))) pa_nil)))), ?_⟩
    obtain ⟨b1, b2, b3⟩ := two_pow (show n ≤ 8 by omega)
    refine ⟨_, rfl, _, rfl, _, rfl, _, _, rfl, rfl, ⟨by omega, by omega, by decide⟩, sd, rl, dl, al, kn, row, ds, 2 ^ n, congrArg (fun z : Int => [V.ref sd, V.int z]) (shl_eq n), st, b1, hds, fun H' s' kp tu => ?_⟩
    exact ⟨n, _, rfl, hn, k H' s' kp tu⟩
/-! ## the ends -/
def spLstart : Sp := fun vs H Q _ => ∃ x y : V, vs = [x, y] ∧ Q (.str (S [])) H
theorem sc_Lstart : FnScope ["_law_game", "_law_state"] ["_law_game", "_law_state"] (defScope s_Lstart) := C8.fnScope_by (by decide +kernel)
theorem cal_Lstart (T : Tx K mg w) : C8.Cal P w K mg base 1 "_law_start" spLstart [] := by
  refine T.d_Lstart.cal sc_Lstart (fun vs H Q E h => ?_) fun f cdv A outer s H vs Q E hr h => ?_
  · obtain ⟨x, y, rfl, _⟩ := h
    rfl
  · obtain ⟨x, y, rfl, k⟩ := h
    refine ⟨_, pss_one (ps_ret pe_str), ?_⟩
    show Q (.str ("" : Str)) H
    rw [← S_nil]
    exact k
def spLend : Sp := fun vs H Q _ => ∃ (x y : V) (b : Bs), vs = [x, y, .str (S b)] ∧ Q (.int (oneB b)) H
theorem sc_Lend : FnScope ["_law_game", "_law_state", "_law_said"] ["_law_game", "_law_state", "_law_said"] (defScope s_Lend) := C8.fnScope_by (by decide +kernel)
theorem cal_Lend (T : Tx K mg w) : C8.Cal P w K mg base 1 "_law_end" spLend [] := by
  refine T.d_Lend.cal sc_Lend (fun vs H Q E h => ?_) fun f cdv A outer s H vs Q E hr h => ?_
  · obtain ⟨x, y, b, rfl, _⟩ := h
    rfl
  · obtain ⟨x, y, b, rfl, k⟩ := h
    refine ⟨_, pss_one (ps_ret (pe_callTy call_int1 rfl T.f_int (by decide +kernel) (pa_cons (pe_cmpR op_eq (pv 2) pe_str (nomark _)) pa_nil))), ?_⟩
    refine ⟨_, rfl, rfl, .inr ⟨_, rfl, ?_⟩⟩
    rw [dec_1]
    exact k
end
end Bb
namespace Bb
open PySem PySem.Spec PyProof.Rows L2
/-! ## The law's machine: its reply -/
structure Lw (τ : Type) where
  rep : Rep τ
  enc : τ → HO
  nl : ∀ st xs, enc st ≠ .lst xs
  nt : ∀ st xs, enc st ≠ .tup xs
def spReply {τ : Type} (L : Lw τ) (G : Game) : Sp := fun vs H Q _ => ∃ (g sd rl dl al kn : Addr) (row : List Int) (ds : Dws) (st : τ) (z : Bs) (n : Nat), vs = [.ref g, .ref sd, .str (S z)] ∧ GmAt H g G ∧ StAt H sd rl dl al kn row ds ∧ H kn = some (L.enc st) ∧
  L.rep.inv st n ∧ n ≤ 1000 ∧ ds.length ≤ 900 ∧ z.length ≤ 1000 ∧
  ∀ H', StAt H' sd rl dl al kn row (ds ++ ((L.rep.go st z).run (oRem row) ds.length).2) → H' kn = some (L.enc ((L.rep.go st z).run (oRem row) ds.length).1.2) → Keep (fun b => b = dl ∨ b = kn) H H' → Tups H H' →
    Q (.str (S ((L.rep.go st z).run (oRem row) ds.length).1.1)) H'
abbrev nReply : List Str := ["_law_game", "_law_state", "_law_ask", "_law_given", "_law_one", "_law_free", "_law_k", "_law_left", "_law_right", "_law_turn", "_law_more"]
theorem sc_Lreply : FnScope nReply ["_law_game", "_law_state", "_law_ask"] (defScope s_Lreply) := C8.fnScope_by (by decide +kernel)
def permL (l : Nat) (hl : l ≤ 3) : Lw PKn := ⟨repP l hl, fun kn => .dK (permK kn), (fun _ _ e => nomatch e), (fun _ _ e => nomatch e)⟩
theorem eq_len (a b : Nat) : decide (V.int (a : Int) = V.int (b : Int)) = decide (a = b) := by
  apply decide_eq_decide.mpr
  constructor
  · intro h
    have := V.int.inj h
    omega
  · intro h
    rw [h]
theorem seek_at {κ : Type} [DecidableEq κ] : ∀ {kn : List (κ × Bs)} {i : Nat} {q : κ × Bs}, (kn.map (·.1)).Nodup → kn[i]? = some q → seek kn q.1 = some q.2
  | [], i, q, _, h => by simp at h
  | p :: r, 0, q, _, h => by
    have e : p = q := Option.some.inj h
    rw [e]
    exact if_pos rfl
  | p :: r, i + 1, q, nd, h => by
    have h' : r[i]? = some q := by simpa using h
    have nd' := List.nodup_cons.mp nd
    have ne : p.1 ≠ q.1 := fun e => nd'.1 (by
      show p.1 ∈ r.map (·.1)
      rw [e]
      exact List.mem_map.mpr ⟨q, List.mem_of_getElem? h', rfl⟩)
    show (if p.1 = q.1 then some p.2 else seek r q.1) = some q.2
    rw [if_neg ne]
    exact seek_at nd'.2 h'
section
variable {P : Program} {w : World} {K : PySem.W.Frag} {mg : Str → Option Value} {base : Heap}
theorem cal_replyP (T : Tx K mg w) (l : Nat) (hl3 : l ≤ 3) : C8.Cal P w K mg base 3 "_law_reply" (spReply (permL l hl3) (.perm l)) [] := by
  refine T.d_Lreply.cal sc_Lreply (fun vs H Q E h => ?_) fun f cdv A outer s H vs Q E hr h => ?_
  · obtain ⟨g, sd, rl, dl, al, kn, row, ds, st, z, n, rfl, _⟩ := h
    rfl
  · obtain ⟨g, sd, rl, dl, al, ka, row, ds, kn, z, n, rfl, hg, sa, hk, inv, hn, hds, hz, k⟩ := h
    have hu := hu_of hr
    have hg : H g = some (.tup [.str "permutation", .int (l : Int)]) := hg
    have hk : H ka = some (.dK (permK kn)) := hk
    have inv : PInv l kn n := inv
    refine ⟨_, pss_cons (ps_if (PW.pt (pw_and (pt_cmpR op_eq (pe_ix ix_tup (pv 0) pe_int (fun _ _ => rfl)) pe_str (nomark _)) (pw_and1 (pt_cmpR op_eq (pe_callB call_len_str rfl T.f_len PySem.boot_len (pa_cons (pv 2) pa_nil)) (pe_ix ix_tup (pv 0) pe_int (fun _ _ => rfl)) (nomark _)))))
        (pss_cons (ps_if (pt_cmp (pc_dnotin hu (pv 2) (pe_dget hu (pv 1) pe_str (fun _ _ => rfl))))
          (pss_cons (ps_set (i := 3) sc_Lreply.nd rfl (Or.inr rfl) (pe_lock (pe_lc (own := [("_law_one", 4)]) (g := gName 4) (tt := tYes) (te := tDGet (tDGet (tVar 1) (tC (.str "known"))) (tVar 4)) rfl sc_Lreply.nd (pi_keys (pe_dget hu (pv 1) pe_str (fun _ _ => rfl)))
              (blkOk_by (N := nReply) (sc := defScope s_Lreply) (by decide +kernel)) (fun _ _ _ _ _ => pg_name (i := 4) sc_Lreply.nd rfl (Or.inl rfl)) (fun _ _ _ _ _ => pts_nil) (fun _ _ _ _ _ => pe_dget hu (pe_dget hu (pv 1) pe_str (fun _ _ => rfl)) (pv 4) (fun _ _ => rfl))))) <|
           pss_cons (ps_setLc (i := 5) (own := [("_law_k", 6)]) (g := gName 6) (tt := tYes) (te := tCall spLbits [] C8.E0 (tCons (tOp (rIxT K) (tVar 0) (tC (.int 1))) (tCons (tVar 6) tNil))) (by rfl) sc_Lreply.nd rfl rfl (sw_true rfl rfl rfl (by decide +kernel))
              (pi_range1 rfl T.f_range (pa_cons (pe_op op_shl pe_int (pe_ix ix_tup (pv 0) pe_int (fun _ _ => rfl))) pa_nil)) (blkOk_by (N := nReply) (sc := defScope s_Lreply) (by decide +kernel)) (fun _ _ _ _ _ => pg_name (i := 6) sc_Lreply.nd rfl (Or.inl rfl)) (fun _ _ _ _ _ => pts_nil)
              (fun _ _ _ _ _ => C8.pe_c (cal_Lbits T) hr (by decide) rfl (pa_cons (pe_ix ix_tup (pv 0) pe_int (fun _ _ => rfl)) (pa_cons (pv 6) pa_nil)))) <|
           pss_cons (ps_setLc (i := 5) (own := [("_law_one", 4)]) (g := gName 4) (tt := tTest (tOp (rIn K true) (tVar 4) (tVar 3))) (by rfl) sc_Lreply.nd rfl rfl (sw_true rfl rfl rfl (by decide +kernel))
              (pi_list (pv 5)) (blkOk_by (N := nReply) (sc := defScope s_Lreply) (by decide +kernel)) (fun _ _ _ _ _ => pg_name (i := 4) sc_Lreply.nd rfl (Or.inl rfl)) (fun _ _ _ _ _ => pts_one (pt_cmpR op_notIn_seq (pv 4) (pv 3) (by rfl))) (fun _ _ _ _ _ => pv 4)) <|
           pss_one (ps_dput hu (pe_dget hu (pv 1) pe_str (fun _ _ => rfl)) (pv 2) (pe_ix ix_list (pv 5) (C8.pe_c (cal_Lchoice T) hr (by decide) rfl (pa_cons (pv 1) (pa_cons (pe_callB call_len_seq rfl T.f_len PySem.boot_len (pa_cons (pv 5) pa_nil)) pa_nil))) (fun _ _ => rfl)) rfl)) pss_nil) <|
         pss_one (ps_ret (pe_dget hu (pe_dget hu (pv 1) pe_str (fun _ _ => rfl)) (pv 2) (fun _ _ => rfl)))) pss_nil) <|
      pss_cons (ps_if (PW.pt (pw_and (pt_cmpR op_eq (pe_ix ix_tup (pv 0) pe_int (fun _ _ => rfl)) pe_str (nomark _)) (pw_and1 (pt_cmpR op_eq (pe_callB call_len_str rfl T.f_len PySem.boot_len (pa_cons (pv 2) pa_nil)) (pe_op op_mul pe_int (pe_ix ix_tup (pv 0) pe_int (fun _ _ => rfl))) (nomark _))))) pss_never pss_nil) <|
      pss_one (ps_ret pe_str), ?_⟩
    have hgo : (permL l hl3).rep.go kn z = goP l kn z := rfl
    rw [hgo] at k
    have enil : ds ++ [] = ds := List.append_nil ds
    refine ⟨_, rfl, g, _, _, _, rfl, rfl, SqT.of hg, atI_nat (j := 0) rfl, rfl, _, rfl, ?_⟩
    rw [dec_same]
    refine iteT ?_
    refine ⟨_, rfl, _, rfl, len_small hz (by decide), _, rfl, g, _, _, _, rfl, rfl, SqT.of hg, atI_nat (j := 1) rfl, rfl, _, rfl, ?_⟩
    rw [S_len, eq_len]
    by_cases hzl : z.length = l
    · rw [decide_eq_true hzl]
      refine iteT ?_
      refine ⟨_, rfl, _, rfl, sd, _, rfl, sa.gKnown, ka, _, rfl, DGet.k (k := Sum.inr (S z)) hk, _, rfl, ?_⟩
      rw [valV_perm]
      cases hs : seek kn z with
      | some v =>
        have hgg : goP l kn z = .ret (v, kn) := by unfold goP; rw [if_pos hzl, hs]
        rw [hgg] at k
        refine iteF ?_
        refine ⟨_, rfl, sd, _, rfl, sa.gKnown, _, rfl, ka, V.str (S v), rfl, ?_, ?_⟩
        · have e := DGet.k (k := Sum.inr (S z)) hk
          rw [valV_perm, hs] at e
          exact e
        · exact k H (by show StAt H sd rl dl al ka row (ds ++ []); rw [enil]; exact sa) hk Keep.refl Tups.refl
      | none =>
        have hgg : goP l kn z = .draw (freeB l kn).length fun c => .ret ((freeB l kn).getD c.toNat [], kn ++ [(z, (freeB l kn).getD c.toNat [])]) := by unfold goP; rw [if_pos hzl, hs]
        rw [hgg] at k
        have fpos := free_pos inv hzl hs
        obtain ⟨c0, c1⟩ := oRem_ok row ds.length ((freeB l kn).length : Int) (by omega)
        obtain ⟨b1, b2, b3⟩ := two_pow (show l ≤ 8 by omega)
        refine iteT ?_
        have nld : ∀ {b : Addr} {xs : List V}, H b = some (.lst xs) → b ≠ ka := fun e => ne_of e hk (by intro q; cases q)
        have ntd : ∀ {b : Addr} {xs : List V}, H b = some (.tup xs) → b ≠ ka := fun e => ne_of e hk (by intro q; cases q)
        obtain ⟨dls, hdl⟩ := sa.dlst
        -- given
        refine ⟨ka, _, hk, trivial, fun od => ?_⟩
        generalize eHL : upd H ka (.frz od (.dK (permK kn))) = HL
        have kL : Keep (fun b => b = ka) H HL := by rw [← eHL]; exact keep_upd rfl
        have hkL : HL ka = some (.frz od (.dK (permK kn))) := by rw [← eHL, upd_same]
        have tL : Tups H HL := fun a xs e => kL a _ e (ntd e)
        have saL : StAt HL sd rl dl al ka row ds := sa.keep kL sa.ks.symm (nld sa.rw) (sa.dw.keep (by rw [← eHL, upd_ne (nld hdl)]) tL)
        refine ⟨_, rfl, sd, _, rfl, saL.gKnown, ka, od, rfl, .inl ⟨_, hkL, fun D hD => ?_⟩⟩
        have nDk : D ≠ ka := fun q => by rw [q, hkL] at hD; cases hD
        refine lc_it walk_keys (fun i H' => Same HL H' ∧ H' D = some (.lst (((kn.map (·.2)).take i).map fun b => V.str (S b)))) ⟨same_upd hD, upd_same⟩ (fun i H' _ p => p.1 _ _ hkL) ?_ ?_
        · rintro i x H1 H' hi ⟨s1, hL⟩ ⟨rfl, key, val, hkv, rfl⟩
          have hi' : i < kn.length := by
            unfold permK at hi
            rw [List.length_map] at hi
            exact hi
          have eq1 : kn[i]? = some kn[i] := List.getElem?_eq_getElem hi'
          have e2 : (permK kn)[i]? = some (Sum.inr (S kn[i].1), V.str (S kn[i].2)) := by
            unfold permK
            rw [List.getElem?_map, eq1]
            rfl
          rw [e2] at hkv
          have e3 := Option.some.inj hkv
          have e4 : key = Sum.inr (S kn[i].1) := (congrArg Prod.fst e3).symm
          have e5 : val = V.str (S kn[i].2) := (congrArg Prod.snd e3).symm
          subst e4 e5
          have ev : valV (permK kn) (Sum.inr (S kn[i].1)) = some (V.str (S kn[i].2)) := by rw [valV_perm, seek_at inv.nd eq1]; rfl
          refine ⟨rfl, _, rfl, sd, _, rfl, (saL.same s1).gKnown, _, rfl, ka, V.str (S kn[i].2), rfl, .inl ⟨permK kn, Sum.inr (S kn[i].1), .inr ⟨od, s1 _ _ hkL⟩, rfl, ev.symm⟩, _, hL, ?_, fun b o e => ?_, ?_⟩
          · rw [List.length_map, List.length_take, List.length_map]
            have := inv.len
            exact small5 (by omega)
          · rw [upd_ne (ne_of_none e hD)]
            exact s1 _ _ e
          · rw [upd_same, take_snoc (x := kn[i].2) (by rw [List.getElem?_map, eq1]; rfl), List.map_append]
            rfl
        rintro H1 ⟨s1, hL1⟩
        refine ⟨s1 _ _ hkL, ?_⟩
        have hlp : (permK kn).length = kn.length := by unfold permK; rw [List.length_map]
        rw [hlp, List.take_of_length_le (by rw [List.length_map]; exact Nat.le_refl _)] at hL1
        have sH2 : Same H (upd H1 ka (.dK (permK kn))) := fun b o e => by
          by_cases hb : b = ka
          · rw [hb, upd_same, ← hk, ← hb]
            exact e
          · rw [upd_ne hb]
            exact s1 _ _ (kL b o e hb)
        have hg1 : (upd H1 ka (.dK (permK kn))) D = some (.lst ((kn.map (·.2)).map fun b => V.str (S b))) := (upd_ne nDk).trans hL1
        generalize eH2 : upd H1 ka (.dK (permK kn)) = H2 at sH2 hg1 ⊢
        -- all strings
        refine ⟨_, rfl, g, _, _, _, rfl, rfl, SqT.of (sH2 _ _ hg), atI_nat (j := 1) rfl, _, _, rfl, rfl, ⟨by omega, by omega, by decide⟩, (2 : Int) ^ l, congrArg (fun z => [V.int z]) (shl_eq l), by omega, by omega, fun D1 hD1 => ?_⟩
        refine lc_range (lo := 0) (n := ((2 : Int) ^ l).toNat) (fun i H' => Same H2 H' ∧ H' D1 = some (.lst (((List.range i).map fun (k : Nat) => bitsB l (k : Int)).map fun b => V.str (S b)))) ⟨same_upd hD1, upd_same⟩ ?_ ?_
        · rintro i H' hi ⟨s2, hL⟩
          rw [b3] at hi
          refine ⟨rfl, _, rfl, g, _, _, _, rfl, rfl, SqT.of (s2 _ _ (sH2 _ _ hg)), atI_nat (j := 1) rfl, _, rfl, l, 0 + (i : Int), rfl, hl3, ?_⟩
          refine ⟨_, hL, by rw [List.length_map, List.length_map, List.length_range]; exact small5 (by omega), fun q o e => ?_, ?_⟩
          · rw [upd_ne (ne_of_none e hD1)]
            exact s2 _ _ e
          · rw [upd_same, List.range_succ, List.map_append, List.map_append, Int.zero_add]
            rfl
        rintro H3 ⟨s2, hL⟩
        rw [b3] at hL
        -- the free ones
        refine ⟨_, rfl, D1, rfl, ⟨_, SqL.of hL⟩, fun D2 hD2 => ?_⟩
        refine lc_list (K := K) (a := D1) (xs := (allB l).map fun b => V.str (S b)) (fun i H' => Same H3 H' ∧ H' D2 = some (.lst ((((allB l).take i).filter fun v => !decide (v ∈ kn.map (·.2))).map fun b => V.str (S b)))) ⟨same_upd hD2, upd_same⟩ (fun i H' _ z => SqL.of (z.1 _ _ hL)) ?_ ?_
        · rintro i x H' hx ⟨s3, hL2⟩
          rw [List.getElem?_map] at hx
          obtain ⟨v, hv, rfl⟩ := Option.map_eq_some_iff.mp hx
          refine ⟨rfl, _, rfl, _, rfl, D, _, rfl, .inl (SqL.of (s3 _ _ (s2 _ _ hg1))), rfl, flat_S _, _, rfl, ?_⟩
          have ev : (if true = true then !inV (V.str (S v)) ((kn.map (·.2)).map fun b => V.str (S b)) else inV (V.str (S v)) ((kn.map (·.2)).map fun b => V.str (S b))) = !decide (v ∈ kn.map (·.2)) := by
            rw [if_pos rfl, inV_S]
          rw [ev]
          have hle : (((allB l).take i).filter fun v => !decide (v ∈ kn.map (·.2))).length ≤ 256 := by
            refine Nat.le_trans (List.length_filter_le _ _) ?_
            rw [List.length_take, allB_length]
            omega
          by_cases hm : v ∈ kn.map (·.2)
          · rw [decide_eq_true hm]
            refine iteF ?_
            refine ⟨s3, ?_⟩
            rw [hL2, take_snoc hv, List.filter_append]
            simp [hm]
          · rw [decide_eq_false hm]
            refine iteT ?_
            refine ⟨_, rfl, _, hL2, by rw [List.length_map]; exact small5 (by omega), fun q o e => ?_, ?_⟩
            · rw [upd_ne (ne_of_none e hD2)]
              exact s3 _ _ e
            · rw [upd_same, take_snoc hv, List.filter_append, List.map_append]
              simp [hm]
        rintro H4 ⟨s3, hL2⟩
        have ef : (((allB l).take ((allB l).map fun b => V.str (S b)).length).filter fun v => !decide (v ∈ kn.map (·.2))) = freeB l kn := by
          rw [List.length_map, List.take_length]
          rfl
        rw [ef] at hL2
        -- the draw
        have s4 : Same H H4 := (sH2.trans s2).trans s3
        have sa4 := sa.same s4
        have nDd : D2 ≠ dl := by
          obtain ⟨xs, e⟩ := (sa.same (sH2.trans s2)).dlst
          exact (ne_of_none e hD2).symm
        refine ⟨_, rfl, _, rfl, _, rfl, D2, _, rfl, .inl (SqL.of hL2), ?_⟩
        refine ⟨sd, rl, dl, al, ka, row, ds, ((freeB l kn).length : Int), congrArg (fun z : Nat => [V.ref sd, V.int (z : Int)]) (List.length_map _), sa4, by omega, by omega, fun H5 sa5 k5 tu5 => ?_⟩
        obtain ⟨e1, e2⟩ := free_len (l := l) (kn := kn) c0 c1
        have hL5 := k5 _ _ hL2 nDd
        have hk5 := k5 _ _ (s4 _ _ hk) (nld hdl).symm
        have il : kn.length ≤ 1000 := Nat.le_trans inv.len hn
        refine ⟨D2, _, _, _, rfl, rfl, SqL.of hL5, at_of (j := (oRem row ds.length ((freeB l kn).length : Int)).toNat) (by omega) (by rw [List.getElem?_map, e2]; rfl), ?_⟩
        refine ⟨_, rfl, sd, _, rfl, sa5.gKnown, _, rfl, ka, _, rfl, DPut.k (k := Sum.inr (S z)) hk5 (by unfold permK; rw [List.length_map]; exact small5 (by omega)), ?_⟩
        rw [permK_snoc _ _ _ hs]
        generalize eH6 : upd H5 ka _ = H6
        have hk6 : H6 ka = some (.dK (permK (kn ++ [(z, (freeB l kn).getD (oRem row ds.length ((freeB l kn).length : Int)).toNat [])]))) := by rw [← eH6, upd_same]
        have k6 : Keep (fun b => b = ka) H5 H6 := by rw [← eH6]; exact keep_upd rfl
        have tu6 : Tups H5 H6 := fun a xs e => k6 a _ e (ne_of e hk5 (by intro q; cases q))
        obtain ⟨dls5, hdl5⟩ := sa5.dlst
        have sa6 := sa5.keep k6 sa5.ks.symm (ne_of sa5.rw hk5 (by intro q; cases q)) (sa5.dw.keep (by rw [← eH6, upd_ne (ne_of hdl5 hk5 (by intro q; cases q))]) tu6)
        refine ⟨_, rfl, sd, _, rfl, sa6.gKnown, _, rfl, ka, _, rfl, by
          have e := DGet.k (k := Sum.inr (S z)) hk6
          rw [valV_perm, seek_snoc _ _ _ hs] at e
          exact e, ?_⟩
        exact k H6 sa6 hk6 (fun b o e nb => k6 b o (k5 b o (s4 b o e) fun q => nb (.inl q)) fun q => nb (.inr q)) (((Tups.same s4).trans tu5).trans tu6)
    · rw [decide_eq_false hzl]
      refine iteF ?_
      have hgg : goP l kn z = .ret ([], kn) := by unfold goP; rw [if_neg hzl]
      rw [hgg] at k
      refine ⟨_, rfl, g, _, _, _, rfl, rfl, SqT.of hg, atI_nat (j := 0) rfl, rfl, _, rfl, ?_⟩
      rw [show decide (V.str ("permutation" : Str) = V.str ("swaps" : Str)) = false from by decide +kernel]
      refine iteF ?_
      show Q (.str ("" : Str)) H
      rw [← S_nil]
      exact k H (by show StAt H sd rl dl al ka row (ds ++ []); rw [enil]; exact sa) hk Keep.refl Tups.refl
end
end Bb
namespace Bb
open PySem PySem.Spec PyProof.Rows L2
/-! ## The law's machine: its reply in a game of swaps -/
def swF (q : Nat × Bs) : List Key := [Sum.inl (0 + (q.1 : Int)), Sum.inr (S q.2)]
theorem swF_inj (a b : Nat × Bs) (h : swF a = swF b) : a = b := by
  have h1 : (Sum.inl (0 + (a.1 : Int)) : Key) = Sum.inl (0 + (b.1 : Int)) := (List.cons.inj h).1
  have h2 : (Sum.inr (S a.2) : Key) = Sum.inr (S b.2) := (List.cons.inj (List.cons.inj h).2).1
  have e1 := Sum.inl.inj h1
  have e2 := S_inj (Sum.inr.inj h2)
  exact Prod.ext (by omega) e2
def swK (kn : SKn) : List (List Key × V) := kn.map fun q => (swF q.1, V.str (S q.2))
theorem valV_seekT {κ : Type} [DecidableEq κ] (f : κ → List Key) (hf : ∀ a b, f a = f b → a = b) (k : κ) : ∀ kn : List (κ × Bs), valV (kn.map fun q => (f q.1, V.str (S q.2))) (f k) = (seek kn k).map fun v => V.str (S v)
  | [] => rfl
  | q :: r => by
    rw [List.map_cons]
    by_cases h : q.1 = k
    · rw [valV_pos (by rw [h])]
      show _ = Option.map _ (if q.1 = k then some q.2 else seek r k)
      rw [if_pos h]
      rfl
    · rw [valV_neg fun e => h (hf _ _ e), valV_seekT f hf k r]
      show _ = Option.map _ (if q.1 = k then some q.2 else seek r k)
      rw [if_neg h]
theorem valV_sw (kn : SKn) (t : Nat) (r : Bs) : valV (swK kn) (swF (t, r)) = (seek kn (t, r)).map fun v => V.str (S v) := valV_seekT swF swF_inj (t, r) kn
theorem swK_snoc (kn : SKn) (t : Nat) (r v : Bs) (h : seek kn (t, r) = none) : putK (swK kn) (swF (t, r)) (.str (S v)) = swK (kn ++ [((t, r), v)]) := by
  rw [putK_new _ (by rw [valV_sw, h]; rfl)]
  unfold swK
  rw [List.map_append]
  rfl
def swapL (h rounds : Nat) (hh : h ≤ 2) (hr : rounds ≤ 4) : Lw SKn := ⟨repS h rounds hh hr, fun kn => .dT (swK kn), (fun _ _ e => nomatch e), (fun _ _ e => nomatch e)⟩
section
variable {P : Program} {w : World} {K : PySem.W.Frag} {mg : Str → Option Value} {base : Heap}
theorem cal_replyS (T : Tx K mg w) (h rounds : Nat) (hh : h ≤ 2) (hr4 : rounds ≤ 4) : C8.Cal P w K mg base 3 "_law_reply" (spReply (swapL h rounds hh hr4) (.swaps h rounds)) [] := by
  refine T.d_Lreply.cal sc_Lreply (fun vs H Q E h => ?_) fun f cdv A outer s H vs Q E hr hsp => ?_
  · obtain ⟨g, sd, rl, dl, al, kn, row, ds, st, z, n, rfl, _⟩ := h
    rfl
  · obtain ⟨g, sd, rl, dl, al, ka, row, ds, kn, z, n, rfl, hg, sa, hk, inv, hn, hds, hz, k⟩ := hsp
    have hu := hu_of hr
    have hg : H g = some (.tup [.str "swaps", .int (h : Int), .int (rounds : Int)]) := hg
    have hk : H ka = some (.dT (swK kn)) := hk
    have inv : SInv h kn n := inv
    refine ⟨_, pss_cons (ps_if (PW.pt (pw_and (pt_cmpR op_eq (pe_ix ix_tup (pv 0) pe_int (fun _ _ => rfl)) pe_str (nomark _)) (pw_and1 (pt_cmpR op_eq (pe_callB call_len_str rfl T.f_len PySem.boot_len (pa_cons (pv 2) pa_nil)) (pe_ix ix_tup (pv 0) pe_int (fun _ _ => rfl)) (nomark _)))))
        pss_never pss_nil) <|
      pss_cons (ps_if (PW.pt (pw_and (pt_cmpR op_eq (pe_ix ix_tup (pv 0) pe_int (fun _ _ => rfl)) pe_str (nomark _)) (pw_and1 (pt_cmpR op_eq (pe_callB call_len_str rfl T.f_len PySem.boot_len (pa_cons (pv 2) pa_nil)) (pe_op op_mul pe_int (pe_ix ix_tup (pv 0) pe_int (fun _ _ => rfl))) (nomark _)))))
        (pss_cons (ps_set (i := 7) sc_Lreply.nd rfl (Or.inl rfl) (pe_slice sl_str (pv 2) po_none (po_some (pe_ix ix_tup (pv 0) pe_int (fun _ _ => rfl))))) <|
         pss_cons (ps_set (i := 8) sc_Lreply.nd rfl (Or.inl rfl) (pe_slice sl_str (pv 2) (po_some (pe_ix ix_tup (pv 0) pe_int (fun _ _ => rfl))) po_none)) <|
         pss_cons (ps_for PassesOwn.never rfl (pi_range1 rfl T.f_range (pa_cons (pe_ix ix_tup (pv 0) pe_int (fun _ _ => rfl)) pa_nil)) (pg_name (i := 9) sc_Lreply.nd rfl (Or.inl rfl))
          (pss_cons (ps_if (pt_cmp (pc_dnotin hu (pe_tup (pa_cons (pv 9) (pa_cons (pv 8) pa_nil))) (pe_dget hu (pv 1) pe_str (fun _ _ => rfl))))
            (pss_one (ps_dput hu (pe_dget hu (pv 1) pe_str (fun _ _ => rfl)) (pe_tup (pa_cons (pv 9) (pa_cons (pv 8) pa_nil))) (C8.pe_c (cal_Lany T) hr (by decide) rfl (pa_cons (pv 1) (pa_cons (pe_ix ix_tup (pv 0) pe_int (fun _ _ => rfl)) pa_nil))) rfl)) pss_nil) <|
           pss_cons (ps_set (i := 10) sc_Lreply.nd rfl (Or.inl rfl) (C8.pe_c (cal_Lxor T) hr (by decide) rfl (pa_cons (pv 7) (pa_cons (pe_dget hu (pe_dget hu (pv 1) pe_str (fun _ _ => rfl)) (pe_tup (pa_cons (pv 9) (pa_cons (pv 8) pa_nil))) (fun _ _ => rfl)) pa_nil)))) <|
           pss_cons (ps_set (i := 7) sc_Lreply.nd rfl (Or.inl rfl) (pv 8)) <| pss_one (ps_set (i := 8) sc_Lreply.nd rfl (Or.inl rfl) (pv 10)))) <|
         pss_one (ps_ret (pe_op op_add_str (pv 7) (pv 8)))) pss_nil) <|
      pss_one (ps_ret pe_str), ?_⟩
    have hgo : (swapL h rounds hh hr4).rep.go kn z = goS h rounds kn z := rfl
    rw [hgo] at k
    have enil : ds ++ [] = ds := List.append_nil ds
    refine ⟨_, rfl, g, _, _, _, rfl, rfl, SqT.of hg, atI_nat (j := 0) rfl, rfl, _, rfl, ?_⟩
    rw [kinds_ne]
    refine iteF ?_
    refine ⟨_, rfl, g, _, _, _, rfl, rfl, SqT.of hg, atI_nat (j := 0) rfl, rfl, _, rfl, ?_⟩
    rw [dec_same]
    refine iteT ?_
    refine ⟨_, rfl, _, rfl, len_small hz (by decide), _, rfl, g, _, _, _, rfl, rfl, SqT.of hg, atI_nat (j := 1) rfl, _, _, rfl, rfl, .inl ⟨by decide, by decide⟩, rfl, _, rfl, ?_⟩
    have e2 : decide (V.int (((S z).length : Nat) : Int) = V.int (2 * (h : Int))) = decide (z.length = 2 * h) := by
      rw [S_len]
      exact eq_len z.length (2 * h)
    rw [e2]
    by_cases hzl : z.length = 2 * h
    · rw [decide_eq_true hzl]
      refine iteT ?_
      have hgg : goS h rounds kn z = goR h rounds 0 (z.take h) (z.drop h) kn := by unfold goS; rw [if_pos hzl]
      rw [hgg] at k
      refine ⟨_, rfl, _, rfl, g, _, _, _, rfl, rfl, SqT.of hg, atI_nat (j := 1) rfl, _, rfl, _, rfl, len_small hz (by decide), ?_⟩
      rw [cut_lo (show h ≤ z.length by omega)]
      refine ⟨_, rfl, _, rfl, g, _, _, _, rfl, rfl, SqT.of hg, atI_nat (j := 1) rfl, _, rfl, _, rfl, len_small hz (by decide), ?_⟩
      rw [cut_hi (show h ≤ z.length by omega)]
      generalize hres : (goR h rounds 0 (z.take h) (z.drop h) kn).run (oRem row) ds.length = res at k
      refine ⟨_, rfl, g, _, _, _, rfl, rfl, SqT.of hg, atI_nat (j := 2) rfl, (rounds : Int), rfl, by omega, by omega, for_range (lo := 0) (n := ((rounds : Int)).toNat)
        (fun i σ H' => ∃ (L R : Bs) (kn' : SKn) (ds' : Dws) (u3 u4 u5 u6 u9 u10 : Option V), σ = [some (.ref g), some (.ref sd), some (.str (S z)), u3, u4, u5, u6, some (.str (S L)), some (.str (S R)), u9, u10] ∧ L.length = h ∧ R.length = h ∧ StAt H' sd rl dl al ka row ds' ∧
          H' ka = some (.dT (swK kn')) ∧ SInv h kn' (n + i) ∧ ds'.length ≤ ds.length + i ∧ ((goR h (rounds - i) i L R kn').run (oRem row) ds'.length).1 = res.1 ∧
          ds' ++ ((goR h (rounds - i) i L R kn').run (oRem row) ds'.length).2 = ds ++ res.2 ∧ Keep (fun b => b = dl ∨ b = ka) H H' ∧ Tups H H')
        ⟨z.take h, z.drop h, kn, ds, _, _, _, _, _, _, rfl, by rw [List.length_take]; omega, by rw [List.length_drop]; omega, sa, hk, inv, Nat.le_refl _, by rw [← hres]; rfl, by rw [← hres]; rfl, Keep.refl, Tups.refl⟩ ?_ ?_⟩
      · rintro i σ H' hi ⟨L, R, kn', ds', u3, u4, u5, u6, u9, u10, rfl, hL, hR, sa', hk', inv', hdl', er, ed, kp, tu⟩
        have hi' : i < rounds := by omega
        obtain ⟨m, hm⟩ : ∃ m, rounds - i = m + 1 := ⟨rounds - i - 1, by omega⟩
        have hm2 : rounds - (i + 1) = m := by omega
        have hstep : goR h (m + 1) i L R kn' = (goF h i kn' R).bind fun q => goR h m (i + 1) R (xorB L q.1) q.2 := rfl
        rw [hm, hstep, Tr.run_bind] at er ed
        have allF := goF_all (t := i) (r := R) (k := 0) inv'
        have ok1 : (goF h i kn' R).ok (oRem row) ds'.length := Tr.all_ok (oRem_ok row) _ 0 _ allF
        obtain ⟨a1, a2, a3⟩ := Tr.all_run (oRem row) _ 0 ds'.length allF ok1
        have ilen := inv'.len
        obtain ⟨dls', hdl2⟩ := sa'.dlst
        have hgX := tu _ _ hg
        refine ⟨_, rfl, _, rfl, by show (2 : Nat) ≤ sizeLine; decide, fun t1 ht1 => ?_⟩
        have s1 : Same H' (upd H' t1 (.tup [.int (0 + (i : Int)), .str (S R)])) := same_upd ht1
        have hk1 := s1 _ _ hk'
        refine ⟨_, rfl, sd, _, rfl, (sa'.same s1).gKnown, ka, _, rfl, DGet.t (k := swF (i, R)) hk1 upd_same, _, rfl, ?_⟩
        rw [valV_sw]
        cases hs : seek kn' (i, R) with
        | some v =>
          have hgf : goF h i kn' R = .ret (v, kn') := by unfold goF; rw [hs]
          rw [hgf] at er ed a1 a2 a3
          refine iteF ?_
          have saX := sa'.same s1
          have hkX := hk1
          have kpX := kp.trans (Keep.same s1)
          have tuX := tu.trans (Tups.same s1)
          have hsX := hs
          have e0 : ds' ++ [] = ds' := List.append_nil _
          refine ⟨_, rfl, _, rfl, sd, _, rfl, saX.gKnown, _, rfl, _, rfl, by show (2 : Nat) ≤ sizeLine; decide, fun t2 ht2 => ?_⟩
          refine ⟨ka, V.str (S (v)), rfl, ?_, L, v, rfl, by rw [hL]; exact a1.symm, by omega, fun H5 s5 => ?_⟩
          · have e := DGet.t (k := swF (i, R)) ((upd_ne (ne_of_none hkX ht2)).trans hkX) (upd_same (H := _) (a := t2) (o := .tup [.int (0 + (i : Int)), .str (S R)]))
            rw [valV_sw, hsX] at e
            exact e
          have sXY := (same_upd ht2).trans s5
          refine ⟨_, rfl, _, rfl, R, xorB L (v), kn', ds', _, _, _, _, _, _, rfl, hR, by rw [xorB_length, hL]; have : (v).length = h := a1; omega, saX.same sXY, sXY _ _ hkX, a2, by omega, ?_, ?_, kpX.trans (Keep.same sXY), tuX.trans (Tups.same sXY)⟩
          · rw [hm2]
            exact er
          · rw [hm2]
            exact ed
        | none =>
          have hgf : goF h i kn' R = .draw (2 ^ h) fun c => .ret (bitsB h c, kn' ++ [((i, R), bitsB h c)]) := by unfold goF; rw [hs]
          rw [hgf] at er ed a1 a2 a3
          refine iteT ?_
          refine ⟨_, rfl, _, rfl, g, _, _, _, rfl, rfl, SqT.of (s1 _ _ hgX), atI_nat (j := 1) rfl, sd, rl, dl, al, ka, row, ds', h, rfl, sa'.same s1, by omega, by omega, fun H2 sa2 k2 tu2 => ?_⟩
          have hk2 := k2 _ _ hk1 (ne_of hk1 (s1 _ _ hdl2) (by intro q; cases q))
          refine ⟨_, rfl, sd, _, rfl, sa2.gKnown, _, rfl, _, rfl, by show (2 : Nat) ≤ sizeLine; decide, fun t3 ht3 => ?_⟩
          have s3 : Same H2 (upd H2 t3 (.tup [.int (0 + (i : Int)), .str (S R)])) := same_upd ht3
          have hk3 := s3 _ _ hk2
          refine ⟨ka, _, rfl, DPut.t (k := swF (i, R)) hk3 upd_same (by unfold swK; rw [List.length_map]; exact small5 (by omega)), ?_⟩
          rw [swK_snoc _ _ _ _ hs]
          have sa3 := sa2.same s3
          generalize upd H2 t3 _ = H3 at s3 hk3 sa3 ⊢
          generalize eH4 : upd H3 ka _ = H4
          have hkX : H4 ka = some (.dT (swK (kn' ++ [((i, R), bitsB h (oRem row ds'.length (2 ^ h)))]))) := by rw [← eH4, upd_same]
          have k4 : Keep (fun b => b = ka) H3 H4 := by rw [← eH4]; exact keep_upd rfl
          have tu4 : Tups H3 H4 := fun a xs e => k4 a _ e (ne_of e hk3 (by intro q; cases q))
          obtain ⟨dls3, hdl3⟩ := sa3.dlst
          have saX := sa3.keep k4 sa3.ks.symm (ne_of sa3.rw hk3 (by intro q; cases q)) (sa3.dw.keep (by rw [← eH4, upd_ne (ne_of hdl3 hk3 (by intro q; cases q))]) tu4)
          have kpX : Keep (fun b => b = dl ∨ b = ka) H H4 := fun b o e nb => k4 b o (s3 b o (k2 b o (s1 b o (kp b o e nb)) fun q => nb (.inl q))) fun q => nb (.inr q)
          have tuX := (((tu.trans (Tups.same s1)).trans tu2).trans (Tups.same s3)).trans tu4
          have hsX : seek (kn' ++ [((i, R), bitsB h (oRem row ds'.length (2 ^ h)))]) (i, R) = some (bitsB h (oRem row ds'.length (2 ^ h))) := seek_snoc _ _ _ hs
          refine ⟨_, rfl, _, rfl, sd, _, rfl, saX.gKnown, _, rfl, _, rfl, by show (2 : Nat) ≤ sizeLine; decide, fun t2 ht2 => ?_⟩
          refine ⟨ka, V.str (S (bitsB h (oRem row ds'.length (2 ^ h)))), rfl, ?_, L, bitsB h (oRem row ds'.length (2 ^ h)), rfl, by rw [hL]; exact a1.symm, by omega, fun H5 s5 => ?_⟩
          · have e := DGet.t (k := swF (i, R)) ((upd_ne (ne_of_none hkX ht2)).trans hkX) (upd_same (H := _) (a := t2) (o := .tup [.int (0 + (i : Int)), .str (S R)]))
            rw [valV_sw, hsX] at e
            exact e
          have sXY := (same_upd ht2).trans s5
          refine ⟨_, rfl, _, rfl, R, xorB L (bitsB h (oRem row ds'.length (2 ^ h))), (kn' ++ [((i, R), bitsB h (oRem row ds'.length (2 ^ h)))]), (ds' ++ [(oRem row ds'.length (2 ^ h), 2 ^ h)]), _, _, _, _, _, _, rfl, hR, by rw [xorB_length, hL]; have : (bitsB h (oRem row ds'.length (2 ^ h))).length = h := a1; omega, saX.same sXY, sXY _ _ hkX, a2, by rw [List.length_append]; show ds'.length + 1 ≤ _; omega, ?_, ?_, kpX.trans (Keep.same sXY), tuX.trans (Tups.same sXY)⟩
          · rw [hm2]
            rw [List.length_append]
            exact er
          · rw [hm2]
            rw [List.length_append, List.append_assoc]
            exact ed
      · rintro σ H' ⟨L, R, kn', ds', u3, u4, u5, u6, u9, u10, rfl, hL, hR, sa', hk', inv', hdl', er, ed, kp, tu⟩
        rw [Int.toNat_natCast, Nat.sub_self] at er ed
        have er : ((L ++ R, kn') : Bs × SKn) = res.1 := er
        have ed : ds' ++ [] = ds ++ res.2 := ed
        rw [List.append_nil] at ed
        refine ⟨_, rfl, _, rfl, _, _, rfl, rfl, by rw [S_len, S_len]; exact Nat.le_of_lt (small5 (by omega)), ?_⟩
        rw [S_app]
        rw [← er] at k
        exact k H' (by rw [← ed]; exact sa') hk' kp tu
    · rw [decide_eq_false hzl]
      refine iteF ?_
      have hgg : goS h rounds kn z = .ret ([], kn) := by unfold goS; rw [if_neg hzl]
      rw [hgg] at k
      show Q (.str ("" : Str)) H
      rw [← S_nil]
      exact k H (by show StAt H sd rl dl al ka row (ds ++ []); rw [enil]; exact sa) hk Keep.refl Tups.refl
end
end Bb
namespace Bb
open PySem PySem.Spec PyProof.Rows L2
/-! ## The law's machine: its run -/
theorem sk_merge (rl dl al kn pl : Addr) : mergeK [] (stK rl dl al kn pl) = stK rl dl al kn pl := by kernel_rfl
theorem made_one (n : Nat) (hd : Bs) : decide (made [.inr n] hd = [true]) = hd.getD n false := by
  show decide ([hd.getD n false] = [true]) = _
  cases hd.getD n false <;> rfl
section
variable {P : Program} {w : World} {K : PySem.W.Frag} {mg : Str → Option Value} {base : Heap}
def tDNewE (o : HO) : TE := fun _ H Q => ∀ p, H p = none → Q (.ref p) (upd H p o)
theorem lwOf (T : Tx K mg w) (G : Game) (ok : GmOk G) : ∃ (τ : Type) (L : Lw τ) (st0 : τ), C8.Cal P w K mg base 3 "_law_reply" (spReply L G) [] ∧ L.rep.inv st0 0 ∧ (∀ b, runG G b = runB L.rep b [] st0 []) ∧
    ∀ (X : Cx) (pos : Pos), PE X (.Dict [] [] pos) (tDNewE (L.enc st0)) := by
  cases G with
  | perm l =>
    obtain ⟨l1, l3⟩ := ok
    exact ⟨PKn, permL l l3, [], cal_replyP T l l3, ⟨Nat.le_refl _, List.nodup_nil, fun _ h => nomatch h⟩, fun b => dif_pos l3, fun X pos => pe_dnewK⟩
  | swaps h r =>
    obtain ⟨h1, h2, r1, r4⟩ := ok
    exact ⟨SKn, swapL h r h2 r4, [], cal_replyS T h r h2 r4, ⟨Nat.le_refl _, fun _ h => nomatch h⟩, fun b => dif_pos ⟨h2, r4⟩, fun X pos => pe_dnewT⟩
def spRun : Sp := fun vs H Q _ => ∃ (g rl : Addr) (bv : V) (b : Brk) (d : Nat) (G : Game) (row : List Int), vs = [.ref g, bv, .ref rl] ∧ GmAt H g G ∧ GmOk G ∧ BrkAt H b bv ∧ Deep b d ∧ d ≤ 9 ∧ H rl = some (.lst (row.map V.int)) ∧
  ∀ p dl al H', Same H H' → H' p = some (.lst [.int (oneB ((runG G b).run (oRem row) 0).1.1), .str (S ((runG G b).run (oRem row) 0).1.1), .ref dl, .ref al]) →
    DwsAt H' dl ((runG G b).run (oRem row) 0).2 → AskAt H' al ((runG G b).run (oRem row) 0).1.2 → Q (.ref p) H'
abbrev nRun : List Str := ["_law_game", "_law_breaker_here", "_law_row", "_law_state", "_law_handed", "_law_turn", "_law_ask", "_law_answer", "_law_said"]
theorem sc_Lrun : FnScope nRun ["_law_game", "_law_breaker_here", "_law_row"] (defScope s_Lrun) := C8.fnScope_by (by decide +kernel)
theorem cal_Lrun (T : Tx K mg w) : C8.Cal P w K mg base 4 "_law_run" spRun [] := by
  refine T.d_Lrun.cal sc_Lrun (fun vs H Q E h => ?_) fun f cdv A outer s H vs Q E hr h => ?_
  · obtain ⟨g, rl, bv, b, d, G, row, rfl, _⟩ := h
    rfl
  · obtain ⟨g, rl, bv, b, d, G, row, rfl, hg, ok, hb, hd, hd9, hrow, k⟩ := h
    obtain ⟨τ, L, st0, CR, inv0, hrun, hnew⟩ := lwOf (P := P) (base := base) T G ok
    have hu := hu_of hr
    refine ⟨_, pss_cons (ps_set (i := 3) sc_Lrun.nd rfl (Or.inl rfl) (pe_disp (pps_cons pe_str (pv 2) (pps_cons pe_str (pe_lst pa_nil) (pps_cons pe_str (pe_lst pa_nil) (pps_cons pe_str (hnew _ _) (pps_cons pe_str pe_int (pps_cons pe_str pe_str (pps_cons pe_str (pe_lst pa_nil) pps_nil))))))) (by rfl) (by rfl) (fun z => by cases z) (by decide))) <|
      pss_cons (ps_set (i := 4) sc_Lrun.nd rfl (Or.inl rfl) (C8.pe_c (cal_Lstart T) hr (by decide) rfl (pa_cons (pv 0) (pa_cons (pv 3) pa_nil)))) <|
      pss_cons (ps_for PassesOwn.never rfl (pi_range1 rfl T.f_range (pa_cons pe_int pa_nil)) (pg_name (i := 5) sc_Lrun.nd rfl (Or.inl rfl))
        (pss_cons (ps_if (pt_cmpR op_eq (pe_ix ix_tup (pv 1) pe_int (fun _ _ => rfl)) pe_str (nomark _)) (pss_one ps_break) pss_nil) <|
         pss_one (ps_if (pt_cmpR op_eq (pe_ix ix_tup (pv 1) pe_int (fun _ _ => rfl)) pe_str (nomark _))
          (pss_one (ps_set (i := 1) sc_Lrun.nd rfl (Or.inl rfl) (pe_ix ix_tup (pe_ix ix_tup (pv 1) pe_int (fun _ _ => rfl)) (C8.pe_c (cal_Lchoice T) hr (by decide) rfl (pa_cons (pv 3) (pa_cons (pe_callB call_len_seq rfl T.f_len PySem.boot_len (pa_cons (pe_ix ix_tup (pv 1) pe_int (fun _ _ => rfl)) pa_nil)) pa_nil))) (fun _ _ => rfl))))
          (pss_one (ps_if (pt_cmpR op_eq (pe_ix ix_tup (pv 1) pe_int (fun _ _ => rfl)) pe_str (nomark _))
            (pss_one (ps_set (i := 1) sc_Lrun.nd rfl (Or.inl rfl) (pe_ix ix_tup (pv 1) (pe_op op_add pe_int (pe_callTy call_int1 rfl T.f_int (by decide +kernel) (pa_cons (pe_cmpR op_eq (C8.pe_c (cal_Lmade T) hr (by decide) rfl (pa_cons (pe_tup (pa_cons (pe_ix ix_tup (pv 1) pe_int (fun _ _ => rfl)) pa_nil)) (pa_cons (pv 4) pa_nil))) pe_str (nomark _)) pa_nil))) (fun _ _ => rfl))))
            (pss_cons (ps_set (i := 6) sc_Lrun.nd rfl (Or.inl rfl) (C8.pe_c (cal_Lmade T) hr (by decide) rfl (pa_cons (pe_ix ix_tup (pv 1) pe_int (fun _ _ => rfl)) (pa_cons (pv 4) pa_nil)))) <|
             pss_cons (ps_set (i := 7) sc_Lrun.nd rfl (Or.inl rfl) (C8.pe_c CR hr (by decide) rfl (pa_cons (pv 0) (pa_cons (pv 3) (pa_cons (pv 6) pa_nil))))) <|
             pss_cons (ps_expr (pe_bm PySem.F.plainAttrs_list PySem.F.slot_list_append PySem.F.type_list_append mt_append (pe_dget hu (pv 3) pe_str (fun _ _ => rfl)) (pa_cons (pe_tup (pa_cons (pv 6) (pa_cons (pv 7) pa_nil))) pa_nil))) <|
             pss_cons (ps_set (i := 4) sc_Lrun.nd rfl (Or.inl rfl) (pe_op op_add_str (pv 4) (pv 7))) <|
             pss_one (ps_set (i := 1) sc_Lrun.nd rfl (Or.inl rfl) (pe_ix ix_tup (pv 1) pe_int (fun _ _ => rfl))))))))) <|
      pss_cons (ps_set (i := 8) sc_Lrun.nd rfl (Or.inl rfl) (C8.pe_c (cal_Lmade T) hr (by decide) rfl (pa_cons (pe_ix ix_tup (pv 1) pe_int (fun _ _ => rfl)) (pa_cons (pv 4) pa_nil)))) <|
      pss_one (ps_ret (pe_lst (pa_cons (C8.pe_c (cal_Lend T) hr (by decide) rfl (pa_cons (pv 0) (pa_cons (pv 3) (pa_cons (pv 8) pa_nil)))) (pa_cons (pv 8) (pa_cons (pe_dget hu (pv 3) pe_str (fun _ _ => rfl)) (pa_cons (pe_dget hu (pv 3) pe_str (fun _ _ => rfl)) pa_nil)))))), ?_⟩
    rw [hrun] at k
    refine fun sd hsd => ⟨_, rfl, Nat.zero_le _, fun dl hdl => ⟨Nat.zero_le _, fun al hal => fun ka hka => ⟨Nat.zero_le _, fun pl hpl => ?_⟩⟩⟩
    have s0 : Same H (upd H sd (.dK [])) := same_upd hsd
    have g0 : (upd H sd (.dK [])) sd = some (.dK []) := upd_same
    generalize upd H sd (.dK []) = H0 at s0 g0 hdl hal hka hpl ⊢
    have s1 : Same H0 (upd H0 dl (.lst [])) := same_upd hdl
    have g1 : (upd H0 dl (.lst [])) dl = some (.lst []) := upd_same
    have n1 : dl ≠ sd := (ne_of_none g0 hdl).symm
    have hdl0 := s0.free hdl
    generalize upd H0 dl (.lst []) = H1 at s1 g1 hal hka hpl ⊢
    have s2 : Same H1 (upd H1 al (.lst [])) := same_upd hal
    have g2 : (upd H1 al (.lst [])) al = some (.lst []) := upd_same
    have n2 : al ≠ sd := (ne_of_none (s1 _ _ g0) hal).symm
    have n3 : al ≠ dl := (ne_of_none g1 hal).symm
    have hal0 := s0.free (s1.free hal)
    generalize upd H1 al (.lst []) = H2 at s2 g2 hka hpl ⊢
    have s3 : Same H2 (upd H2 ka (L.enc st0)) := same_upd hka
    have g3 : (upd H2 ka (L.enc st0)) ka = some (L.enc st0) := upd_same
    have n4 : ka ≠ sd := (ne_of_none (s2 _ _ (s1 _ _ g0)) hka).symm
    have n5 : al ≠ ka := ne_of_none g2 hka
    have hka0 := s0.free (s1.free (s2.free hka))
    generalize upd H2 ka (L.enc st0) = H3 at s3 g3 hpl ⊢
    have s4 : Same H3 (upd H3 pl (.lst [])) := same_upd hpl
    generalize upd H3 pl (.lst []) = H4 at s4 ⊢
    have t4 := ((s1.trans s2).trans s3).trans s4
    refine ⟨t4 _ _ g0, stK rl dl al ka pl, rfl, by show (7 : Nat) ≤ 15; decide, ?_⟩
    rw [sk_merge]
    have off : ∀ b o, H4 b = some o → b ≠ sd → (upd H4 sd (.dK (stK rl dl al ka pl))) b = some o := fun b o e nb => (upd_ne nb).trans e
    have gsd : (upd H4 sd (.dK (stK rl dl al ka pl))) sd = some (.dK (stK rl dl al ka pl)) := upd_same
    generalize upd H4 sd (.dK (stK rl dl al ka pl)) = H5 at off gsd ⊢
    have sH5 : Same H H5 := fun b o e => off b o (t4 _ _ (s0 _ _ e)) (ne_of_none e hsd)
    have nrd : rl ≠ dl := fun z => by
      rw [z, hdl0] at hrow
      cases hrow
    have nrk : rl ≠ ka := fun z => by
      rw [z, hka0] at hrow
      cases hrow
    have nra : rl ≠ al := fun z => by
      rw [z, hal0] at hrow
      cases hrow
    have sa : StAt H5 sd rl dl al ka row [] := ⟨⟨pl, gsd⟩, sH5 _ _ hrow, ⟨[], off _ _ (s4 _ _ (s3 _ _ (s2 _ _ g1))) n1, .nil⟩, nrd, n4⟩
    have hk5 : H5 ka = some (L.enc st0) := off _ _ (s4 _ _ g3) n4
    have as5 : AskAt H5 al [] := ⟨[], off _ _ (s4 _ _ (s3 _ _ g2)) n2, .nil⟩
    have lift : ∀ {H' : Hp}, Keep (fun b => b = dl ∨ b = al ∨ b = ka) H5 H' → Same H H' := fun kp b o e => kp b o (sH5 _ _ e) fun m => by
      rcases m with m | m | m
      · rw [m, hdl0] at e
        cases e
      · rw [m, hal0] at e
        cases e
      · rw [m, hka0] at e
        cases e
    refine ⟨_, rfl, _, rfl, _, _, rfl, ?_⟩
    generalize hres : (runB L.rep b [] st0 []).run (oRem row) 0 = res at k
    refine ⟨(100 : Int), rfl, by decide, by decide, for_range (lo := 0) (n := ((100 : Int)).toNat)
      (fun i σ H' => ∃ (m : Nat) (b' : Brk) (bv' : V) (hd' : Bs) (st' : τ) (qs' : Pairs) (ds' : Dws) (n' : Nat) (u5 u6 u7 u8 : Option V), σ = [some (.ref g), some bv', some (.ref rl), some (.ref sd), some (.str (S hd')), u5, u6, u7, u8] ∧ BrkAt H' b' bv' ∧ Deep b' m ∧ i + m ≤ 9 ∧
        StAt H' sd rl dl al ka row ds' ∧ H' ka = some (L.enc st') ∧ AskAt H' al qs' ∧ L.rep.inv st' n' ∧ n' + 4 * m ≤ 100 ∧ ds'.length + 4 * m ≤ 100 ∧ hd'.length + 8 * m ≤ 100 ∧ qs'.length + m ≤ 100 ∧
        ((runB L.rep b' hd' st' qs').run (oRem row) ds'.length).1 = res.1 ∧ ds' ++ ((runB L.rep b' hd' st' qs').run (oRem row) ds'.length).2 = res.2 ∧ Keep (fun b => b = dl ∨ b = al ∨ b = ka) H5 H' ∧ Tups H5 H')
      ⟨d, b, bv, [], st0, [], [], 0, _, _, _, _, rfl, hb.same sH5, hd, by omega, sa, hk5, as5, inv0, by omega, by show 0 + 4 * d ≤ 100; omega, by show 0 + 8 * d ≤ 100; omega, by show 0 + d ≤ 100; omega, by rw [← hres]; rfl, by rw [← hres]; rfl, Keep.refl, Tups.refl⟩ ?_ ?_⟩
    · rintro i σ H' hi ⟨m, b', bv', hd', st', qs', ds', n', u5, u6, u7, u8, rfl, hb', hde, him, sa', hk', as', inv', l1, l2, l3, l4, er, ed, kp, tu⟩
      obtain ⟨q1, q2, q3, q4, q5, q6⟩ := words_ne
      have hg' := hg.same (lift kp)
      cases b' with
      | say ps =>
        obtain ⟨a, t, rfl, hat, ht⟩ := hb'
        obtain ⟨⟨hp8, _⟩, _⟩ := hde
        refine ⟨_, rfl, a, _, _, _, rfl, rfl, SqT.of hat, atI_nat (j := 0) rfl, rfl, _, rfl, ?_⟩
        rw [dec_same]
        refine iteT ?_
        refine ⟨_, rfl, a, _, _, _, rfl, rfl, SqT.of hat, atI_nat (j := 1) rfl, _, rfl, t, ps, hd', rfl, ht, by omega, by omega, ?_⟩
        have e1 : ((runB L.rep (.say ps) hd' st' qs').run (oRem row) ds'.length) = ((made ps hd', qs'), []) := rfl
        rw [e1] at er ed
        rw [List.append_nil] at ed
        have e2 : res = ((made ps hd', qs'), ds') := Prod.ext er.symm ed.symm
        rw [e2] at k
        refine ⟨_, rfl, _, rfl, _, rfl, _, _, made ps hd', rfl, _, rfl, _, rfl, sd, _, rfl, sa'.gDraws, _, rfl, sd, _, rfl, sa'.gAsked, by show (4 : Nat) ≤ sizeLine; decide, fun p hp => ?_⟩
        have s9 : Same H' (upd H' p (.lst [.int (oneB (made ps hd')), .str (S (made ps hd')), .ref dl, .ref al])) := same_upd hp
        exact k p dl al _ ((lift kp).trans s9) upd_same (sa'.dw.same s9) (as'.same s9)
      | toss n gg =>
        obtain ⟨a, t, xs, rfl, hat, ht, hl, hx⟩ := hb'
        obtain ⟨hn1, hn3, hm1, hdk⟩ := hde
        refine ⟨_, rfl, a, _, _, _, rfl, rfl, SqT.of hat, atI_nat (j := 0) rfl, rfl, _, rfl, ?_⟩
        rw [q1]
        refine iteF ?_
        refine ⟨_, rfl, a, _, _, _, rfl, rfl, SqT.of hat, atI_nat (j := 0) rfl, rfl, _, rfl, ?_⟩
        rw [dec_same]
        refine iteT ?_
        have hstep : runB L.rep (.toss n gg) hd' st' qs' = .draw n fun c => runB L.rep (gg c.toNat) hd' st' qs' := rfl
        rw [hstep] at er ed
        obtain ⟨c0, c1⟩ := oRem_ok row ds'.length (n : Int) (by omega)
        refine ⟨_, rfl, a, _, _, _, rfl, rfl, SqT.of hat, atI_nat (j := 1) rfl, _, rfl, _, rfl, a, _, _, _, rfl, rfl, SqT.of hat, atI_nat (j := 1) rfl, t, _, rfl, .inr (SqT.of ht), ?_⟩
        refine ⟨sd, rl, dl, al, ka, row, ds', (n : Int), congrArg (fun z : Nat => [V.ref sd, V.int (z : Int)]) hl, sa', by omega, by omega, fun H6 sa6 k6 u6' => ?_⟩
        obtain ⟨y, hy, hby⟩ := hx (oRem row ds'.length n).toNat (by omega)
        obtain ⟨dsl, hdl6⟩ := sa'.dlst
        refine ⟨t, xs, _, y, rfl, rfl, SqT.of (u6' _ _ ht), at_of (j := (oRem row ds'.length n).toNat) (by omega) hy, m - 1, gg (oRem row ds'.length n).toNat, y, hd', st', qs', ds' ++ [(oRem row ds'.length n, (n : Int))], n', _, _, _, _, rfl, BrkAt.tups u6' _ _ hby,
          hdk _ (by omega), by omega, sa6, k6 _ _ hk' (fun z => L.nl st' dsl (Option.some.inj (hk'.symm.trans (by rw [z]; exact hdl6)))), as'.keep k6 u6' n3, inv', by omega, by rw [List.length_append]; show ds'.length + 1 + 4 * (m - 1) ≤ 100; omega, by omega, by omega, ?_, ?_, ?_, tu.trans u6'⟩
        · rw [List.length_append]
          exact er
        · rw [List.length_append, List.append_assoc]
          exact ed
        · exact kp.trans (k6.mono fun b e => .inl e)
      | look n b1 b2 =>
        obtain ⟨a, y1, y2, rfl, hat, hy1, hy2⟩ := hb'
        obtain ⟨hn, hm1, hd1, hd2⟩ := hde
        refine ⟨_, rfl, a, _, _, _, rfl, rfl, SqT.of hat, atI_nat (j := 0) rfl, rfl, _, rfl, ?_⟩
        rw [q2]
        refine iteF ?_
        refine ⟨_, rfl, a, _, _, _, rfl, rfl, SqT.of hat, atI_nat (j := 0) rfl, rfl, _, rfl, ?_⟩
        rw [q3]
        refine iteF ?_
        refine ⟨_, rfl, a, _, _, _, rfl, rfl, SqT.of hat, atI_nat (j := 0) rfl, rfl, _, rfl, ?_⟩
        rw [dec_same]
        refine iteT ?_
        refine ⟨_, rfl, _, rfl, a, _, _, _, rfl, rfl, SqT.of hat, atI_nat (j := 1) rfl, (by show 1 ≤ sizeLine; decide), fun t ht => ⟨_, rfl, ?_⟩⟩
        have s6 : Same H' (upd H' t (.tup [.int (n : Int)])) := same_upd ht
        refine ⟨t, [.inr n], hd', rfl, upd_same, (by show 1 ≤ 1000; decide), by omega, rfl, .inr ⟨_, rfl, _, _, rfl, rfl, ?_⟩⟩
        rw [dec_1, made_one]
        have hstep : runB L.rep (.look n b1 b2) hd' st' qs' = if hd'.getD n false then runB L.rep b2 hd' st' qs' else runB L.rep b1 hd' st' qs' := rfl
        rw [hstep] at er ed
        cases hbit : hd'.getD n false with
        | false =>
          rw [hbit] at er ed
          exact ⟨a, _, _, y1, rfl, rfl, SqT.of (s6 _ _ hat), atI_nat (j := 2) rfl, m - 1, b1, y1, hd', st', qs', ds', n', _, _, _, _, rfl, hy1.same s6, hd1, by omega, sa'.same s6, s6 _ _ hk', as'.same s6, inv', by omega, by omega, by omega, by omega, er, ed, kp.trans (Keep.same s6), tu.trans (Tups.same s6)⟩
        | true =>
          rw [hbit] at er ed
          exact ⟨a, _, _, y2, rfl, rfl, SqT.of (s6 _ _ hat), atI_nat (j := 3) rfl, m - 1, b2, y2, hd', st', qs', ds', n', _, _, _, _, rfl, hy2.same s6, hd2, by omega, sa'.same s6, s6 _ _ hk', as'.same s6, inv', by omega, by omega, by omega, by omega, er, ed, kp.trans (Keep.same s6), tu.trans (Tups.same s6)⟩
      | ask ps b1 =>
        obtain ⟨a, t, y1, rfl, hat, ht, hy1⟩ := hb'
        obtain ⟨⟨hp8, _⟩, hm1, hd1⟩ := hde
        refine ⟨_, rfl, a, _, _, _, rfl, rfl, SqT.of hat, atI_nat (j := 0) rfl, rfl, _, rfl, ?_⟩
        rw [q4]
        refine iteF ?_
        refine ⟨_, rfl, a, _, _, _, rfl, rfl, SqT.of hat, atI_nat (j := 0) rfl, rfl, _, rfl, ?_⟩
        rw [q5]
        refine iteF ?_
        refine ⟨_, rfl, a, _, _, _, rfl, rfl, SqT.of hat, atI_nat (j := 0) rfl, rfl, _, rfl, ?_⟩
        rw [q6]
        refine iteF ?_
        have hstep : runB L.rep (.ask ps b1) hd' st' qs' = (L.rep.go st' (made ps hd')).bind fun r => runB L.rep b1 (hd' ++ r.1) r.2 (qs' ++ [(made ps hd', r.1)]) := rfl
        rw [hstep, Tr.run_bind] at er ed
        have allR := L.rep.all st' n' (made ps hd') 0 inv'
        obtain ⟨a1, a2, a3⟩ := Tr.all_run (oRem row) _ 0 ds'.length allR (Tr.all_ok (oRem_ok row) _ 0 _ allR)
        refine ⟨_, rfl, a, _, _, _, rfl, rfl, SqT.of hat, atI_nat (j := 1) rfl, _, rfl, t, ps, hd', rfl, ht, by omega, by omega, ?_⟩
        refine ⟨_, rfl, _, rfl, _, rfl, g, sd, rl, dl, al, ka, row, ds', st', made ps hd', n', rfl, hg', sa', hk', inv', by omega, by omega, by rw [made_length]; omega, fun H6 sa6 hk6 k6 u6' => ?_⟩
        generalize hr1 : (L.rep.go st' (made ps hd')).run (oRem row) ds'.length = r1 at a1 a2 a3 er ed sa6 hk6 ⊢
        have as6 := as'.keep k6 u6' (fun z => z.elim n3 n5)
        obtain ⟨ts, ha1, ha2⟩ := as6
        have hlen := paired_len ha2
        refine ⟨_, rfl, sd, _, rfl, sa6.gAsked, .inl ⟨rfl, _, SqL.of ha1⟩, _, rfl, _, rfl, by show (2 : Nat) ≤ sizeLine; decide, fun t2 ht2 => ?_⟩
        have nat : al ≠ t2 := ne_of_none ha1 ht2
        refine ⟨al, _, _, rfl, rfl, (upd_ne nat).trans ha1, by rw [List.length_map, hlen]; exact small5 (by omega), ?_⟩
        have s7 : Same H6 (upd H6 t2 (.tup [.str (S (made ps hd')), .str (S r1.1.1)])) := same_upd ht2
        have g7 : (upd H6 t2 (.tup [.str (S (made ps hd')), .str (S r1.1.1)])) t2 = some (.tup [.str (S (made ps hd')), .str (S r1.1.1)]) := upd_same
        generalize upd H6 t2 _ = H7 at s7 g7 ⊢
        generalize e8 : upd H7 al _ = H8
        have k8 : Keep (fun b => b = al) H7 H8 := by rw [← e8]; exact keep_upd rfl
        have u8' : Tups H7 H8 := fun a xs e => k8 a _ e (ne_of e (s7 _ _ ha1) (by intro q; cases q))
        have sa7 := sa6.same s7
        obtain ⟨dls7, hdl7⟩ := sa7.dlst
        have sa8 : StAt H8 sd rl dl al ka row (ds' ++ r1.2) := sa7.keep k8 n2.symm nra (sa7.dw.keep (by rw [← e8, upd_ne n3.symm]) u8')
        have hk8 : H8 ka = some (L.enc r1.1.2) := k8 _ _ (s7 _ _ hk6) n5.symm
        have as8 : AskAt H8 al (qs' ++ [(made ps hd', r1.1.1)]) := by
          refine ⟨ts ++ [t2], by rw [← e8, upd_same, List.map_append]; rfl, ?_⟩
          exact paired_snoc (F := fun (t : Addr) (q : Bs × Bs) => H8 t = some (HO.tup [.str (S q.1), .str (S q.2)])) (u8' _ _ g7) (paired_mono (fun a q e => u8' _ _ (s7 _ _ e)) ha2)
        have u68 := (u6'.trans (Tups.same s7)).trans u8'
        have hlr : (S hd').length + (S r1.1.1).length ≤ sizeLine := by
          rw [S_len, S_len]
          exact Nat.le_of_lt (small5 (by omega))
        refine ⟨_, rfl, _, rfl, _, _, rfl, rfl, hlr, ?_⟩
        rw [S_app]
        refine ⟨_, rfl, a, _, _, _, rfl, rfl, SqT.of (u68 _ _ hat), atI_nat (j := 2) rfl, m - 1, b1, y1, hd' ++ r1.1.1, r1.1.2, qs' ++ [(made ps hd', r1.1.1)], ds' ++ r1.2, n' + 4, _, _, _, _, rfl, BrkAt.tups u68 _ _ hy1, hd1, by omega, sa8, hk8, as8, a2, by omega, by rw [List.length_append]; omega,
          by rw [List.length_append]; omega, by rw [List.length_append]; show qs'.length + 1 + (m - 1) ≤ 100; omega, ?_, ?_, ?_, tu.trans u68⟩
        · rw [List.length_append]
          exact er
        · rw [List.length_append, List.append_assoc]
          exact ed
        · exact fun b o e nb => k8 b o (s7 b o (k6 b o (kp b o e nb) fun z => nb (z.elim .inl fun z => .inr (.inr z)))) fun z => nb (.inr (.inl z))
    · rintro σ H' ⟨m, b', bv', hd', st', qs', ds', n', u5, u6, u7, u8, rfl, hb', hde, him, _⟩
      have h100 : ((100 : Int)).toNat = 100 := by decide
      rw [h100] at him
      exact absurd him (by omega)
end
end Bb
namespace Bb
open PySem PySem.Spec PyProof PyProof.Rows L2
/-! ## The law compares plays -/
theorem ok_S (a : Bs) : PyData.strOk (S a) = true := by
  unfold PyData.strOk S
  rw [← Array.all_toList, List.all_eq_true]
  intro x hx
  have hx' : x ∈ a.map sg := hx
  obtain ⟨b, _, e⟩ := List.mem_map.mp hx'
  rw [← e]
  cases b <;> decide
theorem lay_all : ∀ ds : List PyData, (∀ d, d ∈ ds → d.canLay0 = true ∧ d.depth ≤ 1) → PyData.canLayAll0 ds = true ∧ PyData.depthAll ds ≤ 1
  | [], _ => ⟨rfl, Nat.zero_le _⟩
  | d :: r, h => by
    obtain ⟨h1, h2⟩ := h d List.mem_cons_self
    obtain ⟨h3, h4⟩ := lay_all r fun e he => h e (List.mem_cons_of_mem _ he)
    refine ⟨by unfold PyData.canLayAll0; rw [h1, h3]; rfl, ?_⟩
    show max d.depth (PyData.depthAll r) ≤ 1
    omega
theorem shaped_list {ds : List PyData} (h : ∀ d, d ∈ ds → d.canLay0 = true ∧ d.depth ≤ 1) : SeqAt.shaped (.list ds) = true ∧ PyData.eqv (.list ds) (.list ds) = true := by
  obtain ⟨h1, h2⟩ := lay_all ds h
  have h3 : (PyData.list ds).canLay0 = true := h1
  refine ⟨?_, SeqAt.eqv_refl _ h3⟩
  unfold SeqAt.shaped
  rw [h3, decide_eq_true (show (PyData.list ds).depth ≤ 64 from by show PyData.depthAll ds + 1 ≤ 64; omega)]
  rfl
def dwD (ds : Dws) : List PyData := ds.map fun d => .tuple [.int d.1, .int d.2]
def asD (qs : Pairs) : List PyData := qs.map fun q => .tuple [.str (S q.1), .str (S q.2)]
theorem dwD_ok (ds : Dws) : SeqAt.shaped (.list (dwD ds)) = true ∧ PyData.eqv (.list (dwD ds)) (.list (dwD ds)) = true := by
  refine shaped_list fun d hd => ?_
  obtain ⟨x, _, rfl⟩ := List.mem_map.mp hd
  exact ⟨rfl, Nat.le_refl 1⟩
theorem asD_ok (qs : Pairs) : SeqAt.shaped (.list (asD qs)) = true ∧ PyData.eqv (.list (asD qs)) (.list (asD qs)) = true := by
  refine shaped_list fun d hd => ?_
  obtain ⟨x, _, rfl⟩ := List.mem_map.mp hd
  refine ⟨?_, Nat.le_refl 1⟩
  show (PyData.strOk (S x.1) && (PyData.strOk (S x.2) && true)) = true
  rw [ok_S, ok_S]
  rfl
theorem dp_dw {K : PySem.W.Frag} {H : Hp} : ∀ {ts : List Addr} {ds : Dws}, Paired (fun (t : Addr) (d : Int × Int) => H t = some (.tup [.int d.1, .int d.2])) ts ds → DpAll K H (ts.map V.ref) (dwD ds)
  | _, _, .nil => .nil
  | _, _, .cons r t => .cons (.tup (SqT.of r) (.cons (.int _) (.cons (.int _) .nil))) (dp_dw t)
theorem dp_as {K : PySem.W.Frag} {H : Hp} : ∀ {ts : List Addr} {qs : Pairs}, Paired (fun (t : Addr) (q : Bs × Bs) => H t = some (.tup [.str (S q.1), .str (S q.2)])) ts qs → DpAll K H (ts.map V.ref) (asD qs)
  | _, _, .nil => .nil
  | _, _, .cons r t => .cons (.tup (SqT.of r) (.cons (.str _) (.cons (.str _) .nil))) (dp_as t)
theorem DwsAt.dp {K : PySem.W.Frag} {H : Hp} {dl : Addr} {ds : Dws} (h : DwsAt H dl ds) : Dp K H (.ref dl) (.list (dwD ds)) := let ⟨ts, e, p⟩ := h; .lst (SqL.of e) (dp_dw p)
theorem AskAt.dp {K : PySem.W.Frag} {H : Hp} {al : Addr} {qs : Pairs} (h : AskAt H al qs) : Dp K H (.ref al) (.list (asD qs)) := let ⟨ts, e, p⟩ := h; .lst (SqL.of e) (dp_as p)
section
variable {P : Program} {w : World} {K : PySem.W.Frag} {mg : Str → Option Value} {base : Heap}
/-- what the law's machine found, at p -/
def DueAt (H : Hp) (p : Addr) (s : Bs) (ds : Dws) (qs : Pairs) : Prop := ∃ dl al, H p = some (.lst [.int (oneB s), .str (S s), .ref dl, .ref al]) ∧ DwsAt H dl ds ∧ AskAt H al qs
def PlayAt (K : PySem.W.Frag) (H : Hp) (q : Addr) (s : Bs) (ds : Dws) (qs : Pairs) : Prop := ∃ dq dl al, H q = some (.ins (He.ga K "Play") dq (fPlay (oneB s) (S s) dl al)) ∧ DwsAt H dl ds ∧ AskAt H al qs
theorem DueAt.same {H H' : Hp} {p : Addr} {s : Bs} {ds : Dws} {qs : Pairs} (d : DueAt H p s ds qs) (e : Same H H') : DueAt H' p s ds qs := let ⟨dl, al, a, b, c⟩ := d; ⟨dl, al, e _ _ a, b.same e, c.same e⟩
def spSame (K : PySem.W.Frag) : Sp := fun vs H Q _ => ∃ (q p : Addr) (z : Bs) (ds : Dws) (qs : Pairs), vs = [.ref q, .ref p] ∧ PlayAt K H q z ds qs ∧ DueAt H p z ds qs ∧ Q (.bl true) H
theorem sc_same : FnScope ["_law_told", "_law_due", "_law_pair"] ["_law_told", "_law_due"] (defScope s_Lsame_play) := C8.fnScope_by (by decide +kernel)
theorem cal_same (T : Tx K mg w) : C8.Cal P w K mg base 1 "_law_same_play" (spSame K) [] := by
  refine T.d_Lsame_play.cal sc_same (fun vs H Q E h => ?_) fun f cdv A outer s H vs Q E hr h => ?_
  · obtain ⟨q, p, z, ds, qs, rfl, _⟩ := h
    rfl
  · obtain ⟨q, p, z, ds, qs, rfl, ⟨dq, dl, al, hq, hd, ha⟩, ⟨dl2, al2, hp, hd2, ha2⟩, k⟩ := h
    refine ⟨_, pss_cons (ps_if (pt_not (pt_val (pe_callB call_isi rfl T.f_isinstance (by decide +kernel) (pa_cons (pv 0) (pa_cons (pe_glob (v := .ref (He.ga K "Play")) rfl T.g_Play rfl) pa_nil))))) pss_never pss_nil) <|
      pss_cons (ps_if (PW.pt (pw_or (pt_not (pt_val (pe_callB call_isi rfl T.f_isinstance (by decide +kernel) (pa_cons (pe_fld (pv 0) rfl) (pa_cons (pe_bltn (v := .ty "int") rfl T.f_int (by decide +kernel) rfl) pa_nil)))))
          (pw_or (pt_val (pe_callB call_isi rfl T.f_isinstance (by decide +kernel) (pa_cons (pe_fld (pv 0) rfl) (pa_cons (pe_bltn (v := .ty "bool") rfl T.f_bool (by decide +kernel) rfl) pa_nil))))
          (pw_or1 (pt_cmpR op_ne (pe_fld (pv 0) rfl) (pe_ix ix_list (pv 1) pe_int (fun _ _ => rfl)) (nomark _)))))) pss_never pss_nil) <|
      pss_cons (ps_if (PW.pt (pw_or (pt_not (pt_val (pe_callB call_isi rfl T.f_isinstance (by decide +kernel) (pa_cons (pe_fld (pv 0) rfl) (pa_cons (pe_bltn (v := .ty "str") rfl T.f_str (by decide +kernel) rfl) pa_nil)))))
          (pw_or1 (pt_cmpR op_ne (pe_fld (pv 0) rfl) (pe_ix ix_list (pv 1) pe_int (fun _ _ => rfl)) (nomark _))))) pss_never pss_nil) <|
      pss_cons (ps_if (PW.pt (pw_or (pt_not (pt_val (pe_callB call_isi rfl T.f_isinstance (by decide +kernel) (pa_cons (pe_fld (pv 0) rfl) (pa_cons (pe_bltn (v := .ty "list") rfl T.f_list (by decide +kernel) rfl) pa_nil)))))
          (pw_or1 (pt_cmpR (op_neD hr.units) (pe_fld (pv 0) rfl) (pe_ix ix_list (pv 1) pe_int (fun _ _ => rfl)) (nomark _))))) pss_never pss_nil) <|
      pss_cons (ps_for PassesOwn.never rfl (pi_list (pe_fld (pv 0) rfl)) (pg_name (i := 2) sc_same.nd rfl (Or.inl rfl))
        (pss_cons (ps_if (PW.pt (pw_or (pt_not (pt_val (pe_callB call_isi rfl T.f_isinstance (by decide +kernel) (pa_cons (pv 2) (pa_cons (pe_bltn (v := .ty "tuple") rfl T.f_tuple (by decide +kernel) rfl) pa_nil)))))
          (pw_or (pt_not (pt_val (pe_callB call_isi rfl T.f_isinstance (by decide +kernel) (pa_cons (pe_ix ix_tup (pv 2) pe_int (fun _ _ => rfl)) (pa_cons (pe_bltn (v := .ty "int") rfl T.f_int (by decide +kernel) rfl) pa_nil)))))
          (pw_or1 (pt_not (pt_val (pe_callB call_isi rfl T.f_isinstance (by decide +kernel) (pa_cons (pe_ix ix_tup (pv 2) pe_int (fun _ _ => rfl)) (pa_cons (pe_bltn (v := .ty "int") rfl T.f_int (by decide +kernel) rfl) pa_nil))))))))) pss_never pss_nil) <|
         pss_one (ps_if (PW.pt (pw_or (pt_val (pe_callB call_isi rfl T.f_isinstance (by decide +kernel) (pa_cons (pe_ix ix_tup (pv 2) pe_int (fun _ _ => rfl)) (pa_cons (pe_bltn (v := .ty "bool") rfl T.f_bool (by decide +kernel) rfl) pa_nil))))
          (pw_or1 (pt_val (pe_callB call_isi rfl T.f_isinstance (by decide +kernel) (pa_cons (pe_ix ix_tup (pv 2) pe_int (fun _ _ => rfl)) (pa_cons (pe_bltn (v := .ty "bool") rfl T.f_bool (by decide +kernel) rfl) pa_nil))))))) pss_never pss_nil))) <|
      pss_one (ps_ret (pe_and (pe_callB call_isi rfl T.f_isinstance (by decide +kernel) (pa_cons (pe_fld (pv 0) rfl) (pa_cons (pe_bltn (v := .ty "list") rfl T.f_list (by decide +kernel) rfl) pa_nil)))
        (pe_one (pe_cmpR (op_eqD hr.units) (pe_fld (pv 0) rfl) (pe_ix ix_list (pv 1) pe_int (fun _ _ => rfl)) (nomark _))))), ?_⟩
    have tPlay : TyOf K H (.ref q) (.ref (He.ga K "Play")) := T.t_Play.ty hq
    obtain ⟨ts, hL, hP⟩ := id hd
    obtain ⟨us, hA, hPA⟩ := id ha
    refine ⟨_, rfl, .ref q, .ref (He.ga K "Play"), _, _, true, rfl, .own _, .base tPlay, T.q_Play, _, rfl, iteF ?_⟩
    refine ⟨_, rfl, q, _, dq, _, _, rfl, hq, T.c_Play, T.n_Play_outcome, yk_outcome _ _ _ _, .int _, .ty "int", _, _, true, rfl, .ty _, .base (.int _), kit_ty (by decide +kernel), _, rfl, iteF ?_⟩
    refine ⟨_, rfl, q, _, dq, _, _, rfl, hq, T.c_Play, T.n_Play_outcome, yk_outcome _ _ _ _, .int _, .ty "bool", _, _, false, rfl, .ty _, .base (.int _), kit_ty (by decide +kernel), _, rfl, iteF ?_⟩
    refine ⟨_, rfl, q, _, dq, _, _, rfl, hq, T.c_Play, T.n_Play_outcome, yk_outcome _ _ _ _, _, rfl, p, _, _, _, rfl, rfl, SqL.of hp, atI_nat (j := 0) rfl, rfl, _, rfl, ?_⟩
    rw [dec_same]
    refine iteF ?_
    refine ⟨_, rfl, q, _, dq, _, _, rfl, hq, T.c_Play, T.n_Play_said, yk_said _ _ _ _, .str _, .ty "str", _, _, true, rfl, .ty _, .base (.str _), kit_ty (by decide +kernel), _, rfl, iteF ?_⟩
    refine ⟨_, rfl, q, _, dq, _, _, rfl, hq, T.c_Play, T.n_Play_said, yk_said _ _ _ _, _, rfl, p, _, _, _, rfl, rfl, SqL.of hp, atI_nat (j := 1) rfl, rfl, _, rfl, ?_⟩
    rw [dec_same]
    refine iteF ?_
    obtain ⟨w1, w2⟩ := dwD_ok ds
    obtain ⟨w3, w4⟩ := asD_ok qs
    refine ⟨_, rfl, q, _, dq, _, _, rfl, hq, T.c_Play, T.n_Play_draws, yk_draws _ _ _ _, .ref dl, .ty "list", _, _, true, rfl, .ty _, .base (.lst hL), kit_ty (by decide +kernel), _, rfl, iteF ?_⟩
    refine ⟨_, rfl, q, _, dq, _, _, rfl, hq, T.c_Play, T.n_Play_draws, yk_draws _ _ _ _, _, rfl, p, _, _, _, rfl, rfl, SqL.of hp, atI_nat (j := 2) rfl, _, _, hd.dp, hd2.dp, w1, w1, _, rfl, ?_⟩
    rw [w2]
    refine iteF ?_
    refine ⟨_, rfl, q, _, dq, _, _, rfl, hq, T.c_Play, T.n_Play_draws, yk_draws _ _ _ _, dl, rfl, ⟨_, SqL.of hL⟩, for_list (K := K) (a := dl) (xs := ts.map V.ref)
      (fun i σ H' => H' = H ∧ ∃ u : Option V, σ = [some (.ref q), some (.ref p), u]) ⟨rfl, _, rfl⟩ (fun i σ H' _ z => by rw [z.1]; exact SqL.of hL) ?_ ?_⟩
    · rintro i x σ H' hx ⟨rfl, u, rfl⟩
      rw [List.getElem?_map] at hx
      obtain ⟨t, ht, rfl⟩ := Option.map_eq_some_iff.mp hx
      obtain ⟨e, _, he⟩ := paired_at hP ht
      refine ⟨_, rfl, .ref t, .ty "tuple", _, _, true, rfl, .ty _, .base (.tup he), kit_ty (by decide +kernel), _, rfl, iteF ?_⟩
      refine ⟨_, rfl, t, _, _, _, rfl, rfl, SqT.of he, atI_nat (j := 0) rfl, .int _, .ty "int", _, _, true, rfl, .ty _, .base (.int _), kit_ty (by decide +kernel), _, rfl, iteF ?_⟩
      refine ⟨_, rfl, t, _, _, _, rfl, rfl, SqT.of he, atI_nat (j := 1) rfl, .int _, .ty "int", _, _, true, rfl, .ty _, .base (.int _), kit_ty (by decide +kernel), _, rfl, iteF ?_⟩
      refine ⟨_, rfl, t, _, _, _, rfl, rfl, SqT.of he, atI_nat (j := 0) rfl, .int _, .ty "bool", _, _, false, rfl, .ty _, .base (.int _), kit_ty (by decide +kernel), _, rfl, iteF ?_⟩
      refine ⟨_, rfl, t, _, _, _, rfl, rfl, SqT.of he, atI_nat (j := 1) rfl, .int _, .ty "bool", _, _, false, rfl, .ty _, .base (.int _), kit_ty (by decide +kernel), _, rfl, iteF ?_⟩
      exact ⟨rfl, _, rfl⟩
    · rintro σ H' ⟨rfl, u, rfl⟩
      refine ⟨_, rfl, q, _, dq, _, _, rfl, hq, T.c_Play, T.n_Play_asked, yk_asked _ _ _ _, .ref al, .ty "list", _, _, true, rfl, .ty _, .base (.lst hA), kit_ty (by decide +kernel), _, rfl, iteT ?_⟩
      refine ⟨_, rfl, q, _, dq, _, _, rfl, hq, T.c_Play, T.n_Play_asked, yk_asked _ _ _ _, _, rfl, p, _, _, _, rfl, rfl, SqL.of hp, atI_nat (j := 3) rfl, _, _, ha.dp, ha2.dp, w3, w3, ?_⟩
      rw [w4]
      exact k
end
end Bb
namespace Bb
open PySem PySem.Spec PyProof PyProof.Rows L2
/-! ## The law's four plays -/
theorem runG_all {G : Game} {b : Brk} {d : Nat} (ok : GmOk G) (h : Deep b d) : (runG G b).All (fun _ j => j ≤ 0 + 4 * d) 0 := by
  cases G with
  | perm l =>
    obtain ⟨l1, l3⟩ := ok
    rw [show runG (.perm l) b = runB (repP l l3) b [] [] [] from dif_pos l3]
    exact runB_all (repP l l3) b d [] [] [] 0 0 h ⟨Nat.le_refl _, List.nodup_nil, fun _ h => nomatch h⟩
  | swaps hh r =>
    obtain ⟨h1, h2, r1, r4⟩ := ok
    rw [show runG (.swaps hh r) b = runB (repS hh r h2 r4) b [] [] [] from dif_pos ⟨h2, r4⟩]
    exact runB_all (repS hh r h2 r4) b d [] [] [] 0 0 h ⟨Nat.le_refl _, fun _ h => nomatch h⟩
section
variable {t : Tr (Bs × Pairs)} {n : Nat} (hall : t.All (fun _ j => j ≤ 0 + n) 0) (row : List Int)
include hall
theorem run_len : (t.run (oRem row) 0).2.length ≤ n := by
  have h := Tr.all_run (oRem row) t 0 0 hall (Tr.all_ok (oRem_ok row) t 0 0 hall)
  have h' : 0 + (t.run (oRem row) 0).2.length ≤ 0 + n := h
  omega
theorem again1 (more : List Int) : t.ok (oTold ((t.run (oRem row) 0).2.map (·.1) ++ more)) 0 ∧ t.run (oTold ((t.run (oRem row) 0).2.map (·.1) ++ more)) 0 = t.run (oRem row) 0 := by
  refine told_again (oRem row) (oRem_ok row) _ t 0 0 hall fun j d h => ?_
  rw [Nat.zero_add, List.getElem?_append_left (by rw [List.length_map]; exact (List.getElem?_eq_some_iff.mp h).1), List.getElem?_map, h]
  rfl
theorem again2 (k : Nat) : t.ok (oTold (((t.run (oRem row) 0).2.map (·.1)).take k)) 0 ∧ t.run (oTold (((t.run (oRem row) 0).2.map (·.1)).take k)) 0 = t.run (oRem (((t.run (oRem row) 0).2.map (·.1)).take k)) 0 := by
  refine part_again (oRem row) (oRem_ok row) _ t 0 0 hall fun _ j hj => ?_
  rw [Nat.zero_add] at hj ⊢
  rw [List.length_take, List.length_map] at hj
  have hj2 : j < (t.run (oRem row) 0).2.length := by omega
  refine ⟨(t.run (oRem row) 0).2[j], List.getElem?_eq_getElem hj2, ?_⟩
  rw [List.getElem?_take_of_lt (by omega), List.getElem?_map, List.getElem?_eq_getElem hj2]
  rfl
end
theorem ints_ok (cs : List Int) : SeqAt.shaped (.list (cs.map PyData.int)) = true ∧ PyData.eqv (.list (cs.map PyData.int)) (.list (cs.map PyData.int)) = true := by
  refine shaped_list fun d hd => ?_
  obtain ⟨x, _, rfl⟩ := List.mem_map.mp hd
  exact ⟨rfl, Nat.zero_le 1⟩
theorem dp_ints {K : PySem.W.Frag} {H : Hp} : ∀ cs : List Int, DpAll K H (cs.map V.int) (cs.map PyData.int)
  | [] => .nil
  | z :: r => .cons (.int z) (dp_ints r)
theorem cut_ints (cs : List Int) (z : Int) (h0 : 0 ≤ z) : cutV (cs.map V.int) none (some z) = (cs.take z.toNat).map V.int := by
  obtain ⟨k, rfl⟩ : ∃ k : Nat, z = (k : Int) := ⟨z.toNat, (Int.toNat_of_nonneg h0).symm⟩
  unfold cutV
  rw [HT.sIx_none, HT.sIx_nat, List.drop_zero, Nat.sub_zero, Int.toNat_natCast, ← List.map_take, List.length_map]
  congr 1
  rw [Nat.min_comm, List.take_eq_take_iff]
  omega
theorem hand_refs {H : Hp} {h : Hand} {x : Addr} {ts : List Addr} (a : HandAt H h) (e : H x = some (.lst (ts.map V.ref))) : x ≠ h.hd := fun z => by
  obtain ⟨i, e1, _⟩ := a
  rw [z, e1] at e
  have e2 := HO.lst.inj (Option.some.inj e)
  match ts, e2 with
  | [], q => cases q
  | [_], q => cases q
  | [_, _], q => cases q
  | _ :: _ :: _ :: _, q => cases q
theorem hand_four {H : Hp} {h : Hand} {x : Addr} {a b c d : V} (ha : HandAt H h) (e : H x = some (.lst [a, b, c, d])) : x ≠ h.hd := fun z => by
  obtain ⟨i, e1, _⟩ := ha
  rw [z, e1] at e
  cases e
theorem DueAt.hand {H H' : Hp} {h : Hand} {p : Addr} {s : Bs} {ds : Dws} {qs : Pairs} (d : DueAt H p s ds qs) (a : HandAt H h) (k : HandK h H H') : DueAt H' p s ds qs := by
  obtain ⟨dl, al, e1, ⟨ts, e2, e3⟩, ⟨us, e4, e5⟩⟩ := d
  have t := k.tups a
  exact ⟨dl, al, k.2 _ _ e1 (hand_four a e1), ⟨ts, k.2 _ _ e2 (hand_refs a e2), paired_mono (fun _ _ q => t _ _ q) e3⟩, ⟨us, k.2 _ _ e4 (hand_refs a e4), paired_mono (fun _ _ q => t _ _ q) e5⟩⟩
/-! ### play by the names of its arguments -/
def gK {α : Type} : List α → List α → List α
  | [], [a, b, c] => [c, b, a]
  | _, _ => []
section
variable {P : Program} {w : World} {K : PySem.W.Frag} {mg : Str → Option Value} {base : Heap}
theorem gK_rel : ∀ {vs : List V} {us : List Value} {zs : List V} {ws : List Value}, Vals vs us → Vals zs ws → Vals (gK vs zs) (gK us ws)
  | _, _, _, _, .nil, .nil => .nil
  | _, _, _, _, .nil, .cons _ .nil => .nil
  | _, _, _, _, .nil, .cons _ (.cons _ .nil) => .nil
  | _, _, _, _, .nil, .cons a (.cons b (.cons c .nil)) => .cons c (.cons b (.cons a .nil))
  | _, _, _, _, .nil, .cons _ (.cons _ (.cons _ (.cons _ _))) => .nil
  | _, _, _, _, .cons _ _, _ => .nil
theorem play_fn (T : Tx K mg w) : ∃ f fd, FnOk P w K mg base CX0 9 f fd ["game", "breaker", "choices"] (spPlay K) ∧ mg "play" = some (.ref f) ∧ PySem.W.keepIn K (.ref f) = true ∧
    KBinds K fd ["game", "breaker", "choices"] ["choices", "breaker", "game"] gK gK := by
  obtain ⟨f, fd, h1, F, b⟩ := T.d_play.ex
  refine ⟨f, fd, F.ok sc_play (fun vs H Q E h => ?_) fun cdv A outer s H vs Q E hr h => ?_, h1, F.kp, ⟨fun s us ws _ hl => ?_, gK_rel⟩⟩
  · obtain ⟨g, c, bv, b, d, G, cs, rfl, _⟩ := h
    rfl
  · obtain ⟨g, c, bv, b, d, G, cs, rfl, hg, ok, hb, hd, hd9, hsz, hc, hok, k⟩ := h
    refine ⟨_, PSs.nox (pss_cons (ps_expr (C8.pe_c (cal_game T) hr (by decide) rfl (pa_cons (pv 0) pa_nil))) <| pss_cons (ps_expr (C8.pe_c (cal_check_breaker T) hr (by decide) rfl (pa_cons (pv 1) pa_nil))) <|
      pss_one (ps_ret (C8.pe_c (cal_played T) hr (by decide) rfl (pa_cons (pv 0) (pa_cons (pv 1) (pa_cons (pv 2) pa_nil)))))), ?_⟩
    refine ⟨_, rfl, g, G, rfl, hg, ok, fun H1 s1 => ⟨_, rfl, b, bv, d, rfl, hb.same s1, hd, by omega, hsz, fun H2 s2 => ?_⟩⟩
    have s12 := s1.trans s2
    exact ⟨_, rfl, _, rfl, _, rfl, g, c, bv, b, d, G, cs, rfl, hg.same s12, ok, hb.same s12, hd, hd9, hsz, hc.elim (fun z => .inl (s12 _ _ z)) (fun z => .inr (s12 _ _ z)), hok, fun q dq dl al H' s3 e3 dw as => k q dq dl al H' (s12.trans s3) e3 dw as⟩
  · match us, ws, hl with
    | [], [a, b, c], _ =>
      obtain ⟨oc, od, dV, kV, doc, pm, an, cdv, ct, osl, rfl, lk, hcd, hD, hK⟩ := F.ex
      rcases hD with ⟨_, rfl⟩ | ⟨e, _⟩
      · exact .of_eq rfl
      · exact absurd rfl e
def spIsP : Sp := fun vs H Q _ => ∃ (g : Addr) (bv : V) (h : Hand) (b : Brk) (d : Nat) (G : Game), vs = [.ref g, bv, .ref h.hd] ∧ GmAt H g G ∧ GmOk G ∧ BrkAt H b bv ∧ Deep b d ∧ d ≤ 9 ∧ size b ≤ 2000 ∧ HandAt H h ∧
  ∀ H', HandK h H H' → Q (.bl true) H'
abbrev nIsP : List Str := ["_law_game", "_law_breaker_here", "_law_hand", "_law_row", "_law_k", "_law_due", "_law_choices", "_law_pair", "_law_longer", "_law_less", "_law_part"]
theorem sc_isP : FnScope nIsP ["_law_game", "_law_breaker_here", "_law_hand"] (defScope s_Lis_played) := C8.fnScope_by (by decide +kernel)
theorem cal_isP (T : Tx K mg w) : C8.Cal P w K mg base 10 "_law_is_played" spIsP [] := by
  refine T.d_Lis_played.cal sc_isP (fun vs H Q E h => ?_) fun f cdv A outer s H vs Q E hr h => ?_
  · obtain ⟨g, bv, h, b, d, G, rfl, _⟩ := h
    rfl
  · obtain ⟨g, bv, h, b, d, G, rfl, hg, ok, hb, hd, hd9, hsz, ha, k⟩ := h
    obtain ⟨fp, fdp, FP, mgp, kpp, KB⟩ := play_fn (P := P) (base := base) T
    refine ⟨_, pss_cons (ps_setLc (i := 3) (own := [("_law_k", 4)]) (g := gName 4) (tt := tYes) (te := tCall spTake [] C8.E0 (tCons (tVar 2) (tCons (tC (.int 1000003)) tNil))) (by rfl) sc_isP.nd rfl rfl (sw_true rfl rfl rfl (by decide +kernel))
        (pi_range1 rfl T.f_range (pa_cons pe_int pa_nil)) (blkOk_by (N := nIsP) (sc := defScope s_Lis_played) (by decide +kernel)) (fun _ _ _ _ _ => pg_name (i := 4) sc_isP.nd rfl (Or.inl rfl)) (fun _ _ _ _ _ => pts_nil)
        (fun _ _ _ _ _ => C8.pe_c (cal_take T) hr (by decide) rfl (pa_cons (pv 2) (pa_cons pe_int pa_nil)))) <|
      pss_cons (ps_set (i := 5) sc_isP.nd rfl (Or.inl rfl) (C8.pe_c (cal_Lrun T) hr (by decide) rfl (pa_cons (pv 0) (pa_cons (pv 1) (pa_cons (pv 3) pa_nil))))) <|
      pss_cons (ps_setLc (i := 6) (own := [("_law_pair", 7)]) (g := gName 7) (tt := tYes) (te := tOp (rIxT K) (tVar 7) (tC (.int 0))) (by rfl) sc_isP.nd rfl rfl (sw_true rfl rfl rfl (by decide +kernel)) (pi_list (pe_ix ix_list (pv 5) pe_int (fun _ _ => rfl))) (blkOk_by (N := nIsP) (sc := defScope s_Lis_played) (by decide +kernel)) (fun _ _ _ _ _ => pg_name (i := 7) sc_isP.nd rfl (Or.inl rfl)) (fun _ _ _ _ _ => pts_nil) (fun _ _ _ _ _ => pe_ix ix_tup (pv 7) pe_int (fun _ _ => rfl))) <|
      pss_cons (ps_if (pt_not (pt_val (C8.pe_c (cal_same T) hr (by decide) rfl (pa_cons (C8.pe_c (cal_play T) hr (by decide) rfl (pa_cons (pv 0) (pa_cons (pv 1) (pa_cons (pv 6) pa_nil)))) (pa_cons (pv 5) pa_nil))))) pss_never pss_nil) <|
      pss_cons (ps_if (pt_cmpR (op_neD hr.units) (pv 6) (pe_lc (own := [("_law_pair", 7)]) (g := gName 7) (tt := tYes) (te := tOp (rIxT K) (tVar 7) (tC (.int 0))) (by rfl) sc_isP.nd (pi_list (pe_ix ix_list (pv 5) pe_int (fun _ _ => rfl))) (blkOk_by (N := nIsP) (sc := defScope s_Lis_played) (by decide +kernel)) (fun _ _ _ _ _ => pg_name (i := 7) sc_isP.nd rfl (Or.inl rfl)) (fun _ _ _ _ _ => pts_nil) (fun _ _ _ _ _ => pe_ix ix_tup (pv 7) pe_int (fun _ _ => rfl))) (nomark _)) pss_never pss_nil) <|
      pss_cons (ps_set (i := 8) sc_isP.nd rfl (Or.inl rfl) (pe_op op_cat (pv 6) (pe_lst (pa_cons (pe_op op_sub (pe_op op_sub pe_int pe_int) (C8.pe_c (cal_take T) hr (by decide) rfl (pa_cons (pv 2) (pa_cons pe_int pa_nil)))) (pa_cons (pe_op op_pow pe_int pe_int) pa_nil))))) <|
      pss_cons (ps_if (pt_not (pt_val (C8.pe_c (cal_same T) hr (by decide) rfl (pa_cons (pe_callK0 FP hr rfl mgp kpp KB (C8.pass0 (E := C8.E0)) (pk_cons (pe_callTy call_tuple_of rfl T.f_tuple (by decide +kernel) (pa_cons (pv 8) pa_nil)) (pk_cons (pv 1) (pk_cons (pv 0) pk_nil)))) (pa_cons (pv 5) pa_nil))))) pss_never pss_nil) <|
      pss_cons (ps_set (i := 9) sc_isP.nd rfl (Or.inl rfl) (pe_slice sl_list (pv 6) po_none (po_some (C8.pe_c (cal_take T) hr (by decide) rfl (pa_cons (pv 2) (pa_cons (pe_op op_add (pe_callB call_len_seq rfl T.f_len PySem.boot_len (pa_cons (pv 6) pa_nil)) pe_int) pa_nil)))))) <|
      pss_cons (ps_set (i := 10) sc_isP.nd rfl (Or.inl rfl) (C8.pe_c (cal_Lrun T) hr (by decide) rfl (pa_cons (pv 0) (pa_cons (pv 1) (pa_cons (pv 9) pa_nil))))) <|
      pss_cons (ps_if (pt_not (pt_val (C8.pe_c (cal_same T) hr (by decide) rfl (pa_cons (C8.pe_c (cal_play T) hr (by decide) rfl (pa_cons (pv 0) (pa_cons (pv 1) (pa_cons (pe_callTy call_tuple_of rfl T.f_tuple (by decide +kernel) (pa_cons (pv 9) pa_nil)) pa_nil)))) (pa_cons (pv 10) pa_nil))))) pss_never pss_nil) <|
      pss_cons (ps_if (pt_not (pt_val (C8.pe_c (cal_same T) hr (by decide) rfl (pa_cons (C8.pe_c (cal_play T) hr (by decide) rfl (pa_cons (pv 0) (pa_cons (pv 1) (pa_cons (pv 9) pa_nil)))) (pa_cons (pv 10) pa_nil))))) pss_never pss_nil) <|
      pss_one (ps_ret (C8.pe_c (cal_same T) hr (by decide) rfl (pa_cons (C8.pe_c (cal_play T) hr (by decide) rfl (pa_cons (pv 0) (pa_cons (pv 1) (pa_cons (pv 6) pa_nil)))) (pa_cons (pv 5) pa_nil)))), ?_⟩
    have hall := runG_all (G := G) ok hd
    -- the row
    refine ⟨(30 : Int), rfl, by decide, by decide, fun D hD => ?_⟩
    refine lc_range (lo := 0) (n := ((30 : Int)).toNat) (fun i H' => HandK h H H' ∧ ∃ zs : List Int, H' D = some (.lst (zs.map V.int)) ∧ zs.length = i) ⟨HandK.of ha (same_upd hD), [], upd_same, rfl⟩ ?_ ?_
    · rintro i H' hi ⟨hk, zs, hz, hlz⟩
      have hi' : i < 30 := hi
      refine ⟨rfl, _, rfl, h, 1000003, rfl, by decide, hk.1, fun z H2 z0 z1 k2 => ?_⟩
      have hz2 := k2.2 _ _ hz fun q => by
        obtain ⟨ys, e⟩ := ha.ls
        rw [q, e] at hD
        cases hD
      exact ⟨_, hz2, by rw [List.length_map, hlz]; exact small5 (by omega), (hk.trans k2).put ha hD, zs ++ [z], by rw [upd_same, List.map_append]; rfl, by rw [List.length_append, hlz]; rfl⟩
    rintro H1 ⟨hk1, row, hrow, _⟩
    have tu1 := hk1.tups ha
    have hlen := run_len hall row
    -- what is due
    refine ⟨_, rfl, _, rfl, _, rfl, g, D, bv, b, d, G, row, rfl, hg.tups tu1, ok, BrkAt.tups tu1 _ _ hb, hd, hd9, hrow, fun p dl al H2 s2 hp hdw has => ?_⟩
    have ag := again1 hall row
    have ag2 := again2 hall row
    generalize hres : (runG G b).run (oRem row) 0 = res at hp hdw has hlen ag ag2
    obtain ⟨⟨said, qs⟩, ds⟩ := res
    have hp : H2 p = some (.lst [.int (oneB said), .str (S said), .ref dl, .ref al]) := hp
    have hdw : DwsAt H2 dl ds := hdw
    have has : AskAt H2 al qs := has
    have hlen : ds.length ≤ 4 * d := hlen
    have due : DueAt H2 p said ds qs := ⟨dl, al, hp, hdw, has⟩
    obtain ⟨ts, hL, hP⟩ := id hdw
    have hlt := paired_len hP
    -- the choices
    refine ⟨_, rfl, p, _, _, _, rfl, rfl, SqL.of hp, atI_nat (j := 2) rfl, dl, rfl, ⟨_, SqL.of hL⟩, fun D2 hD2 => ?_⟩
    refine lc_list (K := K) (a := dl) (xs := ts.map V.ref) (fun i H' => Same H2 H' ∧ H' D2 = some (.lst (((ds.map (·.1)).take i).map V.int))) ⟨same_upd hD2, upd_same⟩ (fun i H' _ z => SqL.of (z.1 _ _ hL)) ?_ ?_
    · rintro i x H' hx ⟨s1, hL1⟩
      rw [List.getElem?_map] at hx
      obtain ⟨t, ht, rfl⟩ := Option.map_eq_some_iff.mp hx
      obtain ⟨e, hde, he⟩ := paired_at hP ht
      refine ⟨rfl, _, rfl, t, _, _, _, rfl, rfl, SqT.of (s1 _ _ he), atI_nat (j := 0) rfl, _, hL1, by rw [List.length_map, List.length_take, List.length_map]; exact small5 (by omega), fun b o q => ?_, ?_⟩
      · rw [upd_ne (ne_of_none q hD2)]
        exact s1 _ _ q
      · rw [upd_same, take_snoc (x := e.1) (by rw [List.getElem?_map, hde]; rfl), List.map_append]
        rfl
    rintro H3 ⟨s3, hcs⟩
    rw [List.length_map, hlt, List.take_of_length_le (by rw [List.length_map]; exact Nat.le_refl _)] at hcs
    have hk3 := (hk1.same s2).same s3
    have tu3 := hk3.tups ha
    -- the first play
    have ag0 := ag []
    rw [List.append_nil] at ag0
    have ag0 : (runG G b).ok (oTold (ds.map (·.1))) 0 ∧ (runG G b).run (oTold (ds.map (·.1))) 0 = ((said, qs), ds) := ag0
    obtain ⟨okA, erA⟩ := ag0
    refine ⟨_, rfl, _, rfl, _, rfl, g, D2, bv, b, d, G, ds.map (·.1), rfl, hg.tups tu3, ok, BrkAt.tups tu3 _ _ hb, hd, hd9, hsz, .inl hcs, okA, fun q dq dla ala H4 s4 e4 dw4 as4 => ?_⟩
    rw [erA] at e4 dw4 as4
    have due4 := (due.same s3).same s4
    refine ⟨_, rfl, q, p, said, ds, qs, rfl, ⟨dq, dla, ala, e4, dw4, as4⟩, due4, _, rfl, iteF ?_⟩
    -- the choices again
    obtain ⟨dlx, alx, hp4, hdw4, has4⟩ := id due4
    obtain ⟨ts4, hL4, hP4⟩ := id hdw4
    have hlt4 := paired_len hP4
    refine ⟨_, rfl, _, rfl, p, _, _, _, rfl, rfl, SqL.of hp4, atI_nat (j := 2) rfl, dlx, rfl, ⟨_, SqL.of hL4⟩, fun D3 hD3 => ?_⟩
    refine lc_list (K := K) (a := dlx) (xs := ts4.map V.ref) (fun i H' => Same H4 H' ∧ H' D3 = some (.lst (((ds.map (·.1)).take i).map V.int))) ⟨same_upd hD3, upd_same⟩ (fun i H' _ z => SqL.of (z.1 _ _ hL4)) ?_ ?_
    · rintro i x H' hx ⟨s1, hL1⟩
      rw [List.getElem?_map] at hx
      obtain ⟨t, ht, rfl⟩ := Option.map_eq_some_iff.mp hx
      obtain ⟨e, hde, he⟩ := paired_at hP4 ht
      refine ⟨rfl, _, rfl, t, _, _, _, rfl, rfl, SqT.of (s1 _ _ he), atI_nat (j := 0) rfl, _, hL1, by rw [List.length_map, List.length_take, List.length_map]; exact small5 (by omega), fun b o q => ?_, ?_⟩
      · rw [upd_ne (ne_of_none q hD3)]
        exact s1 _ _ q
      · rw [upd_same, take_snoc (x := e.1) (by rw [List.getElem?_map, hde]; rfl), List.map_append]
        rfl
    rintro H5 ⟨s5, hcs5⟩
    rw [List.length_map, hlt4, List.take_of_length_le (by rw [List.length_map]; exact Nat.le_refl _)] at hcs5
    obtain ⟨w1, w2⟩ := ints_ok (ds.map (·.1))
    have hcsA := s5 _ _ (s4 _ _ hcs)
    refine ⟨_, _, .lst (SqL.of hcsA) (dp_ints _), .lst (SqL.of hcs5) (dp_ints _), w1, w1, _, rfl, ?_⟩
    rw [w2]
    refine iteF ?_
    have hk5 := (hk3.same s4).same s5
    have due5 := due4.same s5
    -- longer
    refine ⟨_, rfl, _, _, rfl, rfl, _, rfl, h, 9, rfl, by decide, hk5.1, fun z H6 z0 z9 k6 => ⟨_, _, rfl, rfl, _, _, rfl, rfl, ⟨by decide, by decide, by decide⟩, by show (2 : Nat) ≤ sizeLine; decide, fun t ht => ?_⟩⟩
    have n2h : D2 ≠ h.hd := fun q => by
      obtain ⟨ys, e⟩ := (hk1.same s2).1.ls
      rw [q, e] at hD2
      cases hD2
    have hk6 := hk5.trans k6
    have due6 := due5.hand hk5.1 k6
    have hcs6 := k6.2 _ _ hcsA n2h
    have s7 : Same H6 (upd H6 t (.lst [.int (0 - 1 - z), .int (10 ^ ((9 : Int)).toNat)])) := same_upd ht
    have ht7 : (upd H6 t (.lst [.int (0 - 1 - z), .int (10 ^ ((9 : Int)).toNat)])) t = some (.lst [.int (0 - 1 - z), .int (10 ^ ((9 : Int)).toNat)]) := upd_same
    have ok7 : ∀ l, (upd H6 t (.lst [.int (0 - 1 - z), .int (10 ^ ((9 : Int)).toNat)])) l = none → Same (upd H6 t (.lst [.int (0 - 1 - z), .int (10 ^ ((9 : Int)).toNat)])) (upd (upd H6 t (.lst [.int (0 - 1 - z), .int (10 ^ ((9 : Int)).toNat)])) l (.lst ((ds.map (·.1)).map V.int ++ [.int (0 - 1 - z), .int (10 ^ ((9 : Int)).toNat)]))) := fun l hl => same_upd hl
    refine ⟨D2, t, _, _, rfl, rfl, s7 _ _ hcs6, ht7, by rw [List.length_map, List.length_map]; exact Nat.le_of_lt (small5 (by show ds.length + 2 ≤ 100000; omega)), fun l hl => ?_⟩
    have s8 := s7.trans (ok7 l hl)
    generalize e8 : upd (upd H6 t _) l _ = H8 at s8 ⊢
    have hl8 : H8 l = some (.lst ((ds.map (·.1) ++ [0 - 1 - z, 10 ^ ((9 : Int)).toNat]).map V.int)) := by rw [← e8, upd_same, List.map_append]; rfl
    have hk8 := hk6.same s8
    have tu8 := hk8.tups ha
    obtain ⟨okB, erB⟩ : (runG G b).ok (oTold (ds.map (·.1) ++ [0 - 1 - z, 10 ^ ((9 : Int)).toNat])) 0 ∧ (runG G b).run (oTold (ds.map (·.1) ++ [0 - 1 - z, 10 ^ ((9 : Int)).toNat])) 0 = ((said, qs), ds) := ag _
    -- the second play
    refine ⟨_, rfl, l, _, rfl, .inl ⟨SqL.of hl8, fun t9 ht9 => ?_⟩⟩
    have s9 : Same H8 (upd H8 t9 (.tup ((ds.map (·.1) ++ [0 - 1 - z, 10 ^ ((9 : Int)).toNat]).map V.int))) := same_upd ht9
    refine ⟨_, rfl, _, rfl, g, t9, bv, b, d, G, _, rfl, (hg.tups tu8).same s9, ok, (BrkAt.tups tu8 _ _ hb).same s9, hd, hd9, hsz, .inr upd_same, okB, fun q dq dla ala H10 s10 e10 dw10 as10 => ?_⟩
    rw [erB] at e10 dw10 as10
    have s810 := s9.trans s10
    have due10 := (due6.same s8).same s810
    refine ⟨_, rfl, q, p, said, ds, qs, rfl, ⟨dq, dla, ala, e10, dw10, as10⟩, due10, _, rfl, iteF ?_⟩
    have hk10 := hk8.same s810
    have hcs10 := s810 _ _ (s8 _ _ hcs6)
    -- a part of them
    refine ⟨_, rfl, _, rfl, _, rfl, D2, _, rfl, .inl (SqL.of hcs10), _, _, rfl, rfl, h, _, rfl, by omega, hk10.1, fun z2 H11 z20 z2m k11 => ?_⟩
    have hk11 := hk10.trans k11
    have due11 := due10.hand hk10.1 k11
    have hcs11 := k11.2 _ _ hcs10 n2h
    refine ⟨_, rfl, D2, _, rfl, SqL.of hcs11, fun D4 hD4 => ?_⟩
    rw [cut_ints _ _ z20]
    have s12 : Same H11 (upd H11 D4 (.lst (((ds.map (·.1)).take z2.toNat).map V.int))) := same_upd hD4
    have hD12 : (upd H11 D4 (.lst (((ds.map (·.1)).take z2.toNat).map V.int))) D4 = some (.lst (((ds.map (·.1)).take z2.toNat).map V.int)) := upd_same
    generalize upd H11 D4 _ = H12 at s12 hD12 ⊢
    have hk12 := hk11.same s12
    have tu12 := hk12.tups ha
    refine ⟨_, rfl, _, rfl, _, rfl, g, D4, bv, b, d, G, _, rfl, hg.tups tu12, ok, BrkAt.tups tu12 _ _ hb, hd, hd9, hD12, fun p2 dl2 al2 H13 s13 hp13 hdw13 has13 => ?_⟩
    obtain ⟨okC, erC⟩ : (runG G b).ok (oTold ((ds.map (·.1)).take z2.toNat)) 0 ∧ (runG G b).run (oTold ((ds.map (·.1)).take z2.toNat)) 0 = (runG G b).run (oRem ((ds.map (·.1)).take z2.toNat)) 0 := ag2 z2.toNat
    generalize hres2 : (runG G b).run (oRem ((ds.map (·.1)).take z2.toNat)) 0 = res2 at hp13 hdw13 has13 erC
    obtain ⟨⟨said2, qs2⟩, ds2⟩ := res2
    have due13 : DueAt H13 p2 said2 ds2 qs2 := ⟨dl2, al2, hp13, hdw13, has13⟩
    have hk13 := hk12.same s13
    have tu13 := hk13.tups ha
    have hD13 := s13 _ _ hD12
    -- the third play
    refine ⟨_, rfl, _, rfl, _, rfl, D4, _, rfl, .inl ⟨SqL.of hD13, fun t14 ht14 => ?_⟩⟩
    have s14 : Same H13 (upd H13 t14 (.tup (((ds.map (·.1)).take z2.toNat).map V.int))) := same_upd ht14
    refine ⟨g, t14, bv, b, d, G, _, rfl, (hg.tups tu13).same s14, ok, (BrkAt.tups tu13 _ _ hb).same s14, hd, hd9, hsz, .inr upd_same, okC, fun q2 dq2 dla2 ala2 H15 s15 e15 dw15 as15 => ?_⟩
    rw [erC] at e15 dw15 as15
    have s1315 := s14.trans s15
    have due15 := due13.same s1315
    refine ⟨_, rfl, q2, p2, said2, ds2, qs2, rfl, ⟨dq2, dla2, ala2, e15, dw15, as15⟩, due15, _, rfl, iteF ?_⟩
    have hk15 := hk13.same s1315
    have tu15 := hk15.tups ha
    -- the fourth
    refine ⟨_, rfl, _, rfl, _, rfl, g, D4, bv, b, d, G, _, rfl, hg.tups tu15, ok, BrkAt.tups tu15 _ _ hb, hd, hd9, hsz, .inl (s1315 _ _ hD13), okC, fun q3 dq3 dla3 ala3 H16 s16 e16 dw16 as16 => ?_⟩
    rw [erC] at e16 dw16 as16
    refine ⟨_, rfl, q3, p2, said2, ds2, qs2, rfl, ⟨dq3, dla3, ala3, e16, dw16, as16⟩, due15.same s16, _, rfl, iteF ?_⟩
    have hk16 := hk15.same s16
    have tu16 := hk16.tups ha
    have s11_16 := ((s12.trans s13).trans s1315).trans s16
    -- the fifth
    refine ⟨_, rfl, _, rfl, _, rfl, g, D2, bv, b, d, G, ds.map (·.1), rfl, hg.tups tu16, ok, BrkAt.tups tu16 _ _ hb, hd, hd9, hsz, .inl (s11_16 _ _ hcs11), okA, fun q4 dq4 dla4 ala4 H17 s17 e17 dw17 as17 => ?_⟩
    rw [erA] at e17 dw17 as17
    exact ⟨_, rfl, q4, p, said, ds, qs, rfl, ⟨dq4, dla4, ala4, e17, dw17, as17⟩, (due11.same s11_16).same s17, k _ (hk16.same s17)⟩
end
end Bb
namespace Bb
open PySem PySem.Spec PyProof PyProof.Rows L2
theorem deep_pos : ∀ (b : Brk) (d : Nat), Deep b d → 1 ≤ d
  | .say _, _, h => h.2
  | .toss _ _, _, h => h.2.2.1
  | .look _ _ _, _, h => h.2.1
  | .ask _ _, _, h => h.2.1
section
variable {P : Program} {w : World} {K : PySem.W.Frag} {mg : Str → Option Value} {base : Heap}
/-! ## far -/
def spFar : Sp := fun vs H Q _ => ∃ (h : Hand) (bv : V) (b : Brk) (d : Nat), vs = [.ref h.hd, bv] ∧ HandAt H h ∧ BrkAt H b bv ∧ Deep b d ∧
  ∀ (v : V) (b' : Brk) H', BrkAt H' b' v → Deep b' (d + 1) → size b' ≤ size b + 2 → HandK h H H' → Q v H'
theorem sc_far : FnScope ["_law_hand", "_law_breaker_here"] ["_law_hand", "_law_breaker_here"] (defScope s_Lfar) := C8.fnScope_by (by decide +kernel)
theorem cal_far (T : Tx K mg w) : C8.Cal P w K mg base 2 "_law_far" spFar [] := by
  refine T.d_Lfar.cal sc_far (fun vs H Q E h => ?_) fun f cdv A outer s H vs Q E hr h => ?_
  · obtain ⟨h, bv, b, d, rfl, _⟩ := h
    rfl
  · obtain ⟨h, bv, b, d, rfl, ha, hb, hd, k⟩ := h
    refine ⟨_, pss_one (ps_ret (pe_tup (pa_cons pe_str (pa_cons (pe_op op_add pe_int (C8.pe_c (cal_take T) hr (by decide) rfl (pa_cons (pv 0) (pa_cons pe_int pa_nil)))) (pa_cons (pv 1) (pa_cons
      (pe_tup (pa_cons pe_str (pa_cons (pe_tup (pa_cons (pe_op op_add pe_int (C8.pe_c (cal_take T) hr (by decide) rfl (pa_cons (pv 0) (pa_cons pe_int pa_nil)))) pa_nil)) pa_nil))) pa_nil)))))), ?_⟩
    refine ⟨_, rfl, h, 16, rfl, by decide, ha, fun x H1 x0 x1 k1 => ⟨_, _, rfl, rfl, _, rfl, _, rfl, h, 16, rfl, by decide, k1.1, fun y H2 y0 y1 k2 => ⟨_, _, rfl, rfl, by show (1 : Nat) ≤ sizeLine; decide, fun t ht => ?_⟩⟩⟩
    refine ⟨by show (2 : Nat) ≤ sizeLine; decide, fun a ha2 => ⟨by show (4 : Nat) ≤ sizeLine; decide, fun p hp => ?_⟩⟩
    obtain ⟨m, rfl⟩ : ∃ m : Nat, x = (m : Int) := ⟨x.toNat, (Int.toNat_of_nonneg x0).symm⟩
    obtain ⟨n, rfl⟩ : ∃ n : Nat, y = (n : Int) := ⟨y.toNat, (Int.toNat_of_nonneg y0).symm⟩
    have e1 : (9 : Int) + (m : Int) = ((9 + m : Nat) : Int) := by omega
    have e2 : (9 : Int) + (n : Int) = ((9 + n : Nat) : Int) := by omega
    have g1 : Same H2 (upd H2 t (.tup [.int (9 + (n : Int))])) := same_upd ht
    have g2 : (upd H2 t (.tup [.int (9 + (n : Int))])) t = some (.tup [.int (9 + (n : Int))]) := upd_same
    generalize upd H2 t (.tup [.int (9 + (n : Int))]) = H3 at g1 g2 ha2 hp ⊢
    have g3 : Same H3 (upd H3 a (.tup [.str "say", .ref t])) := same_upd ha2
    have g4 : (upd H3 a (.tup [.str "say", .ref t])) a = some (.tup [.str "say", .ref t]) := upd_same
    generalize upd H3 a (.tup [.str "say", .ref t]) = H4 at g3 g4 hp ⊢
    have g5 : Same H4 (upd H4 p (.tup [.str "look", .int (9 + (m : Int)), bv, .ref a])) := same_upd hp
    have k12 := k1.trans k2
    have hd1 := deep_pos b d hd
    refine k (.ref p) (.look (9 + m) b (.say [.inr (9 + n)])) _ ⟨p, bv, .ref a, rfl, ?_, BrkAt.tups (((k12.tups ha).trans (Tups.same g1)).trans ((Tups.same g3).trans (Tups.same g5))) _ _ hb, a, t, rfl, g5 _ _ g4, ?_⟩ ⟨by omega, by omega, hd, ⟨by show 1 ≤ 8; decide, fun q hq => ?_⟩, hd1⟩ (by show 1 + size b + 1 ≤ size b + 2; omega) (((k12.same g1).same g3).same g5)
    · exact upd_same.trans (congrArg (fun q : Int => some (HO.tup [V.str "look", V.int q, bv, V.ref a])) e1)
    · have e := g5 _ _ (g3 _ _ g2)
      rw [e2] at e
      exact e
    · have e := Sum.inr.inj (List.mem_singleton.mp hq)
      omega
/-! ## asked -/
def spAsked : Sp := fun vs H Q _ => ∃ h : Hand, vs = [.ref h.hd] ∧ HandAt H h ∧ ∀ H', Q (.bl true) H'
abbrev nAsked : List Str := ["_law_hand", "_law_l", "_law_breaker_here", "_law_string", "_law_k", "_law_h"]
theorem sc_asked : FnScope nAsked ["_law_hand"] (defScope s_Lasked) := C8.fnScope_by (by decide +kernel)
theorem cal_asked (T : Tx K mg w) : C8.Cal P w K mg base 11 "_law_asked" spAsked [] := by
  refine T.d_Lasked.cal sc_asked (fun vs H Q E h => ?_) fun f cdv A outer s H vs Q E hr h => ?_
  · obtain ⟨h, rfl, _⟩ := h
    rfl
  · obtain ⟨h, rfl, ha, k⟩ := h
    have CB : C8.Cal P w K mg base 6 "_law_breaker" (spBrk 3) [] := cal_brk T 3
    refine ⟨_, pss_cons (ps_set (i := 1) sc_asked.nd rfl (Or.inl rfl) (pe_op op_add pe_int (C8.pe_c (cal_take T) hr (by decide) rfl (pa_cons (pv 0) (pa_cons pe_int pa_nil))))) <|
      pss_cons (ps_set (i := 2) sc_asked.nd rfl (Or.inl rfl) (C8.pe_c CB hr (by decide) rfl (pa_cons (pv 0) (pa_cons pe_int (pa_cons pe_int (pa_cons (pv 1) (pa_cons pe_int pa_nil))))))) <|
      pss_cons (ps_set (i := 3) sc_asked.nd rfl (Or.inl rfl) (pe_callTy call_tuple_of rfl T.f_tuple (by decide +kernel) (pa_cons (pe_lc (own := [("_law_k", 4)]) (g := gName 4) (tt := tYes) (te := tOp (rIxL K) (tLst (tCons (tC (.str "0")) (tCons (tC (.str "1")) tNil))) (tCall spTake [] C8.E0 (tCons (tVar 0) (tCons (tC (.int 2)) tNil)))) rfl sc_asked.nd (pi_range1 rfl T.f_range (pa_cons (pv 1) pa_nil)) (blkOk_by (N := nAsked) (sc := defScope s_Lasked) (by decide +kernel)) (fun _ _ _ _ _ => pg_name (i := 4) sc_asked.nd rfl (Or.inl rfl)) (fun _ _ _ _ _ => pts_nil) (fun _ _ _ _ _ => pe_ix ix_list (pe_lst (pa_cons pe_str (pa_cons pe_str pa_nil))) (C8.pe_c (cal_take T) hr (by decide) rfl (pa_cons (pv 0) (pa_cons pe_int pa_nil))) (fun _ _ => rfl))) pa_nil))) <|
      pss_cons (ps_if (pt_cmpR op_eq (C8.pe_c (cal_take T) hr (by decide) rfl (pa_cons (pv 0) (pa_cons pe_int pa_nil))) pe_int (nomark _)) (pss_one (ps_set (i := 2) sc_asked.nd rfl (Or.inl rfl) (pe_tup (pa_cons pe_str (pa_cons (pv 3) (pa_cons (pe_tup (pa_cons pe_str (pa_cons (C8.pe_c (cal_Lparts T) hr (by decide) rfl (pa_cons (pv 0) (pa_cons (pv 1) pa_nil))) (pa_cons
        (pe_tup (pa_cons pe_str (pa_cons (pv 3) (pa_cons (C8.pe_c (cal_far T) hr (by decide) rfl (pa_cons (pv 0) (pa_cons (pv 2) pa_nil))) pa_nil)))) pa_nil)))) pa_nil)))))) pss_nil) <|
      pss_cons (ps_if (pt_not (pt_val (C8.pe_c (cal_isP T) hr (by decide) rfl (pa_cons (pe_tup (pa_cons pe_str (pa_cons (pv 1) pa_nil))) (pa_cons (pv 2) (pa_cons (pv 0) pa_nil)))))) pss_never pss_nil) <|
      pss_cons (ps_set (i := 5) sc_asked.nd rfl (Or.inl rfl) (pe_op op_add pe_int (C8.pe_c (cal_take T) hr (by decide) rfl (pa_cons (pv 0) (pa_cons pe_int pa_nil))))) <|
      pss_cons (ps_set (i := 2) sc_asked.nd rfl (Or.inl rfl) (C8.pe_c CB hr (by decide) rfl (pa_cons (pv 0) (pa_cons pe_int (pa_cons pe_int (pa_cons (pe_op op_mul pe_int (pv 5)) (pa_cons pe_int pa_nil))))))) <|
      pss_cons (ps_set (i := 3) sc_asked.nd rfl (Or.inl rfl) (pe_callTy call_tuple_of rfl T.f_tuple (by decide +kernel) (pa_cons (pe_lc (own := [("_law_k", 4)]) (g := gName 4) (tt := tYes) (te := tOp (rIxL K) (tLst (tCons (tC (.str "0")) (tCons (tC (.str "1")) tNil))) (tCall spTake [] C8.E0 (tCons (tVar 0) (tCons (tC (.int 2)) tNil)))) rfl sc_asked.nd (pi_range1 rfl T.f_range (pa_cons (pe_op op_mul pe_int (pv 5)) pa_nil)) (blkOk_by (N := nAsked) (sc := defScope s_Lasked) (by decide +kernel)) (fun _ _ _ _ _ => pg_name (i := 4) sc_asked.nd rfl (Or.inl rfl)) (fun _ _ _ _ _ => pts_nil) (fun _ _ _ _ _ => pe_ix ix_list (pe_lst (pa_cons pe_str (pa_cons pe_str pa_nil))) (C8.pe_c (cal_take T) hr (by decide) rfl (pa_cons (pv 0) (pa_cons pe_int pa_nil))) (fun _ _ => rfl))) pa_nil))) <|
      pss_cons (ps_if (pt_cmpR op_eq (C8.pe_c (cal_take T) hr (by decide) rfl (pa_cons (pv 0) (pa_cons pe_int pa_nil))) pe_int (nomark _)) (pss_one (ps_set (i := 2) sc_asked.nd rfl (Or.inl rfl) (pe_tup (pa_cons pe_str (pa_cons (pv 3) (pa_cons (pe_tup (pa_cons pe_str (pa_cons (C8.pe_c (cal_Lparts T) hr (by decide) rfl (pa_cons (pv 0) (pa_cons (pe_op op_mul pe_int (pv 5)) pa_nil))) (pa_cons
        (pe_tup (pa_cons pe_str (pa_cons (pv 3) (pa_cons (C8.pe_c (cal_far T) hr (by decide) rfl (pa_cons (pv 0) (pa_cons (pv 2) pa_nil))) pa_nil)))) pa_nil)))) pa_nil)))))) pss_nil) <|
      pss_one (ps_ret (C8.pe_c (cal_isP T) hr (by decide) rfl (pa_cons (pe_tup (pa_cons pe_str (pa_cons (pv 5) (pa_cons (pe_op op_add pe_int (C8.pe_c (cal_take T) hr (by decide) rfl (pa_cons (pv 0) (pa_cons pe_int pa_nil)))) pa_nil)))) (pa_cons (pv 2) (pa_cons (pv 0) pa_nil))))), ?_⟩
    refine ⟨_, rfl, h, 3, rfl, by decide, ha, fun x H1 x0 x3 k1 => ⟨_, _, rfl, rfl, ?_⟩⟩
    obtain ⟨m, rfl⟩ : ∃ n : Nat, x = (n : Int) := ⟨x.toNat, (Int.toNat_of_nonneg x0).symm⟩
    have hm : (1 : Int) + (m : Int) = ((1 + m : Nat) : Int) := by omega
    refine ⟨_, rfl, _, rfl, h, 3, (1 + m), 1, congrArg (fun q : Int => [V.ref h.hd, V.int 3, V.int 3, V.int q, V.int 1]) hm, by omega, by decide, k1.1, fun vP bP HaP hbP hdP hzP kaP => ?_⟩
    have kAP := k1.trans kaP
    refine ⟨_, rfl, _, rfl, by omega, by omega, fun DP hDP => ?_⟩
    refine lc_range (lo := 0) (n := (1 + (m : Int)).toNat) (fun i H' => HandK h HaP H' ∧ ∃ bs : Bs, H' DP = some (.lst ((bs.map Sum.inl : List Part).map partV)) ∧ bs.length = i) ⟨HandK.of kAP.1 (same_upd hDP), [], upd_same, rfl⟩ ?_ ?_
    · rintro i H' hi ⟨hk, bs, hbs, hlb⟩
      have hi' : i < 8 := by omega
      refine ⟨rfl, by show (2 : Nat) ≤ sizeLine; decide, fun t ht => ?_⟩
      have s1 : Same H' (upd H' t (.lst [.str "0", .str "1"])) := same_upd ht
      have g1 : (upd H' t (.lst [.str "0", .str "1"])) t = some (.lst [.str "0", .str "1"]) := upd_same
      generalize upd H' t (.lst [.str "0", .str "1"]) = H1' at s1 g1 ⊢
      have nt : t ≠ h.hd := fun q => by
        obtain ⟨ys, e⟩ := hk.1.ls
        rw [q, e] at ht
        cases ht
      refine ⟨_, rfl, h, 2, rfl, by decide, hk.1.same s1, fun z H2' z0 z2 k2 => ⟨t, _, z, .str (S [decide (z = 1)]), rfl, rfl, SqL.of (k2.2 _ _ g1 nt), two_at z0 z2, ?_⟩⟩
      have nD : DP ≠ h.hd := fun q => by
        obtain ⟨ys, e⟩ := kAP.1.ls
        rw [q, e] at hDP
        cases hDP
      refine ⟨_, k2.2 _ _ (s1 _ _ hbs) nD, by rw [List.length_map, List.length_map, hlb]; exact small5 (by omega), HandK.put kAP.1 ((hk.same s1).trans k2) hDP, bs ++ [decide (z = 1)], ?_, by rw [List.length_append, hlb]; rfl⟩
      rw [upd_same, List.map_append, List.map_append]
      rfl
    rintro HbP ⟨kbP, bsP, hbsP, hlbP⟩
    refine ⟨DP, _, rfl, .inl ⟨SqL.of hbsP, fun tsP htsP => ?_⟩⟩
    have sCP : Same HbP (upd HbP tsP (.tup ((bsP.map Sum.inl : List Part).map partV))) := same_upd htsP
    have gCP : (upd HbP tsP (.tup ((bsP.map Sum.inl : List Part).map partV))) tsP = some (.tup ((bsP.map Sum.inl : List Part).map partV)) := upd_same
    generalize upd HbP tsP (.tup ((bsP.map Sum.inl : List Part).map partV)) = HcP at sCP gCP ⊢
    have kcP : HandK h HaP HcP := kbP.same sCP
    have kCP := kAP.trans kcP
    refine ⟨_, rfl, h, 2, rfl, by decide, kCP.1, fun zP HdP z0 z2 kdP => ⟨rfl, _, rfl, ?_⟩⟩
    have kDP := kCP.trans kdP
    have hbDP : BrkAt HdP bP vP := BrkAt.tups ((kcP.trans kdP).tups kAP.1) _ _ hbP
    have gDP : HdP tsP = some (.tup ((bsP.map Sum.inl : List Part).map partV)) := kdP.tups kCP.1 _ _ gCP
    have okSP : PartsOk (bsP.map Sum.inl) := by
      refine ⟨by rw [List.length_map]; omega, fun q hq => ?_⟩
      obtain ⟨y, _, e⟩ := List.mem_map.mp hq
      cases e
    have hz40P : size bP ≤ 40 := hzP
    refine ite2 (fun cP => ?_) (fun cP => ?_)
    · refine ⟨_, rfl, _, rfl, _, rfl, h, (1 + m), congrArg (fun q : Int => [V.ref h.hd, V.int q]) hm, by omega, kDP.1, fun tpP psP HeP epP okpP keP => ?_⟩
      refine ⟨_, rfl, _, rfl, _, rfl, h, vP, bP, 4, rfl, keP.1, BrkAt.tups (keP.tups kDP.1) _ _ hbDP, hdP, fun wP bfP HfP hfP hdfP hzfP kfP => ?_⟩
      have gFP := (keP.trans kfP).tups kDP.1 _ _ gDP
      have pFP := kfP.tups keP.1 _ _ epP
      refine ⟨by show (3 : Nat) ≤ sizeLine; decide, fun a1 ha1 => ⟨by show (3 : Nat) ≤ sizeLine; decide, fun a2 ha2 => ⟨by show (3 : Nat) ≤ sizeLine; decide, fun a3 ha3 => ?_⟩⟩⟩
      have q1 : Same HfP (upd HfP a1 (.tup [.str "ask", .ref tsP, wP])) := same_upd ha1
      have r1 : (upd HfP a1 (.tup [.str "ask", .ref tsP, wP])) a1 = some (.tup [.str "ask", .ref tsP, wP]) := upd_same
      generalize upd HfP a1 (.tup [.str "ask", .ref tsP, wP]) = HgP at q1 r1 ha2 ha3 ⊢
      have q2 : Same HgP (upd HgP a2 (.tup [.str "ask", .ref tpP, .ref a1])) := same_upd ha2
      have r2 : (upd HgP a2 (.tup [.str "ask", .ref tpP, .ref a1])) a2 = some (.tup [.str "ask", .ref tpP, .ref a1]) := upd_same
      generalize upd HgP a2 (.tup [.str "ask", .ref tpP, .ref a1]) = HhP at q2 r2 ha3 ⊢
      have q3 : Same HhP (upd HhP a3 (.tup [.str "ask", .ref tsP, .ref a2])) := same_upd ha3
      have r3 : (upd HhP a3 (.tup [.str "ask", .ref tsP, .ref a2])) a3 = some (.tup [.str "ask", .ref tsP, .ref a2]) := upd_same
      generalize upd HhP a3 (.tup [.str "ask", .ref tsP, .ref a2]) = HiP at q3 r3 ⊢
      have q13 := (q1.trans q2).trans q3
      have BBP : BrkAt HiP (.ask (bsP.map Sum.inl) (.ask psP (.ask (bsP.map Sum.inl) bfP))) (.ref a3) := ⟨a3, tsP, _, rfl, r3, q13 _ _ gFP, a2, tpP, _, rfl, q3 _ _ r2, q13 _ _ pFP, a1, tsP, _, rfl, q3 _ _ (q2 _ _ r1), q13 _ _ gFP, hfP.same q13⟩
      have DDP : Deep (.ask (bsP.map Sum.inl) (.ask psP (.ask (bsP.map Sum.inl) bfP))) 8 := ⟨okSP, by decide, okpP, by decide, okSP, by decide, hdfP⟩
      have ZZP : size (.ask (bsP.map Sum.inl) (.ask psP (.ask (bsP.map Sum.inl) bfP))) ≤ 2000 := by show 1 + (1 + (1 + size bfP)) ≤ 2000; omega
      have KKP : HandK h H HiP := ((kDP.trans keP).trans kfP).same q13
      refine ⟨_, rfl, by show (2 : Nat) ≤ sizeLine; decide, fun g hg => ?_⟩
      have sg : Same _ (upd _ g (.tup [.str "permutation", .int (1 + (m : Int))])) := same_upd hg
      refine ⟨_, rfl, _, rfl, g, _, h, _, 8, .perm (1 + m), rfl, upd_same.trans (congrArg (fun q : Int => some (HO.tup [V.str "permutation", V.int q])) hm), ⟨by omega, by omega⟩, BBP.same sg, DDP, by decide, ZZP, KKP.1.same sg, fun Hm km => ⟨_, rfl, iteF ?_⟩⟩
      have kM := (KKP.same sg).trans km
      refine ⟨_, rfl, h, 2, rfl, by decide, kM.1, fun y Hn y0 y2 kn => ⟨_, _, rfl, rfl, ?_⟩⟩
      obtain ⟨m2, rfl⟩ : ∃ n : Nat, y = (n : Int) := ⟨y.toNat, (Int.toNat_of_nonneg y0).symm⟩
      have hm2 : (1 : Int) + (m2 : Int) = ((1 + m2 : Nat) : Int) := by omega
      have hL2 : (2 : Int) * (1 + (m2 : Int)) = ((2 * (1 + m2) : Nat) : Int) := by omega
      have kN := kM.trans kn
      refine ⟨_, rfl, _, rfl, _, _, rfl, rfl, .inl ⟨by decide, by decide⟩, h, 3, (2 * (1 + m2)), 1, congrArg (fun q : Int => [V.ref h.hd, V.int 3, V.int 3, V.int q, V.int 1]) hL2, by omega, by decide, kN.1, fun vS bS HaS hbS hdS hzS kaS => ?_⟩
      have kAS := kN.trans kaS
      refine ⟨_, rfl, _, _, rfl, rfl, .inl ⟨by decide, by decide⟩, _, rfl, by omega, by omega, fun DS hDS => ?_⟩
      refine lc_range (lo := 0) (n := (2 * (1 + (m2 : Int))).toNat) (fun i H' => HandK h HaS H' ∧ ∃ bs : Bs, H' DS = some (.lst ((bs.map Sum.inl : List Part).map partV)) ∧ bs.length = i) ⟨HandK.of kAS.1 (same_upd hDS), [], upd_same, rfl⟩ ?_ ?_
      · rintro i H' hi ⟨hk, bs, hbs, hlb⟩
        have hi' : i < 8 := by omega
        refine ⟨rfl, by show (2 : Nat) ≤ sizeLine; decide, fun t ht => ?_⟩
        have s1 : Same H' (upd H' t (.lst [.str "0", .str "1"])) := same_upd ht
        have g1 : (upd H' t (.lst [.str "0", .str "1"])) t = some (.lst [.str "0", .str "1"]) := upd_same
        generalize upd H' t (.lst [.str "0", .str "1"]) = H1' at s1 g1 ⊢
        have nt : t ≠ h.hd := fun q => by
          obtain ⟨ys, e⟩ := hk.1.ls
          rw [q, e] at ht
          cases ht
        refine ⟨_, rfl, h, 2, rfl, by decide, hk.1.same s1, fun z H2' z0 z2 k2 => ⟨t, _, z, .str (S [decide (z = 1)]), rfl, rfl, SqL.of (k2.2 _ _ g1 nt), two_at z0 z2, ?_⟩⟩
        have nD : DS ≠ h.hd := fun q => by
          obtain ⟨ys, e⟩ := kAS.1.ls
          rw [q, e] at hDS
          cases hDS
        refine ⟨_, k2.2 _ _ (s1 _ _ hbs) nD, by rw [List.length_map, List.length_map, hlb]; exact small5 (by omega), HandK.put kAS.1 ((hk.same s1).trans k2) hDS, bs ++ [decide (z = 1)], ?_, by rw [List.length_append, hlb]; rfl⟩
        rw [upd_same, List.map_append, List.map_append]
        rfl
      rintro HbS ⟨kbS, bsS, hbsS, hlbS⟩
      refine ⟨DS, _, rfl, .inl ⟨SqL.of hbsS, fun tsS htsS => ?_⟩⟩
      have sCS : Same HbS (upd HbS tsS (.tup ((bsS.map Sum.inl : List Part).map partV))) := same_upd htsS
      have gCS : (upd HbS tsS (.tup ((bsS.map Sum.inl : List Part).map partV))) tsS = some (.tup ((bsS.map Sum.inl : List Part).map partV)) := upd_same
      generalize upd HbS tsS (.tup ((bsS.map Sum.inl : List Part).map partV)) = HcS at sCS gCS ⊢
      have kcS : HandK h HaS HcS := kbS.same sCS
      have kCS := kAS.trans kcS
      refine ⟨_, rfl, h, 2, rfl, by decide, kCS.1, fun zS HdS z0 z2 kdS => ⟨rfl, _, rfl, ?_⟩⟩
      have kDS := kCS.trans kdS
      have hbDS : BrkAt HdS bS vS := BrkAt.tups ((kcS.trans kdS).tups kAS.1) _ _ hbS
      have gDS : HdS tsS = some (.tup ((bsS.map Sum.inl : List Part).map partV)) := kdS.tups kCS.1 _ _ gCS
      have okSS : PartsOk (bsS.map Sum.inl) := by
        refine ⟨by rw [List.length_map]; omega, fun q hq => ?_⟩
        obtain ⟨y, _, e⟩ := List.mem_map.mp hq
        cases e
      have hz40S : size bS ≤ 40 := hzS
      refine ite2 (fun cS => ?_) (fun cS => ?_)
      · refine ⟨_, rfl, _, rfl, _, rfl, _, _, rfl, rfl, .inl ⟨by decide, by decide⟩, h, (2 * (1 + m2)), congrArg (fun q : Int => [V.ref h.hd, V.int q]) hL2, by omega, kDS.1, fun tpS psS HeS epS okpS keS => ?_⟩
        refine ⟨_, rfl, _, rfl, _, rfl, h, vS, bS, 4, rfl, keS.1, BrkAt.tups (keS.tups kDS.1) _ _ hbDS, hdS, fun wS bfS HfS hfS hdfS hzfS kfS => ?_⟩
        have gFS := (keS.trans kfS).tups kDS.1 _ _ gDS
        have pFS := kfS.tups keS.1 _ _ epS
        refine ⟨by show (3 : Nat) ≤ sizeLine; decide, fun a1 ha1 => ⟨by show (3 : Nat) ≤ sizeLine; decide, fun a2 ha2 => ⟨by show (3 : Nat) ≤ sizeLine; decide, fun a3 ha3 => ?_⟩⟩⟩
        have q1 : Same HfS (upd HfS a1 (.tup [.str "ask", .ref tsS, wS])) := same_upd ha1
        have r1 : (upd HfS a1 (.tup [.str "ask", .ref tsS, wS])) a1 = some (.tup [.str "ask", .ref tsS, wS]) := upd_same
        generalize upd HfS a1 (.tup [.str "ask", .ref tsS, wS]) = HgS at q1 r1 ha2 ha3 ⊢
        have q2 : Same HgS (upd HgS a2 (.tup [.str "ask", .ref tpS, .ref a1])) := same_upd ha2
        have r2 : (upd HgS a2 (.tup [.str "ask", .ref tpS, .ref a1])) a2 = some (.tup [.str "ask", .ref tpS, .ref a1]) := upd_same
        generalize upd HgS a2 (.tup [.str "ask", .ref tpS, .ref a1]) = HhS at q2 r2 ha3 ⊢
        have q3 : Same HhS (upd HhS a3 (.tup [.str "ask", .ref tsS, .ref a2])) := same_upd ha3
        have r3 : (upd HhS a3 (.tup [.str "ask", .ref tsS, .ref a2])) a3 = some (.tup [.str "ask", .ref tsS, .ref a2]) := upd_same
        generalize upd HhS a3 (.tup [.str "ask", .ref tsS, .ref a2]) = HiS at q3 r3 ⊢
        have q13 := (q1.trans q2).trans q3
        have BBS : BrkAt HiS (.ask (bsS.map Sum.inl) (.ask psS (.ask (bsS.map Sum.inl) bfS))) (.ref a3) := ⟨a3, tsS, _, rfl, r3, q13 _ _ gFS, a2, tpS, _, rfl, q3 _ _ r2, q13 _ _ pFS, a1, tsS, _, rfl, q3 _ _ (q2 _ _ r1), q13 _ _ gFS, hfS.same q13⟩
        have DDS : Deep (.ask (bsS.map Sum.inl) (.ask psS (.ask (bsS.map Sum.inl) bfS))) 8 := ⟨okSS, by decide, okpS, by decide, okSS, by decide, hdfS⟩
        have ZZS : size (.ask (bsS.map Sum.inl) (.ask psS (.ask (bsS.map Sum.inl) bfS))) ≤ 2000 := by show 1 + (1 + (1 + size bfS)) ≤ 2000; omega
        have KKS : HandK h H HiS := ((kDS.trans keS).trans kfS).same q13
        refine ⟨_, rfl, _, rfl, h, 4, rfl, by decide, KKS.1, fun r Hr r0 r4 kr => ⟨_, _, rfl, rfl, by show (3 : Nat) ≤ sizeLine; decide, fun g hg => ?_⟩⟩
        obtain ⟨m3, rfl⟩ : ∃ n : Nat, r = (n : Int) := ⟨r.toNat, (Int.toNat_of_nonneg r0).symm⟩
        have hm3 : (1 : Int) + (m3 : Int) = ((1 + m3 : Nat) : Int) := by omega
        have sg : Same Hr (upd Hr g (.tup [.str "swaps", .int (1 + (m2 : Int)), .int (1 + (m3 : Int))])) := same_upd hg
        refine ⟨_, rfl, _, rfl, g, _, h, _, 8, .swaps (1 + m2) (1 + m3), rfl, ?_, ⟨by omega, by omega, by omega, by omega⟩, (BrkAt.tups (kr.tups KKS.1) _ _ BBS).same sg, DDS, by decide, ZZS, kr.1.same sg, fun H' _ => k H'⟩
        have e9 : some (HO.tup [V.str "swaps", V.int (1 + (m2 : Int)), V.int (1 + (m3 : Int))]) = some (HO.tup [V.str "swaps", V.int ((1 + m2 : Nat) : Int), V.int ((1 + m3 : Nat) : Int)]) := by rw [hm2, hm3]
        exact upd_same.trans e9
      · have DDS : Deep bS 8 := deep_mono bS 4 8 hdS (by decide)
        have ZZS : size bS ≤ 2000 := by omega
        refine ⟨_, rfl, _, rfl, h, 4, rfl, by decide, kDS.1, fun r Hr r0 r4 kr => ⟨_, _, rfl, rfl, by show (3 : Nat) ≤ sizeLine; decide, fun g hg => ?_⟩⟩
        obtain ⟨m3, rfl⟩ : ∃ n : Nat, r = (n : Int) := ⟨r.toNat, (Int.toNat_of_nonneg r0).symm⟩
        have hm3 : (1 : Int) + (m3 : Int) = ((1 + m3 : Nat) : Int) := by omega
        have sg : Same Hr (upd Hr g (.tup [.str "swaps", .int (1 + (m2 : Int)), .int (1 + (m3 : Int))])) := same_upd hg
        refine ⟨_, rfl, _, rfl, g, _, h, _, 8, .swaps (1 + m2) (1 + m3), rfl, ?_, ⟨by omega, by omega, by omega, by omega⟩, (BrkAt.tups (kr.tups kDS.1) _ _ hbDS).same sg, DDS, by decide, ZZS, kr.1.same sg, fun H' _ => k H'⟩
        have e9 : some (HO.tup [V.str "swaps", V.int (1 + (m2 : Int)), V.int (1 + (m3 : Int))]) = some (HO.tup [V.str "swaps", V.int ((1 + m2 : Nat) : Int), V.int ((1 + m3 : Nat) : Int)]) := by rw [hm2, hm3]
        exact upd_same.trans e9
    · have DDP : Deep bP 8 := deep_mono bP 4 8 hdP (by decide)
      have ZZP : size bP ≤ 2000 := by omega
      refine ⟨_, rfl, by show (2 : Nat) ≤ sizeLine; decide, fun g hg => ?_⟩
      have sg : Same _ (upd _ g (.tup [.str "permutation", .int (1 + (m : Int))])) := same_upd hg
      refine ⟨_, rfl, _, rfl, g, _, h, _, 8, .perm (1 + m), rfl, upd_same.trans (congrArg (fun q : Int => some (HO.tup [V.str "permutation", V.int q])) hm), ⟨by omega, by omega⟩, hbDP.same sg, DDP, by decide, ZZP, kDP.1.same sg, fun Hm km => ⟨_, rfl, iteF ?_⟩⟩
      have kM := (kDP.same sg).trans km
      refine ⟨_, rfl, h, 2, rfl, by decide, kM.1, fun y Hn y0 y2 kn => ⟨_, _, rfl, rfl, ?_⟩⟩
      obtain ⟨m2, rfl⟩ : ∃ n : Nat, y = (n : Int) := ⟨y.toNat, (Int.toNat_of_nonneg y0).symm⟩
      have hm2 : (1 : Int) + (m2 : Int) = ((1 + m2 : Nat) : Int) := by omega
      have hL2 : (2 : Int) * (1 + (m2 : Int)) = ((2 * (1 + m2) : Nat) : Int) := by omega
      have kN := kM.trans kn
      refine ⟨_, rfl, _, rfl, _, _, rfl, rfl, .inl ⟨by decide, by decide⟩, h, 3, (2 * (1 + m2)), 1, congrArg (fun q : Int => [V.ref h.hd, V.int 3, V.int 3, V.int q, V.int 1]) hL2, by omega, by decide, kN.1, fun vS bS HaS hbS hdS hzS kaS => ?_⟩
      have kAS := kN.trans kaS
      refine ⟨_, rfl, _, _, rfl, rfl, .inl ⟨by decide, by decide⟩, _, rfl, by omega, by omega, fun DS hDS => ?_⟩
      refine lc_range (lo := 0) (n := (2 * (1 + (m2 : Int))).toNat) (fun i H' => HandK h HaS H' ∧ ∃ bs : Bs, H' DS = some (.lst ((bs.map Sum.inl : List Part).map partV)) ∧ bs.length = i) ⟨HandK.of kAS.1 (same_upd hDS), [], upd_same, rfl⟩ ?_ ?_
      · rintro i H' hi ⟨hk, bs, hbs, hlb⟩
        have hi' : i < 8 := by omega
        refine ⟨rfl, by show (2 : Nat) ≤ sizeLine; decide, fun t ht => ?_⟩
        have s1 : Same H' (upd H' t (.lst [.str "0", .str "1"])) := same_upd ht
        have g1 : (upd H' t (.lst [.str "0", .str "1"])) t = some (.lst [.str "0", .str "1"]) := upd_same
        generalize upd H' t (.lst [.str "0", .str "1"]) = H1' at s1 g1 ⊢
        have nt : t ≠ h.hd := fun q => by
          obtain ⟨ys, e⟩ := hk.1.ls
          rw [q, e] at ht
          cases ht
        refine ⟨_, rfl, h, 2, rfl, by decide, hk.1.same s1, fun z H2' z0 z2 k2 => ⟨t, _, z, .str (S [decide (z = 1)]), rfl, rfl, SqL.of (k2.2 _ _ g1 nt), two_at z0 z2, ?_⟩⟩
        have nD : DS ≠ h.hd := fun q => by
          obtain ⟨ys, e⟩ := kAS.1.ls
          rw [q, e] at hDS
          cases hDS
        refine ⟨_, k2.2 _ _ (s1 _ _ hbs) nD, by rw [List.length_map, List.length_map, hlb]; exact small5 (by omega), HandK.put kAS.1 ((hk.same s1).trans k2) hDS, bs ++ [decide (z = 1)], ?_, by rw [List.length_append, hlb]; rfl⟩
        rw [upd_same, List.map_append, List.map_append]
        rfl
      rintro HbS ⟨kbS, bsS, hbsS, hlbS⟩
      refine ⟨DS, _, rfl, .inl ⟨SqL.of hbsS, fun tsS htsS => ?_⟩⟩
      have sCS : Same HbS (upd HbS tsS (.tup ((bsS.map Sum.inl : List Part).map partV))) := same_upd htsS
      have gCS : (upd HbS tsS (.tup ((bsS.map Sum.inl : List Part).map partV))) tsS = some (.tup ((bsS.map Sum.inl : List Part).map partV)) := upd_same
      generalize upd HbS tsS (.tup ((bsS.map Sum.inl : List Part).map partV)) = HcS at sCS gCS ⊢
      have kcS : HandK h HaS HcS := kbS.same sCS
      have kCS := kAS.trans kcS
      refine ⟨_, rfl, h, 2, rfl, by decide, kCS.1, fun zS HdS z0 z2 kdS => ⟨rfl, _, rfl, ?_⟩⟩
      have kDS := kCS.trans kdS
      have hbDS : BrkAt HdS bS vS := BrkAt.tups ((kcS.trans kdS).tups kAS.1) _ _ hbS
      have gDS : HdS tsS = some (.tup ((bsS.map Sum.inl : List Part).map partV)) := kdS.tups kCS.1 _ _ gCS
      have okSS : PartsOk (bsS.map Sum.inl) := by
        refine ⟨by rw [List.length_map]; omega, fun q hq => ?_⟩
        obtain ⟨y, _, e⟩ := List.mem_map.mp hq
        cases e
      have hz40S : size bS ≤ 40 := hzS
      refine ite2 (fun cS => ?_) (fun cS => ?_)
      · refine ⟨_, rfl, _, rfl, _, rfl, _, _, rfl, rfl, .inl ⟨by decide, by decide⟩, h, (2 * (1 + m2)), congrArg (fun q : Int => [V.ref h.hd, V.int q]) hL2, by omega, kDS.1, fun tpS psS HeS epS okpS keS => ?_⟩
        refine ⟨_, rfl, _, rfl, _, rfl, h, vS, bS, 4, rfl, keS.1, BrkAt.tups (keS.tups kDS.1) _ _ hbDS, hdS, fun wS bfS HfS hfS hdfS hzfS kfS => ?_⟩
        have gFS := (keS.trans kfS).tups kDS.1 _ _ gDS
        have pFS := kfS.tups keS.1 _ _ epS
        refine ⟨by show (3 : Nat) ≤ sizeLine; decide, fun a1 ha1 => ⟨by show (3 : Nat) ≤ sizeLine; decide, fun a2 ha2 => ⟨by show (3 : Nat) ≤ sizeLine; decide, fun a3 ha3 => ?_⟩⟩⟩
        have q1 : Same HfS (upd HfS a1 (.tup [.str "ask", .ref tsS, wS])) := same_upd ha1
        have r1 : (upd HfS a1 (.tup [.str "ask", .ref tsS, wS])) a1 = some (.tup [.str "ask", .ref tsS, wS]) := upd_same
        generalize upd HfS a1 (.tup [.str "ask", .ref tsS, wS]) = HgS at q1 r1 ha2 ha3 ⊢
        have q2 : Same HgS (upd HgS a2 (.tup [.str "ask", .ref tpS, .ref a1])) := same_upd ha2
        have r2 : (upd HgS a2 (.tup [.str "ask", .ref tpS, .ref a1])) a2 = some (.tup [.str "ask", .ref tpS, .ref a1]) := upd_same
        generalize upd HgS a2 (.tup [.str "ask", .ref tpS, .ref a1]) = HhS at q2 r2 ha3 ⊢
        have q3 : Same HhS (upd HhS a3 (.tup [.str "ask", .ref tsS, .ref a2])) := same_upd ha3
        have r3 : (upd HhS a3 (.tup [.str "ask", .ref tsS, .ref a2])) a3 = some (.tup [.str "ask", .ref tsS, .ref a2]) := upd_same
        generalize upd HhS a3 (.tup [.str "ask", .ref tsS, .ref a2]) = HiS at q3 r3 ⊢
        have q13 := (q1.trans q2).trans q3
        have BBS : BrkAt HiS (.ask (bsS.map Sum.inl) (.ask psS (.ask (bsS.map Sum.inl) bfS))) (.ref a3) := ⟨a3, tsS, _, rfl, r3, q13 _ _ gFS, a2, tpS, _, rfl, q3 _ _ r2, q13 _ _ pFS, a1, tsS, _, rfl, q3 _ _ (q2 _ _ r1), q13 _ _ gFS, hfS.same q13⟩
        have DDS : Deep (.ask (bsS.map Sum.inl) (.ask psS (.ask (bsS.map Sum.inl) bfS))) 8 := ⟨okSS, by decide, okpS, by decide, okSS, by decide, hdfS⟩
        have ZZS : size (.ask (bsS.map Sum.inl) (.ask psS (.ask (bsS.map Sum.inl) bfS))) ≤ 2000 := by show 1 + (1 + (1 + size bfS)) ≤ 2000; omega
        have KKS : HandK h H HiS := ((kDS.trans keS).trans kfS).same q13
        refine ⟨_, rfl, _, rfl, h, 4, rfl, by decide, KKS.1, fun r Hr r0 r4 kr => ⟨_, _, rfl, rfl, by show (3 : Nat) ≤ sizeLine; decide, fun g hg => ?_⟩⟩
        obtain ⟨m3, rfl⟩ : ∃ n : Nat, r = (n : Int) := ⟨r.toNat, (Int.toNat_of_nonneg r0).symm⟩
        have hm3 : (1 : Int) + (m3 : Int) = ((1 + m3 : Nat) : Int) := by omega
        have sg : Same Hr (upd Hr g (.tup [.str "swaps", .int (1 + (m2 : Int)), .int (1 + (m3 : Int))])) := same_upd hg
        refine ⟨_, rfl, _, rfl, g, _, h, _, 8, .swaps (1 + m2) (1 + m3), rfl, ?_, ⟨by omega, by omega, by omega, by omega⟩, (BrkAt.tups (kr.tups KKS.1) _ _ BBS).same sg, DDS, by decide, ZZS, kr.1.same sg, fun H' _ => k H'⟩
        have e9 : some (HO.tup [V.str "swaps", V.int (1 + (m2 : Int)), V.int (1 + (m3 : Int))]) = some (HO.tup [V.str "swaps", V.int ((1 + m2 : Nat) : Int), V.int ((1 + m3 : Nat) : Int)]) := by rw [hm2, hm3]
        exact upd_same.trans e9
      · have DDS : Deep bS 8 := deep_mono bS 4 8 hdS (by decide)
        have ZZS : size bS ≤ 2000 := by omega
        refine ⟨_, rfl, _, rfl, h, 4, rfl, by decide, kDS.1, fun r Hr r0 r4 kr => ⟨_, _, rfl, rfl, by show (3 : Nat) ≤ sizeLine; decide, fun g hg => ?_⟩⟩
        obtain ⟨m3, rfl⟩ : ∃ n : Nat, r = (n : Int) := ⟨r.toNat, (Int.toNat_of_nonneg r0).symm⟩
        have hm3 : (1 : Int) + (m3 : Int) = ((1 + m3 : Nat) : Int) := by omega
        have sg : Same Hr (upd Hr g (.tup [.str "swaps", .int (1 + (m2 : Int)), .int (1 + (m3 : Int))])) := same_upd hg
        refine ⟨_, rfl, _, rfl, g, _, h, _, 8, .swaps (1 + m2) (1 + m3), rfl, ?_, ⟨by omega, by omega, by omega, by omega⟩, (BrkAt.tups (kr.tups kDS.1) _ _ hbDS).same sg, DDS, by decide, ZZS, kr.1.same sg, fun H' _ => k H'⟩
        have e9 : some (HO.tup [V.str "swaps", V.int (1 + (m2 : Int)), V.int (1 + (m3 : Int))]) = some (HO.tup [V.str "swaps", V.int ((1 + m2 : Nat) : Int), V.int ((1 + m3 : Nat) : Int)]) := by rw [hm2, hm3]
        exact upd_same.trans e9
end
end Bb
namespace Bb
open PySem PySem.Spec PyProof PyProof.Rows L2
section
variable {P : Program} {w : World} {K : PySem.W.Frag} {mg : Str → Option Value} {base : Heap}
/-! ## The law -/
def spLaw (K : PySem.W.Frag) : Sp := fun vs H Q _ => ∃ (a : Addr) (ns : List Int), vs = [.ref a] ∧ SqL K H a (ns.map V.int) ∧ ns.length ≤ 63 ∧ ∀ H', Q (.bl true) H'
theorem sc_law : FnScope ["_law_script"] ["_law_script"] (defScope s_law) := C8.fnScope_by (by decide +kernel)
theorem law_fn (T : Tx K mg w) : ∃ (f : Addr) (fd : FuncData), mg "law" = some (.ref f) ∧ FunD K "law" "law" (defArgs s_law) (defBody s_law) (defScope s_law) [] [] f fd ∧ ∀ base : Heap, FnOk P w K mg base CX0 12 f fd ["_law_script"] (spLaw K) := by
  obtain ⟨f, fd, h1, F, b⟩ := T.d_law.ex
  refine ⟨f, fd, h1, F, fun base => F.ok sc_law (fun vs H Q E h => ?_) fun cdv A outer s H vs Q E hr h => ?_⟩
  · obtain ⟨a, ns, rfl, _⟩ := h
    rfl
  · obtain ⟨a, ns, rfl, hS, hl, k⟩ := h
    refine ⟨_, PSs.nox (pss_one (ps_try_thru0 (pss_one (ps_ret (C8.pe_c (cal_asked T) hr (by decide) rfl (pa_cons (pe_lst (pa_cons (C8.pe_c (cal_Ldraws T) hr (by decide) rfl (pa_cons (pv 0) (pa_cons pe_int pa_nil))) (pa_cons pe_int pa_nil))) pa_nil)))))), ?_⟩
    refine ⟨_, rfl, a, ns, 360, rfl, by decide, by omega, hS, fun p zs H1 hp0 hp hlz s1 => ⟨by show (2 : Nat) ≤ sizeLine; decide, fun hd hhd => ?_⟩⟩
    have npd : p ≠ hd := ne_of_none hp hhd
    exact ⟨⟨hd, p, zs⟩, rfl, ⟨0, upd_same, (upd_ne npd).trans hp, hlz, npd.symm⟩, fun H' => k H'⟩
end
end Bb
open PySem PySem.W PySem.Calls PyProof.Rows
theorem PySem.Challenge.cw_breakback_k10_permutation_swaps_holds : PySem.Challenge.rw_breakback_k10_permutation_swaps.Holds := by
  w_on; o_law
  refine HandSHeadRun.head_any (r := OpenLaw.row PySem.Challenge.rw_breakback_k10_permutation_swaps) (q := view (OpenLaw.row PySem.Challenge.rw_breakback_k10_permutation_swaps).prog [106]) (H := Bb.hk) (ob := Bb.hob) (M := 7600) (loose := Bb.hnames) (d := HandSHeadRun.topDef (OpenLaw.row PySem.Challenge.rw_breakback_k10_permutation_swaps).prog 106) (kwd := []) Bb.hob_eq
    (by kernel_rfl) (fun s => by kernel_rfl) Bb.hrun (by kernel_rfl) (by kernel_rfl) (by kernel_rfl) (by rfl) (by first | assumption | decide +kernel) (by decide +kernel) ⟨rfl, rfl, rfl, rfl, rfl, by decide +kernel⟩ ?hw ?hc
  case hw => w_witness2
  case hc =>
    refine L2.walk_ofE (l := PySem.Challenge.rw_breakback_k10_permutation_swaps) (n := 63) (k := 12) (x := "_law_script") (CX := L2.CX0) rfl (by decide) (by kernel_rfl) ⟨rfl, by decide, by decide⟩ ?F (fun _ _ _ _ z => z)
    intro w mg fa h Y G hmg0
    obtain ⟨K, KX, c, cx⟩ := Y
    have T := Bb.facts KX G c cx
    have hmg : mg ("law" : PySem.Str) = some (.ref fa) := by
      have e : (HandSHeadRun.topDef (OpenLaw.row PySem.Challenge.rw_breakback_k10_permutation_swaps).prog 106).name = ("law" : PySem.Str) := by kernel_rfl
      rw [← e]
      exact hmg0
    obtain ⟨f, fd, h1, F, ok⟩ := Bb.law_fn (P := (PySem.Challenge.rw_breakback_k10_permutation_swaps).prog) T
    have e := hmg.symm.trans h1
    cases e
    have b := L2.FunD.bindsA (ps := ["_law_script"]) F fun _ _ _ _ _ _ us hl => match us, hl with | [_], _ => rfl
    exact ⟨K, fd, Bb.spLaw K, KX, fun s v => b s [v] rfl, fun H a ns hl _ hS => ⟨a, ns, rfl, hS, hl, fun _ => rfl⟩, fun base _ _ => ok base⟩

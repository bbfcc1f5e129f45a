import PyProof.Rows.All
import Wide.All
import OpenK.AllK
import Wide.FinOn
import KE.KStateDown
import KE.GoesEnum
import HandS.ForMost
import HandS.Zip
import HandS.Walk
import HandS.Star
import HandS.Deep
import HandS.TupMul
import HandS.TupAny
import HandS.Conv
import HandS.DictTup
import HandS.Defaults
import KE.KDictPairs
import KE.KDictCopyH
import HandS.IsInst
import HandS.Codes
import PySem.Challenge.RW_planesplits_k92_whole_areas_edges_and_re
import HandS.WideBits
import HandS.CallRecv
import HandS.Wide
import HandS.More
import HandS.WordsExc
import HandS.Head0
import HandS.Head1
import HandS.Head2
import HandS.HeadEnd
import HandS.HeadHook1
import HandS.HeadHook2
import Lean
set_option Elab.async false
set_option linter.all false
set_option maxRecDepth 100000
set_option maxHeartbeats 0
namespace Pl
/-! ## Pictures as trees -/
inductive Pic where
  | leaf (b : Bool)
  | node (p q r s : Pic)
  deriving DecidableEq
open Pic
/-- how many nodes -/
def cnt : Pic → Nat
  | .leaf _ => 1
  | .node p q r s => 1 + (cnt p + (cnt q + (cnt r + cnt s)))
/-- how deep -/
def dok : Nat → Pic → Bool
  | _, .leaf _ => true
  | 0, .node _ _ _ _ => false
  | n + 1, .node p q r s => dok n p && (dok n q && (dok n r && dok n s))
def all4 (b : Bool) (p q r s : Pic) : Bool := decide (p = .leaf b) && (decide (q = .leaf b) && (decide (r = .leaf b) && decide (s = .leaf b)))
/-- a picture of a square with so many figures -/
def wf : Nat → Pic → Bool
  | _, .leaf _ => true
  | 0, .node _ _ _ _ => false
  | n + 1, .node p q r s => (wf n p && (wf n q && (wf n r && wf n s))) && (!all4 false p q r s && !all4 true p q r s)
theorem wf_dok : ∀ (n : Nat) (P : Pic), wf n P = true → dok n P = true
  | _, .leaf _, _ => by simp [dok]
  | 0, .node _ _ _ _, h => by simp [wf] at h
  | n + 1, .node p q r s, h => by
    simp only [wf, Bool.and_eq_true] at h
    simp only [dok, Bool.and_eq_true]
    exact ⟨wf_dok n p h.1.1, wf_dok n q h.1.2.1, wf_dok n r h.1.2.2.1, wf_dok n s h.1.2.2.2⟩
theorem dok_mono : ∀ (n m : Nat) (P : Pic), n ≤ m → dok n P = true → dok m P = true
  | _, _, .leaf _, _, _ => by simp [dok]
  | 0, _, .node _ _ _ _, _, h => by simp [dok] at h
  | n + 1, 0, .node _ _ _ _, l, _ => by omega
  | n + 1, m + 1, .node p q r s, l, h => by
    simp only [dok, Bool.and_eq_true] at h ⊢
    have l' : n ≤ m := by omega
    exact ⟨dok_mono n m p l' h.1, dok_mono n m q l' h.2.1, dok_mono n m r l' h.2.2.1, dok_mono n m s l' h.2.2.2⟩
def dp : Pic → Nat
  | .leaf _ => 0
  | .node p q r s => 1 + max (max (dp p) (dp q)) (max (dp r) (dp s))
theorem dok_dp : ∀ {n : Nat} {P : Pic}, dok n P = true → dp P ≤ n
  | _, .leaf _, _ => Nat.zero_le _
  | 0, .node _ _ _ _, h => by simp [dok] at h
  | n + 1, .node p q r s, h => by
    simp only [dok, Bool.and_eq_true] at h
    have h1 := dok_dp h.1
    have h2 := dok_dp h.2.1
    have h3 := dok_dp h.2.2.1
    have h4 := dok_dp h.2.2.2
    simp only [dp]
    omega
/-- the i-th part; of a leaf: itself -/
def part : Pic → Nat → Pic
  | .leaf b, _ => .leaf b
  | .node p _ _ _, 0 => p
  | .node _ q _ _, 1 => q
  | .node _ _ r _, 2 => r
  | .node _ _ _ s, _ => s
theorem dok_part {n : Nat} {P : Pic} (h : dok (n + 1) P = true) (i : Nat) : dok n (part P i) = true := by
  cases P with
  | leaf b => simp [part, dok]
  | node p q r s =>
    simp only [dok, Bool.and_eq_true] at h
    match i with
    | 0 => exact h.1
    | 1 => exact h.2.1
    | 2 => exact h.2.2.1
    | _ + 3 => exact h.2.2.2
/-! ## What the program makes -/
def opp : Pic → Pic
  | .leaf b => .leaf (!b)
  | .node p q r s => .node (opp p) (opp q) (opp r) (opp s)
def sel4 (p q r s : Pic) : Nat → Pic
  | 0 => p
  | 1 => q
  | 2 => r
  | _ => s
/-- the parts in another order, in all cells -/
def pan (o0 o1 o2 o3 : Nat) : Pic → Pic
  | .leaf b => .leaf b
  | .node p q r s => .node (sel4 (pan o0 o1 o2 o3 p) (pan o0 o1 o2 o3 q) (pan o0 o1 o2 o3 r) (pan o0 o1 o2 o3 s) o0) (sel4 (pan o0 o1 o2 o3 p) (pan o0 o1 o2 o3 q) (pan o0 o1 o2 o3 r) (pan o0 o1 o2 o3 s) o1)
      (sel4 (pan o0 o1 o2 o3 p) (pan o0 o1 o2 o3 q) (pan o0 o1 o2 o3 r) (pan o0 o1 o2 o3 s) o2) (sel4 (pan o0 o1 o2 o3 p) (pan o0 o1 o2 o3 q) (pan o0 o1 o2 o3 r) (pan o0 o1 o2 o3 s) o3)
/-- the picture of four parts -/
def mk4 (p q r s : Pic) : Pic := if all4 false p q r s = true then .leaf false else if all4 true p q r s = true then .leaf true else .node p q r s
/-- black in both -/
def met : Pic → Pic → Pic
  | .leaf b, o => if b then o else .leaf false
  | .node p q r s, .leaf c => if c then .node p q r s else .leaf false
  | .node p q r s, .node p2 q2 r2 s2 => mk4 (met p p2) (met q q2) (met r r2) (met s s2)
/-- how many nodes are black, white, split -/
def sb : Pic → Nat
  | .leaf b => if b then 1 else 0
  | .node p q r s => sb p + (sb q + (sb r + sb s))
def sw : Pic → Nat
  | .leaf b => if b then 0 else 1
  | .node p q r s => sw p + (sw q + (sw r + sw s))
def ss : Pic → Nat
  | .leaf _ => 0
  | .node p q r s => 1 + (ss p + (ss q + (ss r + ss s)))
theorem split_third : ∀ P : Pic, 3 * ss P + 1 = sb P + sw P
  | .leaf b => by cases b <;> rfl
  | .node p q r s => by
    have h1 := split_third p
    have h2 := split_third q
    have h3 := split_third r
    have h4 := split_third s
    simp only [ss, sb, sw]
    omega
/-! ## What the program counts -/
def b2n (b : Bool) : Nat := if b then 1 else 0
def bc : Nat → Pic → Nat
  | n, .leaf b => b2n b * 2 ^ (2 * n)
  | n, .node p q r s => bc (n - 1) p + (bc (n - 1) q + (bc (n - 1) r + bc (n - 1) s))
/-- the steps over a border: true: beside one another -/
def st1 (h : Bool) : Nat := if h then 1 else 2
def pa (h : Bool) : Nat → Pic → Pic → Nat
  | 0, a, b => if a = .leaf true ∧ b = .leaf true then 1 else 0
  | n + 1, a, b => if a = .leaf false ∨ b = .leaf false then 0 else if a = .leaf true ∧ b = .leaf true then 2 ^ (n + 1)
      else pa h n (part a (st1 h)) (part b 0) + pa h n (part a 3) (part b (3 - st1 h))
def pw : Nat → Pic → Nat
  | n, .leaf b => b2n b * (2 * ((2 ^ n - 1) * 2 ^ n))
  | n, .node p q r s => (pw (n - 1) p + (pw (n - 1) q + (pw (n - 1) r + pw (n - 1) s))) + ((pa true (n - 1) p q + pa true (n - 1) r s) + (pa false (n - 1) p r + pa false (n - 1) q s))
/-! ## Places -/
abbrev Pt := Int × Int
def sq (n : Nat) (x y : Int) : Bool := decide (0 ≤ x) && (decide (x < 2 ^ n) && (decide (0 ≤ y) && decide (y < 2 ^ n)))
def mem : Nat → Pic → Int → Int → Bool
  | n, .leaf b, x, y => b && sq n x y
  | 0, .node _ _ _ _, _, _ => false
  | n + 1, .node p q r s, x, y =>
    if x < 2 ^ n then (if y < 2 ^ n then mem n p x y else mem n r x (y - 2 ^ n)) else (if y < 2 ^ n then mem n q (x - 2 ^ n) y else mem n s (x - 2 ^ n) (y - 2 ^ n))
theorem two_pos (n : Nat) : (0 : Int) < 2 ^ n := Int.pow_pos (by decide)
theorem two_succ (n : Nat) : (2 : Int) ^ (n + 1) = 2 ^ n + 2 ^ n := by rw [Int.pow_succ]; omega
theorem two_cast (n : Nat) : ((2 ^ n : Nat) : Int) = 2 ^ n := by simp
theorem sq_iff {n : Nat} {x y : Int} : sq n x y = true ↔ 0 ≤ x ∧ x < 2 ^ n ∧ 0 ≤ y ∧ y < 2 ^ n := by
  simp only [sq, Bool.and_eq_true, decide_eq_true_eq]
theorem mem_sq : ∀ {n : Nat} {P : Pic} {x y : Int}, mem n P x y = true → 0 ≤ x ∧ x < 2 ^ n ∧ 0 ≤ y ∧ y < 2 ^ n
  | n, .leaf b, x, y, h => by
    simp only [mem, Bool.and_eq_true] at h
    exact sq_iff.mp h.2
  | 0, .node _ _ _ _, _, _, h => by simp [mem] at h
  | n + 1, .node p q r s, x, y, h => by
    simp only [mem] at h
    have e := two_succ n
    have e0 := two_pos n
    split at h <;> split at h
    · have := mem_sq h; omega
    · have := mem_sq h; omega
    · have := mem_sq h; omega
    · have := mem_sq h; omega
theorem mem_out {n : Nat} {P : Pic} {x y : Int} (h : ¬ (0 ≤ x ∧ x < 2 ^ n ∧ 0 ≤ y ∧ y < 2 ^ n)) : mem n P x y = false := by
  cases e : mem n P x y with
  | false => rfl
  | true => exact absurd (mem_sq e) h
section
variable {n : Nat} {P : Pic} {x y : Int}
theorem sq_big (hx : 0 ≤ x ∧ x < 2 ^ (n + 1)) (hy : 0 ≤ y ∧ y < 2 ^ (n + 1)) : sq (n + 1) x y = true := sq_iff.mpr ⟨hx.1, hx.2, hy.1, hy.2⟩
theorem sq_small (hx : 0 ≤ x ∧ x < 2 ^ n) (hy : 0 ≤ y ∧ y < 2 ^ n) : sq n x y = true := sq_iff.mpr ⟨hx.1, hx.2, hy.1, hy.2⟩
theorem mem_q0 (hx : 0 ≤ x ∧ x < 2 ^ n) (hy : 0 ≤ y ∧ y < 2 ^ n) : mem (n + 1) P x y = mem n (part P 0) x y := by
  have e := two_succ n
  cases P with
  | leaf b => simp only [mem, part]; rw [sq_big (by omega) (by omega), sq_small hx hy]
  | node p q r s => simp only [mem, part]; rw [if_pos hx.2, if_pos hy.2]
theorem mem_q1 (hx : 0 ≤ x ∧ x < 2 ^ n) (hy : 0 ≤ y ∧ y < 2 ^ n) : mem (n + 1) P (2 ^ n + x) y = mem n (part P 1) x y := by
  have e := two_succ n
  cases P with
  | leaf b => simp only [mem, part]; rw [sq_big (by omega) (by omega), sq_small hx hy]
  | node p q r s => simp only [mem, part]; rw [if_neg (by omega), if_pos hy.2, show (2 : Int) ^ n + x - 2 ^ n = x by omega]
theorem mem_q2 (hx : 0 ≤ x ∧ x < 2 ^ n) (hy : 0 ≤ y ∧ y < 2 ^ n) : mem (n + 1) P x (2 ^ n + y) = mem n (part P 2) x y := by
  have e := two_succ n
  cases P with
  | leaf b => simp only [mem, part]; rw [sq_big (by omega) (by omega), sq_small hx hy]
  | node p q r s => simp only [mem, part]; rw [if_pos hx.2, if_neg (by omega), show (2 : Int) ^ n + y - 2 ^ n = y by omega]
theorem mem_q3 (hx : 0 ≤ x ∧ x < 2 ^ n) (hy : 0 ≤ y ∧ y < 2 ^ n) : mem (n + 1) P (2 ^ n + x) (2 ^ n + y) = mem n (part P 3) x y := by
  have e := two_succ n
  cases P with
  | leaf b => simp only [mem, part]; rw [sq_big (by omega) (by omega), sq_small hx hy]
  | node p q r s => simp only [mem, part]; rw [if_neg (by omega), if_neg (by omega), show (2 : Int) ^ n + x - 2 ^ n = x by omega, show (2 : Int) ^ n + y - 2 ^ n = y by omega]
end
/-! ## Sums -/
def sm (f : Nat → Nat) : Nat → Nat
  | 0 => 0
  | n + 1 => sm f n + f n
theorem sm_congr {f g : Nat → Nat} : ∀ {n : Nat}, (∀ i, i < n → f i = g i) → sm f n = sm g n
  | 0, _ => rfl
  | n + 1, h => by
    show sm f n + f n = sm g n + g n
    rw [sm_congr fun i hi => h i (by omega), h n (by omega)]
theorem sm_zero {f : Nat → Nat} : ∀ {n : Nat}, (∀ i, i < n → f i = 0) → sm f n = 0
  | 0, _ => rfl
  | n + 1, h => by
    show sm f n + f n = 0
    rw [sm_zero fun i hi => h i (by omega), h n (by omega)]
theorem sm_const (c : Nat) : ∀ n : Nat, sm (fun _ => c) n = n * c
  | 0 => by simp [sm]
  | n + 1 => by
    show sm (fun _ => c) n + c = _
    rw [sm_const c n, Nat.succ_mul]
theorem sm_plus (f g : Nat → Nat) : ∀ n : Nat, sm (fun i => f i + g i) n = sm f n + sm g n
  | 0 => rfl
  | n + 1 => by
    show sm (fun i => f i + g i) n + (f n + g n) = (sm f n + f n) + (sm g n + g n)
    rw [sm_plus f g n]; omega
theorem sm_split (f : Nat → Nat) (a : Nat) : ∀ b : Nat, sm f (a + b) = sm f a + sm (fun i => f (a + i)) b
  | 0 => rfl
  | b + 1 => by
    show sm f (a + b) + f (a + b) = sm f a + (sm (fun i => f (a + i)) b + f (a + b))
    rw [sm_split f a b]; omega
theorem sm_one {f : Nat → Nat} {k c : Nat} : ∀ {n : Nat}, k < n → f k = c → (∀ i, i < n → i ≠ k → f i = 0) → sm f n = c
  | 0, h, _, _ => by omega
  | n + 1, h, e, z => by
    show sm f n + f n = c
    by_cases hk : k = n
    · subst hk
      rw [sm_zero fun i hi => z i (by omega) (by omega), e]; omega
    · rw [sm_one (by omega) e fun i hi hn => z i (by omega) hn, z n (by omega) (by omega)]
      omega
theorem sm_shift {g f : Nat → Nat} : ∀ {n : Nat}, g 0 = 0 → (∀ i, i < n → g (i + 1) = f i) → sm g (n + 1) = sm f n
  | 0, h0, _ => by show 0 + g 0 = 0; rw [h0]
  | n + 1, h0, h => by
    show sm g (n + 1) + g (n + 1) = sm f n + f n
    rw [sm_shift h0 fun i hi => h i (by omega), h n (by omega)]
def A2 (N M : Nat) (f : Nat → Nat → Nat) : Nat := sm (fun i => sm (fun j => f i j) M) N
theorem A2_congr {N M : Nat} {f g : Nat → Nat → Nat} (h : ∀ i j, i < N → j < M → f i j = g i j) : A2 N M f = A2 N M g :=
  sm_congr fun i hi => sm_congr fun j hj => h i j hi hj
theorem A2_plus (N M : Nat) (f g : Nat → Nat → Nat) : A2 N M (fun i j => f i j + g i j) = A2 N M f + A2 N M g := by
  unfold A2
  rw [← sm_plus]
  exact sm_congr fun i _ => sm_plus _ _ _
theorem A2_zero {N M : Nat} {f : Nat → Nat → Nat} (h : ∀ i j, i < N → j < M → f i j = 0) : A2 N M f = 0 := sm_zero fun i hi => sm_zero fun j hj => h i j hi hj
theorem A2_quad (N : Nat) (f : Nat → Nat → Nat) : A2 (N + N) (N + N) f = A2 N N f + (A2 N N (fun i j => f (N + i) j) + (A2 N N (fun i j => f i (N + j)) + A2 N N fun i j => f (N + i) (N + j))) := by
  have one : ∀ g : Nat → Nat → Nat, sm (fun i => sm (fun j => g i j) (N + N)) N = A2 N N g + A2 N N (fun i j => g i (N + j)) := fun g => by
    unfold A2
    rw [← sm_plus]
    exact sm_congr fun i _ => sm_split _ _ _
  show sm (fun i => sm (fun j => f i j) (N + N)) (N + N) = _
  rw [sm_split, one f]
  rw [one fun i j => f (N + i) j]
  omega
theorem A2_swap (N : Nat) (f : Nat → Nat → Nat) : ∀ M : Nat, sm (fun i => sm (fun j => f i j) M) N = sm (fun j => sm (fun i => f i j) N) M
  | 0 => by
    show sm (fun _ => 0) N = 0
    exact sm_zero fun _ _ => rfl
  | M + 1 => by
    show sm (fun i => sm (fun j => f i j) M + f i M) N = sm (fun j => sm (fun i => f i j) N) M + sm (fun i => f i M) N
    rw [sm_plus, A2_swap N f M]
theorem A2_one {N M a b c : Nat} {f : Nat → Nat → Nat} (ha : a < N) (hb : b < M) (e : f a b = c) (z : ∀ i j, i < N → j < M → ¬ (i = a ∧ j = b) → f i j = 0) : A2 N M f = c :=
  sm_one ha (sm_one hb e fun j hj hn => z a j ha hj (by omega)) fun i hi hn => sm_zero fun j hj => z i j hi hj (by omega)
end Pl

namespace Pl
open PySem PySem.Spec PyProof.Rows L2 L2.DX
/-! ## Own machine rules -/
/-! ### sum of a tuple of ints -/
section
variable {prog : Program} {w : World} {A : Around} {E : Value → Shared → Prop} {s : Shared} {l : Addr} {xs : Array (Int × Tok)}
theorem sum_intTupG {Q : Value → Shared → Prop} (hh : A.handled = none) (hl : s.heap.IsTuple l (intItems xs))
    (h : ∀ h' tk t', (∀ b o, s.heap.get? b = some o → h'.get? b = some o) → Q (.int (preSum (numAt xs) xs.size) t') { s with heap := h', toks := tk }) :
    wpAny (model prog w) A (call (.builtin "sum") [.ref l]) Q E s := by
  have hlt : l < s.heap.objs.size := by obtain ⟨_, e, _⟩ := hl; exact Heap.lt_size e
  have hne : l ≠ s.heap.objs.size := Nat.ne_of_lt hlt
  refine call_sum_walkG (wpAny_pyIter_tuple hl ?_)
  refine ⟨_, [s.heap.objs.size, l], [s.heap.objs.size], _, _, _, numAt xs, rfl, Walks.tuple (A := A.in1) hh _ l hne (intItems xs), ⟨⟨_, Heap.get?_push_size _ rfl, rfl, rfl⟩, ?_⟩, fun b hb => ?_, (fun _ _ => intItems_at), fun h' tk t' hk => ?_⟩
  · obtain ⟨o, ho, r⟩ := hl
    exact ⟨o, Heap.get?_push_of_some _ ho, r⟩
  · show b < (s.heap.push _).objs.size
    rw [Heap.size_push]
    rcases List.mem_cons.mp hb with rfl | hb
    · exact Nat.lt_succ_self _
    · rcases List.mem_cons.mp hb with rfl | hb
      · exact Nat.lt_succ_of_lt hlt
      · cases hb
  · have := h h' tk t' fun b o e => by
      refine hk b o (fun hm => ?_) (Heap.get?_push_of_some _ e)
      rcases List.mem_cons.mp hm with e1 | hm
      · exact absurd (e1 ▸ Heap.lt_size e) (Nat.lt_irrefl _)
      · cases hm
    simpa [intItems] using this
theorem sum_rawT {its : List Value} {ns : List Int} {Q : Value → Shared → Prop} (hh : A.handled = none) (hl : s.heap.IsTuple l its.toArray) (hi : IntsAre its ns)
    (h : ∀ h' tk t', (∀ b o, s.heap.get? b = some o → h'.get? b = some o) → Q (.int ns.sum t') { s with heap := h', toks := tk }) : wpAny (model prog w) A (call (.builtin "sum") [.ref l]) Q E s := by
  obtain ⟨xs, e⟩ := hi.allInts.items
  have hn : numsOf (intItems xs).toList = ns := by rw [← e]; exact hi.numsOf
  rw [nums_intItems] at hn
  rw [e] at hl
  refine sum_intTupG hh hl fun h' tk t' hk => ?_
  have := h h' tk t' hk
  rw [preSum_eq, List.take_of_length_le (by simp), hn]; exact this
end
section
variable {X : Cx}
def rSumT (K : PySem.W.Frag) : List V → Hp → VK → Prop := fun vs H Q => ∃ (a : Addr) (ns : List Int), vs = [V.ref a] ∧ SqT K H a (ns.map V.int) ∧ Q (.int ns.sum) H
theorem cr_sumT (hc : X.calm = true) : CallR X (.builtin "sum") (rSumT X.K) := by
  intro pins s σ H vs us Q I r h
  obtain ⟨a, ns, rfl, hs, q⟩ := h
  obtain ⟨its, rv, hl, _⟩ := I.tuple hs
  rw [Vals.ref1 r]
  exact sum_rawT (I.ok.hd hc) hl rv.ints fun h' tk t' hk => ⟨.int _, H, I.kept hk, ⟨_, rfl⟩, q⟩
end
/-! ### enumerate of a tuple -/
/-- the tuple at a, each item in a new pair with its place -/
def IteT (K : PySem.W.Frag) (a : Addr) : It :=
  ⟨fun i H => ∃ (xs : List V) (x : V), SqT K H a xs ∧ xs[i]? = some x, fun i H v H' => ∃ T x, v = .ref T ∧ H T = none ∧ H' = upd H T (.tup [.int (i : Nat), x]) ∧ ∀ xs, SqT K H a xs → xs[i]? = some x, fun i H => ∃ xs : List V, SqT K H a xs ∧ xs.length ≤ i⟩
theorem turn_enumT {P : Program} {w : World} {K : PySem.W.Frag} {elts : List Expr} {kk : Nat} {tpos : Pos} (a e it : Addr) :
    Turn P w K (.Tuple elts kk tpos) (IteT K a) [e, it] e (fun i h => (∃ old, IsEnum h e it ((i : Nat) : Int) old) ∧ h.IsTupleIter it a i ∧ e ≠ it ∧ a ≠ it ∧ a ≠ e) where
  mem := by simp
  obj := fun i h st b hb => by
    obtain ⟨⟨old, he⟩, ⟨o, ho, hc, hd⟩, _⟩ := st
    have e' : b = e ∨ b = it := by simpa using hb
    rcases e' with z | z
    · rw [z]; exact ⟨_, he, fun v q => nomatch q⟩
    · rw [z]; exact ⟨o, ho, fun v q => by rw [hd] at q; cases q⟩
  keep := fun i h h' st k => let ⟨⟨old, he⟩, hi, hne⟩ := st; ⟨⟨old, k e (by simp) _ he⟩, hi.at fun o q => k it (by simp) o q, hne⟩
  item := by
    intro X hP hw hK hc i pins s σ H E I hf st hg
    subst hP hw hK
    obtain ⟨⟨old, he⟩, hit, hne, hai, hae⟩ := st
    obtain ⟨xs, x, hq, hx⟩ := hg
    obtain ⟨its, rv, p, hz⟩ := I.tuple hq
    obtain ⟨u, hu, ru⟩ := rv.get hx
    have hel : e < s.heap.objs.size := Heap.lt_size he
    have hil : it < s.heap.objs.size := by obtain ⟨_, q, _⟩ := hit; exact Heap.lt_size q
    have hi' : i < its.toArray.size := by
      obtain ⟨hi, _⟩ := List.getElem?_eq_some_iff.mp hu
      simpa using hi
    have hh : X.A.in1.handled = none := I.ok.hd hc
    refine wpAny_pyNext_enum_itemD (Draws.tuple (A := X.A.in1) hh it a hai its.toArray) he ⟨hit, p⟩ hi' hne (by simp [hne, Ne.symm hae]) fun x' h' tk hP ho hst' hT hsz hk => ?_
    obtain ⟨hit', p'⟩ := hst'
    have eu : u = x' := by
      have h1 : its.toArray[i]? = some x' := hP
      have h2 : its.toArray[i]? = some u := by simpa using hu
      rw [h1] at h2
      exact (Option.some.inj h2).symm
    subst eu
    refine ⟨_, rfl, wpAny_letOwnedTupleGo_enum (s := { s with heap := h', toks := tk + 1 }) ho fun h'' he' sb => ?_⟩
    have hT2 : h''.get? s.heap.objs.size = some { cls := .type "tuple", data := .seq #[.int i tk, u] } := (sb.2 _ (Nat.ne_of_gt hel)).trans hT
    have new : ObjOk X.prog X.w (upd H s.heap.objs.size (.tup [.int (i : Nat), x])) h'' s.heap.objs.size (.tup [.int (i : Nat), x]) :=
      ⟨by show 2 ≤ sizeLine; decide, [.int i tk, u], .cons ⟨_, rfl⟩ (.cons ru .nil), ⟨_, hT2, rfl, _, rfl⟩⟩
    have I1 : Inv X pins σ (upd H s.heap.objs.size (.tup [.int (i : Nat), x])) { s with heap := h'', toks := tk + 1 } :=
      I.turnedNew (ch := [e, it]) (fun b ob hb q => (sb.2 b (fun z => hb (by simp [z]))).trans (hk b ob (fun z => hb (by simp [z])) (fun z => hb (by simp [z])) q)) hf (Nat.le_refl _) new
    refine ⟨.ref s.heap.objs.size, _, I1, rfl, ⟨_, x, rfl, I.hok.fresh (Nat.le_refl _), rfl, fun ys hy => by rw [I.tuple_inj hy hq]; exact hx⟩, ⟨⟨u, ?_⟩, hit'.at fun o q => (sb.2 it (Ne.symm hne)).trans q, hne, hai, hae⟩, fun b hb => ?_⟩
    · have e1 : ((i + 1 : Nat) : Int) = (i : Int) + 1 := by omega
      rw [e1]; exact he'
    · have hb' : b < s.heap.objs.size := by
        have e' : b = e ∨ b = it := by simpa using hb
        rcases e' with z | z
        · rw [z]; exact hel
        · rw [z]; exact hil
      rw [upd_ne (Nat.ne_of_lt hb')]
      exact (hf b hb).1
  done := by
    intro X hP hw hK hc i pins s σ H E I hf st hg
    subst hP hw hK
    obtain ⟨⟨old, he⟩, hit, hne, hai, hae⟩ := st
    obtain ⟨xs, hq, hx⟩ := hg
    obtain ⟨its, rv, p, hz⟩ := I.tuple hq
    obtain ⟨f0, f1, f2, f3, f4, f5⟩ := hf it (by simp)
    have hl := rv.length
    have hh : X.A.in1.handled = none := I.ok.hd hc
    have hT : s.TypeIs (.ref e) "enumerate" := ⟨_, he, rfl⟩
    unfold pyNext
    refine wpAny_bind (wpAny_attempt (wpAny_callSpecial?_slot (name := Str.ofString "__next__") hT F.slot_enumerate_next
      (wpAny_call_entry F.slot_enumerate_next hT F.entry_enumerate_next ?_ (F.args_enumerate_next_1 _))))
    show wpAny _ _ (field (.ref e) 2 >>= _) _ _ _
    refine wpAny_bind (wpAny_field he rfl (x := .ref it) rfl ?_)
    refine wpAny_bind (wpAny_nextOf_tuple_end hh hit p (by simp; omega) fun h' x he' hx' => ?_)
    obtain ⟨o, ho, hc'⟩ := hx'
    refine wpAny_bind (wpAny_isInstance (T := "StopIteration") (b := true) ⟨o, ho, hc'⟩ isSubtype_stop ?_)
    exact wpAny_pure ⟨rfl, I.turned (t' := s.toks) (fun b o hb q => he' b o hb q) f0 f1 f3 f4 f5⟩
  self := fun A i s Q E st h => let ⟨⟨_, he⟩, _⟩ := st; wpAny_pyIter_enum he h
def iEnumT (K : PySem.W.Frag) (ta : TA) : TI := fun σ H R => ta σ H fun vs H1 => ∃ a xs, vs = [.ref a] ∧ SqT K H1 a xs ∧ R (IteT K a) H1
theorem meets_enumerate_newT (l : Addr) (items : Array Value) :
    Meets (Builtin.«enumerate.__new__» ⟨[.type "enumerate", .ref l], []⟩) (fun _ R s => s.heap.IsTuple l items ∧
      R (.ok (.ret (.ref (s.heap.push { cls := .type "tuple_iterator", data := .fields #[.ref l, .int 0 0] }).objs.size)))
        { s with heap := (s.heap.push { cls := .type "tuple_iterator", data := .fields #[.ref l, .int 0 0] }).push { cls := .type "enumerate", data := .fields #[.none, .bool false, .ref s.heap.objs.size, rawInt 0, .none, .none] } }) :=
  .of_wp fun prog w A R s h => by
    obtain ⟨hp, g, d, tk, os⟩ := s; obtain ⟨hl, h⟩ := h
    have hsub := sub_enumerate
    have hL : Heap.IsTuple (Shared.heap ⟨hp, g, d, tk, os⟩) l items := hl
    have q1 : ∀ {A' : Around} {E : Value → Shared → Prop} {Q : Value → Shared → Prop}, Q (.ref hp.objs.size) ⟨hp.push { cls := .type "tuple_iterator", data := .fields #[.ref l, .int 0 0] }, g, d, tk, os⟩ → wpAny (model prog w) A' (pyIter (.ref l)) Q E ⟨hp, g, d, tk, os⟩ :=
      fun q => wpAny_pyIter_tuple hL q
    wp_walk using q1
    refine wpAny_stack_any fun st => wpAny_pure ?_
    split
    · rename_i c _ _ _ _ _
      cases (c == Value.type "enumerate")
      · wp_walk using q1
        exact ⟨_, rfl, h⟩
      · wp_walk using q1
        exact ⟨_, rfl, h⟩
    · wp_walk using q1
      exact ⟨_, rfl, h⟩
section
variable {prog : Program} {w : World} {A : Around} {E : Value → Shared → Prop} {s : Shared}
theorem call_enumerate_tup {l : Addr} {items : Array Value} {Q : Value → Shared → Prop} (hL : s.heap.IsTuple l items)
    (h : ∀ h', IsEnum h' (s.heap.objs.size + 1) s.heap.objs.size 0 .none → h'.IsTupleIter s.heap.objs.size l 0 → h'.objs.size = s.heap.objs.size + 2 →
      (∀ b o, s.heap.get? b = some o → h'.get? b = some o) → Q (.ref (s.heap.objs.size + 1)) { s with heap := h' }) :
    wpAny (model prog w) A (call (.type "enumerate") [.ref l]) Q E s := by
  refine callType_new F.called_enumerate (by decide) (F.typeCall_enumerate_1 _) (F.newCall_enumerate_1 _) (fun obj => F.args_object_init_2 obj _) F.entry_enumerate_new
    (meets_enumerate_newT l items) ⟨hL, ?_⟩
  have hz : (s.heap.push { cls := .type "tuple_iterator", data := .fields #[.ref l, .int 0 0] }).objs.size = s.heap.objs.size + 1 := Heap.size_push ..
  show _ ∧ _
  rw [hz]
  have he : IsEnum ((s.heap.push { cls := .type "tuple_iterator", data := .fields #[.ref l, .int 0 0] }).push
      { cls := .type "enumerate", data := .fields #[.none, .bool false, .ref s.heap.objs.size, rawInt 0, .none, .none] }) (s.heap.objs.size + 1) s.heap.objs.size 0 .none := by
    have := Heap.get?_push_size (s.heap.push { cls := .type "tuple_iterator", data := .fields #[.ref l, .int 0 0] })
      (o := { cls := .type "enumerate", data := .fields #[.none, .bool false, .ref s.heap.objs.size, rawInt 0, .none, .none] }) rfl
    rw [hz] at this; exact this
  refine ⟨⟨_, he, rfl⟩, h _ he ⟨_, Heap.get?_push_of_some _ (Heap.get?_push_size _ rfl), rfl, rfl⟩ (by rw [Heap.size_push, hz]) fun b o x => Heap.get?_push_of_some _ (Heap.get?_push_of_some _ x)⟩
end
theorem pi_enumT {X : Cx} {e : Expr} {ta : TA} {p pos tpos : Pos} {elts : List Expr} {kk : Nat} (hg : Gl X "enumerate") (hm : X.mg "enumerate" = none) (ha : PA X [e] ta) (hs : starEach [e] X.env = [(false, eval e X.env)] := by rfl) :
    PI X (.Tuple elts kk tpos) (.Call (.Name "enumerate" p) [e] [] pos) (iEnumT X.K ta) := by
  refine ⟨fun pins s σ H R I h => ?_⟩
  refine Call_ (ld_blt I hg hm boot_enumerate (PyProof.Rows.callWith_type1 (thn (ha.run pos pins s σ H _ I h) fun us s1 ⟨vs, H1, I1, r1, q1⟩ => ?_) hs rfl))
  obtain ⟨a, xs, ex, hq, q⟩ := q1
  subst ex
  cases r1 with
  | cons r rr =>
    cases rr
    cases r
    obtain ⟨its, rv, p', hz⟩ := I1.tuple hq
    have hal : a < s1.heap.objs.size := p'.lt
    refine call_enumerate_tup (show s1.heap.IsTuple a its.toArray from p') fun h' he hit hsz hk => wpAny_pyIter_enum he ?_
    have I2 : Inv X pins σ H1 { s1 with heap := h' } := I1.kept (t' := s1.toks) hk
    refine ⟨s1.heap.objs.size + 1, [s1.heap.objs.size + 1, s1.heap.objs.size], _, _, H1, rfl, I2, turn_enumT a (s1.heap.objs.size + 1) s1.heap.objs.size, ⟨⟨.none, he⟩, hit, Nat.succ_ne_self _, Nat.ne_of_lt hal, Nat.ne_of_lt (Nat.lt_succ_of_lt hal)⟩, fun b hb => ?_, q⟩
    have e' : b = s1.heap.objs.size + 1 ∨ b = s1.heap.objs.size := by simpa using hb
    have hle : s1.heap.objs.size ≤ b := by
      rcases e' with z | z
      · rw [z]; exact Nat.le_add_right _ _
      · rw [z]; exact Nat.le_refl _
    exact I1.fpOk hle (I1.hok.fresh hle)
theorem walk_enumT {K : PySem.W.Frag} {a : Addr} {xs : List V} : Walk (IteT K a) xs.length (fun H => SqT K H a xs) (YPair (fun i => some (.int (i : Nat))) (fun i => xs[i]?)) := by
  refine ⟨fun i _ hi q => ⟨xs, xs[i], q, by simp [hi]⟩, fun _ q => ⟨xs, q, Nat.le_refl _⟩, fun i H v H' _ q y => ?_⟩
  obtain ⟨T, x, h1, h2, h3, h4⟩ := y
  exact ⟨T, .int (i : Nat), x, h1, h2, h3, rfl, h4 xs q⟩
/-! ### x in (..): a tuple of data -/
section
variable {X : Cx}
def rInT (K : PySem.W.Frag) : R2 := fun x y H Q => ∃ d ds, Dp K H x d ∧ Dp K H y (.tuple ds) ∧ d.canLay0 = true ∧ PyData.canLayAll0 ds = true ∧ PyData.depthAll ds ≤ 60 ∧ Q (.bl (ds.any fun z => PyData.eqv z d)) H
theorem op_inT (hu : X.A.units + 64 < cLine) : OpR X (compareOp .In) (rInT X.K) := by
  intro pins s σ H x y v u Q I rx ry h
  obtain ⟨d, ds, hd, he, sd, se, sp, q⟩ := h
  obtain ⟨as, r1⟩ := Dp.reads I d x v hd rx
  obtain ⟨bs, r2⟩ := Dp.reads I (.tuple ds) y u he ry
  refine SeqAt.in_tuple_reads r2 r1 se sd ?_ ⟨.bl _, H, I, rfl, q⟩
  have : min (PyData.depthAll ds) d.depth ≤ 60 := Nat.le_trans (Nat.min_le_left _ _) sp
  omega
end
/-! ### tuple * 0, tuple * 1 -/
section
variable {X : Cx}
theorem tuple_mul1 (l : Addr) (items : Array Value) (n : Nat) (dd : Option Addr) (sl : Array (Option Value)) (u : Tok) (hne : items.isEmpty = false) :
    Meets (Builtin.«tuple.__mul__» ⟨[.ref l, .int 1 u], []⟩) (fun _ R s => s.heap.get? l = some { cls := .type "tuple", dict := dd, data := .seq items n, slots := sl } ∧
      R (.ok (.ret (Value.ref l))) s) :=
  .of_wp fun prog w A R s h => by
    obtain ⟨hp, g, d, tk, os⟩ := s
    obtain ⟨hl, h⟩ := h
    have f1 := AutoSeq1.idx_int
    wp_walk using wpAny_loadPart' hl
    exact ⟨_, rfl, h⟩
theorem tuple_mul0 (l : Addr) (items : Array Value) (n : Nat) (dd : Option Addr) (sl : Array (Option Value)) (u : Tok) (hne : items.isEmpty = false) :
    Meets (Builtin.«tuple.__mul__» ⟨[.ref l, .int 0 u], []⟩) (fun _ R s => s.heap.get? l = some { cls := .type "tuple", dict := dd, data := .seq items n, slots := sl } ∧
      R (.ok (.ret (Value.ref s.heap.objs.size))) { s with heap := s.heap.push { cls := Value.type "tuple", data := Data.seq #[] } }) :=
  .of_wp fun prog w A R s h => by
    obtain ⟨hp, g, d, tk, os⟩ := s
    obtain ⟨hl, h⟩ := h
    have f1 := AutoSeq1.idx_int
    have c1 : (items.isEmpty || (0 : Int) == 1) = false := by rw [hne]; rfl
    wp_walk using wpAny_loadPart' hl
    repeat (first
      | (refine wpAny_ite_false (decide_eq_false (by rw [c1]; exact Bool.false_ne_true)) ?_; wp_walk using wpAny_loadPart' hl))
    exact ⟨_, rfl, h⟩
def rRepA (K : PySem.W.Frag) : R2 := fun x y H Q => ∃ l k xs, x = .ref l ∧ y = .int k ∧ SqT K H l xs ∧ xs ≠ [] ∧ 0 ≤ k ∧ k ≤ 1000 ∧ xs.length ≤ 1000 ∧
  (k = 1 → Q (.ref l) H) ∧ (k ≠ 1 → ∀ p, H p = none → Q (.ref p) (upd H p (.tup (List.replicate k.toNat xs).flatten)))
theorem op_repA : OpR X (binaryOp .Mult) (rRepA X.K) := by
  intro pins s σ H x y v u Q I rx ry h
  obtain ⟨l, k, xs, rfl, rfl, hT, hne, h1, h2, hz, q1, q2⟩ := h
  by_cases h2k : 2 ≤ k
  · exact op_repT pins s σ H _ _ v u Q I rx ry ⟨l, k, xs, rfl, rfl, hT, hne, h2k, h2, hz, q2 (by omega)⟩
  cases rx
  obtain ⟨t, rfl⟩ := ry
  obtain ⟨its, r, ⟨⟨cls, dd, data, sl⟩, ho, hc, n, hd⟩, hs⟩ := I.tuple hT
  simp only at hc hd
  subst hc hd
  have hle : its.length = xs.length := r.length.symm
  have hn : its ≠ [] := fun e => hne (by
    rw [e] at hle
    exact List.eq_nil_of_length_eq_zero hle.symm)
  have hi : its.toArray.isEmpty = false := by
    cases its with
    | nil => exact absurd rfl hn
    | cons a b => rfl
  by_cases hk : k = 1
  · subst hk
    exact wpAny_binaryOp_repeat_ref (T := "tuple") (U := "int") (by decide) ⟨_, ho, rfl⟩ (fun s' => typeIs_int s' 1 t) noFill_tuple_mul F.fills_int_mul F.slot_int_rmul repeat_tuple F.slot_int_index.lookup
      (call_meets F.slot_int_rmul (typeIs_int s 1 t) F.entry_int_rmul (F.args_int_rmul_2 _ _) (int_rmul_tuple 1 t l its.toArray n dd sl)
        ⟨ho, rfl, ⟨_, ho, rfl⟩, call_meets F.slot_tuple_mul ⟨_, ho, rfl⟩ F.entry_tuple_mul (F.args_tuple_mul_2 _ _) (tuple_mul1 l its.toArray n dd sl t hi) ⟨ho, ⟨.ref l, H, I, rfl, q1 rfl⟩⟩⟩)
  · have hk0 : k = 0 := by omega
    subst hk0
    refine wpAny_binaryOp_repeat_ref (T := "tuple") (U := "int") (by decide) ⟨_, ho, rfl⟩ (fun s' => typeIs_int s' 0 t) noFill_tuple_mul F.fills_int_mul F.slot_int_rmul repeat_tuple F.slot_int_index.lookup
      (call_meets F.slot_int_rmul (typeIs_int s 0 t) F.entry_int_rmul (F.args_int_rmul_2 _ _) (int_rmul_tuple 0 t l its.toArray n dd sl)
        ⟨ho, rfl, ⟨_, ho, rfl⟩, call_meets F.slot_tuple_mul ⟨_, ho, rfl⟩ F.entry_tuple_mul (F.args_tuple_mul_2 _ _) (tuple_mul0 l its.toArray n dd sl t hi) ⟨ho, ?_⟩⟩)
    exact ⟨.ref s.heap.objs.size, _, I.laid (t' := s.toks) (o := .tup []) (fun b ob q => Heap.get?_push_of_some _ q) (Nat.le_refl _) ⟨Nat.zero_le _, [], .nil, IsTup.new _ _⟩, rfl, q2 (by omega) _ (I.hok.fresh (Nat.le_refl _))⟩
end
/-! ### f(k = v, ..) -/
section
variable {X : Cx} {CX : CXT} {k n : Nat} {f : Addr} {fd : FuncData} {ps ks : List Str} {sp : Sp} {E : XK} {x : Str} {p pos : Pos} {kws : List Keyword} {tk : TA} {g : List Value → List Value → List Value} {gV : List V → List V → List V}
theorem pe_callN0 (F : FnOk X.prog X.w X.K X.mg X.base CX k f fd ps sp) (hr : Room k X.A) (hg : Gl X x) (hm : X.mg x = some (.ref f)) (hk : PySem.W.keepIn X.K (.ref f) = true) (hb : KBn X.K fd ps 0 ks g gV) (hx : Passes CX X E)
    (hkw : PK X kws tk) (hall : (backToKw pos (keywordEach kws X.env)).all (·.1.isSome) = true := by rfl) (hks : (backToKw pos (keywordEach kws X.env)).filterMap (·.1) = ks := by rfl)
    (hdb : (x == ("__debug__" : Str)) = false := by decide)
    (hpl : ((backTo pos (starEach [] X.env)).any (·.1) || (backToKw pos (keywordEach kws X.env)).any (·.1.isNone)) = false := by rfl) :
    PE X (.Call (.Name x p) [] kws pos) (tCallN 0 ks.length sp gV E tNil tk) := by
  refine ⟨fun pins s σ H Q I h => ?_⟩
  refine wpAny_Call_Name_kw (ld_glob I hg hm ?_ hdb)
  refine PySem.W.callWith_KW0 (h₀ := X.base) I.ok.mod.kin hk hall (thn (hkw.run pos pins s σ H _ I h) fun ws s2 ⟨zs, H2, I2, rz, l1, l2, q2⟩ => ⟨I2.kIn, ?_⟩) hpl
  rw [hks]
  exact run_fnN F hr hb hx I2 .nil rz l1 l2 q2
/-- the keywords picture = .., figures = .. of a def of (figures, picture) -/
def swapK {α : Type} : List α → List α → List α
  | _, [a, b] => [b, a]
  | us, _ => us
theorem kb_swap {K : PySem.W.Frag} {fd : FuncData} {a b : Str} (h : ∀ v w : Value, bindArgs fd ⟨[], [(b, v), (a, w)]⟩ = pure [(a, w), (b, v)]) : KBn K fd [a, b] 0 [b, a] swapK swapK where
  to := fun s us ws _ l1 l2 => by
    match us, ws, l1, l2 with
    | [], [v, w], _, _ => exact .of_eq (h v w)
  rel := fun {vs us zs ws} r rz => by
    cases rz with
    | nil => exact r
    | cons r1 t1 =>
      cases t1 with
      | nil => exact r
      | cons r2 t2 =>
        cases t2 with
        | nil => exact .cons r2 (.cons r1 .nil)
        | cons r3 t3 => exact r
end
/-! ### dicts whose keys are tuples: dict(pairs), d.update(e), d.pop(k) -/
def mergeT (kvs more : List (List Key × V)) : List (List Key × V) := more.foldl (fun acc kv => putK acc kv.1 kv.2) kvs
theorem length_mergeT : ∀ (more kvs : List (List Key × V)), (mergeT kvs more).length ≤ kvs.length + more.length
  | [], kvs => by show kvs.length ≤ kvs.length + 0; omega
  | p :: r, kvs => by
    have h1 := length_mergeT r (putK kvs p.1 p.2)
    have h2 := length_putK kvs p.1 p.2
    show (mergeT (putK kvs p.1 p.2) r).length ≤ _
    rw [List.length_cons]; omega
theorem KT.merge {H : Hp} : ∀ {more : List (List Key × V)} {ys : List (List Key × Addr × Value)} {kvs : List (List Key × V)} {xs : List (List Key × Addr × Value)}, KT H more ys → KT H kvs xs → KT H (mergeT kvs more) (storedAllH xs ys) := by
  intro more ys kvs xs r
  induction r generalizing kvs xs with
  | nil => intro q; exact q
  | @cons p q ps qs h t ih =>
    intro r0
    obtain ⟨h1, h2, h3⟩ := h
    have e : KT H (putK kvs p.1 p.2) (storedH xs q.1 q.2.1 q.2.2) := by
      rw [← h1]
      exact KT.put r0 p.1 h2 h3
    exact ih e
/-- an entry of dict(..): the pair's address, the key's, the key, the value -/
structure Ent where
  p : Addr
  b : Addr
  k : List Key
  v : V
def Ent.kv (e : Ent) : List Key × V := (e.k, e.v)
section
variable {X : Cx}
def EntOk (K : PySem.W.Frag) (H : Hp) (e : Ent) : Prop := SqT K H e.p [.ref e.b, e.v] ∧ H e.b = some (.tup (e.k.map kV))
theorem ents_of {pins : List (Addr × Obj)} {σ : L2.St} {H : Hp} {s : Shared} (I : Inv X pins σ H s) : ∀ es : List Ent, (∀ e ∈ es, EntOk X.K H e) →
    ∃ xs : List (List Key × Addr × Value), Paired (fun (e : Ent) (x : List Key × Addr × Value) => x.1 = e.k ∧ x.2.1 = e.b ∧ RelV e.v x.2.2 ∧ IsTup s.heap e.p #[.ref x.2.1, x.2.2]) es xs
  | [], _ => ⟨[], .nil⟩
  | e :: es, h => by
    obtain ⟨xs, r⟩ := ents_of I es fun e' he' => h e' (List.mem_cons_of_mem _ he')
    obtain ⟨h1, h2⟩ := h e List.mem_cons_self
    obtain ⟨its, rv, ht, _⟩ := I.tuple h1
    obtain ⟨u, y, ei, ru, ry⟩ := vals2 rv
    subst ei
    cases ru
    exact ⟨(e.k, e.b, y) :: xs, .cons ⟨rfl, rfl, ry, ht⟩ r⟩
theorem KT.of_ents {H : Hp} {h : Heap} : ∀ {es : List Ent} {xs : List (List Key × Addr × Value)}, Paired (fun (e : Ent) (x : List Key × Addr × Value) => x.1 = e.k ∧ x.2.1 = e.b ∧ RelV e.v x.2.2 ∧ IsTup h e.p #[.ref x.2.1, x.2.2]) es xs → (∀ e ∈ es, H e.b = some (.tup (e.k.map kV))) → KT H (es.map Ent.kv) xs
  | _, _, .nil, _ => .nil
  | _, _, .cons (a := e) (b := x) hh t, hb => by
    obtain ⟨h1, h2, h3, _⟩ := hh
    exact .cons ⟨h1.symm, by rw [h2]; exact hb e List.mem_cons_self, h3⟩ (KT.of_ents t fun e' he' => hb e' (List.mem_cons_of_mem _ he'))
def rDictPT (K : PySem.W.Frag) : List V → Hp → VK → Prop := fun xs H Q => ∃ (a : Addr) (es : List Ent), xs = [.ref a] ∧ SqL K H a (es.map fun e => V.ref e.p) ∧ (∀ e ∈ es, EntOk K H e) ∧
  ∀ p, H p = none → Q (.ref p) (upd H p (.dT (mergeT [] (es.map Ent.kv))))
theorem call_dictPT (hcalm : X.calm = true) (hu : X.A.units + 64 < cLine) : CallR X (.type "dict") (rDictPT X.K) := by
  intro pins s σ H xs us Q I r q
  obtain ⟨a, es, ex, hq, hp, q⟩ := q
  subst ex
  obtain ⟨u, eu, rx⟩ := vals1 r
  subst eu
  cases rx
  obtain ⟨its, rv, pl, hz⟩ := I.list hq
  have ei : its = (es.map Ent.p).map Value.ref := refs_at (by rw [List.map_map]; exact rv)
  subst ei
  rw [List.length_map] at hz
  obtain ⟨ys, rel⟩ := ents_of I es hp
  have hl : es.length = ys.length := Paired.length rel
  obtain ⟨o, n, ho, hc, hd, hdat⟩ := pl
  have kt : KT H (es.map Ent.kv) ys := KT.of_ents rel fun e he => (hp e he).2
  have kis : ∀ x ∈ ys, (tupleKind (mixKind X.prog X.w)).is s.heap x.1 x.2.1 := by
    have all : ∀ {l : List (List Key × V)} {m : List (List Key × Addr × Value)}, KT H l m → ∀ x ∈ m, (tupleKind (mixKind X.prog X.w)).is s.heap x.1 x.2.1 := by
      intro l m q
      induction q with
      | nil => intro x hx; exact nomatch hx
      | @cons p q ps qs hq t ih =>
        intro x hx
        rcases List.mem_cons.mp hx with e | hx
        · subst e
          exact key_of I.hok (by rw [← hq.1]; exact hq.2.1)
        · exact ih x hx
    exact all kt
  have at_ : ∀ (j : Nat) (x : List Key × Addr × Value), ys[j]? = some x → ∃ e, es[j]? = some e ∧ IsTup s.heap e.p #[.ref x.2.1, x.2.2] := fun j x hx => by
    obtain ⟨e, he, h⟩ := pget rel hx
    exact ⟨e, he, h.2.2.2⟩
  refine call_dict_pairsH (knd := tupleKind (mixKind X.prog X.w)) (ps := ys)
    (PairArg.list a ((es.map Ent.p).map Value.ref).toArray (fun j => ((es[j]?).map Ent.p).getD 0) (ys.map fun x => (Value.ref x.2.1, x.2.2))) (I.ok.hd hcalm) ?_ ⟨⟨o, n, ho, hc, hd, hdat⟩, ?_, fun j k v hj => ?_⟩ ⟨by simp, fun i key v hr => ?_⟩ (fun h' hk x hx => ?_) ?_ fun h' tk hd' hk => ?_
  · show X.A.in1.in1.units < cLine
    show X.A.units + 1 + 1 < cLine
    omega
  · simp [hl]
  · rw [List.getElem?_map] at hj
    obtain ⟨x, hx, e2⟩ := Option.map_eq_some_iff.mp hj
    obtain ⟨e, he, ht⟩ := at_ j x hx
    injection e2 with e3 e4
    subst e3 e4
    refine ⟨by simp [he], .inl ?_⟩
    show s.heap.IsTuple (((es[j]?).map Ent.p).getD 0) _
    rw [he]
    exact ht
  · have hr' : (ys.map fun x => (Value.ref x.2.1, x.2.2))[i]? = some (key, v) := hr
    rw [List.getElem?_map] at hr'
    obtain ⟨x, hx, e2⟩ := Option.map_eq_some_iff.mp hr'
    injection e2 with e3 e4
    subst e3 e4
    exact ⟨x.1, x.2.1, hx, rfl⟩
  · obtain ⟨ob, items, m, h1, h2, h3, h4⟩ := kis x hx
    exact ⟨ob, items, m, hk _ _ (Nat.ne_of_lt (Heap.lt_size h1)) (by simp) h1, h2, h3, h4⟩
  · simp only [List.length_map]
    rw [← hl]
    simpa using hz
  · have hm : (s.heap.objs.size == sysModules) = false := beq_eq_false_iff_ne.mpr (Nat.ne_of_gt I.big)
    have hlen : (mergeT [] (es.map Ent.kv)).length ≤ sizeLine := by
      refine Nat.le_trans (length_mergeT _ []) ?_
      simpa using hz
    obtain ⟨q1, q2, q3, q4, q5, q6, q7, _, q8⟩ := hd'
    refine ⟨.ref s.heap.objs.size, upd H s.heap.objs.size (.dT (mergeT [] (es.map Ent.kv))), I.laid (t' := tk) (fun b o e => hk b o (by simp) e) (Nat.le_refl _) ⟨hlen, hm, storedAllH [] ys, ?_, q1, q2, q3, q4, q5, q6, q7, q8⟩, rfl, q _ (I.hok.fresh (Nat.le_refl _))⟩
    refine (KT.merge kt .nil).keeps fun c zs ec => ?_
    rw [upd_ne (ne_of_none ec (I.hok.fresh (Nat.le_refl _)))]
    exact ec
def rUpdT (P : Program) (w : World) : V → List V → Hp → VK → Prop := fun x xs H Q => ∃ (d o : Addr) (kvs more : List (List Key × V)), x = .ref d ∧ xs = [.ref o] ∧ H d = some (.dT kvs) ∧ H o = some (.dT more) ∧ d ≠ o ∧
  (kvs ≠ [] ∨ (more.map fun p => tupleKeyHash (mixKind P w) p.1).Nodup) ∧ kvs.length + more.length ≤ sizeLine ∧ Q .non (upd H d (.dT (mergeT kvs more)))
theorem mt_updT (hu : X.A.units + 64 < cLine) : MtR X "dict.update" (rUpdT X.prog X.w) := by
  intro pins s σ H x xs v us Q I rx rxs h
  obtain ⟨d, o, kvs, more, rfl, rfl, ha, hb, hne, hap, hsz, q⟩ := h
  cases rx
  have eu := Vals.ref1 rxs
  subst eu
  obtain ⟨z, hd, xs', rel, dd⟩ := dt_of I.hok ha
  obtain ⟨z2, hd2, ys', rel2, dd2⟩ := dt_of I.hok hb
  have l1 : kvs.length = xs'.length := Paired.length rel
  have l2 : more.length = ys'.length := Paired.length rel2
  have hash_eq : (ys'.map fun x => (tupleKind (mixKind X.prog X.w)).hash x.1) = more.map fun p => tupleKeyHash (mixKind X.prog X.w) p.1 := by
    have all : ∀ {l : List (List Key × V)} {m : List (List Key × Addr × Value)}, KT H l m → (m.map fun x => (tupleKind (mixKind X.prog X.w)).hash x.1) = l.map fun p => tupleKeyHash (mixKind X.prog X.w) p.1 := by
      intro l m q
      induction q with
      | nil => rfl
      | @cons p q ps qs hq t ih =>
        rw [List.map_cons, List.map_cons, ih, hq.1]
        rfl
    exact all rel2
  have tyk : ∀ x ∈ ys', s.TypeIs (.ref x.2.1) "tuple" := by
    have all : ∀ {l : List (List Key × V)} {m : List (List Key × Addr × Value)}, KT H l m → ∀ x ∈ m, s.TypeIs (.ref x.2.1) "tuple" := by
      intro l m q
      induction q with
      | nil => intro x hx; exact nomatch hx
      | @cons p q ps qs hq t ih =>
        intro x hx
        rcases List.mem_cons.mp hx with e | hx
        · subst e
          obtain ⟨_, its, r, ob, h1, h2, _⟩ := (show ObjOk X.prog X.w H s.heap x.2.1 (.tup (p.1.map kV)) from I.hok _ _ hq.2.1)
          exact ⟨ob, h1, h2⟩
        · exact ih x hx
    exact all rel2
  refine call_update_dictH (knd := tupleKind (mixKind X.prog X.w)) ?_ hne hd2 dd dd2 ?_ (by omega) fun h' hd' ho' hs' => ?_
  · show X.A.in1.units < cLine
    show X.A.units + 1 < cLine
    omega
  · rcases hap with e | e
    · refine .inl fun z => e ?_
      rw [z] at l1
      exact List.eq_nil_of_length_eq_zero l1
    · exact .inr ⟨tyk, by rw [hash_eq]; exact e⟩
  · obtain ⟨q1, q2, q3, q4, q5, q6, q7, _, q8⟩ := hd'
    have hlen : (mergeT kvs more).length ≤ sizeLine := Nat.le_trans (length_mergeT _ _) hsz
    refine ⟨.non, upd H d (.dT (mergeT kvs more)), d_write (t' := s.toks) I (by rw [ha]; exact True.intro) hs' ⟨q1, q4⟩ ⟨hlen, hd, storedAllH xs' ys', ?_, q1, q2, q3, q4, q5, q6, q7, q8⟩, rfl, q⟩
    refine (KT.merge rel2 rel).keeps fun c zs ec => ?_
    rw [upd_ne (ne_of ec ha (fun z => nomatch z))]
    exact ec
def rPop1T : V → List V → Hp → VK → Prop := fun x xs H Q => ∃ (a : Addr) (kvs : List (List Key × V)) (k : List Key) (b : Addr) (v : V), x = .ref a ∧ xs = [.ref b] ∧ H a = some (.dT kvs) ∧ H b = some (.tup (k.map kV)) ∧ valV kvs k = some v ∧
  Q v (upd H a (.dT (dropK kvs k)))
theorem withoutH_drop {α : Type} [DecidableEq α] (xs : List (α × Addr × Value)) (k : α) : withoutH xs k = xs.filter fun x => decide (x.1 ≠ k) := by
  first | rfl | (unfold withoutH; congr; funext x; simp)
theorem mt_pop1T (hu : X.A.units + 64 < cLine) : MtR X "dict.pop" rPop1T := by
  intro pins s σ H x xs v us Q I rx rxs h
  obtain ⟨a, kvs, k, b, v0, rfl, rfl, ha, hb, hv, q⟩ := h
  cases rx
  have eu := Vals.ref1 rxs
  subst eu
  obtain ⟨z, hd, xs', rel, dd⟩ := dt_of I.hok ha
  have r := rel.val k
  rw [hv] at r
  cases hp : atKey xs' k with
  | none =>
    rw [hp] at r
    exact (show False from r).elim
  | some p =>
    rw [hp] at r
    refine call_pop_heap (knd := tupleKind (mixKind X.prog X.w)) (more := []) (p := p) (.inl rfl) (PySem.F.args_dict_pop_2 _ _) ?_ (key_of I.hok hb) hd dd hp (fun h' dd' hs => ?_) (by rw [← Paired.length rel]; exact z)
    · show X.A.units + 1 < cLine
      omega
    · obtain ⟨o, es, ep, hq, h2, h3, h4, _, h5⟩ := dd'
      have I2 : Inv X pins σ (upd H a (.dT (dropK kvs k))) { s with heap := h', toks := s.toks + (tupleKind (mixKind X.prog X.w)).draws k } := by
        rw [withoutH_drop] at h4 h5
        exact d_write I (by rw [ha]; exact True.intro) hs ⟨o, hq⟩ ⟨Nat.le_trans (dropK_le kvs k) z, hd, _, (KT_drop k rel).keeps (fun c ys ec => (by rw [upd_ne (ne_of ec ha (fun z => nomatch z))]; exact ec)), o, es, ep, hq, h2, h3, h4, h5⟩
      exact ⟨v0, _, I2, r, q⟩
end
end Pl

namespace Pl
open PySem PySem.Spec PyProof.Rows L2
/-! ## The text, its defs -/
def top (i : Nat) : Stmt := PySem.Challenge.pw_planesplits_k92_whole_areas_edges_and_re.main.body.getD i (.Pass ⟨0, 0, 0, 0⟩)
def Lk (K : PySem.W.Frag) (f : Addr) (fd : FuncData) : Prop := ∃ oc od osl, K.lookup f = some ⟨oc, od, .func fd, osl⟩
/-- a def that can be called by its name: its promise at so many levels -/
structure Can (P : Program) (w : World) (K : PySem.W.Frag) (mg : Str → Option Value) (base : Heap) (k : Nat) (x : Str) (ps : List Str) (sp : Sp) : Prop where
  ex : ∃ (f : Addr) (fd : FuncData), FnOk P w K mg base CX0 k f fd ps sp ∧ mg x = some (.ref f) ∧ PySem.W.keepIn K (.ref f) = true ∧ Binds K fd ps [] ∧ Lk K f fd
theorem Can.mono {P : Program} {w : World} {K : PySem.W.Frag} {mg : Str → Option Value} {base : Heap} {j k : Nat} {x : Str} {ps : List Str} {sp : Sp} (c : Can P w K mg base j x ps sp) (h : j ≤ k) : Can P w K mg base k x ps sp := by
  obtain ⟨f, fd, h1, h2, h3, h4, h5⟩ := c.ex
  exact ⟨f, fd, h1.mono h, h2, h3, h4, h5⟩
theorem Can.imp {P : Program} {w : World} {K : PySem.W.Frag} {mg : Str → Option Value} {base : Heap} {k : Nat} {x : Str} {ps : List Str} {sp sp' : Sp} (c : Can P w K mg base k x ps sp) (h : ∀ vs H Q E, sp' vs H Q E → sp vs H Q E) : Can P w K mg base k x ps sp' := by
  obtain ⟨f, fd, h1, h2, h3, h4, h5⟩ := c.ex
  exact ⟨f, fd, h1.imp h, h2, h3, h4, h5⟩
section
variable {X : Cx} {k : Nat} {ps : List Str} {sp : Sp} {x : Str} {p pos : Pos} {e : Expr} {es : List Expr} {t : TA}
theorem pe_can (c : Can X.prog X.w X.K X.mg X.base k x ps sp) (hr : Room k X.A) (ha : PA X (e :: es) t) (hg : Gl X x := by rfl) (hdb : (x == ("__debug__" : Str)) = false := by decide)
    (he : starEach (e :: es) X.env = (false, eval e X.env) :: starEach es X.env := by rfl) (hpl : (backTo pos (starEach es X.env)).any (·.1) = false := by rfl) : PE X (.Call (.Name x p) (e :: es) [] pos) (tCall sp [] E0 t) := by
  obtain ⟨f, fd, h1, h2, h3, h4, _⟩ := c.ex
  exact pe_call h1 hr hg h2 h3 h4 .nil pass0 ha hdb he hpl
end
theorem FunD.lk {K : PySem.W.Frag} {x qual : Str} {params : Arguments} {body : List Stmt} {scope : Scope} {dvs : List V} {kws : List (Str × V)} {f : Addr} {fd : FuncData} (F : FunD K x qual params body scope dvs kws f fd) : Lk K f fd := by
  obtain ⟨oc, od, dV, kV, doc, pm, an, cdv, ct, osl, _, lk, _⟩ := F.ex
  exact ⟨oc, od, osl, lk⟩
/-- a def of the text as it stands behind the top -/
structure At (K : PySem.W.Frag) (mg : Str → Option Value) (x : Str) (st : Stmt) : Prop where
  ex : ∃ (f : Addr) (fd : FuncData), FunD K x x (defArgs st) (defBody st) (defScope st) [] [] f fd ∧ mg x = some (.ref f)
section
variable {P : Program} {w : World} {K : PySem.W.Frag} {mg : Str → Option Value} {base : Heap}
theorem At.can {x : Str} {st : Stmt} {N ps : List Str} {k : Nat} {sp : Sp} (a : At K mg x st) (S : FnScope N ps (defScope st)) (len : ∀ vs H Q E, sp vs H Q E → vs.length = ps.length)
    (bind : ∀ (kV doc pm : Value) (an : Option Addr) (cdv ct : Value) (us : List Value), us.length = ps.length → bindArgs (PySem.W.fnOf x x (defArgs st) (defBody st) (defScope st) .none kV doc pm an cdv ct) ⟨us, []⟩ = pure (ps.zip us))
    (hbody : ∀ (f : Addr) (cdv : Value) (A : Around) (outer : List Env) (s : Shared) (H : Hp) (vs : List V) (Q : VK) (E : XK), Room k (A.deeper (envOfC x (defScope st) s.heap.objs.size f cdv)) → sp vs H Q E →
      ∃ t, PSs (cxOf CX0 P w K mg base N x (defScope st) f cdv A outer s H E).nox (defBody st) t ∧ t { nx := fun _ H' => Q .non H', rt := Q } (start N vs) H) : Can P w K mg base (k + 1) x ps sp := by
  obtain ⟨f, fd, F, hm⟩ := a.ex
  refine ⟨f, fd, F.ok S len fun cdv A outer s H vs Q E hr h => ?_, hm, F.kp, F.bindsN bind, Pl.FunD.lk F⟩
  obtain ⟨t, h1, h2⟩ := hbody f cdv A outer s H vs Q E hr h
  exact ⟨t, h1.nox, h2⟩
end
/-- the built-in names that the text leaves alone -/
structure Bi (mg : Str → Option Value) : Prop where
  isi : mg "isinstance" = none
  int : mg "int" = none
  bool : mg "bool" = none
  tuple : mg "tuple" = none
  list : mg "list" = none
  dict : mg "dict" = none
  len : mg "len" = none
  sum : mg "sum" = none
  all : mg "all" = none
  enumerate : mg "enumerate" = none
  range : mg "range" = none
  zip : mg "zip" = none
  sorted : mg "sorted" = none
  min : mg "min" = none
/-! ## Heaps that grow -/
theorem same_new {H : Hp} {p : Addr} (h : H p = none) (o : HO) : Same H (upd H p o) := fun b u q => by rw [upd_ne (ne_of_none q h)]; exact q
/-- all as it was but the list at l -/
def SameB (l : Addr) (H H' : Hp) : Prop := ∀ b o, b ≠ l → H b = some o → H' b = some o
theorem SameB.refl (l : Addr) (H : Hp) : SameB l H H := fun _ _ _ h => h
theorem SameB.trans {l : Addr} {H H1 H2 : Hp} (a : SameB l H H1) (b : SameB l H1 H2) : SameB l H H2 := fun c o n h => b c o n (a c o n h)
theorem Same.b {H H' : Hp} (s : Same H H') (l : Addr) : SameB l H H' := fun c o _ h => s c o h
theorem SameB.upd {l : Addr} {H : Hp} {o : HO} : SameB l H (upd H l o) := fun c u n h => by rw [upd_ne n]; exact h
/-! ## Pictures in the heap -/
def bV (b : Bool) : V := .int (if b then 1 else 0)
def PicAt (H : Hp) : V → Pic → Prop
  | v, .leaf b => v = bV b
  | v, .node p q r s => ∃ (a : Addr) (v0 v1 v2 v3 : V), v = .ref a ∧ H a = some (.tup [v0, v1, v2, v3]) ∧ PicAt H v0 p ∧ PicAt H v1 q ∧ PicAt H v2 r ∧ PicAt H v3 s
def TupK (H H' : Hp) : Prop := ∀ b xs, H b = some (.tup xs) → H' b = some (.tup xs)
theorem Same.tk {H H' : Hp} (s : Same H H') : TupK H H' := fun b xs h => s b _ h
theorem SameB.tk {l : Addr} {H H' : Hp} (s : SameB l H H') {xs : List V} (hl : H l = some (.lst xs)) : TupK H H' := fun b ys h => s b _ (ne_of h hl (fun z => nomatch z)) h
theorem PicAt.mono {H H' : Hp} (k : TupK H H') : ∀ {P : Pic} {v : V}, PicAt H v P → PicAt H' v P
  | .leaf _, _, h => h
  | .node p q r s, v, h => by
    obtain ⟨a, v0, v1, v2, v3, e, h0, h1, h2, h3, h4⟩ := h
    exact ⟨a, v0, v1, v2, v3, e, k _ _ h0, h1.mono k, h2.mono k, h3.mono k, h4.mono k⟩
end Pl

namespace Pl
open PySem PySem.Spec PyProof.Rows L2
/-! ## Comparisons of data, the depth bounded on one side alone -/
section
variable {X : Cx}
def rEqM (K : PySem.W.Frag) : R2 := fun x y H Q => ∃ d e, Dp K H x d ∧ Dp K H y e ∧ d.canLay0 = true ∧ e.canLay0 = true ∧ min d.depth e.depth ≤ 60 ∧ Q (.bl (PyData.eqv d e)) H
def rNeM (K : PySem.W.Frag) : R2 := fun x y H Q => ∃ d e, Dp K H x d ∧ Dp K H y e ∧ d.canLay0 = true ∧ e.canLay0 = true ∧ min d.depth e.depth ≤ 60 ∧ Q (.bl (!PyData.eqv d e)) H
theorem op_eqM (hu : X.A.units + 64 < cLine) : OpR X (compareOp .Eq) (rEqM X.K) := by
  intro pins s σ H x y v u Q I rx ry h
  obtain ⟨d, e, hd, he, sd, se, hm, q⟩ := h
  obtain ⟨as, r1⟩ := Dp.reads I d x v hd rx
  obtain ⟨bs, r2⟩ := Dp.reads I e y u he ry
  exact SeqAt.compareEq_reads r1 r2 sd se (by omega) ⟨.bl _, H, I, rfl, q⟩
theorem op_neM (hu : X.A.units + 64 < cLine) : OpR X (compareOp .NotEq) (rNeM X.K) := by
  intro pins s σ H x y v u Q I rx ry h
  obtain ⟨d, e, hd, he, sd, se, hm, q⟩ := h
  obtain ⟨as, r1⟩ := Dp.reads I d x v hd rx
  obtain ⟨bs, r2⟩ := Dp.reads I e y u he ry
  exact SeqAt.compareNe_reads r1 r2 sd se (by omega) ⟨.bl _, H, I, rfl, q⟩
end
/-! ## A picture as data -/
def dat : Pic → PyData
  | .leaf b => .int (if b then 1 else 0)
  | .node p q r s => .tuple [dat p, dat q, dat r, dat s]
theorem dat_lay : ∀ P : Pic, (dat P).canLay0 = true
  | .leaf b => by simp [dat, PyData.canLay0]
  | .node p q r s => by simp [dat, PyData.canLay0, PyData.canLayAll0, dat_lay p, dat_lay q, dat_lay r, dat_lay s]
theorem dp_pic {K : PySem.W.Frag} {H : Hp} : ∀ {P : Pic} {v : V}, PicAt H v P → Dp K H v (dat P)
  | .leaf b, v, h => by
    have e : v = .int (if b then 1 else 0) := h
    subst e
    exact .int _
  | .node p q r s, v, h => by
    obtain ⟨a, v0, v1, v2, v3, e, h0, h1, h2, h3, h4⟩ := h
    subst e
    exact .tup (SqT.of h0) (.cons (dp_pic h1) (.cons (dp_pic h2) (.cons (dp_pic h3) (.cons (dp_pic h4) .nil))))
def isLeaf : Pic → Bool
  | .leaf _ => true
  | .node _ _ _ _ => false
def bI (b : Bool) : Int := if b then 1 else 0
theorem eqv_leaf (P : Pic) (b : Bool) : PyData.eqv (dat P) (.int (bI b)) = decide (P = .leaf b) := by
  cases P with
  | leaf c => cases b <;> cases c <;> simp [dat, PyData.eqv, bI]
  | node p q r s => simp [dat, PyData.eqv]
theorem leaf_eqv (P : Pic) (b : Bool) : PyData.eqv (.int (bI b)) (dat P) = decide (P = .leaf b) := by
  cases P with
  | leaf c => cases b <;> cases c <;> simp [dat, PyData.eqv, bI]
  | node p q r s => simp [dat, PyData.eqv]
theorem any01 (P : Pic) : ([PyData.int 0, PyData.int 1].any fun z => PyData.eqv z (dat P)) = isLeaf P := by
  cases P with
  | leaf c => cases c <;> simp [dat, PyData.eqv, isLeaf]
  | node p q r s => simp [dat, PyData.eqv, isLeaf]
theorem isLeaf_iff {P : Pic} (h : isLeaf P = true) : ∃ b, P = .leaf b := by
  cases P with
  | leaf b => exact ⟨b, rfl⟩
  | node p q r s => cases h
theorem isNode_iff {P : Pic} (h : isLeaf P = false) : ∃ p q r s, P = .node p q r s := by
  cases P with
  | leaf b => cases h
  | node p q r s => exact ⟨p, q, r, s, rfl⟩
section
variable {X : Cx}
theorem pc_of {op : CmpOp} {a b : Expr} {ta tb : TE} {r : R2} (ho : OpR X (compareOp op) r) (ha : PE X a ta) (hb : PE X b tb) : PC X op a b (tOp r ta tb) := by
  refine ⟨fun pins s σ H Q I h => ?_⟩
  exact thn (ha.run pins s σ H _ I h) fun v s1 ⟨x, H1, I1, r1, q1⟩ => thn (hb.run pins s1 σ H1 _ I1 q1) fun u s2 ⟨y, H2, I2, r2, q2⟩ => ho pins s2 σ H2 x y v u Q I2 r1 r2 q2
theorem pc_imp {op : CmpOp} {a b : Expr} {t u : TE} (c : PC X op a b t) (h : ∀ σ H Q, u σ H Q → t σ H Q) : PC X op a b u := ⟨fun pins s σ H Q I q => c.run pins s σ H Q I (h σ H Q q)⟩
theorem pe_imp {e : Expr} {t u : TE} (c : PE X e t) (h : ∀ σ H Q, u σ H Q → t σ H Q) : PE X e u := ⟨fun pins s σ H Q I q => c.run pins s σ H Q I (h σ H Q q)⟩
end
section
variable {X : Cx} {x : Str} {px p2 : Pos} {kk : Nat}
/-- name in (0, 1) -/
def tIn01 (i : Nat) : TE := fun σ H Q => ∃ v P, σ[i]? = some (some v) ∧ PicAt H v P ∧ ∀ H2, Same H H2 → Q (.bl (isLeaf P)) H2
theorem pc_in01 {e1 e2 : Expr} {i : Nat} (hu : X.A.units + 64 < cLine) (he : PE X (.Name x px) (tVar i)) (h1 : PE X e1 (tC (.int 0))) (h2 : PE X e2 (tC (.int 1)))
    (hs1 : starEach [e1, e2] X.env = (false, eval e1 X.env) :: starEach [e2] X.env := by rfl) (hs2 : starEach [e2] X.env = (false, eval e2 X.env) :: starEach [] X.env := by rfl) :
    PC X .In (.Name x px) (.Tuple [e1, e2] kk p2) (tIn01 i) := by
  refine pc_imp (pc_of (op_inT (X := X) hu) he (pe_tup (x1 := kk) (pos := p2) (pa_cons h1 (pa_cons h2 pa_nil hs2) hs1))) fun σ H Q h => ?_
  obtain ⟨v, P, hv, hP, q⟩ := h
  refine ⟨v, hv, by show 2 ≤ sizeLine; decide, fun p np => ?_⟩
  have s2 := same_new np (.tup [V.int 0, V.int 1])
  refine ⟨dat P, [.int 0, .int 1], dp_pic (hP.mono (Same.tk s2)), .tup (SqT.of upd_same) (.cons (.int 0) (.cons (.int 1) .nil)), dat_lay P, by decide, by decide, ?_⟩
  rw [any01]
  exact q _ s2
/-- name == 0, name == 1 -/
def tEqP (b : Bool) (i : Nat) : TE := fun σ H Q => ∃ v P, σ[i]? = some (some v) ∧ PicAt H v P ∧ Q (.bl (decide (P = .leaf b))) H
theorem pc_eqP (b : Bool) {e1 : Expr} {i : Nat} (hu : X.A.units + 64 < cLine) (he : PE X (.Name x px) (tVar i)) (h1 : PE X e1 (tC (.int (bI b)))) : PC X .Eq (.Name x px) e1 (tEqP b i) := by
  refine pc_imp (pc_of (op_eqM (X := X) hu) he h1) fun σ H Q h => ?_
  obtain ⟨v, P, hv, hP, q⟩ := h
  refine ⟨v, hv, dat P, .int (bI b), dp_pic hP, .int _, dat_lay P, by simp [PyData.canLay0], ?_, ?_⟩
  · simp [PyData.depth]
  · rw [eqv_leaf]
    exact q
def tNeP (b : Bool) (i : Nat) : TE := fun σ H Q => ∃ v P, σ[i]? = some (some v) ∧ PicAt H v P ∧ Q (.bl (!decide (P = .leaf b))) H
theorem pc_neP (b : Bool) {e1 : Expr} {i : Nat} (hu : X.A.units + 64 < cLine) (he : PE X (.Name x px) (tVar i)) (h1 : PE X e1 (tC (.int (bI b)))) : PC X .NotEq (.Name x px) e1 (tNeP b i) := by
  refine pc_imp (pc_of (op_neM (X := X) hu) he h1) fun σ H Q h => ?_
  obtain ⟨v, P, hv, hP, q⟩ := h
  refine ⟨v, hv, dat P, .int (bI b), dp_pic hP, .int _, dat_lay P, by simp [PyData.canLay0], ?_, ?_⟩
  · simp [PyData.depth]
  · rw [eqv_leaf]
    exact q
end
/-! ## Comprehensions whose element changes nothing -/
theorem wipe_set1 {σ : L2.St} {i : Nat} {x : Option V} : wipe ((wipe σ [i]).set i x) [i] = wipe σ [i] := by
  show ((σ.set i none).set i x).set i none = σ.set i none
  rw [List.set_set, List.set_set]
theorem TupK.trans {H H1 H2 : Hp} (a : TupK H H1) (b : TupK H1 H2) : TupK H H2 := fun c xs h => b c xs (a c xs h)
theorem tk_list {H : Hp} {D : Addr} {acc ys : List V} (h : H D = some (.lst acc)) : TupK H (upd H D (.lst ys)) := fun c xs e => by
  rw [upd_ne (ne_of e h (fun z => nomatch z))]
  exact e
theorem same_list {H1 H : Hp} {D : Addr} {ys : List V} (hD : H1 D = none) (s : Same H1 H) : Same H1 (upd H D (.lst ys)) := fun c o e => by
  rw [upd_ne (ne_of_none e hD)]
  exact s _ _ e
/-- the turns of a comprehension: the list at D so far, what is known of each -/
def LcP (Rel : Nat → V → Hp → Prop) (H1 : Hp) (D : Addr) (j : Nat) (H : Hp) : Prop := ∃ acc : List V, H D = some (.lst acc) ∧ acc.length = j ∧ Same H1 H ∧ ∀ m y, acc[m]? = some y → Rel m y H
theorem LcP.zero {Rel : Nat → V → Hp → Prop} {H1 : Hp} {D : Addr} (hD : H1 D = none) : LcP Rel H1 D 0 (upd H1 D (.lst [])) := ⟨[], upd_same, rfl, same_new hD _, by simp⟩
theorem LcP.next {Rel : Nat → V → Hp → Prop} (hmono : ∀ j y H H', TupK H H' → Rel j y H → Rel j y H') {H1 H H' : Hp} {D : Addr} {j : Nat} {y : V} (hD : H1 D = none) (hj : j < 10000) (h : LcP Rel H1 D j H) (s' : Same H H') (r : Rel j y H') :
    ∃ acc, H' D = some (.lst acc) ∧ acc.length < sizeLine ∧ LcP Rel H1 D (j + 1) (upd H' D (.lst (acc ++ [y]))) := by
  obtain ⟨acc, hacc, hl, s, hr⟩ := h
  have hacc' := s' _ _ hacc
  refine ⟨acc, hacc', by rw [hl, sizeLine_eq]; omega, acc ++ [y], upd_same, by rw [List.length_append, List.length_singleton, hl], same_list hD (s.trans s'), fun m z hm => ?_⟩
  have tk := tk_list (ys := acc ++ [y]) hacc'
  by_cases hlt : m < acc.length
  · rw [List.getElem?_append_left hlt] at hm
    exact hmono _ _ _ _ tk (hmono _ _ _ _ (Same.tk s') (hr m z hm))
  · rw [List.getElem?_append_right (by omega)] at hm
    have h0 : m - acc.length = 0 := by
      by_cases h0 : m - acc.length = 0
      · exact h0
      · rw [List.getElem?_eq_none (by simp; omega)] at hm
        cases hm
    rw [h0] at hm
    have ey : y = z := by simpa using hm
    subst ey
    have em : m = j := by omega
    subst em
    exact hmono _ _ _ _ tk r
/-- over a tuple, one name: what is known of each element -/
theorem lc_tup1 {K : PySem.W.Frag} {a : Addr} {xs : List V} {te : TE} {i : Nat} {σ : L2.St} {H1 : Hp} {D : Addr} {Qd : Hp → Prop} (Rel : Nat → V → Hp → Prop) (hmono : ∀ j y H H', TupK H H' → Rel j y H → Rel j y H')
    (hD : H1 D = none) (hT : H1 a = some (.tup xs)) (hz : xs.length ≤ 10000)
    (hs : ∀ (j : Nat) (x : V) (H : Hp) (k : V → Hp → Prop), xs[j]? = some x → Same H1 H → (∀ y H', Same H H' → Rel j y H' → k y H') → te ((wipe σ [i]).set i (some x)) H k)
    (hd : ∀ (H : Hp) (ys : List V), Same H1 H → H D = some (.lst ys) → ys.length = xs.length → (∀ j y, ys[j]? = some y → Rel j y H) → Qd H) :
    ∃ W : Nat → Nat → Hp → Prop, (∃ m, W 0 m (upd H1 D (.lst []))) ∧ ∀ i' m H, W i' m H →
      ((Itt K a).stop i' H ∧ Qd H) ∨ ((Itt K a).go i' H ∧ ∃ Nx : Hp → Prop, (∀ H', Nx H' → ∃ m', m' < m ∧ W (i' + 1) m' H') ∧ ∀ x H', (Itt K a).yld i' H x H' → gName i x (wipe σ [i]) H' fun σ2 H2 => wipe σ2 [i] = wipe σ [i] ∧ tYes σ2 H2 fun b H3 =>
        if b = true then te σ2 H3 fun y H4 => ∃ acc, H4 D = some (.lst acc) ∧ acc.length < sizeLine ∧ Nx (upd H4 D (.lst (acc ++ [y]))) else Nx H3) := by
  refine lc_tup (xs := xs) (LcP Rel H1 D) (LcP.zero hD) (fun j H _ h => ?_) (fun j x H hx h => ?_) (fun H h => ?_)
  · obtain ⟨acc, _, _, s, _⟩ := h
    exact SqT.of (s _ _ hT)
  · have s : Same H1 H := h.choose_spec.2.2.1
    refine ⟨wipe_set1, ?_⟩
    refine iteT (B := LcP Rel H1 D (j + 1) H) ?_
    refine hs j x H _ hx s fun y H' s' r => LcP.next hmono hD ?_ h s' r
    have := (List.getElem?_eq_some_iff.mp hx).1
    omega
  · obtain ⟨acc, hacc, hl, s, hr⟩ := h
    exact hd H acc s hacc hl hr
/-- over a list -/
theorem lc_list1 {K : PySem.W.Frag} {a : Addr} {xs : List V} {te : TE} {i : Nat} {σ : L2.St} {H1 : Hp} {D : Addr} {Qd : Hp → Prop} (Rel : Nat → V → Hp → Prop) (hmono : ∀ j y H H', TupK H H' → Rel j y H → Rel j y H')
    (hD : H1 D = none) (hT : H1 a = some (.lst xs)) (hz : xs.length ≤ 10000)
    (hs : ∀ (j : Nat) (x : V) (H : Hp) (k : V → Hp → Prop), xs[j]? = some x → Same H1 H → (∀ y H', Same H H' → Rel j y H' → k y H') → te ((wipe σ [i]).set i (some x)) H k)
    (hd : ∀ (H : Hp) (ys : List V), Same H1 H → H D = some (.lst ys) → ys.length = xs.length → (∀ j y, ys[j]? = some y → Rel j y H) → Qd H) :
    ∃ W : Nat → Nat → Hp → Prop, (∃ m, W 0 m (upd H1 D (.lst []))) ∧ ∀ i' m H, W i' m H →
      ((Itl K a).stop i' H ∧ Qd H) ∨ ((Itl K a).go i' H ∧ ∃ Nx : Hp → Prop, (∀ H', Nx H' → ∃ m', m' < m ∧ W (i' + 1) m' H') ∧ ∀ x H', (Itl K a).yld i' H x H' → gName i x (wipe σ [i]) H' fun σ2 H2 => wipe σ2 [i] = wipe σ [i] ∧ tYes σ2 H2 fun b H3 =>
        if b = true then te σ2 H3 fun y H4 => ∃ acc, H4 D = some (.lst acc) ∧ acc.length < sizeLine ∧ Nx (upd H4 D (.lst (acc ++ [y]))) else Nx H3) := by
  refine lc_list (xs := xs) (LcP Rel H1 D) (LcP.zero hD) (fun j H _ h => ?_) (fun j x H hx h => ?_) (fun H h => ?_)
  · obtain ⟨acc, _, _, s, _⟩ := h
    exact SqL.of (s _ _ hT)
  · have s : Same H1 H := h.choose_spec.2.2.1
    refine ⟨wipe_set1, ?_⟩
    refine iteT (B := LcP Rel H1 D (j + 1) H) ?_
    refine hs j x H _ hx s fun y H' s' r => LcP.next hmono hD ?_ h s' r
    have := (List.getElem?_eq_some_iff.mp hx).1
    omega
  · obtain ⟨acc, hacc, hl, s, hr⟩ := h
    exact hd H acc s hacc hl hr
/-- over a range -/
theorem lc_rng1 {n : Nat} {te : TE} {i : Nat} {σ : L2.St} {H1 : Hp} {D : Addr} {Qd : Hp → Prop} (Rel : Nat → V → Hp → Prop) (hmono : ∀ j y H H', TupK H H' → Rel j y H → Rel j y H')
    (hD : H1 D = none) (hz : n ≤ 10000)
    (hs : ∀ (j : Nat) (H : Hp) (k : V → Hp → Prop), j < n → Same H1 H → (∀ y H', Same H H' → Rel j y H' → k y H') → te ((wipe σ [i]).set i (some (.int (0 + (j : Int))))) H k)
    (hd : ∀ (H : Hp) (ys : List V), Same H1 H → H D = some (.lst ys) → ys.length = n → (∀ j y, ys[j]? = some y → Rel j y H) → Qd H) :
    ∃ W : Nat → Nat → Hp → Prop, (∃ m, W 0 m (upd H1 D (.lst []))) ∧ ∀ i' m H, W i' m H →
      ((Itr 0 n).stop i' H ∧ Qd H) ∨ ((Itr 0 n).go i' H ∧ ∃ Nx : Hp → Prop, (∀ H', Nx H' → ∃ m', m' < m ∧ W (i' + 1) m' H') ∧ ∀ x H', (Itr 0 n).yld i' H x H' → gName i x (wipe σ [i]) H' fun σ2 H2 => wipe σ2 [i] = wipe σ [i] ∧ tYes σ2 H2 fun b H3 =>
        if b = true then te σ2 H3 fun y H4 => ∃ acc, H4 D = some (.lst acc) ∧ acc.length < sizeLine ∧ Nx (upd H4 D (.lst (acc ++ [y]))) else Nx H3) := by
  refine lc_it walk_range (LcP Rel H1 D) (LcP.zero hD) (fun _ _ _ _ => trivial) (fun j x H H' hj h hy => ?_) (fun H h => ?_)
  · obtain ⟨rfl, rfl⟩ := hy
    have s : Same H1 H' := h.choose_spec.2.2.1
    refine ⟨wipe_set1, ?_⟩
    refine iteT (B := LcP Rel H1 D (j + 1) H') ?_
    exact hs j H' _ hj s fun y H'' s' r => LcP.next hmono hD (by omega) h s' r
  · obtain ⟨acc, hacc, hl, s, hr⟩ := h
    exact hd H acc s hacc hl hr
/-- four known values -/
theorem four_of {ys : List V} {v0 v1 v2 v3 : V} (hl : ys.length = 4) (h : ∀ (j : Nat) (y : V), ys[j]? = some y → [v0, v1, v2, v3][j]? = some y) : ys = [v0, v1, v2, v3] := by
  match ys, hl, h with
  | [a, b, c, d], _, h =>
    have e0 := h 0 a rfl
    have e1 := h 1 b rfl
    have e2 := h 2 c rfl
    have e3 := h 3 d rfl
    simp at e0 e1 e2 e3
    rw [e0, e1, e2, e3]
theorem list4 {ys : List V} (hl : ys.length = 4) : ∃ a b c d, ys = [a, b, c, d] := by
  match ys, hl with
  | [a, b, c, d], _ => exact ⟨a, b, c, d, rfl⟩
end Pl

namespace Pl
open PySem PySem.Spec PyProof.Rows L2
/-! ## Comprehensions over pairs -/
abbrev gPair (K : PySem.W.Frag) (i j : Nat) : TG := gTup K 2 (gCons (gName i) (gCons (gName j) gNil))
theorem set_ij {σ : L2.St} {i j : Nat} (hij : i ≠ j) (x y : Option V) : wipe (((wipe σ [i, j]).set i x).set j y) [i, j] = wipe σ [i, j] := by
  show (((((σ.set j none).set i none).set i x).set j y).set j none).set i none = (σ.set j none).set i none
  rw [List.set_set, List.set_set, List.set_comm _ _ hij, List.set_set, List.set_set]
theorem gPair_of {K : PySem.W.Frag} {i j : Nat} {t : Addr} {x y : V} {σ : L2.St} {H : Hp} {Q : L2.St → Hp → Prop} (h : H t = some (.tup [x, y])) (q : Q ((σ.set i (some x)).set j (some y)) H) : gPair K i j (.ref t) σ H Q :=
  ⟨t, [x, y], rfl, SqT.of h, rfl, x, [y], rfl, y, [], rfl, rfl, q⟩
theorem lc_pair1 {K : PySem.W.Frag} {J : It} {n : Nat} {G : Hp → Prop} {xs ys : Nat → Option V} (w : Walk J n G (YPair xs ys)) {te : TE} {i j : Nat} {σ : L2.St} {H1 : Hp} {D : Addr} {Qd : Hp → Prop} (hij : i ≠ j) (Rel : Nat → V → Hp → Prop) (hmono : ∀ j y H H', TupK H H' → Rel j y H → Rel j y H')
    (hD : H1 D = none) (hG : ∀ H, Same H1 H → G H) (hz : n ≤ 10000)
    (hs : ∀ (m : Nat) (x y : V) (H : Hp) (k : V → Hp → Prop), m < n → xs m = some x → ys m = some y → Same H1 H → (∀ z H', Same H H' → Rel m z H' → k z H') → te (((wipe σ [i, j]).set i (some x)).set j (some y)) H k)
    (hd : ∀ (H : Hp) (zs : List V), Same H1 H → H D = some (.lst zs) → zs.length = n → (∀ j y, zs[j]? = some y → Rel j y H) → Qd H) :
    ∃ W : Nat → Nat → Hp → Prop, (∃ m, W 0 m (upd H1 D (.lst []))) ∧ ∀ i' m H, W i' m H →
      (J.stop i' H ∧ Qd H) ∨ (J.go i' H ∧ ∃ Nx : Hp → Prop, (∀ H', Nx H' → ∃ m', m' < m ∧ W (i' + 1) m' H') ∧ ∀ x H', J.yld i' H x H' → gPair K i j x (wipe σ [i, j]) H' fun σ2 H2 => wipe σ2 [i, j] = wipe σ [i, j] ∧ tYes σ2 H2 fun b H3 =>
        if b = true then te σ2 H3 fun y H4 => ∃ acc, H4 D = some (.lst acc) ∧ acc.length < sizeLine ∧ Nx (upd H4 D (.lst (acc ++ [y]))) else Nx H3) := by
  refine lc_it w (LcP Rel H1 D) (LcP.zero hD) (fun m H _ h => ?_) (fun m x H H' hm h hy => ?_) (fun H h => ?_)
  · obtain ⟨acc, _, _, s, _⟩ := h
    exact hG H s
  · have s : Same H1 H := h.choose_spec.2.2.1
    obtain ⟨T, a, b, rfl, hT, rfl, ea, eb⟩ := hy
    have s1 := same_new hT (.tup [a, b])
    refine gPair_of upd_same ⟨set_ij hij _ _, ?_⟩
    refine iteT (B := LcP Rel H1 D (m + 1) (upd H T (.tup [a, b]))) ?_
    exact hs m a b _ _ hm ea eb (s.trans s1) fun z H'' s' r => LcP.next hmono hD (by omega) h (s1.trans s') r
  · obtain ⟨acc, hacc, hl, s, hr⟩ := h
    exact hd H acc s hacc hl hr
/-- over a tuple of pairs that stand -/
theorem lc_tup2 {K : PySem.W.Frag} {a : Addr} {ts : List Addr} {te : TE} {i j : Nat} {σ : L2.St} {H1 : Hp} {D : Addr} {Qd : Hp → Prop} (hij : i ≠ j) (Rel : Nat → V → Hp → Prop) (hmono : ∀ j y H H', TupK H H' → Rel j y H → Rel j y H')
    (hD : H1 D = none) (hT : H1 a = some (.tup (ts.map V.ref))) (hz : ts.length ≤ 10000) (xs ys : Nat → V) (hts : ∀ (m : Nat) (t : Addr), ts[m]? = some t → H1 t = some (.tup [xs m, ys m]))
    (hs : ∀ (m : Nat) (H : Hp) (k : V → Hp → Prop), m < ts.length → Same H1 H → (∀ z H', Same H H' → Rel m z H' → k z H') → te (((wipe σ [i, j]).set i (some (xs m))).set j (some (ys m))) H k)
    (hd : ∀ (H : Hp) (zs : List V), Same H1 H → H D = some (.lst zs) → zs.length = ts.length → (∀ j y, zs[j]? = some y → Rel j y H) → Qd H) :
    ∃ W : Nat → Nat → Hp → Prop, (∃ m, W 0 m (upd H1 D (.lst []))) ∧ ∀ i' m H, W i' m H →
      ((Itt K a).stop i' H ∧ Qd H) ∨ ((Itt K a).go i' H ∧ ∃ Nx : Hp → Prop, (∀ H', Nx H' → ∃ m', m' < m ∧ W (i' + 1) m' H') ∧ ∀ x H', (Itt K a).yld i' H x H' → gPair K i j x (wipe σ [i, j]) H' fun σ2 H2 => wipe σ2 [i, j] = wipe σ [i, j] ∧ tYes σ2 H2 fun b H3 =>
        if b = true then te σ2 H3 fun y H4 => ∃ acc, H4 D = some (.lst acc) ∧ acc.length < sizeLine ∧ Nx (upd H4 D (.lst (acc ++ [y]))) else Nx H3) := by
  refine lc_tup (xs := ts.map V.ref) (LcP Rel H1 D) (LcP.zero hD) (fun m H _ h => ?_) (fun m x H hx h => ?_) (fun H h => ?_)
  · obtain ⟨acc, _, _, s, _⟩ := h
    exact SqT.of (s _ _ hT)
  · have s : Same H1 H := h.choose_spec.2.2.1
    rw [List.getElem?_map] at hx
    obtain ⟨t, ht, rfl⟩ := Option.map_eq_some_iff.mp hx
    have hm := (List.getElem?_eq_some_iff.mp ht).1
    refine gPair_of (s _ _ (hts m t ht)) ⟨set_ij hij _ _, ?_⟩
    refine iteT (B := LcP Rel H1 D (m + 1) H) ?_
    exact hs m _ _ hm s fun z H'' s' r => LcP.next hmono hD (by omega) h s' r
  · obtain ⟨acc, hacc, hl, s, hr⟩ := h
    rw [List.length_map] at hl
    exact hd H acc s hacc hl hr
theorem walk_zipT {K : PySem.W.Frag} {a b : Addr} {xs ys : List V} {n : Nat} (hx : xs.length = n) (hy : ys.length = n) : Walk (RZ.ItzT K a b) n (fun H => SqT K H a xs ∧ SqT K H b ys) (YPair (fun i => xs[i]?) (fun i => ys[i]?)) := by
  subst hx
  refine ⟨fun i _ hi q => ?_, fun _ q => ⟨xs, ys, q.1, q.2, .inl (Nat.le_refl _)⟩, fun i H v H' _ q y => ?_⟩
  · have h2 : i < ys.length := by omega
    exact ⟨xs, ys, xs[i], ys[i], q.1, q.2, by simp [hi], by simp [h2]⟩
  · obtain ⟨T, x, z, h1, h2, h3, h4, h5⟩ := y
    exact ⟨T, x, z, h1, h2, h3, h4 xs q.1, h5 ys q.2⟩
end Pl

namespace Pl
open PySem PySem.Spec PyProof.Rows L2
/-! ## Places in the heap -/
def pkey (p : Pt) : List Key := [Sum.inl p.1, Sum.inl p.2]
def pvs (p : Pt) : List V := [.int p.1, .int p.2]
theorem pkey_kv (p : Pt) : (pkey p).map kV = pvs p := rfl
theorem pkey_inj {p q : Pt} (h : pkey p = pkey q) : p = q := by
  injection h with h1 h2
  injection h2 with h2 _
  injection h1 with h1
  injection h2 with h2
  exact Prod.ext h1 h2
def PtAt (H : Hp) (v : V) (p : Pt) : Prop := ∃ t, v = .ref t ∧ H t = some (.tup (pvs p))
theorem PtAt.mono {H H' : Hp} {v : V} {p : Pt} (k : TupK H H') (h : PtAt H v p) : PtAt H' v p := by
  obtain ⟨t, e, h⟩ := h
  exact ⟨t, e, k _ _ h⟩
def PtsAt (H : Hp) : List V → List Pt → Prop
  | [], [] => True
  | x :: xs, p :: ps => PtAt H x p ∧ PtsAt H xs ps
  | _, _ => False
theorem PtsAt.mono {H H' : Hp} (k : TupK H H') : ∀ {xs : List V} {ps : List Pt}, PtsAt H xs ps → PtsAt H' xs ps
  | [], [], _ => trivial
  | x :: xs, p :: ps, h => ⟨h.1.mono k, PtsAt.mono k h.2⟩
  | [], _ :: _, h => h.elim
  | _ :: _, [], h => h.elim
theorem PtsAt.len {H : Hp} : ∀ {xs : List V} {ps : List Pt}, PtsAt H xs ps → xs.length = ps.length
  | [], [], _ => rfl
  | x :: xs, p :: ps, h => by rw [List.length_cons, List.length_cons, PtsAt.len h.2]
  | [], _ :: _, h => h.elim
  | _ :: _, [], h => h.elim
theorem PtsAt.at {H : Hp} : ∀ {xs : List V} {ps : List Pt} {i : Nat} {x : V}, PtsAt H xs ps → xs[i]? = some x → ∃ p, ps[i]? = some p ∧ PtAt H x p
  | [], [], i, x, _, e => by simp at e
  | y :: xs, p :: ps, 0, x, h, e => by
    injection e with e
    subst e
    exact ⟨p, rfl, h.1⟩
  | y :: xs, p :: ps, i + 1, x, h, e => PtsAt.at (i := i) h.2 e
  | [], _ :: _, _, _, h, _ => h.elim
  | _ :: _, [], _, _, h, _ => h.elim
theorem PtsAt.snoc {H : Hp} {x : V} {p : Pt} (hx : PtAt H x p) : ∀ {xs : List V} {ps : List Pt}, PtsAt H xs ps → PtsAt H (xs ++ [x]) (ps ++ [p])
  | [], [], _ => ⟨hx, trivial⟩
  | y :: xs, q :: ps, h => ⟨h.1, PtsAt.snoc hx h.2⟩
  | [], _ :: _, h => h.elim
  | _ :: _, [], h => h.elim
theorem PtsAt.of_idx {H : Hp} : ∀ {xs : List V} {ps : List Pt}, xs.length = ps.length → (∀ (i : Nat) (x : V), xs[i]? = some x → ∀ p, ps[i]? = some p → PtAt H x p) → PtsAt H xs ps
  | [], [], _, _ => trivial
  | x :: xs, p :: ps, hl, h => ⟨h 0 x rfl p rfl, PtsAt.of_idx (by simpa using hl) fun i y e q eq => h (i + 1) y e q eq⟩
  | [], _ :: _, hl, _ => by simp at hl
  | _ :: _, [], hl, _ => by simp at hl
/-- a list of places -/
def LPts (H : Hp) (l : Addr) (ps : List Pt) : Prop := ∃ xs, H l = some (.lst xs) ∧ PtsAt H xs ps
theorem LPts.mono {H H' : Hp} {l : Addr} {ps : List Pt} (h : LPts H l ps) (s : Same H H') : LPts H' l ps := by
  obtain ⟨xs, e, h⟩ := h
  exact ⟨xs, s _ _ e, h.mono (Same.tk s)⟩
def datP (p : Pt) : PyData := .tuple [.int p.1, .int p.2]
theorem dp_pt {K : PySem.W.Frag} {H : Hp} {v : V} {p : Pt} (h : PtAt H v p) : Dp K H v (datP p) := by
  obtain ⟨t, rfl, h⟩ := h
  exact .tup (SqT.of h) (.cons (.int _) (.cons (.int _) .nil))
theorem dp_pts {K : PySem.W.Frag} {H : Hp} : ∀ {xs : List V} {ps : List Pt}, PtsAt H xs ps → DpAll K H xs (ps.map datP)
  | [], [], _ => .nil
  | x :: xs, p :: ps, h => .cons (dp_pt h.1) (dp_pts h.2)
  | [], _ :: _, h => h.elim
  | _ :: _, [], h => h.elim
theorem dp_lpts {K : PySem.W.Frag} {H : Hp} {l : Addr} {ps : List Pt} (h : LPts H l ps) : Dp K H (.ref l) (.list (ps.map datP)) := by
  obtain ⟨xs, e, h⟩ := h
  exact .lst (SqL.of e) (dp_pts h)
theorem lay_pts : ∀ ps : List Pt, PyData.canLayAll0 (ps.map datP) = true
  | [] => by simp [PyData.canLayAll0]
  | p :: ps => by
    rw [List.map_cons, PyData.canLayAll0, lay_pts ps]
    simp [datP, PyData.canLay0, PyData.canLayAll0]
theorem eqv_nil (ps : List Pt) : PyData.eqv (.list (ps.map datP)) (.list []) = ps.isEmpty := by
  cases ps <;> simp [PyData.eqv, PyData.eqvAll]
section
variable {X : Cx}
/-- a list of places == [] -/
theorem nil_read {K : PySem.W.Frag} {H : Hp} {l u : Addr} {ps : List Pt} {Q : VK} (h : LPts H l ps) (hu : H u = some (.lst [])) (q : Q (.bl ps.isEmpty) H) : rEqM K (.ref l) (.ref u) H Q := by
  refine ⟨_, .list [], dp_lpts h, .lst (SqL.of hu) .nil, by rw [PyData.canLay0]; exact lay_pts ps, by simp [PyData.canLay0, PyData.canLayAll0], ?_, ?_⟩
  · have : PyData.depth (.list []) = 1 := by simp [PyData.depth, PyData.depthAll]
    omega
  · rw [eqv_nil]
    exact q
theorem nnil_read {K : PySem.W.Frag} {H : Hp} {l u : Addr} {ps : List Pt} {Q : VK} (h : LPts H l ps) (hu : H u = some (.lst [])) (q : Q (.bl (!ps.isEmpty)) H) : rNeM K (.ref l) (.ref u) H Q := by
  refine ⟨_, .list [], dp_lpts h, .lst (SqL.of hu) .nil, by rw [PyData.canLay0]; exact lay_pts ps, by simp [PyData.canLay0, PyData.canLayAll0], ?_, ?_⟩
  · have : PyData.depth (.list []) = 1 := by simp [PyData.depth, PyData.depthAll]
    omega
  · rw [eqv_nil]
    exact q
end
/-! ## black_at, as it goes -/
def qi (n : Nat) (p : Pt) : Int := p.1 / 2 ^ n + 2 * (p.2 / 2 ^ n)
def qm (n : Nat) (p : Pt) : Pt := (p.1 % 2 ^ n, p.2 % 2 ^ n)
def qu (n : Nat) (ps : List Pt) (i : Nat) : List Pt := (ps.filter fun p => decide (qi n p = (i : Int))).map (qm n)
def bAt : Nat → List Pt → Pic
  | 0, ps => .leaf (!ps.isEmpty)
  | n + 1, ps => if ps = [] ∨ ps.length = 2 ^ (2 * (n + 1)) then .leaf (!ps.isEmpty) else mk4 (bAt n (qu n ps 0)) (bAt n (qu n ps 1)) (bAt n (qu n ps 2)) (bAt n (qu n ps 3))
def inq (n : Nat) (p : Pt) : Bool := decide (0 ≤ p.1) && (decide (p.1 < 2 ^ n) && (decide (0 ≤ p.2) && decide (p.2 < 2 ^ n)))
def okAt : Nat → List Pt → Bool
  | 0, ps => decide (ps.length ≤ 1)
  | n + 1, ps => (ps.isEmpty || decide (ps.length = 2 ^ (2 * (n + 1)))) || (ps.all (inq (n + 1)) && (okAt n (qu n ps 0) && (okAt n (qu n ps 1) && (okAt n (qu n ps 2) && okAt n (qu n ps 3)))))
theorem qi_lt {n : Nat} {p : Pt} (h : inq (n + 1) p = true) : ∃ i : Nat, i < 4 ∧ qi n p = (i : Int) := by
  simp only [inq, Bool.and_eq_true, decide_eq_true_eq] at h
  obtain ⟨h1, h2, h3, h4⟩ := h
  have e := two_succ n
  have e0 := two_pos n
  have a1 : 0 ≤ p.1 / 2 ^ n := Int.ediv_nonneg h1 (Int.le_of_lt e0)
  have a2 : p.1 / 2 ^ n < 2 := Int.ediv_lt_of_lt_mul e0 (by omega)
  have a3 : 0 ≤ p.2 / 2 ^ n := Int.ediv_nonneg h3 (Int.le_of_lt e0)
  have a4 : p.2 / 2 ^ n < 2 := Int.ediv_lt_of_lt_mul e0 (by omega)
  refine ⟨(qi n p).toNat, ?_, ?_⟩
  · unfold qi; omega
  · unfold qi; omega
theorem qu_take {n : Nat} {ps : List Pt} {i : Nat} {p : Pt} (h : ps[i]? = some p) (j : Nat) : qu n (ps.take (i + 1)) j = qu n (ps.take i) j ++ if qi n p = (j : Int) then [qm n p] else [] := by
  rw [qu, qu, List.take_add_one, h, Option.toList, List.filter_append, List.map_append]
  refine congrArg _ ?_
  rw [List.filter_cons, List.filter_nil]
  by_cases e : qi n p = (j : Int)
  · rw [if_pos e, if_pos (decide_eq_true e)]; rfl
  · rw [if_neg e, if_neg (by rw [decide_eq_false e]; decide)]; rfl
theorem qu_len (n : Nat) (ps : List Pt) (j : Nat) : (qu n ps j).length ≤ ps.length := by
  rw [qu, List.length_map]
  exact List.length_filter_le _ _
end Pl

namespace Pl
open PySem PySem.Spec PyProof.Rows L2
abbrev sIsInteger : Stmt := top 8
abbrev sIsBetween : Stmt := top 9
abbrev sRequireNumber : Stmt := top 10
abbrev sIsInSquare : Stmt := top 12
abbrev sIsPlace : Stmt := top 15
abbrev sRequireFigures : Stmt := top 16
section
variable {P : Program} {w : World} {K : PySem.W.Frag} {mg : Str → Option Value} {base : Heap}
/-! ### is_integer: asked of ints alone -/
def spIsInteger : Sp := fun vs H Q _ => ∃ i : Int, vs = [.int i] ∧ Q (.bl true) H
theorem scIsInteger : FnScope ["value"] ["value"] (defScope sIsInteger) := ⟨rfl, rfl, rfl, by decide +kernel, rfl, by decide +kernel, by decide +kernel⟩
theorem ok_is_integer (a : At K mg "is_integer" sIsInteger) (T : Bi mg) : Can P w K mg base 1 "is_integer" ["value"] spIsInteger := by
  refine a.can scIsInteger (fun vs H Q E h => ?_) (fun _ _ _ _ _ _ us hl => match us, hl with | [_], _ => rfl) (fun f cdv A outer s H vs Q E hr h => ?_)
  · obtain ⟨i, rfl, _⟩ := h
    rfl
  · obtain ⟨i, rfl, q⟩ := h
    refine ⟨_, pss_one (ps_ret (pe_and (pe_callB call_isi (by rfl) T.isi (by decide +kernel) (pa_cons (pv 0) (pa_cons (pe_bltn (v := .ty "int") (by rfl) T.int (by decide +kernel) rfl) pa_nil)))
      (pe_one (pe_not (pe_callB call_isi (by rfl) T.isi (by decide +kernel) (pa_cons (pv 0) (pa_cons (pe_bltn (v := .ty "bool") (by rfl) T.bool (by decide +kernel) rfl) pa_nil))))))), ?_⟩
    refine ⟨_, rfl, _, _, _, _, true, rfl, .ty _, .base (.int i), kit_ty (by decide +kernel), true, rfl, iteT ?_⟩
    exact ⟨_, rfl, _, _, _, _, false, rfl, .ty _, .base (.int i), kit_ty (by decide +kernel), false, rfl, q⟩
/-! ### is_between, require_number, require_figures: of ints within the bounds -/
def spIsBetween : Sp := fun vs H Q _ => ∃ i lo hi : Int, vs = [.int i, .int lo, .int hi] ∧ lo ≤ i ∧ i ≤ hi ∧ Q (.bl true) H
theorem scIsBetween : FnScope ["value", "low", "high"] ["value", "low", "high"] (defScope sIsBetween) := ⟨rfl, rfl, rfl, by decide +kernel, rfl, by decide +kernel, by decide +kernel⟩
theorem ok_is_between (a : At K mg "is_between" sIsBetween) (c : Can P w K mg base 1 "is_integer" ["value"] spIsInteger) : Can P w K mg base 2 "is_between" ["value", "low", "high"] spIsBetween := by
  refine a.can scIsBetween (fun vs H Q E h => ?_) (fun _ _ _ _ _ _ us hl => match us, hl with | [_, _, _], _ => rfl) (fun f cdv A outer s H vs Q E hr h => ?_)
  · obtain ⟨i, lo, hi, rfl, _⟩ := h
    rfl
  · obtain ⟨i, lo, hi, rfl, h1, h2, q⟩ := h
    refine ⟨_, pss_one (ps_ret (pe_and (pe_can c hr (pa_cons (pv 0) pa_nil)) (pe_one (pe_chain op_le op_le (pv 1) (pv 0) (pv 2))))), ?_⟩
    refine ⟨_, rfl, i, rfl, true, rfl, iteT ?_⟩
    refine ⟨_, rfl, _, rfl, _, _, rfl, rfl, true, congrArg V.bl (decide_eq_true h1), iteT ⟨_, rfl, _, _, rfl, rfl, ?_⟩⟩
    show Q (.bl (decide (i ≤ hi))) H
    rw [decide_eq_true h2]
    exact q
def spRequireNumber : Sp := fun vs H Q _ => ∃ (n : V) (i lo hi : Int), vs = [n, .int i, .int lo, .int hi] ∧ lo ≤ i ∧ i ≤ hi ∧ Q .non H
theorem scRequireNumber : FnScope ["name", "value", "low", "high"] ["name", "value", "low", "high"] (defScope sRequireNumber) := ⟨rfl, rfl, rfl, by decide +kernel, rfl, by decide +kernel, by decide +kernel⟩
theorem ok_require_number (a : At K mg "require_number" sRequireNumber) (c : Can P w K mg base 2 "is_between" ["value", "low", "high"] spIsBetween) : Can P w K mg base 3 "require_number" ["name", "value", "low", "high"] spRequireNumber := by
  refine a.can scRequireNumber (fun vs H Q E h => ?_) (fun _ _ _ _ _ _ us hl => match us, hl with | [_, _, _, _], _ => rfl) (fun f cdv A outer s H vs Q E hr h => ?_)
  · obtain ⟨n, i, lo, hi, rfl, _⟩ := h
    rfl
  · obtain ⟨n, i, lo, hi, rfl, h1, h2, q⟩ := h
    refine ⟨_, pss_one (ps_if (pt_not (pt_val (pe_can c hr (pa_cons (pv 1) (pa_cons (pv 2) (pa_cons (pv 3) pa_nil)))))) (pss_one ps_never) pss_nil), ?_⟩
    exact ⟨_, rfl, _, rfl, _, rfl, i, lo, hi, rfl, h1, h2, true, rfl, iteF q⟩
def spRequireFigures : Sp := fun vs H Q _ => ∃ n : Nat, vs = [.int (n : Int)] ∧ n ≤ 40 ∧ Q .non H
theorem scRequireFigures : FnScope ["figures"] ["figures"] (defScope sRequireFigures) := ⟨rfl, rfl, rfl, by decide +kernel, rfl, by decide +kernel, by decide +kernel⟩
theorem ok_require_figures {t : Tok} (a : At K mg "require_figures" sRequireFigures) (m : mg "MAX_SIDE" = some (.int 40 t)) (c : Can P w K mg base 3 "require_number" ["name", "value", "low", "high"] spRequireNumber) :
    Can P w K mg base 4 "require_figures" ["figures"] spRequireFigures := by
  refine a.can scRequireFigures (fun vs H Q E h => ?_) (fun _ _ _ _ _ _ us hl => match us, hl with | [_], _ => rfl) (fun f cdv A outer s H vs Q E hr h => ?_)
  · obtain ⟨n, rfl, _⟩ := h
    rfl
  · obtain ⟨n, rfl, h1, q⟩ := h
    refine ⟨_, pss_one (ps_expr (pe_can c hr (pa_cons pe_str (pa_cons (pv 0) (pa_cons pe_int (pa_cons (pe_glob (v := .int 40) (by rfl) m ⟨_, rfl⟩) pa_nil)))))), ?_⟩
    exact ⟨_, rfl, _, _, _, _, rfl, by omega, by omega, q⟩
end
end Pl

namespace Pl
open PySem PySem.Spec PyProof.Rows L2
abbrev sPartsIn : Stmt := top 18
abbrev sIsPlain : Stmt := top 25
abbrev sMade : Stmt := top 28
abbrev sNodeCount : Stmt := top 29
abbrev sChecked : Stmt := top 30
abbrev sOpposed : Stmt := top 33
abbrev sPlacedAnew : Stmt := top 38
abbrev sBlackCount : Stmt := top 41
abbrev sSortsIn : Stmt := top 45
section
variable {P : Program} {w : World} {K : PySem.W.Frag} {mg : Str → Option Value} {base : Heap}
/-- nothing can be asked at level 0 -/
theorem At.zero {x : Str} {st : Stmt} {ps : List Str} {sp : Sp} (a : At K mg x st) (bind : ∀ (kV doc pm : Value) (an : Option Addr) (cdv ct : Value) (us : List Value), us.length = ps.length → bindArgs (PySem.W.fnOf x x (defArgs st) (defBody st) (defScope st) .none kV doc pm an cdv ct) ⟨us, []⟩ = pure (ps.zip us))
    (no : ∀ vs H Q E, ¬ sp vs H Q E) : Can P w K mg base 0 x ps sp := by
  obtain ⟨f, fd, F, hm⟩ := a.ex
  exact ⟨f, fd, ⟨fun vs H Q E h => absurd h (no vs H Q E), fun A outer s H args us vs Q E _ _ _ _ h => absurd h (no vs H Q E)⟩, hm, F.kp, F.bindsN bind, Pl.FunD.lk F⟩
/-! ### parts_in -/
def spPartsIn : Sp := fun vs H Q _ => ∃ v S, vs = [v] ∧ PicAt H v S ∧ ∀ (a : Addr) (v0 v1 v2 v3 : V) (H' : Hp), Same H H' → H' a = some (.tup [v0, v1, v2, v3]) → PicAt H' v0 (part S 0) → PicAt H' v1 (part S 1) → PicAt H' v2 (part S 2) → PicAt H' v3 (part S 3) → Q (.ref a) H'
theorem scPartsIn : FnScope ["picture"] ["picture"] (defScope sPartsIn) := ⟨rfl, rfl, rfl, by decide +kernel, rfl, by decide +kernel, by decide +kernel⟩
theorem ok_parts_in (a : At K mg "parts_in" sPartsIn) : Can P w K mg base 1 "parts_in" ["picture"] spPartsIn := by
  refine a.can scPartsIn (fun vs H Q E h => ?_) (fun _ _ _ _ _ _ us hl => match us, hl with | [_], _ => rfl) (fun f cdv A outer s H vs Q E hr h => ?_)
  · obtain ⟨v, S, rfl, _⟩ := h
    rfl
  · obtain ⟨v, S, rfl, hP, q⟩ := h
    refine ⟨_, pss_one (ps_ret (pe_ifExp (pt_cmp (pc_in01 hr.units (pv 0) pe_int pe_int)) (pe_op op_repA (pe_tup (pa_cons (pv 0) pa_nil)) pe_int) (pv 0))), ?_⟩
    refine ⟨v, S, rfl, hP, fun H2 s2 => ⟨_, rfl, ?_⟩⟩
    refine ite2 (fun c => ?_) (fun c => ?_)
    · obtain ⟨b, rfl⟩ := isLeaf_iff c
      refine ⟨v, rfl, by show 1 ≤ sizeLine; decide, fun p np => ?_⟩
      have s3 := same_new np (.tup [v])
      refine ⟨p, 4, [v], rfl, rfl, SqT.of upd_same, by simp, by decide, by decide, by simp, (fun z => by cases z), fun _ p2 np2 => ?_⟩
      have s4 := s3.trans (same_new np2 (.tup (List.replicate (4 : Int).toNat [v]).flatten))
      exact q p2 v v v v _ (s2.trans s4) upd_same hP hP hP hP
    · obtain ⟨p, q', r, t, rfl⟩ := isNode_iff (Bool.eq_false_iff.mpr c)
      obtain ⟨a, v0, v1, v2, v3, rfl, h0, h1, h2, h3, h4⟩ := hP
      have k := Same.tk s2
      exact ⟨_, rfl, q a v0 v1 v2 v3 _ s2 (s2 _ _ h0) (h1.mono k) (h2.mono k) (h3.mono k) (h4.mono k)⟩
/-! ### node_count -/
def spNodeCount (d : Nat) : Sp := fun vs H Q _ => ∃ v S, vs = [v] ∧ PicAt H v S ∧ dp S < d ∧ ∀ H', Same H H' → Q (.int (cnt S : Int)) H'
theorem scNodeCount : FnScope ["picture", "part"] ["picture"] (defScope sNodeCount) := ⟨rfl, rfl, rfl, by decide +kernel, rfl, by decide +kernel, by decide +kernel⟩
theorem ok_node_count (a : At K mg "node_count" sNodeCount) (T : Bi mg) : ∀ d, Can P w K mg base d "node_count" ["picture"] (spNodeCount d)
  | 0 => a.zero (fun _ _ _ _ _ _ us hl => match us, hl with | [_], _ => rfl) fun vs H Q E ⟨v, S, _, _, h, _⟩ => absurd h (Nat.not_lt_zero _)
  | d + 1 => by
    have c := ok_node_count a T d
    refine a.can scNodeCount (fun vs H Q E h => ?_) (fun _ _ _ _ _ _ us hl => match us, hl with | [_], _ => rfl) (fun f cdv A outer s H vs Q E hr h => ?_)
    · obtain ⟨v, S, rfl, _⟩ := h
      rfl
    · obtain ⟨v, S, rfl, hP, hd, q⟩ := h
      refine ⟨_, pss_one (ps_ret (pe_ifExp (pt_cmp (pc_in01 hr.units (pv 0) pe_int pe_int)) pe_int
        (pe_op op_add pe_int (pe_callB (cr_sum rfl) (by rfl) T.sum (by decide +kernel) (pa_cons (pe_lc (own := [("part", 1)]) (g := gName 1) (tt := tYes) rfl scNodeCount.nd (pi_tup (pv 0))
          (blkOk_by (own := [("part", 1)]) (N := ["picture", "part"]) (sc := defScope sNodeCount) (by decide +kernel)) (fun _ _ _ _ _ => pg_name (i := 1) scNodeCount.nd rfl (Or.inl rfl)) (fun _ _ _ _ _ => pts_nil)
          (fun _ _ _ _ _ => pe_can c hr (pa_cons (pv 1) pa_nil))) pa_nil))))), ?_⟩
      refine ⟨v, S, rfl, hP, fun H2 s2 => ⟨_, rfl, ?_⟩⟩
      refine ite2 (fun cl => ?_) (fun cl => ?_)
      · obtain ⟨b, rfl⟩ := isLeaf_iff cl
        exact q _ s2
      · obtain ⟨p, q', r, t, rfl⟩ := isNode_iff (Bool.eq_false_iff.mpr cl)
        obtain ⟨ad, v0, v1, v2, v3, rfl, h0, h1, h2, h3, h4⟩ := hP
        simp only [dp] at hd
        refine ⟨_, rfl, ad, rfl, ⟨_, SqT.of (s2 _ _ h0)⟩, fun D hD => lc_tup1 (K := K) (fun j y _ => [V.int (cnt p : Int), V.int (cnt q' : Int), V.int (cnt r : Int), V.int (cnt t : Int)][j]? = some y) (fun _ _ _ _ _ h => h) hD (s2 _ _ h0) (by show 4 ≤ 10000; decide) (fun j x H3 k hx s3 hk => ?_) (fun H3 ys s3 hDl hl hys => ?_)⟩
        · have tk := (Same.tk s2).trans (Same.tk s3)
          refine ⟨_, rfl, ?_⟩
          match j, hx with
          | 0, hx => cases hx; exact ⟨v0, p, rfl, h1.mono tk, by omega, fun H' s' => hk _ _ s' rfl⟩
          | 1, hx => cases hx; exact ⟨v1, q', rfl, h2.mono tk, by omega, fun H' s' => hk _ _ s' rfl⟩
          | 2, hx => cases hx; exact ⟨v2, r, rfl, h3.mono tk, by omega, fun H' s' => hk _ _ s' rfl⟩
          | 3, hx => cases hx; exact ⟨v3, t, rfl, h4.mono tk, by omega, fun H' s' => hk _ _ s' rfl⟩
        · have e := four_of hl hys
          subst e
          refine ⟨D, [(cnt p : Int), (cnt q' : Int), (cnt r : Int), (cnt t : Int)], rfl, SqL.of hDl, _, _, rfl, rfl, ?_⟩
          have e2 : (1 : Int) + [(cnt p : Int), (cnt q' : Int), (cnt r : Int), (cnt t : Int)].sum = ((cnt (.node p q' r t) : Nat) : Int) := by
            simp only [cnt, List.sum_cons, List.sum_nil]
            omega
          show Q (.int ((1 : Int) + [(cnt p : Int), (cnt q' : Int), (cnt r : Int), (cnt t : Int)].sum)) H3
          rw [e2]
          exact q _ (s2.trans s3)
/-! ### checked -/
def spChecked (d : Nat) : Sp := fun vs H Q _ => ∃ v S, vs = [v] ∧ PicAt H v S ∧ dp S < d ∧ cnt S ≤ 4000 ∧ ∀ H', Same H H' → Q v H'
theorem scChecked : FnScope ["picture"] ["picture"] (defScope sChecked) := ⟨rfl, rfl, rfl, by decide +kernel, rfl, by decide +kernel, by decide +kernel⟩
theorem ok_checked {t : Tok} (a : At K mg "checked" sChecked) (m : mg "MAX_NODES" = some (.int 4000 t)) {d : Nat} (c : Can P w K mg base d "node_count" ["picture"] (spNodeCount d)) : Can P w K mg base (d + 1) "checked" ["picture"] (spChecked d) := by
  refine a.can scChecked (fun vs H Q E h => ?_) (fun _ _ _ _ _ _ us hl => match us, hl with | [_], _ => rfl) (fun f cdv A outer s H vs Q E hr h => ?_)
  · obtain ⟨v, S, rfl, _⟩ := h
    rfl
  · obtain ⟨v, S, rfl, hP, hd, hc, q⟩ := h
    refine ⟨_, pss_cons (ps_if (pt_cmpR op_gt (pe_can c hr (pa_cons (pv 0) pa_nil)) (pe_glob (v := .int 4000) (by rfl) m ⟨_, rfl⟩) (nomark _)) (pss_one ps_never) pss_nil) (pss_one (ps_ret (pv 0))), ?_⟩
    refine ⟨_, rfl, v, S, rfl, hP, hd, fun H' s' => ⟨_, _, rfl, rfl, false, ?_, iteF ?_⟩⟩
    · show V.bl (decide ((4000 : Int) < (cnt S : Int))) = .bl false
      rw [decide_eq_false (by omega)]
    · exact ⟨_, rfl, q H' s'⟩
/-! ### opposed -/
def spOpposed (d : Nat) : Sp := fun vs H Q _ => ∃ v S, vs = [v] ∧ PicAt H v S ∧ dp S < d ∧ ∀ v' H', Same H H' → PicAt H' v' (opp S) → Q v' H'
theorem scOpposed : FnScope ["picture", "part"] ["picture"] (defScope sOpposed) := ⟨rfl, rfl, rfl, by decide +kernel, rfl, by decide +kernel, by decide +kernel⟩
theorem ok_opposed (a : At K mg "opposed" sOpposed) (T : Bi mg) : ∀ d, Can P w K mg base d "opposed" ["picture"] (spOpposed d)
  | 0 => a.zero (fun _ _ _ _ _ _ us hl => match us, hl with | [_], _ => rfl) fun vs H Q E ⟨v, S, _, _, h, _⟩ => absurd h (Nat.not_lt_zero _)
  | d + 1 => by
    have c := ok_opposed a T d
    refine a.can scOpposed (fun vs H Q E h => ?_) (fun _ _ _ _ _ _ us hl => match us, hl with | [_], _ => rfl) (fun f cdv A outer s H vs Q E hr h => ?_)
    · obtain ⟨v, S, rfl, _⟩ := h
      rfl
    · obtain ⟨v, S, rfl, hP, hd, q⟩ := h
      refine ⟨_, pss_one (ps_ret (pe_ifExp (pt_cmp (pc_in01 hr.units (pv 0) pe_int pe_int)) (pe_op op_sub pe_int (pv 0))
        (pe_callTy call_tuple_of (by rfl) T.tuple (by decide +kernel) (pa_cons (pe_lc (own := [("part", 1)]) (g := gName 1) (tt := tYes) rfl scOpposed.nd (pi_tup (pv 0))
          (blkOk_by (own := [("part", 1)]) (N := ["picture", "part"]) (sc := defScope sOpposed) (by decide +kernel)) (fun _ _ _ _ _ => pg_name (i := 1) scOpposed.nd rfl (Or.inl rfl)) (fun _ _ _ _ _ => pts_nil)
          (fun _ _ _ _ _ => pe_can c hr (pa_cons (pv 1) pa_nil))) pa_nil)))), ?_⟩
      refine ⟨v, S, rfl, hP, fun H2 s2 => ⟨_, rfl, ?_⟩⟩
      refine ite2 (fun cl => ?_) (fun cl => ?_)
      · obtain ⟨b, rfl⟩ := isLeaf_iff cl
        have e : v = .int (if b then 1 else 0) := hP
        subst e
        refine ⟨_, rfl, _, _, rfl, rfl, q _ _ s2 ?_⟩
        cases b <;> rfl
      · obtain ⟨p, q', r, t, rfl⟩ := isNode_iff (Bool.eq_false_iff.mpr cl)
        obtain ⟨ad, v0, v1, v2, v3, rfl, h0, h1, h2, h3, h4⟩ := hP
        simp only [dp] at hd
        refine ⟨_, rfl, ad, rfl, ⟨_, SqT.of (s2 _ _ h0)⟩, fun D hD => lc_tup1 (K := K) (fun j y H => ∀ S', [opp p, opp q', opp r, opp t][j]? = some S' → PicAt H y S') (fun _ _ _ _ k h S' e => (h S' e).mono k) hD (s2 _ _ h0) (by show 4 ≤ 10000; decide) (fun j x H3 k hx s3 hk => ?_) (fun H3 ys s3 hDl hl hys => ?_)⟩
        · have tk := (Same.tk s2).trans (Same.tk s3)
          refine ⟨_, rfl, ?_⟩
          match j, hx with
          | 0, hx => cases hx; exact ⟨v0, p, rfl, h1.mono tk, by omega, fun v' H' s' hv => hk _ _ s' fun S' e => by cases e; exact hv⟩
          | 1, hx => cases hx; exact ⟨v1, q', rfl, h2.mono tk, by omega, fun v' H' s' hv => hk _ _ s' fun S' e => by cases e; exact hv⟩
          | 2, hx => cases hx; exact ⟨v2, r, rfl, h3.mono tk, by omega, fun v' H' s' hv => hk _ _ s' fun S' e => by cases e; exact hv⟩
          | 3, hx => cases hx; exact ⟨v3, t, rfl, h4.mono tk, by omega, fun v' H' s' hv => hk _ _ s' fun S' e => by cases e; exact hv⟩
        · obtain ⟨y0, y1, y2, y3, rfl⟩ := list4 hl
          refine ⟨D, _, rfl, .inl ⟨SqL.of hDl, fun l hl' => ?_⟩⟩
          have s4 := same_new hl' (.tup [y0, y1, y2, y3])
          have tk := Same.tk s4
          exact q _ _ (s2.trans (s3.trans s4)) ⟨l, y0, y1, y2, y3, rfl, upd_same, (hys 0 y0 rfl _ rfl).mono tk, (hys 1 y1 rfl _ rfl).mono tk, (hys 2 y2 rfl _ rfl).mono tk, (hys 3 y3 rfl _ rfl).mono tk⟩
/-! ### placed_anew -/
def spPlaced (d : Nat) : Sp := fun vs H Q _ => ∃ (v : V) (S : Pic) (o : Addr) (o0 o1 o2 o3 : Nat), vs = [v, .ref o] ∧ PicAt H v S ∧ dp S < d ∧ H o = some (.tup [.int (o0 : Int), .int (o1 : Int), .int (o2 : Int), .int (o3 : Int)]) ∧ o0 < 4 ∧ o1 < 4 ∧ o2 < 4 ∧ o3 < 4 ∧
  ∀ v' H', Same H H' → PicAt H' v' (pan o0 o1 o2 o3 S) → Q v' H'
theorem scPlaced : FnScope ["picture", "order", "number"] ["picture", "order"] (defScope sPlacedAnew) := ⟨rfl, rfl, rfl, by decide +kernel, rfl, by decide +kernel, by decide +kernel⟩
theorem at4 {v0 v1 v2 v3 : V} {n : Nat} (h : n < 4) : ∃ v, atI [v0, v1, v2, v3] (n : Int) = some v ∧ [v0, v1, v2, v3][n]? = some v := by
  match n, h with
  | 0, _ => exact ⟨v0, atI_nat rfl, rfl⟩
  | 1, _ => exact ⟨v1, atI_nat rfl, rfl⟩
  | 2, _ => exact ⟨v2, atI_nat rfl, rfl⟩
  | 3, _ => exact ⟨v3, atI_nat rfl, rfl⟩
theorem pic_sel {H : Hp} {v0 v1 v2 v3 v : V} {p q r s : Pic} (h1 : PicAt H v0 p) (h2 : PicAt H v1 q) (h3 : PicAt H v2 r) (h4 : PicAt H v3 s) {n : Nat} (hn : n < 4) (h : [v0, v1, v2, v3][n]? = some v) : PicAt H v (sel4 p q r s n) := by
  match n, hn with
  | 0, _ => cases h; exact h1
  | 1, _ => cases h; exact h2
  | 2, _ => cases h; exact h3
  | 3, _ => cases h; exact h4
theorem sel4_map (f : Pic → Pic) (p q r s : Pic) {n : Nat} (hn : n < 4) : f (sel4 p q r s n) = sel4 (f p) (f q) (f r) (f s) n := by
  match n, hn with
  | 0, _ => rfl
  | 1, _ => rfl
  | 2, _ => rfl
  | 3, _ => rfl
theorem sel4_dp {p q r s : Pic} {d n : Nat} (h : 1 + max (max (dp p) (dp q)) (max (dp r) (dp s)) < d + 1) (hn : n < 4) : dp (sel4 p q r s n) < d := by
  match n, hn with
  | 0, _ => show dp p < d; omega
  | 1, _ => show dp q < d; omega
  | 2, _ => show dp r < d; omega
  | 3, _ => show dp s < d; omega
theorem ok_placed_anew (a : At K mg "placed_anew" sPlacedAnew) (T : Bi mg) : ∀ d, Can P w K mg base d "placed_anew" ["picture", "order"] (spPlaced d)
  | 0 => a.zero (fun _ _ _ _ _ _ us hl => match us, hl with | [_, _], _ => rfl) fun vs H Q E ⟨v, S, _, _, _, _, _, _, _, h, _⟩ => absurd h (Nat.not_lt_zero _)
  | d + 1 => by
    have c := ok_placed_anew a T d
    refine a.can scPlaced (fun vs H Q E h => ?_) (fun _ _ _ _ _ _ us hl => match us, hl with | [_, _], _ => rfl) (fun f cdv A outer s H vs Q E hr h => ?_)
    · obtain ⟨v, S, o, _, _, _, _, rfl, _⟩ := h
      rfl
    · obtain ⟨v, S, o, o0, o1, o2, o3, rfl, hP, hd, ho, l0, l1, l2, l3, q⟩ := h
      refine ⟨_, pss_cons (ps_if (pt_cmp (pc_in01 hr.units (pv 0) pe_int pe_int)) (pss_one (ps_ret (pv 0))) pss_nil) (pss_one (ps_ret
        (pe_callTy call_tuple_of (by rfl) T.tuple (by decide +kernel) (pa_cons (pe_lc (own := [("number", 2)]) (g := gName 2) (tt := tYes) rfl scPlaced.nd (pi_tup (pv 1))
          (blkOk_by (own := [("number", 2)]) (N := ["picture", "order", "number"]) (sc := defScope sPlacedAnew) (by decide +kernel)) (fun _ _ _ _ _ => pg_name (i := 2) scPlaced.nd rfl (Or.inl rfl)) (fun _ _ _ _ _ => pts_nil)
          (fun _ _ _ _ _ => pe_can c hr (pa_cons (pe_ix (show IxR _ (rIxT K) from ix_tup) (pv 0) (pv 2) (fun _ _ => rfl)) (pa_cons (pv 1) pa_nil)))) pa_nil)))), ?_⟩
      refine ⟨v, S, rfl, hP, fun H2 s2 => ⟨_, rfl, ?_⟩⟩
      refine ite2 (fun cl => ?_) (fun cl => ?_)
      · obtain ⟨b, rfl⟩ := isLeaf_iff cl
        exact ⟨_, rfl, q _ _ s2 hP⟩
      · obtain ⟨p, q', r, t, rfl⟩ := isNode_iff (Bool.eq_false_iff.mpr cl)
        obtain ⟨ad, v0, v1, v2, v3, rfl, h0, h1, h2, h3, h4⟩ := hP
        simp only [dp] at hd
        refine ⟨_, rfl, o, rfl, ⟨_, SqT.of (s2 _ _ ho)⟩, fun D hD => lc_tup1 (K := K) (fun j y H => ∀ n, [o0, o1, o2, o3][j]? = some n → PicAt H y (sel4 (pan o0 o1 o2 o3 p) (pan o0 o1 o2 o3 q') (pan o0 o1 o2 o3 r) (pan o0 o1 o2 o3 t) n)) (fun _ _ _ _ k h S' e => (h S' e).mono k) hD (s2 _ _ ho) (by show 4 ≤ 10000; decide) (fun j x H3 k hx s3 hk => ?_) (fun H3 ys s3 hDl hl hys => ?_)⟩
        · have tk := (Same.tk s2).trans (Same.tk s3)
          obtain ⟨n, hn, hj, ex⟩ : ∃ n : Nat, n < 4 ∧ [o0, o1, o2, o3][j]? = some n ∧ x = .int (n : Int) := by
            match j, hx with
            | 0, hx => cases hx; exact ⟨o0, l0, rfl, rfl⟩
            | 1, hx => cases hx; exact ⟨o1, l1, rfl, rfl⟩
            | 2, hx => cases hx; exact ⟨o2, l2, rfl, rfl⟩
            | 3, hx => cases hx; exact ⟨o3, l3, rfl, rfl⟩
          subst ex
          obtain ⟨y, hy, hy2⟩ := at4 (v0 := v0) (v1 := v1) (v2 := v2) (v3 := v3) hn
          refine ⟨_, rfl, _, rfl, ad, _, _, y, rfl, rfl, SqT.of (s3 _ _ (s2 _ _ h0)), hy, _, rfl, y, sel4 p q' r t n, o, o0, o1, o2, o3, rfl, pic_sel (h1.mono tk) (h2.mono tk) (h3.mono tk) (h4.mono tk) hn hy2, sel4_dp hd hn, s3 _ _ (s2 _ _ ho), l0, l1, l2, l3, fun v' H' s' hv => hk _ _ s' fun m hm => ?_⟩
          rw [hj] at hm
          cases hm
          rw [← sel4_map (pan o0 o1 o2 o3) p q' r t hn]
          exact hv
        · obtain ⟨y0, y1, y2, y3, rfl⟩ := list4 hl
          refine ⟨D, _, rfl, .inl ⟨SqL.of hDl, fun l hl' => ?_⟩⟩
          have s4 := same_new hl' (.tup [y0, y1, y2, y3])
          have tk := Same.tk s4
          exact q _ _ (s2.trans (s3.trans s4)) ⟨l, y0, y1, y2, y3, rfl, upd_same, (hys 0 y0 rfl _ rfl).mono tk, (hys 1 y1 rfl _ rfl).mono tk, (hys 2 y2 rfl _ rfl).mono tk, (hys 3 y3 rfl _ rfl).mono tk⟩
/-! ### black_count -/
def spBlackCount (d : Nat) : Sp := fun vs H Q _ => ∃ (n : Nat) (v : V) (S : Pic), vs = [.int (n : Int), v] ∧ PicAt H v S ∧ dok n S = true ∧ n ≤ 40 ∧ n < d ∧ ∀ H', Same H H' → Q (.int (bc n S : Int)) H'
theorem scBlackCount : FnScope ["figures", "picture", "part"] ["figures", "picture"] (defScope sBlackCount) := ⟨rfl, rfl, rfl, by decide +kernel, rfl, by decide +kernel, by decide +kernel⟩
theorem ok_black_count (a : At K mg "black_count" sBlackCount) (T : Bi mg) : ∀ d, Can P w K mg base d "black_count" ["figures", "picture"] (spBlackCount d)
  | 0 => a.zero (fun _ _ _ _ _ _ us hl => match us, hl with | [_, _], _ => rfl) fun vs H Q E ⟨n, v, S, _, _, _, _, h, _⟩ => absurd h (Nat.not_lt_zero _)
  | d + 1 => by
    have c := ok_black_count a T d
    refine a.can scBlackCount (fun vs H Q E h => ?_) (fun _ _ _ _ _ _ us hl => match us, hl with | [_, _], _ => rfl) (fun f cdv A outer s H vs Q E hr h => ?_)
    · obtain ⟨n, v, S, rfl, _⟩ := h
      rfl
    · obtain ⟨n, v, S, rfl, hP, hok, h40, hd, q⟩ := h
      refine ⟨_, pss_cons (ps_if (pt_cmp (pc_in01 hr.units (pv 1) pe_int pe_int)) (pss_one (ps_ret (pe_op op_shl (pv 1) (pe_op op_mul pe_int (pv 0))))) pss_nil) (pss_one (ps_ret
        (pe_callB (cr_sum rfl) (by rfl) T.sum (by decide +kernel) (pa_cons (pe_lc (own := [("part", 2)]) (g := gName 2) (tt := tYes) rfl scBlackCount.nd (pi_tup (pv 1))
          (blkOk_by (own := [("part", 2)]) (N := ["figures", "picture", "part"]) (sc := defScope sBlackCount) (by decide +kernel)) (fun _ _ _ _ _ => pg_name (i := 2) scBlackCount.nd rfl (Or.inl rfl)) (fun _ _ _ _ _ => pts_nil)
          (fun _ _ _ _ _ => pe_can c hr (pa_cons (pe_op op_sub (pv 0) pe_int) (pa_cons (pv 2) pa_nil)))) pa_nil)))), ?_⟩
      refine ⟨v, S, rfl, hP, fun H2 s2 => ⟨_, rfl, ?_⟩⟩
      refine ite2 (fun cl => ?_) (fun cl => ?_)
      · obtain ⟨b, rfl⟩ := isLeaf_iff cl
        have e : v = .int (if b then 1 else 0) := hP
        subst e
        refine ⟨_, rfl, _, rfl, _, _, rfl, rfl, .inl ⟨by decide, by decide⟩, _, _, rfl, rfl, ⟨by omega, by omega, by cases b <;> decide⟩, ?_⟩
        have e2 : ((if b = true then (1 : Int) else 0) * 2 ^ (2 * (n : Int)).toNat) = ((bc n (.leaf b) : Nat) : Int) := by
          have e3 : (2 * (n : Int)).toNat = 2 * n := by omega
          rw [e3]
          cases b <;> simp [bc, b2n]
        show Q (.int ((if b = true then (1 : Int) else 0) * 2 ^ (2 * (n : Int)).toNat)) H2
        rw [e2]
        exact q _ s2
      · obtain ⟨p, q', r, t, rfl⟩ := isNode_iff (Bool.eq_false_iff.mpr cl)
        obtain ⟨ad, v0, v1, v2, v3, rfl, h0, h1, h2, h3, h4⟩ := hP
        cases n with
        | zero => simp [dok] at hok
        | succ n =>
        simp only [dok, Bool.and_eq_true] at hok
        obtain ⟨k1, k2, k3, k4⟩ := hok
        refine ⟨_, rfl, ad, rfl, ⟨_, SqT.of (s2 _ _ h0)⟩, fun D hD => lc_tup1 (K := K) (fun j y _ => [V.int (bc n p : Int), V.int (bc n q' : Int), V.int (bc n r : Int), V.int (bc n t : Int)][j]? = some y) (fun _ _ _ _ _ h => h) hD (s2 _ _ h0) (by show 4 ≤ 10000; decide) (fun j x H3 k hx s3 hk => ?_) (fun H3 ys s3 hDl hl hys => ?_)⟩
        · have tk := (Same.tk s2).trans (Same.tk s3)
          have en : ((n + 1 : Nat) : Int) - 1 = (n : Int) := by omega
          refine ⟨_, rfl, _, _, rfl, rfl, _, rfl, ?_⟩
          show spBlackCount d [V.int (((n + 1 : Nat) : Int) - 1), x] H3 k E0
          rw [en]
          match j, hx with
          | 0, hx => cases hx; exact ⟨n, v0, p, rfl, h1.mono tk, k1, by omega, by omega, fun H' s' => hk _ _ s' rfl⟩
          | 1, hx => cases hx; exact ⟨n, v1, q', rfl, h2.mono tk, k2, by omega, by omega, fun H' s' => hk _ _ s' rfl⟩
          | 2, hx => cases hx; exact ⟨n, v2, r, rfl, h3.mono tk, k3, by omega, by omega, fun H' s' => hk _ _ s' rfl⟩
          | 3, hx => cases hx; exact ⟨n, v3, t, rfl, h4.mono tk, k4, by omega, by omega, fun H' s' => hk _ _ s' rfl⟩
        · have e := four_of hl hys
          subst e
          refine ⟨D, [(bc n p : Int), (bc n q' : Int), (bc n r : Int), (bc n t : Int)], rfl, SqL.of hDl, ?_⟩
          have e2 : [(bc n p : Int), (bc n q' : Int), (bc n r : Int), (bc n t : Int)].sum = ((bc (n + 1) (.node p q' r t) : Nat) : Int) := by
            simp only [bc, List.sum_cons, List.sum_nil, Nat.add_sub_cancel]
            omega
          rw [e2]
          exact q _ (s2.trans s3)
end
end Pl

namespace Pl
open PySem PySem.Spec PyProof.Rows L2
section
variable {P : Program} {w : World} {K : PySem.W.Frag} {mg : Str → Option Value} {base : Heap}
/-! ### sorts_in -/
def tri (S : Pic) : List V := [.int (sb S : Int), .int (sw S : Int), .int (ss S : Int)]
def TriAt (H : Hp) (y : V) (S : Pic) : Prop := ∃ a, y = .ref a ∧ H a = some (.tup (tri S))
theorem TriAt.mono {H H' : Hp} {y : V} {S : Pic} (h : TriAt H y S) (k : TupK H H') : TriAt H' y S := by
  obtain ⟨a, e, h⟩ := h
  exact ⟨a, e, k _ _ h⟩
def spSortsIn (d : Nat) : Sp := fun vs H Q _ => ∃ v S, vs = [v] ∧ PicAt H v S ∧ dp S < d ∧ ∀ v' H', Same H H' → TriAt H' v' S → Q v' H'
theorem scSortsIn : FnScope ["picture", "rows", "part", "row"] ["picture"] (defScope sSortsIn) := ⟨rfl, rfl, rfl, by decide +kernel, rfl, by decide +kernel, by decide +kernel⟩
theorem ok_sorts_in (a : At K mg "sorts_in" sSortsIn) (T : Bi mg) : ∀ d, Can P w K mg base d "sorts_in" ["picture"] (spSortsIn d)
  | 0 => a.zero (fun _ _ _ _ _ _ us hl => match us, hl with | [_], _ => rfl) fun vs H Q E ⟨v, S, _, _, h, _⟩ => absurd h (Nat.not_lt_zero _)
  | d + 1 => by
    have c := ok_sorts_in a T d
    refine a.can scSortsIn (fun vs H Q E h => ?_) (fun _ _ _ _ _ _ us hl => match us, hl with | [_], _ => rfl) (fun f cdv A outer s H vs Q E hr h => ?_)
    · obtain ⟨v, S, rfl, _⟩ := h
      rfl
    · obtain ⟨v, S, rfl, hP, hd, q⟩ := h
      refine ⟨_, pss_cons (ps_if (pt_cmp (pc_in01 hr.units (pv 0) pe_int pe_int)) (pss_one (ps_ret (pe_tup (pa_cons (pv 0) (pa_cons (pe_op op_sub pe_int (pv 0)) (pa_cons pe_int pa_nil)))))) pss_nil)
        (pss_cons (ps_setLc (i := 1) (own := [("part", 2)]) (g := gName 2) (tt := tYes) rfl scSortsIn.nd rfl rfl (sw_true rfl rfl rfl (by decide +kernel)) (pi_tup (pv 0))
          (blkOk_by (own := [("part", 2)]) (N := ["picture", "rows", "part", "row"]) (sc := defScope sSortsIn) (by decide +kernel)) (fun _ _ _ _ _ => pg_name (i := 2) scSortsIn.nd rfl (Or.inl rfl)) (fun _ _ _ _ _ => pts_nil)
          (fun _ _ _ _ _ => pe_can c hr (pa_cons (pv 2) pa_nil)))
        (pss_one (ps_ret (pe_tup
          (pa_cons (pe_callB (cr_sum rfl) (by rfl) T.sum (by decide +kernel) (pa_cons (pe_lc (own := [("row", 3)]) (g := gName 3) (tt := tYes) rfl scSortsIn.nd (pi_list (pv 1))
            (blkOk_by (own := [("row", 3)]) (N := ["picture", "rows", "part", "row"]) (sc := defScope sSortsIn) (by decide +kernel)) (fun _ _ _ _ _ => pg_name (i := 3) scSortsIn.nd rfl (Or.inl rfl)) (fun _ _ _ _ _ => pts_nil)
            (fun _ _ _ _ _ => pe_ix (show IxR _ (rIxT K) from ix_tup) (pv 3) pe_int (fun _ _ => rfl))) pa_nil))
          (pa_cons (pe_callB (cr_sum rfl) (by rfl) T.sum (by decide +kernel) (pa_cons (pe_lc (own := [("row", 3)]) (g := gName 3) (tt := tYes) rfl scSortsIn.nd (pi_list (pv 1))
            (blkOk_by (own := [("row", 3)]) (N := ["picture", "rows", "part", "row"]) (sc := defScope sSortsIn) (by decide +kernel)) (fun _ _ _ _ _ => pg_name (i := 3) scSortsIn.nd rfl (Or.inl rfl)) (fun _ _ _ _ _ => pts_nil)
            (fun _ _ _ _ _ => pe_ix (show IxR _ (rIxT K) from ix_tup) (pv 3) pe_int (fun _ _ => rfl))) pa_nil))
          (pa_cons (pe_op op_add pe_int (pe_callB (cr_sum rfl) (by rfl) T.sum (by decide +kernel) (pa_cons (pe_lc (own := [("row", 3)]) (g := gName 3) (tt := tYes) rfl scSortsIn.nd (pi_list (pv 1))
            (blkOk_by (own := [("row", 3)]) (N := ["picture", "rows", "part", "row"]) (sc := defScope sSortsIn) (by decide +kernel)) (fun _ _ _ _ _ => pg_name (i := 3) scSortsIn.nd rfl (Or.inl rfl)) (fun _ _ _ _ _ => pts_nil)
            (fun _ _ _ _ _ => pe_ix (show IxR _ (rIxT K) from ix_tup) (pv 3) pe_int (fun _ _ => rfl))) pa_nil))) pa_nil))))))), ?_⟩
      refine ⟨v, S, rfl, hP, fun H2 s2 => ⟨_, rfl, ?_⟩⟩
      refine ite2 (fun cl => ?_) (fun cl => ?_)
      · obtain ⟨b, rfl⟩ := isLeaf_iff cl
        have e : v = .int (if b then 1 else 0) := hP
        subst e
        refine ⟨_, rfl, _, rfl, _, _, rfl, rfl, by show 3 ≤ sizeLine; decide, fun t nt => q _ _ (s2.trans (same_new nt _)) ⟨t, rfl, ?_⟩⟩
        rw [upd_same]
        cases b <;> rfl
      · obtain ⟨p, q', r, t, rfl⟩ := isNode_iff (Bool.eq_false_iff.mpr cl)
        obtain ⟨ad, v0, v1, v2, v3, rfl, h0, h1, h2, h3, h4⟩ := hP
        simp only [dp] at hd
        refine ⟨_, rfl, ad, rfl, ⟨_, SqT.of (s2 _ _ h0)⟩, fun D hD => lc_tup1 (K := K) (fun j y H => ∀ S', [p, q', r, t][j]? = some S' → TriAt H y S') (fun _ _ _ _ k h S' e => (h S' e).mono k) hD (s2 _ _ h0) (by show 4 ≤ 10000; decide) (fun j x H3 k hx s3 hk => ?_) (fun H3 ys s3 hDl hl hys => ?_)⟩
        · have tk := (Same.tk s2).trans (Same.tk s3)
          refine ⟨_, rfl, ?_⟩
          match j, hx with
          | 0, hx => cases hx; exact ⟨v0, p, rfl, h1.mono tk, by omega, fun v' H' s' hv => hk _ _ s' fun S' e => by cases e; exact hv⟩
          | 1, hx => cases hx; exact ⟨v1, q', rfl, h2.mono tk, by omega, fun v' H' s' hv => hk _ _ s' fun S' e => by cases e; exact hv⟩
          | 2, hx => cases hx; exact ⟨v2, r, rfl, h3.mono tk, by omega, fun v' H' s' hv => hk _ _ s' fun S' e => by cases e; exact hv⟩
          | 3, hx => cases hx; exact ⟨v3, t, rfl, h4.mono tk, by omega, fun v' H' s' hv => hk _ _ s' fun S' e => by cases e; exact hv⟩
        · obtain ⟨y0, y1, y2, y3, rfl⟩ := list4 hl
          obtain ⟨a0, rfl, g0⟩ := hys 0 y0 rfl _ rfl
          obtain ⟨a1, rfl, g1⟩ := hys 1 y1 rfl _ rfl
          obtain ⟨a2, rfl, g2⟩ := hys 2 y2 rfl _ rfl
          obtain ⟨a3, rfl, g3⟩ := hys 3 y3 rfl _ rfl
          -- one of the three sums
          have col : ∀ (m : Nat) (z0 z1 z2 z3 : Int), (tri p)[m]? = some (.int z0) → (tri q')[m]? = some (.int z1) → (tri r)[m]? = some (.int z2) → (tri t)[m]? = some (.int z3) → ∀ (H4 : Hp), Same H3 H4 → ∀ (σ : L2.St), σ[1]? = some (some (V.ref D)) → σ.length = 4 → ∀ (Qs : V → Hp → Prop),
              (∀ H5, Same H4 H5 → Qs (.int ([z0, z1, z2, z3].sum)) H5) →
              tCB (rSum K) (tCons (tLc (iList K (tVar 1)) (gName 3) tYes (tOp (rIxT K) (tVar 3) (tC (.int (m : Int)))) [3]) tNil) σ H4 Qs := by
            intro m z0 z1 z2 z3 e0 e1 e2 e3 H4 s4 σ hσ hσl Qs hq
            refine ⟨_, hσ, D, rfl, ⟨_, SqL.of (s4 _ _ hDl)⟩, fun D2 hD2 => lc_list1 (K := K) (fun j y _ => [V.int z0, V.int z1, V.int z2, V.int z3][j]? = some y) (fun _ _ _ _ _ h => h) hD2 (s4 _ _ hDl) (by show 4 ≤ 10000; decide) (fun j x H5 k hx s5 hk => ?_) (fun H5 ys s5 hDl2 hl2 hys2 => ?_)⟩
            · have s45 := s4.trans s5
              have hw : ((wipe σ [3]).set 3 (some x))[3]? = some (some x) := by
                rw [List.getElem?_set_self]
                rw [wipe_length]
                omega
              refine ⟨x, hw, ?_⟩
              match j, hx with
              | 0, hx => cases hx; exact ⟨a0, _, _, _, rfl, rfl, SqT.of (s45 _ _ g0), atI_nat e0, hk _ _ (Same.refl _) rfl⟩
              | 1, hx => cases hx; exact ⟨a1, _, _, _, rfl, rfl, SqT.of (s45 _ _ g1), atI_nat e1, hk _ _ (Same.refl _) rfl⟩
              | 2, hx => cases hx; exact ⟨a2, _, _, _, rfl, rfl, SqT.of (s45 _ _ g2), atI_nat e2, hk _ _ (Same.refl _) rfl⟩
              | 3, hx => cases hx; exact ⟨a3, _, _, _, rfl, rfl, SqT.of (s45 _ _ g3), atI_nat e3, hk _ _ (Same.refl _) rfl⟩
            · have e := four_of hl2 hys2
              subst e
              exact ⟨D2, [z0, z1, z2, z3], rfl, SqL.of hDl2, hq _ s5⟩
          refine col 0 _ _ _ _ rfl rfl rfl rfl H3 (Same.refl _) _ rfl rfl _ fun H4 s4 => ?_
          refine col 1 _ _ _ _ rfl rfl rfl rfl H4 s4 _ rfl rfl _ fun H5 s5 => ?_
          refine col 2 _ _ _ _ rfl rfl rfl rfl H5 (s4.trans s5) _ rfl rfl _ fun H6 s6 => ?_
          refine ⟨_, _, rfl, rfl, by show 3 ≤ sizeLine; decide, fun u nu => ?_⟩
          refine q _ _ (s2.trans (s3.trans (s4.trans (s5.trans (s6.trans (same_new nu _)))))) ⟨u, rfl, ?_⟩
          rw [upd_same]
          have f1 : [(sb p : Int), (sb q' : Int), (sb r : Int), (sb t : Int)].sum = ((sb (.node p q' r t) : Nat) : Int) := by simp only [sb, List.sum_cons, List.sum_nil]; omega
          have f2 : [(sw p : Int), (sw q' : Int), (sw r : Int), (sw t : Int)].sum = ((sw (.node p q' r t) : Nat) : Int) := by simp only [sw, List.sum_cons, List.sum_nil]; omega
          have f3 : 1 + [(ss p : Int), (ss q' : Int), (ss r : Int), (ss t : Int)].sum = ((ss (.node p q' r t) : Nat) : Int) := by simp only [ss, List.sum_cons, List.sum_nil]; omega
          show some (HO.tup [V.int _, V.int _, V.int (1 + [(ss p : Int), (ss q' : Int), (ss r : Int), (ss t : Int)].sum)]) = _
          rw [f1, f2, f3]
          rfl
/-! ### is_plain -/
def spIsPlain : Sp := fun vs H Q _ => ∃ v S, vs = [v] ∧ PicAt H v S ∧ ∀ H', Same H H' → Q (.bl (isLeaf S)) H'
theorem scIsPlain : FnScope ["value"] ["value"] (defScope sIsPlain) := ⟨rfl, rfl, rfl, by decide +kernel, rfl, by decide +kernel, by decide +kernel⟩
theorem ok_is_plain (a : At K mg "is_plain" sIsPlain) (T : Bi mg) : Can P w K mg base 1 "is_plain" ["value"] spIsPlain := by
  refine a.can scIsPlain (fun vs H Q E h => ?_) (fun _ _ _ _ _ _ us hl => match us, hl with | [_], _ => rfl) (fun f cdv A outer s H vs Q E hr h => ?_)
  · obtain ⟨v, S, rfl, _⟩ := h
    rfl
  · obtain ⟨v, S, rfl, hP, q⟩ := h
    refine ⟨_, pss_one (ps_ret (pe_and (pe_callB call_isi (by rfl) T.isi (by decide +kernel) (pa_cons (pv 0) (pa_cons (pe_bltn (v := .ty "int") (by rfl) T.int (by decide +kernel) rfl) pa_nil)))
      (pe_and (pe_not (pe_callB call_isi (by rfl) T.isi (by decide +kernel) (pa_cons (pv 0) (pa_cons (pe_bltn (v := .ty "bool") (by rfl) T.bool (by decide +kernel) rfl) pa_nil))))
        (pe_one (pe_cmp (pc_in01 hr.units (pv 0) pe_int pe_int)))))), ?_⟩
    cases S with
    | leaf b =>
      have e : v = .int (if b then 1 else 0) := hP
      subst e
      refine ⟨_, rfl, _, _, _, _, true, rfl, .ty _, .base (.int _), kit_ty (by decide +kernel), true, rfl, iteT ?_⟩
      refine ⟨_, rfl, _, _, _, _, false, rfl, .ty _, .base (.int _), kit_ty (by decide +kernel), false, rfl, true, rfl, iteT ?_⟩
      exact ⟨_, .leaf b, rfl, rfl, fun H2 s2 => q _ s2⟩
    | node p q' r t =>
      obtain ⟨ad, v0, v1, v2, v3, rfl, h0, h1, h2, h3, h4⟩ := hP
      exact ⟨_, rfl, _, _, _, _, false, rfl, .ty _, .base (.tup h0), kit_ty (by decide +kernel), false, rfl, iteF (q _ (Same.refl _))⟩
/-! ### made -/
def spMade : Sp := fun vs H Q _ => ∃ l v0 v1 v2 v3 p q r t, vs = [.ref l] ∧ H l = some (.lst [v0, v1, v2, v3]) ∧ PicAt H v0 p ∧ PicAt H v1 q ∧ PicAt H v2 r ∧ PicAt H v3 t ∧ ∀ v' H', Same H H' → PicAt H' v' (mk4 p q r t) → Q v' H'
theorem scMade : FnScope ["parts", "found"] ["parts"] (defScope sMade) := ⟨rfl, rfl, rfl, by decide +kernel, rfl, by decide +kernel, by decide +kernel⟩
def d4 (b : Bool) : PyData := .tuple [.int (bI b), .int (bI b), .int (bI b), .int (bI b)]
theorem eqvT (xs ys : List PyData) : PyData.eqv (.tuple xs) (.tuple ys) = PyData.eqvAll xs ys := by rw [PyData.eqv]
theorem eqvC (x y : PyData) (xs ys : List PyData) : PyData.eqvAll (x :: xs) (y :: ys) = (PyData.eqv x y && PyData.eqvAll xs ys) := by rw [PyData.eqvAll]
theorem eqvN : PyData.eqvAll [] [] = true := by rw [PyData.eqvAll]
theorem d4_eqv (b : Bool) (p q r t : Pic) : PyData.eqv (d4 b) (dat (.node p q r t)) = all4 b p q r t := by
  unfold d4 dat
  rw [eqvT, eqvC, eqvC, eqvC, eqvC, eqvN, leaf_eqv, leaf_eqv, leaf_eqv, leaf_eqv, Bool.and_true]
  rfl
theorem any4 (p q r t : Pic) : ([d4 false, d4 true].any fun z => PyData.eqv z (dat (.node p q r t))) = (all4 false p q r t || all4 true p q r t) := by
  simp only [List.any_cons, List.any_nil, d4_eqv, Bool.or_false]
theorem ok_made (a : At K mg "made" sMade) (T : Bi mg) : Can P w K mg base 1 "made" ["parts"] spMade := by
  refine a.can scMade (fun vs H Q E h => ?_) (fun _ _ _ _ _ _ us hl => match us, hl with | [_], _ => rfl) (fun f cdv A outer s H vs Q E hr h => ?_)
  · obtain ⟨l, v0, v1, v2, v3, p, q, r, t, rfl, _⟩ := h
    rfl
  · obtain ⟨l, v0, v1, v2, v3, p, q', r, t, rfl, hl, h1, h2, h3, h4, q⟩ := h
    refine ⟨_, pss_cons (ps_set (i := 1) scMade.nd rfl (Or.inl rfl) (pe_callTy call_tuple_of (by rfl) T.tuple (by decide +kernel) (pa_cons (pv 0) pa_nil)))
      (pss_one (ps_ret (pe_ifExp (pt_cmp (pc_of (op_inT hr.units) (pv 1) (pe_tup (pa_cons (pe_tup (pa_cons pe_int (pa_cons pe_int (pa_cons pe_int (pa_cons pe_int pa_nil))))) (pa_cons (pe_tup (pa_cons pe_int (pa_cons pe_int (pa_cons pe_int (pa_cons pe_int pa_nil))))) pa_nil)))))
        (pe_ix ix_tup (pv 1) pe_int (fun _ _ => rfl)) (pv 1)))), ?_⟩
    refine ⟨_, rfl, l, _, rfl, .inl ⟨SqL.of hl, fun u nu => ?_⟩⟩
    have s1 := same_new nu (.tup [v0, v1, v2, v3])
    refine ⟨_, rfl, by show 4 ≤ sizeLine; decide, fun u1 n1 => ?_⟩
    have s2 := same_new n1 (.tup [V.int 0, .int 0, .int 0, .int 0])
    refine ⟨by show 4 ≤ sizeLine; decide, fun u2 n2 => ?_⟩
    have s3 := same_new n2 (.tup [V.int 1, .int 1, .int 1, .int 1])
    refine ⟨by show 2 ≤ sizeLine; decide, fun u3 n3 => ?_⟩
    have s4 := same_new n3 (.tup [V.ref u1, V.ref u2])
    have s14 := s2.trans (s3.trans s4)
    have tk := Same.tk (s1.trans s14)
    have hu : PicAt _ (V.ref u) (.node p q' r t) := ⟨u, v0, v1, v2, v3, rfl, s14 _ _ upd_same, h1.mono tk, h2.mono tk, h3.mono tk, h4.mono tk⟩
    have i0 : ∀ i : Int, Dp K (upd (upd (upd (upd H u (.tup [v0, v1, v2, v3])) u1 (.tup [V.int 0, .int 0, .int 0, .int 0])) u2 (.tup [V.int 1, .int 1, .int 1, .int 1])) u3 (.tup [V.ref u1, V.ref u2])) (.int i) (.int i) := fun i => .int i
    refine ⟨dat (.node p q' r t), [d4 false, d4 true], dp_pic hu, .tup (SqT.of upd_same) (.cons (.tup (SqT.of (s4 _ _ (s3 _ _ upd_same))) (.cons (i0 _) (.cons (i0 _) (.cons (i0 _) (.cons (i0 _) .nil))))) (.cons (.tup (SqT.of (s4 _ _ upd_same)) (.cons (i0 _) (.cons (i0 _) (.cons (i0 _) (.cons (i0 _) .nil))))) .nil)), dat_lay _, by decide, by decide, _, rfl, ?_⟩
    rw [any4]
    refine ite2 (fun cl => ?_) (fun cl => ?_)
    · refine ⟨_, rfl, u, _, _, v0, rfl, rfl, SqT.of (s14 _ _ upd_same), atI_nat (j := 0) rfl, q _ _ (s1.trans s14) ?_⟩
      refine PicAt.mono tk ?_
      unfold mk4
      cases e1 : all4 false p q' r t with
      | true =>
        rw [if_pos rfl]
        simp only [all4, Bool.and_eq_true, decide_eq_true_eq] at e1
        rw [e1.1] at h1
        exact h1
      | false =>
        have e2 : all4 true p q' r t = true := by
          rw [e1] at cl
          exact cl
        rw [if_neg (by simp), if_pos e2]
        simp only [all4, Bool.and_eq_true, decide_eq_true_eq] at e2
        rw [e2.1] at h1
        exact h1
    · refine ⟨_, rfl, q _ _ (s1.trans s14) ?_⟩
      have e := Bool.or_eq_false_iff.mp (Bool.eq_false_iff.mpr cl)
      unfold mk4
      rw [e.1, e.2, if_neg (by simp), if_neg (by simp)]
      exact hu
end
end Pl

namespace Pl
open PySem PySem.Spec PyProof.Rows L2
/-! ## Methods -/
structure CanM (P : Program) (w : World) (K : PySem.W.Frag) (mg : Str → Option Value) (base : Heap) (k : Nat) (C : Addr) (m : Str) (ps : List Str) (sp : Sp) : Prop where
  ex : ∃ (f : Addr) (fd : FuncData), FnOk P w K mg base CX0 k f fd ps sp ∧ Meth K C m f ∧ Binds K fd ps []
section
variable {X : Cx} {k : Nat} {C : Addr} {ps : List Str} {sp : Sp} {m : Str} {apos pos : Pos} {o e : Expr} {es : List Expr} {ta : TE} {t : TA} {pl : Sem Bool}
theorem pe_canM (c : CanM X.prog X.w X.K X.mg X.base k C m ps sp) (cl : Cls X.K C) (hr : Room k X.A) (he : PE X o ta) (ha : PA X (e :: es) t)
    (hst : starEach (e :: es) X.env = (false, eval e X.env) :: starEach es X.env := by rfl) (hpl : (backTo pos (starEach es X.env)).any (·.1) = false := by rfl)
    (ht : eval (.Call (.Attribute o m apos) (e :: es) [] pos) X.env = (do
      let ov ← eval o X.env
      standAt apos.atName
      let (f, first) ← holding [ov] (getMethod ov m pl)
      callWith pos f first (backTo pos (starEach (e :: es) X.env)) (backToKw pos (keywordEach [] X.env))) := by rfl) :
    PE X (.Call (.Attribute o m apos) (e :: es) [] pos) (tMeth C m sp [] E0 ta t) := by
  obtain ⟨f, fd, h1, h2, h3⟩ := c.ex
  exact pe_meth he cl h2 h1 hr h3 .nil pass0 ha hst hpl ht
end
/-- a method of the text as it stands behind the top -/
structure AtM (K : PySem.W.Frag) (C : Addr) (m qual : Str) (st : Stmt) : Prop where
  ex : ∃ (f : Addr) (fd : FuncData), FunD K m qual (defArgs st) (defBody st) (defScope st) [] [] f fd ∧ Meth K C m f
/-- a class of the text: its __init__ -/
structure AtC (K : PySem.W.Frag) (mg : Str → Option Value) (x qual : Str) (C : Addr) (st : Stmt) : Prop where
  cl : Cls K C
  g : mg x = some (.ref C)
  ex : ∃ (f : Addr) (fd : FuncData), FunD K "__init__" qual (defArgs st) (defBody st) (defScope st) [] [] f fd ∧ Mk K C f
section
variable {P : Program} {w : World} {K : PySem.W.Frag} {mg : Str → Option Value} {base : Heap}
theorem AtM.can {C : Addr} {m qual : Str} {st : Stmt} {N ps : List Str} {k : Nat} {sp : Sp} (a : AtM K C m qual st) (S : FnScope N ps (defScope st)) (len : ∀ vs H Q E, sp vs H Q E → vs.length = ps.length)
    (bind : ∀ (kV doc pm : Value) (an : Option Addr) (cdv ct : Value) (us : List Value), us.length = ps.length → bindArgs (PySem.W.fnOf m qual (defArgs st) (defBody st) (defScope st) .none kV doc pm an cdv ct) ⟨us, []⟩ = pure (ps.zip us))
    (hbody : ∀ (f : Addr) (cdv : Value) (A : Around) (outer : List Env) (s : Shared) (H : Hp) (vs : List V) (Q : VK) (E : XK), Room k (A.deeper (envOfC qual (defScope st) s.heap.objs.size f cdv)) → sp vs H Q E →
      ∃ t, PSs (cxOf CX0 P w K mg base N qual (defScope st) f cdv A outer s H E).nox (defBody st) t ∧ t { nx := fun _ H' => Q .non H', rt := Q } (start N vs) H) : CanM P w K mg base (k + 1) C m ps sp := by
  obtain ⟨f, fd, F, hm⟩ := a.ex
  refine ⟨f, fd, F.ok S len fun cdv A outer s H vs Q E hr h => ?_, hm, F.bindsN bind⟩
  obtain ⟨t, h1, h2⟩ := hbody f cdv A outer s H vs Q E hr h
  exact ⟨t, h1.nox, h2⟩
theorem AtM.zero {C : Addr} {m qual : Str} {st : Stmt} {ps : List Str} {sp : Sp} (a : AtM K C m qual st) (bind : ∀ (kV doc pm : Value) (an : Option Addr) (cdv ct : Value) (us : List Value), us.length = ps.length → bindArgs (PySem.W.fnOf m qual (defArgs st) (defBody st) (defScope st) .none kV doc pm an cdv ct) ⟨us, []⟩ = pure (ps.zip us))
    (no : ∀ vs H Q E, ¬ sp vs H Q E) : CanM P w K mg base 0 C m ps sp := by
  obtain ⟨f, fd, F, hm⟩ := a.ex
  exact ⟨f, fd, ⟨fun vs H Q E h => absurd h (no vs H Q E), fun A outer s H args us vs Q E _ _ _ _ h => absurd h (no vs H Q E)⟩, hm, F.bindsN bind⟩
theorem CanM.mono {j k : Nat} {C : Addr} {m : Str} {ps : List Str} {sp : Sp} (c : CanM P w K mg base j C m ps sp) (h : j ≤ k) : CanM P w K mg base k C m ps sp := by
  obtain ⟨f, fd, h1, h2, h3⟩ := c.ex
  exact ⟨f, fd, h1.mono h, h2, h3⟩
/-- C() of the text, its __init__ without arguments -/
structure CanC (P : Program) (w : World) (K : PySem.W.Frag) (mg : Str → Option Value) (base : Heap) (k : Nat) (x : Str) (C : Addr) (sp : Sp) : Prop where
  ex : ∃ (f : Addr) (fd : FuncData), FnOk P w K mg base CX0 k f fd ["self"] sp ∧ Mk K C f ∧ mg x = some (.ref C) ∧ Binds K fd ["self"] []
theorem AtC.can {x qual : Str} {C : Addr} {st : Stmt} {N : List Str} {k : Nat} {sp : Sp} (a : AtC K mg x qual C st) (S : FnScope N ["self"] (defScope st)) (len : ∀ vs H Q E, sp vs H Q E → vs.length = 1)
    (bind : ∀ (kV doc pm : Value) (an : Option Addr) (cdv ct : Value) (us : List Value), us.length = 1 → bindArgs (PySem.W.fnOf "__init__" qual (defArgs st) (defBody st) (defScope st) .none kV doc pm an cdv ct) ⟨us, []⟩ = pure ((["self"] : List Str).zip us))
    (hbody : ∀ (f : Addr) (cdv : Value) (A : Around) (outer : List Env) (s : Shared) (H : Hp) (vs : List V) (Q : VK) (E : XK), Room k (A.deeper (envOfC qual (defScope st) s.heap.objs.size f cdv)) → sp vs H Q E →
      ∃ t, PSs (cxOf CX0 P w K mg base N qual (defScope st) f cdv A outer s H E).nox (defBody st) t ∧ t { nx := fun _ H' => Q .non H', rt := Q } (start N vs) H) : CanC P w K mg base (k + 1) x C sp := by
  obtain ⟨f, fd, F, hm⟩ := a.ex
  refine ⟨f, fd, F.ok S len fun cdv A outer s H vs Q E hr h => ?_, hm, a.g, F.bindsN bind⟩
  obtain ⟨t, h1, h2⟩ := hbody f cdv A outer s H vs Q E hr h
  exact ⟨t, h1.nox, h2⟩
end
section
variable {X : Cx} {k : Nat} {C : Addr} {sp : Sp} {x : Str} {p pos : Pos}
theorem pe_canC (c : CanC X.prog X.w X.K X.mg X.base k x C sp) (hr : Room (k + 1) X.A) (hg : Gl X x := by rfl) (hdb : (x == ("__debug__" : Str)) = false := by decide) : PE X (.Call (.Name x p) [] [] pos) (tMake C sp [] E0 tNil) := by
  obtain ⟨f, fd, h1, h2, h3, h4⟩ := c.ex
  exact pe_make0 h2 h1 hr hg h3 h4 .nil pass0 hdb
end
/-! ## Judge -/
abbrev sJInit : Stmt := inClass (top 26) 0
abbrev sFault : Stmt := inClass (top 26) 1
abbrev sRequirePicture : Stmt := top 27
def jf (m : Nat) : List (Str × V) := [("many", .int (m : Int))]
theorem jf_look (m : Nat) : (jf m).lookup ("many" : Str) = some (.int (m : Int)) := by
  show (putF "many" (V.int (m : Int)) []).lookup ("many" : Str) = _
  rw [lookup_putF, if_pos rfl]
theorem jf_no (m : Nat) {f : Str} (h : ¬ f = "many") : (jf m).lookup f = none := by
  show (putF "many" (V.int (m : Int)) []).lookup f = _
  rw [lookup_putF, if_neg h]
  rfl
theorem jf_put (m n : Nat) : putF "many" (.int (n : Int)) (jf m) = jf n := by
  show (if ("many" : Str) = "many" then [(("many" : Str), V.int (n : Int))] else _) = _
  rw [if_pos rfl]
  rfl
section
variable {P : Program} {w : World} {K : PySem.W.Frag} {mg : Str → Option Value} {base : Heap} {C : Addr}
def spJInit (C : Addr) : Sp := fun vs H Q _ => ∃ (x dx : Addr), vs = [.ref x] ∧ H x = some (.ins C dx []) ∧ Q .non (upd H x (.ins C dx (jf 0)))
theorem scJInit : FnScope ["self"] ["self"] (defScope sJInit) := ⟨rfl, rfl, rfl, by decide +kernel, rfl, by decide +kernel, by decide +kernel⟩
theorem ok_jinit (a : AtC K mg "Judge" "Judge.__init__" C sJInit) (na : NoAttr K C "many") : CanC P w K mg base 1 "Judge" C (spJInit C) := by
  refine a.can scJInit (fun vs H Q E h => ?_) (fun _ _ _ _ _ _ us hl => match us, hl with | [_], _ => rfl) (fun f cdv A outer s H vs Q E hr h => ?_)
  · obtain ⟨x, dx, rfl, _⟩ := h
    rfl
  · obtain ⟨x, dx, rfl, hx, q⟩ := h
    refine ⟨_, pss_one (ps_fld (pv 0) pe_int rfl), ?_⟩
    exact ⟨_, rfl, x, C, dx, _, rfl, hx, a.cl, na, by show 0 < 1000; decide, q⟩
/-- the sum of the first of four -/
def acc4 (a b c d : Nat) : Nat → Nat
  | 0 => 0
  | 1 => a
  | 2 => a + b
  | 3 => a + b + c
  | _ => a + b + c + d
def spFault (C : Addr) (d : Nat) : Sp := fun vs H Q _ => ∃ (j dx : Addr) (v : V) (n : Nat) (pth : Addr) (xs : List V) (S : Pic) (m : Nat), vs = [.ref j, v, .int (n : Int), .ref pth] ∧ H j = some (.ins C dx (jf m)) ∧ PicAt H v S ∧ wf n S = true ∧ n < d ∧ d ≤ 100 ∧
  m + cnt S ≤ 4000 ∧ H pth = some (.tup xs) ∧ xs.length + d ≤ 200 ∧ ∀ H', SameB j H H' → H' j = some (.ins C dx (jf (m + cnt S))) → Q .non H'
theorem scFault : FnScope ["self", "value", "figures", "path", "number", "part", "found"] ["self", "value", "figures", "path"] (defScope sFault) := ⟨rfl, rfl, rfl, by decide +kernel, rfl, by decide +kernel, by decide +kernel⟩
theorem SameB.tkI {l C dx : Addr} {fs : List (Str × V)} {H H' : Hp} (s : SameB l H H') (hl : H l = some (.ins C dx fs)) : TupK H H' := fun b ys h => s b _ (ne_of h hl (fun z => nomatch z)) h
theorem ok_fault {t : Tok} (a : AtM K C "fault" "Judge.fault" sFault) (cl : Cls K C) (na : NoAttr K C "many") (T : Bi mg) (mM : mg "MAX_NODES" = some (.int 4000 t)) (ip : Can P w K mg base 1 "is_plain" ["value"] spIsPlain) :
    ∀ d, CanM P w K mg base (d + 1) C "fault" ["self", "value", "figures", "path"] (spFault C d)
  | 0 => (a.zero (fun _ _ _ _ _ _ us hl => match us, hl with | [_, _, _, _], _ => rfl) fun vs H Q E ⟨_, _, _, _, _, _, _, _, _, _, _, _, h, _⟩ => absurd h (Nat.not_lt_zero _)).mono (Nat.zero_le _)
  | d + 1 => by
    have c := ok_fault a cl na T mM ip d
    refine a.can scFault (fun vs H Q E h => ?_) (fun _ _ _ _ _ _ us hl => match us, hl with | [_, _, _, _], _ => rfl) (fun f cdv A outer s H vs Q E hr h => ?_)
    · obtain ⟨j, dx, v, n, pth, xs, S, m, rfl, _⟩ := h
      rfl
    · obtain ⟨j, dx, v, n, pth, xs, S, m, rfl, hj, hP, hw, hd, h100, hc, hpth, hxs, q⟩ := h
      have hr1 : Room 1 _ := hr.mono (by omega)
      refine ⟨_, pss_cons (ps_fldaug (pv 0) pe_int in_add)
        (pss_cons (ps_if (pt_cmpR op_gt (pe_fld (pv 0) rfl) (pe_glob (v := .int 4000) (by rfl) mM ⟨_, rfl⟩) (nomark _)) (pss_one (ps_ret (pv 3))) pss_nil)
        (pss_cons (ps_if (pt_val (pe_can ip hr1 (pa_cons (pv 1) pa_nil))) (pss_one (ps_ret pe_non)) pss_nil)
        (pss_cons (ps_if (PW.pt (pw_or (pt_not (pt_val (pe_callB call_isi (by rfl) T.isi (by decide +kernel) (pa_cons (pv 1) (pa_cons (pe_bltn (v := .ty "tuple") (by rfl) T.tuple (by decide +kernel) rfl) pa_nil)))))
            (pw_or (pt_cmpR op_ne (pe_callB call_len_seq (by rfl) T.len PySem.boot_len (pa_cons (pv 1) pa_nil)) pe_int (nomark _)) (pw_or1 (pt_cmpR op_eq (pv 2) pe_int (nomark _)))))) (pss_one (ps_ret (pv 3))) pss_nil)
        (C8.pss_cut (ps_if (PW.pt (pw_and (pt_val (pe_callB (cr_all rfl) (by rfl) T.all (by decide +kernel) (pa_cons (pe_lc (own := [("part", 5)]) (g := gName 5) (tt := tYes) rfl scFault.nd (pi_tup (pv 1))
            (blkOk_by (own := [("part", 5)]) (N := ["self", "value", "figures", "path", "number", "part", "found"]) (sc := defScope sFault) (by decide +kernel)) (fun _ _ _ _ _ => pg_name (i := 5) scFault.nd rfl (Or.inl rfl)) (fun _ _ _ _ _ => pts_nil)
            (fun _ _ _ _ _ => pe_can ip hr1 (pa_cons (pv 5) pa_nil))) pa_nil)))
            (pw_and1 (pt_cmpR (op_inT hr.units) (pe_callB (cr_sumT rfl) (by rfl) T.sum (by decide +kernel) (pa_cons (pv 1) pa_nil)) (pe_tup (pa_cons pe_int (pa_cons pe_int pa_nil))) (by rfl))))) (pss_one (ps_ret (pv 3))) pss_nil)
        (pss_cons (ps_for PassesOwn.never rfl (pi_enumT (by rfl) T.enumerate (pa_cons (pv 1) pa_nil)) (pg_tup rfl (pgs_cons (pg_name (i := 4) scFault.nd rfl (Or.inl rfl)) (pgs_cons (pg_name (i := 5) scFault.nd rfl (Or.inl rfl)) pgs_nil)))
            (pss_cons (ps_set (i := 6) scFault.nd rfl (Or.inl rfl) (pe_canM c cl hr (pv 0) (pa_cons (pv 5) (pa_cons (pe_op op_sub (pv 2) pe_int) (pa_cons (pe_tup (StX.pa_star (pv 3) (pa_cons (pv 4) pa_nil))) pa_nil)))))
            (pss_one (ps_if (pt_cmp (pc_notN (pv 6))) (pss_one (ps_ret (pv 6))) pss_nil))))
        (pss_one (ps_ret pe_non))))))), ?_⟩
      refine ⟨_, rfl, j, C, dx, jf m, _, rfl, hj, cl, na, jf_look m, _, _, rfl, rfl, dx, jf m, hj, by show 1 < 1000; decide, ?_⟩
      have e1 : putF "many" (.int ((m : Int) + 1)) (jf m) = jf (m + 1) := by
        rw [← jf_put m (m + 1)]
        congr 2
      show (_ : Prop)
      rw [e1]
      have s1 : SameB j H (upd H j (.ins C dx (jf (m + 1)))) := SameB.upd
      have j1 : upd H j (.ins C dx (jf (m + 1))) j = some (.ins C dx (jf (m + 1))) := upd_same
      generalize upd H j (.ins C dx (jf (m + 1))) = H1 at s1 j1
      have tk1 : TupK H H1 := s1.tkI hj
      have hcS : 1 ≤ cnt S := by cases S <;> simp [cnt] <;> omega
      refine ⟨_, rfl, j, C, dx, _, _, rfl, j1, cl, na, jf_look _, _, _, rfl, rfl, false, ?_, iteF ?_⟩
      · show V.bl (decide ((4000 : Int) < ((m + 1 : Nat) : Int))) = .bl false
        rw [decide_eq_false (by omega)]
      refine ⟨_, rfl, v, S, rfl, hP.mono tk1, fun H2 s2 => ⟨_, rfl, ?_⟩⟩
      have j2 := s2 _ _ j1
      have s12 : SameB j H H2 := s1.trans (Same.b s2 j)
      cases S with
      | leaf b =>
        refine iteT ?_
        exact q _ s12 (by rw [show m + cnt (.leaf b) = m + 1 from rfl]; exact j2)
      | node p q' r t =>
        refine iteF ?_
        obtain ⟨ad, v0, v1, v2, v3, rfl, h0, h1, h2, h3, h4⟩ := hP
        have k0 : H2 ad = some (.tup [v0, v1, v2, v3]) := s2 _ _ (tk1 _ _ h0)
        have tk2 : TupK H H2 := tk1.trans (Same.tk s2)
        cases n with
        | zero => simp [wf] at hw
        | succ n =>
        simp only [wf, Bool.and_eq_true, Bool.not_eq_true'] at hw
        obtain ⟨⟨w1, w2, w3, w4⟩, nf, nt⟩ := hw
        refine ⟨_, rfl, _, _, _, _, true, rfl, .ty _, .base (.tup k0), kit_ty (by decide +kernel), true, rfl, iteF ?_⟩
        refine ⟨_, rfl, ad, _, rfl, .inr (SqT.of k0), rfl, _, rfl, iteF ?_⟩
        refine ⟨_, rfl, rfl, false, ?_, iteF ?_⟩
        · show V.bl (decide (V.int ((n + 1 : Nat) : Int) = V.int 0)) = .bl false
          rw [decide_eq_false (by intro z; injection z with z; omega)]
        -- all plain, and their sum 0 or 4: never
        refine ⟨fun σ' H4 => σ' = [some (V.ref j), some (V.ref ad), some (V.int ((n + 1 : Nat) : Int)), some (V.ref pth), none, none, none] ∧ SameB j H H4 ∧ H4 j = some (.ins C dx (jf (m + 1))), ?_, ?_⟩
        · refine ⟨_, rfl, ad, rfl, ⟨_, SqT.of k0⟩, fun D hD => lc_tup1 (K := K) (fun j y _ => [V.bl (isLeaf p), V.bl (isLeaf q'), V.bl (isLeaf r), V.bl (isLeaf t)][j]? = some y) (fun _ _ _ _ _ h => h) hD k0 (by show 4 ≤ 10000; decide) (fun j x H3 k hx s3 hk => ?_) (fun H3 ys s3 hDl hl hys => ?_)⟩
          · have tk := tk2.trans (Same.tk s3)
            refine ⟨_, rfl, ?_⟩
            match j, hx with
            | 0, hx => cases hx; exact ⟨v0, p, rfl, h1.mono tk, fun H' s' => hk _ _ s' rfl⟩
            | 1, hx => cases hx; exact ⟨v1, q', rfl, h2.mono tk, fun H' s' => hk _ _ s' rfl⟩
            | 2, hx => cases hx; exact ⟨v2, r, rfl, h3.mono tk, fun H' s' => hk _ _ s' rfl⟩
            | 3, hx => cases hx; exact ⟨v3, t, rfl, h4.mono tk, fun H' s' => hk _ _ s' rfl⟩
          have e := four_of hl hys
          subst e
          have s13 : SameB j H H3 := s12.trans (Same.b s3 j)
          have k3 : H3 ad = some (.tup [v0, v1, v2, v3]) := s3 _ _ k0
          have j3 := s3 _ _ j2
          refine ⟨D, [isLeaf p, isLeaf q', isLeaf r, isLeaf t], rfl, SqL.of hDl, _, rfl, ?_⟩
          refine ite2 (fun ca => ?_) (fun ca => iteF ⟨rfl, s13, j3⟩)
          have ca' : isLeaf p = true ∧ isLeaf q' = true ∧ isLeaf r = true ∧ isLeaf t = true := by
            simpa using ca
          obtain ⟨b0, rfl⟩ := isLeaf_iff ca'.1
          obtain ⟨b1, rfl⟩ := isLeaf_iff ca'.2.1
          obtain ⟨b2, rfl⟩ := isLeaf_iff ca'.2.2.1
          obtain ⟨b3, rfl⟩ := isLeaf_iff ca'.2.2.2
          have e0 : v0 = .int (bI b0) := h1
          have e1 : v1 = .int (bI b1) := h2
          have e2 : v2 = .int (bI b2) := h3
          have e3 : v3 = .int (bI b3) := h4
          subst e0 e1 e2 e3
          refine ⟨_, rfl, ad, [bI b0, bI b1, bI b2, bI b3], rfl, SqT.of k3, by show 2 ≤ sizeLine; decide, fun u nu => ?_⟩
          have s5 := same_new nu (.tup [V.int 0, V.int 4])
          refine ⟨.int ([bI b0, bI b1, bI b2, bI b3].sum), [.int 0, .int 4], .int _, .tup (SqT.of upd_same) (.cons (.int 0) (.cons (.int 4) .nil)), by simp [PyData.canLay0], by decide, by decide, false, ?_, iteF ⟨rfl, s13.trans (Same.b s5 j), s5 _ _ j3⟩⟩
          have hne : ([PyData.int 0, PyData.int 4].any fun z => PyData.eqv z (.int ([bI b0, bI b1, bI b2, bI b3].sum))) = false := by
            simp only [all4] at nf nt
            revert nf nt
            cases b0 <;> cases b1 <;> cases b2 <;> cases b3 <;> simp [bI, PyData.eqv]
          rw [hne]
        · -- the loop over the parts
          rintro σ' H4 ⟨rfl, s14, j4⟩
          have tk4 : TupK H H4 := s14.tkI hj
          have k4 := tk4 _ _ h0
          refine ⟨_, rfl, ad, _, rfl, SqT.of k4, for_it (walk_enumT (K := K) (a := ad) (xs := [v0, v1, v2, v3])) (fun i σ H5 => ∃ x y z : Option V, σ = [some (V.ref j), some (V.ref ad), some (V.int ((n + 1 : Nat) : Int)), some (V.ref pth), x, y, z] ∧ SameB j H H5 ∧ H5 j = some (.ins C dx (jf (m + 1 + acc4 (cnt p) (cnt q') (cnt r) (cnt t) i))))
            ⟨none, none, none, rfl, s14, j4⟩ (fun i σ H5 _ ⟨_, _, _, _, s5, _⟩ => SqT.of (s5.tkI hj _ _ h0)) ?_ ?_⟩
          · rintro i x σ H5 H6 hi ⟨_, _, _, rfl, s5, j5⟩ ⟨u, x1, y1, rfl, nu, rfl, ex, ey⟩
            cases ex
            have s6 := same_new nu (.tup [V.int (i : Int), y1])
            have s16 : SameB j H (upd H5 u (.tup [V.int (i : Int), y1])) := s5.trans (Same.b s6 j)
            have j6 := s6 _ _ j5
            have tk6 : TupK H (upd H5 u (.tup [V.int (i : Int), y1])) := s16.tkI hj
            refine ⟨u, _, rfl, SqT.of upd_same, rfl, _, _, rfl, _, _, rfl, rfl, ?_⟩
            have en : ((n + 1 : Nat) : Int) - 1 = (n : Int) := by omega
            generalize upd H5 u (.tup [V.int (i : Int), y1]) = H7 at s16 j6 tk6
            refine ⟨_, rfl, j, dx, _, rfl, j6, jf_no _ (by decide +kernel), _, rfl, _, rfl, _, _, rfl, rfl, _, rfl, pth, xs, rfl, .inl (SqT.of (tk6 _ _ hpth)), _, rfl, ?_⟩
            have hxs2 : (xs ++ [V.int (i : Int)]).length = xs.length + 1 := by rw [List.length_append, List.length_singleton]
            refine ⟨by rw [hxs2]; exact Nat.le_of_lt (small1000 (by omega)), fun u2 nu2 => ?_⟩
            have s8 := same_new nu2 (.tup (xs ++ [V.int (i : Int)]))
            have s18 : SameB j H (upd H7 u2 (.tup (xs ++ [V.int (i : Int)]))) := s16.trans (Same.b s8 j)
            have j8 := s8 _ _ j6
            have tk8 := tk6.trans (Same.tk s8)
            -- the part that comes
            obtain ⟨S', hS', hP', hw', hacc⟩ : ∃ S', PicAt H y1 S' ∧ wf n S' = true ∧ m + 1 + acc4 (cnt p) (cnt q') (cnt r) (cnt t) i + cnt S' ≤ 4000 ∧ m + 1 + acc4 (cnt p) (cnt q') (cnt r) (cnt t) (i + 1) = m + 1 + acc4 (cnt p) (cnt q') (cnt r) (cnt t) i + cnt S' := by
              have hc' : m + (1 + (cnt p + (cnt q' + (cnt r + cnt t)))) ≤ 4000 := hc
              match i, hi, ey with
              | 0, _, ey => cases ey; exact ⟨p, h1, w1, by simp only [acc4]; omega, by simp only [acc4, Nat.add_zero]⟩
              | 1, _, ey => cases ey; exact ⟨q', h2, w2, by simp only [acc4]; omega, by simp only [acc4]; omega⟩
              | 2, _, ey => cases ey; exact ⟨r, h3, w3, by simp only [acc4]; omega, by simp only [acc4]; omega⟩
              | 3, _, ey => cases ey; exact ⟨t, h4, w4, by simp only [acc4]; omega, by simp only [acc4]; omega⟩
            refine ⟨j, dx, y1, n, u2, xs ++ [V.int (i : Int)], S', m + 1 + acc4 (cnt p) (cnt q') (cnt r) (cnt t) i, ?_, j8, hS'.mono tk8, hP', by omega, by omega, hw', upd_same, by rw [hxs2]; omega, fun H9 s9 j9 => ?_⟩
            · show [V.ref j, y1, V.int (((n + 1 : Nat) : Int) - 1), V.ref u2] = _
              rw [en]
            refine ⟨_, rfl, false, rfl, iteF ?_⟩
            exact ⟨_, _, _, rfl, s18.trans s9, by rw [hacc]; exact j9⟩
          · rintro σ H5 ⟨_, _, _, rfl, s5, j5⟩
            refine q _ s5 ?_
            have e : m + cnt (.node p q' r t) = m + 1 + acc4 (cnt p) (cnt q') (cnt r) (cnt t) 4 := by
              simp only [cnt, acc4]
              omega
            rw [e]
            exact j5
/-! ### require_picture -/
def spRequirePicture : Sp := fun vs H Q _ => ∃ (n : Nat) (v : V) (S : Pic), vs = [.int (n : Int), v] ∧ PicAt H v S ∧ wf n S = true ∧ n ≤ 40 ∧ cnt S ≤ 4000 ∧ ∀ H', Same H H' → Q .non H'
theorem scRequirePicture : FnScope ["figures", "picture", "path"] ["figures", "picture"] (defScope sRequirePicture) := ⟨rfl, rfl, rfl, by decide +kernel, rfl, by decide +kernel, by decide +kernel⟩
theorem ok_require_picture (a : At K mg "require_picture" sRequirePicture) (cl : Cls K C) (ji : CanC P w K mg base 1 "Judge" C (spJInit C)) (fa : CanM P w K mg base 42 C "fault" ["self", "value", "figures", "path"] (spFault C 41)) :
    Can P w K mg base 43 "require_picture" ["figures", "picture"] spRequirePicture := by
  refine a.can scRequirePicture (fun vs H Q E h => ?_) (fun _ _ _ _ _ _ us hl => match us, hl with | [_, _], _ => rfl) (fun f cdv A outer s H vs Q E hr h => ?_)
  · obtain ⟨n, v, S, rfl, _⟩ := h
    rfl
  · obtain ⟨n, v, S, rfl, hP, hw, hn, hc, q⟩ := h
    refine ⟨_, pss_cons (ps_set (i := 2) scRequirePicture.nd rfl (Or.inl rfl) (pe_canM fa cl hr (pe_canC ji (hr.mono (by decide))) (pa_cons (pv 1) (pa_cons (pv 0) (pa_cons (pe_tup pa_nil) pa_nil)))
        (ht := mcall_of (abase_call (by decide)) fun ov => rfl)))
      (pss_one (ps_if (pt_cmp (pc_notN (pv 2))) (pss_one ps_never) pss_nil)), ?_⟩
    intro x dx nx ndx nex
    have s0 : Same H (upd (upd H dx (.own x)) x (.ins C dx [])) := fun b o e => by
      rw [upd_ne (ne_of_none e nx), upd_ne (ne_of_none e ndx)]
      exact e
    refine ⟨x, dx, rfl, upd_same, rfl, x, dx, _, rfl, upd_same, jf_no _ (by decide +kernel), _, rfl, _, rfl, Nat.zero_le _, fun u nu => ?_⟩
    have s1 : Same H (upd (upd (upd H dx (.own x)) x (.ins C dx [])) x (.ins C dx (jf 0))) := fun b o e => by
      rw [upd_ne (ne_of_none e nx)]
      exact s0 _ _ e
    have s2 := same_new nu (.tup [])
    have s12 := s1.trans s2
    refine ⟨x, dx, v, n, u, [], S, 0, rfl, s2 _ _ upd_same, hP.mono (Same.tk s12), hw, by omega, by omega, by omega, upd_same, by decide, fun H' s' j' => ?_⟩
    refine ⟨_, rfl, false, rfl, iteF ?_⟩
    exact q _ fun b o e => s' b o (ne_of_none e nx) (s12 _ _ e)
end
end Pl

namespace Pl
open PySem PySem.Spec PyProof.Rows L2
abbrev sMet : Stmt := top 34
abbrev sRequireTwo : Stmt := top 35
abbrev sEither : Stmt := top 36
abbrev sWithout : Stmt := top 37
abbrev sTurnedLeft : Stmt := top 39
abbrev sMirrored : Stmt := top 40
abbrev sArea : Stmt := top 42
abbrev sCellsOf : Stmt := top 46
section
variable {P : Program} {w : World} {K : PySem.W.Frag} {mg : Str → Option Value} {base : Heap}
/-! ### met -/
def spMet (d : Nat) : Sp := fun vs H Q _ => ∃ v S u U, vs = [v, u] ∧ PicAt H v S ∧ PicAt H u U ∧ dp S < d ∧ ∀ v' H', Same H H' → PicAt H' v' (met S U) → Q v' H'
theorem scMet : FnScope ["one", "other", "mine", "its"] ["one", "other"] (defScope sMet) := ⟨rfl, rfl, rfl, by decide +kernel, rfl, by decide +kernel, by decide +kernel⟩
theorem ok_met (a : At K mg "met" sMet) (T : Bi mg) (mk : Can P w K mg base 1 "made" ["parts"] spMade) : ∀ d, Can P w K mg base (d + 1) "met" ["one", "other"] (spMet d)
  | 0 => (a.zero (fun _ _ _ _ _ _ us hl => match us, hl with | [_, _], _ => rfl) fun vs H Q E ⟨_, _, _, _, _, _, _, h, _⟩ => absurd h (Nat.not_lt_zero _)).mono (Nat.zero_le _)
  | d + 1 => by
    have c := ok_met a T mk d
    refine a.can scMet (fun vs H Q E h => ?_) (fun _ _ _ _ _ _ us hl => match us, hl with | [_, _], _ => rfl) (fun f cdv A outer s H vs Q E hr h => ?_)
    · obtain ⟨v, S, u, U, rfl, _⟩ := h
      rfl
    · obtain ⟨v, S, u, U, rfl, hP, hU, hd, q⟩ := h
      have hr1 : Room 1 _ := hr.mono (by omega)
      refine ⟨_, pss_cons (ps_if (PW.pt (pw_or (pt_cmp (pc_in01 hr.units (pv 0) pe_int pe_int)) (pw_or1 (pt_cmp (pc_in01 hr.units (pv 1) pe_int pe_int)))))
          (pss_one (ps_ret (pe_ifExp (pt_cmp (pc_in01 hr.units (pv 0) pe_int pe_int)) (pe_ifExp (pt_cmp (pc_eqP true hr.units (pv 0) pe_int)) (pv 1) pe_int) (pe_ifExp (pt_cmp (pc_eqP true hr.units (pv 1) pe_int)) (pv 0) pe_int)))) pss_nil)
        (pss_one (ps_ret (pe_can mk hr1 (pa_cons (pe_lc (own := [("mine", 2), ("its", 3)]) (g := gPair K 2 3) (tt := tYes) rfl scMet.nd (RZ.pi_zipA (by rfl) T.zip (pa_cons (pv 0) (pa_cons (pv 1) pa_nil)))
          (blkOk_by (own := [("mine", 2), ("its", 3)]) (N := ["one", "other", "mine", "its"]) (sc := defScope sMet) (by decide +kernel)) (fun _ _ _ _ _ => pg_tup rfl (pgs_cons (pg_name (i := 2) scMet.nd rfl (Or.inl rfl)) (pgs_cons (pg_name (i := 3) scMet.nd rfl (Or.inl rfl)) pgs_nil))) (fun _ _ _ _ _ => pts_nil)
          (fun _ _ _ _ _ => pe_can c hr (pa_cons (pv 2) (pa_cons (pv 3) pa_nil)))) pa_nil)))), ?_⟩
      refine ⟨v, S, rfl, hP, fun H2 s2 => ⟨_, rfl, ?_⟩⟩
      cases S with
      | leaf b =>
        refine iteT (iteT ⟨v, .leaf b, rfl, hP, fun H3 s3 => ⟨_, rfl, iteT ?_⟩⟩)
        refine ⟨v, .leaf b, rfl, hP, _, rfl, ?_⟩
        cases b with
        | true =>
          rw [decide_eq_true rfl]
          refine iteT ⟨u, rfl, q _ _ (s2.trans s3) (hU.mono (Same.tk (s2.trans s3)))⟩
        | false =>
          rw [decide_eq_false (by simp)]
          refine iteF (q _ _ (s2.trans s3) ?_)
          rfl
      | node p q' r t =>
        refine iteF ⟨u, U, rfl, hU.mono (Same.tk s2), fun H3 s3 => ⟨_, rfl, ?_⟩⟩
        have s23 := s2.trans s3
        cases U with
        | leaf b =>
          refine iteT ⟨v, .node p q' r t, rfl, hP.mono (Same.tk s23), fun H4 s4 => ⟨_, rfl, iteF ?_⟩⟩
          refine ⟨u, .leaf b, rfl, hU, _, rfl, ?_⟩
          cases b with
          | true =>
            rw [decide_eq_true rfl]
            refine iteT ⟨v, rfl, q _ _ (s23.trans s4) (hP.mono (Same.tk (s23.trans s4)))⟩
          | false =>
            rw [decide_eq_false (by simp)]
            refine iteF (q _ _ (s23.trans s4) ?_)
            rfl
        | node p2 q2 r2 t2 =>
          obtain ⟨ad, v0, v1, v2, v3, rfl, h0, h1, h2, h3, h4⟩ := hP.mono (Same.tk s23)
          obtain ⟨bd, u0, u1, u2, u3, rfl, g0, g1, g2, g3, g4⟩ := hU.mono (Same.tk s23)
          simp only [dp] at hd
          refine iteF ⟨_, rfl, _, rfl, ad, bd, [v0, v1, v2, v3], [u0, u1, u2, u3], rfl, .inr ⟨SqT.of h0, SqT.of g0, fun D hD => lc_pair1 (K := K) (walk_zipT (n := 4) rfl rfl) (by decide) (fun j y H => ∀ S', [met p p2, met q' q2, met r r2, met t t2][j]? = some S' → PicAt H y S') (fun _ _ _ _ k h S' e => (h S' e).mono k) hD (fun H s => ⟨SqT.of (s _ _ h0), SqT.of (s _ _ g0)⟩) (by decide) (fun j x y H5 k hj hx hy s5 hk => ?_) (fun H5 ys s5 hDl hl hys => ?_)⟩⟩
          · have tk := Same.tk s5
            refine ⟨_, rfl, _, rfl, ?_⟩
            match j, hj, hx, hy with
            | 0, _, hx, hy => cases hx; cases hy; exact ⟨v0, p, u0, p2, rfl, h1.mono tk, g1.mono tk, by omega, fun v' H' s' hv => hk _ _ s' fun S' e => by cases e; exact hv⟩
            | 1, _, hx, hy => cases hx; cases hy; exact ⟨v1, q', u1, q2, rfl, h2.mono tk, g2.mono tk, by omega, fun v' H' s' hv => hk _ _ s' fun S' e => by cases e; exact hv⟩
            | 2, _, hx, hy => cases hx; cases hy; exact ⟨v2, r, u2, r2, rfl, h3.mono tk, g3.mono tk, by omega, fun v' H' s' hv => hk _ _ s' fun S' e => by cases e; exact hv⟩
            | 3, _, hx, hy => cases hx; cases hy; exact ⟨v3, t, u3, t2, rfl, h4.mono tk, g4.mono tk, by omega, fun v' H' s' hv => hk _ _ s' fun S' e => by cases e; exact hv⟩
          · obtain ⟨y0, y1, y2, y3, rfl⟩ := list4 hl
            exact ⟨D, y0, y1, y2, y3, _, _, _, _, rfl, hDl, hys 0 y0 rfl _ rfl, hys 1 y1 rfl _ rfl, hys 2 y2 rfl _ rfl, hys 3 y3 rfl _ rfl, fun v' H' s' hv => q _ _ (s23.trans (s5.trans s')) hv⟩
/-! ### turned_left, mirrored, area, cells_of -/
abbrev CRF (P : Program) (w : World) (K : PySem.W.Frag) (mg : Str → Option Value) (base : Heap) : Prop := Can P w K mg base 4 "require_figures" ["figures"] spRequireFigures
abbrev CRP (P : Program) (w : World) (K : PySem.W.Frag) (mg : Str → Option Value) (base : Heap) : Prop := Can P w K mg base 43 "require_picture" ["figures", "picture"] spRequirePicture
/-- a picture as it is asked for -/
def Asked (n : Nat) (S : Pic) : Prop := wf n S = true ∧ n ≤ 40 ∧ cnt S ≤ 4000
theorem Asked.dp {n : Nat} {S : Pic} (h : Asked n S) : dp S < 41 := by
  have := dok_dp (wf_dok _ _ h.1)
  have := h.2.1
  omega
def spPanned (o0 o1 o2 o3 : Nat) : Sp := fun vs H Q _ => ∃ (n : Nat) (v : V) (S : Pic), vs = [.int (n : Int), v] ∧ PicAt H v S ∧ Asked n S ∧ ∀ v' H', Same H H' → PicAt H' v' (pan o0 o1 o2 o3 S) → Q v' H'
theorem scTurnedLeft : FnScope ["figures", "picture"] ["figures", "picture"] (defScope sTurnedLeft) := ⟨rfl, rfl, rfl, by decide +kernel, rfl, by decide +kernel, by decide +kernel⟩
theorem ok_turned_left (a : At K mg "turned_left" sTurnedLeft) (rf : CRF P w K mg base) (rp : CRP P w K mg base) (pn : Can P w K mg base 41 "placed_anew" ["picture", "order"] (spPlaced 41)) : Can P w K mg base 44 "turned_left" ["figures", "picture"] (spPanned 2 0 3 1) := by
  refine a.can scTurnedLeft (fun vs H Q E h => ?_) (fun _ _ _ _ _ _ us hl => match us, hl with | [_, _], _ => rfl) (fun f cdv A outer s H vs Q E hr h => ?_)
  · obtain ⟨n, v, S, rfl, _⟩ := h
    rfl
  · obtain ⟨n, v, S, rfl, hP, ha, q⟩ := h
    refine ⟨_, pss_cons (ps_expr (pe_can rf (hr.mono (by decide)) (pa_cons (pv 0) pa_nil))) (pss_cons (ps_expr (pe_can rp hr (pa_cons (pv 0) (pa_cons (pv 1) pa_nil))))
      (pss_one (ps_ret (pe_can pn (hr.mono (by decide)) (pa_cons (pv 1) (pa_cons (pe_tup (pa_cons pe_int (pa_cons pe_int (pa_cons pe_int (pa_cons pe_int pa_nil))))) pa_nil)))))), ?_⟩
    refine ⟨_, rfl, n, rfl, ha.2.1, _, rfl, _, rfl, n, v, S, rfl, hP, ha.1, ha.2.1, ha.2.2, fun H2 s2 => ⟨_, rfl, by show 4 ≤ sizeLine; decide, fun u nu => ?_⟩⟩
    have s3 := same_new nu (.tup [V.int 2, V.int 0, V.int 3, V.int 1])
    exact ⟨v, S, u, 2, 0, 3, 1, rfl, hP.mono (Same.tk (s2.trans s3)), ha.dp, upd_same, by decide, by decide, by decide, by decide, fun v' H' s' hv => q _ _ (s2.trans (s3.trans s')) hv⟩
theorem scMirrored : FnScope ["figures", "picture"] ["figures", "picture"] (defScope sMirrored) := ⟨rfl, rfl, rfl, by decide +kernel, rfl, by decide +kernel, by decide +kernel⟩
theorem ok_mirrored (a : At K mg "mirrored" sMirrored) (rf : CRF P w K mg base) (rp : CRP P w K mg base) (pn : Can P w K mg base 41 "placed_anew" ["picture", "order"] (spPlaced 41)) : Can P w K mg base 44 "mirrored" ["figures", "picture"] (spPanned 1 0 3 2) := by
  refine a.can scMirrored (fun vs H Q E h => ?_) (fun _ _ _ _ _ _ us hl => match us, hl with | [_, _], _ => rfl) (fun f cdv A outer s H vs Q E hr h => ?_)
  · obtain ⟨n, v, S, rfl, _⟩ := h
    rfl
  · obtain ⟨n, v, S, rfl, hP, ha, q⟩ := h
    refine ⟨_, pss_cons (ps_expr (pe_can rf (hr.mono (by decide)) (pa_cons (pv 0) pa_nil))) (pss_cons (ps_expr (pe_can rp hr (pa_cons (pv 0) (pa_cons (pv 1) pa_nil))))
      (pss_one (ps_ret (pe_can pn (hr.mono (by decide)) (pa_cons (pv 1) (pa_cons (pe_tup (pa_cons pe_int (pa_cons pe_int (pa_cons pe_int (pa_cons pe_int pa_nil))))) pa_nil)))))), ?_⟩
    refine ⟨_, rfl, n, rfl, ha.2.1, _, rfl, _, rfl, n, v, S, rfl, hP, ha.1, ha.2.1, ha.2.2, fun H2 s2 => ⟨_, rfl, by show 4 ≤ sizeLine; decide, fun u nu => ?_⟩⟩
    have s3 := same_new nu (.tup [V.int 1, V.int 0, V.int 3, V.int 2])
    exact ⟨v, S, u, 1, 0, 3, 2, rfl, hP.mono (Same.tk (s2.trans s3)), ha.dp, upd_same, by decide, by decide, by decide, by decide, fun v' H' s' hv => q _ _ (s2.trans (s3.trans s')) hv⟩
/-- a number that is told of a picture -/
def spNum (f : Nat → Pic → Int) : Sp := fun vs H Q _ => ∃ (n : Nat) (v : V) (S : Pic), vs = [.int (n : Int), v] ∧ PicAt H v S ∧ Asked n S ∧ ∀ H', Same H H' → Q (.int (f n S)) H'
theorem scArea : FnScope ["figures", "picture"] ["figures", "picture"] (defScope sArea) := ⟨rfl, rfl, rfl, by decide +kernel, rfl, by decide +kernel, by decide +kernel⟩
theorem ok_area (a : At K mg "area" sArea) (rf : CRF P w K mg base) (rp : CRP P w K mg base) (bk : Can P w K mg base 41 "black_count" ["figures", "picture"] (spBlackCount 41)) : Can P w K mg base 44 "area" ["figures", "picture"] (spNum fun n S => (bc n S : Int)) := by
  refine a.can scArea (fun vs H Q E h => ?_) (fun _ _ _ _ _ _ us hl => match us, hl with | [_, _], _ => rfl) (fun f cdv A outer s H vs Q E hr h => ?_)
  · obtain ⟨n, v, S, rfl, _⟩ := h
    rfl
  · obtain ⟨n, v, S, rfl, hP, ha, q⟩ := h
    refine ⟨_, pss_cons (ps_expr (pe_can rf (hr.mono (by decide)) (pa_cons (pv 0) pa_nil))) (pss_cons (ps_expr (pe_can rp hr (pa_cons (pv 0) (pa_cons (pv 1) pa_nil))))
      (pss_one (ps_ret (pe_can bk (hr.mono (by decide)) (pa_cons (pv 0) (pa_cons (pv 1) pa_nil)))))), ?_⟩
    have ha' := ha.2.1
    refine ⟨_, rfl, n, rfl, ha.2.1, _, rfl, _, rfl, n, v, S, rfl, hP, ha.1, ha.2.1, ha.2.2, fun H2 s2 => ⟨_, rfl, _, rfl, n, v, S, rfl, hP.mono (Same.tk s2), wf_dok _ _ ha.1, ha.2.1, by omega, fun H3 s3 => q _ (s2.trans s3)⟩⟩
def spCellsOf : Sp := fun vs H Q _ => ∃ (n : Nat) (v : V) (S : Pic), vs = [.int (n : Int), v] ∧ PicAt H v S ∧ Asked n S ∧ ∀ v' H', Same H H' → TriAt H' v' S → Q v' H'
theorem scCellsOf : FnScope ["figures", "picture"] ["figures", "picture"] (defScope sCellsOf) := ⟨rfl, rfl, rfl, by decide +kernel, rfl, by decide +kernel, by decide +kernel⟩
theorem ok_cells_of (a : At K mg "cells_of" sCellsOf) (rf : CRF P w K mg base) (rp : CRP P w K mg base) (so : Can P w K mg base 41 "sorts_in" ["picture"] (spSortsIn 41)) : Can P w K mg base 44 "cells_of" ["figures", "picture"] spCellsOf := by
  refine a.can scCellsOf (fun vs H Q E h => ?_) (fun _ _ _ _ _ _ us hl => match us, hl with | [_, _], _ => rfl) (fun f cdv A outer s H vs Q E hr h => ?_)
  · obtain ⟨n, v, S, rfl, _⟩ := h
    rfl
  · obtain ⟨n, v, S, rfl, hP, ha, q⟩ := h
    refine ⟨_, pss_cons (ps_expr (pe_can rf (hr.mono (by decide)) (pa_cons (pv 0) pa_nil))) (pss_cons (ps_expr (pe_can rp hr (pa_cons (pv 0) (pa_cons (pv 1) pa_nil))))
      (pss_one (ps_ret (pe_can so (hr.mono (by decide)) (pa_cons (pv 1) pa_nil))))), ?_⟩
    refine ⟨_, rfl, n, rfl, ha.2.1, _, rfl, _, rfl, n, v, S, rfl, hP, ha.1, ha.2.1, ha.2.2, fun H2 s2 => ⟨_, rfl, v, S, rfl, hP.mono (Same.tk s2), ha.dp, fun v' H3 s3 hv => q _ _ (s2.trans s3) hv⟩⟩
/-! ### require_two, either, without -/
def spRequireTwo : Sp := fun vs H Q _ => ∃ (n : Nat) (v : V) (S : Pic) (u : V) (U : Pic), vs = [.int (n : Int), v, u] ∧ PicAt H v S ∧ PicAt H u U ∧ Asked n S ∧ Asked n U ∧ ∀ H', Same H H' → Q .non H'
theorem scRequireTwo : FnScope ["figures", "one", "other"] ["figures", "one", "other"] (defScope sRequireTwo) := ⟨rfl, rfl, rfl, by decide +kernel, rfl, by decide +kernel, by decide +kernel⟩
theorem ok_require_two (a : At K mg "require_two" sRequireTwo) (rf : CRF P w K mg base) (rp : CRP P w K mg base) : Can P w K mg base 44 "require_two" ["figures", "one", "other"] spRequireTwo := by
  refine a.can scRequireTwo (fun vs H Q E h => ?_) (fun _ _ _ _ _ _ us hl => match us, hl with | [_, _, _], _ => rfl) (fun f cdv A outer s H vs Q E hr h => ?_)
  · obtain ⟨n, v, S, u, U, rfl, _⟩ := h
    rfl
  · obtain ⟨n, v, S, u, U, rfl, hP, hU, ha, hb, q⟩ := h
    refine ⟨_, pss_cons (ps_expr (pe_can rf (hr.mono (by decide)) (pa_cons (pv 0) pa_nil))) (pss_cons (ps_expr (pe_can rp hr (pa_cons (pv 0) (pa_cons (pv 1) pa_nil))))
      (pss_one (ps_expr (pe_can rp hr (pa_cons (pv 0) (pa_cons (pv 2) pa_nil)))))), ?_⟩
    exact ⟨_, rfl, n, rfl, ha.2.1, _, rfl, _, rfl, n, v, S, rfl, hP, ha.1, ha.2.1, ha.2.2, fun H2 s2 => ⟨_, rfl, _, rfl, n, u, U, rfl, hU.mono (Same.tk s2), hb.1, hb.2.1, hb.2.2, fun H3 s3 => q _ (s2.trans s3)⟩⟩
def spEither : Sp := fun vs H Q _ => ∃ (n : Nat) (v : V) (S : Pic) (u : V) (U : Pic), vs = [.int (n : Int), v, u] ∧ PicAt H v S ∧ PicAt H u U ∧ Asked n S ∧ Asked n U ∧ dp (opp S) < 41 ∧ dp (met (opp S) (opp U)) < 41 ∧ dp (opp (met (opp S) (opp U))) < 41 ∧
  cnt (opp (met (opp S) (opp U))) ≤ 4000 ∧ ∀ v' H', Same H H' → PicAt H' v' (opp (met (opp S) (opp U))) → Q v' H'
theorem scEither : FnScope ["figures", "one", "other"] ["figures", "one", "other"] (defScope sEither) := ⟨rfl, rfl, rfl, by decide +kernel, rfl, by decide +kernel, by decide +kernel⟩
theorem ok_either (a : At K mg "either" sEither) (rt : Can P w K mg base 44 "require_two" ["figures", "one", "other"] spRequireTwo) (ck : Can P w K mg base 42 "checked" ["picture"] (spChecked 41)) (op : Can P w K mg base 41 "opposed" ["picture"] (spOpposed 41)) (mt : Can P w K mg base 42 "met" ["one", "other"] (spMet 41)) :
    Can P w K mg base 45 "either" ["figures", "one", "other"] spEither := by
  refine a.can scEither (fun vs H Q E h => ?_) (fun _ _ _ _ _ _ us hl => match us, hl with | [_, _, _], _ => rfl) (fun f cdv A outer s H vs Q E hr h => ?_)
  · obtain ⟨n, v, S, u, U, rfl, _⟩ := h
    rfl
  · obtain ⟨n, v, S, u, U, rfl, hP, hU, ha, hb, d1, d2, d3, hc, q⟩ := h
    have hr42 : Room 42 _ := hr.mono (by decide)
    have hr41 : Room 41 _ := hr.mono (by decide)
    refine ⟨_, pss_cons (ps_expr (pe_can rt hr (pa_cons (pv 0) (pa_cons (pv 1) (pa_cons (pv 2) pa_nil)))))
      (pss_one (ps_ret (pe_can ck hr42 (pa_cons (pe_can op hr41 (pa_cons (pe_can mt hr42 (pa_cons (pe_can op hr41 (pa_cons (pv 1) pa_nil)) (pa_cons (pe_can op hr41 (pa_cons (pv 2) pa_nil)) pa_nil))) pa_nil)) pa_nil)))), ?_⟩
    refine ⟨_, rfl, _, rfl, _, rfl, n, v, S, u, U, rfl, hP, hU, ha, hb, fun H2 s2 => ?_⟩
    refine ⟨_, rfl, v, S, rfl, hP.mono (Same.tk s2), ha.dp, fun v1 H3 s3 g1 => ?_⟩
    refine ⟨_, rfl, u, U, rfl, hU.mono (Same.tk (s2.trans s3)), hb.dp, fun v2 H4 s4 g2 => ?_⟩
    refine ⟨v1, _, v2, _, rfl, g1.mono (Same.tk s4), g2, d1, fun v3 H5 s5 g3 => ?_⟩
    refine ⟨v3, _, rfl, g3, d2, fun v4 H6 s6 g4 => ?_⟩
    exact ⟨v4, _, rfl, g4, d3, hc, fun H7 s7 => q _ _ (s2.trans (s3.trans (s4.trans (s5.trans (s6.trans s7))))) (g4.mono (Same.tk s7))⟩
def spWithout : Sp := fun vs H Q _ => ∃ (n : Nat) (v : V) (S : Pic) (u : V) (U : Pic), vs = [.int (n : Int), v, u] ∧ PicAt H v S ∧ PicAt H u U ∧ Asked n S ∧ Asked n U ∧ dp (met S (opp U)) < 41 ∧
  cnt (met S (opp U)) ≤ 4000 ∧ ∀ v' H', Same H H' → PicAt H' v' (met S (opp U)) → Q v' H'
theorem scWithout : FnScope ["figures", "one", "other"] ["figures", "one", "other"] (defScope sWithout) := ⟨rfl, rfl, rfl, by decide +kernel, rfl, by decide +kernel, by decide +kernel⟩
theorem ok_without (a : At K mg "without" sWithout) (rt : Can P w K mg base 44 "require_two" ["figures", "one", "other"] spRequireTwo) (ck : Can P w K mg base 42 "checked" ["picture"] (spChecked 41)) (op : Can P w K mg base 41 "opposed" ["picture"] (spOpposed 41)) (mt : Can P w K mg base 42 "met" ["one", "other"] (spMet 41)) :
    Can P w K mg base 45 "without" ["figures", "one", "other"] spWithout := by
  refine a.can scWithout (fun vs H Q E h => ?_) (fun _ _ _ _ _ _ us hl => match us, hl with | [_, _, _], _ => rfl) (fun f cdv A outer s H vs Q E hr h => ?_)
  · obtain ⟨n, v, S, u, U, rfl, _⟩ := h
    rfl
  · obtain ⟨n, v, S, u, U, rfl, hP, hU, ha, hb, d2, hc, q⟩ := h
    have hr42 : Room 42 _ := hr.mono (by decide)
    have hr41 : Room 41 _ := hr.mono (by decide)
    refine ⟨_, pss_cons (ps_expr (pe_can rt hr (pa_cons (pv 0) (pa_cons (pv 1) (pa_cons (pv 2) pa_nil)))))
      (pss_one (ps_ret (pe_can ck hr42 (pa_cons (pe_can mt hr42 (pa_cons (pv 1) (pa_cons (pe_can op hr41 (pa_cons (pv 2) pa_nil)) pa_nil))) pa_nil)))), ?_⟩
    refine ⟨_, rfl, _, rfl, _, rfl, n, v, S, u, U, rfl, hP, hU, ha, hb, fun H2 s2 => ?_⟩
    refine ⟨_, rfl, _, rfl, u, U, rfl, hU.mono (Same.tk s2), hb.dp, fun v2 H4 s4 g2 => ?_⟩
    refine ⟨v, _, v2, _, rfl, hP.mono (Same.tk (s2.trans s4)), g2, ha.dp, fun v3 H5 s5 g3 => ?_⟩
    exact ⟨v3, _, rfl, g3, d2, hc, fun H7 s7 => q _ _ (s2.trans (s4.trans (s5.trans s7))) (g3.mono (Same.tk s7))⟩
end
end Pl

namespace Pl
open PySem PySem.Spec PyProof.Rows L2
abbrev sPairsAcross : Stmt := top 19
abbrev sPairsWithin : Stmt := top 20
abbrev sEdge : Stmt := top 43
section
variable {P : Program} {w : World} {K : PySem.W.Frag} {mg : Str → Option Value} {base : Heap}
/-- the steps over a border, as the tuples that stand -/
def StepsAt (H : Hp) (st : Addr) (h : Bool) : Prop := ∃ s0 s1, H st = some (.tup [.ref s0, .ref s1]) ∧ H s0 = some (.tup [.int (st1 h : Nat), .int 0]) ∧ H s1 = some (.tup [.int 3, .int ((3 - st1 h : Nat) : Int)])
theorem StepsAt.mono {H H' : Hp} {st : Addr} {h : Bool} (x : StepsAt H st h) (k : TupK H H') : StepsAt H' st h := by
  obtain ⟨s0, s1, h0, h1, h2⟩ := x
  exact ⟨s0, s1, k _ _ h0, k _ _ h1, k _ _ h2⟩
def spPA (d : Nat) : Sp := fun vs H Q _ => ∃ (n : Nat) (v : V) (S : Pic) (u : V) (U : Pic) (st : Addr) (h : Bool), vs = [.int (n : Int), v, u, .ref st] ∧ PicAt H v S ∧ PicAt H u U ∧ dok n S = true ∧ dok n U = true ∧ n ≤ 40 ∧ n < d ∧ StepsAt H st h ∧
  ∀ H', Same H H' → Q (.int (pa h n S U : Int)) H'
theorem scPA : FnScope ["figures", "one", "other", "steps", "mine", "its", "near", "far"] ["figures", "one", "other", "steps"] (defScope sPairsAcross) := ⟨rfl, rfl, rfl, by decide +kernel, rfl, by decide +kernel, by decide +kernel⟩
theorem pic_part {H : Hp} {a : Addr} {v0 v1 v2 v3 : V} {S : Pic} (h0 : H a = some (.tup [v0, v1, v2, v3])) (h1 : PicAt H v0 (part S 0)) (h2 : PicAt H v1 (part S 1)) (h3 : PicAt H v2 (part S 2)) (h4 : PicAt H v3 (part S 3)) {n : Nat} (hn : n < 4) :
    ∃ v, atI [v0, v1, v2, v3] (n : Int) = some v ∧ PicAt H v (part S n) := by
  match n, hn with
  | 0, _ => exact ⟨v0, atI_nat rfl, h1⟩
  | 1, _ => exact ⟨v1, atI_nat rfl, h2⟩
  | 2, _ => exact ⟨v2, atI_nat rfl, h3⟩
  | 3, _ => exact ⟨v3, atI_nat rfl, h4⟩
theorem ok_pairs_across (a : At K mg "pairs_across" sPairsAcross) (T : Bi mg) (pi : Can P w K mg base 1 "parts_in" ["picture"] spPartsIn) : ∀ d, Can P w K mg base (d + 1) "pairs_across" ["figures", "one", "other", "steps"] (spPA d)
  | 0 => (a.zero (fun _ _ _ _ _ _ us hl => match us, hl with | [_, _, _, _], _ => rfl) fun vs H Q E ⟨_, _, _, _, _, _, _, _, _, _, _, _, _, h, _⟩ => absurd h (Nat.not_lt_zero _)).mono (Nat.zero_le _)
  | d + 1 => by
    have c := ok_pairs_across a T pi d
    refine a.can scPA (fun vs H Q E h => ?_) (fun _ _ _ _ _ _ us hl => match us, hl with | [_, _, _, _], _ => rfl) (fun f cdv A outer s H vs Q E hr h => ?_)
    · obtain ⟨n, v, S, u, U, st, h, rfl, _⟩ := h
      rfl
    · obtain ⟨n, v, S, u, U, st, hz, rfl, hP, hU, k1, k2, h40, hd, hst, q⟩ := h
      have hr1 : Room 1 _ := hr.mono (by omega)
      refine ⟨_, pss_cons (ps_if (PW.pt (pw_or (pt_cmp (pc_eqP false hr.units (pv 1) pe_int)) (pw_or1 (pt_cmp (pc_eqP false hr.units (pv 2) pe_int))))) (pss_one (ps_ret pe_int)) pss_nil)
        (pss_cons (ps_if (PW.pt (pw_and (pt_cmp (pc_eqP true hr.units (pv 1) pe_int)) (pw_and1 (pt_cmp (pc_eqP true hr.units (pv 2) pe_int))))) (pss_one (ps_ret (pe_op op_shl pe_int (pv 0)))) pss_nil)
        (pss_cons (ps_asg (pe_tup (pa_cons (pe_can pi hr1 (pa_cons (pv 1) pa_nil)) (pa_cons (pe_can pi hr1 (pa_cons (pv 2) pa_nil)) pa_nil)))
            (pg_tup rfl (pgs_cons (pg_name (i := 4) scPA.nd rfl (Or.inr rfl)) (pgs_cons (pg_name (i := 5) scPA.nd rfl (Or.inr rfl)) pgs_nil))))
        (pss_one (ps_ret (pe_callB (cr_sum rfl) (by rfl) T.sum (by decide +kernel) (pa_cons (pe_lc (own := [("near", 6), ("far", 7)]) (g := gPair K 6 7) (tt := tYes) rfl scPA.nd (pi_tup (pv 3))
          (blkOk_by (own := [("near", 6), ("far", 7)]) (N := ["figures", "one", "other", "steps", "mine", "its", "near", "far"]) (sc := defScope sPairsAcross) (by decide +kernel))
          (fun _ _ _ _ _ => pg_tup rfl (pgs_cons (pg_name (i := 6) scPA.nd rfl (Or.inl rfl)) (pgs_cons (pg_name (i := 7) scPA.nd rfl (Or.inl rfl)) pgs_nil))) (fun _ _ _ _ _ => pts_nil)
          (fun _ _ _ _ _ => pe_can c hr (pa_cons (pe_op op_sub (pv 0) pe_int) (pa_cons (pe_ix (show IxR _ (rIxT K) from ix_tup) (pv 4) (pv 6) (fun _ _ => rfl)) (pa_cons (pe_ix (show IxR _ (rIxT K) from ix_tup) (pv 5) (pv 7) (fun _ _ => rfl)) (pa_cons (pv 3) pa_nil)))))) pa_nil)))))), ?_⟩
      by_cases c0 : S = .leaf false ∨ U = .leaf false
      · -- one of both is white
        have e0 : pa hz n S U = 0 := by
          cases n with
          | zero =>
            simp only [pa]
            rw [if_neg]
            rintro ⟨e1, e2⟩
            rcases c0 with e | e
            · rw [e1] at e
              cases e
            · rw [e2] at e
              cases e
          | succ n =>
            simp only [pa]
            rw [if_pos c0]
        rw [e0] at q
        refine ⟨v, S, rfl, hP, _, rfl, ?_⟩
        by_cases c1 : S = .leaf false
        · rw [decide_eq_true c1]
          exact iteT (iteT (q _ (Same.refl _)))
        · rw [decide_eq_false c1]
          refine iteF ⟨u, U, rfl, hU, _, rfl, ?_⟩
          rw [decide_eq_true (c0.resolve_left c1)]
          exact iteT (q _ (Same.refl _))
      · have c1 : ¬ S = .leaf false := fun e => c0 (.inl e)
        have c2 : ¬ U = .leaf false := fun e => c0 (.inr e)
        refine ⟨v, S, rfl, hP, _, rfl, ?_⟩
        rw [decide_eq_false c1]
        refine iteF ⟨u, U, rfl, hU, _, rfl, ?_⟩
        rw [decide_eq_false c2]
        refine iteF ?_
        by_cases c3 : S = .leaf true ∧ U = .leaf true
        · obtain ⟨rfl, rfl⟩ := c3
          refine ⟨v, _, rfl, hP, _, rfl, ?_⟩
          rw [decide_eq_true rfl]
          refine iteT ⟨u, _, rfl, hU, _, rfl, ?_⟩
          rw [decide_eq_true rfl]
          refine iteT ⟨_, rfl, _, _, rfl, rfl, ⟨by omega, by omega, by decide⟩, ?_⟩
          have e2 : ((1 : Int) * 2 ^ (n : Int).toNat) = ((pa hz n (.leaf true) (.leaf true) : Nat) : Int) := by
            rw [Int.toNat_natCast, Int.one_mul]
            cases n with
            | zero => simp [pa]
            | succ n => simp [pa]
          show Q (.int ((1 : Int) * 2 ^ (n : Int).toNat)) H
          rw [e2]
          exact q _ (Same.refl _)
        · -- the parts
          cases n with
          | zero =>
            exfalso
            cases S with
            | node p q' r t => simp [dok] at k1
            | leaf b => cases U with
              | node p q' r t => simp [dok] at k2
              | leaf b' => cases b <;> cases b' <;> simp at *
          | succ n =>
          have e0 : pa hz (n + 1) S U = pa hz n (part S (st1 hz)) (part U 0) + pa hz n (part S 3) (part U (3 - st1 hz)) := by
            simp only [pa]
            rw [if_neg c0, if_neg c3]
          have both : ∀ (k : Prop), (if (decide (S = .leaf true)) = true then (if (decide (U = .leaf true)) = true then False else k) else k) → True := fun _ _ => trivial
          refine ⟨v, S, rfl, hP, _, rfl, ?_⟩
          -- what follows the tests
          have cont : ∀ (Tt Tf : Prop), Tf → (if (decide (S = .leaf true)) = true then (∃ v' S', some (some u) = some (some v') ∧ PicAt H v' S' ∧ ∃ c, (V.bl (decide (S' = .leaf true))) = V.bl c ∧ (if c = true then Tt else Tf)) else Tf) := by
            intro Tt Tf h
            refine ite2 (fun e => ?_) (fun _ => h)
            refine ⟨u, U, rfl, hU, _, rfl, ?_⟩
            rw [decide_eq_false (fun e2 => c3 ⟨of_decide_eq_true e, e2⟩)]
            exact iteF h
          refine cont _ _ ?_
          refine ⟨_, rfl, v, S, rfl, hP, fun a1 v0 v1 v2 v3 H2 s2 g0 g1 g2 g3 g4 => ?_⟩
          refine ⟨_, rfl, u, U, rfl, hU.mono (Same.tk s2), fun a2 u0 u1 u2 u3 H3 s3 f0 f1 f2 f3 f4 => ?_⟩
          refine ⟨by show 2 ≤ sizeLine; decide, fun tt ntt => ?_⟩
          have s4 := same_new ntt (.tup [V.ref a1, V.ref a2])
          refine ⟨tt, _, rfl, SqT.of upd_same, rfl, _, _, rfl, _, _, rfl, rfl, ?_⟩
          have hst4 := hst.mono (Same.tk (s2.trans (s3.trans s4)))
          have tk24 := Same.tk (s3.trans s4)
          have G0 := tk24 _ _ g0
          have G1 := g1.mono tk24
          have G2 := g2.mono tk24
          have G3 := g3.mono tk24
          have G4 := g4.mono tk24
          have F0 := s4 _ _ f0
          have F1 := f1.mono (Same.tk s4)
          have F2 := f2.mono (Same.tk s4)
          have F3 := f3.mono (Same.tk s4)
          have F4 := f4.mono (Same.tk s4)
          have s24 := s2.trans (s3.trans s4)
          generalize upd H3 tt (.tup [V.ref a1, V.ref a2]) = H4 at s24 s4 hst4 G0 G1 G2 G3 G4 F0 F1 F2 F3 F4 tk24
          obtain ⟨t0, t1, w0, w1, w2⟩ := id hst4
          refine ⟨_, rfl, st, rfl, ⟨_, SqT.of w0⟩, fun D hD => lc_tup2 (K := K) (ts := [t0, t1]) (by decide) (fun j y _ => [V.int (pa hz n (part S (st1 hz)) (part U 0) : Int), V.int (pa hz n (part S 3) (part U (3 - st1 hz)) : Int)][j]? = some y) (fun _ _ _ _ _ h => h) hD w0 (by show 2 ≤ 10000; decide)
            (fun m => if m = 0 then .int (st1 hz : Nat) else .int 3) (fun m => if m = 0 then .int 0 else .int ((3 - st1 hz : Nat) : Int)) (fun m t ht => ?_) (fun m H5 k hm s5 hk => ?_) (fun H5 zs s5 hDl hl hzs => ?_)⟩
          · match m, ht with
            | 0, ht => cases ht; exact w1
            | 1, ht => cases ht; exact w2
          · have tk5 := Same.tk s5
            have en : ((n + 1 : Nat) : Int) - 1 = (n : Int) := by omega
            have go : ∀ (x y : Nat) (r : Nat), x < 4 → y < 4 → r = pa hz n (part S x) (part U y) → (∀ H', Same H5 H' → k (.int (r : Int)) H') →
                spPA d [V.int (((n + 1 : Nat) : Int) - 1), (([v0, v1, v2, v3][x]?).getD .non), (([u0, u1, u2, u3][y]?).getD .non), V.ref st] H5 k E0 := by
              intro x y r hx hy er hk'
              rw [en]
              obtain ⟨vx, ex, px⟩ := pic_part (tk5 _ _ G0) (G1.mono tk5) (G2.mono tk5) (G3.mono tk5) (G4.mono tk5) hx
              obtain ⟨uy, ey, py⟩ := pic_part (tk5 _ _ F0) (F1.mono tk5) (F2.mono tk5) (F3.mono tk5) (F4.mono tk5) hy
              have ex' : ([v0, v1, v2, v3][x]?).getD .non = vx := by
                match x, hx, ex with
                | 0, _, ex => simp [atI, ixN] at ex; simp [ex]
                | 1, _, ex => simp [atI, ixN] at ex; simp [ex]
                | 2, _, ex => simp [atI, ixN] at ex; simp [ex]
                | 3, _, ex => simp [atI, ixN] at ex; simp [ex]
              have ey' : ([u0, u1, u2, u3][y]?).getD .non = uy := by
                match y, hy, ey with
                | 0, _, ey => simp [atI, ixN] at ey; simp [ey]
                | 1, _, ey => simp [atI, ixN] at ey; simp [ey]
                | 2, _, ey => simp [atI, ixN] at ey; simp [ey]
                | 3, _, ey => simp [atI, ixN] at ey; simp [ey]
              rw [ex', ey']
              refine ⟨n, vx, part S x, uy, part U y, st, hz, rfl, px, py, dok_part k1 x, dok_part k2 y, by omega, by omega, hst4.mono tk5, fun H' s' => ?_⟩
              rw [← er]
              exact hk' _ s'
            match m, hm with
            | 0, _ =>
              have go0 := go (st1 hz) 0 _ (by cases hz <;> decide) (by decide) rfl fun H' s' => hk _ _ s' rfl
              cases hz with
              | true =>
                refine ⟨_, rfl, _, _, rfl, rfl, _, rfl, _, rfl, a1, _, _, v1, rfl, rfl, SqT.of (s5 _ _ G0), atI_nat (j := 1) rfl, _, rfl, _, rfl, a2, _, _, u0, rfl, rfl, SqT.of (s5 _ _ F0), atI_nat (j := 0) rfl, _, rfl, go0⟩
              | false =>
                refine ⟨_, rfl, _, _, rfl, rfl, _, rfl, _, rfl, a1, _, _, v2, rfl, rfl, SqT.of (s5 _ _ G0), atI_nat (j := 2) rfl, _, rfl, _, rfl, a2, _, _, u0, rfl, rfl, SqT.of (s5 _ _ F0), atI_nat (j := 0) rfl, _, rfl, go0⟩
            | 1, _ =>
              have go1 := go 3 (3 - st1 hz) _ (by decide) (by cases hz <;> decide) rfl fun H' s' => hk _ _ s' rfl
              cases hz with
              | true =>
                refine ⟨_, rfl, _, _, rfl, rfl, _, rfl, _, rfl, a1, _, _, v3, rfl, rfl, SqT.of (s5 _ _ G0), atI_nat (j := 3) rfl, _, rfl, _, rfl, a2, _, _, u2, rfl, rfl, SqT.of (s5 _ _ F0), atI_nat (j := 2) rfl, _, rfl, go1⟩
              | false =>
                refine ⟨_, rfl, _, _, rfl, rfl, _, rfl, _, rfl, a1, _, _, v3, rfl, rfl, SqT.of (s5 _ _ G0), atI_nat (j := 3) rfl, _, rfl, _, rfl, a2, _, _, u1, rfl, rfl, SqT.of (s5 _ _ F0), atI_nat (j := 1) rfl, _, rfl, go1⟩
          · have e : zs = [V.int (pa hz n (part S (st1 hz)) (part U 0) : Int), V.int (pa hz n (part S 3) (part U (3 - st1 hz)) : Int)] := by
              match zs, hl, hzs with
              | [x, y], _, hzs =>
                have e1 := hzs 0 x rfl
                have e2 := hzs 1 y rfl
                simp at e1 e2
                rw [e1, e2]
            subst e
            refine ⟨D, [(pa hz n (part S (st1 hz)) (part U 0) : Int), (pa hz n (part S 3) (part U (3 - st1 hz)) : Int)], rfl, SqL.of hDl, ?_⟩
            have e2 : [(pa hz n (part S (st1 hz)) (part U 0) : Int), (pa hz n (part S 3) (part U (3 - st1 hz)) : Int)].sum = ((pa hz (n + 1) S U : Nat) : Int) := by
              rw [e0]
              simp only [List.sum_cons, List.sum_nil]
              omega
            rw [e2]
            exact q _ (s24.trans s5)
/-! ### pairs_within -/
def spPW (d : Nat) : Sp := fun vs H Q _ => ∃ (n : Nat) (v : V) (S : Pic), vs = [.int (n : Int), v] ∧ PicAt H v S ∧ dok n S = true ∧ n ≤ 40 ∧ n < d ∧ ∀ H', Same H H' → Q (.int (pw n S : Int)) H'
theorem scPW : FnScope ["figures", "picture", "found", "one", "other", "part"] ["figures", "picture"] (defScope sPairsWithin) := ⟨rfl, rfl, rfl, by decide +kernel, rfl, by decide +kernel, by decide +kernel⟩
theorem pow40 {n : Nat} (h : n ≤ 40) : (2 : Nat) ^ n ≤ 1099511627776 := Nat.le_trans (Nat.pow_le_pow_right (by decide) h) (by decide)
theorem pow1 (n : Nat) : 1 ≤ (2 : Nat) ^ n := Nat.one_le_two_pow
theorem ok_pairs_within (a : At K mg "pairs_within" sPairsWithin) (T : Bi mg) (pc : Can P w K mg base 42 "pairs_across" ["figures", "one", "other", "steps"] (spPA 41)) : ∀ d, Can P w K mg base (d + 42) "pairs_within" ["figures", "picture"] (spPW d)
  | 0 => (a.zero (fun _ _ _ _ _ _ us hl => match us, hl with | [_, _], _ => rfl) fun vs H Q E ⟨_, _, _, _, _, _, _, h, _⟩ => absurd h (Nat.not_lt_zero _)).mono (Nat.zero_le _)
  | d + 1 => by
    have c := ok_pairs_within a T pc d
    rw [show d + 1 + 42 = (d + 42) + 1 by omega]
    refine a.can scPW (fun vs H Q E h => ?_) (fun _ _ _ _ _ _ us hl => match us, hl with | [_, _], _ => rfl) (fun f cdv A outer s H vs Q E hr h => ?_)
    · obtain ⟨n, v, S, rfl, _⟩ := h
      rfl
    · obtain ⟨n, v, S, rfl, hP, hok, h40, hd, q⟩ := h
      have hr42 : Room 42 _ := hr.mono (by omega)
      refine ⟨_, pss_cons (ps_if (pt_cmp (pc_in01 hr.units (pv 1) pe_int pe_int)) (pss_one (ps_ret (pe_op op_shl (pe_op op_mul (pe_op op_mul (pv 1) pe_int) (pe_op op_sub (pe_op op_shl pe_int (pv 0)) pe_int)) (pv 0)))) pss_nil)
        (pss_cons (ps_set (i := 2) scPW.nd rfl (Or.inl rfl) (pe_callB (cr_sum rfl) (by rfl) T.sum (by decide +kernel) (pa_cons (pe_lc (own := [("part", 5)]) (g := gName 5) (tt := tYes) rfl scPW.nd (pi_tup (pv 1))
          (blkOk_by (own := [("part", 5)]) (N := ["figures", "picture", "found", "one", "other", "part"]) (sc := defScope sPairsWithin) (by decide +kernel)) (fun _ _ _ _ _ => pg_name (i := 5) scPW.nd rfl (Or.inl rfl)) (fun _ _ _ _ _ => pts_nil)
          (fun _ _ _ _ _ => pe_can c hr (pa_cons (pe_op op_sub (pv 0) pe_int) (pa_cons (pv 5) pa_nil)))) pa_nil)))
        (pss_cons (ps_for PassesOwn.never rfl (pi_tup (pe_tup (pa_cons (pe_tup (pa_cons pe_int (pa_cons pe_int pa_nil))) (pa_cons (pe_tup (pa_cons pe_int (pa_cons pe_int pa_nil))) pa_nil)))) (pg_tup rfl (pgs_cons (pg_name (i := 3) scPW.nd rfl (Or.inl rfl)) (pgs_cons (pg_name (i := 4) scPW.nd rfl (Or.inl rfl)) pgs_nil)))
            (pss_one (ps_aug (i := 2) scPW.nd rfl (Or.inl rfl) (pe_can pc hr42 (pa_cons (pe_op op_sub (pv 0) pe_int) (pa_cons (pe_ix ix_tup (pv 1) (pv 3) (fun _ _ => rfl)) (pa_cons (pe_ix ix_tup (pv 1) (pv 4) (fun _ _ => rfl)) (pa_cons (pe_tup (pa_cons (pe_tup (pa_cons pe_int (pa_cons pe_int pa_nil))) (pa_cons (pe_tup (pa_cons pe_int (pa_cons pe_int pa_nil))) pa_nil))) pa_nil))))) ip_add)))
        (pss_cons (ps_for PassesOwn.never rfl (pi_tup (pe_tup (pa_cons (pe_tup (pa_cons pe_int (pa_cons pe_int pa_nil))) (pa_cons (pe_tup (pa_cons pe_int (pa_cons pe_int pa_nil))) pa_nil)))) (pg_tup rfl (pgs_cons (pg_name (i := 3) scPW.nd rfl (Or.inl rfl)) (pgs_cons (pg_name (i := 4) scPW.nd rfl (Or.inl rfl)) pgs_nil)))
            (pss_one (ps_aug (i := 2) scPW.nd rfl (Or.inl rfl) (pe_can pc hr42 (pa_cons (pe_op op_sub (pv 0) pe_int) (pa_cons (pe_ix ix_tup (pv 1) (pv 3) (fun _ _ => rfl)) (pa_cons (pe_ix ix_tup (pv 1) (pv 4) (fun _ _ => rfl)) (pa_cons (pe_tup (pa_cons (pe_tup (pa_cons pe_int (pa_cons pe_int pa_nil))) (pa_cons (pe_tup (pa_cons pe_int (pa_cons pe_int pa_nil))) pa_nil))) pa_nil))))) ip_add)))
        (pss_one (ps_ret (pv 2)))))), ?_⟩
      refine ⟨v, S, rfl, hP, fun H2 s2 => ⟨_, rfl, ?_⟩⟩
      refine ite2 (fun cl => ?_) (fun cl => ?_)
      · obtain ⟨b, rfl⟩ := isLeaf_iff cl
        have e : v = .int (if b then 1 else 0) := hP
        subst e
        have p40 := pow40 h40
        have p1 := pow1 n
        have ec : ((2 : Int) ^ (n : Int).toNat) = ((2 ^ n : Nat) : Int) := by rw [Int.toNat_natCast]; simp
        have em : (1 : Int) * 2 ^ (n : Int).toNat - 1 = ((2 ^ n - 1 : Nat) : Int) := by
          rw [ec]
          omega
        refine ⟨_, rfl, _, _, rfl, rfl, .inr ⟨by decide, by decide⟩, _, rfl, _, _, rfl, rfl, ⟨by omega, by omega, by decide⟩, _, _, rfl, rfl, _, _, rfl, rfl, .inl ⟨by cases b <;> decide, by cases b <;> decide⟩, _, rfl, _, _, rfl, rfl, ⟨by omega, by omega, ?_⟩, ?_⟩
        · show ((if b = true then (1 : Int) else 0) * 2 * ((1 : Int) * 2 ^ (n : Int).toNat - 1)).natAbs < 2 ^ 64
          rw [em]
          cases b <;> simp <;> omega
        · have e2 : ((if b = true then (1 : Int) else 0) * 2 * ((1 : Int) * 2 ^ (n : Int).toNat - 1)) * 2 ^ (n : Int).toNat = ((pw n (.leaf b) : Nat) : Int) := by
            rw [em, ec]
            cases b with
            | false => simp [pw, b2n]
            | true =>
              simp only [pw, b2n, if_true, Int.one_mul, Nat.one_mul]
              rw [Int.natCast_mul, Int.natCast_mul, Int.mul_assoc]
              rfl
          show Q (.int (((if b = true then (1 : Int) else 0) * 2 * ((1 : Int) * 2 ^ (n : Int).toNat - 1)) * 2 ^ (n : Int).toNat)) H2
          rw [e2]
          exact q _ s2
      · obtain ⟨p, q', r, t, rfl⟩ := isNode_iff (Bool.eq_false_iff.mpr cl)
        obtain ⟨ad, v0, v1, v2, v3, rfl, h0, h1, h2, h3, h4⟩ := hP
        cases n with
        | zero => simp [dok] at hok
        | succ n =>
        simp only [dok, Bool.and_eq_true] at hok
        obtain ⟨k1, k2, k3, k4⟩ := hok
        have en : ((n + 1 : Nat) : Int) - 1 = (n : Int) := by omega
        refine ⟨_, rfl, ad, rfl, ⟨_, SqT.of (s2 _ _ h0)⟩, fun D hD => lc_tup1 (K := K) (fun j y _ => [V.int (pw n p : Int), V.int (pw n q' : Int), V.int (pw n r : Int), V.int (pw n t : Int)][j]? = some y) (fun _ _ _ _ _ h => h) hD (s2 _ _ h0) (by show 4 ≤ 10000; decide) (fun j x H3 k hx s3 hk => ?_) (fun H3 ys s3 hDl hl hys => ?_)⟩
        · have tk := (Same.tk s2).trans (Same.tk s3)
          refine ⟨_, rfl, _, _, rfl, rfl, _, rfl, ?_⟩
          show spPW d [V.int (((n + 1 : Nat) : Int) - 1), x] H3 k E0
          rw [en]
          match j, hx with
          | 0, hx => cases hx; exact ⟨n, v0, p, rfl, h1.mono tk, k1, by omega, by omega, fun H' s' => hk _ _ s' rfl⟩
          | 1, hx => cases hx; exact ⟨n, v1, q', rfl, h2.mono tk, k2, by omega, by omega, fun H' s' => hk _ _ s' rfl⟩
          | 2, hx => cases hx; exact ⟨n, v2, r, rfl, h3.mono tk, k3, by omega, by omega, fun H' s' => hk _ _ s' rfl⟩
          | 3, hx => cases hx; exact ⟨n, v3, t, rfl, h4.mono tk, k4, by omega, by omega, fun H' s' => hk _ _ s' rfl⟩
        · have e := four_of hl hys
          subst e
          refine ⟨D, [(pw n p : Int), (pw n q' : Int), (pw n r : Int), (pw n t : Int)], rfl, SqL.of hDl, ?_⟩
          generalize ew : [(pw n p : Int), (pw n q' : Int), (pw n r : Int), (pw n t : Int)].sum = w0
          have s23 := s2.trans s3
          -- one call of pairs_across
          have call : ∀ (hz : Bool) (x y : V) (X Y : Pic) (H5 : Hp) (k : V → Hp → Prop), Same H H5 → PicAt H5 x X → PicAt H5 y Y → dok n X = true → dok n Y = true → (∀ H', Same H5 H' → k (.int (pa hz n X Y : Int)) H') →
              ∀ (t0 t1 st : Addr) (H6 : Hp), Same H5 H6 → H6 st = some (.tup [.ref t0, .ref t1]) → H6 t0 = some (.tup [.int (st1 hz : Nat), .int 0]) → H6 t1 = some (.tup [.int 3, .int ((3 - st1 hz : Nat) : Int)]) →
              spPA 41 [V.int (((n + 1 : Nat) : Int) - 1), x, y, .ref st] H6 k E0 := by
            intro hz x y X Y H5 k s5 px py kx ky hk t0 t1 st H6 s6 w0 w1 w2
            rw [en]
            exact ⟨n, x, X, y, Y, st, hz, rfl, px.mono (Same.tk s6), py.mono (Same.tk s6), kx, ky, by omega, by omega, ⟨t0, t1, w0, w1, w2⟩, fun H' s' => hk _ (s6.trans s')⟩
          -- the two loops
          refine ⟨by show 2 ≤ sizeLine; decide, fun t0 n0 => ?_⟩
          have z0 := same_new n0 (.tup [V.int 0, V.int 1])
          refine ⟨by show 2 ≤ sizeLine; decide, fun t1 n1 => ?_⟩
          have z1 := same_new n1 (.tup [V.int 2, V.int 3])
          refine ⟨by show 2 ≤ sizeLine; decide, fun t2 n2 => ?_⟩
          have z2 := same_new n2 (.tup [V.ref t0, V.ref t1])
          have T0 := z2 _ _ (z1 _ _ (upd_same (H := H3) (a := t0) (o := .tup [V.int 0, V.int 1])))
          have T1 := z2 _ _ (upd_same (H := upd H3 t0 (.tup [V.int 0, V.int 1])) (a := t1) (o := .tup [V.int 2, V.int 3]))
          have T2 : upd (upd (upd H3 t0 (.tup [V.int 0, V.int 1])) t1 (.tup [V.int 2, V.int 3])) t2 (.tup [V.ref t0, V.ref t1]) t2 = some (.tup [V.ref t0, V.ref t1]) := upd_same
          have s34 := s23.trans (z0.trans (z1.trans z2))
          generalize upd (upd (upd H3 t0 (.tup [V.int 0, V.int 1])) t1 (.tup [V.int 2, V.int 3])) t2 (.tup [V.ref t0, V.ref t1]) = H4 at T0 T1 T2 s34
          refine ⟨t2, rfl, ⟨_, SqT.of T2⟩, for_it (walk_tup (K := K) (a := t2) (xs := [V.ref t0, V.ref t1])) (fun i σ H5 => ∃ x y : Option V, σ = [some (.int ((n + 1 : Nat) : Int)), some (.ref ad), some (.int (w0 + (acc4 (pa true n p q') (pa true n r t) 0 0 i : Nat))), x, y, none] ∧ Same H4 H5)
            ⟨none, none, by simp [acc4]; rfl, Same.refl _⟩ (fun i σ H5 _ ⟨_, _, _, s5⟩ => SqT.of (s5 _ _ T2)) ?_ ?_⟩
          · rintro i x σ H5 H6 hi ⟨_, _, rfl, s5⟩ ⟨rfl, ey⟩
            match i, hi, ey with
            | 0, _, ey =>
              cases ey
              refine ⟨t0, _, rfl, SqT.of (s5 _ _ T0), rfl, _, _, rfl, _, _, rfl, rfl, ?_⟩
              have s35 := s34.trans s5
              refine ⟨_, rfl, _, rfl, _, _, rfl, rfl, _, rfl, _, rfl, ad, _, _, v0, rfl, rfl, SqT.of (s35 _ _ h0), atI_nat (j := 0) rfl, _, rfl, _, rfl, ad, _, _, v1, rfl, rfl, SqT.of (s35 _ _ h0), atI_nat (j := 1) rfl, by show 2 ≤ sizeLine; decide, fun u0 m0 => ?_⟩
              refine ⟨by show 2 ≤ sizeLine; decide, fun u1 m1 => ⟨by show 2 ≤ sizeLine; decide, fun u2 m2 => ?_⟩⟩
              have c0 := same_new m0 (.tup [V.int 1, V.int 0])
              have c1 := same_new m1 (.tup [V.int 3, V.int 2])
              have c2 := same_new m2 (.tup [V.ref u0, V.ref u1])
              dsimp only [tNil, List.append_nil]
              refine call true v0 v1 p q' _ _ s35 (h1.mono (Same.tk s35)) (h2.mono (Same.tk s35)) k1 k2 (fun H7 s7 => ?_) u0 u1 u2 _ (c0.trans (c1.trans c2)) upd_same (c2 _ _ (c1 _ _ upd_same)) (c2 _ _ upd_same)
              refine ⟨_, _, rfl, rfl, some (V.int 0), some (V.int 1), ?_, s5.trans s7⟩
              refine congrArg (fun z : V => [some (V.int ((n + 1 : Nat) : Int)), some (V.ref ad), some z, some (V.int 0), some (V.int 1), none]) (congrArg V.int ?_)
              simp only [acc4]
              omega
            | 1, _, ey =>
              cases ey
              refine ⟨t1, _, rfl, SqT.of (s5 _ _ T1), rfl, _, _, rfl, _, _, rfl, rfl, ?_⟩
              have s35 := s34.trans s5
              refine ⟨_, rfl, _, rfl, _, _, rfl, rfl, _, rfl, _, rfl, ad, _, _, v2, rfl, rfl, SqT.of (s35 _ _ h0), atI_nat (j := 2) rfl, _, rfl, _, rfl, ad, _, _, v3, rfl, rfl, SqT.of (s35 _ _ h0), atI_nat (j := 3) rfl, by show 2 ≤ sizeLine; decide, fun u0 m0 => ?_⟩
              refine ⟨by show 2 ≤ sizeLine; decide, fun u1 m1 => ⟨by show 2 ≤ sizeLine; decide, fun u2 m2 => ?_⟩⟩
              have c0 := same_new m0 (.tup [V.int 1, V.int 0])
              have c1 := same_new m1 (.tup [V.int 3, V.int 2])
              have c2 := same_new m2 (.tup [V.ref u0, V.ref u1])
              dsimp only [tNil, List.append_nil]
              refine call true v2 v3 r t _ _ s35 (h3.mono (Same.tk s35)) (h4.mono (Same.tk s35)) k3 k4 (fun H7 s7 => ?_) u0 u1 u2 _ (c0.trans (c1.trans c2)) upd_same (c2 _ _ (c1 _ _ upd_same)) (c2 _ _ upd_same)
              refine ⟨_, _, rfl, rfl, some (V.int 2), some (V.int 3), ?_, s5.trans s7⟩
              refine congrArg (fun z : V => [some (V.int ((n + 1 : Nat) : Int)), some (V.ref ad), some z, some (V.int 2), some (V.int 3), none]) (congrArg V.int ?_)
              simp only [acc4]
              omega
          · rintro σ H5 ⟨x5, y5, rfl, s45⟩
            -- the second loop
            refine ⟨by show 2 ≤ sizeLine; decide, fun t3 n3 => ?_⟩
            have y0 := same_new n3 (.tup [V.int 0, V.int 2])
            refine ⟨by show 2 ≤ sizeLine; decide, fun t4 n4 => ?_⟩
            have y1 := same_new n4 (.tup [V.int 1, V.int 3])
            refine ⟨by show 2 ≤ sizeLine; decide, fun t5 n5 => ?_⟩
            have y2 := same_new n5 (.tup [V.ref t3, V.ref t4])
            have Y0 := y2 _ _ (y1 _ _ (upd_same (H := H5) (a := t3) (o := .tup [V.int 0, V.int 2])))
            have Y1 := y2 _ _ (upd_same (H := upd H5 t3 (.tup [V.int 0, V.int 2])) (a := t4) (o := .tup [V.int 1, V.int 3]))
            have Y2 : upd (upd (upd H5 t3 (.tup [V.int 0, V.int 2])) t4 (.tup [V.int 1, V.int 3])) t5 (.tup [V.ref t3, V.ref t4]) t5 = some (.tup [V.ref t3, V.ref t4]) := upd_same
            replace s45 := s45.trans (y0.trans (y1.trans y2))
            generalize upd (upd (upd H5 t3 (.tup [V.int 0, V.int 2])) t4 (.tup [V.int 1, V.int 3])) t5 (.tup [V.ref t3, V.ref t4]) = H6 at Y0 Y1 Y2 s45
            generalize ew2 : w0 + (acc4 (pa true n p q') (pa true n r t) 0 0 [V.ref t0, V.ref t1].length : Nat) = w2
            refine ⟨t5, rfl, ⟨_, SqT.of Y2⟩, for_it (walk_tup (K := K) (a := t5) (xs := [V.ref t3, V.ref t4])) (fun i σ H7 => ∃ x y : Option V, σ = [some (.int ((n + 1 : Nat) : Int)), some (.ref ad), some (.int (w2 + (acc4 (pa false n p r) (pa false n q' t) 0 0 i : Nat))), x, y, none] ∧ Same H6 H7)
              ⟨x5, y5, congrArg (fun z : V => [some (V.int ((n + 1 : Nat) : Int)), some (V.ref ad), some z, x5, y5, none]) (congrArg V.int (by simp only [acc4]; omega)), Same.refl _⟩ (fun i σ H7 _ ⟨_, _, _, s5⟩ => SqT.of (s5 _ _ Y2)) ?_ ?_⟩
            · rintro i x σ H7 H8 hi ⟨_, _, rfl, s5⟩ ⟨rfl, ey⟩
              match i, hi, ey with
              | 0, _, ey =>
                cases ey
                refine ⟨t3, _, rfl, SqT.of (s5 _ _ Y0), rfl, _, _, rfl, _, _, rfl, rfl, ?_⟩
                have s35 := s34.trans (s45.trans s5)
                refine ⟨_, rfl, _, rfl, _, _, rfl, rfl, _, rfl, _, rfl, ad, _, _, v0, rfl, rfl, SqT.of (s35 _ _ h0), atI_nat (j := 0) rfl, _, rfl, _, rfl, ad, _, _, v2, rfl, rfl, SqT.of (s35 _ _ h0), atI_nat (j := 2) rfl, by show 2 ≤ sizeLine; decide, fun u0 m0 => ?_⟩
                refine ⟨by show 2 ≤ sizeLine; decide, fun u1 m1 => ⟨by show 2 ≤ sizeLine; decide, fun u2 m2 => ?_⟩⟩
                have c0 := same_new m0 (.tup [V.int 2, V.int 0])
                have c1 := same_new m1 (.tup [V.int 3, V.int 1])
                have c2 := same_new m2 (.tup [V.ref u0, V.ref u1])
                dsimp only [tNil, List.append_nil]
                refine call false v0 v2 p r _ _ s35 (h1.mono (Same.tk s35)) (h3.mono (Same.tk s35)) k1 k3 (fun H7 s7 => ?_) u0 u1 u2 _ (c0.trans (c1.trans c2)) upd_same (c2 _ _ (c1 _ _ upd_same)) (c2 _ _ upd_same)
                refine ⟨_, _, rfl, rfl, some (V.int 0), some (V.int 2), ?_, s5.trans s7⟩
                refine congrArg (fun z : V => [some (V.int ((n + 1 : Nat) : Int)), some (V.ref ad), some z, some (V.int 0), some (V.int 2), none]) (congrArg V.int ?_)
                simp only [acc4]
                omega
              | 1, _, ey =>
                cases ey
                refine ⟨t4, _, rfl, SqT.of (s5 _ _ Y1), rfl, _, _, rfl, _, _, rfl, rfl, ?_⟩
                have s35 := s34.trans (s45.trans s5)
                refine ⟨_, rfl, _, rfl, _, _, rfl, rfl, _, rfl, _, rfl, ad, _, _, v1, rfl, rfl, SqT.of (s35 _ _ h0), atI_nat (j := 1) rfl, _, rfl, _, rfl, ad, _, _, v3, rfl, rfl, SqT.of (s35 _ _ h0), atI_nat (j := 3) rfl, by show 2 ≤ sizeLine; decide, fun u0 m0 => ?_⟩
                refine ⟨by show 2 ≤ sizeLine; decide, fun u1 m1 => ⟨by show 2 ≤ sizeLine; decide, fun u2 m2 => ?_⟩⟩
                have c0 := same_new m0 (.tup [V.int 2, V.int 0])
                have c1 := same_new m1 (.tup [V.int 3, V.int 1])
                have c2 := same_new m2 (.tup [V.ref u0, V.ref u1])
                dsimp only [tNil, List.append_nil]
                refine call false v1 v3 q' t _ _ s35 (h2.mono (Same.tk s35)) (h4.mono (Same.tk s35)) k2 k4 (fun H7 s7 => ?_) u0 u1 u2 _ (c0.trans (c1.trans c2)) upd_same (c2 _ _ (c1 _ _ upd_same)) (c2 _ _ upd_same)
                refine ⟨_, _, rfl, rfl, some (V.int 1), some (V.int 3), ?_, s5.trans s7⟩
                refine congrArg (fun z : V => [some (V.int ((n + 1 : Nat) : Int)), some (V.ref ad), some z, some (V.int 1), some (V.int 3), none]) (congrArg V.int ?_)
                simp only [acc4]
                omega
            · rintro σ H7 ⟨_, _, rfl, s5⟩
              refine ⟨_, rfl, ?_⟩
              have e2 : w2 + (acc4 (pa false n p r) (pa false n q' t) 0 0 [V.ref t3, V.ref t4].length : Nat) = ((pw (n + 1) (.node p q' r t) : Nat) : Int) := by
                rw [← ew2, ← ew]
                simp only [acc4, pw, List.sum_cons, List.sum_nil, List.length_cons, List.length_nil, Nat.add_sub_cancel]
                omega
              rw [e2]
              exact q _ (s34.trans (s45.trans s5))
/-! ### edge -/
theorem scEdge : FnScope ["figures", "picture"] ["figures", "picture"] (defScope sEdge) := ⟨rfl, rfl, rfl, by decide +kernel, rfl, by decide +kernel, by decide +kernel⟩
theorem ok_edge (a : At K mg "edge" sEdge) (rf : CRF P w K mg base) (rp : CRP P w K mg base) (bk : Can P w K mg base 41 "black_count" ["figures", "picture"] (spBlackCount 41)) (pw_ : Can P w K mg base 83 "pairs_within" ["figures", "picture"] (spPW 41)) :
    Can P w K mg base 84 "edge" ["figures", "picture"] (spNum fun n S => 4 * (bc n S : Int) - 2 * (pw n S : Int)) := by
  refine a.can scEdge (fun vs H Q E h => ?_) (fun _ _ _ _ _ _ us hl => match us, hl with | [_, _], _ => rfl) (fun f cdv A outer s H vs Q E hr h => ?_)
  · obtain ⟨n, v, S, rfl, _⟩ := h
    rfl
  · obtain ⟨n, v, S, rfl, hP, ha, q⟩ := h
    refine ⟨_, pss_cons (ps_expr (pe_can rf (hr.mono (by decide)) (pa_cons (pv 0) pa_nil))) (pss_cons (ps_expr (pe_can rp (hr.mono (by decide)) (pa_cons (pv 0) (pa_cons (pv 1) pa_nil))))
      (pss_one (ps_ret (pe_op op_sub (pe_op op_mul pe_int (pe_can bk (hr.mono (by decide)) (pa_cons (pv 0) (pa_cons (pv 1) pa_nil)))) (pe_op op_mul pe_int (pe_can pw_ hr (pa_cons (pv 0) (pa_cons (pv 1) pa_nil)))))))), ?_⟩
    have ha' := ha.2.1
    refine ⟨_, rfl, n, rfl, ha.2.1, _, rfl, _, rfl, n, v, S, rfl, hP, ha.1, ha.2.1, ha.2.2, fun H2 s2 => ⟨_, rfl, _, rfl, n, v, S, rfl, hP.mono (Same.tk s2), wf_dok _ _ ha.1, ha.2.1, by omega, fun H3 s3 => ?_⟩⟩
    refine ⟨_, _, rfl, rfl, .inl ⟨by decide, by decide⟩, _, rfl, _, rfl, n, v, S, rfl, hP.mono (Same.tk (s2.trans s3)), wf_dok _ _ ha.1, ha.2.1, by omega, fun H4 s4 => ?_⟩
    exact ⟨_, _, rfl, rfl, .inl ⟨by decide, by decide⟩, _, _, rfl, rfl, q _ (s2.trans (s3.trans s4))⟩
end
end Pl

namespace Pl
/-! ## Equivalences, systems of representatives -/
inductive Eqv {α : Type} (R : α → α → Prop) : α → α → Prop where
  | refl (a : α) : Eqv R a a
  | rel {a b : α} : R a b → Eqv R a b
  | symm {a b : α} : Eqv R a b → Eqv R b a
  | trans {a b c : α} : Eqv R a b → Eqv R b c → Eqv R a c
theorem Eqv.mono {α : Type} {R S : α → α → Prop} (h : ∀ a b, R a b → Eqv S a b) {a b : α} (e : Eqv R a b) : Eqv S a b := by
  induction e with
  | refl => exact .refl _
  | rel r => exact h _ _ r
  | symm _ ih => exact ih.symm
  | trans _ _ i1 i2 => exact i1.trans i2
structure Reps {α : Type} (R : α → α → Prop) (U : α → Prop) (rs : List α) : Prop where
  sub : ∀ r ∈ rs, U r
  ind : rs.Pairwise fun a b => ¬ Eqv R a b
  all : ∀ u, U u → ∃ r ∈ rs, Eqv R u r
theorem indep_le {α : Type} {R : α → α → Prop} : ∀ {as bs : List α}, as.Pairwise (fun a b => ¬ Eqv R a b) → (∀ a ∈ as, ∃ b ∈ bs, Eqv R a b) → as.length ≤ bs.length
  | [], bs, _, _ => Nat.zero_le _
  | a :: as, bs, hp, h => by
    obtain ⟨b, hb, hab⟩ := h a List.mem_cons_self
    obtain ⟨s, t, rfl⟩ := List.append_of_mem hb
    rw [List.pairwise_cons] at hp
    have ih := indep_le (bs := s ++ t) hp.2 fun c hc => by
      obtain ⟨b', hb', hcb⟩ := h c (List.mem_cons_of_mem _ hc)
      have hne : b' ≠ b := by
        rintro rfl
        exact hp.1 c hc (hab.trans hcb.symm)
      refine ⟨b', ?_, hcb⟩
      simp only [List.mem_append, List.mem_cons] at hb' ⊢
      rcases hb' with h1 | h1 | h1
      · exact .inl h1
      · exact absurd h1 hne
      · exact .inr h1
    simp only [List.length_append, List.length_cons] at ih ⊢
    omega
theorem Reps.len {α : Type} {R : α → α → Prop} {U : α → Prop} {as bs : List α} (h : Reps R U as) (k : Reps R U bs) : as.length = bs.length :=
  Nat.le_antisymm (indep_le h.ind fun a ha => k.all a (h.sub a ha)) (indep_le k.ind fun b hb => h.all b (k.sub b hb))
/-- another name for each -/
theorem Reps.map {α β : Type} {R : α → α → Prop} {U : α → Prop} {S : β → β → Prop} {V : β → Prop} {rs : List α} (h : Reps R U rs) (f : α → β) (hU : ∀ a, U a → V (f a)) (hR : ∀ a b, U a → U b → (Eqv S (f a) (f b) ↔ Eqv R a b)) (hV : ∀ v, V v → ∃ a, U a ∧ Eqv S v (f a)) : Reps S V (rs.map f) where
  sub := fun r hr => by
    obtain ⟨a, ha, rfl⟩ := List.mem_map.mp hr
    exact hU a (h.sub a ha)
  ind := by
    rw [List.pairwise_map]
    exact h.ind.imp_of_mem fun {a b} ha hb n e => n ((hR a b (h.sub a ha) (h.sub b hb)).mp e)
  all := fun v hv => by
    obtain ⟨a, ha, e⟩ := hV v hv
    obtain ⟨r, hr, e2⟩ := h.all a ha
    exact ⟨f r, List.mem_map.mpr ⟨r, hr, rfl⟩, e.trans ((hR a r ha (h.sub r hr)).mpr e2)⟩
/-! ## Black cells by numbers -/
inductive NP where
  | no
  | num (k : Nat)
  | nd (a b c d : NP)
  deriving DecidableEq
def blk : Pic → Nat
  | .leaf b => b2n b
  | .node p q r s => blk p + (blk q + (blk r + blk s))
def nam : Pic → Nat → NP
  | .leaf b, k => if b then .num k else .no
  | .node p q r s, k => .nd (nam p k) (nam q (k + blk p)) (nam r (k + blk p + blk q)) (nam s (k + blk p + blk q + blk r))
def npart : NP → Nat → NP
  | .nd a _ _ _, 0 => a
  | .nd _ b _ _, 1 => b
  | .nd _ _ c _, 2 => c
  | .nd _ _ _ d, _ => d
  | A, _ => A
def nok : Nat → NP → Bool
  | _, .no => true
  | _, .num _ => true
  | 0, .nd _ _ _ _ => false
  | n + 1, .nd a b c d => nok n a && (nok n b && (nok n c && nok n d))
theorem nok_part {n : Nat} {A : NP} (h : nok (n + 1) A = true) (i : Nat) : nok n (npart A i) = true := by
  cases A with
  | no => simp [npart, nok]
  | num k => simp [npart, nok]
  | nd a b c d =>
    simp only [nok, Bool.and_eq_true] at h
    match i with
    | 0 => exact h.1
    | 1 => exact h.2.1
    | 2 => exact h.2.2.1
    | _ + 3 => exact h.2.2.2
theorem nok_nam : ∀ {n : Nat} {P : Pic} (k : Nat), dok n P = true → nok n (nam P k) = true
  | _, .leaf b, k, _ => by cases b <;> simp [nam, nok]
  | 0, .node _ _ _ _, _, h => by simp [dok] at h
  | n + 1, .node p q r s, k, h => by
    simp only [dok, Bool.and_eq_true] at h
    simp only [nam, nok, Bool.and_eq_true]
    exact ⟨nok_nam _ h.1, nok_nam _ h.2.1, nok_nam _ h.2.2.1, nok_nam _ h.2.2.2⟩
/-- all numbers are below m -/
def nlt (m : Nat) : NP → Prop
  | .no => True
  | .num k => k < m
  | .nd a b c d => nlt m a ∧ nlt m b ∧ nlt m c ∧ nlt m d
theorem nlt_part {m : Nat} {A : NP} (h : nlt m A) (i : Nat) : nlt m (npart A i) := by
  cases A with
  | no => exact h
  | num k => exact h
  | nd a b c d =>
    match i with
    | 0 => exact h.1
    | 1 => exact h.2.1
    | 2 => exact h.2.2.1
    | _ + 3 => exact h.2.2.2
theorem nlt_nam : ∀ {P : Pic} {k m : Nat}, k + blk P ≤ m → nlt m (nam P k)
  | .leaf b, k, m, h => by
    cases b with
    | false => simp [nam, nlt]
    | true =>
      simp only [blk, b2n, if_true] at h
      simp only [nam, nlt, if_true]
      omega
  | .node p q r s, k, m, h => by
    simp only [blk] at h
    exact ⟨nlt_nam (by omega), nlt_nam (by omega), nlt_nam (by omega), nlt_nam (by omega)⟩
def nbase : NP → NP → List (Nat × Nat)
  | .num i, .num j => [(i, j)]
  | _, _ => []
def isNum : NP → Bool
  | .num _ => true
  | _ => false
/-- which are joined over a border -/
def acr (h : Bool) : Nat → NP → NP → List (Nat × Nat)
  | 0, A, B => nbase A B
  | n + 1, A, B => if A = .no ∨ B = .no then [] else if isNum A = true ∧ isNum B = true then nbase A B
      else acr h n (npart A (st1 h)) (npart B 0) ++ acr h n (npart A 3) (npart B (3 - st1 h))
/-- which are joined within a cell -/
def wit : Nat → NP → List (Nat × Nat)
  | _, .no => []
  | _, .num _ => []
  | n, .nd a b c d => wit (n - 1) a ++ (wit (n - 1) b ++ (wit (n - 1) c ++ (wit (n - 1) d ++ (acr true (n - 1) a b ++ (acr true (n - 1) c d ++ (acr false (n - 1) a c ++ acr false (n - 1) b d))))))
theorem acr_no {h : Bool} {n : Nat} {A B : NP} (e : A = .no ∨ B = .no) : acr h n A B = [] := by
  cases n with
  | zero =>
    rcases e with rfl | rfl
    · rfl
    · cases A <;> rfl
  | succ n => simp only [acr]; rw [if_pos e]
theorem acr_num (h : Bool) (n i j : Nat) : acr h n (.num i) (.num j) = [(i, j)] := by
  cases n with
  | zero => rfl
  | succ n => simp only [acr]; rw [if_neg (by simp), if_pos ⟨rfl, rfl⟩]; rfl
theorem acr_parts {h : Bool} {n : Nat} {A B : NP} (h1 : A ≠ .no) (h2 : B ≠ .no) (h3 : ¬ (isNum A = true ∧ isNum B = true)) :
    acr h (n + 1) A B = acr h n (npart A (st1 h)) (npart B 0) ++ acr h n (npart A 3) (npart B (3 - st1 h)) := by
  simp only [acr]
  rw [if_neg (by rintro (e | e); exact h1 e; exact h2 e), if_neg h3]
theorem nbase_lt {m : Nat} {A B : NP} (ha : nlt m A) (hb : nlt m B) : ∀ e ∈ nbase A B, e.1 < m ∧ e.2 < m := by
  cases A with
  | num i => cases B with
    | num j =>
      intro e he
      simp only [nbase, List.mem_singleton] at he
      subst he
      exact ⟨ha, hb⟩
    | _ => intro e he; cases he
  | _ => intro e he; cases B <;> cases he
theorem acr_lt {m : Nat} {h : Bool} : ∀ {n : Nat} {A B : NP}, nlt m A → nlt m B → ∀ e ∈ acr h n A B, e.1 < m ∧ e.2 < m
  | 0, A, B, ha, hb => nbase_lt ha hb
  | n + 1, A, B, ha, hb => by
    intro e he
    simp only [acr] at he
    split at he
    · cases he
    · split at he
      · exact nbase_lt ha hb e he
      · rcases List.mem_append.mp he with he | he
        · exact acr_lt (nlt_part ha _) (nlt_part hb _) e he
        · exact acr_lt (nlt_part ha _) (nlt_part hb _) e he
theorem wit_lt {m : Nat} : ∀ {n : Nat} {A : NP}, nlt m A → ∀ e ∈ wit n A, e.1 < m ∧ e.2 < m
  | _, .no, _, e, he => by simp [wit] at he
  | _, .num _, _, e, he => by simp [wit] at he
  | n, .nd a b c d, h, e, he => by
    simp only [wit, List.mem_append] at he
    obtain ⟨h1, h2, h3, h4⟩ := h
    rcases he with he | he | he | he | he | he | he | he
    · exact wit_lt h1 e he
    · exact wit_lt h2 e he
    · exact wit_lt h3 e he
    · exact wit_lt h4 e he
    · exact acr_lt h1 h2 e he
    · exact acr_lt h3 h4 e he
    · exact acr_lt h1 h3 e he
    · exact acr_lt h2 h4 e he
/-! ## Heads -/
structure UF (hs : List Nat) (rt rk : Nat → Nat) : Prop where
  lt : ∀ (i h : Nat), hs[i]? = some h → h < hs.length
  up : ∀ (i h : Nat), hs[i]? = some h → rt h = rt i
  fix : ∀ (i : Nat), hs[i]? = some i → rt i = i
  dn : ∀ (i h : Nat), hs[i]? = some h → h ≠ i → rk h < rk i
theorem UF.top {hs : List Nat} {rt rk : Nat → Nat} (u : UF hs rt rk) : ∀ (n i : Nat), rk i ≤ n → i < hs.length → rt i < hs.length ∧ hs[rt i]? = some (rt i) := by
  intro n
  induction n with
  | zero =>
    intro i hn hi
    have e : hs[i]? = some hs[i] := List.getElem?_eq_getElem hi
    by_cases h : hs[i] = i
    · rw [h] at e
      rw [u.fix i e]
      exact ⟨hi, e⟩
    · have := u.dn i _ e h
      omega
  | succ n ih =>
    intro i hn hi
    have e : hs[i]? = some hs[i] := List.getElem?_eq_getElem hi
    by_cases h : hs[i] = i
    · rw [h] at e
      rw [u.fix i e]
      exact ⟨hi, e⟩
    · have h1 := u.dn i _ e h
      have h2 := u.lt i _ e
      have h3 := u.up i _ e
      rw [← h3]
      exact ih _ (by omega) h2
theorem UF.top' {hs : List Nat} {rt rk : Nat → Nat} (u : UF hs rt rk) {i : Nat} (hi : i < hs.length) : rt i < hs.length ∧ hs[rt i]? = some (rt i) := u.top (rk i) i (Nat.le_refl _) hi
theorem UF.idem {hs : List Nat} {rt rk : Nat → Nat} (u : UF hs rt rk) {i : Nat} (hi : i < hs.length) : rt (rt i) = rt i := u.fix _ (u.top' hi).2
/-- the way to a head is halved -/
theorem UF.halve {hs : List Nat} {rt rk : Nat → Nat} (u : UF hs rt rk) {i h g : Nat} (e1 : hs[i]? = some h) (hne : h ≠ i) (e2 : hs[h]? = some g) : UF (hs.set i g) rt rk ∧ rk g < rk i ∧ rt g = rt i ∧ g < hs.length ∧ g ≠ i := by
  have hi := (List.getElem?_eq_some_iff.mp e1).1
  have r1 := u.dn i h e1 hne
  have r2 : rk g ≤ rk h := by
    by_cases z : g = h
    · rw [z]; exact Nat.le_refl _
    · exact Nat.le_of_lt (u.dn h g e2 z)
  have r3 : rk g < rk i := by omega
  have gi : g ≠ i := by rintro rfl; omega
  have tg : rt g = rt i := (u.up h g e2).trans (u.up i h e1)
  have lg := u.lt h g e2
  have at_ : ∀ (j k : Nat), (hs.set i g)[j]? = some k → (j = i ∧ k = g) ∨ (j ≠ i ∧ hs[j]? = some k) := fun j k e => by
    by_cases z : j = i
    · subst z
      rw [List.getElem?_set_self hi] at e
      exact .inl ⟨rfl, (Option.some.inj e).symm⟩
    · rw [List.getElem?_set_ne (Ne.symm z)] at e
      exact .inr ⟨z, e⟩
  refine ⟨⟨fun j k e => ?_, fun j k e => ?_, fun j e => ?_, fun j k e n => ?_⟩, r3, tg, lg, gi⟩
  · rw [List.length_set]
    rcases at_ j k e with ⟨_, rfl⟩ | ⟨_, e⟩
    · exact lg
    · exact u.lt j k e
  · rcases at_ j k e with ⟨rfl, rfl⟩ | ⟨_, e⟩
    · exact tg
    · exact u.up j k e
  · rcases at_ j j e with ⟨rfl, z⟩ | ⟨_, e⟩
    · exact absurd z.symm gi
    · exact u.fix j e
  · rcases at_ j k e with ⟨rfl, rfl⟩ | ⟨_, e⟩
    · exact r3
    · exact u.dn j k e n
/-- a head is hung below another one -/
theorem UF.link {hs : List Nat} {rt rk : Nat → Nat} (u : UF hs rt rk) {a b : Nat} (ha : hs[a]? = some a) (hb : hs[b]? = some b) : ∃ rk', UF (hs.set a b) (fun i => if rt i = a then b else rt i) rk' := by
  have la := (List.getElem?_eq_some_iff.mp ha).1
  have lb := (List.getElem?_eq_some_iff.mp hb).1
  have ra := u.fix a ha
  have rb := u.fix b hb
  have at_ : ∀ (j k : Nat), (hs.set a b)[j]? = some k → (j = a ∧ k = b) ∨ (j ≠ a ∧ hs[j]? = some k) := fun j k e => by
    by_cases z : j = a
    · subst z
      rw [List.getElem?_set_self la] at e
      exact .inl ⟨rfl, (Option.some.inj e).symm⟩
    · rw [List.getElem?_set_ne (Ne.symm z)] at e
      exact .inr ⟨z, e⟩
  by_cases hab : a = b
  · subst hab
    refine ⟨rk, ⟨fun j k e => ?_, fun j k e => ?_, fun j e => ?_, fun j k e n => ?_⟩⟩
    · rw [List.length_set]
      rcases at_ j k e with ⟨_, rfl⟩ | ⟨_, e⟩
      · exact la
      · exact u.lt j k e
    · rcases at_ j k e with ⟨rfl, rfl⟩ | ⟨_, e⟩
      · rfl
      · show (if rt k = a then a else rt k) = if rt j = a then a else rt j
        rw [u.up j k e]
    · show (if rt j = a then a else rt j) = j
      rcases at_ j j e with ⟨rfl, z⟩ | ⟨_, e⟩
      · rw [if_pos ra]
      · rw [u.fix j e]
        split
        · rename_i z; exact z.symm
        · rfl
    · rcases at_ j k e with ⟨rfl, rfl⟩ | ⟨_, e⟩
      · exact absurd rfl n
      · exact u.dn j k e n
  · refine ⟨fun x => rk x + if rt x = a then rk b + 1 else 0, ⟨fun j k e => ?_, fun j k e => ?_, fun j e => ?_, fun j k e n => ?_⟩⟩
    · rw [List.length_set]
      rcases at_ j k e with ⟨_, rfl⟩ | ⟨_, e⟩
      · exact lb
      · exact u.lt j k e
    · show (if rt k = a then b else rt k) = if rt j = a then b else rt j
      rcases at_ j k e with ⟨rfl, rfl⟩ | ⟨_, e⟩
      · rw [if_neg (by rw [rb]; exact Ne.symm hab), rb, if_pos ra]
      · rw [u.up j k e]
    · show (if rt j = a then b else rt j) = j
      rcases at_ j j e with ⟨rfl, z⟩ | ⟨z, e⟩
      · exact absurd z hab
      · rw [u.fix j e, if_neg z]
    · show rk k + (if rt k = a then rk b + 1 else 0) < rk j + if rt j = a then rk b + 1 else 0
      rcases at_ j k e with ⟨rfl, rfl⟩ | ⟨_, e⟩
      · rw [if_neg (by rw [rb]; exact Ne.symm hab), if_pos ra]
        omega
      · rw [u.up j k e]
        have := u.dn j k e n
        omega
abbrev ER (E : List (Nat × Nat)) : Nat → Nat → Prop := fun a b => (a, b) ∈ E
/-- the heads tell which numbers are joined by E -/
def US (hs : List Nat) (E : List (Nat × Nat)) : Prop := (∀ e ∈ E, e.1 < hs.length ∧ e.2 < hs.length) ∧ ∃ rt rk, UF hs rt rk ∧ ∀ i j, i < hs.length → j < hs.length → (rt i = rt j ↔ Eqv (ER E) i j)
theorem Eqv.lt {E : List (Nat × Nat)} {m : Nat} (h : ∀ e ∈ E, e.1 < m ∧ e.2 < m) {i j : Nat} (e : Eqv (ER E) i j) : i < m ↔ j < m := by
  induction e with
  | refl => exact Iff.rfl
  | rel r => exact ⟨fun _ => (h _ r).2, fun _ => (h _ r).1⟩
  | symm _ ih => exact ih.symm
  | trans _ _ i1 i2 => exact i1.trans i2
theorem US.start (m : Nat) : US (List.range m) [] := by
  refine ⟨by simp, fun i => i, fun _ => 0, ⟨fun i h e => ?_, fun i h e => ?_, fun i _ => rfl, fun i h e n => ?_⟩, fun i j hi hj => ?_⟩
  · rw [List.length_range]
    obtain ⟨h1, h2⟩ := List.getElem?_eq_some_iff.mp e
    simp at h1 h2
    omega
  · obtain ⟨h1, h2⟩ := List.getElem?_eq_some_iff.mp e
    simp at h1 h2
    exact h2.symm
  · obtain ⟨h1, h2⟩ := List.getElem?_eq_some_iff.mp e
    simp at h1 h2
    exact absurd h2.symm n
  · constructor
    · rintro rfl; exact .refl _
    · intro e
      induction e with
      | refl => rfl
      | rel r => cases r
      | symm _ ih => exact (ih hj hi).symm
      | trans h1 _ i1 i2 =>
        have hb := (Eqv.lt (E := []) (m := (List.range m).length) (by simp) h1).mp hi
        exact (i1 hi hb).trans (i2 hb hj)
/-- one more pair is joined -/
theorem US.join {hs : List Nat} {E : List (Nat × Nat)} {rt rk : Nat → Nat} {i j : Nat} (hE : ∀ e ∈ E, e.1 < hs.length ∧ e.2 < hs.length) (u : UF hs rt rk) (hp : ∀ i j, i < hs.length → j < hs.length → (rt i = rt j ↔ Eqv (ER E) i j))
    (hi : i < hs.length) (hj : j < hs.length) : US (hs.set (rt i) (rt j)) (E ++ [(i, j)]) := by
  obtain ⟨l1, e1⟩ := u.top' hi
  obtain ⟨l2, e2⟩ := u.top' hj
  obtain ⟨rk', u'⟩ := u.link e1 e2
  have sub : ∀ {a b : Nat}, Eqv (ER E) a b → Eqv (ER (E ++ [(i, j)])) a b := fun e => e.mono fun a b r => .rel (List.mem_append.mpr (.inl r))
  have new : Eqv (ER (E ++ [(i, j)])) i j := .rel (List.mem_append.mpr (.inr (List.mem_singleton.mpr rfl)))
  have hE' : ∀ e ∈ E ++ [(i, j)], e.1 < hs.length ∧ e.2 < hs.length := fun e he => by
    rcases List.mem_append.mp he with he | he
    · exact hE e he
    · rw [List.mem_singleton.mp he]; exact ⟨hi, hj⟩
  refine ⟨fun e he => by rw [List.length_set]; exact hE' e he, _, rk', u', fun a b ha hb => ?_⟩
  rw [List.length_set] at ha hb
  constructor
  · intro e
    by_cases ca : rt a = rt i
    · have ea := sub ((hp a i ha hi).mp ca)
      by_cases cb : rt b = rt i
      · exact ea.trans (sub ((hp b i hb hi).mp cb)).symm
      · simp only [if_pos ca, if_neg cb] at e
        exact ea.trans (new.trans (sub ((hp j b hj hb).mp e)))
    · by_cases cb : rt b = rt i
      · simp only [if_neg ca, if_pos cb] at e
        exact (sub ((hp a j ha hj).mp e)).trans (new.symm.trans (sub ((hp b i hb hi).mp cb)).symm)
      · simp only [if_neg ca, if_neg cb] at e
        exact sub ((hp a b ha hb).mp e)
  · intro e
    show (if rt a = rt i then rt j else rt a) = if rt b = rt i then rt j else rt b
    induction e with
    | refl => rfl
    | @rel x y r =>
      rcases List.mem_append.mp r with r | r
      · rw [(hp x y ha hb).mpr (.rel r)]
      · have z := List.mem_singleton.mp r
        injection z with z1 z2
        subst z1 z2
        rw [if_pos rfl]
        split <;> rfl
    | symm _ ih => exact (ih hb ha).symm
    | @trans x y z h1 _ i1 i2 =>
      have hy := (Eqv.lt hE' h1).mp ha
      exact (i1 ha hy).trans (i2 hy hb)
/-- so many parts -/
def NCl (m : Nat) (E : List (Nat × Nat)) (c : Nat) : Prop := ∃ rs : List Nat, rs.length = c ∧ Reps (ER E) (fun i => i < m) rs
theorem NCl.eq {m : Nat} {E : List (Nat × Nat)} {c c' : Nat} (h : NCl m E c) (h' : NCl m E c') : c = c' := by
  obtain ⟨rs, rfl, r⟩ := h
  obtain ⟨rs', rfl, r'⟩ := h'
  exact r.len r'
theorem US.count {hs : List Nat} {E : List (Nat × Nat)} (u : US hs E) : NCl hs.length E ((List.range hs.length).filter fun i => decide (hs[i]? = some i)).length := by
  obtain ⟨hE, rt, rk, u, hp⟩ := u
  refine ⟨_, rfl, fun r hr => ?_, ?_, fun i hi => ?_⟩
  · exact List.mem_range.mp (List.mem_filter.mp hr).1
  · have hnd : (List.range hs.length).Pairwise (· ≠ ·) := List.nodup_range
    refine (hnd.filter _).imp_of_mem fun {a b} ha hb n e => n ?_
    obtain ⟨ha1, ha2⟩ := List.mem_filter.mp ha
    obtain ⟨hb1, hb2⟩ := List.mem_filter.mp hb
    have e1 := u.fix a (of_decide_eq_true ha2)
    have e2 := u.fix b (of_decide_eq_true hb2)
    have e3 := (hp a b (List.mem_range.mp ha1) (List.mem_range.mp hb1)).mpr e
    omega
  · obtain ⟨l, e⟩ := u.top' hi
    refine ⟨rt i, List.mem_filter.mpr ⟨List.mem_range.mpr l, decide_eq_true e⟩, (hp i (rt i) hi l).mp (u.idem hi).symm⟩
end Pl

namespace Pl
open PySem PySem.Spec PyProof.Rows L2
abbrev sRInit : Stmt := inClass (top 21) 0
abbrev sNamed : Stmt := inClass (top 21) 1
abbrev sHead : Stmt := inClass (top 21) 2
abbrev sJoinAcross : Stmt := inClass (top 21) 3
abbrev sJoinWithin : Stmt := inClass (top 21) 4
abbrev sRegions : Stmt := top 44
def rf (l : Addr) : List (Str × V) := [("heads", .ref l)]
theorem rf_look (l : Addr) : (rf l).lookup ("heads" : Str) = some (.ref l) := by
  show (putF "heads" (V.ref l) []).lookup ("heads" : Str) = _
  rw [lookup_putF, if_pos rfl]
theorem rf_no (l : Addr) {f : Str} (h : ¬ f = "heads") : (rf l).lookup f = none := by
  show (putF "heads" (V.ref l) []).lookup f = _
  rw [lookup_putF, if_neg h]
  rfl
def nl (hs : List Nat) : List V := hs.map fun i : Nat => V.int (i : Int)
theorem nl_len (hs : List Nat) : (nl hs).length = hs.length := List.length_map ..
theorem nl_at {hs : List Nat} {i h : Nat} (e : hs[i]? = some h) : (nl hs)[i]? = some (.int (h : Int)) := by
  rw [nl, List.getElem?_map, e]
  rfl
theorem ixn {n j : Nat} (hj : j < n) : ixN n (j : Int) = some j := by
  unfold ixN
  rw [if_pos (by omega), if_pos (by omega)]
  simp
theorem nl_set (hs : List Nat) (i h : Nat) : (nl hs).set i (.int (h : Int)) = nl (hs.set i h) := by
  rw [nl, nl, List.map_set]
structure RAt (H : Hp) (C o dx l : Addr) (hs : List Nat) : Prop where
  o : H o = some (.ins C dx (rf l))
  l : H l = some (.lst (nl hs))
theorem RAt.ne {H : Hp} {C o dx l : Addr} {hs : List Nat} (h : RAt H C o dx l hs) : o ≠ l := ne_of h.o h.l (fun z => nomatch z)
theorem RAt.next {H H' : Hp} {C o dx l : Addr} {hs hs' : List Nat} (h : RAt H C o dx l hs) (s : SameB l H H') (e : H' l = some (.lst (nl hs'))) : RAt H' C o dx l hs' := ⟨s _ _ h.ne h.o, e⟩
theorem RAt.same {H H' : Hp} {C o dx l : Addr} {hs : List Nat} (h : RAt H C o dx l hs) (s : Same H H') : RAt H' C o dx l hs := ⟨s _ _ h.o, s _ _ h.l⟩
theorem RAt.tk {H H' : Hp} {C o dx l : Addr} {hs : List Nat} (h : RAt H C o dx l hs) (s : SameB l H H') : TupK H H' := s.tk h.l
def NamedAt (H : Hp) : V → NP → Prop
  | v, .no => v = .non
  | v, .num k => v = .int (k : Int)
  | v, .nd p q r s => ∃ (a : Addr) (v0 v1 v2 v3 : V), v = .ref a ∧ H a = some (.tup [v0, v1, v2, v3]) ∧ NamedAt H v0 p ∧ NamedAt H v1 q ∧ NamedAt H v2 r ∧ NamedAt H v3 s
theorem NamedAt.mono {H H' : Hp} (k : TupK H H') : ∀ {A : NP} {v : V}, NamedAt H v A → NamedAt H' v A
  | .no, _, h => h
  | .num _, _, h => h
  | .nd p q r s, v, h => by
    obtain ⟨a, v0, v1, v2, v3, e, h0, h1, h2, h3, h4⟩ := h
    exact ⟨a, v0, v1, v2, v3, e, k _ _ h0, h1.mono k, h2.mono k, h3.mono k, h4.mono k⟩
theorem NamedAt.non {H : Hp} {v : V} {A : NP} (h : NamedAt H v A) : (v = .non) ↔ A = .no := by
  cases A with
  | no => exact ⟨fun _ => rfl, fun _ => h⟩
  | num k =>
    refine ⟨fun e => ?_, fun e => (nomatch e)⟩
    rw [show v = .int (k : Int) from h] at e
    cases e
  | nd p q r s =>
    obtain ⟨a, v0, v1, v2, v3, e, _⟩ := h
    refine ⟨fun e2 => ?_, fun e => (nomatch e)⟩
    rw [e] at e2
    cases e2
def spRInit (C : Addr) : Sp := fun vs H Q _ => ∃ (x dx : Addr), vs = [.ref x] ∧ H x = some (.ins C dx []) ∧ ∀ l, H l = none → Q .non (upd (upd H l (.lst [])) x (.ins C dx (rf l)))
/-- over a tuple, the step puts to the list at l -/
theorem lc_tupB {K : PySem.W.Frag} {a l : Addr} {xs : List V} {te : TE} {i : Nat} {σ : L2.St} {H1 : Hp} {D : Addr} {Qd : Hp → Prop} (L : Nat → List V) (Rel : Nat → V → Hp → Prop) (hmono : ∀ j y H H', TupK H H' → Rel j y H → Rel j y H')
    (hD : H1 D = none) (hl : H1 l = some (.lst (L 0))) (hT : H1 a = some (.tup xs)) (hz : xs.length ≤ 10000)
    (hs : ∀ (j : Nat) (x : V) (H : Hp) (k : V → Hp → Prop), xs[j]? = some x → SameB l H1 H → H l = some (.lst (L j)) → (∀ y H', SameB l H H' → H' l = some (.lst (L (j + 1))) → Rel j y H' → k y H') → te ((wipe σ [i]).set i (some x)) H k)
    (hd : ∀ (H : Hp) (ys : List V), SameB l H1 H → H l = some (.lst (L xs.length)) → H D = some (.lst ys) → ys.length = xs.length → (∀ j y, ys[j]? = some y → Rel j y H) → Qd H) :
    ∃ W : Nat → Nat → Hp → Prop, (∃ m, W 0 m (upd H1 D (.lst []))) ∧ ∀ i' m H, W i' m H →
      ((Itt K a).stop i' H ∧ Qd H) ∨ ((Itt K a).go i' H ∧ ∃ Nx : Hp → Prop, (∀ H', Nx H' → ∃ m', m' < m ∧ W (i' + 1) m' H') ∧ ∀ x H', (Itt K a).yld i' H x H' → gName i x (wipe σ [i]) H' fun σ2 H2 => wipe σ2 [i] = wipe σ [i] ∧ tYes σ2 H2 fun b H3 =>
        if b = true then te σ2 H3 fun y H4 => ∃ acc, H4 D = some (.lst acc) ∧ acc.length < sizeLine ∧ Nx (upd H4 D (.lst (acc ++ [y]))) else Nx H3) := by
  have hlD : l ≠ D := fun e => by rw [e, hD] at hl; cases hl
  have hDl : D ≠ l := fun e => hlD e.symm
  have up : ∀ {H : Hp} {ys : List V}, SameB l H1 H → SameB l H1 (upd H D (.lst ys)) := fun s b o n e => by
    rw [upd_ne (ne_of_none e hD)]
    exact s _ _ n e
  refine lc_tup (xs := xs) (fun j H => ∃ acc : List V, H D = some (.lst acc) ∧ acc.length = j ∧ SameB l H1 H ∧ H l = some (.lst (L j)) ∧ ∀ m y, acc[m]? = some y → Rel m y H) ⟨[], upd_same, rfl, up (SameB.refl l H1), ?_, by simp⟩ (fun j H _ h => ?_) (fun j x H hx h => ?_) (fun H h => ?_)
  · rw [upd_ne hlD]; exact hl
  · obtain ⟨acc, _, _, s, _⟩ := h
    exact SqT.of (s.tk hl _ _ hT)
  · obtain ⟨acc, hacc, hlen, s, hL, hr⟩ := h
    refine ⟨wipe_set1, ?_⟩
    have hj := (List.getElem?_eq_some_iff.mp hx).1
    refine iteT (B := False) ?_
    refine hs j x H _ hx s hL fun y H' s' hL' r => ?_
    have hacc' := s' _ _ hDl hacc
    refine ⟨acc, hacc', by rw [hlen, sizeLine_eq]; omega, acc ++ [y], upd_same, by rw [List.length_append, List.length_singleton, hlen], up (s.trans s'), ?_, fun m z hm => ?_⟩
    · rw [upd_ne hlD]; exact hL'
    · have tk := tk_list (ys := acc ++ [y]) hacc'
      by_cases hlt : m < acc.length
      · rw [List.getElem?_append_left hlt] at hm
        exact hmono _ _ _ _ tk (hmono _ _ _ _ (s'.tk hL) (hr m z hm))
      · rw [List.getElem?_append_right (by omega)] at hm
        have h0 : m - acc.length = 0 := by
          by_cases h0 : m - acc.length = 0
          · exact h0
          · rw [List.getElem?_eq_none (by simp; omega)] at hm
            cases hm
        rw [h0] at hm
        have ey : y = z := by simpa using hm
        subst ey
        have em : m = j := by omega
        subst em
        exact hmono _ _ _ _ tk r
  · obtain ⟨acc, hacc, hlen, s, hL, hr⟩ := h
    exact hd H acc s hL hacc hlen hr
section
variable {P : Program} {w : World} {K : PySem.W.Frag} {mg : Str → Option Value} {base : Heap} {C : Addr}
theorem scRInit : FnScope ["self"] ["self"] (defScope sRInit) := ⟨rfl, rfl, rfl, by decide +kernel, rfl, by decide +kernel, by decide +kernel⟩
theorem ok_rinit (a : AtC K mg "Regions" "Regions.__init__" C sRInit) (na : NoAttr K C "heads") : CanC P w K mg base 1 "Regions" C (spRInit C) := by
  refine a.can scRInit (fun vs H Q E h => ?_) (fun _ _ _ _ _ _ us hl => match us, hl with | [_], _ => rfl) (fun f cdv A outer s H vs Q E hr h => ?_)
  · obtain ⟨x, dx, rfl, _⟩ := h
    rfl
  · obtain ⟨x, dx, rfl, hx, q⟩ := h
    refine ⟨_, pss_one (ps_fld (pv 0) (pe_lst pa_nil) rfl), ?_⟩
    exact ⟨Nat.zero_le _, fun l hl => ⟨_, rfl, x, C, dx, _, rfl, same_new hl _ _ _ hx, a.cl, na, by show 0 < 1000; decide, q l hl⟩⟩
/-! ### named -/
def spNamed (C : Addr) (d : Nat) : Sp := fun vs H Q _ => ∃ (o dx l : Addr) (v : V) (S : Pic) (m : Nat), vs = [.ref o, v] ∧ RAt H C o dx l (List.range m) ∧ PicAt H v S ∧ dp S < d ∧ m + blk S ≤ 10000 ∧
  ∀ v' H', SameB l H H' → H' l = some (.lst (nl (List.range (m + blk S)))) → NamedAt H' v' (nam S m) → Q v' H'
theorem scNamed : FnScope ["self", "picture", "part"] ["self", "picture"] (defScope sNamed) := ⟨rfl, rfl, rfl, by decide +kernel, rfl, by decide +kernel, by decide +kernel⟩
theorem ok_named (a : AtM K C "named" "Regions.named" sNamed) (cl : Cls K C) (na : NoAttr K C "heads") (T : Bi mg) : ∀ d, CanM P w K mg base d C "named" ["self", "picture"] (spNamed C d)
  | 0 => a.zero (fun _ _ _ _ _ _ us hl => match us, hl with | [_, _], _ => rfl) fun vs H Q E ⟨_, _, _, _, _, _, _, _, _, h, _⟩ => absurd h (Nat.not_lt_zero _)
  | d + 1 => by
    have c := ok_named a cl na T d
    refine a.can scNamed (fun vs H Q E h => ?_) (fun _ _ _ _ _ _ us hl => match us, hl with | [_, _], _ => rfl) (fun f cdv A outer s H vs Q E hr h => ?_)
    · obtain ⟨o, dx, l, v, S, m, rfl, _⟩ := h
      rfl
    · obtain ⟨o, dx, l, v, S, m, rfl, hR, hP, hd, hm, q⟩ := h
      refine ⟨_, pss_cons (ps_if (pt_cmp (pc_eqP false hr.units (pv 1) pe_int)) (pss_one (ps_ret pe_non)) pss_nil)
        (pss_cons (ps_if (pt_cmp (pc_eqP true hr.units (pv 1) pe_int)) (pss_cons (ps_expr (pe_bm PySem.F.plainAttrs_list PySem.F.slot_list_append PySem.F.type_list_append mt_append (pe_fld (pv 0) rfl) (pa_cons (pe_callB call_len_seq (by rfl) T.len PySem.boot_len (pa_cons (pe_fld (pv 0) rfl) pa_nil)) pa_nil)))
            (pss_one (ps_ret (pe_op op_sub (pe_callB call_len_seq (by rfl) T.len PySem.boot_len (pa_cons (pe_fld (pv 0) rfl) pa_nil)) pe_int)))) pss_nil)
        (pss_one (ps_ret (pe_callTy call_tuple_of (by rfl) T.tuple (by decide +kernel) (pa_cons (pe_lc (own := [("part", 2)]) (g := gName 2) (tt := tYes) rfl scNamed.nd (pi_tup (pv 1))
          (blkOk_by (own := [("part", 2)]) (N := ["self", "picture", "part"]) (sc := defScope sNamed) (by decide +kernel)) (fun _ _ _ _ _ => pg_name (i := 2) scNamed.nd rfl (Or.inl rfl)) (fun _ _ _ _ _ => pts_nil)
          (fun _ _ _ _ _ => pe_canM c cl hr (pv 0) (pa_cons (pv 2) pa_nil))) pa_nil))))), ?_⟩
      refine ⟨v, S, rfl, hP, _, rfl, ?_⟩
      cases S with
      | leaf b =>
        cases b with
        | false =>
          rw [decide_eq_true rfl]
          refine iteT (q _ _ (SameB.refl _ _) ?_ rfl)
          exact hR.l
        | true =>
          rw [decide_eq_false (by simp)]
          refine iteF ⟨v, _, rfl, hP, _, rfl, ?_⟩
          rw [decide_eq_true rfl]
          have hm1 : m + 1 ≤ 10000 := hm
          refine iteT ?_
          refine ⟨_, rfl, o, C, dx, _, _, rfl, hR.o, cl, na, rf_look l, .inl ⟨rfl, _, SqL.of hR.l⟩, ?_⟩
          refine ⟨_, rfl, o, C, dx, _, _, rfl, hR.o, cl, na, rf_look l, l, _, rfl, .inl (SqL.of hR.l), l, _, _, rfl, rfl, hR.l, by rw [nl_len, List.length_range, sizeLine_eq]; omega, ?_⟩
          have e : nl (List.range m) ++ [V.int ((nl (List.range m)).length : Int)] = nl (List.range (m + 1)) := by
            rw [nl_len, List.length_range, List.range_succ, nl, nl, List.map_append]
            rfl
          rw [e]
          have sB : SameB l H (upd H l (.lst (nl (List.range (m + 1))))) := SameB.upd
          have hR' := hR.next sB upd_same
          refine ⟨_, rfl, o, C, dx, _, _, rfl, hR'.o, cl, na, rf_look l, l, _, rfl, .inl (SqL.of hR'.l), _, _, rfl, rfl, ?_⟩
          refine q _ _ sB upd_same ?_
          show V.int (((nl (List.range (m + 1))).length : Int) - 1) = V.int (m : Int)
          rw [nl_len, List.length_range]
          refine congrArg V.int ?_
          omega
      | node p q' r t =>
        rw [decide_eq_false (by simp)]
        refine iteF ⟨v, _, rfl, hP, _, rfl, ?_⟩
        rw [decide_eq_false (by simp)]
        refine iteF ?_
        obtain ⟨ad, v0, v1, v2, v3, rfl, h0, h1, h2, h3, h4⟩ := hP
        simp only [dp] at hd
        simp only [blk] at hm
        have Z : ∀ j, nl (List.range (m + acc4 (blk p) (blk q') (blk r) (blk t) j)) = nl (List.range (m + acc4 (blk p) (blk q') (blk r) (blk t) j)) := fun _ => rfl
        refine ⟨_, rfl, ad, rfl, ⟨_, SqT.of h0⟩, fun D hD => lc_tupB (K := K) (fun j => nl (List.range (m + acc4 (blk p) (blk q') (blk r) (blk t) j))) (fun j y H => ∀ A, [nam p m, nam q' (m + blk p), nam r (m + blk p + blk q'), nam t (m + blk p + blk q' + blk r)][j]? = some A → NamedAt H y A)
          (fun _ _ _ _ k h A e => (h A e).mono k) hD hR.l h0 (by show 4 ≤ 10000; decide) (fun j x H3 k hx s3 hl3 hk => ?_) (fun H3 ys s3 hl3 hDl hl hys => ?_)⟩
        · have tk := hR.tk s3
          have hR3 := hR.next s3 hl3
          refine ⟨_, rfl, o, dx, _, rfl, hR3.o, rf_no _ (by decide +kernel), _, rfl, ?_⟩
          match j, hx with
          | 0, hx => cases hx; exact ⟨o, dx, l, v0, p, m, rfl, hR3, h1.mono tk, by omega, by omega, fun v' H' s' e' hv => hk _ _ s' e' fun S' e => by cases e; exact hv⟩
          | 1, hx => cases hx; exact ⟨o, dx, l, v1, q', m + blk p, rfl, hR3, h2.mono tk, by omega, by omega, fun v' H' s' e' hv => hk _ _ s' (by rw [e']; simp only [acc4]; rw [Nat.add_assoc]) fun S' e => by cases e; exact hv⟩
          | 2, hx => cases hx; exact ⟨o, dx, l, v2, r, m + blk p + blk q', rfl, by rw [Nat.add_assoc]; exact hR3, h3.mono tk, by omega, by omega, fun v' H' s' e' hv => hk _ _ s' (by rw [e']; simp only [acc4]; rw [show m + blk p + blk q' + blk r = m + (blk p + blk q' + blk r) by omega]) fun S' e => by cases e; exact hv⟩
          | 3, hx => cases hx; exact ⟨o, dx, l, v3, t, m + blk p + blk q' + blk r, rfl, by rw [show m + blk p + blk q' + blk r = m + (blk p + blk q' + blk r) by omega]; exact hR3, h4.mono tk, by omega, by omega, fun v' H' s' e' hv => hk _ _ s' (by rw [e']; simp only [acc4]; rw [show m + blk p + blk q' + blk r + blk t = m + (blk p + blk q' + blk r + blk t) by omega]) fun S' e => by cases e; exact hv⟩
        · obtain ⟨y0, y1, y2, y3, rfl⟩ := list4 hl
          refine ⟨D, _, rfl, .inl ⟨SqL.of hDl, fun u hu => ?_⟩⟩
          have s4 := same_new hu (.tup [y0, y1, y2, y3])
          have tk := Same.tk s4
          refine q _ _ (s3.trans (Same.b s4 l)) ?_ ⟨u, y0, y1, y2, y3, rfl, upd_same, (hys 0 y0 rfl _ rfl).mono tk, (hys 1 y1 rfl _ rfl).mono tk, (hys 2 y2 rfl _ rfl).mono tk, (hys 3 y3 rfl _ rfl).mono tk⟩
          have := s4 _ _ hl3
          simp only [acc4, List.length_cons, List.length_nil] at this
          rw [this]
          simp only [blk]
          rw [show blk p + blk q' + blk r + blk t = blk p + (blk q' + (blk r + blk t)) by omega]
/-! ### head -/
def spHead (C : Addr) : Sp := fun vs H Q _ => ∃ (o dx l : Addr) (hs : List Nat) (rt rk : Nat → Nat) (i : Nat), vs = [.ref o, .int (i : Int)] ∧ RAt H C o dx l hs ∧ UF hs rt rk ∧ i < hs.length ∧
  ∀ H' hs', SameB l H H' → H' l = some (.lst (nl hs')) → hs'.length = hs.length → UF hs' rt rk → Q (.int (rt i : Int)) H'
theorem scHead : FnScope ["self", "number"] ["self", "number"] (defScope sHead) := ⟨rfl, rfl, rfl, by decide +kernel, rfl, by decide +kernel, by decide +kernel⟩
theorem ok_head (a : AtM K C "head" "Regions.head" sHead) (cl : Cls K C) (na : NoAttr K C "heads") : CanM P w K mg base 1 C "head" ["self", "number"] (spHead C) := by
  refine a.can scHead (fun vs H Q E h => ?_) (fun _ _ _ _ _ _ us hl => match us, hl with | [_, _], _ => rfl) (fun f cdv A outer s H vs Q E hr h => ?_)
  · obtain ⟨o, dx, l, hs, rt, rk, i, rfl, _⟩ := h
    rfl
  · obtain ⟨o, dx, l, hs, rt, rk, i, rfl, hR, hu, hi, q⟩ := h
    refine ⟨_, pss_cons (ps_while PassesOwn.never (pt_cmpR op_ne (pe_ix (show IxR _ (rIxL K) from ix_list) (pe_fld (pv 0) rfl) (pv 1) (fun _ _ => rfl)) (pv 1) (nomark _))
      (pss_cons (ps_asg (pe_ix (show IxR _ (rIxL K) from ix_list) (pe_fld (pv 0) rfl) (pe_ix (show IxR _ (rIxL K) from ix_list) (pe_fld (pv 0) rfl) (pv 1) (fun _ _ => rfl)) (fun _ _ => rfl)) (pg_sub (pe_fld (pv 0) rfl) (pv 1) set_list))
      (pss_one (ps_set (i := 1) scHead.nd rfl (Or.inl rfl) (pe_ix (show IxR _ (rIxL K) from ix_list) (pe_fld (pv 0) rfl) (pv 1) (fun _ _ => rfl))))))
      (pss_one (ps_ret (pv 1))), ?_⟩
    refine ⟨fun m σ H' => ∃ (j : Nat) (hs' : List Nat), σ = [some (.ref o), some (.int (j : Int))] ∧ j < hs.length ∧ rt j = rt i ∧ rk j = m ∧ SameB l H H' ∧ H' l = some (.lst (nl hs')) ∧ hs'.length = hs.length ∧ UF hs' rt rk,
      ⟨rk i, i, hs, rfl, hi, rfl, rfl, SameB.refl _ _, hR.l, rfl, hu⟩, ?_⟩
    rintro m σ H' ⟨j, hs', rfl, hj, er, rfl, s', hl', hlen, u'⟩
    have hR' := hR.next s' hl'
    have ej : hs'[j]? = some hs'[j] := List.getElem?_eq_getElem (by omega)
    generalize hs'[j] = h at ej
    refine ⟨_, rfl, o, C, dx, _, _, rfl, hR'.o, cl, na, rf_look l, _, rfl, l, _, _, _, rfl, rfl, SqL.of hl', atI_nat (nl_at ej), _, rfl, rfl, !decide (h = j), ?_, ?_⟩
    · refine congrArg V.bl (congrArg not ?_)
      rw [decide_eq_decide]
      exact ⟨fun z => by injection z with z; omega, fun z => by rw [z]⟩
    · by_cases hj' : h = j
      · subst hj'
        rw [decide_eq_true rfl]
        refine iteF ⟨_, rfl, ?_⟩
        have := u'.fix h ej
        rw [← this, er]
        exact q _ _ s' hl' hlen u'
      · rw [decide_eq_false hj']
        refine iteT ?_
        have lh := u'.lt j h ej
        have eg : hs'[h]? = some hs'[h] := List.getElem?_eq_getElem lh
        generalize hs'[h] = g at eg
        obtain ⟨u2, r2, t2, lg, gj⟩ := u'.halve ej hj' eg
        refine ⟨fun σ H2 => ∃ (j : Nat) (hs' : List Nat), σ = [some (.ref o), some (.int (j : Int))] ∧ j < hs.length ∧ rt j = rt i ∧ rk j = rk g ∧ SameB l H H2 ∧ H2 l = some (.lst (nl hs')) ∧ hs'.length = hs.length ∧ UF hs' rt rk, fun σ H2 h => ⟨rk g, r2, h⟩, ?_⟩
        refine ⟨_, rfl, o, C, dx, _, _, rfl, hR'.o, cl, na, rf_look l, _, rfl, o, C, dx, _, _, rfl, hR'.o, cl, na, rf_look l, _, rfl, l, _, _, _, rfl, rfl, SqL.of hl', atI_nat (nl_at ej), l, _, _, _, rfl, rfl, SqL.of hl', atI_nat (nl_at eg), ?_⟩
        refine ⟨_, rfl, o, C, dx, _, _, rfl, hR'.o, cl, na, rf_look l, _, rfl, l, _, _, j, rfl, rfl, hl', ixn (by rw [nl_len]; omega), ?_⟩
        rw [nl_set]
        have s2 : SameB l H' (upd H' l (.lst (nl (hs'.set j g)))) := SameB.upd
        have hR2 := hR'.next s2 upd_same
        have e2 : (hs'.set j g)[j]? = some g := List.getElem?_set_self (by omega)
        refine ⟨_, rfl, o, C, dx, _, _, rfl, hR2.o, cl, na, rf_look l, _, rfl, l, _, _, _, rfl, rfl, SqL.of hR2.l, atI_nat (nl_at e2), ?_⟩
        exact ⟨g, hs'.set j g, rfl, by omega, by rw [t2, er], rfl, s'.trans s2, hR2.l, by rw [List.length_set]; exact hlen, u2⟩
end
end Pl

namespace Pl
open PySem PySem.Spec PyProof.Rows L2
section
variable {P : Program} {w : World} {K : PySem.W.Frag} {mg : Str → Option Value} {base : Heap} {C : Addr}
theorem isi_named {H : Hp} {v : V} {A : NP} (h : NamedAt H v A) (hA : A ≠ .no) {Q : V → Hp → Prop} (q : Q (.bl (!isNum A)) H) : rIsi K [v, .ty "tuple"] H Q := by
  cases A with
  | no => exact absurd rfl hA
  | num k =>
    have e : v = .int (k : Int) := h
    subst e
    exact ⟨_, _, _, _, false, rfl, .ty _, .base (.int _), kit_ty (by decide +kernel), q⟩
  | nd p q' r s =>
    obtain ⟨a, v0, v1, v2, v3, rfl, h0, _⟩ := h
    exact ⟨_, _, _, _, true, rfl, .ty _, .base (.tup h0), kit_ty (by decide +kernel), q⟩
abbrev tIsiTup (K : PySem.W.Frag) (i : Nat) : TT := tB (tCB (rIsi K) (tCons (tVar i) (tCons (tC (V.ty "tuple")) tNil)))
theorem isiT_named {σ : L2.St} {H : Hp} {v : V} {A : NP} {i : Nat} (hv : σ[i]? = some (some v)) (hN : NamedAt H v A) (hA : A ≠ .no) {Q : Bool → Hp → Prop} (q : Q (!isNum A) H) : tIsiTup K i σ H Q := by
  refine ⟨v, hv, ?_⟩
  show rIsi K [v, V.ty "tuple"] H (fun x H1 => ∃ c, x = V.bl c ∧ Q c H1)
  exact isi_named hN hA ⟨_, rfl, q⟩
theorem both_named {σ : L2.St} {H : Hp} {v u : V} {A B : NP} {i j : Nat} (hv : σ[i]? = some (some v)) (hN : NamedAt H v A) (hA : A ≠ .no) (hu : σ[j]? = some (some u)) (hM : NamedAt H u B) (hB : B ≠ .no) {Q : Bool → Hp → Prop} (q : Q (isNum A && isNum B) H) :
    tAnd (tNot (tIsiTup K i)) (tNot (tIsiTup K j)) σ H Q := by
  refine isiT_named (K := K) hv hN hA ?_
  cases e : isNum A with
  | false =>
    rw [e] at q
    exact iteF q
  | true =>
    rw [e] at q
    refine iteT (isiT_named (K := K) hu hM hB ?_)
    show Q (!(!isNum B)) H
    rw [Bool.not_not]
    exact q
theorem par_named {σ : L2.St} {H : Hp} {v : V} {A : NP} {i : Nat} (hv : σ[i]? = some (some v)) (hN : NamedAt H v A) (hA : A ≠ .no) {Q : V → Hp → Prop}
    (q : ∀ a w0 w1 w2 w3 H2, Same H H2 → H2 a = some (.tup [w0, w1, w2, w3]) → NamedAt H2 w0 (npart A 0) → NamedAt H2 w1 (npart A 1) → NamedAt H2 w2 (npart A 2) → NamedAt H2 w3 (npart A 3) → Q (.ref a) H2) :
    tIf (tIsiTup K i) (tVar i) (tOp (rRepA K) (tTup (tCons (tVar i) tNil)) (tC (.int 4))) σ H Q := by
  refine isiT_named (K := K) hv hN hA ?_
  cases A with
  | no => exact absurd rfl hA
  | nd z0 z1 z2 z3 =>
    obtain ⟨a, v0, v1, v2, v3, rfl, h0, h1, h2, h3, h4⟩ := hN
    exact iteT ⟨_, hv, q a v0 v1 v2 v3 H (Same.refl _) h0 h1 h2 h3 h4⟩
  | num k =>
    have e1 : v = .int (k : Int) := hN
    subst e1
    refine iteF ⟨_, hv, by show 1 ≤ sizeLine; decide, fun p np => ?_⟩
    have s3 := same_new np (.tup [V.int (k : Int)])
    refine ⟨p, 4, [V.int (k : Int)], rfl, rfl, SqT.of upd_same, by simp, by decide, by decide, by simp, (fun z => by cases z), fun _ p2 np2 => ?_⟩
    have s4 := s3.trans (same_new np2 (.tup (List.replicate (4 : Int).toNat [V.int (k : Int)]).flatten))
    exact q p2 (.int (k : Int)) (.int (k : Int)) (.int (k : Int)) (.int (k : Int)) _ s4 upd_same rfl rfl rfl rfl
theorem named_part {H : Hp} {v0 v1 v2 v3 : V} {A : NP} (h1 : NamedAt H v0 (npart A 0)) (h2 : NamedAt H v1 (npart A 1)) (h3 : NamedAt H v2 (npart A 2)) (h4 : NamedAt H v3 (npart A 3)) {n : Nat} (hn : n < 4) :
    ∃ v, atI [v0, v1, v2, v3] (n : Int) = some v ∧ NamedAt H v (npart A n) := by
  match n, hn with
  | 0, _ => exact ⟨v0, atI_nat rfl, h1⟩
  | 1, _ => exact ⟨v1, atI_nat rfl, h2⟩
  | 2, _ => exact ⟨v2, atI_nat rfl, h3⟩
  | 3, _ => exact ⟨v3, atI_nat rfl, h4⟩
/-- the first of four lists, one behind the other -/
def accL {α : Type} (a b c d : List α) : Nat → List α
  | 0 => []
  | 1 => a
  | 2 => a ++ b
  | 3 => a ++ b ++ c
  | _ => a ++ b ++ c ++ d
/-! ### join_across -/
def spJA (C : Addr) (d : Nat) : Sp := fun vs H Q _ => ∃ (o dx l : Addr) (hs : List Nat) (E : List (Nat × Nat)) (n : Nat) (v : V) (A : NP) (u : V) (B : NP) (st : Addr) (h : Bool), vs = [.ref o, v, u, .ref st] ∧ RAt H C o dx l hs ∧ US hs E ∧ NamedAt H v A ∧ NamedAt H u B ∧ nok n A = true ∧ nok n B = true ∧
  nlt hs.length A ∧ nlt hs.length B ∧ n < d ∧ StepsAt H st h ∧ ∀ H' hs', SameB l H H' → H' l = some (.lst (nl hs')) → hs'.length = hs.length → US hs' (E ++ acr h n A B) → Q .non H'
theorem scJA : FnScope ["self", "one", "other", "steps", "mine", "its", "near", "far"] ["self", "one", "other", "steps"] (defScope sJoinAcross) := ⟨rfl, rfl, rfl, by decide +kernel, rfl, by decide +kernel, by decide +kernel⟩
theorem ok_join_across (a : AtM K C "join_across" "Regions.join_across" sJoinAcross) (cl : Cls K C) (na : NoAttr K C "heads") (T : Bi mg) (hd : CanM P w K mg base 1 C "head" ["self", "number"] (spHead C)) :
    ∀ d, CanM P w K mg base (d + 1) C "join_across" ["self", "one", "other", "steps"] (spJA C d)
  | 0 => (a.zero (fun _ _ _ _ _ _ us hl => match us, hl with | [_, _, _, _], _ => rfl) fun vs H Q E ⟨_, _, _, _, _, _, _, _, _, _, _, _, _, _, _, _, _, _, _, _, _, h, _⟩ => absurd h (Nat.not_lt_zero _)).mono (Nat.zero_le _)
  | d + 1 => by
    have c := ok_join_across a cl na T hd d
    refine a.can scJA (fun vs H Q E h => ?_) (fun _ _ _ _ _ _ us hl => match us, hl with | [_, _, _, _], _ => rfl) (fun f cdv A outer s H vs Q E hr h => ?_)
    · obtain ⟨o, dx, l, hs, E, n, v, A, u, B, st, hz, rfl, _⟩ := h
      rfl
    · obtain ⟨o, dx, l, hs, E, n, v, A, u, B, st, hz, rfl, hR, hE, hA, hB, k1, k2, l1, l2, hn, hst, q⟩ := h
      have hr1 : Room 1 _ := hr.mono (by omega)
      refine ⟨_, pss_cons (ps_if (PW.pt (pw_or (pt_cmp (pc_isN (pv 1))) (pw_or1 (pt_cmp (pc_isN (pv 2)))))) (pss_one ps_retN) pss_nil)
        (pss_cons (ps_if (PW.pt (pw_and (pt_not (pt_val (pe_callB call_isi (by rfl) T.isi (by decide +kernel) (pa_cons (pv 1) (pa_cons (pe_bltn (v := .ty "tuple") (by rfl) T.tuple (by decide +kernel) rfl) pa_nil)))))
              (pw_and1 (pt_not (pt_val (pe_callB call_isi (by rfl) T.isi (by decide +kernel) (pa_cons (pv 2) (pa_cons (pe_bltn (v := .ty "tuple") (by rfl) T.tuple (by decide +kernel) rfl) pa_nil))))))))
            (pss_cons (ps_asg (pe_canM hd cl hr1 (pv 0) (pa_cons (pv 2) pa_nil)) (pg_sub (pe_fld (pv 0) rfl) (pe_canM hd cl hr1 (pv 0) (pa_cons (pv 1) pa_nil)) set_list)) (pss_one ps_retN)) pss_nil)
        (pss_cons (ps_set (i := 4) scJA.nd rfl (Or.inl rfl) (pe_ifExp (pt_val (pe_callB call_isi (by rfl) T.isi (by decide +kernel) (pa_cons (pv 1) (pa_cons (pe_bltn (v := .ty "tuple") (by rfl) T.tuple (by decide +kernel) rfl) pa_nil)))) (pv 1) (pe_op op_repA (pe_tup (pa_cons (pv 1) pa_nil)) pe_int)))
        (pss_cons (ps_set (i := 5) scJA.nd rfl (Or.inl rfl) (pe_ifExp (pt_val (pe_callB call_isi (by rfl) T.isi (by decide +kernel) (pa_cons (pv 2) (pa_cons (pe_bltn (v := .ty "tuple") (by rfl) T.tuple (by decide +kernel) rfl) pa_nil)))) (pv 2) (pe_op op_repA (pe_tup (pa_cons (pv 2) pa_nil)) pe_int)))
        (pss_one (ps_for PassesOwn.never rfl (pi_tup (pv 3)) (pg_tup rfl (pgs_cons (pg_name (i := 6) scJA.nd rfl (Or.inl rfl)) (pgs_cons (pg_name (i := 7) scJA.nd rfl (Or.inl rfl)) pgs_nil)))
            (pss_one (ps_expr (pe_canM c cl hr (pv 0) (pa_cons (pe_ix (show IxR _ (rIxT K) from ix_tup) (pv 4) (pv 6) (fun _ _ => rfl)) (pa_cons (pe_ix (show IxR _ (rIxT K) from ix_tup) (pv 5) (pv 7) (fun _ _ => rfl)) (pa_cons (pv 3) pa_nil))))))))))), ?_⟩
      by_cases cA : A = .no ∨ B = .no
      · rw [acr_no cA, List.append_nil] at q
        have qq := q H hs (SameB.refl _ _) hR.l rfl hE
        refine ⟨v, rfl, decide (v = .non), rfl, ?_⟩
        by_cases c1 : v = .non
        · rw [decide_eq_true c1]
          exact iteT (iteT qq)
        · rw [decide_eq_false c1]
          refine iteF ⟨u, rfl, decide (u = .non), rfl, ?_⟩
          rw [decide_eq_true (hB.non.mpr (cA.resolve_left fun e => c1 (hA.non.mpr e)))]
          exact iteT qq
      · have nA : A ≠ .no := fun e => cA (.inl e)
        have nB : B ≠ .no := fun e => cA (.inr e)
        refine ⟨v, rfl, decide (v = .non), rfl, ?_⟩
        rw [decide_eq_false fun e => nA (hA.non.mp e)]
        refine iteF ⟨u, rfl, decide (u = .non), rfl, ?_⟩
        rw [decide_eq_false fun e => nB (hB.non.mp e)]
        refine iteF ?_
        by_cases cN : isNum A = true ∧ isNum B = true
        · -- two numbers
          obtain ⟨i, rfl⟩ : ∃ i, A = .num i := by
            cases A with
            | num i => exact ⟨i, rfl⟩
            | no => exact absurd rfl nA
            | nd _ _ _ _ => exact absurd cN.1 (by simp [isNum])
          obtain ⟨j, rfl⟩ : ∃ i, B = .num i := by
            cases B with
            | num i => exact ⟨i, rfl⟩
            | no => exact absurd rfl nB
            | nd _ _ _ _ => exact absurd cN.2 (by simp [isNum])
          have e1 : v = .int (i : Int) := hA
          have e2 : u = .int (j : Int) := hB
          subst e1 e2
          rw [acr_num] at q
          refine both_named (K := K) (i := 1) (j := 2) rfl hA nA rfl hB nB (iteT ?_)
          obtain ⟨hlt, rt, rk, uf, hp⟩ := hE
          have li : i < hs.length := l1
          have lj : j < hs.length := l2
          refine ⟨_, rfl, o, dx, _, rfl, hR.o, rf_no _ (by decide +kernel), _, rfl, ?_⟩
          refine ⟨o, dx, l, hs, rt, rk, j, rfl, hR, uf, lj, fun H2 hs2 s2 hl2 hlen2 uf2 => ?_⟩
          have hR2 := hR.next s2 hl2
          refine ⟨_, rfl, o, C, dx, _, _, rfl, hR2.o, cl, na, rf_look l, ?_⟩
          refine ⟨_, rfl, o, dx, _, rfl, hR2.o, rf_no _ (by decide +kernel), _, rfl, ?_⟩
          refine ⟨o, dx, l, hs2, rt, rk, i, rfl, hR2, uf2, by omega, fun H3 hs3 s3 hl3 hlen3 uf3 => ?_⟩
          have top3 := (uf3.top' (i := i) (by omega)).1
          refine ⟨l, _, _, rt i, rfl, rfl, hl3, ixn (by rw [nl_len]; exact top3), ?_⟩
          rw [nl_set]
          refine q _ (hs3.set (rt i) (rt j)) (s2.trans (s3.trans SameB.upd)) upd_same (by rw [List.length_set]; omega) ?_
          exact US.join (rk := rk) (fun e he => by have := hlt e he; omega) uf3 (fun x y hx hy => hp x y (by omega) (by omega)) (by omega) (by omega)
        · -- the parts
          obtain ⟨n', rfl⟩ : ∃ n', n = n' + 1 := by
            cases n with
            | succ n' => exact ⟨n', rfl⟩
            | zero =>
              exfalso
              cases A with
              | no => exact nA rfl
              | nd _ _ _ _ => simp [nok] at k1
              | num i => cases B with
                | no => exact nB rfl
                | nd _ _ _ _ => simp [nok] at k2
                | num j => exact cN ⟨rfl, rfl⟩
          rw [acr_parts nA nB cN] at q
          refine both_named (K := K) (i := 1) (j := 2) rfl hA nA rfl hB nB ?_
          have eF : (isNum A && isNum B) = false := by
            rw [Bool.and_eq_false_iff]
            cases z : isNum A with
            | false => exact .inl rfl
            | true => cases z2 : isNum B with
              | false => exact .inr rfl
              | true => exact absurd ⟨z, z2⟩ cN
          rw [eF]
          refine iteF ?_
          refine par_named (K := K) (i := 1) rfl hA nA fun a1 w0 w1 w2 w3 H2 s2 g0 g1 g2 g3 g4 => ?_
          refine par_named (K := K) (i := 2) rfl (hB.mono (Same.tk s2)) nB fun a2 z0 z1 z2 z3 H3 s3 f0 f1 f2 f3 f4 => ?_
          have tk3 := Same.tk s3
          have s13 := s2.trans s3
          have hR3 := hR.same s13
          have hst3 := hst.mono (Same.tk s13)
          have G0 := tk3 _ _ g0
          obtain ⟨t0, t1, p0, p1, p2⟩ := id hst3
          have n1 := nok_part k1
          have n2 := nok_part k2
          generalize ee1 : acr hz n' (npart A (st1 hz)) (npart B 0) = e1 at q
          generalize ee2 : acr hz n' (npart A 3) (npart B (3 - st1 hz)) = e2 at q
          refine ⟨_, rfl, st, rfl, ⟨_, SqT.of p0⟩, for_it (walk_tup (K := K) (a := st) (xs := [V.ref t0, V.ref t1])) (fun i σ H5 => ∃ (x y : Option V) (hs' : List Nat), σ = [some (.ref o), some v, some u, some (.ref st), some (.ref a1), some (.ref a2), x, y] ∧ SameB l H3 H5 ∧ H5 l = some (.lst (nl hs')) ∧ hs'.length = hs.length ∧ US hs' (E ++ accL e1 e2 [] [] i))
            ⟨none, none, hs, rfl, SameB.refl _ _, hR3.l, rfl, by simp only [accL, List.append_nil]; exact hE⟩ (fun i σ H5 _ ⟨_, _, _, _, s5, _⟩ => SqT.of (hR3.tk s5 _ _ p0)) ?_ ?_⟩
          · rintro i x σ H5 H6 hi ⟨_, _, hs', rfl, s5, hl5, hlen, us⟩ ⟨rfl, ey⟩
            have tk5 := hR3.tk s5
            have hR5 := hR3.next s5 hl5
            have go : ∀ (near far : Nat) (wn zf : V), near < 4 → far < 4 → atI [w0, w1, w2, w3] (near : Int) = some wn → atI [z0, z1, z2, z3] (far : Int) = some zf → NamedAt H6 wn (npart A near) → NamedAt H6 zf (npart B far) → ∀ (R : VK),
                (∀ H' hs'', SameB l H6 H' → H' l = some (.lst (nl hs'')) → hs''.length = hs.length → US hs'' ((E ++ accL e1 e2 [] [] i) ++ acr hz n' (npart A near) (npart B far)) → R .non H') → spJA C d [V.ref o, wn, zf, V.ref st] H6 R E0 := by
              intro near far wn zf hnr hfr an az Na Nb R hR'
              exact ⟨o, dx, l, hs', _, n', wn, npart A near, zf, npart B far, st, hz, rfl, hR5, us, Na, Nb, n1 near, n2 far, by rw [hlen]; exact nlt_part l1 _, by rw [hlen]; exact nlt_part l2 _, by omega, hst3.mono tk5, fun H' hs'' s' e' hl' u' => hR' H' hs'' s' e' (by omega) u'⟩
            obtain ⟨wm, em, pm⟩ := named_part (g1.mono (tk3.trans tk5)) (g2.mono (tk3.trans tk5)) (g3.mono (tk3.trans tk5)) (g4.mono (tk3.trans tk5)) (n := st1 hz) (by cases hz <;> decide)
            obtain ⟨zm, em2, pm2⟩ := named_part (f1.mono tk5) (f2.mono tk5) (f3.mono tk5) (f4.mono tk5) (n := 3 - st1 hz) (by cases hz <;> decide)
            match i, hi, ey with
            | 0, _, ey =>
              cases ey
              refine ⟨t0, _, rfl, SqT.of (tk5 _ _ p1), rfl, _, _, rfl, _, _, rfl, rfl, ?_⟩
              refine ⟨_, rfl, o, dx, _, rfl, hR5.o, rf_no _ (by decide +kernel), _, rfl, _, rfl, a1, _, _, wm, rfl, rfl, SqT.of (tk5 _ _ G0), em, _, rfl, _, rfl, a2, _, _, z0, rfl, rfl, SqT.of (tk5 _ _ f0), atI_nat (j := 0) rfl, _, rfl, ?_⟩
              dsimp only [tNil, List.append_nil]
              refine go (st1 hz) 0 wm z0 (by cases hz <;> decide) (by decide) em (atI_nat (j := 0) rfl) pm (f1.mono tk5) _ fun H' hs'' s' e' hl' u' => ?_
              refine ⟨_, _, hs'', rfl, s5.trans s', e', hl', ?_⟩
              rw [ee1] at u'
              simp only [accL, List.append_nil] at u' ⊢
              exact u'
            | 1, _, ey =>
              cases ey
              refine ⟨t1, _, rfl, SqT.of (tk5 _ _ p2), rfl, _, _, rfl, _, _, rfl, rfl, ?_⟩
              refine ⟨_, rfl, o, dx, _, rfl, hR5.o, rf_no _ (by decide +kernel), _, rfl, _, rfl, a1, _, _, w3, rfl, rfl, SqT.of (tk5 _ _ G0), atI_nat (j := 3) rfl, _, rfl, _, rfl, a2, _, _, zm, rfl, rfl, SqT.of (tk5 _ _ f0), em2, _, rfl, ?_⟩
              dsimp only [tNil, List.append_nil]
              refine go 3 (3 - st1 hz) w3 zm (by decide) (by cases hz <;> decide) (atI_nat (j := 3) rfl) em2 (g4.mono (tk3.trans tk5)) pm2 _ fun H' hs'' s' e' hl' u' => ?_
              refine ⟨_, _, hs'', rfl, s5.trans s', e', hl', ?_⟩
              rw [ee2] at u'
              simp only [accL] at u' ⊢
              rw [← List.append_assoc]
              exact u'
          · rintro σ H5 ⟨_, _, hs', rfl, s5, hl5, hlen, us⟩
            refine q _ hs' ((Same.b s13 l).trans s5) hl5 hlen ?_
            simpa only [accL, List.length_cons, List.length_nil, Nat.zero_add, Nat.reduceAdd] using us
end
end Pl

namespace Pl
open PySem PySem.Spec PyProof.Rows L2
section
variable {P : Program} {w : World} {K : PySem.W.Frag} {mg : Str → Option Value} {base : Heap} {C : Addr}
def isNd : NP → Bool
  | .nd _ _ _ _ => true
  | _ => false
theorem isiT_named2 {σ : L2.St} {H : Hp} {v : V} {A : NP} {i : Nat} (hv : σ[i]? = some (some v)) (hN : NamedAt H v A) {Q : Bool → Hp → Prop} (q : Q (isNd A) H) : tIsiTup K i σ H Q := by
  refine ⟨v, hv, ?_⟩
  show rIsi K [v, V.ty "tuple"] H (fun x H1 => ∃ c, x = V.bl c ∧ Q c H1)
  cases A with
  | no =>
    have e : v = .non := hN
    subst e
    exact ⟨_, _, _, _, false, rfl, .ty _, .base .non, kit_ty (by decide +kernel), _, rfl, q⟩
  | num k =>
    have e : v = .int (k : Int) := hN
    subst e
    exact ⟨_, _, _, _, false, rfl, .ty _, .base (.int _), kit_ty (by decide +kernel), _, rfl, q⟩
  | nd p q' r s =>
    obtain ⟨a, v0, v1, v2, v3, rfl, h0, _⟩ := hN
    exact ⟨_, _, _, _, true, rfl, .ty _, .base (.tup h0), kit_ty (by decide +kernel), _, rfl, q⟩
/-! ### join_within -/
def spJW (C : Addr) (d : Nat) : Sp := fun vs H Q _ => ∃ (o dx l : Addr) (hs : List Nat) (E : List (Nat × Nat)) (n : Nat) (v : V) (A : NP), vs = [.ref o, v] ∧ RAt H C o dx l hs ∧ US hs E ∧ NamedAt H v A ∧ nok n A = true ∧ nlt hs.length A ∧ n < d ∧ n ≤ 41 ∧
  ∀ H' hs', SameB l H H' → H' l = some (.lst (nl hs')) → hs'.length = hs.length → US hs' (E ++ wit n A) → Q .non H'
theorem scJW : FnScope ["self", "cells", "part", "one", "other"] ["self", "cells"] (defScope sJoinWithin) := ⟨rfl, rfl, rfl, by decide +kernel, rfl, by decide +kernel, by decide +kernel⟩
theorem ok_join_within (a : AtM K C "join_within" "Regions.join_within" sJoinWithin) (cl : Cls K C) (na : NoAttr K C "heads") (T : Bi mg) (ja : CanM P w K mg base 42 C "join_across" ["self", "one", "other", "steps"] (spJA C 41)) :
    ∀ d, CanM P w K mg base (d + 42) C "join_within" ["self", "cells"] (spJW C d)
  | 0 => (a.zero (fun _ _ _ _ _ _ us hl => match us, hl with | [_, _], _ => rfl) fun vs H Q E ⟨_, _, _, _, _, _, _, _, _, _, _, _, _, _, h, _⟩ => absurd h (Nat.not_lt_zero _)).mono (Nat.zero_le _)
  | d + 1 => by
    have c := ok_join_within a cl na T ja d
    rw [show d + 1 + 42 = (d + 42) + 1 by omega]
    refine a.can scJW (fun vs H Q E h => ?_) (fun _ _ _ _ _ _ us hl => match us, hl with | [_, _], _ => rfl) (fun f cdv A outer s H vs Q E hr h => ?_)
    · obtain ⟨o, dx, l, hs, E, n, v, A, rfl, _⟩ := h
      rfl
    · obtain ⟨o, dx, l, hs, E, n, v, A, rfl, hR, hE, hA, k1, l1, hn, h41, q⟩ := h
      have hr42 : Room 42 _ := hr.mono (by omega)
      refine ⟨_, pss_cons (ps_if (pt_not (pt_val (pe_callB call_isi (by rfl) T.isi (by decide +kernel) (pa_cons (pv 1) (pa_cons (pe_bltn (v := .ty "tuple") (by rfl) T.tuple (by decide +kernel) rfl) pa_nil))))) (pss_one ps_retN) pss_nil)
        (pss_cons (ps_for PassesOwn.never rfl (pi_tup (pv 1)) (pg_name (i := 2) scJW.nd rfl (Or.inl rfl)) (pss_one (ps_expr (pe_canM c cl hr (pv 0) (pa_cons (pv 2) pa_nil)))))
        (pss_cons (ps_for PassesOwn.never rfl (pi_tup (pe_tup (pa_cons (pe_tup (pa_cons pe_int (pa_cons pe_int pa_nil))) (pa_cons (pe_tup (pa_cons pe_int (pa_cons pe_int pa_nil))) pa_nil))))
            (pg_tup rfl (pgs_cons (pg_name (i := 3) scJW.nd rfl (Or.inl rfl)) (pgs_cons (pg_name (i := 4) scJW.nd rfl (Or.inl rfl)) pgs_nil)))
            (pss_one (ps_expr (pe_canM ja cl hr42 (pv 0) (pa_cons (pe_ix (show IxR _ (rIxT K) from ix_tup) (pv 1) (pv 3) (fun _ _ => rfl)) (pa_cons (pe_ix (show IxR _ (rIxT K) from ix_tup) (pv 1) (pv 4) (fun _ _ => rfl))
              (pa_cons (pe_tup (pa_cons (pe_tup (pa_cons pe_int (pa_cons pe_int pa_nil))) (pa_cons (pe_tup (pa_cons pe_int (pa_cons pe_int pa_nil))) pa_nil))) pa_nil)))))))
        (pss_one (ps_for PassesOwn.never rfl (pi_tup (pe_tup (pa_cons (pe_tup (pa_cons pe_int (pa_cons pe_int pa_nil))) (pa_cons (pe_tup (pa_cons pe_int (pa_cons pe_int pa_nil))) pa_nil))))
            (pg_tup rfl (pgs_cons (pg_name (i := 3) scJW.nd rfl (Or.inl rfl)) (pgs_cons (pg_name (i := 4) scJW.nd rfl (Or.inl rfl)) pgs_nil)))
            (pss_one (ps_expr (pe_canM ja cl hr42 (pv 0) (pa_cons (pe_ix (show IxR _ (rIxT K) from ix_tup) (pv 1) (pv 3) (fun _ _ => rfl)) (pa_cons (pe_ix (show IxR _ (rIxT K) from ix_tup) (pv 1) (pv 4) (fun _ _ => rfl))
              (pa_cons (pe_tup (pa_cons (pe_tup (pa_cons pe_int (pa_cons pe_int pa_nil))) (pa_cons (pe_tup (pa_cons pe_int (pa_cons pe_int pa_nil))) pa_nil))) pa_nil)))))))))), ?_⟩
      refine isiT_named2 (K := K) (i := 1) rfl hA ?_
      cases A with
      | no =>
        simp only [wit, List.append_nil] at q
        exact iteT (q _ _ (SameB.refl _ _) hR.l rfl hE)
      | num k =>
        simp only [wit, List.append_nil] at q
        exact iteT (q _ _ (SameB.refl _ _) hR.l rfl hE)
      | nd A0 A1 A2 A3 =>
        refine iteF ?_
        obtain ⟨ad, v0, v1, v2, v3, rfl, h0, h1, h2, h3, h4⟩ := hA
        cases n with
        | zero => simp [nok] at k1
        | succ n =>
        simp only [nok, Bool.and_eq_true] at k1
        obtain ⟨k1, k2, k3, k4⟩ := k1
        obtain ⟨l1, l2, l3, l4⟩ := l1
        simp only [wit, Nat.add_sub_cancel] at q
        -- the parts
        refine ⟨_, rfl, ad, rfl, ⟨_, SqT.of h0⟩, for_it (walk_tup (K := K) (a := ad) (xs := [v0, v1, v2, v3])) (fun i σ H5 => ∃ (x : Option V) (hs' : List Nat), σ = [some (.ref o), some (.ref ad), x, none, none] ∧ SameB l H H5 ∧ H5 l = some (.lst (nl hs')) ∧ hs'.length = hs.length ∧
            US hs' (E ++ accL (wit n A0) (wit n A1) (wit n A2) (wit n A3) i))
          ⟨none, hs, rfl, SameB.refl _ _, hR.l, rfl, by simp only [accL, List.append_nil]; exact hE⟩ (fun i σ H5 _ ⟨_, _, _, s5, _⟩ => SqT.of (hR.tk s5 _ _ h0)) ?_ ?_⟩
        · rintro i x σ H5 H6 hi ⟨_, hs', rfl, s5, hl5, hlen, us⟩ ⟨rfl, ey⟩
          have tk5 := hR.tk s5
          have hR5 := hR.next s5 hl5
          refine ⟨_, rfl, o, dx, _, rfl, hR5.o, rf_no _ (by decide +kernel), _, rfl, ?_⟩
          dsimp only [tNil, List.append_nil]
          have go : ∀ (Z : NP) (E2 : List (Nat × Nat)), NamedAt H x Z → nok n Z = true → nlt hs.length Z → (E ++ accL (wit n A0) (wit n A1) (wit n A2) (wit n A3) i) ++ wit n Z = E2 → ∀ R : VK, (∀ H' hs'', SameB l H6 H' → H' l = some (.lst (nl hs'')) → hs''.length = hs.length → US hs'' E2 → R .non H') →
              spJW C d [V.ref o, x] H6 R E0 := fun Z E2 nz kz lz eq R hR' => ⟨o, dx, l, hs', _, n, x, Z, rfl, hR5, us, nz.mono tk5, kz, by rw [hlen]; exact lz, by omega, by omega, fun H' hs'' s' e' hl' u' => hR' H' hs'' s' e' (by omega) (by rw [← eq]; exact u')⟩
          match i, hi, ey with
          | 0, _, ey => cases ey; exact go A0 _ h1 k1 l1 rfl _ fun H' hs'' s' e' hl' u' => ⟨_, hs'', rfl, s5.trans s', e', hl', by simpa only [accL, List.append_nil, List.append_assoc] using u'⟩
          | 1, _, ey => cases ey; exact go A1 _ h2 k2 l2 rfl _ fun H' hs'' s' e' hl' u' => ⟨_, hs'', rfl, s5.trans s', e', hl', by simpa only [accL, List.append_nil, List.append_assoc] using u'⟩
          | 2, _, ey => cases ey; exact go A2 _ h3 k3 l3 rfl _ fun H' hs'' s' e' hl' u' => ⟨_, hs'', rfl, s5.trans s', e', hl', by simpa only [accL, List.append_nil, List.append_assoc] using u'⟩
          | 3, _, ey => cases ey; exact go A3 _ h4 k4 l4 rfl _ fun H' hs'' s' e' hl' u' => ⟨_, hs'', rfl, s5.trans s', e', hl', by simpa only [accL, List.append_nil, List.append_assoc] using u'⟩
        rintro σ H1 ⟨y, hs1, rfl, s1, hl1, hlen1, us1⟩
        -- a call of join_across
        have call : ∀ (hz : Bool) (hs' : List Nat) (E1 : List (Nat × Nat)) (x z : V) (X Z : NP) (H5 : Hp), SameB l H H5 → H5 l = some (.lst (nl hs')) → hs'.length = hs.length → US hs' E1 → NamedAt H x X → NamedAt H z Z → nok n X = true → nok n Z = true → nlt hs.length X → nlt hs.length Z →
            ∀ (t0 t1 st : Addr) (H6 : Hp), Same H5 H6 → H6 st = some (.tup [.ref t0, .ref t1]) → H6 t0 = some (.tup [.int (st1 hz : Nat), .int 0]) → H6 t1 = some (.tup [.int 3, .int ((3 - st1 hz : Nat) : Int)]) →
            ∀ R : VK, (∀ H' hs'', SameB l H H' → SameB l H5 H' → H' l = some (.lst (nl hs'')) → hs''.length = hs.length → US hs'' (E1 ++ acr hz n X Z) → R .non H') → spJA C 41 [V.ref o, x, z, .ref st] H6 R E0 := by
          intro hz hs' E1 x z X Z H5 s5 hl5 hlen us nx nz kx kz lx lz t0 t1 st H6 s6 w0 w1 w2 R hR'
          have sB : SameB l H H6 := s5.trans (Same.b s6 l)
          have tk6 := hR.tk sB
          exact ⟨o, dx, l, hs', E1, n, x, X, z, Z, st, hz, rfl, hR.next sB (s6 _ _ hl5), us, nx.mono tk6, nz.mono tk6, kx, kz, by rw [hlen]; exact lx, by rw [hlen]; exact lz, by omega, ⟨t0, t1, w0, w1, w2⟩,
            fun H' hs'' s' e' hl' u' => hR' H' hs'' (sB.trans s') ((Same.b s6 l).trans s') e' (by omega) u'⟩
        have hRn : ∀ H5, SameB l H H5 → H5 o = some (.ins C dx (rf l)) ∧ H5 ad = some (.tup [v0, v1, v2, v3]) := fun H5 s5 => ⟨s5 _ _ hR.ne hR.o, hR.tk s5 _ _ h0⟩
        -- the first loop
        refine ⟨by show 2 ≤ sizeLine; decide, fun t0 n0 => ?_⟩
        have z0 := same_new n0 (.tup [V.int 0, V.int 1])
        refine ⟨by show 2 ≤ sizeLine; decide, fun t1 n1 => ?_⟩
        have z1 := same_new n1 (.tup [V.int 2, V.int 3])
        refine ⟨by show 2 ≤ sizeLine; decide, fun t2 n2 => ?_⟩
        have z2 := same_new n2 (.tup [V.ref t0, V.ref t1])
        have T0 := z2 _ _ (z1 _ _ (upd_same (H := H1) (a := t0) (o := .tup [V.int 0, V.int 1])))
        have T1 := z2 _ _ (upd_same (H := upd H1 t0 (.tup [V.int 0, V.int 1])) (a := t1) (o := .tup [V.int 2, V.int 3]))
        have T2 : upd (upd (upd H1 t0 (.tup [V.int 0, V.int 1])) t1 (.tup [V.int 2, V.int 3])) t2 (.tup [V.ref t0, V.ref t1]) t2 = some (.tup [V.ref t0, V.ref t1]) := upd_same
        have s4 := z0.trans (z1.trans z2)
        generalize upd (upd (upd H1 t0 (.tup [V.int 0, V.int 1])) t1 (.tup [V.int 2, V.int 3])) t2 (.tup [V.ref t0, V.ref t1]) = H4 at T0 T1 T2 s4
        have s14 : SameB l H H4 := s1.trans (Same.b s4 l)
        have hl4 := s4 _ _ hl1
        generalize eE1 : E ++ accL (wit n A0) (wit n A1) (wit n A2) (wit n A3) [v0, v1, v2, v3].length = E1 at us1
        refine ⟨t2, rfl, ⟨_, SqT.of T2⟩, for_it (walk_tup (K := K) (a := t2) (xs := [V.ref t0, V.ref t1])) (fun i σ H5 => ∃ (x y' : Option V) (hs' : List Nat), σ = [some (.ref o), some (.ref ad), y, x, y'] ∧ SameB l H H5 ∧ SameB l H4 H5 ∧ H5 l = some (.lst (nl hs')) ∧ hs'.length = hs.length ∧
            US hs' (E1 ++ accL (acr true n A0 A1) (acr true n A2 A3) [] [] i))
          ⟨none, none, hs1, rfl, s14, SameB.refl _ _, hl4, hlen1, by simp only [accL, List.append_nil]; exact us1⟩ (fun i σ H5 _ ⟨_, _, _, _, _, s5, _⟩ => SqT.of (s5.tk hl4 _ _ T2)) ?_ ?_⟩
        · rintro i x σ H5 H6 hi ⟨_, _, hs', rfl, s5, s45, hl5, hlen, us⟩ ⟨rfl, ey⟩
          obtain ⟨ho, hc⟩ := hRn _ s5
          match i, hi, ey with
          | 0, _, ey =>
            cases ey
            refine ⟨t0, _, rfl, SqT.of (s45.tk hl4 _ _ T0), rfl, _, _, rfl, _, _, rfl, rfl, ?_⟩
            refine ⟨_, rfl, o, dx, _, rfl, ho, rf_no _ (by decide +kernel), _, rfl, _, rfl, ad, _, _, v0, rfl, rfl, SqT.of hc, atI_nat (j := 0) rfl, _, rfl, _, rfl, ad, _, _, v1, rfl, rfl, SqT.of hc, atI_nat (j := 1) rfl, by show 2 ≤ sizeLine; decide, fun u0 m0 => ?_⟩
            refine ⟨by show 2 ≤ sizeLine; decide, fun u1 m1 => ⟨by show 2 ≤ sizeLine; decide, fun u2 m2 => ?_⟩⟩
            have c0 := same_new m0 (.tup [V.int 1, V.int 0])
            have c1 := same_new m1 (.tup [V.int 3, V.int 2])
            have c2 := same_new m2 (.tup [V.ref u0, V.ref u1])
            dsimp only [tNil, List.append_nil]
            refine call true hs' _ v0 v1 A0 A1 _ s5 hl5 hlen us h1 h2 k1 k2 l1 l2 u0 u1 u2 _ (c0.trans (c1.trans c2)) upd_same (c2 _ _ (c1 _ _ upd_same)) (c2 _ _ upd_same) _ fun H7 hs7 s7 s57 e7 hl7 u7 => ?_
            exact ⟨_, _, hs7, rfl, s7, s45.trans s57, e7, hl7, by simpa only [accL, List.append_nil, List.append_assoc] using u7⟩
          | 1, _, ey =>
            cases ey
            refine ⟨t1, _, rfl, SqT.of (s45.tk hl4 _ _ T1), rfl, _, _, rfl, _, _, rfl, rfl, ?_⟩
            refine ⟨_, rfl, o, dx, _, rfl, ho, rf_no _ (by decide +kernel), _, rfl, _, rfl, ad, _, _, v2, rfl, rfl, SqT.of hc, atI_nat (j := 2) rfl, _, rfl, _, rfl, ad, _, _, v3, rfl, rfl, SqT.of hc, atI_nat (j := 3) rfl, by show 2 ≤ sizeLine; decide, fun u0 m0 => ?_⟩
            refine ⟨by show 2 ≤ sizeLine; decide, fun u1 m1 => ⟨by show 2 ≤ sizeLine; decide, fun u2 m2 => ?_⟩⟩
            have c0 := same_new m0 (.tup [V.int 1, V.int 0])
            have c1 := same_new m1 (.tup [V.int 3, V.int 2])
            have c2 := same_new m2 (.tup [V.ref u0, V.ref u1])
            dsimp only [tNil, List.append_nil]
            refine call true hs' _ v2 v3 A2 A3 _ s5 hl5 hlen us h3 h4 k3 k4 l3 l4 u0 u1 u2 _ (c0.trans (c1.trans c2)) upd_same (c2 _ _ (c1 _ _ upd_same)) (c2 _ _ upd_same) _ fun H7 hs7 s7 s57 e7 hl7 u7 => ?_
            exact ⟨_, _, hs7, rfl, s7, s45.trans s57, e7, hl7, by simpa only [accL, List.append_nil, List.append_assoc] using u7⟩
        rintro σ H2 ⟨y3, y4, hs2, rfl, s2, _, hl2, hlen2, us2⟩
        -- the second loop
        refine ⟨by show 2 ≤ sizeLine; decide, fun t3 n3 => ?_⟩
        have y0 := same_new n3 (.tup [V.int 0, V.int 2])
        refine ⟨by show 2 ≤ sizeLine; decide, fun t4 n4 => ?_⟩
        have y1 := same_new n4 (.tup [V.int 1, V.int 3])
        refine ⟨by show 2 ≤ sizeLine; decide, fun t5 n5 => ?_⟩
        have y2 := same_new n5 (.tup [V.ref t3, V.ref t4])
        have Y0 := y2 _ _ (y1 _ _ (upd_same (H := H2) (a := t3) (o := .tup [V.int 0, V.int 2])))
        have Y1 := y2 _ _ (upd_same (H := upd H2 t3 (.tup [V.int 0, V.int 2])) (a := t4) (o := .tup [V.int 1, V.int 3]))
        have Y2 : upd (upd (upd H2 t3 (.tup [V.int 0, V.int 2])) t4 (.tup [V.int 1, V.int 3])) t5 (.tup [V.ref t3, V.ref t4]) t5 = some (.tup [V.ref t3, V.ref t4]) := upd_same
        have s23 := y0.trans (y1.trans y2)
        generalize upd (upd (upd H2 t3 (.tup [V.int 0, V.int 2])) t4 (.tup [V.int 1, V.int 3])) t5 (.tup [V.ref t3, V.ref t4]) = H3 at Y0 Y1 Y2 s23
        have s3 : SameB l H H3 := s2.trans (Same.b s23 l)
        have hl3 := s23 _ _ hl2
        generalize eE2 : E1 ++ accL (acr true n A0 A1) (acr true n A2 A3) [] [] [V.ref t0, V.ref t1].length = E2 at us2
        refine ⟨t5, rfl, ⟨_, SqT.of Y2⟩, for_it (walk_tup (K := K) (a := t5) (xs := [V.ref t3, V.ref t4])) (fun i σ H5 => ∃ (x y' : Option V) (hs' : List Nat), σ = [some (.ref o), some (.ref ad), y, x, y'] ∧ SameB l H H5 ∧ SameB l H3 H5 ∧ H5 l = some (.lst (nl hs')) ∧ hs'.length = hs.length ∧
            US hs' (E2 ++ accL (acr false n A0 A2) (acr false n A1 A3) [] [] i))
          ⟨y3, y4, hs2, rfl, s3, SameB.refl _ _, hl3, hlen2, by simp only [accL, List.append_nil]; exact us2⟩ (fun i σ H5 _ ⟨_, _, _, _, _, s5, _⟩ => SqT.of (s5.tk hl3 _ _ Y2)) ?_ ?_⟩
        · rintro i x σ H5 H6 hi ⟨_, _, hs', rfl, s5, s45, hl5, hlen, us⟩ ⟨rfl, ey⟩
          obtain ⟨ho, hc⟩ := hRn _ s5
          match i, hi, ey with
          | 0, _, ey =>
            cases ey
            refine ⟨t3, _, rfl, SqT.of (s45.tk hl3 _ _ Y0), rfl, _, _, rfl, _, _, rfl, rfl, ?_⟩
            refine ⟨_, rfl, o, dx, _, rfl, ho, rf_no _ (by decide +kernel), _, rfl, _, rfl, ad, _, _, v0, rfl, rfl, SqT.of hc, atI_nat (j := 0) rfl, _, rfl, _, rfl, ad, _, _, v2, rfl, rfl, SqT.of hc, atI_nat (j := 2) rfl, by show 2 ≤ sizeLine; decide, fun u0 m0 => ?_⟩
            refine ⟨by show 2 ≤ sizeLine; decide, fun u1 m1 => ⟨by show 2 ≤ sizeLine; decide, fun u2 m2 => ?_⟩⟩
            have c0 := same_new m0 (.tup [V.int 2, V.int 0])
            have c1 := same_new m1 (.tup [V.int 3, V.int 1])
            have c2 := same_new m2 (.tup [V.ref u0, V.ref u1])
            dsimp only [tNil, List.append_nil]
            refine call false hs' _ v0 v2 A0 A2 _ s5 hl5 hlen us h1 h3 k1 k3 l1 l3 u0 u1 u2 _ (c0.trans (c1.trans c2)) upd_same (c2 _ _ (c1 _ _ upd_same)) (c2 _ _ upd_same) _ fun H7 hs7 s7 s57 e7 hl7 u7 => ?_
            exact ⟨_, _, hs7, rfl, s7, s45.trans s57, e7, hl7, by simpa only [accL, List.append_nil, List.append_assoc] using u7⟩
          | 1, _, ey =>
            cases ey
            refine ⟨t4, _, rfl, SqT.of (s45.tk hl3 _ _ Y1), rfl, _, _, rfl, _, _, rfl, rfl, ?_⟩
            refine ⟨_, rfl, o, dx, _, rfl, ho, rf_no _ (by decide +kernel), _, rfl, _, rfl, ad, _, _, v1, rfl, rfl, SqT.of hc, atI_nat (j := 1) rfl, _, rfl, _, rfl, ad, _, _, v3, rfl, rfl, SqT.of hc, atI_nat (j := 3) rfl, by show 2 ≤ sizeLine; decide, fun u0 m0 => ?_⟩
            refine ⟨by show 2 ≤ sizeLine; decide, fun u1 m1 => ⟨by show 2 ≤ sizeLine; decide, fun u2 m2 => ?_⟩⟩
            have c0 := same_new m0 (.tup [V.int 2, V.int 0])
            have c1 := same_new m1 (.tup [V.int 3, V.int 1])
            have c2 := same_new m2 (.tup [V.ref u0, V.ref u1])
            dsimp only [tNil, List.append_nil]
            refine call false hs' _ v1 v3 A1 A3 _ s5 hl5 hlen us h2 h4 k2 k4 l2 l4 u0 u1 u2 _ (c0.trans (c1.trans c2)) upd_same (c2 _ _ (c1 _ _ upd_same)) (c2 _ _ upd_same) _ fun H7 hs7 s7 s57 e7 hl7 u7 => ?_
            exact ⟨_, _, hs7, rfl, s7, s45.trans s57, e7, hl7, by simpa only [accL, List.append_nil, List.append_assoc] using u7⟩
        rintro σ H5 ⟨_, _, hs', rfl, s5, _, hl5, hlen, us⟩
        refine q _ hs' s5 hl5 hlen ?_
        rw [← eE2, ← eE1] at us
        simpa only [accL, List.length_cons, List.length_nil, Nat.zero_add, Nat.reduceAdd, List.append_nil, List.append_assoc] using us
end
end Pl

namespace Pl
open PySem PySem.Spec PyProof.Rows L2
section
variable {P : Program} {w : World} {K : PySem.W.Frag} {mg : Str → Option Value} {base : Heap} {C : Addr}
theorem blk_cnt : ∀ S : Pic, blk S ≤ cnt S
  | .leaf b => by cases b <;> simp [blk, cnt, b2n]
  | .node p q r s => by
    have h1 := blk_cnt p
    have h2 := blk_cnt q
    have h3 := blk_cnt r
    have h4 := blk_cnt s
    simp only [blk, cnt]
    omega
def fl (hs : List Nat) (j : Nat) : List Nat := (List.range j).filter fun i => decide (hs[i]? = some i)
theorem fl_succ (hs : List Nat) (j : Nat) : fl hs (j + 1) = fl hs j ++ if hs[j]? = some j then [j] else [] := by
  rw [fl, fl, List.range_succ, List.filter_append]
  refine congrArg _ ?_
  rw [List.filter_cons, List.filter_nil]
  by_cases h : hs[j]? = some j
  · rw [if_pos h, if_pos (decide_eq_true h)]
  · rw [if_neg h, if_neg (by rw [decide_eq_false h]; decide)]
theorem fl_len (hs : List Nat) (j : Nat) : (fl hs j).length ≤ j := by
  have := List.length_filter_le (fun i => decide (hs[i]? = some i)) (List.range j)
  rw [List.length_range] at this
  exact this
def spRegions : Sp := fun vs H Q _ => ∃ (n : Nat) (v : V) (S : Pic), vs = [.int (n : Int), v] ∧ PicAt H v S ∧ Asked n S ∧ ∀ (c : Nat) H', Same H H' → NCl (blk S) (wit n (nam S 0)) c → Q (.int (c : Int)) H'
theorem scRegions : FnScope ["figures", "picture", "joiner", "number"] ["figures", "picture"] (defScope sRegions) := ⟨rfl, rfl, rfl, by decide +kernel, rfl, by decide +kernel, by decide +kernel⟩
theorem ok_regions (a : At K mg "regions" sRegions) (T : Bi mg) (cl : Cls K C) (na : NoAttr K C "heads") (rf_ : CRF P w K mg base) (rp : CRP P w K mg base) (ri : CanC P w K mg base 1 "Regions" C (spRInit C)) (nm : CanM P w K mg base 41 C "named" ["self", "picture"] (spNamed C 41))
    (jw : CanM P w K mg base 83 C "join_within" ["self", "cells"] (spJW C 41)) : Can P w K mg base 84 "regions" ["figures", "picture"] spRegions := by
  refine a.can scRegions (fun vs H Q E h => ?_) (fun _ _ _ _ _ _ us hl => match us, hl with | [_, _], _ => rfl) (fun f cdv A outer s H vs Q E hr h => ?_)
  · obtain ⟨n, v, S, rfl, _⟩ := h
    rfl
  · obtain ⟨n, v, S, rfl, hP, ha, q⟩ := h
    refine ⟨_, pss_cons (ps_expr (pe_can rf_ (hr.mono (by decide)) (pa_cons (pv 0) pa_nil))) (pss_cons (ps_expr (pe_can rp (hr.mono (by decide)) (pa_cons (pv 0) (pa_cons (pv 1) pa_nil))))
      (pss_cons (ps_set (i := 2) scRegions.nd rfl (Or.inr rfl) (pe_canC ri (hr.mono (by decide))))
      (pss_cons (ps_expr (pe_canM jw cl hr (pv 2) (pa_cons (pe_canM nm cl (hr.mono (by decide)) (pv 2) (pa_cons (pv 1) pa_nil)) pa_nil)))
      (pss_one (ps_ret (pe_callB call_len_seq (by rfl) T.len PySem.boot_len (pa_cons (pe_lc (own := [("number", 3)]) (g := gName 3) (tt := tB (tOp rEq (tOp (rIxL K) (tFld K (tVar 2) "heads") (tVar 3)) (tVar 3))) rfl scRegions.nd
          (pi_range1 (by rfl) T.range (pa_cons (pe_callB call_len_seq (by rfl) T.len PySem.boot_len (pa_cons (pe_fld (pv 2) rfl) pa_nil)) pa_nil))
          (blkOk_by (own := [("number", 3)]) (N := ["figures", "picture", "joiner", "number"]) (sc := defScope sRegions) (by decide +kernel)) (fun _ _ _ _ _ => pg_name (i := 3) scRegions.nd rfl (Or.inl rfl))
          (fun _ _ _ _ _ => pts_one (pt_cmpR op_eq (pe_ix (show IxR _ (rIxL K) from ix_list) (pe_fld (pv 2) rfl) (pv 3) (fun _ _ => rfl)) (pv 3) (nomark _)))
          (fun _ _ _ _ _ => pv 3)) pa_nil))))))), ?_⟩
    refine ⟨_, rfl, n, rfl, ha.2.1, _, rfl, _, rfl, n, v, S, rfl, hP, ha.1, ha.2.1, ha.2.2, fun H2 s2 => ?_⟩
    intro x dx nx ndx nex
    have s3 : Same H (upd (upd H2 dx (.own x)) x (.ins C dx [])) := fun b o e => by
      have e2 := s2 _ _ e
      rw [upd_ne (ne_of_none e2 nx), upd_ne (ne_of_none e2 ndx)]
      exact e2
    have xH : H x = none := by
      cases z : H x with
      | none => rfl
      | some o => rw [s2 _ _ z] at nx; cases nx
    refine ⟨x, dx, rfl, upd_same, fun l hl => ⟨rfl, ?_⟩⟩
    have lH : H l = none := by
      cases z : H l with
      | none => rfl
      | some o => rw [s3 _ _ z] at hl; cases hl
    have hxl : l ≠ x := fun e => by rw [e, upd_same] at hl; cases hl
    generalize upd (upd H2 dx (.own x)) x (.ins C dx []) = H3 at s3 hl
    have s5 : Same H (upd (upd H3 l (.lst [])) x (.ins C dx (rf l))) := fun b o e => by
      rw [upd_ne (ne_of_none e xH), upd_ne (ne_of_none e lH)]
      exact s3 _ _ e
    have R5 : RAt (upd (upd H3 l (.lst [])) x (.ins C dx (rf l))) C x dx l (List.range 0) := ⟨upd_same, by rw [upd_ne hxl]; exact upd_same⟩
    generalize upd (upd H3 l (.lst [])) x (.ins C dx (rf l)) = H5 at s5 R5
    have hcS := blk_cnt S
    have hc4 := ha.2.2
    refine ⟨_, rfl, x, dx, _, rfl, R5.o, rf_no _ (by decide +kernel), _, rfl, x, dx, _, rfl, R5.o, rf_no _ (by decide +kernel), _, rfl, ?_⟩
    refine ⟨x, dx, l, v, S, 0, rfl, R5, hP.mono (Same.tk s5), ha.dp, by omega, fun v' H6 s6 hl6 hN => ?_⟩
    have R6 := R5.next s6 hl6
    rw [Nat.zero_add] at hl6 R6
    dsimp only [tNil, List.append_nil]
    refine ⟨x, dx, l, _, [], n, v', nam S 0, rfl, R6, US.start _, hN, nok_nam 0 (wf_dok _ _ ha.1), nlt_nam (by rw [List.length_range]; omega), by have := ha.2.1; omega, by have := ha.2.1; omega, fun H7 hs7 s7 hl7 hlen7 u7 => ?_⟩
    have R7 := R6.next s7 hl7
    have s57 : Same H H7 := fun b o e => (s6.trans s7) _ _ (ne_of_none e lH) (s5 _ _ e)
    rw [List.length_range] at hlen7
    refine ⟨_, rfl, x, C, dx, _, _, rfl, R7.o, cl, na, rf_look l, l, _, rfl, .inl (SqL.of hl7), _, rfl, by omega, by rw [nl_len]; omega, ?_⟩
    intro D hD
    have eN : (((nl hs7).length : Nat) : Int).toNat = hs7.length := by rw [nl_len]; omega
    rw [eN]
    refine lc_it walk_range (fun j H => H D = some (.lst (nl (fl hs7 j))) ∧ Same H7 H) ⟨upd_same, same_new hD _⟩ (fun _ _ _ _ => trivial) (fun j y H8 H9 hj h hy => ?_) (fun H8 h => ?_)
    · obtain ⟨rfl, ey⟩ := hy
      replace ey : y = V.int (j : Int) := by
        rw [ey]
        show V.int (0 + (j : Int)) = _
        rw [Int.zero_add]
      subst ey
      obtain ⟨hD8, s8⟩ := h
      refine ⟨wipe_set1, ?_⟩
      have e7 : hs7[j]? = some hs7[j] := List.getElem?_eq_getElem hj
      generalize hs7[j] = g at e7
      have R8 := R7.same s8
      refine ⟨_, rfl, x, C, dx, _, _, rfl, R8.o, cl, na, rf_look l, _, rfl, l, _, _, .int (g : Int), rfl, rfl, SqL.of R8.l, ?_, _, rfl, rfl, decide (g = j), ?_, ?_⟩
      · exact atI_nat (nl_at e7)
      · refine congrArg V.bl ?_
        rw [decide_eq_decide]
        exact ⟨fun z => by injection z with z; omega, fun z => by rw [z]⟩
      · by_cases hg : g = j
        · rw [decide_eq_true hg]
          subst hg
          refine iteT (B := False) ⟨_, rfl, _, hD8, by rw [nl_len, sizeLine_eq]; have := fl_len hs7 g; omega, ?_, ?_⟩
          · rw [fl_succ, if_pos e7, nl, nl, List.map_append]
            exact upd_same
          · exact same_list hD s8
        · rw [decide_eq_false hg]
          refine iteF ?_
          refine ⟨?_, s8⟩
          rw [fl_succ, if_neg (by rw [e7]; intro z; injection z with z; exact hg z), List.append_nil]
          exact hD8
    · obtain ⟨hD8, s8⟩ := h
      refine ⟨D, _, rfl, .inl (SqL.of hD8), ?_⟩
      rw [nl_len]
      have := u7.count
      rw [hlen7, List.nil_append] at this
      rw [hlen7]
      exact q _ _ (s57.trans s8) this
end
end Pl

namespace Pl
open PySem PySem.Spec PyProof.Rows L2
abbrev sPicture : Stmt := top 52
/-! ## Comprehensions over places -/
/-- some of them -/
theorem lc_filtP {K : PySem.W.Frag} {a : Addr} {xs : List V} {ps : List Pt} {tt : TT} {te : TE} {i : Nat} {σ : L2.St} {H1 : Hp} {D : Addr} {Qd : Hp → Prop} (f : Pt → Bool)
    (hD : H1 D = none) (hT : H1 a = some (.lst xs)) (hp : PtsAt H1 xs ps) (hz : xs.length ≤ 10000)
    (ht : ∀ (x : V) (p : Pt) (H : Hp) (k : Bool → Hp → Prop), PtAt H x p → p ∈ ps → Same H1 H → k (f p) H → tt ((wipe σ [i]).set i (some x)) H k)
    (hs : ∀ (x : V) (H : Hp) (k : V → Hp → Prop), k x H → te ((wipe σ [i]).set i (some x)) H k)
    (hd : ∀ (H : Hp) (ys : List V), Same H1 H → H D = some (.lst ys) → PtsAt H ys (ps.filter f) → Qd H) :
    ∃ W : Nat → Nat → Hp → Prop, (∃ m, W 0 m (upd H1 D (.lst []))) ∧ ∀ i' m H, W i' m H →
      ((Itl K a).stop i' H ∧ Qd H) ∨ ((Itl K a).go i' H ∧ ∃ Nx : Hp → Prop, (∀ H', Nx H' → ∃ m', m' < m ∧ W (i' + 1) m' H') ∧ ∀ x H', (Itl K a).yld i' H x H' → gName i x (wipe σ [i]) H' fun σ2 H2 => wipe σ2 [i] = wipe σ [i] ∧ tt σ2 H2 fun b H3 =>
        if b = true then te σ2 H3 fun y H4 => ∃ acc, H4 D = some (.lst acc) ∧ acc.length < sizeLine ∧ Nx (upd H4 D (.lst (acc ++ [y]))) else Nx H3) := by
  have hl := hp.len
  refine lc_list (xs := xs) (fun j H => ∃ acc : List V, H D = some (.lst acc) ∧ acc.length ≤ j ∧ Same H1 H ∧ PtsAt H acc ((ps.take j).filter f)) ⟨[], upd_same, Nat.le_refl _, same_new hD _, by rw [List.take_zero]; exact trivial⟩ (fun j H _ h => ?_) (fun j x H hx h => ?_) (fun H h => ?_)
  · obtain ⟨acc, _, _, s, _⟩ := h
    exact SqL.of (s _ _ hT)
  · obtain ⟨acc, hacc, hlen, s, hP⟩ := h
    have hj := (List.getElem?_eq_some_iff.mp hx).1
    obtain ⟨p, hpj, hpx⟩ := hp.at hx
    refine ⟨wipe_set1, ht x p H _ (hpx.mono (Same.tk s)) (List.mem_of_getElem? hpj) s ?_⟩
    have etk : ps.take (j + 1) = ps.take j ++ [p] := by rw [List.take_add_one, hpj]; rfl
    cases ef : f p with
    | true =>
      refine iteT (hs x H _ ⟨acc, hacc, by rw [sizeLine_eq]; omega, acc ++ [x], upd_same, by rw [List.length_append, List.length_singleton]; omega, same_list hD s, ?_⟩)
      have tk := tk_list (ys := acc ++ [x]) hacc
      rw [etk, List.filter_append, List.filter_cons, ef, if_pos rfl, List.filter_nil]
      exact PtsAt.snoc ((hpx.mono (Same.tk s)).mono tk) (hP.mono tk)
    | false =>
      refine iteF ⟨acc, hacc, by omega, s, ?_⟩
      rw [etk, List.filter_append, List.filter_cons, ef, if_neg (by decide), List.filter_nil, List.append_nil]
      exact hP
  · obtain ⟨acc, hacc, hlen, s, hP⟩ := h
    rw [hl, List.take_length] at hP
    exact hd H acc s hacc hP
/-- each becomes a place -/
theorem lc_mapP {K : PySem.W.Frag} {a : Addr} {xs : List V} {ps : List Pt} {te : TE} {i : Nat} {σ : L2.St} {H1 : Hp} {D : Addr} {Qd : Hp → Prop} (f : Pt → Pt)
    (hD : H1 D = none) (hT : H1 a = some (.lst xs)) (hp : PtsAt H1 xs ps) (hz : xs.length ≤ 10000)
    (hs : ∀ (x : V) (p : Pt) (H : Hp) (k : V → Hp → Prop), PtAt H x p → p ∈ ps → Same H1 H → (∀ y H', Same H H' → PtAt H' y (f p) → k y H') → te ((wipe σ [i]).set i (some x)) H k)
    (hd : ∀ (H : Hp) (ys : List V), Same H1 H → H D = some (.lst ys) → PtsAt H ys (ps.map f) → Qd H) :
    ∃ W : Nat → Nat → Hp → Prop, (∃ m, W 0 m (upd H1 D (.lst []))) ∧ ∀ i' m H, W i' m H →
      ((Itl K a).stop i' H ∧ Qd H) ∨ ((Itl K a).go i' H ∧ ∃ Nx : Hp → Prop, (∀ H', Nx H' → ∃ m', m' < m ∧ W (i' + 1) m' H') ∧ ∀ x H', (Itl K a).yld i' H x H' → gName i x (wipe σ [i]) H' fun σ2 H2 => wipe σ2 [i] = wipe σ [i] ∧ tYes σ2 H2 fun b H3 =>
        if b = true then te σ2 H3 fun y H4 => ∃ acc, H4 D = some (.lst acc) ∧ acc.length < sizeLine ∧ Nx (upd H4 D (.lst (acc ++ [y]))) else Nx H3) := by
  have hl := hp.len
  refine lc_list1 (fun j y H => ∀ p, ps[j]? = some p → PtAt H y (f p)) (fun _ _ _ _ k h p e => (h p e).mono k) hD hT hz (fun j x H k hx s hk => ?_) (fun H ys s hDl hlen hys => ?_)
  · obtain ⟨p, hpj, hpx⟩ := hp.at hx
    exact hs x p H k (hpx.mono (Same.tk s)) (List.mem_of_getElem? hpj) s fun y H' s' r => hk y H' s' fun q e => by rw [hpj] at e; cases e; exact r
  · refine hd H ys s hDl (PtsAt.of_idx (by rw [List.length_map, hlen, hl]) fun j x hx q eq => ?_)
    rw [List.getElem?_map] at eq
    obtain ⟨p, hpj, rfl⟩ := Option.map_eq_some_iff.mp eq
    exact hys j x hx p hpj
theorem Same.back {H H' : Hp} (s : Same H H') {p : Addr} (e : H' p = none) : H p = none := by
  cases z : H p with
  | none => rfl
  | some o => rw [s _ _ z] at e; cases e
theorem pow40' {n : Nat} (h : n ≤ 40) : (2 : Int) ^ n ≤ 1099511627776 := by
  have h1 : (2 : Nat) ^ n ≤ 1099511627776 := Nat.le_trans (Nat.pow_le_pow_right (by decide) h) (by decide)
  have h2 : ((2 ^ n : Nat) : Int) = 2 ^ n := by simp
  omega
/-! ## _law_picture, as it goes -/
def sh (n i : Nat) (p : Pt) : Pt := (p.1 - 2 ^ n * ((i : Int) % 2), p.2 - 2 ^ n * ((i : Int) / 2))
def cut (n : Nat) (ps : List Pt) (i : Nat) : List Pt := (ps.map (sh n i)).filter (inq n)
def pic : Nat → List Pt → Pic
  | 0, ps => .leaf (!ps.isEmpty)
  | n + 1, ps => if ps = [] ∨ ps.length = 2 ^ (2 * (n + 1)) then .leaf (!ps.isEmpty) else .node (pic n (cut n ps 0)) (pic n (cut n ps 1)) (pic n (cut n ps 2)) (pic n (cut n ps 3))
/-- places of a square, each once -/
structure Spots (n : Nat) (ps : List Pt) : Prop where
  nd : ps.Nodup
  inn : ∀ p ∈ ps, inq n p = true
theorem sh_inj {n i : Nat} {p q : Pt} (h : sh n i p = sh n i q) : p = q := by
  have h1 := congrArg Prod.fst h
  have h2 := congrArg Prod.snd h
  simp only [sh] at h1 h2
  exact Prod.ext (by omega) (by omega)
theorem Spots.cut {n : Nat} {ps : List Pt} (h : Spots (n + 1) ps) (i : Nat) : Spots n (cut n ps i) where
  nd := by
    refine List.Pairwise.filter _ ?_
    rw [List.pairwise_map]
    exact List.Pairwise.imp (fun hne e => hne (sh_inj e)) h.nd
  inn := fun p hp => (List.mem_filter.mp hp).2
theorem cut_len (n : Nat) (ps : List Pt) (i : Nat) : (cut n ps i).length ≤ ps.length := by
  have := List.length_filter_le (inq n) (ps.map (sh n i))
  rw [List.length_map] at this
  exact this
theorem Spots.zero {ps : List Pt} (h : Spots 0 ps) : ps.length ≤ 1 := by
  match ps, h with
  | [], _ => exact Nat.zero_le _
  | [_], _ => exact Nat.le_refl _
  | p :: q :: r, h =>
    exfalso
    have h1 := h.inn p (by simp)
    have h2 := h.inn q (by simp)
    have h3 := h.nd
    simp only [inq, Bool.and_eq_true, decide_eq_true_eq, Int.pow_zero] at h1 h2
    rw [List.nodup_cons] at h3
    exact h3.1 (List.mem_cons.mpr (.inl (Prod.ext (by omega) (by omega))))
section
variable {P : Program} {w : World} {K : PySem.W.Frag} {mg : Str → Option Value} {base : Heap} {C : Addr}
def spPicture (d : Nat) : Sp := fun vs H Q _ => ∃ (n : Nat) (l : Addr) (ps : List Pt), vs = [.int (n : Int), .ref l] ∧ LPts H l ps ∧ Spots n ps ∧ ps.length ≤ 1000 ∧ n ≤ 40 ∧ n < d ∧ ∀ v' H', Same H H' → PicAt H' v' (pic n ps) → Q v' H'
theorem scPicture : FnScope ["_law_size", "_law_spots", "_law_half", "_law_parts", "_law_number", "_law_x", "_law_y", "_law_mine", "_law_one"] ["_law_size", "_law_spots"] (defScope sPicture) := ⟨rfl, rfl, rfl, by decide +kernel, rfl, by decide +kernel, by decide +kernel⟩
theorem ok_picture (a : At K mg "_law_picture" sPicture) (T : Bi mg) : ∀ d, Can P w K mg base (d + 1) "_law_picture" ["_law_size", "_law_spots"] (spPicture d)
  | 0 => (a.zero (fun _ _ _ _ _ _ us hl => match us, hl with | [_, _], _ => rfl) fun vs H Q E ⟨_, _, _, _, _, _, _, _, h, _⟩ => absurd h (Nat.not_lt_zero _)).mono (Nat.zero_le _)
  | d + 1 => by
    have c := ok_picture a T d
    refine a.can scPicture (fun vs H Q E h => ?_) (fun _ _ _ _ _ _ us hl => match us, hl with | [_, _], _ => rfl) (fun f cdv A outer s H vs Q E hr h => ?_)
    · obtain ⟨n, l, ps, rfl, _⟩ := h
      rfl
    · obtain ⟨n, l, ps, rfl, hL, hok, hlen, h40, hd, q⟩ := h
      have hr1 : Room 1 _ := hr.mono (by omega)
      refine ⟨_, pss_cons (ps_if (PW.pt (pw_or (pt_cmpR (op_eqM hr.units) (pv 1) (pe_lst pa_nil) (nomark _)) (pw_or1 (pt_cmpR op_eq (pe_callB call_len_seq (by rfl) T.len PySem.boot_len (pa_cons (pv 1) pa_nil)) (pe_op op_shl pe_int (pe_op op_mul pe_int (pv 0))) (nomark _)))))
          (pss_one (ps_ret (pe_callTy call_int1 (by rfl) T.int (by decide +kernel) (pa_cons (pe_cmpR (op_neM hr.units) (pv 1) (pe_lst pa_nil) (nomark _)) pa_nil)))) pss_nil)
        (pss_cons (ps_asg (pe_tup (pa_cons (pe_op op_shl pe_int (pe_op op_sub (pv 0) pe_int)) (pa_cons (pe_lst pa_nil) pa_nil)))
            (pg_tup rfl (pgs_cons (pg_name (i := 2) scPicture.nd rfl (Or.inr rfl)) (pgs_cons (pg_name (i := 3) scPicture.nd rfl (Or.inl rfl)) pgs_nil))))
        (pss_cons (ps_for PassesOwn.never rfl (pi_tup (pe_tup (pa_cons pe_int (pa_cons pe_int (pa_cons pe_int (pa_cons pe_int pa_nil)))))) (pg_name (i := 4) scPicture.nd rfl (Or.inl rfl))
            (pss_cons (ps_asg (pe_tup (pa_cons (pe_op op_mul (pv 2) (pe_op op_mod (pe_callTy call_int1 (by rfl) T.int (by decide +kernel) (pa_cons (pv 4) pa_nil)) pe_int)) (pa_cons (pe_op op_mul (pv 2) (pe_op op_fdiv (pv 4) pe_int)) pa_nil)))
              (pg_tup rfl (pgs_cons (pg_name (i := 5) scPicture.nd rfl (Or.inr rfl)) (pgs_cons (pg_name (i := 6) scPicture.nd rfl (Or.inr rfl)) pgs_nil))))
            (pss_cons (ps_setLc (i := 7) (own := [("_law_one", 8)]) (g := gName 8) (tt := tYes) rfl scPicture.nd rfl rfl (sw_true rfl rfl rfl (by decide +kernel)) (pi_list (pv 1))
              (blkOk_by (own := [("_law_one", 8)]) (N := ["_law_size", "_law_spots", "_law_half", "_law_parts", "_law_number", "_law_x", "_law_y", "_law_mine", "_law_one"]) (sc := defScope sPicture) (by decide +kernel)) (fun _ _ _ _ _ => pg_name (i := 8) scPicture.nd rfl (Or.inl rfl)) (fun _ _ _ _ _ => pts_nil)
              (fun _ _ _ _ _ => pe_tup (pa_cons (pe_op op_sub (pe_ix (show IxR _ (rIxT K) from ix_tup) (pv 8) pe_int (fun _ _ => rfl)) (pv 5)) (pa_cons (pe_op op_sub (pe_ix (show IxR _ (rIxT K) from ix_tup) (pv 8) pe_int (fun _ _ => rfl)) (pv 6)) pa_nil))))
            (pss_cons (ps_setLc (i := 7) (own := [("_law_one", 8)]) (g := gName 8) rfl scPicture.nd rfl rfl (sw_true rfl rfl rfl (by decide +kernel)) (pi_list (pv 7))
              (blkOk_by (own := [("_law_one", 8)]) (N := ["_law_size", "_law_spots", "_law_half", "_law_parts", "_law_number", "_law_x", "_law_y", "_law_mine", "_law_one"]) (sc := defScope sPicture) (by decide +kernel)) (fun _ _ _ _ _ => pg_name (i := 8) scPicture.nd rfl (Or.inl rfl))
              (fun _ _ _ _ _ => pts_one (PW.pt (pw_and (pt_chain op_le op_lt pe_int (pe_ix (show IxR _ (rIxT K) from ix_tup) (pv 8) pe_int (fun _ _ => rfl)) (pv 2)) (pw_and1 (pt_chain op_le op_lt pe_int (pe_ix (show IxR _ (rIxT K) from ix_tup) (pv 8) pe_int (fun _ _ => rfl)) (pv 2))))))
              (fun _ _ _ _ _ => pv 8))
            (pss_one (ps_expr (pe_bm PySem.F.plainAttrs_list PySem.F.slot_list_append PySem.F.type_list_append mt_append (pv 3) (pa_cons (pe_can c hr (pa_cons (pe_op op_sub (pv 0) pe_int) (pa_cons (pv 7) pa_nil))) pa_nil))))))))
        (pss_one (ps_ret (pe_callTy call_tuple_of (by rfl) T.tuple (by decide +kernel) (pa_cons (pv 3) pa_nil)))))), ?_⟩
      have eq1 : ∀ (H' : Hp), Same H H' → pic n ps = .leaf (!ps.isEmpty) → Q (.int (if (!ps.isEmpty) = true then 1 else 0)) H' := fun H' s' e => q _ _ s' (by rw [e]; rfl)
      refine ⟨_, rfl, Nat.zero_le _, fun u hu => nil_read (hL.mono (same_new hu _)) upd_same ⟨_, rfl, ?_⟩⟩
      have s1 := same_new hu (.lst [])
      have lastT : pic n ps = .leaf (!ps.isEmpty) → ∀ H1, Same H H1 → ∀ (R : V → Hp → Prop), (∀ H', Same H1 H' → R (.int (if (!ps.isEmpty) = true then 1 else 0)) H') → ∀ u2, H1 u2 = none → rNeM K (.ref l) (.ref u2) (upd H1 u2 (.lst []))
          (fun x H2 => (∃ i, [x] = [V.int i] ∧ R (.int i) H2) ∨ ∃ k, [x] = [V.bl k] ∧ R (.int (if k = true then 1 else 0)) H2) := fun e H1 s R hR u2 hu2 =>
        nnil_read (hL.mono (s.trans (same_new hu2 _))) upd_same (.inr ⟨_, rfl, hR _ (same_new hu2 _)⟩)
      by_cases c0 : ps = []
      · have e0 : pic n ps = .leaf (!ps.isEmpty) := by
          cases n with
          | zero => rfl
          | succ n => simp only [pic]; rw [if_pos (.inl c0)]
        rw [show ps.isEmpty = true by rw [c0]; rfl]
        refine iteT (iteT ⟨_, rfl, Nat.zero_le _, fun u2 hu2 => ?_⟩)
        exact lastT e0 _ s1 _ (fun H' s' => eq1 _ (s1.trans s') e0) u2 hu2
      · rw [show ps.isEmpty = false by cases ps with | nil => exact absurd rfl c0 | cons _ _ => rfl]
        refine iteF ?_
        obtain ⟨xs, hxs, hpts⟩ := hL.mono s1
        have hxl := hpts.len
        have e2n : (1 : Int) * 2 ^ (2 * (n : Int)).toNat = ((2 ^ (2 * n) : Nat) : Int) := by
          rw [show (2 * (n : Int)).toNat = 2 * n by omega, Int.one_mul]
          simp
        refine ⟨_, rfl, l, _, rfl, .inl (SqL.of hxs), _, rfl, _, _, rfl, rfl, .inl ⟨by decide, by decide⟩, _, _, rfl, rfl, ⟨by omega, by omega, by decide⟩, rfl, decide (ps.length = 2 ^ (2 * n)), ?_, ?_⟩
        · refine congrArg V.bl ?_
          rw [decide_eq_decide]
          show V.int (xs.length : Int) = V.int ((1 : Int) * 2 ^ (2 * (n : Int)).toNat) ↔ _
          rw [e2n, hxl]
          exact ⟨fun z => by injection z with z; exact_mod_cast z, fun z => by rw [z]⟩
        by_cases c1 : ps.length = 2 ^ (2 * n)
        · rw [decide_eq_true c1]
          have e0 : pic n ps = .leaf (!ps.isEmpty) := by
            cases n with
            | zero => rfl
            | succ n => simp only [pic]; rw [if_pos (.inr c1)]
          refine iteT ⟨_, rfl, Nat.zero_le _, fun u2 hu2 => ?_⟩
          exact lastT e0 _ s1 _ (fun H' s' => eq1 _ (s1.trans s') e0) u2 hu2
        · rw [decide_eq_false c1]
          refine iteF ?_
          cases n with
          | zero =>
            exfalso
            have h1 : ps.length ≤ 1 := hok.zero
            have h2 : ps.length ≠ 0 := fun e => c0 (List.eq_nil_of_length_eq_zero e)
            simp at c1
            omega
          | succ n =>
          have eb : pic (n + 1) ps = .node (pic n (cut n ps 0)) (pic n (cut n ps 1)) (pic n (cut n ps 2)) (pic n (cut n ps 3)) := by
            simp only [pic]
            rw [if_neg (by rintro (e | e); exact c0 e; exact c1 e)]
          rw [eb] at q
          have en : ((n + 1 : Nat) : Int) - 1 = (n : Int) := by omega
          have e2 : (1 : Int) * 2 ^ (((n + 1 : Nat) : Int) - 1).toNat = 2 ^ n := by rw [en, Int.toNat_natCast, Int.one_mul]
          refine ⟨_, rfl, _, _, rfl, rfl, _, _, rfl, rfl, ⟨by omega, by omega, by decide⟩, Nat.zero_le _, fun Pp fP => ⟨by show 2 ≤ sizeLine; decide, fun tt ft => ?_⟩⟩
          have t1 := same_new fP (.lst [])
          have t2 := same_new ft (.tup [V.int ((1 : Int) * 2 ^ (((n + 1 : Nat) : Int) - 1).toNat), V.ref Pp])
          refine ⟨tt, _, rfl, SqT.of upd_same, rfl, _, _, rfl, _, _, rfl, rfl, ?_⟩
          refine ⟨by show 4 ≤ sizeLine; decide, fun t4 f4 => ?_⟩
          have t3 := same_new f4 (.tup [V.int 0, V.int 1, V.int 2, V.int 3])
          have sA : Same H _ := s1.trans (t1.trans (t2.trans t3))
          have gP : H Pp = none := Same.back s1 fP
          have aP := t3 _ _ (t2 _ _ (upd_same (H := _) (a := Pp) (o := .lst [])))
          have lH : ∃ xs, H l = some (.lst xs) ∧ PtsAt H xs ps := hL
          clear hxs hpts hxl
          obtain ⟨xs, hxs, hpts⟩ := lH
          have hxl := hpts.len
          refine ⟨t4, rfl, ⟨_, SqT.of upd_same⟩, for_it (walk_tup (K := K) (a := t4) (xs := [V.int 0, V.int 1, V.int 2, V.int 3])) (fun i σ H5 => ∃ x4 x5 x6 x7 : Option V, σ = [some (.int ((n + 1 : Nat) : Int)), some (.ref l), some (.int (2 ^ n)), some (.ref Pp), x4, x5, x6, x7, none] ∧ Same H H5 ∧ H5 t4 = some (.tup [V.int 0, V.int 1, V.int 2, V.int 3]) ∧
              ∃ vs : List V, H5 Pp = some (.lst vs) ∧ vs.length = i ∧ ∀ m v, vs[m]? = some v → PicAt H5 v (pic n (cut n ps m)))
            ⟨none, none, none, none, congrArg (fun z : V => [some (V.int ((n + 1 : Nat) : Int)), some (V.ref l), some z, some (V.ref Pp), none, none, none, none, none]) (congrArg V.int e2), sA, upd_same, [], aP, rfl, by simp⟩ (fun i σ H5 _ ⟨_, _, _, _, _, _, h5, _⟩ => SqT.of h5) ?_ ?_⟩
          · rintro i x σ H5 H6 hi ⟨_, _, _, _, rfl, s5, h54, vs, hP, hvl, hvs⟩ ⟨rfl, ex⟩
            have hi4 : i < 4 := hi
            replace ex : x = .int (i : Int) := by
              match i, hi4, ex with
              | 0, _, ex => cases ex; rfl
              | 1, _, ex => cases ex; rfl
              | 2, _, ex => cases ex; rfl
              | 3, _, ex => cases ex; rfl
            subst ex
            have p40 : (2 : Int) ^ n < 2 ^ 64 := by
              have := pow40' (n := n) (by omega)
              omega
            have p0 := two_pos n
            refine ⟨_, rfl, _, rfl, .inl ⟨_, rfl, _, _, rfl, rfl, (by show (0 : Int) < _; decide), _, _, rfl, rfl, .inl ⟨by omega, p40⟩, _, rfl, _, rfl, _, _, rfl, rfl, ⟨by decide, by decide⟩, _, _, rfl, rfl, .inl ⟨by omega, p40⟩, by show 2 ≤ sizeLine; decide, fun T hT => ?_⟩⟩
            have sT := same_new hT (.tup [V.int (2 ^ n * ((i : Int) % 2)), V.int (2 ^ n * ((i : Int) / 2))])
            refine ⟨T, _, rfl, SqT.of upd_same, rfl, _, _, rfl, _, _, rfl, rfl, ?_⟩
            have s6 := s5.trans sT
            have hP6 := sT _ _ hP
            have h64 := sT _ _ h54
            refine ⟨_, rfl, l, rfl, ⟨_, SqL.of (s6 _ _ hxs)⟩, fun D hD => lc_mapP (K := K) (sh n i) hD (s6 _ _ hxs) (hpts.mono (Same.tk s6)) (by omega) (fun x p H8 k hx hm s8 hk => ?_) (fun H8 ys s8 hDl hys => ?_)⟩
            · obtain ⟨t, rfl, ht⟩ := hx
              refine ⟨_, rfl, t, _, _, _, rfl, rfl, SqT.of ht, atI_nat (j := 0) rfl, _, rfl, _, _, rfl, rfl, _, rfl, t, _, _, _, rfl, rfl, SqT.of ht, atI_nat (j := 1) rfl, _, rfl, _, _, rfl, rfl, by show 2 ≤ sizeLine; decide, fun T2 hT2 => ?_⟩
              exact hk _ _ (same_new hT2 _) ⟨T2, rfl, upd_same⟩
            have hyl := hys.len
            rw [List.length_map] at hyl
            refine ⟨_, rfl, D, rfl, ⟨_, SqL.of hDl⟩, fun D2 hD2 => lc_filtP (K := K) (inq n) hD2 hDl hys (by omega) (fun x p H9 k hx hm s9 hk => ?_) (fun x H9 k hk => ⟨_, rfl, hk⟩) (fun H9 zs s9 hD2l hzs => ?_)⟩
            · obtain ⟨t, rfl, ht⟩ := hx
              refine ⟨_, rfl, t, _, _, _, rfl, rfl, SqT.of ht, atI_nat (j := 0) rfl, _, _, rfl, rfl, decide (0 ≤ p.1), rfl, ?_⟩
              have ed : inq n p = (decide (0 ≤ p.1) && (decide (p.1 < 2 ^ n) && (decide (0 ≤ p.2) && decide (p.2 < 2 ^ n)))) := rfl
              cases e1 : decide (0 ≤ p.1) with
              | false =>
                rw [ed, e1] at hk
                exact iteF ⟨_, rfl, iteF hk⟩
              | true =>
                refine iteT ⟨_, rfl, _, _, rfl, rfl, decide (p.1 < 2 ^ n), rfl, ?_⟩
                cases e2 : decide (p.1 < 2 ^ n) with
                | false =>
                  rw [ed, e1, e2] at hk
                  exact iteF hk
                | true =>
                  refine iteT ⟨_, rfl, t, _, _, _, rfl, rfl, SqT.of ht, atI_nat (j := 1) rfl, _, _, rfl, rfl, decide (0 ≤ p.2), rfl, ?_⟩
                  cases e3 : decide (0 ≤ p.2) with
                  | false =>
                    rw [ed, e1, e2, e3] at hk
                    exact iteF ⟨_, rfl, hk⟩
                  | true =>
                    refine iteT ⟨_, rfl, _, _, rfl, rfl, decide (p.2 < 2 ^ n), rfl, ?_⟩
                    rw [ed, e1, e2, e3] at hk
                    exact hk
            have s69 := s8.trans s9
            have s09 := s6.trans s69
            have hP9 := s69 _ _ hP6
            refine ⟨_, rfl, .inl ⟨rfl, _, SqL.of hP9⟩, _, rfl, _, _, rfl, rfl, _, rfl, ?_⟩
            show spPicture d [V.int (((n + 1 : Nat) : Int) - 1), V.ref D2] H9 _ E0
            rw [en]
            refine ⟨n, D2, cut n ps i, rfl, ⟨zs, hD2l, hzs⟩, hok.cut i, by have := cut_len n ps i; omega, by omega, by omega, fun v' H' s' hv => ?_⟩
            have hPf := s' _ _ hP9
            refine ⟨Pp, vs, v', rfl, rfl, hPf, by rw [hvl, sizeLine_eq]; omega, ?_⟩
            have tkP := tk_list (ys := vs ++ [v']) hPf
            refine ⟨_, _, _, _, rfl, fun b o e => ?_, ?_, vs ++ [v'], upd_same, by rw [List.length_append, List.length_singleton, hvl], fun m z hz => ?_⟩
            · rw [upd_ne (ne_of_none e gP)]
              exact s' _ _ (s09 _ _ e)
            · rw [upd_ne (ne_of h54 hP (fun z => nomatch z))]
              exact s' _ _ (s69 _ _ h64)
            · by_cases hlt : m < vs.length
              · rw [List.getElem?_append_left hlt] at hz
                exact ((hvs m z hz).mono (((Same.tk sT).trans (Same.tk s69)).trans ((Same.tk s').trans tkP)))
              · rw [List.getElem?_append_right (by omega)] at hz
                have h0 : m - vs.length = 0 := by
                  by_cases h0 : m - vs.length = 0
                  · exact h0
                  · rw [List.getElem?_eq_none (by simp; omega)] at hz
                    cases hz
                rw [h0] at hz
                have ey : v' = z := by simpa using hz
                subst ey
                have em : m = i := by omega
                subst em
                exact hv.mono tkP
          · rintro σ H5 ⟨_, _, _, _, rfl, s5, h54, vs, hP, hvl, hvs⟩
            obtain ⟨y0, y1, y2, y3, rfl⟩ := list4 hvl
            refine ⟨_, rfl, Pp, _, rfl, .inl ⟨SqL.of hP, fun u2 hu2 => ?_⟩⟩
            have s6 := same_new hu2 (.tup [y0, y1, y2, y3])
            have tk := Same.tk s6
            exact q _ _ (s5.trans s6) ⟨u2, y0, y1, y2, y3, rfl, upd_same, (hvs 0 y0 rfl).mono tk, (hvs 1 y1 rfl).mono tk, (hvs 2 y2 rfl).mono tk, (hvs 3 y3 rfl).mono tk⟩
end
end Pl

namespace Pl
/-! ## Places beside one another, and the flood -/
def nb (p : Pt) : List Pt := [(p.1 + 1, p.2), (p.1 - 1, p.2), (p.1, p.2 + 1), (p.1, p.2 - 1)]
theorem nb_iff {p q : Pt} : q ∈ nb p ↔ (q.1 = p.1 + 1 ∧ q.2 = p.2) ∨ (q.1 = p.1 - 1 ∧ q.2 = p.2) ∨ (q.1 = p.1 ∧ q.2 = p.2 + 1) ∨ (q.1 = p.1 ∧ q.2 = p.2 - 1) := by
  simp only [nb, List.mem_cons, List.not_mem_nil, or_false, Prod.ext_iff]
theorem nb_symm {p q : Pt} (h : q ∈ nb p) : p ∈ nb q := by
  rw [nb_iff] at *
  omega
/-- both black, and beside one another -/
def con (M : Pt → Prop) (p q : Pt) : Prop := M p ∧ M q ∧ q ∈ nb p
def sidesN (ps : List Pt) : Nat := (ps.map fun p => ((nb p).filter fun q => decide (q ∉ ps)).length).sum
/-- the flood: those that are left, those to be looked at, one of each region so far; ex: what isn't looked at yet -/
structure FI (ps left todo rs : List Pt) (ex : Pt → Pt → Prop) : Prop where
  ls : ∀ q ∈ left, q ∈ ps
  ts : ∀ q ∈ todo, q ∈ ps ∧ q ∉ left
  rss : ∀ r ∈ rs, r ∈ ps ∧ r ∉ left
  ind : rs.Pairwise fun a b => ¬ Eqv (con (· ∈ ps)) a b
  rep : ∀ q ∈ ps, q ∉ left → ∃ r ∈ rs, Eqv (con (· ∈ ps)) q r
  cl : ∀ q ∈ ps, q ∉ left → q ∉ todo → ∀ z ∈ nb q, z ∈ left → ex q z
def exN : Pt → Pt → Prop := fun _ _ => False
def exP (p : Pt) (ys : List Pt) : Pt → Pt → Prop := fun q z => q = p ∧ z ∈ ys
theorem FI.start (ps : List Pt) : FI ps ps [] [] exN := ⟨fun _ h => h, by simp, by simp, .nil, fun q h n => absurd h n, fun q h n => absurd h n⟩
theorem FI.closed {ps left rs : List Pt} (h : FI ps left [] rs exN) {a b : Pt} (e : Eqv (con (· ∈ ps)) a b) : (a ∈ ps ∧ a ∉ left) ↔ (b ∈ ps ∧ b ∉ left) := by
  induction e with
  | refl => exact Iff.rfl
  | rel r =>
    obtain ⟨h1, h2, h3⟩ := r
    exact ⟨fun k => ⟨h2, fun z => h.cl _ k.1 k.2 (by simp) _ h3 z⟩, fun k => ⟨h1, fun z => h.cl _ k.1 k.2 (by simp) _ (nb_symm h3) z⟩⟩
  | symm _ ih => exact ih.symm
  | trans _ _ i1 i2 => exact i1.trans i2
def drop1 (left : List Pt) (s : Pt) : List Pt := left.filter fun q => decide (q ≠ s)
theorem mem_drop1 {left : List Pt} {s q : Pt} : q ∈ drop1 left s ↔ q ∈ left ∧ q ≠ s := by
  rw [drop1, List.mem_filter, decide_eq_true_iff]
theorem drop1_lt {left : List Pt} {s : Pt} (h : s ∈ left) : (drop1 left s).length < left.length := by
  induction left with
  | nil => cases h
  | cons a r ih =>
    rw [drop1, List.filter_cons]
    have le : (r.filter fun q => decide (q ≠ s)).length ≤ r.length := List.length_filter_le _ _
    by_cases e : a = s
    · rw [if_neg (by simp [e])]
      rw [List.length_cons]
      omega
    · rw [if_pos (by simp [e]), List.length_cons, List.length_cons]
      have := ih ((List.mem_cons.mp h).resolve_left fun z => e z.symm)
      rw [drop1] at this
      omega
theorem FI.new {ps left rs : List Pt} (h : FI ps left [] rs exN) {s : Pt} (hs : s ∈ left) : FI ps (drop1 left s) [s] (s :: rs) exN where
  ls := fun q hq => h.ls q (mem_drop1.mp hq).1
  ts := fun q hq => by
    rw [List.mem_singleton.mp hq]
    exact ⟨h.ls s hs, fun z => (mem_drop1.mp z).2 rfl⟩
  rss := fun r hr => by
    rcases List.mem_cons.mp hr with rfl | hr
    · exact ⟨h.ls _ hs, fun z => (mem_drop1.mp z).2 rfl⟩
    · exact ⟨(h.rss r hr).1, fun z => (h.rss r hr).2 (mem_drop1.mp z).1⟩
  ind := by
    rw [List.pairwise_cons]
    refine ⟨fun r hr e => ?_, h.ind⟩
    exact ((h.closed e).mpr (h.rss r hr)).2 hs
  rep := fun q hq hn => by
    by_cases e : q = s
    · exact ⟨s, List.mem_cons_self, by rw [e]; exact .refl _⟩
    · obtain ⟨r, hr, e2⟩ := h.rep q hq fun z => hn (mem_drop1.mpr ⟨z, e⟩)
      exact ⟨r, List.mem_cons_of_mem _ hr, e2⟩
  cl := fun q hq hn ht z hz hl => by
    have e : q ≠ s := fun e => ht (by rw [e]; exact List.mem_singleton.mpr rfl)
    exact h.cl q hq (fun z => hn (mem_drop1.mpr ⟨z, e⟩)) (by simp) z hz (mem_drop1.mp hl).1
theorem FI.pop {ps left todo rs : List Pt} {p : Pt} (h : FI ps left (todo ++ [p]) rs exN) : FI ps left todo rs (exP p (nb p)) ∧ p ∈ ps ∧ p ∉ left := by
  refine ⟨⟨h.ls, fun q hq => h.ts q (List.mem_append.mpr (.inl hq)), h.rss, h.ind, h.rep, fun q hq hn ht z hz hl => ?_⟩, h.ts p (by simp)⟩
  by_cases e : q = p
  · subst e
    exact ⟨rfl, hz⟩
  · refine (h.cl q hq hn (fun k => ?_) z hz hl).elim
    rcases List.mem_append.mp k with k | k
    · exact ht k
    · exact e (List.mem_singleton.mp k)
theorem FI.skip {ps left todo rs : List Pt} {p y : Pt} {ys : List Pt} (h : FI ps left todo rs (exP p (y :: ys))) (hy : y ∉ left) : FI ps left todo rs (exP p ys) := by
  refine ⟨h.ls, h.ts, h.rss, h.ind, h.rep, fun q hq hn ht z hz hl => ?_⟩
  obtain ⟨e, hz2⟩ := h.cl q hq hn ht z hz hl
  refine ⟨e, (List.mem_cons.mp hz2).resolve_left fun e2 => hy (by rw [← e2]; exact hl)⟩
theorem FI.see {ps left todo rs : List Pt} {p y : Pt} {ys : List Pt} (h : FI ps left todo rs (exP p (y :: ys))) (hp : p ∈ ps) (hpl : p ∉ left) (hyp : y ∈ nb p) (hy : y ∈ left) : FI ps (drop1 left y) (todo ++ [y]) rs (exP p ys) where
  ls := fun q hq => h.ls q (mem_drop1.mp hq).1
  ts := fun q hq => by
    rcases List.mem_append.mp hq with hq | hq
    · exact ⟨(h.ts q hq).1, fun z => (h.ts q hq).2 (mem_drop1.mp z).1⟩
    · rw [List.mem_singleton.mp hq]
      exact ⟨h.ls y hy, fun z => (mem_drop1.mp z).2 rfl⟩
  rss := fun r hr => ⟨(h.rss r hr).1, fun z => (h.rss r hr).2 (mem_drop1.mp z).1⟩
  ind := h.ind
  rep := fun q hq hn => by
    by_cases e : q = y
    · subst e
      obtain ⟨r, hr, e2⟩ := h.rep p hp hpl
      exact ⟨r, hr, .trans (.symm (.rel ⟨hp, hq, hyp⟩)) e2⟩
    · exact h.rep q hq fun z => hn (mem_drop1.mpr ⟨z, e⟩)
  cl := fun q hq hn ht z hz hl => by
    have e : q ≠ y := fun e => ht (by rw [e]; simp)
    obtain ⟨hl1, hl2⟩ := mem_drop1.mp hl
    obtain ⟨e1, hz2⟩ := h.cl q hq (fun z => hn (mem_drop1.mpr ⟨z, e⟩)) (fun z => ht (List.mem_append.mpr (.inl z))) z hz hl1
    exact ⟨e1, (List.mem_cons.mp hz2).resolve_left hl2⟩
theorem FI.over {ps left todo rs : List Pt} {p : Pt} (h : FI ps left todo rs (exP p [])) : FI ps left todo rs exN :=
  ⟨h.ls, h.ts, h.rss, h.ind, h.rep, fun q hq hn ht z hz hl => by have := (h.cl q hq hn ht z hz hl).2; cases this⟩
theorem FI.fin {ps left rs : List Pt} (h : FI ps left [] rs exN) (hl : ∀ q ∈ ps, q ∉ left) : Reps (con (· ∈ ps)) (· ∈ ps) rs :=
  ⟨fun r hr => (h.rss r hr).1, h.ind, fun q hq => h.rep q hq (hl q hq)⟩
end Pl

namespace Pl
open PySem PySem.Spec PyProof.Rows L2
/-! ## Dicts whose keys are places -/
def dpt (ps : List Pt) (v : V) : List (List Key × V) := ps.map fun p => (pkey p, v)
theorem valV_dpt (v : V) (q : Pt) : ∀ ps : List Pt, valV (dpt ps v) (pkey q) = if q ∈ ps then some v else none
  | [] => by rw [if_neg (by simp)]; rfl
  | p :: ps => by
    show valV ((pkey p, v) :: dpt ps v) (pkey q) = _
    by_cases e : p = q
    · subst e
      rw [valV_pos rfl, if_pos List.mem_cons_self]
    · rw [valV_neg fun h => e (pkey_inj h), valV_dpt v q ps]
      by_cases h : q ∈ ps
      · rw [if_pos h, if_pos (List.mem_cons_of_mem _ h)]
      · rw [if_neg h, if_neg fun z => by
          rcases List.mem_cons.mp z with z | z
          · exact e z.symm
          · exact h z]
theorem dpt_put {v : V} {q : Pt} {ps : List Pt} (h : q ∉ ps) : putK (dpt ps v) (pkey q) v = dpt (ps ++ [q]) v := by
  rw [putK_new v (by rw [valV_dpt, if_neg h]), dpt, dpt, List.map_append]
  rfl
theorem dpt_len (v : V) (ps : List Pt) : (dpt ps v).length = ps.length := List.length_map ..
theorem dpt_merge {v : V} : ∀ (ps qs : List Pt), (qs ++ ps).Nodup → mergeT (dpt qs v) (dpt ps v) = dpt (qs ++ ps) v
  | [], qs, _ => by rw [List.append_nil]; rfl
  | p :: ps, qs, h => by
    have h1 : (qs ++ [p] ++ ps).Nodup := by rw [List.append_assoc]; exact h
    have hp : p ∉ qs := fun hp => by
      rw [List.nodup_append] at h
      exact h.2.2 p hp p List.mem_cons_self rfl
    have := dpt_merge (v := v) ps (qs ++ [p]) h1
    show mergeT (putK (dpt qs v) (pkey p) v) (dpt ps v) = _
    rw [dpt_put hp, this, List.append_assoc]
    rfl
theorem dpt_drop (v : V) (q : Pt) : ∀ ps : List Pt, dropK (dpt ps v) (pkey q) = dpt (drop1 ps q) v
  | [] => rfl
  | p :: ps => by
    have ih := dpt_drop v q ps
    show List.filter _ ((pkey p, v) :: dpt ps v) = _
    rw [List.filter_cons, drop1, List.filter_cons]
    by_cases e : p = q
    · rw [if_neg (by simp [e]), if_neg (by simp [e])]
      exact ih
    · rw [if_pos (by simp only [decide_eq_true_eq]; exact fun h => e (pkey_inj h)), if_pos (by simp [e])]
      show _ = (pkey p, v) :: dpt (drop1 ps q) v
      rw [← ih]
      rfl
/-- an entry that is told -/
def EntAt (H : Hp) (y : V) (p : Pt) (v : V) : Prop := ∃ a b, y = .ref a ∧ H a = some (.tup [.ref b, v]) ∧ H b = some (.tup (pvs p))
theorem EntAt.mono {H H' : Hp} {y : V} {p : Pt} {v : V} (k : TupK H H') (h : EntAt H y p v) : EntAt H' y p v := by
  obtain ⟨a, b, e, h1, h2⟩ := h
  exact ⟨a, b, e, k _ _ h1, k _ _ h2⟩
theorem ents_idx {K : PySem.W.Frag} {H : Hp} {v : V} : ∀ {ys : List V} {ps : List Pt}, ys.length = ps.length → (∀ (j : Nat) (y : V), ys[j]? = some y → ∀ p, ps[j]? = some p → EntAt H y p v) →
    ∃ es : List Ent, ys = es.map (fun e => V.ref e.p) ∧ (∀ e ∈ es, EntOk K H e) ∧ es.map Ent.kv = dpt ps v
  | [], [], _, _ => ⟨[], rfl, by simp, rfl⟩
  | y :: ys, p :: ps, hl, h => by
    obtain ⟨es, e1, e2, e3⟩ := ents_idx (K := K) (ys := ys) (ps := ps) (by simpa using hl) fun j z ez q eq => h (j + 1) z ez q eq
    obtain ⟨a, b, rfl, h1, h2⟩ := h 0 y rfl p rfl
    refine ⟨⟨a, b, pkey p, v⟩ :: es, by rw [e1]; rfl, fun e he => ?_, by rw [List.map_cons, e3]; rfl⟩
    rcases List.mem_cons.mp he with rfl | he
    · exact ⟨SqT.of h1, h2⟩
    · exact e2 e he
  | [], _ :: _, hl, _ => by simp at hl
  | _ :: _, [], hl, _ => by simp at hl
end Pl

namespace Pl
open PySem PySem.Spec PyProof.Rows L2
/-! ## The parts of a set of places; how many places there can be -/
theorem sh_in {n : Nat} {p : Pt} (h : inq (n + 1) p = true) : (if inq n (sh n 0 p) = true then 1 else 0) + ((if inq n (sh n 1 p) = true then 1 else 0) + ((if inq n (sh n 2 p) = true then 1 else 0) + (if inq n (sh n 3 p) = true then 1 else 0))) = 1 := by
  simp only [inq, Bool.and_eq_true, decide_eq_true_eq] at h
  obtain ⟨h1, h2, h3, h4⟩ := h
  have e := two_succ n
  have e0 := two_pos n
  have c0 : (((0 : Nat) : Int) % 2) = 0 := by decide
  have c1 : (((1 : Nat) : Int) % 2) = 1 := by decide
  have c2 : (((2 : Nat) : Int) % 2) = 0 := by decide
  have c3 : (((3 : Nat) : Int) % 2) = 1 := by decide
  have d0 : (((0 : Nat) : Int) / 2) = 0 := by decide
  have d1 : (((1 : Nat) : Int) / 2) = 0 := by decide
  have d2 : (((2 : Nat) : Int) / 2) = 1 := by decide
  have d3 : (((3 : Nat) : Int) / 2) = 1 := by decide
  simp only [inq, sh, Bool.and_eq_true, decide_eq_true_eq, c0, c1, c2, c3, d0, d1, d2, d3, Int.mul_zero, Int.mul_one, Int.sub_zero]
  by_cases a : p.1 < 2 ^ n <;> by_cases b : p.2 < 2 ^ n
  · rw [if_pos (by omega), if_neg (by omega), if_neg (by omega), if_neg (by omega)]
  · rw [if_neg (by omega), if_neg (by omega), if_pos (by omega), if_neg (by omega)]
  · rw [if_neg (by omega), if_pos (by omega), if_neg (by omega), if_neg (by omega)]
  · rw [if_neg (by omega), if_neg (by omega), if_neg (by omega), if_pos (by omega)]
theorem cut_cons (n : Nat) (p : Pt) (ps : List Pt) (i : Nat) : (cut n (p :: ps) i).length = (if inq n (sh n i p) = true then 1 else 0) + (cut n ps i).length := by
  rw [cut, List.map_cons, List.filter_cons]
  split
  · rw [List.length_cons, cut]; omega
  · rw [cut]; omega
theorem cut_sum {n : Nat} : ∀ {ps : List Pt}, (∀ p ∈ ps, inq (n + 1) p = true) → ps.length = (cut n ps 0).length + ((cut n ps 1).length + ((cut n ps 2).length + (cut n ps 3).length))
  | [], _ => rfl
  | p :: ps, h => by
    have ih := cut_sum (ps := ps) fun q hq => h q (List.mem_cons_of_mem _ hq)
    have h1 := sh_in (h p List.mem_cons_self)
    rw [cut_cons, cut_cons, cut_cons, cut_cons, List.length_cons]
    omega
theorem Spots.len : ∀ {n : Nat} {ps : List Pt}, Spots n ps → ps.length ≤ 2 ^ (2 * n)
  | 0, ps, h => h.zero
  | n + 1, ps, h => by
    have h0 := (h.cut 0).len
    have h1 := (h.cut 1).len
    have h2 := (h.cut 2).len
    have h3 := (h.cut 3).len
    have e := cut_sum h.inn
    have e2 : 2 ^ (2 * (n + 1)) = 2 ^ (2 * n) * 4 := by rw [show 2 * (n + 1) = 2 * n + 2 by omega, Nat.pow_add]
    omega
/-! ## The dict that _law_drawn fills -/
def dq (qs : List (Pt × Bool)) : List (List Key × V) := qs.map fun q => (pkey q.1, V.bl q.2)
structure DS (n : Nat) (kvs : List (List Key × V)) : Prop where
  ex : ∃ qs, kvs = dq qs ∧ Spots n (qs.map (·.1))
theorem DS.nil (n : Nat) : DS n [] := ⟨[], rfl, .nil, by simp⟩
theorem dq_any (p : Pt) : ∀ qs : List (Pt × Bool), ((dq qs).any fun kv => decide (kv.1 = pkey p)) = decide (p ∈ qs.map (·.1))
  | [] => by simp [dq]
  | q :: qs => by
    have ih := dq_any p qs
    show (decide (pkey q.1 = pkey p) || (dq qs).any _) = _
    rw [ih, List.map_cons]
    by_cases e : q.1 = p
    · rw [decide_eq_true (by rw [e]), Bool.true_or, decide_eq_true (by rw [e]; exact List.mem_cons_self)]
    · rw [decide_eq_false (fun z => e (pkey_inj z)), Bool.false_or, decide_eq_decide]
      exact ⟨fun z => List.mem_cons_of_mem _ z, fun z => (List.mem_cons.mp z).resolve_left fun z => e z.symm⟩
theorem DS.put {n : Nat} {kvs : List (List Key × V)} (h : DS n kvs) {p : Pt} (hp : inq n p = true) (b : Bool) : DS n (putK kvs (pkey p) (.bl b)) := by
  obtain ⟨qs, rfl, hs⟩ := h.ex
  unfold putK
  rw [dq_any]
  by_cases e : p ∈ qs.map (·.1)
  · rw [decide_eq_true e, if_pos rfl]
    refine ⟨qs.map fun q => if q.1 = p then (q.1, b) else q, ?_, ?_⟩
    · rw [dq, dq, List.map_map, List.map_map]
      refine List.map_congr_left fun q _ => ?_
      show (if pkey q.1 = pkey p then (pkey q.1, V.bl b) else (pkey q.1, V.bl q.2)) = _
      by_cases e2 : q.1 = p
      · rw [if_pos (by rw [e2])]
        simp only [Function.comp]
        rw [if_pos e2]
      · rw [if_neg fun z => e2 (pkey_inj z)]
        simp only [Function.comp]
        rw [if_neg e2]
    · have : (qs.map fun q => if q.1 = p then (q.1, b) else q).map (·.1) = qs.map (·.1) := by
        rw [List.map_map]
        refine List.map_congr_left fun q _ => ?_
        simp only [Function.comp]
        split <;> rfl
      rw [this]
      exact hs
  · rw [decide_eq_false e, if_neg (by decide)]
    refine ⟨qs ++ [(p, b)], by rw [dq, dq, List.map_append]; rfl, ?_, ?_⟩
    · rw [List.map_append]
      refine List.nodup_append.mpr ⟨hs.nd, by simp, fun a ha c hc => ?_⟩
      simp at hc
      subst hc
      rintro rfl
      exact e ha
    · intro q hq
      rw [List.map_append, List.mem_append] at hq
      rcases hq with hq | hq
      · exact hs.inn q hq
      · simp at hq
        subst hq
        exact hp
theorem DS.merge {n : Nat} {b : Bool} : ∀ {ps : List Pt} {kvs : List (List Key × V)}, DS n kvs → (∀ p ∈ ps, inq n p = true) → DS n (mergeT kvs (dpt ps (.bl b)))
  | [], kvs, h, _ => h
  | p :: ps, kvs, h, hp => DS.merge (ps := ps) (h.put (hp p List.mem_cons_self) b) fun q hq => hp q (List.mem_cons_of_mem _ hq)
theorem DS.len {n : Nat} {kvs : List (List Key × V)} (h : DS n kvs) : kvs.length ≤ 2 ^ (2 * n) := by
  obtain ⟨qs, rfl, hs⟩ := h.ex
  have := hs.len
  rw [List.length_map] at this
  rw [dq, List.length_map]
  exact this
/-- the hashes of a column -/
def hv (c y : Int) : Int := reduceHash (Builtin.Tuple.tupleHashOf [hashInt c, hashInt y])
theorem hv_eq (P : Program) (w : World) (p : Pt) : tupleKeyHash (mixKind P w) (pkey p) = hv p.1 p.2 := rfl
def htab : List (List Int) := [
  [-8458139203682520985, -1950498447580522560, 7204814214171964562, -4734289103435588629, 1773351652666409796, -3119722376306286570, -1010439003188656273, -5903513032161352639, 604127723940645786, -4288946305032050580, -2179662931914420283, 4327977824187578142, -565096204785118224, 5942544551316880201, 1049470522344183835, 3158753895461814132],
  [-5164621852614943976, 8389048192121911274, -3550055125485641917, -1440771752368011620, -6333845781340707986, 173794974761290439, -4719279054211405927, -2609995681093775630, 3897645075008222795, -995428953964473571, 5512211802137524854, -3779219609819539640, 2728421146282458785, -2164652882690237581, 4342987873411760844, 6452271246529391141],
  [4685526799349444076, 6794810172467074373, 1901736143494378007, 8409376899596376432, 3516302870623680066, -8422800446983873125, -6313517073866242828, 7240152970870612422, -4698950346736940769, 8854719697999914481, -7482741002592006838, 6070929042144848412, -5868174275462704779, 639466480639293646, -8651964931317770848, -2144324175215772423],
  [2248468952609198383, 8756109708711196808, 3863035679738500442, 5972319052856130739, 1079245023883434373, 7586885779985432798, -4352217537622120393, 4803095124130366729, -7136008193477186462, 6417661851259668788, -5521441466347884403, 3633871195404602719, -8305232122202950472, -1797591366100952047, -6690665395073648413, -4581382021956018116],
  [-6348126469135965181, 159514286966033244, -9131917124991031250, -2624276368889032825, 3883364387212965600, -1009709641759730766, 1099573731357899531, -3793500297614796835, 2714140458487201590, -2178933570485494776, -69650197367864479, 6437990558734133946, 1544916529761437580, 8052557285863436005, -1238874126093628489, 5268766630008369936],
  [-3054609118068388172, 3453031638033610253, -5838399773923454241, 669240982178544184, -4223833046794152182, 2283807709307846243, -7007623702649218251, -499982946547219826, 6007657809554778599, 1114583780582082233, 7622224536684080658, -1669206875272983836, 4838433880829014589, -54640148143681777, 6453000607958316648, 8562283981075946945],
  [-5491666964808633865, 8062003079928221385, -3877100237679331806, 2630540518422666619, -6660890893534397875, -153250137432399450, -5046324166405095816, 1461316589696902609, 3570599962814532906, -1322474066158163460, 5185166689943834965, 292092660971138599, 2401376034088768896, -2491697994883927470, 4015942761218070955, -7923160556389482236],
  [4358481687155754187, -7580621630451799004, 5973048414285056246, 8082331787402686543, 3189257758429990177, -8749845559177563014, -2242204803075564589, 6913107858676922533, -5025995458930630658, 8527674585806224592, -3411428731801328599, 5743883929951158523, -6195219387656394668, 312421368445603757, -4580652660527092609, -2471369287409462312],
  [1921423840415508494, 8429064596517506919, 3535990567544810553, -8403112750062742638, 752199911689744484, 7259840667791742909, -4679262649815810282, 8874407394921044968, -7463053305670876351, 6090616739065978899, -5848486578541574292, 7705183466195280958, -8632277234396640361, -2124636478294641936, -7017710507267338302, -510069751165339877],
  [-6675171581329655070, -167530825227656645, -5060604854200353011, -2951321481082722714, 3556319275019275711, -1336754753953420655, 5170886002148577770, -4120545409808486724, 2387095346293511701, -2505978682679184665, 4001662073422813760, 6110945446540444057, 1217871417567747691, 7725512173669746116, 2832438144697049750, -9106665172910503441],
  [-3381654230262078061, 3125986525839920364, -1767087503132776002, 342195869984854295, -4550878158987842071, 1956762597114156354, -2936311431858540012, 3571329324243458413, 5680612697361088710, 787538668388392344, 7295179424490390769, 2402105395517694403, 4511388768635324700, -381685260337371666, 6125955495764626759, -5813147821842926432],
  [6468494421702309991, -5470608895905243200, 3684703765847243922, -8254399551760309269, 5299270492976545981, -6639832824631007210, -132192068529008785, 9023120593223478337, -2915982724384074854, -7809056753356771220, -1301415997254772795, 807867375862857502, -4085206653109838864, 2422434102992159561, -2470639925980536805, -361356552862906508],
  [4031436574962064298, -7907666742645488893, 5646003302091366357, -6293100015516186834, 2862212646236300288, -9076890671371252903, -2569249915269254478, -7462323944241950844, -5353040571124320547, 8200629473612534703, -3738473843995018488, -8631547872967714854, -6522264499850084557, -14623743748086132, -4907697772720782498, 1599942983381215927],
  [5992736111206186733, 8102019484323817030, 3208945455351120664, -8730157862256432527, 4823512182480422723, 6932795555598053020, -5006307762009500171, 8547362282727355079, -3391741034880198112, 5763571626872289010, -6175531690735264181, 7378138354001591069, -4560964963605962122, 1946675792496036303, -7344755619461028191, -837114863359029766],
  [-1271641495715522257, 5235999260386476168, 342925231413779802, 2452208604531410099, -2440865424441286267, 4066775331660712158, -826298697311984208, 1282984675805646089, 7790625431907644514, 2897551402934948148, -9041551914672605043, 4512118130064250207, 6621401503181880504, -5317701814425672687, 8235968230311182563, -3703135087296370628],
  [-3708699342455767950, 2798941413646230475, -2094132615326465891, 4413508140775532534, -479565888197163832, 1629717484920466465, -3263356544052229901, 3244284212049768524, -8694819105557784667, 460493556194702455, 6968134312296700880, 2075060283324004514, 8582701039426002939, -708730372531061555, 5798910383570936870, -6140192934036616321]]
def ht (c y : Nat) : Int := (htab.getD c []).getD y 0
theorem hv_ht : ∀ c : Fin 16, ∀ y : Fin 16, hv (c.val : Int) (y.val : Int) = ht c.val y.val := by decide +kernel
theorem ht_inj : ∀ c : Fin 16, ∀ y : Fin 16, ∀ z : Fin 16, ht c.val y.val = ht c.val z.val → y = z := by decide +kernel
theorem hv_inj (c y z : Fin 16) (h : hv (c.val : Int) (y.val : Int) = hv (c.val : Int) (z.val : Int)) : y = z := ht_inj c y z (by rw [← hv_ht, ← hv_ht]; exact h)
theorem sq16 {n : Nat} (hn : n ≤ 4) : (2 : Int) ^ n ≤ 16 := by
  have h1 : (2 : Nat) ^ n ≤ 2 ^ 4 := Nat.pow_le_pow_right (by decide) hn
  have h2 : ((2 ^ n : Nat) : Int) = 2 ^ n := by simp
  omega
theorem hv_int {c y z : Int} (c0 : 0 ≤ c) (c1 : c < 16) (y0 : 0 ≤ y) (y1 : y < 16) (z0 : 0 ≤ z) (z1 : z < 16) (h : hv c y = hv c z) : y = z := by
  obtain ⟨a, rfl⟩ : ∃ a : Nat, c = (a : Int) := ⟨c.toNat, by omega⟩
  obtain ⟨b, rfl⟩ : ∃ a : Nat, y = (a : Int) := ⟨y.toNat, by omega⟩
  obtain ⟨d, rfl⟩ : ∃ a : Nat, z = (a : Int) := ⟨z.toNat, by omega⟩
  have := hv_inj ⟨a, by omega⟩ ⟨b, by omega⟩ ⟨d, by omega⟩ h
  rw [Fin.mk.injEq] at this
  rw [this]
theorem nodup_of {v : V} {g : List Key × V → Int} {f : Pt → Int} (hg : ∀ p, g (pkey p, v) = f p) {ps : List Pt} (hf : ∀ a ∈ ps, ∀ b ∈ ps, f a = f b → a = b) (hnd : ps.Nodup) : ((dpt ps v).map g).Nodup := by
  rw [dpt, List.map_map]
  refine List.pairwise_map.mpr ?_
  refine List.Pairwise.imp_of_mem (fun {a b} ha hb hne e => hne (hf a ha b hb ?_)) hnd
  rw [← hg, ← hg]
  exact e
theorem hash_at {n : Nat} (hn : n ≤ 4) {c : Int} {a b : Pt} (ia : inq n a = true) (ca : a.1 = c) (ib : inq n b = true) (cb : b.1 = c) (e : hv a.1 a.2 = hv b.1 b.2) : a = b := by
  have h16 := sq16 hn
  simp only [inq, Bool.and_eq_true, decide_eq_true_eq] at ia ib
  obtain ⟨a1, a2⟩ := a
  obtain ⟨b1, b2⟩ := b
  simp only at ia ib ca cb e
  subst ca
  subst cb
  have := hv_int (by omega) (by omega) (by omega) (by omega) (by omega) (by omega) e
  rw [this]
/-- the places of a column have hashes that differ -/
theorem hash_nodup (P : Program) (w : World) {n : Nat} (hn : n ≤ 4) {c : Int} {v : V} {ps : List Pt} (hnd : ps.Nodup) (hin : ∀ p ∈ ps, inq n p = true ∧ p.1 = c) : ((dpt ps v).map fun p => tupleKeyHash (mixKind P w) p.1).Nodup :=
  nodup_of (f := fun p => hv p.1 p.2) (fun p => hv_eq P w p) (fun a ha b hb e => hash_at hn (hin a ha).1 (hin a ha).2 (hin b hb).1 (hin b hb).2 e) hnd
/-- places in another order -/
theorem PtsAt.perm {H : Hp} {xs ys : List V} (h : ys.Perm xs) : ∀ {ps : List Pt}, PtsAt H xs ps → ∃ qs, PtsAt H ys qs ∧ qs.Perm ps := by
  induction h with
  | nil => exact fun {ps} k => ⟨ps, k, .refl _⟩
  | @cons x l1 l2 h ih =>
    intro ps k
    cases ps with
    | nil => exact k.elim
    | cons p ps =>
      obtain ⟨qs, k2, pm⟩ := ih k.2
      exact ⟨p :: qs, ⟨k.1, k2⟩, pm.cons p⟩
  | swap x y l =>
    intro ps k
    match ps, k with
    | p :: q :: ps, k => exact ⟨q :: p :: ps, ⟨k.2.1, k.1, k.2.2⟩, .swap _ _ _⟩
  | trans _ _ i1 i2 =>
    intro ps k
    obtain ⟨qs, k1, p1⟩ := i2 k
    obtain ⟨rs, k2, p2⟩ := i1 k1
    exact ⟨rs, k2, p2.trans p1⟩
theorem Spots.perm {n : Nat} {ps qs : List Pt} (h : Spots n ps) (k : qs.Perm ps) : Spots n qs := ⟨k.nodup_iff.mpr h.nd, fun p hp => h.inn p (k.mem_iff.mp hp)⟩
end Pl

namespace Pl
/-! ## Places by labels -/
def lab : Nat → NP → Int → Int → Option Nat
  | _, .no, _, _ => none
  | n, .num k, x, y => if sq n x y = true then some k else none
  | 0, .nd _ _ _ _, _, _ => none
  | n + 1, .nd a b c d, x, y => if x < 2 ^ n then (if y < 2 ^ n then lab n a x y else lab n c x (y - 2 ^ n)) else (if y < 2 ^ n then lab n b (x - 2 ^ n) y else lab n d (x - 2 ^ n) (y - 2 ^ n))
section
variable {n : Nat} {A : NP} {x y : Int}
theorem lab_no : lab n .no x y = none := by cases n <;> rfl
theorem lab_num {k : Nat} : lab n (.num k) x y = if sq n x y = true then some k else none := by cases n <;> rfl
theorem lab_q0 (hx : 0 ≤ x ∧ x < 2 ^ n) (hy : 0 ≤ y ∧ y < 2 ^ n) : lab (n + 1) A x y = lab n (npart A 0) x y := by
  have e := two_succ n
  cases A with
  | no => simp only [npart, lab_no]
  | num k => simp only [npart, lab_num]; rw [sq_big (by omega) (by omega), sq_small hx hy]
  | nd p q r s => simp only [lab, npart]; rw [if_pos hx.2, if_pos hy.2]
theorem lab_q1 (hx : 0 ≤ x ∧ x < 2 ^ n) (hy : 0 ≤ y ∧ y < 2 ^ n) : lab (n + 1) A (2 ^ n + x) y = lab n (npart A 1) x y := by
  have e := two_succ n
  cases A with
  | no => simp only [npart, lab_no]
  | num k => simp only [npart, lab_num]; rw [sq_big (by omega) (by omega), sq_small hx hy]
  | nd p q r s => simp only [lab, npart]; rw [if_neg (by omega), if_pos hy.2, show (2 : Int) ^ n + x - 2 ^ n = x by omega]
theorem lab_q2 (hx : 0 ≤ x ∧ x < 2 ^ n) (hy : 0 ≤ y ∧ y < 2 ^ n) : lab (n + 1) A x (2 ^ n + y) = lab n (npart A 2) x y := by
  have e := two_succ n
  cases A with
  | no => simp only [npart, lab_no]
  | num k => simp only [npart, lab_num]; rw [sq_big (by omega) (by omega), sq_small hx hy]
  | nd p q r s => simp only [lab, npart]; rw [if_pos hx.2, if_neg (by omega), show (2 : Int) ^ n + y - 2 ^ n = y by omega]
theorem lab_q3 (hx : 0 ≤ x ∧ x < 2 ^ n) (hy : 0 ≤ y ∧ y < 2 ^ n) : lab (n + 1) A (2 ^ n + x) (2 ^ n + y) = lab n (npart A 3) x y := by
  have e := two_succ n
  cases A with
  | no => simp only [npart, lab_no]
  | num k => simp only [npart, lab_num]; rw [sq_big (by omega) (by omega), sq_small hx hy]
  | nd p q r s => simp only [lab, npart]; rw [if_neg (by omega), if_neg (by omega), show (2 : Int) ^ n + x - 2 ^ n = x by omega, show (2 : Int) ^ n + y - 2 ^ n = y by omega]
end
theorem lab_sq : ∀ {n : Nat} {A : NP} {x y : Int} {i : Nat}, lab n A x y = some i → 0 ≤ x ∧ x < 2 ^ n ∧ 0 ≤ y ∧ y < 2 ^ n
  | n, .no, x, y, i, h => by rw [lab_no] at h; cases h
  | n, .num k, x, y, i, h => by
    rw [lab_num] at h
    split at h
    · rename_i e; exact sq_iff.mp e
    · cases h
  | 0, .nd _ _ _ _, _, _, _, h => by simp [lab] at h
  | n + 1, .nd a b c d, x, y, i, h => by
    simp only [lab] at h
    have e := two_succ n
    have e0 := two_pos n
    split at h <;> split at h
    · have := lab_sq h; omega
    · have := lab_sq h; omega
    · have := lab_sq h; omega
    · have := lab_sq h; omega
theorem mem_lab : ∀ {n : Nat} {S : Pic} (k : Nat) {x y : Int}, mem n S x y = (lab n (nam S k) x y).isSome
  | n, .leaf b, k, x, y => by
    cases b with
    | false => simp [mem, nam, lab_no]
    | true =>
      simp only [mem, nam, if_true, lab_num, Bool.true_and]
      cases sq n x y <;> rfl
  | 0, .node p q r s, k, x, y => by simp [mem, nam, lab]
  | n + 1, .node p q r s, k, x, y => by
    simp only [mem, nam, lab]
    split <;> split
    · exact mem_lab _
    · exact mem_lab _
    · exact mem_lab _
    · exact mem_lab _
/-- a square's place, by its quarter -/
theorem quart {n : Nat} {x y : Int} (h : 0 ≤ x ∧ x < 2 ^ (n + 1) ∧ 0 ≤ y ∧ y < 2 ^ (n + 1)) : ∃ u v : Int, (0 ≤ u ∧ u < 2 ^ n) ∧ (0 ≤ v ∧ v < 2 ^ n) ∧ ((x = u ∧ y = v) ∨ (x = 2 ^ n + u ∧ y = v) ∨ (x = u ∧ y = 2 ^ n + v) ∨ (x = 2 ^ n + u ∧ y = 2 ^ n + v)) := by
  have e := two_succ n
  by_cases a : x < 2 ^ n <;> by_cases b : y < 2 ^ n
  · exact ⟨x, y, by omega, by omega, .inl ⟨rfl, rfl⟩⟩
  · exact ⟨x, y - 2 ^ n, by omega, by omega, .inr (.inr (.inl ⟨rfl, by omega⟩))⟩
  · exact ⟨x - 2 ^ n, y, by omega, by omega, .inr (.inl ⟨by omega, rfl⟩)⟩
  · exact ⟨x - 2 ^ n, y - 2 ^ n, by omega, by omega, .inr (.inr (.inr ⟨by omega, by omega⟩))⟩
theorem half {n : Nat} {t : Int} (h : 0 ≤ t ∧ t < 2 ^ (n + 1)) : ∃ v : Int, (0 ≤ v ∧ v < 2 ^ n) ∧ (t = v ∨ t = 2 ^ n + v) := by
  have e := two_succ n
  by_cases b : t < 2 ^ n
  · exact ⟨t, by omega, .inl rfl⟩
  · exact ⟨t - 2 ^ n, by omega, .inr (by omega)⟩
/-- the places at the border: beside one another, above one another -/
def bor (h : Bool) (n : Nat) (A : NP) (t : Int) : Option Nat := if h then lab n A (2 ^ n - 1) t else lab n A t (2 ^ n - 1)
def bor0 (h : Bool) (n : Nat) (A : NP) (t : Int) : Option Nat := if h then lab n A 0 t else lab n A t 0
section
variable {n : Nat} {A : NP} {h : Bool} {t : Int}
theorem bor_lo (ht : 0 ≤ t ∧ t < 2 ^ n) : bor h (n + 1) A t = bor h n (npart A (st1 h)) t := by
  have e := two_succ n
  have e0 := two_pos n
  cases h
  · show lab (n + 1) A t (2 ^ (n + 1) - 1) = lab n (npart A 2) t (2 ^ n - 1)
    rw [show (2 : Int) ^ (n + 1) - 1 = 2 ^ n + (2 ^ n - 1) by omega]
    exact lab_q2 ht (by omega)
  · show lab (n + 1) A (2 ^ (n + 1) - 1) t = lab n (npart A 1) (2 ^ n - 1) t
    rw [show (2 : Int) ^ (n + 1) - 1 = 2 ^ n + (2 ^ n - 1) by omega]
    exact lab_q1 (by omega) ht
theorem bor_hi (ht : 0 ≤ t ∧ t < 2 ^ n) : bor h (n + 1) A (2 ^ n + t) = bor h n (npart A 3) t := by
  have e := two_succ n
  have e0 := two_pos n
  cases h
  · show lab (n + 1) A (2 ^ n + t) (2 ^ (n + 1) - 1) = lab n (npart A 3) t (2 ^ n - 1)
    rw [show (2 : Int) ^ (n + 1) - 1 = 2 ^ n + (2 ^ n - 1) by omega]
    exact lab_q3 ht (by omega)
  · show lab (n + 1) A (2 ^ (n + 1) - 1) (2 ^ n + t) = lab n (npart A 3) (2 ^ n - 1) t
    rw [show (2 : Int) ^ (n + 1) - 1 = 2 ^ n + (2 ^ n - 1) by omega]
    exact lab_q3 (by omega) ht
theorem bor0_lo (ht : 0 ≤ t ∧ t < 2 ^ n) : bor0 h (n + 1) A t = bor0 h n (npart A 0) t := by
  have e0 := two_pos n
  cases h
  · exact lab_q0 ht (by omega)
  · exact lab_q0 (by omega) ht
theorem bor0_hi (ht : 0 ≤ t ∧ t < 2 ^ n) : bor0 h (n + 1) A (2 ^ n + t) = bor0 h n (npart A (3 - st1 h)) t := by
  have e0 := two_pos n
  cases h
  · exact lab_q1 ht (by omega)
  · exact lab_q2 (by omega) ht
theorem bor_no : bor h n .no t = none := by cases h <;> exact lab_no
theorem bor0_no : bor0 h n .no t = none := by cases h <;> exact lab_no
theorem bor_num {k : Nat} (ht : 0 ≤ t ∧ t < 2 ^ n) : bor h n (.num k) t = some k := by
  have e0 := two_pos n
  cases h
  · show lab n (.num k) t (2 ^ n - 1) = some k
    rw [lab_num, sq_small ht (by omega), if_pos rfl]
  · show lab n (.num k) (2 ^ n - 1) t = some k
    rw [lab_num, sq_small (by omega) ht, if_pos rfl]
theorem bor0_num {k : Nat} (ht : 0 ≤ t ∧ t < 2 ^ n) : bor0 h n (.num k) t = some k := by
  have e0 := two_pos n
  cases h
  · show lab n (.num k) t 0 = some k
    rw [lab_num, sq_small ht (by omega), if_pos rfl]
  · show lab n (.num k) 0 t = some k
    rw [lab_num, sq_small (by omega) ht, if_pos rfl]
end
/-- which are joined over a border -/
theorem acr_iff {h : Bool} : ∀ {n : Nat} {A B : NP} {i j : Nat}, nok n A = true → nok n B = true → ((i, j) ∈ acr h n A B ↔ ∃ t : Int, (0 ≤ t ∧ t < 2 ^ n) ∧ bor h n A t = some i ∧ bor0 h n B t = some j)
  | n, .no, B, i, j, _, _ => by
    rw [acr_no (.inl rfl)]
    constructor
    · intro z; cases z
    · rintro ⟨t, _, e, _⟩; rw [bor_no] at e; cases e
  | n, .num k, .no, i, j, _, _ => by
    rw [acr_no (.inr rfl)]
    constructor
    · intro z; cases z
    · rintro ⟨t, _, _, e⟩; rw [bor0_no] at e; cases e
  | n, .nd _ _ _ _, .no, i, j, _, _ => by
    rw [acr_no (.inr rfl)]
    constructor
    · intro z; cases z
    · rintro ⟨t, _, _, e⟩; rw [bor0_no] at e; cases e
  | n, .num k, .num l, i, j, _, _ => by
    rw [acr_num]
    constructor
    · intro z
      have z := List.mem_singleton.mp z
      injection z with z1 z2
      have e0 := two_pos n
      exact ⟨0, by omega, by rw [bor_num (by omega), z1], by rw [bor0_num (by omega), z2]⟩
    · rintro ⟨t, ht, e1, e2⟩
      rw [bor_num ht] at e1
      rw [bor0_num ht] at e2
      injection e1 with e1
      injection e2 with e2
      rw [e1, e2]
      exact List.mem_singleton.mpr rfl
  | 0, .nd _ _ _ _, B, i, j, h1, _ => by simp [nok] at h1
  | 0, .num _, .nd _ _ _ _, i, j, _, h2 => by simp [nok] at h2
  | n + 1, .nd a0 a1 a2 a3, .num l, i, j, h1, h2 => acr_step (by simp) (by simp) (by simp [isNum]) h1 h2 (acr_iff (nok_part h1 _) (nok_part h2 _)) (acr_iff (nok_part h1 _) (nok_part h2 _))
  | n + 1, .num k, .nd b0 b1 b2 b3, i, j, h1, h2 => acr_step (by simp) (by simp) (by simp [isNum]) h1 h2 (acr_iff (nok_part h1 _) (nok_part h2 _)) (acr_iff (nok_part h1 _) (nok_part h2 _))
  | n + 1, .nd a0 a1 a2 a3, .nd b0 b1 b2 b3, i, j, h1, h2 => acr_step (by simp) (by simp) (by simp [isNum]) h1 h2 (acr_iff (nok_part h1 _) (nok_part h2 _)) (acr_iff (nok_part h1 _) (nok_part h2 _))
where
  acr_step {h : Bool} {n : Nat} {A B : NP} {i j : Nat} (nA : A ≠ .no) (nB : B ≠ .no) (nn : ¬ (isNum A = true ∧ isNum B = true)) (h1 : nok (n + 1) A = true) (h2 : nok (n + 1) B = true)
    (I1 : (i, j) ∈ acr h n (npart A (st1 h)) (npart B 0) ↔ ∃ t : Int, (0 ≤ t ∧ t < 2 ^ n) ∧ bor h n (npart A (st1 h)) t = some i ∧ bor0 h n (npart B 0) t = some j)
    (I2 : (i, j) ∈ acr h n (npart A 3) (npart B (3 - st1 h)) ↔ ∃ t : Int, (0 ≤ t ∧ t < 2 ^ n) ∧ bor h n (npart A 3) t = some i ∧ bor0 h n (npart B (3 - st1 h)) t = some j) :
    (i, j) ∈ acr h (n + 1) A B ↔ ∃ t : Int, (0 ≤ t ∧ t < 2 ^ (n + 1)) ∧ bor h (n + 1) A t = some i ∧ bor0 h (n + 1) B t = some j := by
    rw [acr_parts nA nB nn, List.mem_append, I1, I2]
    have e := two_succ n
    have e0 := two_pos n
    constructor
    · rintro (⟨t, ht, z1, z2⟩ | ⟨t, ht, z1, z2⟩)
      · exact ⟨t, by omega, by rw [bor_lo ht]; exact z1, by rw [bor0_lo ht]; exact z2⟩
      · exact ⟨2 ^ n + t, by omega, by rw [bor_hi ht]; exact z1, by rw [bor0_hi ht]; exact z2⟩
    · rintro ⟨t, ht, z1, z2⟩
      obtain ⟨v, hv, e1 | e1⟩ := half ht <;> subst e1
      · exact .inl ⟨_, hv, by rw [← bor_lo hv]; exact z1, by rw [← bor0_lo hv]; exact z2⟩
      · exact .inr ⟨v, hv, by rw [← bor_hi hv]; exact z1, by rw [← bor0_hi hv]; exact z2⟩
end Pl

namespace Pl
def memP (n : Nat) (S : Pic) : Pt → Prop := fun p => mem n S p.1 p.2 = true
theorem Eqv.map {α β : Type} {R : α → α → Prop} {S : β → β → Prop} (f : α → β) (h : ∀ a b, R a b → Eqv S (f a) (f b)) {a b : α} (e : Eqv R a b) : Eqv S (f a) (f b) := by
  induction e with
  | refl => exact .refl _
  | rel r => exact h _ _ r
  | symm _ ih => exact ih.symm
  | trans _ _ i1 i2 => exact i1.trans i2
theorem con_shift {M M' : Pt → Prop} (dx dy : Int) (h : ∀ x y, M (x, y) → M' (dx + x, dy + y)) {a b c d : Int} (e : Eqv (con M) (a, b) (c, d)) : Eqv (con M') (dx + a, dy + b) (dx + c, dy + d) := by
  have := Eqv.map (S := con M') (fun p : Pt => (dx + p.1, dy + p.2)) (fun p q r => by
    obtain ⟨h1, h2, h3⟩ := r
    refine .rel ⟨h p.1 p.2 h1, h q.1 q.2 h2, ?_⟩
    rw [nb_iff] at *
    simp only
    omega) e
  exact this
theorem con_mem {M : Pt → Prop} {a b : Pt} (e : Eqv (con M) a b) : M a ↔ M b := by
  induction e with
  | refl => exact Iff.rfl
  | rel r => exact ⟨fun _ => r.2.1, fun _ => r.1⟩
  | symm _ ih => exact ih.symm
  | trans _ _ i1 i2 => exact i1.trans i2
/-! ### labels and their places -/
theorem lab_rng : ∀ {n : Nat} {S : Pic} {k : Nat} {x y : Int} {i : Nat}, lab n (nam S k) x y = some i → k ≤ i ∧ i < k + blk S
  | n, .leaf b, k, x, y, i, h => by
    cases b with
    | false => simp [nam, lab_no] at h
    | true =>
      simp only [nam, if_true, lab_num] at h
      split at h
      · injection h with h
        simp only [blk, b2n, if_true]
        omega
      · cases h
  | 0, .node p q r s, k, x, y, i, h => by simp [nam, lab] at h
  | n + 1, .node p q r s, k, x, y, i, h => by
    simp only [nam, lab] at h
    simp only [blk]
    split at h <;> split at h
    · have := lab_rng h; omega
    · have := lab_rng h; omega
    · have := lab_rng h; omega
    · have := lab_rng h; omega
theorem node_lab {n : Nat} {p q r s : Pic} {k : Nat} {x y : Int} {i : Nat} (h : lab (n + 1) (nam (.node p q r s) k) x y = some i) : ∃ u v : Int, (0 ≤ u ∧ u < 2 ^ n) ∧ (0 ≤ v ∧ v < 2 ^ n) ∧
    ((x = 0 + u ∧ y = 0 + v ∧ lab n (nam p k) u v = some i) ∨ (x = 2 ^ n + u ∧ y = 0 + v ∧ lab n (nam q (k + blk p)) u v = some i) ∨ (x = 0 + u ∧ y = 2 ^ n + v ∧ lab n (nam r (k + blk p + blk q)) u v = some i) ∨ (x = 2 ^ n + u ∧ y = 2 ^ n + v ∧ lab n (nam s (k + blk p + blk q + blk r)) u v = some i)) := by
  obtain ⟨u, v, hu, hv, e⟩ := quart (lab_sq h)
  refine ⟨u, v, hu, hv, ?_⟩
  rcases e with ⟨rfl, rfl⟩ | ⟨rfl, rfl⟩ | ⟨rfl, rfl⟩ | ⟨rfl, rfl⟩
  · rw [lab_q0 hu hv] at h
    exact .inl ⟨by omega, by omega, h⟩
  · rw [lab_q1 hu hv] at h
    exact .inr (.inl ⟨rfl, by omega, h⟩)
  · rw [lab_q2 hu hv] at h
    exact .inr (.inr (.inl ⟨by omega, rfl, h⟩))
  · rw [lab_q3 hu hv] at h
    exact .inr (.inr (.inr ⟨rfl, rfl, h⟩))
theorem row_con {M : Pt → Prop} {N : Int} (hM : ∀ x y, 0 ≤ x → x < N → 0 ≤ y → y < N → M (x, y)) : ∀ (k : Nat) (y : Int), (k : Int) < N → 0 ≤ y → y < N → Eqv (con M) ((k : Int), y) (0, y)
  | 0, y, _, _, _ => .refl _
  | k + 1, y, h, h0, h1 => by
    refine .trans (.rel ⟨hM _ _ (by omega) h h0 h1, hM (k : Int) y (by omega) (by omega) h0 h1, ?_⟩) (row_con hM k y (by omega) h0 h1)
    exact nb_iff.mpr (.inr (.inl ⟨by show (k : Int) = ((k + 1 : Nat) : Int) - 1; omega, rfl⟩))
theorem col_con {M : Pt → Prop} {N : Int} (hM : ∀ x y, 0 ≤ x → x < N → 0 ≤ y → y < N → M (x, y)) : ∀ (k : Nat), (k : Int) < N → Eqv (con M) (0, (k : Int)) (0, 0)
  | 0, _ => .refl _
  | k + 1, h => by
    refine .trans (.rel ⟨hM _ _ (by omega) (by omega) (by omega) h, hM 0 (k : Int) (by omega) (by omega) (by omega) (by omega), ?_⟩) (col_con hM k (by omega))
    exact nb_iff.mpr (.inr (.inr (.inr ⟨rfl, by show (k : Int) = ((k + 1 : Nat) : Int) - 1; omega⟩)))
theorem full_con {M : Pt → Prop} {N : Int} (hM : ∀ x y, 0 ≤ x → x < N → 0 ≤ y → y < N → M (x, y)) {x y : Int} (x0 : 0 ≤ x) (x1 : x < N) (y0 : 0 ≤ y) (y1 : y < N) : Eqv (con M) (x, y) (0, 0) := by
  obtain ⟨a, rfl⟩ : ∃ a : Nat, x = (a : Int) := ⟨x.toNat, by omega⟩
  obtain ⟨b, rfl⟩ : ∃ a : Nat, y = (a : Int) := ⟨y.toNat, by omega⟩
  exact (row_con hM a _ x1 y0 y1).trans (col_con hM b y1)
theorem same_con : ∀ {n : Nat} {S : Pic} {k : Nat} {x y z w : Int} {i : Nat}, lab n (nam S k) x y = some i → lab n (nam S k) z w = some i → Eqv (con (memP n S)) (x, y) (z, w)
  | n, .leaf b, k, x, y, z, w, i, h1, h2 => by
    have s1 := lab_sq h1
    have s2 := lab_sq h2
    cases b with
    | false => simp [nam, lab_no] at h1
    | true =>
      have hM : ∀ x y : Int, 0 ≤ x → x < 2 ^ n → 0 ≤ y → y < 2 ^ n → memP n (.leaf true) (x, y) := fun x y a b c d => by
        show mem n (.leaf true) x y = true
        simp only [mem, Bool.true_and]
        exact sq_iff.mpr ⟨a, b, c, d⟩
      exact (full_con hM s1.1 s1.2.1 s1.2.2.1 s1.2.2.2).trans (full_con hM s2.1 s2.2.1 s2.2.2.1 s2.2.2.2).symm
  | 0, .node p q r s, k, x, y, z, w, i, h1, _ => by simp [nam, lab] at h1
  | n + 1, .node p q r s, k, x, y, z, w, i, h1, h2 => by
    obtain ⟨u, v, hu, hv, e⟩ := node_lab h1
    obtain ⟨u2, v2, hu2, hv2, e2⟩ := node_lab h2
    have m0 : ∀ x y, memP n p (x, y) → memP (n + 1) (.node p q r s) (0 + x, 0 + y) := fun x y h => by
      have hs := mem_sq h
      show mem (n + 1) (.node p q r s) (0 + x) (0 + y) = true
      rw [Int.zero_add, Int.zero_add, mem_q0 ⟨hs.1, hs.2.1⟩ hs.2.2]; exact h
    have m1 : ∀ x y, memP n q (x, y) → memP (n + 1) (.node p q r s) (2 ^ n + x, 0 + y) := fun x y h => by
      have hs := mem_sq h
      show mem (n + 1) (.node p q r s) (2 ^ n + x) (0 + y) = true
      rw [Int.zero_add, mem_q1 ⟨hs.1, hs.2.1⟩ hs.2.2]; exact h
    have m2 : ∀ x y, memP n r (x, y) → memP (n + 1) (.node p q r s) (0 + x, 2 ^ n + y) := fun x y h => by
      have hs := mem_sq h
      show mem (n + 1) (.node p q r s) (0 + x) (2 ^ n + y) = true
      rw [Int.zero_add, mem_q2 ⟨hs.1, hs.2.1⟩ hs.2.2]; exact h
    have m3 : ∀ x y, memP n s (x, y) → memP (n + 1) (.node p q r s) (2 ^ n + x, 2 ^ n + y) := fun x y h => by
      have hs := mem_sq h
      show mem (n + 1) (.node p q r s) (2 ^ n + x) (2 ^ n + y) = true
      rw [mem_q3 ⟨hs.1, hs.2.1⟩ hs.2.2]; exact h
    rcases e with ⟨rfl, rfl, l1⟩ | ⟨rfl, rfl, l1⟩ | ⟨rfl, rfl, l1⟩ | ⟨rfl, rfl, l1⟩ <;> rcases e2 with ⟨rfl, rfl, l2⟩ | ⟨rfl, rfl, l2⟩ | ⟨rfl, rfl, l2⟩ | ⟨rfl, rfl, l2⟩ <;>
      first
      | exact con_shift _ _ m0 (same_con l1 l2)
      | exact con_shift _ _ m1 (same_con l1 l2)
      | exact con_shift _ _ m2 (same_con l1 l2)
      | exact con_shift _ _ m3 (same_con l1 l2)
      | (exfalso
         have r1 := lab_rng l1
         have r2 := lab_rng l2
         omega)
theorem lab_surj : ∀ {n : Nat} {S : Pic} {k i : Nat}, dok n S = true → k ≤ i → i < k + blk S → ∃ x y : Int, lab n (nam S k) x y = some i
  | n, .leaf b, k, i, _, h1, h2 => by
    have e0 := two_pos n
    cases b with
    | false => simp only [blk, b2n] at h2; exfalso; simp at h2; omega
    | true =>
      simp only [blk, b2n, if_true] at h2
      have : i = k := by omega
      subst this
      refine ⟨0, 0, ?_⟩
      simp only [nam, if_true, lab_num]
      rw [sq_small (by omega) (by omega), if_pos rfl]
  | 0, .node p q r s, k, i, h, _, _ => by simp [dok] at h
  | n + 1, .node p q r s, k, i, h, h1, h2 => by
    simp only [dok, Bool.and_eq_true] at h
    simp only [blk] at h2
    by_cases c1 : i < k + blk p
    · obtain ⟨x, y, e⟩ := lab_surj h.1 h1 c1
      have hs := lab_sq e
      exact ⟨x, y, by rw [lab_q0 ⟨hs.1, hs.2.1⟩ hs.2.2]; exact e⟩
    · by_cases c2 : i < k + blk p + blk q
      · obtain ⟨x, y, e⟩ := lab_surj (k := k + blk p) h.2.1 (by omega) c2
        have hs := lab_sq e
        exact ⟨2 ^ n + x, y, by rw [lab_q1 ⟨hs.1, hs.2.1⟩ hs.2.2]; exact e⟩
      · by_cases c3 : i < k + blk p + blk q + blk r
        · obtain ⟨x, y, e⟩ := lab_surj (k := k + blk p + blk q) h.2.2.1 (by omega) c3
          have hs := lab_sq e
          exact ⟨x, 2 ^ n + y, by rw [lab_q2 ⟨hs.1, hs.2.1⟩ hs.2.2]; exact e⟩
        · obtain ⟨x, y, e⟩ := lab_surj (k := k + blk p + blk q + blk r) (i := i) h.2.2.2 (by omega) (by omega)
          have hs := lab_sq e
          exact ⟨2 ^ n + x, 2 ^ n + y, by rw [lab_q3 ⟨hs.1, hs.2.1⟩ hs.2.2]; exact e⟩
/-! ### the pairs that are joined, and places beside one another -/
theorem wit_adj : ∀ {n : Nat} {A : NP} {i j : Nat}, nok n A = true → (i, j) ∈ wit n A → ∃ x y z w : Int, ((z = x + 1 ∧ w = y) ∨ (z = x ∧ w = y + 1)) ∧ lab n A x y = some i ∧ lab n A z w = some j
  | n, .no, i, j, _, h => by cases n <;> simp [wit] at h
  | n, .num k, i, j, _, h => by cases n <;> simp [wit] at h
  | 0, .nd _ _ _ _, i, j, h, _ => by simp [nok] at h
  | n + 1, .nd a b c d, i, j, hk, h => by
    simp only [nok, Bool.and_eq_true] at hk
    obtain ⟨k1, k2, k3, k4⟩ := hk
    simp only [wit, Nat.add_sub_cancel, List.mem_append] at h
    have e := two_succ n
    have e0 := two_pos n
    rcases h with h | h | h | h | h | h | h | h
    · obtain ⟨x, y, z, w, e1, e2, e3⟩ := wit_adj k1 h
      have s2 := lab_sq e2
      have s3 := lab_sq e3
      exact ⟨x, y, z, w, e1, by rw [lab_q0 ⟨s2.1, s2.2.1⟩ s2.2.2]; exact e2, by rw [lab_q0 ⟨s3.1, s3.2.1⟩ s3.2.2]; exact e3⟩
    · obtain ⟨x, y, z, w, e1, e2, e3⟩ := wit_adj k2 h
      have s2 := lab_sq e2
      have s3 := lab_sq e3
      exact ⟨2 ^ n + x, y, 2 ^ n + z, w, by omega, by rw [lab_q1 ⟨s2.1, s2.2.1⟩ s2.2.2]; exact e2, by rw [lab_q1 ⟨s3.1, s3.2.1⟩ s3.2.2]; exact e3⟩
    · obtain ⟨x, y, z, w, e1, e2, e3⟩ := wit_adj k3 h
      have s2 := lab_sq e2
      have s3 := lab_sq e3
      exact ⟨x, 2 ^ n + y, z, 2 ^ n + w, by omega, by rw [lab_q2 ⟨s2.1, s2.2.1⟩ s2.2.2]; exact e2, by rw [lab_q2 ⟨s3.1, s3.2.1⟩ s3.2.2]; exact e3⟩
    · obtain ⟨x, y, z, w, e1, e2, e3⟩ := wit_adj k4 h
      have s2 := lab_sq e2
      have s3 := lab_sq e3
      exact ⟨2 ^ n + x, 2 ^ n + y, 2 ^ n + z, 2 ^ n + w, by omega, by rw [lab_q3 ⟨s2.1, s2.2.1⟩ s2.2.2]; exact e2, by rw [lab_q3 ⟨s3.1, s3.2.1⟩ s3.2.2]; exact e3⟩
    · obtain ⟨t, ht, e2, e3⟩ := (acr_iff k1 k2).mp h
      exact ⟨2 ^ n - 1, t, 2 ^ n + 0, t, by omega, by rw [lab_q0 (by omega) ht]; exact e2, by rw [lab_q1 (by omega) ht]; exact e3⟩
    · obtain ⟨t, ht, e2, e3⟩ := (acr_iff k3 k4).mp h
      exact ⟨2 ^ n - 1, 2 ^ n + t, 2 ^ n + 0, 2 ^ n + t, by omega, by rw [lab_q2 (by omega) ht]; exact e2, by rw [lab_q3 (by omega) ht]; exact e3⟩
    · obtain ⟨t, ht, e2, e3⟩ := (acr_iff k1 k3).mp h
      exact ⟨t, 2 ^ n - 1, t, 2 ^ n + 0, by omega, by rw [lab_q0 ht (by omega)]; exact e2, by rw [lab_q2 ht (by omega)]; exact e3⟩
    · obtain ⟨t, ht, e2, e3⟩ := (acr_iff k2 k4).mp h
      exact ⟨2 ^ n + t, 2 ^ n - 1, 2 ^ n + t, 2 ^ n + 0, by omega, by rw [lab_q1 ht (by omega)]; exact e2, by rw [lab_q3 ht (by omega)]; exact e3⟩
theorem adj_wit : ∀ {n : Nat} {A : NP} {x y : Int} {i j : Nat} (h : Bool), nok n A = true → lab n A x y = some i → lab n A (if h then x + 1 else x) (if h then y else y + 1) = some j → i = j ∨ (i, j) ∈ wit n A
  | n, .no, x, y, i, j, _, _, h, _ => by rw [lab_no] at h; cases h
  | n, .num k, x, y, i, j, h, _, h1, h2 => by
    generalize (if h then x + 1 else x) = z at h2
    generalize (if h then y else y + 1) = w at h2
    rw [lab_num] at h1 h2
    split at h1
    · split at h2
      · injection h1 with h1
        injection h2 with h2
        exact .inl (by omega)
      · cases h2
    · cases h1
  | 0, .nd _ _ _ _, x, y, i, j, _, h, _, _ => by simp [nok] at h
  | n + 1, .nd a b c d, x, y, i, j, h, hk, h1, h2 => by
    have s2 := lab_sq h2
    have s1 := lab_sq h1
    obtain ⟨u, v, hu, hv, e⟩ := quart s1
    have e9 := two_succ n
    have e0 := two_pos n
    have hk' := hk
    simp only [nok, Bool.and_eq_true] at hk'
    obtain ⟨k1, k2, k3, k4⟩ := hk'
    simp only [wit, Nat.add_sub_cancel, List.mem_append]
    cases h with
    | true =>
      simp only [if_true] at h2 s2
      rcases e with ⟨rfl, rfl⟩ | ⟨rfl, rfl⟩ | ⟨rfl, rfl⟩ | ⟨rfl, rfl⟩
      · rw [lab_q0 hu hv] at h1
        by_cases c1 : x + 1 < 2 ^ n
        · rw [lab_q0 ⟨by omega, c1⟩ hv] at h2
          rcases adj_wit true k1 h1 h2 with z | z
          · exact .inl z
          · exact .inr (.inl z)
        · rw [show x + 1 = 2 ^ n + 0 by omega, lab_q1 (by omega) hv] at h2
          rw [show x = 2 ^ n - 1 by omega] at h1
          exact .inr (.inr (.inr (.inr (.inr (.inl ((acr_iff k1 k2).mpr ⟨y, hv, h1, h2⟩))))))
      · rw [lab_q1 hu hv] at h1
        rw [show 2 ^ n + u + 1 = 2 ^ n + (u + 1) by omega, lab_q1 (by omega) hv] at h2
        rcases adj_wit true k2 h1 h2 with z | z
        · exact .inl z
        · exact .inr (.inr (.inl z))
      · rw [lab_q2 hu hv] at h1
        by_cases c1 : x + 1 < 2 ^ n
        · rw [lab_q2 ⟨by omega, c1⟩ hv] at h2
          rcases adj_wit true k3 h1 h2 with z | z
          · exact .inl z
          · exact .inr (.inr (.inr (.inl z)))
        · rw [show x + 1 = 2 ^ n + 0 by omega, lab_q3 (by omega) hv] at h2
          rw [show x = 2 ^ n - 1 by omega] at h1
          exact .inr (.inr (.inr (.inr (.inr (.inr (.inl ((acr_iff k3 k4).mpr ⟨v, hv, h1, h2⟩)))))))
      · rw [lab_q3 hu hv] at h1
        rw [show 2 ^ n + u + 1 = 2 ^ n + (u + 1) by omega, lab_q3 (by omega) hv] at h2
        rcases adj_wit true k4 h1 h2 with z | z
        · exact .inl z
        · exact .inr (.inr (.inr (.inr (.inl z))))
    | false =>
      simp only [Bool.false_eq_true, if_false] at h2 s2
      rcases e with ⟨rfl, rfl⟩ | ⟨rfl, rfl⟩ | ⟨rfl, rfl⟩ | ⟨rfl, rfl⟩
      · rw [lab_q0 hu hv] at h1
        by_cases c1 : y + 1 < 2 ^ n
        · rw [lab_q0 hu ⟨by omega, c1⟩] at h2
          rcases adj_wit false k1 h1 h2 with z | z
          · exact .inl z
          · exact .inr (.inl z)
        · rw [show y + 1 = 2 ^ n + 0 by omega, lab_q2 hu (by omega)] at h2
          rw [show y = 2 ^ n - 1 by omega] at h1
          exact .inr (.inr (.inr (.inr (.inr (.inr (.inr (.inl ((acr_iff k1 k3).mpr ⟨x, hu, h1, h2⟩))))))))
      · rw [lab_q1 hu hv] at h1
        by_cases c1 : y + 1 < 2 ^ n
        · rw [lab_q1 hu ⟨by omega, c1⟩] at h2
          rcases adj_wit false k2 h1 h2 with z | z
          · exact .inl z
          · exact .inr (.inr (.inl z))
        · rw [show y + 1 = 2 ^ n + 0 by omega, lab_q3 hu (by omega)] at h2
          rw [show y = 2 ^ n - 1 by omega] at h1
          exact .inr (.inr (.inr (.inr (.inr (.inr (.inr (.inr ((acr_iff k2 k4).mpr ⟨u, hu, h1, h2⟩))))))))
      · rw [lab_q2 hu hv] at h1
        rw [show 2 ^ n + v + 1 = 2 ^ n + (v + 1) by omega, lab_q2 hu (by omega)] at h2
        rcases adj_wit false k3 h1 h2 with z | z
        · exact .inl z
        · exact .inr (.inr (.inr (.inl z)))
      · rw [lab_q3 hu hv] at h1
        rw [show 2 ^ n + v + 1 = 2 ^ n + (v + 1) by omega, lab_q3 hu (by omega)] at h2
        rcases adj_wit false k4 h1 h2 with z | z
        · exact .inl z
        · exact .inr (.inr (.inr (.inr (.inl z))))
/-! ### regions by labels, and by places -/
section
variable {n : Nat} {S : Pic}
theorem lab_some {k : Nat} {p : Pt} (h : memP n S p) : ∃ i, lab n (nam S k) p.1 p.2 = some i := by
  have h : mem n S p.1 p.2 = true := h
  rw [mem_lab k] at h
  exact Option.isSome_iff_exists.mp h
theorem some_lab {k i : Nat} {x y : Int} (h : lab n (nam S k) x y = some i) : memP n S (x, y) := by
  show mem n S x y = true
  rw [mem_lab k, h]
  rfl
theorem con_lab (hd : dok n S = true) {a b : Pt} (e : Eqv (con (memP n S)) a b) : ∀ {i j : Nat}, lab n (nam S 0) a.1 a.2 = some i → lab n (nam S 0) b.1 b.2 = some j → Eqv (ER (wit n (nam S 0))) i j := by
  have hk := nok_nam 0 hd
  induction e with
  | refl => intro i j h1 h2; rw [h1] at h2; injection h2 with h2; rw [h2]; exact .refl _
  | @rel a b r =>
    intro i j h1 h2
    obtain ⟨_, _, h3⟩ := r
    rw [nb_iff] at h3
    have step : ∀ {x y z w : Int} {i j : Nat} (h : Bool), lab n (nam S 0) x y = some i → lab n (nam S 0) z w = some j → z = (if h then x + 1 else x) → w = (if h then y else y + 1) → Eqv (ER (wit n (nam S 0))) i j := fun {x y z w i j} h a1 a2 ez ew => by
      subst ez
      subst ew
      rcases adj_wit h hk a1 a2 with e | e
      · rw [e]; exact .refl _
      · exact .rel e
    rcases h3 with ⟨e1, e2⟩ | ⟨e1, e2⟩ | ⟨e1, e2⟩ | ⟨e1, e2⟩
    · exact step true h1 h2 e1 e2
    · exact (step true h2 h1 (by simp only [if_true]; omega) (by simp only [if_true]; omega)).symm
    · exact step false h1 h2 e1 e2
    · exact (step false h2 h1 (by simp; omega) (by simp; omega)).symm
  | symm _ ih => intro i j h1 h2; exact (ih h2 h1).symm
  | trans e1 _ i1 i2 =>
    intro i j h1 h2
    have hm := (con_mem e1).mp (some_lab h1)
    obtain ⟨m, hm⟩ := lab_some (k := 0) hm
    exact (i1 h1 hm).trans (i2 hm h2)
theorem lab_con (hd : dok n S = true) {i j : Nat} (e : Eqv (ER (wit n (nam S 0))) i j) : i < blk S → ∀ {x y z w : Int}, lab n (nam S 0) x y = some i → lab n (nam S 0) z w = some j → Eqv (con (memP n S)) (x, y) (z, w) := by
  have hk := nok_nam 0 hd
  have hl : ∀ e ∈ wit n (nam S 0), e.1 < blk S ∧ e.2 < blk S := wit_lt (nlt_nam (by omega))
  induction e with
  | refl => intro _ x y z w h1 h2; exact same_con h1 h2
  | rel r =>
    intro _ x y z w h1 h2
    obtain ⟨x2, y2, z2, w2, e1, e2, e3⟩ := wit_adj hk r
    refine (same_con h1 e2).trans (.trans (.rel ⟨some_lab e2, some_lab e3, ?_⟩) (same_con e3 h2))
    rw [nb_iff]
    simp only
    omega
  | symm e ih => intro hi x y z w h1 h2; exact (ih ((Eqv.lt hl e).mpr hi) h2 h1).symm
  | @trans a b c e1 _ i1 i2 =>
    intro hi x y z w h1 h2
    have hb := (Eqv.lt hl e1).mp hi
    obtain ⟨u, v, hm⟩ := lab_surj (k := 0) hd (Nat.zero_le b) (by omega)
    exact (i1 hi h1 hm).trans (i2 hb hm h2)
theorem reps_lab (hd : dok n S = true) {rs : List Pt} (h : Reps (con (memP n S)) (memP n S) rs) : NCl (blk S) (wit n (nam S 0)) rs.length := by
  refine ⟨rs.map fun p => (lab n (nam S 0) p.1 p.2).getD 0, List.length_map .., ?_⟩
  refine h.map _ (fun a ha => ?_) (fun a b ha hb => ?_) (fun v hv => ?_)
  · obtain ⟨i, hi⟩ := lab_some (k := 0) ha
    have := lab_rng hi
    rw [hi]
    show i < blk S
    omega
  · obtain ⟨i, hi⟩ := lab_some (k := 0) ha
    obtain ⟨j, hj⟩ := lab_some (k := 0) hb
    have := lab_rng hi
    rw [hi, hj]
    exact ⟨fun e => lab_con hd e (show i < blk S by omega) hi hj, fun e => con_lab hd e hi hj⟩
  · obtain ⟨x, y, e⟩ := lab_surj (k := 0) (i := v) hd (Nat.zero_le v) (by omega)
    refine ⟨(x, y), some_lab e, ?_⟩
    rw [e]
    exact .refl _
theorem lab_reps (hd : dok n S = true) {c : Nat} (h : NCl (blk S) (wit n (nam S 0)) c) : ∃ rs : List Pt, rs.length = c ∧ Reps (con (memP n S)) (memP n S) rs := by
  obtain ⟨rs, rfl, h⟩ := h
  have ch : ∀ i, ∃ p : Pt, i < blk S → lab n (nam S 0) p.1 p.2 = some i := fun i => by
    by_cases hi : i < blk S
    · obtain ⟨x, y, e⟩ := lab_surj (k := 0) (i := i) hd (Nat.zero_le i) (by omega)
      exact ⟨(x, y), fun _ => e⟩
    · exact ⟨(0, 0), fun z => absurd z hi⟩
  refine ⟨rs.map fun i => (ch i).choose, List.length_map .., ?_⟩
  refine h.map _ (fun a ha => some_lab ((ch a).choose_spec ha)) (fun a b ha hb => ?_) (fun v hv => ?_)
  · exact ⟨fun e => con_lab hd e ((ch a).choose_spec ha) ((ch b).choose_spec hb), fun e => lab_con hd e ha ((ch a).choose_spec ha) ((ch b).choose_spec hb)⟩
  · obtain ⟨i, hi⟩ := lab_some (k := 0) hv
    have hr := lab_rng hi
    have hi2 : i < blk S := by omega
    exact ⟨i, hi2, same_con hi ((ch i).choose_spec hi2)⟩
end
end Pl

namespace Pl
/-! ## The counts as sums over the square -/
def ind (n : Nat) (S : Pic) (i j : Nat) : Nat := b2n (mem n S (i : Int) (j : Int))
section
variable {n : Nat} {S : Pic} {i j : Nat}
theorem cast_lt (h : i < 2 ^ n) : 0 ≤ (i : Int) ∧ (i : Int) < 2 ^ n := by
  have := two_cast n
  omega
theorem ind_q0 (hi : i < 2 ^ n) (hj : j < 2 ^ n) : ind (n + 1) S i j = ind n (part S 0) i j := congrArg b2n (mem_q0 (cast_lt hi) (cast_lt hj))
theorem ind_q1 (hi : i < 2 ^ n) (hj : j < 2 ^ n) : ind (n + 1) S (2 ^ n + i) j = ind n (part S 1) i j := by
  have := mem_q1 (P := S) (cast_lt hi) (cast_lt hj)
  rw [← two_cast n, ← Int.natCast_add] at this
  exact congrArg b2n this
theorem ind_q2 (hi : i < 2 ^ n) (hj : j < 2 ^ n) : ind (n + 1) S i (2 ^ n + j) = ind n (part S 2) i j := by
  have := mem_q2 (P := S) (cast_lt hi) (cast_lt hj)
  rw [← two_cast n, ← Int.natCast_add] at this
  exact congrArg b2n this
theorem ind_q3 (hi : i < 2 ^ n) (hj : j < 2 ^ n) : ind (n + 1) S (2 ^ n + i) (2 ^ n + j) = ind n (part S 3) i j := by
  have := mem_q3 (P := S) (cast_lt hi) (cast_lt hj)
  rw [← two_cast n, ← Int.natCast_add, ← Int.natCast_add] at this
  exact congrArg b2n this
theorem ind_out (h : 2 ^ n ≤ i ∨ 2 ^ n ≤ j) : ind n S i j = 0 := by
  have := two_cast n
  show b2n (mem n S i j) = 0
  rw [mem_out (by omega)]
  rfl
theorem ind_leaf {b : Bool} (hi : i < 2 ^ n) (hj : j < 2 ^ n) : ind n (.leaf b) i j = b2n b := by
  show b2n (mem n (.leaf b) i j) = _
  simp only [mem]
  rw [sq_small (cast_lt hi) (cast_lt hj), Bool.and_true]
theorem ind_white : ind n (.leaf false) i j = 0 := by
  show b2n (mem n (.leaf false) i j) = _
  simp only [mem, Bool.false_and]
  rfl
end
theorem A2_const (N M c : Nat) : A2 N M (fun _ _ => c) = N * (M * c) := by
  unfold A2
  rw [← sm_const]
  exact sm_congr fun i _ => sm_const _ _
theorem A2_flip (N : Nat) (f : Nat → Nat → Nat) : A2 N N f = A2 N N fun i j => f j i := A2_swap N f N
theorem pow_dbl (n : Nat) : 2 ^ (n + 1) = 2 ^ n + 2 ^ n := by rw [Nat.pow_succ]; omega
theorem bc_ind : ∀ {n : Nat} {S : Pic}, dok n S = true → bc n S = A2 (2 ^ n) (2 ^ n) (ind n S)
  | n, .leaf b, _ => by
    rw [A2_congr (g := fun _ _ => b2n b) fun i j hi hj => ind_leaf hi hj, A2_const]
    have e : 2 ^ (2 * n) = 2 ^ n * 2 ^ n := by rw [← Nat.pow_add]; congr 1; omega
    have e2 : bc n (.leaf b) = b2n b * 2 ^ (2 * n) := by cases n <;> rfl
    rw [e2, e, Nat.mul_comm (b2n b), Nat.mul_assoc]
  | 0, .node _ _ _ _, h => by simp [dok] at h
  | n + 1, .node p q r s, h => by
    simp only [dok, Bool.and_eq_true] at h
    rw [pow_dbl, A2_quad]
    simp only [bc, Nat.add_sub_cancel]
    rw [bc_ind h.1, bc_ind h.2.1, bc_ind h.2.2.1, bc_ind h.2.2.2]
    rw [A2_congr (f := ind (n + 1) (.node p q r s)) (g := ind n p) fun i j hi hj => ind_q0 hi hj]
    rw [A2_congr (f := fun i j => ind (n + 1) (.node p q r s) (2 ^ n + i) j) (g := ind n q) fun i j hi hj => ind_q1 hi hj]
    rw [A2_congr (f := fun i j => ind (n + 1) (.node p q r s) i (2 ^ n + j)) (g := ind n r) fun i j hi hj => ind_q2 hi hj]
    rw [A2_congr (f := fun i j => ind (n + 1) (.node p q r s) (2 ^ n + i) (2 ^ n + j)) (g := ind n s) fun i j hi hj => ind_q3 hi hj]
/-! ### over a border -/
def bo (h : Bool) (n : Nat) (S : Pic) (t : Nat) : Nat := if h then ind n S (2 ^ n - 1) t else ind n S t (2 ^ n - 1)
def bo0 (h : Bool) (n : Nat) (S : Pic) (t : Nat) : Nat := if h then ind n S 0 t else ind n S t 0
section
variable {n : Nat} {S : Pic} {h : Bool} {t : Nat}
theorem pow1' (n : Nat) : 1 ≤ (2 : Nat) ^ n := Nat.one_le_two_pow
theorem bo_lo (ht : t < 2 ^ n) : bo h (n + 1) S t = bo h n (part S (st1 h)) t := by
  have e := pow_dbl n
  have e0 := pow1' n
  cases h
  · show ind (n + 1) S t (2 ^ (n + 1) - 1) = ind n (part S 2) t (2 ^ n - 1)
    rw [show (2 : Nat) ^ (n + 1) - 1 = 2 ^ n + (2 ^ n - 1) by omega]
    exact ind_q2 ht (by omega)
  · show ind (n + 1) S (2 ^ (n + 1) - 1) t = ind n (part S 1) (2 ^ n - 1) t
    rw [show (2 : Nat) ^ (n + 1) - 1 = 2 ^ n + (2 ^ n - 1) by omega]
    exact ind_q1 (by omega) ht
theorem bo_hi (ht : t < 2 ^ n) : bo h (n + 1) S (2 ^ n + t) = bo h n (part S 3) t := by
  have e := pow_dbl n
  have e0 := pow1' n
  cases h
  · show ind (n + 1) S (2 ^ n + t) (2 ^ (n + 1) - 1) = ind n (part S 3) t (2 ^ n - 1)
    rw [show (2 : Nat) ^ (n + 1) - 1 = 2 ^ n + (2 ^ n - 1) by omega]
    exact ind_q3 ht (by omega)
  · show ind (n + 1) S (2 ^ (n + 1) - 1) (2 ^ n + t) = ind n (part S 3) (2 ^ n - 1) t
    rw [show (2 : Nat) ^ (n + 1) - 1 = 2 ^ n + (2 ^ n - 1) by omega]
    exact ind_q3 (by omega) ht
theorem bo0_lo (ht : t < 2 ^ n) : bo0 h (n + 1) S t = bo0 h n (part S 0) t := by
  have e0 := pow1' n
  cases h
  · exact ind_q0 ht (by omega)
  · exact ind_q0 (by omega) ht
theorem bo0_hi (ht : t < 2 ^ n) : bo0 h (n + 1) S (2 ^ n + t) = bo0 h n (part S (3 - st1 h)) t := by
  have e0 := pow1' n
  cases h
  · exact ind_q1 ht (by omega)
  · exact ind_q2 (by omega) ht
theorem bo_leaf {b : Bool} (ht : t < 2 ^ n) : bo h n (.leaf b) t = b2n b := by
  have e0 := pow1' n
  cases h
  · exact ind_leaf ht (by omega)
  · exact ind_leaf (by omega) ht
theorem bo0_leaf {b : Bool} (ht : t < 2 ^ n) : bo0 h n (.leaf b) t = b2n b := by
  have e0 := pow1' n
  cases h
  · exact ind_leaf ht (by omega)
  · exact ind_leaf (by omega) ht
end
theorem pa_sum {h : Bool} : ∀ {n : Nat} {a b : Pic}, dok n a = true → dok n b = true → pa h n a b = sm (fun t => bo h n a t * bo0 h n b t) (2 ^ n)
  | 0, .leaf b, .leaf c, _, _ => by
    show (if Pic.leaf b = .leaf true ∧ Pic.leaf c = .leaf true then 1 else 0) = 0 + bo h 0 (.leaf b) 0 * bo0 h 0 (.leaf c) 0
    rw [bo_leaf (by decide), bo0_leaf (by decide)]
    cases b <;> cases c <;> simp [b2n]
  | 0, .node _ _ _ _, _, h1, _ => by simp [dok] at h1
  | 0, .leaf _, .node _ _ _ _, _, h2 => by simp [dok] at h2
  | n + 1, a, b, h1, h2 => by
    simp only [pa]
    by_cases c1 : a = .leaf false ∨ b = .leaf false
    · rw [if_pos c1, sm_zero]
      intro t ht
      rcases c1 with rfl | rfl
      · rw [bo_leaf ht]; simp [b2n]
      · rw [bo0_leaf ht]; simp [b2n]
    · rw [if_neg c1]
      by_cases c2 : a = .leaf true ∧ b = .leaf true
      · rw [if_pos c2]
        obtain ⟨rfl, rfl⟩ := c2
        rw [sm_congr (g := fun _ => 1) fun t ht => by rw [bo_leaf ht, bo0_leaf ht]; rfl, sm_const, Nat.mul_one]
      · rw [if_neg c2, pow_dbl, sm_split, pa_sum (dok_part h1 _) (dok_part h2 _), pa_sum (dok_part h1 _) (dok_part h2 _)]
        rw [sm_congr (f := fun t => bo h (n + 1) a t * bo0 h (n + 1) b t) (g := fun t => bo h n (part a (st1 h)) t * bo0 h n (part b 0) t) fun t ht => by rw [bo_lo ht, bo0_lo ht]]
        rw [sm_congr (f := fun t => bo h (n + 1) a (2 ^ n + t) * bo0 h (n + 1) b (2 ^ n + t)) (g := fun t => bo h n (part a 3) t * bo0 h n (part b (3 - st1 h)) t) fun t ht => by rw [bo_hi ht, bo0_hi ht]]
/-! ### within -/
/-- neighbours to the right -/
def nbr (N : Nat) (f : Nat → Nat → Nat) : Nat := A2 N N fun i j => f i j * f (i + 1) j
theorem nbr_congr {N : Nat} {f g : Nat → Nat → Nat} (h : ∀ i j, i ≤ N → j < N → f i j = g i j) : nbr N f = nbr N g := A2_congr fun i j hi hj => by rw [h i j (by omega) hj, h (i + 1) j (by omega) hj]
theorem nbr_cross {N : Nat} {I a b : Nat → Nat → Nat} (hN : 1 ≤ N) (h1 : ∀ i j, i < N → j < N → I i j = a i j) (h2 : ∀ j, j < N → I N j = b 0 j) (h3 : ∀ j, j < N → a N j = 0) : A2 N N (fun i j => I i j * I (i + 1) j) = nbr N a + sm (fun j => a (N - 1) j * b 0 j) N := by
  rw [A2_congr (g := fun i j => a i j * a (i + 1) j + a i j * (if i = N - 1 then b 0 j else 0)) fun i j hi hj => ?_, A2_plus]
  · refine congrArg (nbr N a + ·) ?_
    unfold A2
    refine sm_one (k := N - 1) (by omega) (sm_congr fun j hj => by
      show a (N - 1) j * (if N - 1 = N - 1 then b 0 j else 0) = _
      rw [if_pos rfl]) fun i hi hn => sm_zero fun j hj => by
      show a i j * (if i = N - 1 then b 0 j else 0) = 0
      rw [if_neg hn, Nat.mul_zero]
  · rw [h1 i j hi hj]
    by_cases e : i = N - 1
    · rw [if_pos e, show i + 1 = N by omega, h2 j hj, h3 j hj, Nat.mul_zero, Nat.zero_add]
    · rw [if_neg e, h1 (i + 1) j (by omega) hj, Nat.mul_zero]
      rfl
theorem nbr_last {N : Nat} {I b : Nat → Nat → Nat} (h1 : ∀ i j, i < N → j < N → I (N + i) j = b i j) (h2 : ∀ j, j < N → I (N + N) j = 0) (h3 : ∀ j, j < N → b N j = 0) : A2 N N (fun i j => I (N + i) j * I (N + i + 1) j) = nbr N b :=
  A2_congr fun i j hi hj => by
    rw [h1 i j hi hj]
    by_cases e : i + 1 = N
    · rw [show N + i + 1 = N + N by omega, h2 j hj, e, h3 j hj]
    · rw [show N + i + 1 = N + (i + 1) by omega, h1 (i + 1) j (by omega) hj]
theorem nbr_quad {N : Nat} {I a b c d : Nat → Nat → Nat} (hN : 1 ≤ N) (ha : ∀ i j, i < N → j < N → I i j = a i j) (hb : ∀ i j, i < N → j < N → I (N + i) j = b i j) (hc : ∀ i j, i < N → j < N → I i (N + j) = c i j) (hd : ∀ i j, i < N → j < N → I (N + i) (N + j) = d i j)
    (za : ∀ j, j < N → a N j = 0) (zb : ∀ j, j < N → b N j = 0) (zc : ∀ j, j < N → c N j = 0) (zd : ∀ j, j < N → d N j = 0) (zI : ∀ j, j < N + N → I (N + N) j = 0) :
    nbr (N + N) I = (nbr N a + (nbr N b + (nbr N c + nbr N d))) + (sm (fun j => a (N - 1) j * b 0 j) N + sm (fun j => c (N - 1) j * d 0 j) N) := by
  show A2 (N + N) (N + N) (fun i j => I i j * I (i + 1) j) = _
  rw [A2_quad]
  rw [nbr_cross (I := I) (a := a) (b := b) hN ha (fun j hj => hb 0 j (by omega) hj) za]
  rw [show A2 N N (fun i j => I (N + i) j * I (N + i + 1) j) = nbr N b from nbr_last hb (fun j hj => zI j (by omega)) zb]
  have h3 := nbr_cross (I := fun i j => I i (N + j)) (a := c) (b := d) hN hc (fun j hj => hd 0 j (by omega) hj) zc
  have h4 := nbr_last (I := fun i j => I i (N + j)) (b := d) hd (fun j hj => zI (N + j) (by omega)) zd
  rw [h3, h4]
  omega
theorem nbr_leaf {N : Nat} {I : Nat → Nat → Nat} {c : Nat} (h1 : ∀ i j, i < N → j < N → I i j = c) (h2 : ∀ j, j < N → I N j = 0) : nbr N I = (N - 1) * (N * (c * c)) := by
  cases N with
  | zero => show 0 = _; simp
  | succ M =>
    show sm (fun i => sm (fun j => I i j * I (i + 1) j) (M + 1)) M + sm (fun j => I M j * I (M + 1) j) (M + 1) = _
    rw [sm_zero (f := fun j => I M j * I (M + 1) j) fun j hj => by rw [h2 j hj, Nat.mul_zero], Nat.add_zero]
    have := A2_const M (M + 1) (c * c)
    unfold A2 at this
    rw [Nat.add_sub_cancel, ← this]
    exact sm_congr fun i hi => sm_congr fun j hj => by rw [h1 i j (by omega) hj, h1 (i + 1) j (by omega) hj]
theorem pw_ind : ∀ {n : Nat} {S : Pic}, dok n S = true → pw n S = nbr (2 ^ n) (ind n S) + nbr (2 ^ n) (fun i j => ind n S j i)
  | n, .leaf b, _ => by
    rw [nbr_leaf (c := b2n b) (fun i j hi hj => ind_leaf hi hj) (fun j hj => ind_out (.inl (Nat.le_refl _))), nbr_leaf (c := b2n b) (fun i j hi hj => ind_leaf hj hi) (fun j hj => ind_out (.inr (Nat.le_refl _)))]
    have e : b2n b * b2n b = b2n b := by cases b <;> rfl
    rw [e]
    cases n <;> simp only [pw]
    · cases b <;> simp [b2n]
    · cases b
      · simp [b2n]
      · simp only [b2n, if_true, Nat.mul_one, Nat.one_mul]
        omega
  | 0, .node _ _ _ _, h => by simp [dok] at h
  | n + 1, .node p q r s, h => by
    simp only [dok, Bool.and_eq_true] at h
    obtain ⟨k1, k2, k3, k4⟩ := h
    simp only [pw, Nat.add_sub_cancel]
    rw [pw_ind k1, pw_ind k2, pw_ind k3, pw_ind k4, pa_sum k1 k2, pa_sum k3 k4, pa_sum k1 k3, pa_sum k2 k4, pow_dbl]
    rw [nbr_quad (I := ind (n + 1) (.node p q r s)) (a := ind n p) (b := ind n q) (c := ind n r) (d := ind n s) (pow1' n) (fun i j hi hj => ind_q0 hi hj) (fun i j hi hj => ind_q1 hi hj) (fun i j hi hj => ind_q2 hi hj) (fun i j hi hj => ind_q3 hi hj)
      (fun j hj => ind_out (.inl (Nat.le_refl _))) (fun j hj => ind_out (.inl (Nat.le_refl _))) (fun j hj => ind_out (.inl (Nat.le_refl _))) (fun j hj => ind_out (.inl (Nat.le_refl _))) (fun j hj => ind_out (.inl (by rw [pow_dbl]; exact Nat.le_refl _)))]
    rw [nbr_quad (I := fun i j => ind (n + 1) (.node p q r s) j i) (a := fun i j => ind n p j i) (b := fun i j => ind n r j i) (c := fun i j => ind n q j i) (d := fun i j => ind n s j i) (pow1' n) (fun i j hi hj => ind_q0 hj hi) (fun i j hi hj => ind_q2 hj hi) (fun i j hi hj => ind_q1 hj hi) (fun i j hi hj => ind_q3 hj hi)
      (fun j hj => ind_out (.inr (Nat.le_refl _))) (fun j hj => ind_out (.inr (Nat.le_refl _))) (fun j hj => ind_out (.inr (Nat.le_refl _))) (fun j hj => ind_out (.inr (Nat.le_refl _))) (fun j hj => ind_out (.inr (by rw [pow_dbl]; exact Nat.le_refl _)))]
    simp only [bo, bo0, if_true, Bool.false_eq_true, if_false]
    omega
end Pl

namespace Pl
/-! ## The counts by a list of places -/
def sqP (n : Nat) (p : Pt) : Prop := 0 ≤ p.1 ∧ p.1 < 2 ^ n ∧ 0 ≤ p.2 ∧ p.2 < 2 ^ n
theorem sum_pts {n : Nat} (f : Pt → Nat) : ∀ {ps : List Pt}, ps.Nodup → (∀ p ∈ ps, sqP n p) → (ps.map f).sum = A2 (2 ^ n) (2 ^ n) fun i j => if ((i : Int), (j : Int)) ∈ ps then f ((i : Int), (j : Int)) else 0
  | [], _, _ => by
    rw [A2_zero fun i j _ _ => by rw [if_neg (by simp)]]
    rfl
  | p :: ps, hn, hs => by
    rw [List.nodup_cons] at hn
    have ih := sum_pts f hn.2 fun q hq => hs q (List.mem_cons_of_mem _ hq)
    rw [List.map_cons, List.sum_cons, ih]
    have hp := hs p List.mem_cons_self
    have e2 := two_cast n
    unfold sqP at hp
    have h1 : A2 (2 ^ n) (2 ^ n) (fun i j => if ((i : Int), (j : Int)) = p then f p else 0) = f p := by
      refine A2_one (a := p.1.toNat) (b := p.2.toNat) (by omega) (by omega) (by rw [if_pos (Prod.ext (by simp only; omega) (by simp only; omega))]) fun i j hi hj hn => ?_
      rw [if_neg]
      intro e
      have h1 := congrArg Prod.fst e
      have h2 := congrArg Prod.snd e
      simp only at h1 h2
      exact hn ⟨by omega, by omega⟩
    rw [← h1, ← A2_plus]
    refine A2_congr fun i j hi hj => ?_
    by_cases e : ((i : Int), (j : Int)) = p
    · rw [if_pos e, if_neg (by rw [e]; exact hn.1), if_pos (by rw [e]; exact List.mem_cons_self), Nat.add_zero, e]
    · rw [if_neg e, Nat.zero_add]
      by_cases e3 : ((i : Int), (j : Int)) ∈ ps
      · rw [if_pos e3, if_pos (List.mem_cons_of_mem _ e3)]
      · rw [if_neg e3, if_neg fun z => by
          rcases List.mem_cons.mp z with z | z
          · exact e z
          · exact e3 z]
theorem shift_sum {N : Nat} {I J : Nat → Nat → Nat} (hN : 1 ≤ N) (h0 : ∀ j, j < N → J 0 j = 0) (hJ : ∀ i j, i + 1 < N → j < N → J (i + 1) j = I i j) (hI : ∀ j, j < N → I N j = 0) : A2 N N (fun i j => I i j * J i j) = nbr N I := by
  obtain ⟨M, rfl⟩ : ∃ M, N = M + 1 := ⟨N - 1, by omega⟩
  show sm (fun i => sm (fun j => I i j * J i j) (M + 1)) (M + 1) = sm (fun i => sm (fun j => I i j * I (i + 1) j) (M + 1)) M + sm (fun j => I M j * I (M + 1) j) (M + 1)
  rw [sm_zero (f := fun j => I M j * I (M + 1) j) fun j hj => by rw [hI j hj, Nat.mul_zero], Nat.add_zero]
  refine sm_shift (sm_zero fun j hj => by rw [h0 j hj, Nat.mul_zero]) fun i hi => sm_congr fun j hj => ?_
  rw [hJ i j (by omega) hj, Nat.mul_comm]
section
variable {n : Nat} {S : Pic} {ps : List Pt}
theorem nb_count (p : Pt) : ((nb p).filter fun q => decide (q ∉ ps)).length + ((if (p.1 + 1, p.2) ∈ ps then 1 else 0) + ((if (p.1 - 1, p.2) ∈ ps then 1 else 0) + ((if (p.1, p.2 + 1) ∈ ps then 1 else 0) + (if (p.1, p.2 - 1) ∈ ps then 1 else 0)))) = 4 := by
  simp only [nb, List.filter_cons, List.filter_nil]
  by_cases a : (p.1 + 1, p.2) ∈ ps <;> by_cases b : (p.1 - 1, p.2) ∈ ps <;> by_cases c : (p.1, p.2 + 1) ∈ ps <;> by_cases d : (p.1, p.2 - 1) ∈ ps <;> simp [a, b, c, d]
theorem list_sum_add (f g : Pt → Nat) : ∀ ps : List Pt, (ps.map fun p => f p + g p).sum = (ps.map f).sum + (ps.map g).sum
  | [] => rfl
  | p :: ps => by
    rw [List.map_cons, List.map_cons, List.map_cons, List.sum_cons, List.sum_cons, List.sum_cons, list_sum_add f g ps]
    omega
theorem list_sum_const (c : Nat) : ∀ ps : List Pt, (ps.map fun _ => c).sum = c * ps.length
  | [] => rfl
  | p :: ps => by
    rw [List.map_cons, List.sum_cons, list_sum_const c ps, List.length_cons, Nat.mul_succ]
    omega
theorem len_bc (hd : dok n S = true) (hn : ps.Nodup) (hm : ∀ p, p ∈ ps ↔ memP n S p) : ps.length = bc n S := by
  have h := sum_pts (n := n) (fun _ => 1) hn fun p hp => mem_sq ((hm p).mp hp)
  rw [list_sum_const, Nat.one_mul] at h
  rw [h, bc_ind hd]
  refine A2_congr fun i j hi hj => ?_
  show _ = b2n (mem n S i j)
  by_cases e : ((i : Int), (j : Int)) ∈ ps
  · rw [if_pos e, show mem n S i j = true from (hm _).mp e]; rfl
  · rw [if_neg e]
    cases z : mem n S i j with
    | false => rfl
    | true => exact absurd ((hm ((i : Int), (j : Int))).mpr z) e
theorem sides_pw (hd : dok n S = true) (hn : ps.Nodup) (hm : ∀ p, p ∈ ps ↔ memP n S p) : sidesN ps + 2 * pw n S = 4 * ps.length := by
  have hs : ∀ p ∈ ps, sqP n p := fun p hp => mem_sq ((hm p).mp hp)
  have hi : ∀ i j : Nat, ind n S i j = if ((i : Int), (j : Int)) ∈ ps then 1 else 0 := fun i j => by
    show b2n (mem n S i j) = _
    by_cases e : ((i : Int), (j : Int)) ∈ ps
    · rw [if_pos e, show mem n S i j = true from (hm _).mp e]; rfl
    · rw [if_neg e]
      cases z : mem n S i j with
      | false => rfl
      | true => exact absurd ((hm ((i : Int), (j : Int))).mpr z) e
  have hout : ∀ x y : Int, ¬ sqP n (x, y) → (if (x, y) ∈ ps then 1 else 0) = 0 := fun x y h => by rw [if_neg fun z => h (hs _ z)]
  have e0 := pow1' n
  have sel : ∀ (i j : Nat) (g : Nat), (if ((i : Int), (j : Int)) ∈ ps then g else 0) = ind n S i j * g := fun i j g => by
    rw [hi]
    split
    · rw [Nat.one_mul]
    · rw [Nat.zero_mul]
  have c := (list_sum_add (fun p => ((nb p).filter fun q => decide (q ∉ ps)).length) (fun p => (if (p.1 + 1, p.2) ∈ ps then 1 else 0) + ((if (p.1 - 1, p.2) ∈ ps then 1 else 0) + ((if (p.1, p.2 + 1) ∈ ps then 1 else 0) + (if (p.1, p.2 - 1) ∈ ps then 1 else 0)))) ps).symm
  rw [show (ps.map fun p => ((nb p).filter fun q => decide (q ∉ ps)).length + ((if (p.1 + 1, p.2) ∈ ps then 1 else 0) + ((if (p.1 - 1, p.2) ∈ ps then 1 else 0) + ((if (p.1, p.2 + 1) ∈ ps then 1 else 0) + (if (p.1, p.2 - 1) ∈ ps then 1 else 0))))) = ps.map fun _ => 4 from List.map_congr_left fun p _ => nb_count p, list_sum_const] at c
  rw [list_sum_add, list_sum_add, list_sum_add] at c
  have z := two_cast n
  have c1 : (ps.map fun p : Pt => if (p.1 + 1, p.2) ∈ ps then 1 else 0).sum = nbr (2 ^ n) (ind n S) := by
    rw [sum_pts (n := n) (fun p : Pt => if (p.1 + 1, p.2) ∈ ps then 1 else 0) hn hs]
    refine A2_congr fun i j _ _ => ?_
    rw [sel, hi (i + 1) j]
    rfl
  have c2 : (ps.map fun p : Pt => if (p.1 - 1, p.2) ∈ ps then 1 else 0).sum = nbr (2 ^ n) (ind n S) := by
    rw [sum_pts (n := n) (fun p : Pt => if (p.1 - 1, p.2) ∈ ps then 1 else 0) hn hs, ← shift_sum (I := ind n S) (J := fun i j => if ((i : Int) - 1, (j : Int)) ∈ ps then 1 else 0) e0 (fun j hj => ?_) (fun i j hi' hj => ?_) fun j hj => ind_out (.inl (Nat.le_refl _))]
    · exact A2_congr fun i j _ _ => sel i j _
    · exact hout _ _ fun h => by unfold sqP at h; simp only at h; omega
    · rw [hi]
      show (if (((i + 1 : Nat) : Int) - 1, (j : Int)) ∈ ps then 1 else 0) = _
      rw [show ((i + 1 : Nat) : Int) - 1 = (i : Int) by omega]
  have c3 : (ps.map fun p : Pt => if (p.1, p.2 + 1) ∈ ps then 1 else 0).sum = nbr (2 ^ n) (fun i j => ind n S j i) := by
    rw [sum_pts (n := n) (fun p : Pt => if (p.1, p.2 + 1) ∈ ps then 1 else 0) hn hs, A2_flip]
    refine A2_congr fun i j _ _ => ?_
    rw [sel]
    show ind n S j i * (if ((j : Int), (i : Int) + 1) ∈ ps then 1 else 0) = ind n S j i * ind n S j (i + 1)
    rw [hi j (i + 1)]
    rfl
  have c4 : (ps.map fun p : Pt => if (p.1, p.2 - 1) ∈ ps then 1 else 0).sum = nbr (2 ^ n) (fun i j => ind n S j i) := by
    rw [sum_pts (n := n) (fun p : Pt => if (p.1, p.2 - 1) ∈ ps then 1 else 0) hn hs, A2_flip, ← shift_sum (I := fun i j => ind n S j i) (J := fun i j => if ((j : Int), (i : Int) - 1) ∈ ps then 1 else 0) e0 (fun j hj => ?_) (fun i j hi' hj => ?_) fun j hj => ind_out (.inr (Nat.le_refl _))]
    · exact A2_congr fun i j _ _ => sel j i _
    · exact hout _ _ fun h => by unfold sqP at h; simp only at h; omega
    · rw [hi]
      show (if ((j : Int), ((i + 1 : Nat) : Int) - 1) ∈ ps then 1 else 0) = _
      rw [show ((i + 1 : Nat) : Int) - 1 = (i : Int) by omega]
  rw [c1, c2, c3, c4] at c
  have e := pw_ind hd
  unfold sidesN
  omega
end
/-! ## Turned and mirrored -/
section
variable {o0 o1 o2 o3 : Nat}
theorem pan_leaf {S : Pic} {b : Bool} : pan o0 o1 o2 o3 S = .leaf b ↔ S = .leaf b := by
  cases S with
  | leaf c => exact Iff.rfl
  | node p q r s => exact ⟨fun e => (nomatch e), fun e => (nomatch e)⟩
end
abbrev turn : Pic → Pic := pan 2 0 3 1
abbrev mirr : Pic → Pic := pan 1 0 3 2
theorem turn_part (S : Pic) : part (turn S) 0 = turn (part S 2) ∧ part (turn S) 1 = turn (part S 0) ∧ part (turn S) 2 = turn (part S 3) ∧ part (turn S) 3 = turn (part S 1) := by
  cases S <;> exact ⟨rfl, rfl, rfl, rfl⟩
theorem mirr_part (S : Pic) : part (mirr S) 0 = mirr (part S 1) ∧ part (mirr S) 1 = mirr (part S 0) ∧ part (mirr S) 2 = mirr (part S 3) ∧ part (mirr S) 3 = mirr (part S 2) := by
  cases S <;> exact ⟨rfl, rfl, rfl, rfl⟩
theorem pa_pan {o0 o1 o2 o3 : Nat} {h g : Bool} {n : Nat} {a b c d : Pic} (e1 : (a = .leaf false ∨ b = .leaf false) ↔ (c = .leaf false ∨ d = .leaf false)) (e2 : (a = .leaf true ∧ b = .leaf true) ↔ (c = .leaf true ∧ d = .leaf true))
    (e3 : pa h n (part a (st1 h)) (part b 0) + pa h n (part a 3) (part b (3 - st1 h)) = pa g n (part c (st1 g)) (part d 0) + pa g n (part c 3) (part d (3 - st1 g))) : pa h (n + 1) a b = pa g (n + 1) c d := by
  simp only [pa]
  by_cases c1 : a = .leaf false ∨ b = .leaf false
  · rw [if_pos c1, if_pos (e1.mp c1)]
  · rw [if_neg c1, if_neg fun z => c1 (e1.mpr z)]
    by_cases c2 : a = .leaf true ∧ b = .leaf true
    · rw [if_pos c2, if_pos (e2.mp c2)]
    · rw [if_neg c2, if_neg fun z => c2 (e2.mpr z), e3]
theorem mirr_pa : ∀ (n : Nat) (a b : Pic), pa true n (mirr a) (mirr b) = pa true n b a ∧ pa false n (mirr a) (mirr b) = pa false n a b
  | 0, a, b => by
    simp only [pa, pan_leaf]
    refine ⟨?_, trivial⟩
    by_cases c : a = .leaf true ∧ b = .leaf true
    · rw [if_pos c, if_pos ⟨c.2, c.1⟩]
    · rw [if_neg c, if_neg fun z => c ⟨z.2, z.1⟩]
  | n + 1, a, b => by
    obtain ⟨a0, a1, a2, a3⟩ := mirr_part a
    obtain ⟨b0, b1, b2, b3⟩ := mirr_part b
    refine ⟨pa_pan (o0 := 0) (o1 := 0) (o2 := 0) (o3 := 0) (by rw [pan_leaf, pan_leaf, or_comm]) (by rw [pan_leaf, pan_leaf, and_comm]) ?_, pa_pan (o0 := 0) (o1 := 0) (o2 := 0) (o3 := 0) (by rw [pan_leaf, pan_leaf]) (by rw [pan_leaf, pan_leaf]) ?_⟩
    · show pa true n (part (mirr a) 1) (part (mirr b) 0) + pa true n (part (mirr a) 3) (part (mirr b) 2) = pa true n (part b 1) (part a 0) + pa true n (part b 3) (part a 2)
      rw [a1, b0, a3, b2, (mirr_pa n _ _).1, (mirr_pa n _ _).1]
    · show pa false n (part (mirr a) 2) (part (mirr b) 0) + pa false n (part (mirr a) 3) (part (mirr b) 1) = pa false n (part a 2) (part b 0) + pa false n (part a 3) (part b 1)
      rw [a2, b0, a3, b1, (mirr_pa n _ _).2, (mirr_pa n _ _).2]
      omega
theorem turn_pa : ∀ (n : Nat) (a b : Pic), pa true n (turn a) (turn b) = pa false n b a ∧ pa false n (turn a) (turn b) = pa true n a b
  | 0, a, b => by
    simp only [pa, pan_leaf]
    refine ⟨?_, trivial⟩
    by_cases c : a = .leaf true ∧ b = .leaf true
    · rw [if_pos c, if_pos ⟨c.2, c.1⟩]
    · rw [if_neg c, if_neg fun z => c ⟨z.2, z.1⟩]
  | n + 1, a, b => by
    obtain ⟨a0, a1, a2, a3⟩ := turn_part a
    obtain ⟨b0, b1, b2, b3⟩ := turn_part b
    refine ⟨pa_pan (o0 := 0) (o1 := 0) (o2 := 0) (o3 := 0) (by rw [pan_leaf, pan_leaf, or_comm]) (by rw [pan_leaf, pan_leaf, and_comm]) ?_, pa_pan (o0 := 0) (o1 := 0) (o2 := 0) (o3 := 0) (by rw [pan_leaf, pan_leaf]) (by rw [pan_leaf, pan_leaf]) ?_⟩
    · show pa true n (part (turn a) 1) (part (turn b) 0) + pa true n (part (turn a) 3) (part (turn b) 2) = pa false n (part b 2) (part a 0) + pa false n (part b 3) (part a 1)
      rw [a1, b0, a3, b2, (turn_pa n _ _).1, (turn_pa n _ _).1]
    · show pa false n (part (turn a) 2) (part (turn b) 0) + pa false n (part (turn a) 3) (part (turn b) 1) = pa true n (part a 1) (part b 0) + pa true n (part a 3) (part b 2)
      rw [a2, b0, a3, b1, (turn_pa n _ _).2, (turn_pa n _ _).2]
      omega
theorem mirr_bc : ∀ (n : Nat) (S : Pic), bc n (mirr S) = bc n S
  | _, .leaf _ => rfl
  | n, .node p q r s => by
    show bc (n - 1) (mirr q) + (bc (n - 1) (mirr p) + (bc (n - 1) (mirr s) + bc (n - 1) (mirr r))) = bc (n - 1) p + (bc (n - 1) q + (bc (n - 1) r + bc (n - 1) s))
    rw [mirr_bc, mirr_bc, mirr_bc, mirr_bc]
    omega
theorem turn_bc : ∀ (n : Nat) (S : Pic), bc n (turn S) = bc n S
  | _, .leaf _ => rfl
  | n, .node p q r s => by
    show bc (n - 1) (turn r) + (bc (n - 1) (turn p) + (bc (n - 1) (turn s) + bc (n - 1) (turn q))) = bc (n - 1) p + (bc (n - 1) q + (bc (n - 1) r + bc (n - 1) s))
    rw [turn_bc, turn_bc, turn_bc, turn_bc]
    omega
theorem mirr_pw : ∀ (n : Nat) (S : Pic), pw n (mirr S) = pw n S
  | _, .leaf _ => rfl
  | n, .node p q r s => by
    show (pw (n - 1) (mirr q) + (pw (n - 1) (mirr p) + (pw (n - 1) (mirr s) + pw (n - 1) (mirr r)))) + ((pa true (n - 1) (mirr q) (mirr p) + pa true (n - 1) (mirr s) (mirr r)) + (pa false (n - 1) (mirr q) (mirr s) + pa false (n - 1) (mirr p) (mirr r))) =
      (pw (n - 1) p + (pw (n - 1) q + (pw (n - 1) r + pw (n - 1) s))) + ((pa true (n - 1) p q + pa true (n - 1) r s) + (pa false (n - 1) p r + pa false (n - 1) q s))
    rw [mirr_pw, mirr_pw, mirr_pw, mirr_pw, (mirr_pa _ _ _).1, (mirr_pa _ _ _).1, (mirr_pa _ _ _).2, (mirr_pa _ _ _).2]
    omega
theorem turn_pw : ∀ (n : Nat) (S : Pic), pw n (turn S) = pw n S
  | _, .leaf _ => rfl
  | n, .node p q r s => by
    show (pw (n - 1) (turn r) + (pw (n - 1) (turn p) + (pw (n - 1) (turn s) + pw (n - 1) (turn q)))) + ((pa true (n - 1) (turn r) (turn p) + pa true (n - 1) (turn s) (turn q)) + (pa false (n - 1) (turn r) (turn s) + pa false (n - 1) (turn p) (turn q))) =
      (pw (n - 1) p + (pw (n - 1) q + (pw (n - 1) r + pw (n - 1) s))) + ((pa true (n - 1) p q + pa true (n - 1) r s) + (pa false (n - 1) p r + pa false (n - 1) q s))
    rw [turn_pw, turn_pw, turn_pw, turn_pw, (turn_pa _ _ _).1, (turn_pa _ _ _).1, (turn_pa _ _ _).2, (turn_pa _ _ _).2]
    omega
theorem mirr_cnt : ∀ S : Pic, cnt (mirr S) = cnt S
  | .leaf _ => rfl
  | .node p q r s => by
    show 1 + (cnt (mirr q) + (cnt (mirr p) + (cnt (mirr s) + cnt (mirr r)))) = 1 + (cnt p + (cnt q + (cnt r + cnt s)))
    rw [mirr_cnt, mirr_cnt, mirr_cnt, mirr_cnt]
    omega
theorem turn_cnt : ∀ S : Pic, cnt (turn S) = cnt S
  | .leaf _ => rfl
  | .node p q r s => by
    show 1 + (cnt (turn r) + (cnt (turn p) + (cnt (turn s) + cnt (turn q)))) = 1 + (cnt p + (cnt q + (cnt r + cnt s)))
    rw [turn_cnt, turn_cnt, turn_cnt, turn_cnt]
    omega
theorem mirr_wf : ∀ {n : Nat} {S : Pic}, wf n S = true → wf n (mirr S) = true
  | n, .leaf _, h => h
  | 0, .node _ _ _ _, h => by simp [wf] at h
  | n + 1, .node p q r s, h => by
    have hm : mirr (.node p q r s) = .node (mirr q) (mirr p) (mirr s) (mirr r) := rfl
    rw [hm]
    simp only [wf, Bool.and_eq_true, Bool.not_eq_true', all4, Bool.and_eq_false_iff, decide_eq_false_iff_not, pan_leaf] at h ⊢
    obtain ⟨⟨h1, h2, h3, h4⟩, h5, h6⟩ := h
    refine ⟨⟨mirr_wf h2, mirr_wf h1, mirr_wf h4, mirr_wf h3⟩, ?_, ?_⟩
    · rcases h5 with h | h | h | h
      · exact .inr (.inl h)
      · exact .inl h
      · exact .inr (.inr (.inr h))
      · exact .inr (.inr (.inl h))
    · rcases h6 with h | h | h | h
      · exact .inr (.inl h)
      · exact .inl h
      · exact .inr (.inr (.inr h))
      · exact .inr (.inr (.inl h))
theorem turn_wf : ∀ {n : Nat} {S : Pic}, wf n S = true → wf n (turn S) = true
  | n, .leaf _, h => h
  | 0, .node _ _ _ _, h => by simp [wf] at h
  | n + 1, .node p q r s, h => by
    have hm : turn (.node p q r s) = .node (turn r) (turn p) (turn s) (turn q) := rfl
    rw [hm]
    simp only [wf, Bool.and_eq_true, Bool.not_eq_true', all4, Bool.and_eq_false_iff, decide_eq_false_iff_not, pan_leaf] at h ⊢
    obtain ⟨⟨h1, h2, h3, h4⟩, h5, h6⟩ := h
    refine ⟨⟨turn_wf h3, turn_wf h1, turn_wf h4, turn_wf h2⟩, ?_, ?_⟩
    · rcases h5 with h | h | h | h
      · exact .inr (.inl h)
      · exact .inr (.inr (.inr h))
      · exact .inl h
      · exact .inr (.inr (.inl h))
    · rcases h6 with h | h | h | h
      · exact .inr (.inl h)
      · exact .inr (.inr (.inr h))
      · exact .inl h
      · exact .inr (.inr (.inl h))
theorem mirr_mem {n : Nat} : ∀ {S : Pic} {x y : Int}, mem n (mirr S) x y = mem n S (2 ^ n - 1 - x) y := by
  induction n with
  | zero =>
    intro S x y
    cases S with
    | leaf b =>
      show (b && sq 0 x y) = (b && sq 0 (2 ^ 0 - 1 - x) y)
      refine congrArg _ ?_
      rw [Bool.eq_iff_iff, sq_iff, sq_iff]
      simp only [Int.pow_zero]
      omega
    | node p q r s => rfl
  | succ n ih =>
    intro S x y
    have e := two_succ n
    by_cases hs : 0 ≤ x ∧ x < 2 ^ (n + 1) ∧ 0 ≤ y ∧ y < 2 ^ (n + 1)
    · obtain ⟨a0, a1, a2, a3⟩ := mirr_part S
      obtain ⟨u, v, hu, hv, h⟩ := quart hs
      rcases h with ⟨rfl, rfl⟩ | ⟨rfl, rfl⟩ | ⟨rfl, rfl⟩ | ⟨rfl, rfl⟩
      · rw [mem_q0 hu hv, a0, ih, show (2 : Int) ^ (n + 1) - 1 - x = 2 ^ n + (2 ^ n - 1 - x) by omega, mem_q1 (by omega) hv]
      · rw [mem_q1 hu hv, a1, ih, show (2 : Int) ^ (n + 1) - 1 - (2 ^ n + u) = 2 ^ n - 1 - u by omega, mem_q0 (by omega) hv]
      · rw [mem_q2 hu hv, a2, ih, show (2 : Int) ^ (n + 1) - 1 - x = 2 ^ n + (2 ^ n - 1 - x) by omega, mem_q3 (by omega) hv]
      · rw [mem_q3 hu hv, a3, ih, show (2 : Int) ^ (n + 1) - 1 - (2 ^ n + u) = 2 ^ n - 1 - u by omega, mem_q2 (by omega) hv]
    · rw [mem_out hs, mem_out (by omega)]
theorem turn_mem {n : Nat} : ∀ {S : Pic} {x y : Int}, mem n (turn S) x y = mem n S y (2 ^ n - 1 - x) := by
  induction n with
  | zero =>
    intro S x y
    cases S with
    | leaf b =>
      show (b && sq 0 x y) = (b && sq 0 y (2 ^ 0 - 1 - x))
      refine congrArg _ ?_
      rw [Bool.eq_iff_iff, sq_iff, sq_iff]
      simp only [Int.pow_zero]
      omega
    | node p q r s => rfl
  | succ n ih =>
    intro S x y
    have e := two_succ n
    by_cases hs : 0 ≤ x ∧ x < 2 ^ (n + 1) ∧ 0 ≤ y ∧ y < 2 ^ (n + 1)
    · obtain ⟨a0, a1, a2, a3⟩ := turn_part S
      obtain ⟨u, v, hu, hv, h⟩ := quart hs
      rcases h with ⟨rfl, rfl⟩ | ⟨rfl, rfl⟩ | ⟨rfl, rfl⟩ | ⟨rfl, rfl⟩
      · rw [mem_q0 hu hv, a0, ih, show (2 : Int) ^ (n + 1) - 1 - x = 2 ^ n + (2 ^ n - 1 - x) by omega, mem_q2 hv (by omega)]
      · rw [mem_q1 hu hv, a1, ih, show (2 : Int) ^ (n + 1) - 1 - (2 ^ n + u) = 2 ^ n - 1 - u by omega, mem_q0 hv (by omega)]
      · rw [mem_q2 hu hv, a2, ih, show (2 : Int) ^ (n + 1) - 1 - x = 2 ^ n + (2 ^ n - 1 - x) by omega, mem_q3 hv (by omega)]
      · rw [mem_q3 hu hv, a3, ih, show (2 : Int) ^ (n + 1) - 1 - (2 ^ n + u) = 2 ^ n - 1 - u by omega, mem_q1 hv (by omega)]
    · rw [mem_out hs, mem_out (by omega)]
end Pl

namespace Pl
/-! ## What is due of a picture: area, edge, regions -/
def Due (n : Nat) (S : Pic) (a e c : Nat) : Prop := bc n S = a ∧ e + 2 * pw n S = 4 * bc n S ∧ ∀ c', NCl (blk S) (wit n (nam S 0)) c' → c' = c
theorem due_pts {n : Nat} {S : Pic} {ps rs : List Pt} (hd : dok n S = true) (hn : ps.Nodup) (hm : ∀ p, p ∈ ps ↔ memP n S p) (hr : Reps (con (· ∈ ps)) (· ∈ ps) rs) : Due n S ps.length (sidesN ps) rs.length := by
  have e : (· ∈ ps) = memP n S := funext fun p => propext (hm p)
  rw [e] at hr
  refine ⟨(len_bc hd hn hm).symm, ?_, fun c' h => ?_⟩
  · rw [← len_bc hd hn hm]
    exact sides_pw hd hn hm
  · obtain ⟨rs', rfl, h'⟩ := lab_reps hd h
    exact h'.len hr
theorem reps_iso {M M' : Pt → Prop} (f g : Pt → Pt) (fg : ∀ p, f (g p) = p) (gf : ∀ p, g (f p) = p) (hM : ∀ p, M p → M' (f p)) (hM' : ∀ p, M' p → M (g p)) (hf : ∀ p q, q ∈ nb p → f q ∈ nb (f p)) (hg : ∀ p q, q ∈ nb p → g q ∈ nb (g p)) {rs : List Pt} (h : Reps (con M) M rs) : Reps (con M') M' (rs.map f) := by
  refine h.map f hM (fun a b _ _ => ⟨fun e => ?_, fun e => ?_⟩) fun v hv => ⟨g v, hM' v hv, by rw [fg]; exact .refl _⟩
  · have := Eqv.map (S := con M) g (fun p q r => .rel ⟨hM' p r.1, hM' q r.2.1, hg p q r.2.2⟩) e
    rw [gf, gf] at this
    exact this
  · exact Eqv.map (S := con M') f (fun p q r => .rel ⟨hM p r.1, hM q r.2.1, hf p q r.2.2⟩) e
theorem due_mirr {n : Nat} {S : Pic} {a e c : Nat} (hw : wf n S = true) (h : Due n S a e c) : Due n (mirr S) a e c := by
  obtain ⟨h1, h2, h3⟩ := h
  refine ⟨by rw [mirr_bc]; exact h1, by rw [mirr_bc, mirr_pw]; exact h2, fun c' hc => h3 c' ?_⟩
  obtain ⟨rs, rfl, hr⟩ := lab_reps (wf_dok _ _ (mirr_wf hw)) hc
  have hr2 := reps_iso (M' := memP n S) (fun p => (2 ^ n - 1 - p.1, p.2)) (fun p => (2 ^ n - 1 - p.1, p.2)) (fun p => Prod.ext (by simp only; omega) rfl) (fun p => Prod.ext (by simp only; omega) rfl)
    (fun p hp => by have hp : mem n (mirr S) p.1 p.2 = true := hp; rw [mirr_mem] at hp; exact hp)
    (fun p hp => by show mem n (mirr S) (2 ^ n - 1 - p.1) p.2 = true; rw [mirr_mem, show (2 : Int) ^ n - 1 - (2 ^ n - 1 - p.1) = p.1 by omega]; exact hp)
    (fun p q hq => by rw [nb_iff] at *; simp only; omega) (fun p q hq => by rw [nb_iff] at *; simp only; omega) hr
  have := reps_lab (wf_dok _ _ hw) hr2
  rw [List.length_map] at this
  exact this
theorem due_turn {n : Nat} {S : Pic} {a e c : Nat} (hw : wf n S = true) (h : Due n S a e c) : Due n (turn S) a e c := by
  obtain ⟨h1, h2, h3⟩ := h
  refine ⟨by rw [turn_bc]; exact h1, by rw [turn_bc, turn_pw]; exact h2, fun c' hc => h3 c' ?_⟩
  obtain ⟨rs, rfl, hr⟩ := lab_reps (wf_dok _ _ (turn_wf hw)) hc
  have hr2 := reps_iso (M' := memP n S) (fun p => (p.2, 2 ^ n - 1 - p.1)) (fun p => (2 ^ n - 1 - p.2, p.1)) (fun p => Prod.ext rfl (by simp only; omega)) (fun p => Prod.ext (by simp only; omega) rfl)
    (fun p hp => by have hp : mem n (turn S) p.1 p.2 = true := hp; rw [turn_mem] at hp; exact hp)
    (fun p hp => by show mem n (turn S) (2 ^ n - 1 - p.2) p.1 = true; rw [turn_mem, show (2 : Int) ^ n - 1 - (2 ^ n - 1 - p.2) = p.2 by omega]; exact hp)
    (fun p q hq => by rw [nb_iff] at *; simp only; omega) (fun p q hq => by rw [nb_iff] at *; simp only; omega) hr
  have := reps_lab (wf_dok _ _ hw) hr2
  rw [List.length_map] at this
  exact this
/-! ## In a corner of a greater square -/
def emb (i : Nat) (S : Pic) : Pic :=
  if S = .leaf false then .leaf false else match i with
    | 0 => .node S (.leaf false) (.leaf false) (.leaf false)
    | 1 => .node (.leaf false) S (.leaf false) (.leaf false)
    | 2 => .node (.leaf false) (.leaf false) S (.leaf false)
    | _ => .node (.leaf false) (.leaf false) (.leaf false) S
theorem pa_w1 (h : Bool) (n : Nat) (b : Pic) : pa h n (.leaf false) b = 0 := by
  cases n with
  | zero => simp [pa]
  | succ n => simp [pa]
theorem pa_w2 (h : Bool) (n : Nat) (a : Pic) : pa h n a (.leaf false) = 0 := by
  cases n with
  | zero => simp [pa]
  | succ n => simp [pa]
theorem bc_w (n : Nat) : bc n (.leaf false) = 0 := by cases n <;> simp [bc, b2n]
theorem pw_w (n : Nat) : pw n (.leaf false) = 0 := by cases n <;> simp [pw, b2n]
theorem wit_no (n : Nat) : wit n .no = [] := by cases n <;> rfl
theorem emb_wf {n : Nat} {S : Pic} (i : Nat) (h : wf n S = true) : wf (n + 1) (emb i S) = true := by
  unfold emb
  split
  · simp [wf]
  · rename_i hne
    have l : ∀ b, wf n (.leaf b) = true := fun b => by cases n <;> simp [wf]
    split <;> simp [wf, h, l, all4, hne]
theorem emb_cnt (i : Nat) (S : Pic) : cnt (emb i S) ≤ cnt S + 4 := by
  unfold emb
  split
  · rename_i e; rw [e]; simp [cnt]
  · split <;> simp only [cnt] <;> omega
theorem emb_due {n : Nat} {S : Pic} {a e c : Nat} (i : Nat) (h : Due n S a e c) : Due (n + 1) (emb i S) a e c := by
  obtain ⟨h1, h2, h3⟩ := h
  unfold emb
  split
  · rename_i e0
    subst e0
    rw [bc_w] at h1 h2
    rw [pw_w] at h2
    refine ⟨by rw [bc_w]; exact h1, by rw [bc_w, pw_w]; exact h2, fun c' hc => h3 c' ?_⟩
    simp only [nam] at hc ⊢
    rw [show wit n (if false = true then NP.num 0 else .no) = [] from wit_no n]
    rw [show wit (n + 1) (if false = true then NP.num 0 else .no) = [] from wit_no _] at hc
    exact hc
  · have key : ∀ P : Pic, bc (n + 1) P = bc n S → pw (n + 1) P = pw n S → blk P = blk S → wit (n + 1) (nam P 0) = wit n (nam S 0) → Due (n + 1) P a e c := fun P e1 e2 e3 e4 => ⟨by rw [e1]; exact h1, by rw [e1, e2]; exact h2, fun c' hc => h3 c' (by rw [e3, e4] at hc; exact hc)⟩
    have no1 : ∀ (h : Bool) (A : NP), acr h n .no A = [] := fun h A => acr_no (.inl rfl)
    have no2 : ∀ (h : Bool) (A : NP), acr h n A .no = [] := fun h A => acr_no (.inr rfl)
    split <;> refine key _ ?_ ?_ ?_ ?_ <;> simp [bc, pw, blk, b2n, nam, wit, pa_w1, pa_w2, bc_w, pw_w, no1, no2, wit_no]
/-! ## How many nodes -/
theorem cnt_le : ∀ {n : Nat} {S : Pic}, dok n S = true → 3 * cnt S + 1 ≤ 4 ^ (n + 1)
  | n, .leaf _, _ => by
    have : 4 ^ 1 ≤ 4 ^ (n + 1) := Nat.pow_le_pow_right (by decide) (by omega)
    simp only [cnt]
    omega
  | 0, .node _ _ _ _, h => by simp [dok] at h
  | n + 1, .node p q r s, h => by
    simp only [dok, Bool.and_eq_true] at h
    have h1 := cnt_le h.1
    have h2 := cnt_le h.2.1
    have h3 := cnt_le h.2.2.1
    have h4 := cnt_le h.2.2.2
    have e : 4 ^ (n + 1 + 1) = 4 ^ (n + 1) * 4 := Nat.pow_succ ..
    simp only [cnt]
    omega
/-! ## One region alone -/
def ups (m : Nat) (E : List (Nat × Nat)) : Bool := (List.range (m - 1)).all fun i => E.any fun e => (decide (e.1 = i) && decide (i < e.2)) || (decide (e.2 = i) && decide (i < e.1))
theorem ups_one {m : Nat} {E : List (Nat × Nat)} (hm : 1 ≤ m) (hE : ∀ e ∈ E, e.1 < m ∧ e.2 < m) (h : ups m E = true) {c : Nat} (hc : NCl m E c) : c = 1 := by
  have key : ∀ k i, i + k = m - 1 → Eqv (ER E) i (m - 1) := by
    intro k
    induction k using Nat.strongRecOn with
    | ind k ih =>
      intro i hi
      by_cases k0 : k = 0
      · rw [show i = m - 1 by omega]; exact .refl _
      · have := List.all_eq_true.mp h i (List.mem_range.mpr (by omega))
        obtain ⟨e, he, he2⟩ := List.any_eq_true.mp this
        have hl := hE e he
        simp only [Bool.or_eq_true, Bool.and_eq_true, decide_eq_true_eq] at he2
        rcases he2 with ⟨e1, e2⟩ | ⟨e1, e2⟩
        · subst e1
          exact .trans (.rel (show (e.1, e.2) ∈ E from he)) (ih (m - 1 - e.2) (by omega) e.2 (by omega))
        · subst e1
          exact .trans (.symm (.rel (show (e.1, e.2) ∈ E from he))) (ih (m - 1 - e.1) (by omega) e.1 (by omega))
  have one : NCl m E 1 := ⟨[m - 1], rfl, fun r hr => by rw [List.mem_singleton.mp hr]; omega, by simp, fun i hi => ⟨m - 1, List.mem_singleton.mpr rfl, key (m - 1 - i) i (by have hi : i < m := hi; omega)⟩⟩
  exact hc.eq one
theorem none_cls {m c : Nat} (hc : NCl m [] c) : c = m := by
  refine hc.eq ⟨List.range m, List.length_range, fun r hr => List.mem_range.mp hr, ?_, fun i hi => ⟨i, List.mem_range.mpr hi, .refl _⟩⟩
  refine List.Pairwise.imp (fun {a b} hne e => hne ?_) (List.nodup_range (n := m))
  have : ∀ a b, Eqv (ER []) a b → a = b := fun a b e => by
    induction e with
    | refl => rfl
    | rel r => cases r
    | symm _ ih => exact ih.symm
    | trans _ _ i1 i2 => exact i1.trans i2
  exact this a b e
end Pl

namespace Pl
open PySem PySem.Spec PyProof.Rows L2
/-! ## The picture of places -/
theorem pic_bc : ∀ {n : Nat} {ps : List Pt}, Spots n ps → bc n (pic n ps) = ps.length
  | 0, ps, h => by
    have h0 := h.zero
    match ps, h0 with
    | [], _ => rfl
    | [_], _ => rfl
  | n + 1, ps, h => by
    simp only [pic]
    split
    · rename_i c
      rcases c with rfl | c
      · exact bc_w _
      · have : ps.isEmpty = false := by
          cases ps with
          | nil => have := pow1' (2 * (n + 1)); rw [List.length_nil] at c; omega
          | cons _ _ => rfl
        rw [this, c]
        simp [bc, b2n]
    · simp only [bc, Nat.add_sub_cancel]
      rw [pic_bc (h.cut 0), pic_bc (h.cut 1), pic_bc (h.cut 2), pic_bc (h.cut 3)]
      exact (cut_sum h.inn).symm
theorem inq_iff {n : Nat} {p : Pt} : inq n p = true ↔ 0 ≤ p.1 ∧ p.1 < 2 ^ n ∧ 0 ≤ p.2 ∧ p.2 < 2 ^ n := by
  simp only [inq, Bool.and_eq_true, decide_eq_true_eq]
theorem mem_cut {n i : Nat} {ps : List Pt} {u v : Int} (hu : 0 ≤ u ∧ u < 2 ^ n) (hv : 0 ≤ v ∧ v < 2 ^ n) : (u, v) ∈ cut n ps i ↔ (2 ^ n * ((i : Int) % 2) + u, 2 ^ n * ((i : Int) / 2) + v) ∈ ps := by
  rw [cut, List.mem_filter, List.mem_map]
  constructor
  · rintro ⟨⟨p, hp, e⟩, _⟩
    have e1 := congrArg Prod.fst e
    have e2 := congrArg Prod.snd e
    simp only [sh] at e1 e2
    rw [← e1, ← e2, show 2 ^ n * ((i : Int) % 2) + (p.1 - 2 ^ n * ((i : Int) % 2)) = p.1 by omega, show 2 ^ n * ((i : Int) / 2) + (p.2 - 2 ^ n * ((i : Int) / 2)) = p.2 by omega]
    exact hp
  · intro h
    refine ⟨⟨_, h, Prod.ext (by simp only [sh]; omega) (by simp only [sh]; omega)⟩, inq_iff.mpr ⟨hu.1, hu.2, hv.1, hv.2⟩⟩
theorem pic_mem : ∀ {n : Nat} {ps : List Pt}, Spots n ps → ∀ p, p ∈ ps ↔ memP n (pic n ps) p
  | 0, ps, h, p => by
    show _ ↔ mem 0 (.leaf (!ps.isEmpty)) p.1 p.2 = true
    simp only [mem, Bool.and_eq_true, sq_iff, Int.pow_zero]
    match ps, h with
    | [], _ => simp
    | [q], h =>
      have hq := inq_iff.mp (h.inn q (by simp))
      rw [Int.pow_zero] at hq
      simp only [List.mem_singleton, List.isEmpty_cons, Bool.not_false, true_and]
      constructor
      · rintro rfl; omega
      · intro hp; exact Prod.ext (by omega) (by omega)
    | q :: r :: t, h =>
      have := h.zero
      simp at this
  | n + 1, ps, h, p => by
    show _ ↔ mem (n + 1) (pic (n + 1) ps) p.1 p.2 = true
    simp only [pic]
    split
    · rename_i c
      rcases c with rfl | c
      · simp [mem]
      · have he : ps.isEmpty = false := by
          cases ps with
          | nil => have := pow1' (2 * (n + 1)); rw [List.length_nil] at c; omega
          | cons _ _ => rfl
        rw [he]
        simp only [mem, Bool.not_false, Bool.true_and, sq_iff]
        constructor
        · intro hp
          exact inq_iff.mp (h.inn p hp)
        · intro hp
          by_cases z : p ∈ ps
          · exact z
          · exfalso
            have h2 : Spots (n + 1) (p :: ps) := ⟨List.nodup_cons.mpr ⟨z, h.nd⟩, fun q hq => by
              rcases List.mem_cons.mp hq with rfl | hq
              · exact inq_iff.mpr hp
              · exact h.inn q hq⟩
            have := h2.len
            rw [List.length_cons] at this
            omega
    · by_cases hs : 0 ≤ p.1 ∧ p.1 < 2 ^ (n + 1) ∧ 0 ≤ p.2 ∧ p.2 < 2 ^ (n + 1)
      · obtain ⟨x, y⟩ := p
        obtain ⟨u, v, hu, hv, e⟩ := quart hs
        have c0 : (2 : Int) ^ n * (((0 : Nat) : Int) % 2) = 0 := by rw [show (((0 : Nat) : Int) % 2) = 0 by decide, Int.mul_zero]
        have c1 : (2 : Int) ^ n * (((1 : Nat) : Int) % 2) = 2 ^ n := by rw [show (((1 : Nat) : Int) % 2) = 1 by decide, Int.mul_one]
        have c2 : (2 : Int) ^ n * (((2 : Nat) : Int) % 2) = 0 := by rw [show (((2 : Nat) : Int) % 2) = 0 by decide, Int.mul_zero]
        have c3 : (2 : Int) ^ n * (((3 : Nat) : Int) % 2) = 2 ^ n := by rw [show (((3 : Nat) : Int) % 2) = 1 by decide, Int.mul_one]
        have d0 : (2 : Int) ^ n * (((0 : Nat) : Int) / 2) = 0 := by rw [show (((0 : Nat) : Int) / 2) = 0 by decide, Int.mul_zero]
        have d1 : (2 : Int) ^ n * (((1 : Nat) : Int) / 2) = 0 := by rw [show (((1 : Nat) : Int) / 2) = 0 by decide, Int.mul_zero]
        have d2 : (2 : Int) ^ n * (((2 : Nat) : Int) / 2) = 2 ^ n := by rw [show (((2 : Nat) : Int) / 2) = 1 by decide, Int.mul_one]
        have d3 : (2 : Int) ^ n * (((3 : Nat) : Int) / 2) = 2 ^ n := by rw [show (((3 : Nat) : Int) / 2) = 1 by decide, Int.mul_one]
        simp only at e ⊢
        rcases e with ⟨rfl, rfl⟩ | ⟨rfl, rfl⟩ | ⟨rfl, rfl⟩ | ⟨rfl, rfl⟩
        · have := (pic_mem (h.cut 0) (x, y)).symm.trans (mem_cut hu hv)
          rw [c0, d0, Int.zero_add, Int.zero_add] at this
          rw [mem_q0 hu hv]
          exact this.symm
        · have := (pic_mem (h.cut 1) (u, y)).symm.trans (mem_cut hu hv)
          rw [c1, d1, Int.zero_add] at this
          rw [mem_q1 hu hv]
          exact this.symm
        · have := (pic_mem (h.cut 2) (x, v)).symm.trans (mem_cut hu hv)
          rw [c2, d2, Int.zero_add] at this
          rw [mem_q2 hu hv]
          exact this.symm
        · have := (pic_mem (h.cut 3) (u, v)).symm.trans (mem_cut hu hv)
          rw [c3, d3] at this
          rw [mem_q3 hu hv]
          exact this.symm
      · rw [mem_out hs]
        exact ⟨fun z => absurd (inq_iff.mp (h.inn p z)) hs, fun z => by cases z⟩
theorem pic_wf : ∀ {n : Nat} {ps : List Pt}, Spots n ps → wf n (pic n ps) = true
  | 0, ps, _ => by simp [pic, wf]
  | n + 1, ps, h => by
    simp only [pic]
    split
    · simp [wf]
    · rename_i c
      have e := cut_sum h.inn
      have b0 := pic_bc (h.cut 0)
      have b1 := pic_bc (h.cut 1)
      have b2 := pic_bc (h.cut 2)
      have b3 := pic_bc (h.cut 3)
      simp only [wf, Bool.and_eq_true, Bool.not_eq_true']
      refine ⟨⟨pic_wf (h.cut 0), pic_wf (h.cut 1), pic_wf (h.cut 2), pic_wf (h.cut 3)⟩, ?_, ?_⟩
      · cases z : all4 false (pic n (cut n ps 0)) (pic n (cut n ps 1)) (pic n (cut n ps 2)) (pic n (cut n ps 3)) with
        | false => rfl
        | true =>
          exfalso
          simp only [all4, Bool.and_eq_true, decide_eq_true_eq] at z
          rw [z.1, bc_w] at b0
          rw [z.2.1, bc_w] at b1
          rw [z.2.2.1, bc_w] at b2
          rw [z.2.2.2, bc_w] at b3
          exact c (.inl (List.eq_nil_of_length_eq_zero (by omega)))
      · cases z : all4 true (pic n (cut n ps 0)) (pic n (cut n ps 1)) (pic n (cut n ps 2)) (pic n (cut n ps 3)) with
        | false => rfl
        | true =>
          exfalso
          simp only [all4, Bool.and_eq_true, decide_eq_true_eq] at z
          have f : bc n (.leaf true) = 2 ^ (2 * n) := by cases n <;> simp [bc, b2n]
          rw [z.1, f] at b0
          rw [z.2.1, f] at b1
          rw [z.2.2.1, f] at b2
          rw [z.2.2.2, f] at b3
          have e2 : 2 ^ (2 * (n + 1)) = 2 ^ (2 * n) * 4 := by rw [show 2 * (n + 1) = 2 * n + 2 by omega, Nat.pow_add]
          exact c (.inr (by omega))
theorem pic_due {n : Nat} {ps rs : List Pt} (h : Spots n ps) (hr : Reps (con (· ∈ ps)) (· ∈ ps) rs) : Due n (pic n ps) ps.length (sidesN ps) rs.length :=
  due_pts (wf_dok _ _ (pic_wf h)) h.nd (pic_mem h) hr
end Pl

namespace Pl
open PySem PySem.Spec PyProof.Rows L2
abbrev sBlackAt : Stmt := top 31
abbrev sPainted : Stmt := top 32
section
variable {P : Program} {w : World} {K : PySem.W.Frag} {mg : Str → Option Value} {base : Heap} {C : Addr}
/-! ### is_in_square, is_place: of places that lie within -/
def spInSquare : Sp := fun vs H Q _ => ∃ (n : Nat) (v : V) (p : Pt), vs = [.int (n : Int), v] ∧ PtAt H v p ∧ inq n p = true ∧ n ≤ 40 ∧ ∀ H', Same H H' → Q (.bl true) H'
theorem scInSquare : FnScope ["figures", "point", "value"] ["figures", "point"] (defScope sIsInSquare) := ⟨rfl, rfl, rfl, by decide +kernel, rfl, by decide +kernel, by decide +kernel⟩
theorem two_of {ys : List V} {v0 v1 : V} (hl : ys.length = 2) (h : ∀ (j : Nat) (y : V), ys[j]? = some y → [v0, v1][j]? = some y) : ys = [v0, v1] := by
  match ys, hl, h with
  | [a, b], _, h =>
    have e0 := h 0 a rfl
    have e1 := h 1 b rfl
    simp at e0 e1
    rw [e0, e1]
theorem ok_in_square (a : At K mg "is_in_square" sIsInSquare) (T : Bi mg) : Can P w K mg base 1 "is_in_square" ["figures", "point"] spInSquare := by
  refine a.can scInSquare (fun vs H Q E h => ?_) (fun _ _ _ _ _ _ us hl => match us, hl with | [_, _], _ => rfl) (fun f cdv A outer s H vs Q E hr h => ?_)
  · obtain ⟨n, v, p, rfl, _⟩ := h
    rfl
  · obtain ⟨n, v, p, rfl, ⟨t, rfl, ht⟩, hin, hn, q⟩ := h
    refine ⟨_, pss_one (ps_ret (pe_callB (cr_all rfl) (by rfl) T.all (by decide +kernel) (pa_cons (pe_lc (own := [("value", 2)]) (g := gName 2) (tt := tYes) rfl scInSquare.nd (pi_tup (pv 1))
            (blkOk_by (own := [("value", 2)]) (N := ["figures", "point", "value"]) (sc := defScope sIsInSquare) (by decide +kernel)) (fun _ _ _ _ _ => pg_name (i := 2) scInSquare.nd rfl (Or.inl rfl)) (fun _ _ _ _ _ => pts_nil)
            (fun _ _ _ _ _ => pe_chain op_le op_lt pe_int (pv 2) (pe_op op_shl pe_int (pv 0)))) pa_nil))), ?_⟩
    simp only [inq, Bool.and_eq_true, decide_eq_true_eq] at hin
    obtain ⟨i1, i2, i3, i4⟩ := hin
    have e2 : (1 : Int) * 2 ^ (n : Int).toNat = 2 ^ n := by rw [Int.toNat_natCast, Int.one_mul]
    refine ⟨_, rfl, t, rfl, ⟨_, SqT.of ht⟩, fun D hD => lc_tup1 (K := K) (fun j y _ => [V.bl true, V.bl true][j]? = some y) (fun _ _ _ _ _ h => h) hD ht (by show 2 ≤ 10000; decide) (fun j x H3 k hx s3 hk => ?_) (fun H3 ys s3 hDl hl hys => ?_)⟩
    · match j, hx with
      | 0, hx =>
        cases hx
        refine ⟨_, rfl, _, _, rfl, rfl, true, congrArg V.bl (decide_eq_true i1), iteT ⟨_, rfl, _, _, rfl, rfl, ⟨by omega, by omega, by decide⟩, _, _, rfl, rfl, ?_⟩⟩
        rw [e2]
        show k (V.bl (decide (p.1 < 2 ^ n))) H3
        rw [decide_eq_true i2]
        exact hk _ _ (Same.refl _) rfl
      | 1, hx =>
        cases hx
        refine ⟨_, rfl, _, _, rfl, rfl, true, congrArg V.bl (decide_eq_true i3), iteT ⟨_, rfl, _, _, rfl, rfl, ⟨by omega, by omega, by decide⟩, _, _, rfl, rfl, ?_⟩⟩
        rw [e2]
        show k (V.bl (decide (p.2 < 2 ^ n))) H3
        rw [decide_eq_true i4]
        exact hk _ _ (Same.refl _) rfl
    · have e := two_of hl hys
      subst e
      exact ⟨D, [true, true], rfl, SqL.of hDl, q _ s3⟩
def spIsPlace : Sp := spInSquare
theorem scIsPlace : FnScope ["figures", "value", "one"] ["figures", "value"] (defScope sIsPlace) := ⟨rfl, rfl, rfl, by decide +kernel, rfl, by decide +kernel, by decide +kernel⟩
theorem ok_is_place (a : At K mg "is_place" sIsPlace) (T : Bi mg) (ii : Can P w K mg base 1 "is_integer" ["value"] spIsInteger) (sq_ : Can P w K mg base 1 "is_in_square" ["figures", "point"] spInSquare) : Can P w K mg base 2 "is_place" ["figures", "value"] spIsPlace := by
  refine a.can scIsPlace (fun vs H Q E h => ?_) (fun _ _ _ _ _ _ us hl => match us, hl with | [_, _], _ => rfl) (fun f cdv A outer s H vs Q E hr h => ?_)
  · obtain ⟨n, v, p, rfl, _⟩ := h
    rfl
  · obtain ⟨n, v, p, rfl, ⟨t, rfl, ht⟩, hin, hn, q⟩ := h
    refine ⟨_, pss_cons (ps_if (PW.pt (pw_or (pt_not (pt_val (pe_callB call_isi (by rfl) T.isi (by decide +kernel) (pa_cons (pv 1) (pa_cons (pe_bltn (v := .ty "tuple") (by rfl) T.tuple (by decide +kernel) rfl) pa_nil)))))
        (pw_or (pt_cmpR op_ne (pe_callB call_len_seq (by rfl) T.len PySem.boot_len (pa_cons (pv 1) pa_nil)) pe_int (nomark _))
        (pw_or1 (pt_not (pt_val (pe_callB (cr_all rfl) (by rfl) T.all (by decide +kernel) (pa_cons (pe_lc (own := [("one", 2)]) (g := gName 2) (tt := tYes) rfl scIsPlace.nd (pi_tup (pv 1))
            (blkOk_by (own := [("one", 2)]) (N := ["figures", "value", "one"]) (sc := defScope sIsPlace) (by decide +kernel)) (fun _ _ _ _ _ => pg_name (i := 2) scIsPlace.nd rfl (Or.inl rfl)) (fun _ _ _ _ _ => pts_nil)
            (fun _ _ _ _ _ => pe_can ii hr (pa_cons (pv 2) pa_nil))) pa_nil)))))))) (pss_one (ps_ret (pe_bl (b := false)))) pss_nil)
      (pss_one (ps_ret (pe_can sq_ hr (pa_cons (pv 0) (pa_cons (pv 1) pa_nil))))), ?_⟩
    refine ⟨_, rfl, _, _, _, _, true, rfl, .ty _, .base (.tup ht), kit_ty (by decide +kernel), true, rfl, iteF ?_⟩
    refine ⟨_, rfl, t, _, rfl, .inr (SqT.of ht), rfl, _, rfl, iteF ?_⟩
    refine ⟨_, rfl, t, rfl, ⟨_, SqT.of ht⟩, fun D hD => lc_tup1 (K := K) (fun j y _ => [V.bl true, V.bl true][j]? = some y) (fun _ _ _ _ _ h => h) hD ht (by show 2 ≤ 10000; decide) (fun j x H3 k hx s3 hk => ?_) (fun H3 ys s3 hDl hl hys => ?_)⟩
    · match j, hx with
      | 0, hx =>
        cases hx
        exact ⟨_, rfl, _, rfl, hk _ _ (Same.refl _) rfl⟩
      | 1, hx =>
        cases hx
        exact ⟨_, rfl, _, rfl, hk _ _ (Same.refl _) rfl⟩
    · have e := two_of hl hys
      subst e
      refine ⟨D, [true, true], rfl, SqL.of hDl, _, rfl, iteF ?_⟩
      exact ⟨_, rfl, _, rfl, n, _, p, rfl, ⟨t, rfl, s3 _ _ ht⟩, hin, hn, fun H' s' => q _ (s3.trans s')⟩
/-! ### black_at -/
def spBlackAt (d : Nat) : Sp := fun vs H Q _ => ∃ (n : Nat) (l : Addr) (ps : List Pt), vs = [.int (n : Int), .ref l] ∧ LPts H l ps ∧ okAt n ps = true ∧ ps.length ≤ 1000 ∧ n ≤ 40 ∧ n < d ∧ ∀ v' H', Same H H' → PicAt H' v' (bAt n ps) → Q v' H'
theorem scBlackAt : FnScope ["figures", "places", "half", "fours", "x", "y", "some"] ["figures", "places"] (defScope sBlackAt) := ⟨rfl, rfl, rfl, by decide +kernel, rfl, by decide +kernel, by decide +kernel⟩
theorem ok_black_at (a : At K mg "black_at" sBlackAt) (T : Bi mg) (md : Can P w K mg base 1 "made" ["parts"] spMade) : ∀ d, Can P w K mg base (d + 1) "black_at" ["figures", "places"] (spBlackAt d)
  | 0 => (a.zero (fun _ _ _ _ _ _ us hl => match us, hl with | [_, _], _ => rfl) fun vs H Q E ⟨_, _, _, _, _, _, _, _, h, _⟩ => absurd h (Nat.not_lt_zero _)).mono (Nat.zero_le _)
  | d + 1 => by
    have c := ok_black_at a T md d
    refine a.can scBlackAt (fun vs H Q E h => ?_) (fun _ _ _ _ _ _ us hl => match us, hl with | [_, _], _ => rfl) (fun f cdv A outer s H vs Q E hr h => ?_)
    · obtain ⟨n, l, ps, rfl, _⟩ := h
      rfl
    · obtain ⟨n, l, ps, rfl, hL, hok, hlen, h40, hd, q⟩ := h
      have hr1 : Room 1 _ := hr.mono (by omega)
      refine ⟨_, pss_cons (ps_if (PW.pt (pw_or (pt_cmpR (op_eqM hr.units) (pv 1) (pe_lst pa_nil) (nomark _)) (pw_or1 (pt_cmpR op_eq (pe_callB call_len_seq (by rfl) T.len PySem.boot_len (pa_cons (pv 1) pa_nil)) (pe_op op_shl pe_int (pe_op op_mul pe_int (pv 0))) (nomark _)))))
          (pss_one (ps_ret (pe_callTy call_int1 (by rfl) T.int (by decide +kernel) (pa_cons (pe_cmpR (op_neM hr.units) (pv 1) (pe_lst pa_nil) (nomark _)) pa_nil)))) pss_nil)
        (pss_cons (ps_asg (pe_tup (pa_cons (pe_op op_sub (pv 0) pe_int) (pa_cons (pe_lst (pa_cons (pe_lst pa_nil) (pa_cons (pe_lst pa_nil) (pa_cons (pe_lst pa_nil) (pa_cons (pe_lst pa_nil) pa_nil))))) pa_nil)))
            (pg_tup rfl (pgs_cons (pg_name (i := 2) scBlackAt.nd rfl (Or.inr rfl)) (pgs_cons (pg_name (i := 3) scBlackAt.nd rfl (Or.inl rfl)) pgs_nil))))
        (pss_cons (ps_for PassesOwn.never rfl (pi_list (pv 1)) (pg_tup rfl (pgs_cons (pg_name (i := 4) scBlackAt.nd rfl (Or.inl rfl)) (pgs_cons (pg_name (i := 5) scBlackAt.nd rfl (Or.inl rfl)) pgs_nil)))
            (pss_one (ps_expr (pe_bm PySem.F.plainAttrs_list PySem.F.slot_list_append PySem.F.type_list_append mt_append
              (pe_ix (show IxR _ (rIxL K) from ix_list) (pv 3) (pe_op op_add (pe_op op_shrN (pv 4) (pv 2)) (pe_op op_mul pe_int (pe_op op_shrN (pv 5) (pv 2)))) (fun _ _ => rfl))
              (pa_cons (pe_tup (pa_cons (pe_op op_andM (pv 4) (pe_op op_sub (pe_op op_shl pe_int (pv 2)) pe_int)) (pa_cons (pe_op op_andM (pv 5) (pe_op op_sub (pe_op op_shl pe_int (pv 2)) pe_int)) pa_nil))) pa_nil)))))
        (pss_one (ps_ret (pe_can md hr1 (pa_cons (pe_lc (own := [("some", 6)]) (g := gName 6) (tt := tYes) rfl scBlackAt.nd (pi_list (pv 3))
          (blkOk_by (own := [("some", 6)]) (N := ["figures", "places", "half", "fours", "x", "y", "some"]) (sc := defScope sBlackAt) (by decide +kernel)) (fun _ _ _ _ _ => pg_name (i := 6) scBlackAt.nd rfl (Or.inl rfl)) (fun _ _ _ _ _ => pts_nil)
          (fun _ _ _ _ _ => pe_can c hr (pa_cons (pv 2) (pa_cons (pv 6) pa_nil)))) pa_nil)))))), ?_⟩
      have eq1 : ∀ (H' : Hp), Same H H' → bAt n ps = .leaf (!ps.isEmpty) → Q (.int (if (!ps.isEmpty) = true then 1 else 0)) H' := fun H' s' e => q _ _ s' (by rw [e]; rfl)
      refine ⟨_, rfl, Nat.zero_le _, fun u hu => nil_read (hL.mono (same_new hu _)) upd_same ⟨_, rfl, ?_⟩⟩
      have s1 := same_new hu (.lst [])
      have lastT : bAt n ps = .leaf (!ps.isEmpty) → ∀ H1, Same H H1 → ∀ (R : V → Hp → Prop), (∀ H', Same H1 H' → R (.int (if (!ps.isEmpty) = true then 1 else 0)) H') → ∀ u2, H1 u2 = none → rNeM K (.ref l) (.ref u2) (upd H1 u2 (.lst []))
          (fun x H2 => (∃ i, [x] = [V.int i] ∧ R (.int i) H2) ∨ ∃ k, [x] = [V.bl k] ∧ R (.int (if k = true then 1 else 0)) H2) := fun e H1 s R hR u2 hu2 =>
        nnil_read (hL.mono (s.trans (same_new hu2 _))) upd_same (.inr ⟨_, rfl, hR _ (same_new hu2 _)⟩)
      by_cases c0 : ps = []
      · have e0 : bAt n ps = .leaf (!ps.isEmpty) := by
          cases n with
          | zero => rfl
          | succ n => simp only [bAt]; rw [if_pos (.inl c0)]
        rw [show ps.isEmpty = true by rw [c0]; rfl]
        refine iteT (iteT ⟨_, rfl, Nat.zero_le _, fun u2 hu2 => ?_⟩)
        exact lastT e0 _ s1 _ (fun H' s' => eq1 _ (s1.trans s') e0) u2 hu2
      · rw [show ps.isEmpty = false by cases ps with | nil => exact absurd rfl c0 | cons _ _ => rfl]
        refine iteF ?_
        obtain ⟨xs, hxs, hpts⟩ := hL.mono s1
        have hxl := hpts.len
        have e2n : (1 : Int) * 2 ^ (2 * (n : Int)).toNat = ((2 ^ (2 * n) : Nat) : Int) := by
          rw [show (2 * (n : Int)).toNat = 2 * n by omega, Int.one_mul]
          simp
        refine ⟨_, rfl, l, _, rfl, .inl (SqL.of hxs), _, rfl, _, _, rfl, rfl, .inl ⟨by decide, by decide⟩, _, _, rfl, rfl, ⟨by omega, by omega, by decide⟩, rfl, decide (ps.length = 2 ^ (2 * n)), ?_, ?_⟩
        · refine congrArg V.bl ?_
          rw [decide_eq_decide]
          show V.int (xs.length : Int) = V.int ((1 : Int) * 2 ^ (2 * (n : Int)).toNat) ↔ _
          rw [e2n, hxl]
          exact ⟨fun z => by injection z with z; exact_mod_cast z, fun z => by rw [z]⟩
        by_cases c1 : ps.length = 2 ^ (2 * n)
        · rw [decide_eq_true c1]
          have e0 : bAt n ps = .leaf (!ps.isEmpty) := by
            cases n with
            | zero => rfl
            | succ n => simp only [bAt]; rw [if_pos (.inr c1)]
          refine iteT ⟨_, rfl, Nat.zero_le _, fun u2 hu2 => ?_⟩
          exact lastT e0 _ s1 _ (fun H' s' => eq1 _ (s1.trans s') e0) u2 hu2
        · rw [decide_eq_false c1]
          refine iteF ?_
          cases n with
          | zero =>
            exfalso
            have h1 : ps.length ≤ 1 := of_decide_eq_true hok
            have h2 : ps.length ≠ 0 := fun e => c0 (List.eq_nil_of_length_eq_zero e)
            simp at c1
            omega
          | succ n =>
          have hok2 : (ps.all (inq (n + 1)) && (okAt n (qu n ps 0) && (okAt n (qu n ps 1) && (okAt n (qu n ps 2) && okAt n (qu n ps 3))))) = true := by
            simp only [okAt] at hok
            rw [decide_eq_false c1, show ps.isEmpty = false by cases ps with | nil => exact absurd rfl c0 | cons _ _ => rfl] at hok
            simpa using hok
          simp only [Bool.and_eq_true] at hok2
          obtain ⟨hall, o0, o1, o2, o3⟩ := hok2
          have eb : bAt (n + 1) ps = mk4 (bAt n (qu n ps 0)) (bAt n (qu n ps 1)) (bAt n (qu n ps 2)) (bAt n (qu n ps 3)) := by
            simp only [bAt]
            rw [if_neg (by rintro (e | e); exact c0 e; exact c1 e)]
          rw [eb] at q
          -- the four lists
          refine ⟨_, rfl, _, _, rfl, rfl, Nat.zero_le _, fun l0 f0 => ⟨Nat.zero_le _, fun l1 f1 => ⟨Nat.zero_le _, fun l2 f2 => ⟨Nat.zero_le _, fun l3 f3 => ⟨by show 4 ≤ sizeLine; decide, fun F fF => ⟨by show 2 ≤ sizeLine; decide, fun tt ft => ?_⟩⟩⟩⟩⟩⟩
          have t0 := same_new f0 (.lst [])
          have t1 := same_new f1 (.lst [])
          have t2 := same_new f2 (.lst [])
          have t3 := same_new f3 (.lst [])
          have t4 := same_new fF (.lst [V.ref l0, V.ref l1, V.ref l2, V.ref l3])
          have t5 := same_new ft (.tup [V.int (((n + 1 : Nat) : Int) - 1), V.ref F])
          have a0 := t5 _ _ (t4 _ _ (t3 _ _ (t2 _ _ (t1 _ _ (upd_same (H := _) (a := l0) (o := .lst []))))))
          have a1 := t5 _ _ (t4 _ _ (t3 _ _ (t2 _ _ (upd_same (H := _) (a := l1) (o := .lst [])))))
          have a2 := t5 _ _ (t4 _ _ (t3 _ _ (upd_same (H := _) (a := l2) (o := .lst []))))
          have a3 := t5 _ _ (t4 _ _ (upd_same (H := _) (a := l3) (o := .lst [])))
          have aF := t5 _ _ (upd_same (H := _) (a := F) (o := .lst [V.ref l0, V.ref l1, V.ref l2, V.ref l3]))
          have n1 : l1 ≠ l0 := fun e => by rw [e, upd_same] at f1; cases f1
          have n2 : l2 ≠ l0 := fun e => by rw [e, t1 _ _ upd_same] at f2; cases f2
          have n3 : l3 ≠ l0 := fun e => by rw [e, t2 _ _ (t1 _ _ upd_same)] at f3; cases f3
          have n4 : F ≠ l0 := fun e => by rw [e, t3 _ _ (t2 _ _ (t1 _ _ upd_same))] at fF; cases fF
          have m2 : l2 ≠ l1 := fun e => by rw [e, upd_same] at f2; cases f2
          have m3 : l3 ≠ l1 := fun e => by rw [e, t2 _ _ upd_same] at f3; cases f3
          have m4 : F ≠ l1 := fun e => by rw [e, t3 _ _ (t2 _ _ upd_same)] at fF; cases fF
          have k3 : l3 ≠ l2 := fun e => by rw [e, upd_same] at f3; cases f3
          have k4 : F ≠ l2 := fun e => by rw [e, t3 _ _ upd_same] at fF; cases fF
          have j4 : F ≠ l3 := fun e => by rw [e, upd_same] at fF; cases fF
          have g0 : H l0 = none := Same.back s1 f0
          have g1 : H l1 = none := Same.back s1 (Same.back t0 f1)
          have g2 : H l2 = none := Same.back s1 (Same.back t0 (Same.back t1 f2))
          have g3 : H l3 = none := Same.back s1 (Same.back t0 (Same.back t1 (Same.back t2 f3)))
          refine ⟨tt, _, rfl, SqT.of upd_same, rfl, _, _, rfl, _, _, rfl, rfl, ?_⟩
          have sA : Same H _ := s1.trans (t0.trans (t1.trans (t2.trans (t3.trans (t4.trans t5)))))
          generalize upd _ tt _ = HA at a0 a1 a2 a3 aF sA
          have L : ∃ L : Nat → Addr, L 0 = l0 ∧ L 1 = l1 ∧ L 2 = l2 ∧ L 3 = l3 := ⟨fun j => match j with | 0 => l0 | 1 => l1 | 2 => l2 | _ => l3, rfl, rfl, rfl, rfl⟩
          obtain ⟨L, rfl, rfl, rfl, rfl⟩ := L
          have Ln : ∀ j, j < 4 → H (L j) = none := fun j hj => match j, hj with | 0, _ => g0 | 1, _ => g1 | 2, _ => g2 | 3, _ => g3
          have LF : ∀ j, j < 4 → F ≠ L j := fun j hj => match j, hj with | 0, _ => n4 | 1, _ => m4 | 2, _ => k4 | 3, _ => j4
          have Li : ∀ i j, i < 4 → j < 4 → i ≠ j → L i ≠ L j := fun i j hi hj hne => match i, j, hi, hj with
            | 0, 0, _, _ => absurd rfl hne | 0, 1, _, _ => n1.symm | 0, 2, _, _ => n2.symm | 0, 3, _, _ => n3.symm
            | 1, 0, _, _ => n1 | 1, 1, _, _ => absurd rfl hne | 1, 2, _, _ => m2.symm | 1, 3, _, _ => m3.symm
            | 2, 0, _, _ => n2 | 2, 1, _, _ => m2 | 2, 2, _, _ => absurd rfl hne | 2, 3, _, _ => k3.symm
            | 3, 0, _, _ => n3 | 3, 1, _, _ => m3 | 3, 2, _, _ => k3 | 3, 3, _, _ => absurd rfl hne
          have La : ∀ j : Nat, j < 4 → atI [V.ref (L 0), V.ref (L 1), V.ref (L 2), V.ref (L 3)] (j : Int) = some (.ref (L j)) := fun j hj => match j, hj with | 0, _ => atI_nat rfl | 1, _ => atI_nat rfl | 2, _ => atI_nat rfl | 3, _ => atI_nat rfl
          have L0 : ∀ j, j < 4 → LPts HA (L j) (qu n (ps.take 0) j) := fun j hj => by
            have e : qu n (ps.take 0) j = [] := by rw [List.take_zero]; rfl
            rw [e]
            exact match j, hj with | 0, _ => ⟨[], a0, trivial⟩ | 1, _ => ⟨[], a1, trivial⟩ | 2, _ => ⟨[], a2, trivial⟩ | 3, _ => ⟨[], a3, trivial⟩
          have s1A : ∀ {b o}, (upd H u (.lst [])) b = some o → H b = some o → HA b = some o := fun {b o} _ h => sA _ _ h
          have lA : HA l = some (.lst xs) := by
            obtain ⟨xs', h', _⟩ := hL
            have := s1 _ _ h'
            rw [hxs] at this
            injection this with this
            injection this with this
            rw [this]
            exact sA _ _ h'
          have ptA : PtsAt HA xs ps := by
            obtain ⟨xs', h', hp'⟩ := hL
            have := s1 _ _ h'
            rw [hxs] at this
            injection this with this
            injection this with this
            rw [this]
            exact hp'.mono (Same.tk sA)
          have lH : H l = some (.lst xs) := by
            obtain ⟨xs', h', _⟩ := hL
            have := sA _ _ h'
            rw [lA] at this
            rw [this]
            exact h'
          have en : ((n + 1 : Nat) : Int) - 1 = (n : Int) := by omega
          refine ⟨_, rfl, l, rfl, ⟨_, SqL.of lA⟩, for_it (walk_list (K := K) (a := l) (xs := xs)) (fun i σ H5 => ∃ x y : Option V, σ = [some (.int ((n + 1 : Nat) : Int)), some (.ref l), some (.int (n : Int)), some (.ref F), x, y, none] ∧ Same H H5 ∧ TupK HA H5 ∧
              H5 F = some (.lst [V.ref (L 0), V.ref (L 1), V.ref (L 2), V.ref (L 3)]) ∧ ∀ j, j < 4 → LPts H5 (L j) (qu n (ps.take i) j))
            ⟨none, none, congrArg (fun z : V => [some (V.int ((n + 1 : Nat) : Int)), some (V.ref l), some z, some (V.ref F), none, none, none]) (congrArg V.int en), sA, fun _ _ h => h, aF, L0⟩ (fun i σ H5 _ ⟨_, _, _, s5, _⟩ => SqL.of (s5 _ _ lH)) ?_ ?_⟩
          · rintro i x σ H5 H6 hi ⟨_, _, rfl, s5, tk5, hF, hLs⟩ ⟨rfl, ex⟩
            obtain ⟨p, hp, t, rfl, ht⟩ := ptA.at ex
            have ht5 := tk5 _ _ ht
            have hin : inq (n + 1) p = true := List.all_eq_true.mp hall p (List.mem_of_getElem? hp)
            obtain ⟨j, hj, eq⟩ := qi_lt hin
            obtain ⟨ys, hys, hyp⟩ := hLs j hj
            refine ⟨t, _, rfl, SqT.of ht5, rfl, _, _, rfl, _, _, rfl, rfl, ?_⟩
            refine ⟨_, rfl, _, rfl, _, rfl, p.1, n, rfl, rfl, _, rfl, _, rfl, p.2, n, rfl, rfl, _, _, rfl, rfl, .inl ⟨by decide, by decide⟩, _, _, rfl, rfl, ?_⟩
            refine ⟨F, _, _, V.ref (L j), rfl, rfl, SqL.of hF, ?_, .inl ⟨rfl, _, SqL.of hys⟩, ?_⟩
            · rw [← La j hj, ← eq]
              rfl
            have e2 : (1 : Int) * 2 ^ (n : Int).toNat - 1 = 2 ^ n - 1 := by rw [Int.toNat_natCast, Int.one_mul]
            refine ⟨_, rfl, _, rfl, _, _, rfl, rfl, ⟨by omega, by omega, by decide⟩, _, _, rfl, rfl, p.1, n, rfl, congrArg V.int e2, ?_⟩
            refine ⟨_, rfl, _, rfl, _, _, rfl, rfl, ⟨by omega, by omega, by decide⟩, _, _, rfl, rfl, p.2, n, rfl, congrArg V.int e2, ?_⟩
            refine ⟨by show 2 ≤ sizeLine; decide, fun T hT => ?_⟩
            have sT := same_new hT (.tup [V.int (p.1 % 2 ^ n), V.int (p.2 % 2 ^ n)])
            have hysT := sT _ _ hys
            have hyl := hyp.len
            have hql := qu_len n (ps.take i) j
            have htl : (ps.take i).length ≤ ps.length := List.length_take_le' _ _
            refine ⟨L j, ys, .ref T, rfl, rfl, hysT, by rw [sizeLine_eq]; omega, ?_⟩
            have tkL : TupK (upd H6 T (.tup [V.int (p.1 % 2 ^ n), V.int (p.2 % 2 ^ n)])) (upd (upd H6 T (.tup [V.int (p.1 % 2 ^ n), V.int (p.2 % 2 ^ n)])) (L j) (.lst (ys ++ [V.ref T]))) := tk_list hysT
            have tkAll := (Same.tk sT).trans tkL
            refine ⟨_, _, rfl, fun b o e => ?_, tk5.trans tkAll, ?_, fun j' hj' => ?_⟩
            · rw [upd_ne (ne_of_none e (Ln j hj))]
              exact sT _ _ (s5 _ _ e)
            · rw [upd_ne (LF j hj)]
              exact sT _ _ hF
            · rw [qu_take hp]
              by_cases ej : j' = j
              · subst ej
                rw [if_pos eq]
                exact ⟨ys ++ [V.ref T], upd_same, PtsAt.snoc ⟨T, rfl, tkL _ _ upd_same⟩ (hyp.mono tkAll)⟩
              · rw [if_neg (by rw [eq]; omega), List.append_nil]
                obtain ⟨zs, hzs, hzp⟩ := hLs j' hj'
                exact ⟨zs, by rw [upd_ne (Li j' j hj' hj ej)]; exact sT _ _ hzs, hzp.mono tkAll⟩
          · rintro σ H5 ⟨_, _, rfl, s5, tk5, hF, hLs⟩
            rw [hxl, List.take_length] at hLs
            refine ⟨_, rfl, F, rfl, ⟨_, SqL.of hF⟩, fun D hD => lc_list1 (K := K) (fun j y H => ∀ S', [bAt n (qu n ps 0), bAt n (qu n ps 1), bAt n (qu n ps 2), bAt n (qu n ps 3)][j]? = some S' → PicAt H y S') (fun _ _ _ _ k h S' e => (h S' e).mono k) hD hF (by show 4 ≤ 10000; decide) (fun j x H6 k hx s6 hk => ?_) (fun H6 ys s6 hDl hl hys => ?_)⟩
            · refine ⟨_, rfl, _, rfl, ?_⟩
              have go : ∀ j, j < 4 → x = .ref (L j) → okAt n (qu n ps j) = true → (∀ v' H', Same H6 H' → PicAt H' v' (bAt n (qu n ps j)) → k v' H') → spBlackAt d [V.int (n : Int), x] H6 k E0 := fun j hj ex ho hk' => by
                subst ex
                have := qu_len n ps j
                exact ⟨n, L j, qu n ps j, rfl, (hLs j hj).mono s6, ho, by omega, by omega, by omega, hk'⟩
              match j, hx with
              | 0, hx => cases hx; exact go 0 (by decide) rfl o0 fun v' H' s' hv => hk _ _ s' fun S' e => by cases e; exact hv
              | 1, hx => cases hx; exact go 1 (by decide) rfl o1 fun v' H' s' hv => hk _ _ s' fun S' e => by cases e; exact hv
              | 2, hx => cases hx; exact go 2 (by decide) rfl o2 fun v' H' s' hv => hk _ _ s' fun S' e => by cases e; exact hv
              | 3, hx => cases hx; exact go 3 (by decide) rfl o3 fun v' H' s' hv => hk _ _ s' fun S' e => by cases e; exact hv
            · obtain ⟨y0, y1, y2, y3, rfl⟩ := list4 hl
              exact ⟨D, y0, y1, y2, y3, _, _, _, _, rfl, hDl, hys 0 y0 rfl _ rfl, hys 1 y1 rfl _ rfl, hys 2 y2 rfl _ rfl, hys 3 y3 rfl _ rfl, fun v' H' s' hv => q _ _ (s5.trans (s6.trans s')) hv⟩
end
end Pl

namespace Pl
open PySem PySem.Spec PyProof.Rows L2
section
variable {P : Program} {w : World} {K : PySem.W.Frag} {mg : Str → Option Value} {base : Heap} {C : Addr}
/-! ### painted -/
def spPainted : Sp := fun vs H Q _ => ∃ (n : Nat) (l : Addr) (ps : List Pt), vs = [.int (n : Int), .ref l] ∧ LPts H l ps ∧ ps.Nodup ∧ (∀ p ∈ ps, inq n p = true) ∧ okAt n ps = true ∧ ps.length ≤ 500 ∧ n ≤ 40 ∧ dp (bAt n ps) < 41 ∧ cnt (bAt n ps) ≤ 4000 ∧
  ∀ v' H', Same H H' → PicAt H' v' (bAt n ps) → Q v' H'
theorem scPainted : FnScope ["figures", "places", "seen", "index", "place"] ["figures", "places"] (defScope sPainted) := ⟨rfl, rfl, rfl, by decide +kernel, rfl, by decide +kernel, by decide +kernel⟩
theorem ok_painted {t : Tok} (a : At K mg "painted" sPainted) (T : Bi mg) (mM : mg "MAX_PLACES" = some (.int 500 t)) (rf_ : CRF P w K mg base) (ip : Can P w K mg base 2 "is_place" ["figures", "value"] spIsPlace) (ba : Can P w K mg base 42 "black_at" ["figures", "places"] (spBlackAt 41))
    (ck : Can P w K mg base 42 "checked" ["picture"] (spChecked 41)) : Can P w K mg base 43 "painted" ["figures", "places"] spPainted := by
  refine a.can scPainted (fun vs H Q E h => ?_) (fun _ _ _ _ _ _ us hl => match us, hl with | [_, _], _ => rfl) (fun f cdv A outer s H vs Q E hr h => ?_)
  · obtain ⟨n, l, ps, rfl, _⟩ := h
    rfl
  · obtain ⟨n, l, ps, rfl, ⟨xs, hxs, hp⟩, hnd, hin, hok, hlen, h40, hdp, hc, q⟩ := h
    have hr2 : Room 2 _ := hr.mono (by decide)
    refine ⟨_, pss_cons (ps_expr (pe_can rf_ (hr.mono (by decide)) (pa_cons (pv 0) pa_nil)))
      (pss_cons (ps_if (PW.pt (pw_or (pt_not (pt_val (pe_callB call_isiT (by rfl) T.isi (by decide +kernel) (pa_cons (pv 1) (pa_cons (pe_tup (pa_cons (pe_bltn (v := .ty "list") (by rfl) T.list (by decide +kernel) rfl) (pa_cons (pe_bltn (v := .ty "tuple") (by rfl) T.tuple (by decide +kernel) rfl) pa_nil))) pa_nil)))))
          (pw_or1 (pt_cmpR op_gt (pe_callB call_len_seq (by rfl) T.len PySem.boot_len (pa_cons (pv 1) pa_nil)) (pe_glob (v := .int 500) (by rfl) mM ⟨_, rfl⟩) (nomark _))))) (pss_one ps_never) pss_nil)
      (pss_cons (ps_set (i := 2) scPainted.nd rfl (Or.inl rfl) pe_dnewT)
      (pss_cons (ps_for PassesOwn.never rfl (pi_enum (by rfl) T.enumerate (pa_cons (pv 1) pa_nil)) (pg_tup rfl (pgs_cons (pg_name (i := 3) scPainted.nd rfl (Or.inl rfl)) (pgs_cons (pg_name (i := 4) scPainted.nd rfl (Or.inl rfl)) pgs_nil)))
          (pss_cons (ps_if (PW.pt (pw_or (pt_not (pt_val (pe_can ip hr2 (pa_cons (pv 0) (pa_cons (pv 4) pa_nil))))) (pw_or1 (pt_cmp (pc_din (hu_of hr) (pv 4) (pv 2)))))) (pss_one ps_never) pss_nil)
          (pss_one (ps_dput (hu_of hr) (pv 2) (pv 4) (pe_bl (b := true)) rfl))))
      (pss_one (ps_ret (pe_can ck hr (pa_cons (pe_can ba hr (pa_cons (pv 0) (pa_cons (pe_callTy call_list_of (by rfl) T.list (by decide +kernel) (pa_cons (pv 1) pa_nil)) pa_nil))) pa_nil))))))), ?_⟩
    refine ⟨_, rfl, n, rfl, h40, ?_⟩
    refine ⟨_, rfl, by show 2 ≤ sizeLine; decide, fun u nu => ?_⟩
    have s1 := same_new nu (.tup [V.ty "list", V.ty "tuple"])
    refine ⟨_, u, [V.ty "list", V.ty "tuple"], _, _, true, rfl, upd_same, .cons (.ty _) (.cons (.ty _) .nil), .base (.lst (s1 _ _ hxs)), kitAny_cons (b := true) (kit_ty (by decide +kernel)) (fun e => by cases e) (fun _ => rfl), true, rfl, iteF ?_⟩
    have hxl := hp.len
    refine ⟨_, rfl, l, _, rfl, .inl (SqL.of (s1 _ _ hxs)), _, _, rfl, rfl, false, ?_, iteF ?_⟩
    · show V.bl (decide ((500 : Int) < (xs.length : Int))) = .bl false
      rw [decide_eq_false (by omega)]
    intro D hD
    have s2 := s1.trans (same_new hD (.dT []))
    have HD : H D = none := Same.back s1 hD
    refine ⟨_, rfl, l, _, rfl, SqL.of (s2 _ _ hxs), for_it (walk_enum (K := K) (a := l) (xs := xs)) (fun i σ H5 => ∃ x y : Option V, σ = [some (.int (n : Int)), some (.ref l), some (.ref D), x, y] ∧ Same H H5 ∧ H5 D = some (.dT (dpt (ps.take i) (.bl true))))
      ⟨none, none, rfl, s2, by rw [List.take_zero]; exact upd_same⟩ (fun i σ H5 _ ⟨_, _, _, s5, _⟩ => SqL.of (s5 _ _ hxs)) ?_ ?_⟩
    · rintro i x σ H5 H6 hi ⟨_, _, rfl, s5, h5⟩ ⟨u2, x1, y1, rfl, nu2, rfl, ex, ey⟩
      cases ex
      obtain ⟨p, hpi, t0, rfl, ht⟩ := hp.at ey
      have s6 := same_new nu2 (.tup [V.int (i : Int), V.ref t0])
      refine ⟨u2, _, rfl, SqT.of upd_same, rfl, _, _, rfl, _, _, rfl, rfl, ?_⟩
      have s56 := s5.trans s6
      have h6 := s6 _ _ h5
      generalize upd H5 u2 (.tup [V.int (i : Int), V.ref t0]) = H7 at s56 h6
      refine ⟨_, rfl, _, rfl, n, _, p, rfl, ⟨t0, rfl, s56 _ _ ht⟩, hin p (List.mem_of_getElem? hpi), h40, fun H8 s8 => ⟨true, rfl, iteF ?_⟩⟩
      have h8 := s8 _ _ h6
      have s58 := s56.trans s8
      have ht8 : H8 t0 = some (.tup ((pkey p).map kV)) := s58 _ _ ht
      have hnot : p ∉ ps.take i := fun hm => by
        obtain ⟨j, hj, ej⟩ := List.mem_iff_getElem.mp hm
        rw [List.length_take] at hj
        rw [List.getElem_take] at ej
        have hi2 : i < ps.length := (List.getElem?_eq_some_iff.mp hpi).1
        have ep : ps[i] = p := (List.getElem?_eq_some_iff.mp hpi).2
        have := (List.getElem_inj (h₀ := by omega) (h₁ := hi2) hnd).mp (ej.trans ep.symm)
        omega
      refine ⟨_, rfl, _, rfl, D, _, rfl, DGet.t h8 ht8, _, rfl, ?_⟩
      rw [valV_dpt, if_neg hnot]
      refine iteF ?_
      refine ⟨_, rfl, _, rfl, D, _, rfl, DPut.t h8 ht8 (by rw [dpt_len, sizeLine_eq]; have : (ps.take i).length ≤ ps.length := List.length_take_le' _ _; omega), ?_⟩
      refine ⟨_, _, rfl, fun b o e => ?_, ?_⟩
      · rw [upd_ne (ne_of_none e HD)]
        exact s58 _ _ e
      · rw [dpt_put hnot]
        have : ps.take (i + 1) = ps.take i ++ [p] := by rw [List.take_add_one, hpi]; rfl
        rw [this]
        exact upd_same
    · rintro σ H5 ⟨_, _, rfl, s5, h5⟩
      refine ⟨_, rfl, _, rfl, l, xs, rfl, .inl (SqL.of (s5 _ _ hxs)), fun l2 hl2 => ?_⟩
      have s6 := s5.trans (same_new hl2 (.lst xs))
      refine ⟨n, l2, ps, rfl, ⟨xs, upd_same, hp.mono (Same.tk s6)⟩, hok, by omega, h40, by omega, fun v' H' s' hv => ?_⟩
      exact ⟨v', _, rfl, hv, hdp, hc, fun H'' s'' => q _ _ (s6.trans (s'.trans s'')) (hv.mono (Same.tk s''))⟩
end
end Pl

namespace Pl
open PySem PySem.Spec PyProof.Rows L2
abbrev sMixed : Stmt := top 48
abbrev sSource : Stmt := top 49
abbrev sTake : Stmt := top 50
abbrev sPick : Stmt := top 51
section
variable {P : Program} {w : World} {K : PySem.W.Frag} {mg : Str → Option Value} {base : Heap} {C : Addr}
/-! ### _law_mixed: some int -/
def spMixed : Sp := fun vs H Q _ => ∃ a b : Int, vs = [.int a, .int b] ∧ ∀ r : Int, Q (.int r) H
theorem scMixed : FnScope ["_law_cell", "_law_draw", "_law_figure"] ["_law_cell", "_law_draw"] (defScope sMixed) := ⟨rfl, rfl, rfl, by decide +kernel, rfl, by decide +kernel, by decide +kernel⟩
theorem mod_sm (a m : Int) (h : 0 < m) (hm : m < 18446744073709551616) : -(2 ^ 64) < a % m ∧ a % m < 2 ^ 64 := by
  have h1 := Int.emod_nonneg a (by omega : m ≠ 0)
  have h2 := Int.emod_lt_of_pos a h
  constructor <;> omega
theorem ok_mixed (a : At K mg "_law_mixed" sMixed) (T : Bi mg) : Can P w K mg base 1 "_law_mixed" ["_law_cell", "_law_draw"] spMixed := by
  refine a.can scMixed (fun vs H Q E h => ?_) (fun _ _ _ _ _ _ us hl => match us, hl with | [_, _], _ => rfl) (fun f cdv A outer s H vs Q E hr h => ?_)
  · obtain ⟨a, b, rfl, _⟩ := h
    rfl
  · obtain ⟨a, b, rfl, q⟩ := h
    refine ⟨_, pss_cons (ps_set (i := 2) scMixed.nd rfl (Or.inl rfl) (pe_op op_mod (pe_callTy call_int1 (by rfl) T.int (by decide +kernel) (pa_cons (pe_op op_mul (pe_op op_add (pe_op op_mod (pe_callTy call_int1 (by rfl) T.int (by decide +kernel) (pa_cons (pv 0) pa_nil)) pe_int) pe_int) (pe_op op_add (pe_op op_mul (pv 1) pe_int) pe_int)) pa_nil)) pe_int))
      (pss_cons (ps_set (i := 2) scMixed.nd rfl (Or.inl rfl) (pe_op op_mod (pe_callTy call_int1 (by rfl) T.int (by decide +kernel) (pa_cons (pe_op op_mul (pe_op op_add (pv 2) (pe_op op_mul (pe_op op_mod (pe_callTy call_int1 (by rfl) T.int (by decide +kernel) (pa_cons (pe_op op_fdivW (pv 0) pe_int) pa_nil)) pe_int) (pe_op op_add (pv 1) pe_int))) pe_int) pa_nil)) pe_int))
      (pss_cons (ps_set (i := 2) scMixed.nd rfl (Or.inl rfl) (pe_op op_mod (pe_callTy call_int1 (by rfl) T.int (by decide +kernel) (pa_cons (pe_op op_mul (pv 2) (pe_op op_add (pe_op op_add (pe_op op_fdivW (pv 2) pe_int) pe_int) (pv 1))) pa_nil)) pe_int))
      (pss_one (ps_ret (pe_op op_mod (pe_callTy call_int1 (by rfl) T.int (by decide +kernel) (pa_cons (pe_op op_mul (pv 2) (pe_op op_add (pe_op op_fdivW (pv 2) pe_int) pe_int)) pa_nil)) pe_int))))), ?_⟩
    refine ⟨_, rfl, .inl ⟨_, rfl, _, _, rfl, rfl, (by show (0 : Int) < _; decide), _, _, rfl, rfl, _, rfl, _, _, rfl, rfl, .inr ⟨by decide, by decide⟩, _, _, rfl, rfl, _, _, rfl, rfl, .inl ?_, .inl ⟨_, rfl, _, _, rfl, rfl, (by show (0 : Int) < _; decide), ?_⟩⟩⟩
    · have h1 := Int.emod_nonneg a (by decide : (2147483646 : Int) ≠ 0)
      have h2 := Int.emod_lt_of_pos a (by decide : (0 : Int) < 2147483646)
      constructor <;> show (_ : Int) < _ <;> omega
    refine ⟨_, rfl, _, rfl, _, _, rfl, rfl, ⟨by decide, by decide +kernel⟩, .inl ⟨_, rfl, _, _, rfl, rfl, (by show (0 : Int) < _; decide), _, rfl, _, _, rfl, rfl, _, _, rfl, rfl, .inl (mod_sm _ _ (by decide) (by decide)), _, _, rfl, rfl, _, _, rfl, rfl, .inr ⟨by decide, by decide⟩, .inl ⟨_, rfl, _, _, rfl, rfl, (by show (0 : Int) < _; decide), ?_⟩⟩⟩
    refine ⟨_, rfl, _, rfl, _, _, rfl, rfl, ⟨by decide, by decide +kernel⟩, _, _, rfl, rfl, _, rfl, _, _, rfl, rfl, _, _, rfl, rfl, .inl (mod_sm _ _ (by decide) (by decide)), .inl ⟨_, rfl, _, _, rfl, rfl, (by show (0 : Int) < _; decide), ?_⟩⟩
    refine ⟨_, rfl, _, rfl, _, _, rfl, rfl, ⟨by decide, by decide +kernel⟩, _, _, rfl, rfl, _, _, rfl, rfl, .inl (mod_sm _ _ (by decide) (by decide)), .inl ⟨_, rfl, _, _, rfl, rfl, (by show (0 : Int) < _; decide), ?_⟩⟩
    exact q _
/-! ### _law_source, _law_take, _law_pick -/
def SrcAt (H : Hp) (s : Addr) : Prop := ∃ a b c : Int, H s = some (.lst [.int a, .int b, .int c])
theorem SrcAt.same {H H' : Hp} {s : Addr} (h : SrcAt H s) (k : Same H H') : SrcAt H' s := by
  obtain ⟨a, b, c, h⟩ := h
  exact ⟨a, b, c, k _ _ h⟩
theorem SrcAt.tk {H H' : Hp} {s : Addr} (h : SrcAt H s) (k : SameB s H H') : TupK H H' := by
  obtain ⟨a, b, c, h⟩ := h
  exact k.tk h
def spSource : Sp := fun vs H Q _ => ∃ a : Int, vs = [.int a] ∧ ∀ s H', Same H H' → H s = none → SrcAt H' s → Q (.ref s) H'
theorem scSource : FnScope ["_law_cell"] ["_law_cell"] (defScope sSource) := ⟨rfl, rfl, rfl, by decide +kernel, rfl, by decide +kernel, by decide +kernel⟩
theorem ok_source (a : At K mg "_law_source" sSource) (T : Bi mg) : Can P w K mg base 1 "_law_source" ["_law_cell"] spSource := by
  refine a.can scSource (fun vs H Q E h => ?_) (fun _ _ _ _ _ _ us hl => match us, hl with | [_], _ => rfl) (fun f cdv A outer s H vs Q E hr h => ?_)
  · obtain ⟨a, rfl, _⟩ := h
    rfl
  · obtain ⟨a, rfl, q⟩ := h
    refine ⟨_, pss_cons (ps_set (i := 0) scSource.nd rfl (Or.inl rfl) (pe_ifExp (pt_cmpR op_ge (pv 0) pe_int (nomark _)) (pv 0) (pe_op op_sub (pe_op op_sub pe_int (pe_op op_mul pe_int (pv 0))) pe_int)))
      (pss_one (ps_ret (pe_lst (pa_cons (pe_op op_mul (pv 0) (pe_callTy call_int1 (by rfl) T.int (by decide +kernel) (pa_cons (pe_cmpR op_ge (pv 0) (pe_op op_pow pe_int pe_int) (nomark _)) pa_nil))) (pa_cons (pv 0) (pa_cons pe_int pa_nil)))))), ?_⟩
    have fin : ∀ b : Int, ∃ v, (some (some (V.int b)) : Option (Option V)) = some (some v) ∧ v = .int b := fun b => ⟨_, rfl, rfl⟩
    have last : ∀ (b : Int) (k : Bool) (z : Int), ∀ p, H p = none → Q (.ref p) (upd H p (.lst [.int z, .int b, .int 0])) := fun b k z p hp => q p _ (same_new hp _) hp ⟨z, b, 0, upd_same⟩
    refine ⟨_, rfl, _, _, rfl, rfl, _, rfl, ?_⟩
    refine ite2 (fun _ => ?_) (fun _ => ?_)
    · refine ⟨_, rfl, _, rfl, _, rfl, _, _, rfl, rfl, ⟨by decide, by decide, by decide⟩, _, _, rfl, rfl, .inr ⟨_, rfl, _, _, rfl, rfl, .inr ?_, _, rfl, by show 3 ≤ sizeLine; decide, last _ false _⟩⟩
      split <;> constructor <;> decide
    · refine ⟨_, rfl, _, _, rfl, rfl, .inl ⟨by decide, by decide⟩, _, _, rfl, rfl, _, _, rfl, rfl, ?_⟩
      refine ⟨_, rfl, _, rfl, _, _, rfl, rfl, ⟨by decide, by decide, by decide⟩, _, _, rfl, rfl, .inr ⟨_, rfl, _, _, rfl, rfl, .inr ?_, _, rfl, by show 3 ≤ sizeLine; decide, last _ false _⟩⟩
      split <;> constructor <;> decide
def spTake : Sp := fun vs H Q _ => ∃ (s : Addr) (b : Int), vs = [.ref s, .int b] ∧ SrcAt H s ∧ 0 < b ∧ b < 4611686018427387904 ∧ ∀ (r : Int) H', 0 ≤ r → r < b → SameB s H H' → SrcAt H' s → Q (.int r) H'
theorem scTake : FnScope ["_law_source_here", "_law_bound", "_law_drawn_here"] ["_law_source_here", "_law_bound"] (defScope sTake) := ⟨rfl, rfl, rfl, by decide +kernel, rfl, by decide +kernel, by decide +kernel⟩
theorem log_small {b : Int} (h0 : 0 < b) (h : b < 4611686018427387904) : b.natAbs.log2 < 9000 := by
  have h1 : b.natAbs < 2 ^ 62 := by omega
  have := (Nat.log2_lt (by omega : b.natAbs ≠ 0)).mpr h1
  omega
theorem ok_take (a : At K mg "_law_take" sTake) (T : Bi mg) (mx : Can P w K mg base 1 "_law_mixed" ["_law_cell", "_law_draw"] spMixed) : Can P w K mg base 2 "_law_take" ["_law_source_here", "_law_bound"] spTake := by
  refine a.can scTake (fun vs H Q E h => ?_) (fun _ _ _ _ _ _ us hl => match us, hl with | [_, _], _ => rfl) (fun f cdv A outer s H vs Q E hr h => ?_)
  · obtain ⟨s, b, rfl, _⟩ := h
    rfl
  · obtain ⟨s, b, rfl, ⟨x, y, z, hs⟩, hb, hb2, q⟩ := h
    refine ⟨_, pss_cons (ps_if (pt_cmpR op_gt (pe_ix (show IxR _ (rIxL K) from ix_list) (pv 0) pe_int (fun _ _ => rfl)) pe_int (nomark _))
        (pss_cons (ps_set (i := 2) scTake.nd rfl (Or.inl rfl) (pe_op op_mod (pe_callTy call_int1 (by rfl) T.int (by decide +kernel) (pa_cons (pe_ix (show IxR _ (rIxL K) from ix_list) (pv 0) pe_int (fun _ _ => rfl)) pa_nil)) (pv 1)))
        (pss_cons (ps_asg (pe_op op_fdivW (pe_ix (show IxR _ (rIxL K) from ix_list) (pv 0) pe_int (fun _ _ => rfl)) (pv 1)) (pg_sub (pv 0) pe_int set_list))
        (pss_one (ps_ret (pv 2))))) pss_nil)
      (pss_cons (ps_asg (pe_op op_add (pe_ix (show IxR _ (rIxL K) from ix_list) (pv 0) pe_int (fun _ _ => rfl)) pe_int) (pg_sub (pv 0) pe_int set_list))
      (pss_one (ps_ret (pe_op op_mod (pe_callTy call_int1 (by rfl) T.int (by decide +kernel) (pa_cons (pe_can mx hr (pa_cons (pe_ix (show IxR _ (rIxL K) from ix_list) (pv 0) pe_int (fun _ _ => rfl)) (pa_cons (pe_ix (show IxR _ (rIxL K) from ix_list) (pv 0) pe_int (fun _ _ => rfl)) pa_nil))) pa_nil)) (pv 1))))), ?_⟩
    have r0 : ∀ v : Int, 0 ≤ v % b ∧ v % b < b := fun v => ⟨Int.emod_nonneg _ (by omega), Int.emod_lt_of_pos _ hb⟩
    refine ⟨_, rfl, s, _, _, _, rfl, rfl, SqL.of hs, atI_nat (j := 0) rfl, _, _, rfl, rfl, _, rfl, ?_⟩
    refine ite2 (fun _ => ?_) (fun _ => ?_)
    · refine ⟨_, rfl, s, _, _, _, rfl, rfl, SqL.of hs, atI_nat (j := 0) rfl, .inl ⟨_, rfl, _, rfl, _, _, rfl, rfl, hb, ?_⟩⟩
      refine ⟨_, rfl, s, _, _, _, rfl, rfl, SqL.of hs, atI_nat (j := 0) rfl, _, rfl, _, _, rfl, rfl, ⟨hb, log_small hb hb2⟩, ?_⟩
      refine ⟨_, rfl, s, _, _, 0, rfl, rfl, hs, (show ixN 3 0 = some 0 by decide), ?_⟩
      refine ⟨_, rfl, q _ _ (r0 _).1 (r0 _).2 SameB.upd ⟨_, _, _, upd_same⟩⟩
    · refine ⟨_, rfl, s, _, _, _, rfl, rfl, SqL.of hs, atI_nat (j := 2) rfl, _, _, rfl, rfl, ?_⟩
      refine ⟨_, rfl, s, _, _, 2, rfl, rfl, hs, (show ixN 3 2 = some 2 by decide), ?_⟩
      have hs2 : upd H s (.lst ([V.int x, V.int y, V.int z].set 2 (.int (z + 1)))) s = some (.lst [V.int x, V.int y, V.int (z + 1)]) := upd_same
      refine ⟨_, rfl, s, _, _, _, rfl, rfl, SqL.of hs2, atI_nat (j := 1) rfl, _, rfl, s, _, _, _, rfl, rfl, SqL.of hs2, atI_nat (j := 2) rfl, _, _, rfl, fun r => .inl ⟨_, rfl, _, rfl, _, _, rfl, rfl, hb, ?_⟩⟩
      exact q _ _ (r0 _).1 (r0 _).2 SameB.upd ⟨_, _, _, hs2⟩
def spPick : Sp := fun vs H Q _ => ∃ (s l : Addr) (xs : List V), vs = [.ref s, .ref l] ∧ SrcAt H s ∧ l ≠ s ∧ H l = some (.lst xs) ∧ 0 < xs.length ∧ xs.length < 1000 ∧ ∀ (i : Nat) (v : V) H', xs[i]? = some v → SameB s H H' → SrcAt H' s → Q v H'
theorem scPick : FnScope ["_law_source_here", "_law_some"] ["_law_source_here", "_law_some"] (defScope sPick) := ⟨rfl, rfl, rfl, by decide +kernel, rfl, by decide +kernel, by decide +kernel⟩
theorem ok_pick (a : At K mg "_law_pick" sPick) (T : Bi mg) (tk : Can P w K mg base 2 "_law_take" ["_law_source_here", "_law_bound"] spTake) : Can P w K mg base 3 "_law_pick" ["_law_source_here", "_law_some"] spPick := by
  refine a.can scPick (fun vs H Q E h => ?_) (fun _ _ _ _ _ _ us hl => match us, hl with | [_, _], _ => rfl) (fun f cdv A outer s H vs Q E hr h => ?_)
  · obtain ⟨s, l, xs, rfl, _⟩ := h
    rfl
  · obtain ⟨s, l, xs, rfl, hs, hne, hl, h0, h1, q⟩ := h
    refine ⟨_, pss_one (ps_ret (pe_ix (show IxR _ (rIxL K) from ix_list) (pv 1) (pe_can tk hr (pa_cons (pv 0) (pa_cons (pe_callB call_len_seq (by rfl) T.len PySem.boot_len (pa_cons (pv 1) pa_nil)) pa_nil))) (fun _ _ => rfl))), ?_⟩
    refine ⟨_, rfl, _, rfl, _, rfl, l, _, rfl, .inl (SqL.of hl), s, _, rfl, hs, by omega, by omega, fun r H' r0 r1 s' hs' => ?_⟩
    obtain ⟨n, rfl⟩ : ∃ n : Nat, r = (n : Int) := ⟨r.toNat, by omega⟩
    have hn : n < xs.length := by omega
    have e : xs[n]? = some xs[n] := List.getElem?_eq_getElem hn
    exact ⟨l, _, _, _, rfl, rfl, SqL.of (s' _ _ hne hl), atI_nat e, q n _ _ e s' hs'⟩
end
end Pl

namespace Pl
open PySem PySem.Spec PyProof.Rows L2
abbrev sSides : Stmt := top 54
abbrev sFlooded : Stmt := top 55
section
variable {P : Program} {w : World} {K : PySem.W.Frag} {mg : Str → Option Value} {base : Heap} {C : Addr}
/-! ### _law_sides -/
def spSides : Sp := fun vs H Q _ => ∃ (l : Addr) (ps : List Pt), vs = [.ref l] ∧ LPts H l ps ∧ ps.Nodup ∧ ps.length ≤ 1000 ∧ ∀ H', Same H H' → Q (.int (sidesN ps : Int)) H'
theorem scSides : FnScope ["_law_spots", "_law_found", "_law_known", "_law_x", "_law_y", "_law_near", "_law_spot", "_law_one"] ["_law_spots"] (defScope sSides) := ⟨rfl, rfl, rfl, by decide +kernel, rfl, by decide +kernel, by decide +kernel⟩
def sideN (ps : List Pt) (p : Pt) : Nat := ((nb p).filter fun q => decide (q ∉ ps)).length
theorem ok_sides (a : At K mg "_law_sides" sSides) (T : Bi mg) : Can P w K mg base 1 "_law_sides" ["_law_spots"] spSides := by
  refine a.can scSides (fun vs H Q E h => ?_) (fun _ _ _ _ _ _ us hl => match us, hl with | [_], _ => rfl) (fun f cdv A outer s H vs Q E hr h => ?_)
  · obtain ⟨l, ps, rfl, _⟩ := h
    rfl
  · obtain ⟨l, ps, rfl, ⟨xs, hxs, hpts⟩, hnd, hlen, q⟩ := h
    refine ⟨_, pss_cons (ps_asg (pe_tup (pa_cons pe_int (pa_cons (pe_callTy (call_dictPT rfl hr.units) (by rfl) T.dict (by decide +kernel) (pa_cons (pe_lc (own := [("_law_spot", 6)]) (g := gName 6) (tt := tYes) rfl scSides.nd (pi_list (pv 0))
            (blkOk_by (own := [("_law_spot", 6)]) (N := ["_law_spots", "_law_found", "_law_known", "_law_x", "_law_y", "_law_near", "_law_spot", "_law_one"]) (sc := defScope sSides) (by decide +kernel)) (fun _ _ _ _ _ => pg_name (i := 6) scSides.nd rfl (Or.inl rfl)) (fun _ _ _ _ _ => pts_nil)
            (fun _ _ _ _ _ => pe_tup (pa_cons (pv 6) (pa_cons (pe_bl (b := true)) pa_nil)))) pa_nil)) pa_nil)))
          (pg_tup rfl (pgs_cons (pg_name (i := 1) scSides.nd rfl (Or.inl rfl)) (pgs_cons (pg_name (i := 2) scSides.nd rfl (Or.inr rfl)) pgs_nil))))
      (pss_cons (ps_for PassesOwn.never rfl (pi_list (pv 0)) (pg_tup rfl (pgs_cons (pg_name (i := 3) scSides.nd rfl (Or.inl rfl)) (pgs_cons (pg_name (i := 4) scSides.nd rfl (Or.inl rfl)) pgs_nil)))
          (pss_cons (ps_set (i := 5) scSides.nd rfl (Or.inl rfl) (pe_lst (pa_cons (pe_tup (pa_cons (pe_op op_add (pv 3) pe_int) (pa_cons (pv 4) pa_nil))) (pa_cons (pe_tup (pa_cons (pe_op op_sub (pv 3) pe_int) (pa_cons (pv 4) pa_nil)))
              (pa_cons (pe_tup (pa_cons (pv 3) (pa_cons (pe_op op_add (pv 4) pe_int) pa_nil))) (pa_cons (pe_tup (pa_cons (pv 3) (pa_cons (pe_op op_sub (pv 4) pe_int) pa_nil))) pa_nil))))))
          (pss_one (ps_set (i := 1) scSides.nd rfl (Or.inl rfl) (pe_op op_add (pv 1) (pe_callB call_len_seq (by rfl) T.len PySem.boot_len (pa_cons (pe_lc (own := [("_law_one", 7)]) (g := gName 7) rfl scSides.nd (pi_list (pv 5))
            (blkOk_by (own := [("_law_one", 7)]) (N := ["_law_spots", "_law_found", "_law_known", "_law_x", "_law_y", "_law_near", "_law_spot", "_law_one"]) (sc := defScope sSides) (by decide +kernel)) (fun _ _ _ _ _ => pg_name (i := 7) scSides.nd rfl (Or.inl rfl))
            (fun _ _ _ _ _ => pts_one (pt_cmp (pc_dnotin (hu_of hr) (pv 7) (pv 2)))) (fun _ _ _ _ _ => pv 7)) pa_nil)))))))
      (pss_one (ps_ret (pv 1)))), ?_⟩
    have hxl := hpts.len
    refine ⟨_, rfl, l, rfl, ⟨_, SqL.of hxs⟩, fun D hD => lc_list1 (K := K) (fun j y H => ∀ p, ps[j]? = some p → EntAt H y p (.bl true)) (fun _ _ _ _ k h p e => (h p e).mono k) hD hxs (by omega) (fun j x H2 k hx s2 hk => ?_) (fun H2 ys s2 hDl hl hys => ?_)⟩
    · obtain ⟨p, hpj, t, rfl, ht⟩ := hpts.at hx
      refine ⟨_, rfl, by show 2 ≤ sizeLine; decide, fun T0 hT0 => ?_⟩
      have s3 := same_new hT0 (.tup [V.ref t, V.bl true])
      exact hk _ _ s3 fun p' e' => by
        rw [hpj] at e'
        cases e'
        exact ⟨T0, t, rfl, upd_same, s3 _ _ (s2 _ _ ht)⟩
    obtain ⟨es, rfl, hes, hkv⟩ := ents_idx (K := K) (by rw [hl, hxl]) hys
    refine ⟨D, es, rfl, SqL.of hDl, hes, fun kn hkn => ⟨by show 2 ≤ sizeLine; decide, fun tt ftt => ?_⟩⟩
    have s3 := same_new hkn (.dT (mergeT [] (es.map Ent.kv)))
    have hk3 : upd H2 kn (.dT (mergeT [] (es.map Ent.kv))) kn = some (.dT (dpt ps (.bl true))) := by
      rw [upd_same, hkv]
      have := dpt_merge (v := V.bl true) ps [] (by rw [List.nil_append]; exact hnd)
      rw [List.nil_append] at this
      exact congrArg (fun z => some (HO.dT z)) this
    have s4 := same_new ftt (.tup [V.int 0, V.ref kn])
    have hk4 := s4 _ _ hk3
    have s04 := s2.trans (s3.trans s4)
    refine ⟨tt, _, rfl, SqT.of upd_same, rfl, _, _, rfl, _, _, rfl, rfl, ?_⟩
    refine ⟨_, rfl, l, rfl, ⟨_, SqL.of (s04 _ _ hxs)⟩, for_it (walk_list (K := K) (a := l) (xs := xs)) (fun i σ H5 => ∃ x y z : Option V, σ = [some (.ref l), some (.int ((((ps.take i).map (sideN ps)).sum : Nat) : Int)), some (.ref kn), x, y, z, none, none] ∧ Same H H5 ∧ H5 kn = some (.dT (dpt ps (.bl true))))
      ⟨none, none, none, rfl, s04, hk4⟩ (fun i σ H5 _ ⟨_, _, _, _, s5, _⟩ => SqL.of (s5 _ _ hxs)) ?_ ?_⟩
    · rintro i x σ H5 H6 hi ⟨_, _, _, rfl, s5, hk5⟩ ⟨rfl, ex⟩
      obtain ⟨p, hpi, t, rfl, ht⟩ := hpts.at ex
      refine ⟨t, _, rfl, SqT.of (s5 _ _ ht), rfl, _, _, rfl, _, _, rfl, rfl, ?_⟩
      refine ⟨_, rfl, _, _, rfl, rfl, _, rfl, by show 2 ≤ sizeLine; decide, fun T0 f0 => ?_⟩
      refine ⟨_, rfl, _, _, rfl, rfl, _, rfl, by show 2 ≤ sizeLine; decide, fun T1 f1 => ?_⟩
      refine ⟨_, rfl, _, rfl, _, _, rfl, rfl, by show 2 ≤ sizeLine; decide, fun T2 f2 => ?_⟩
      refine ⟨_, rfl, _, rfl, _, _, rfl, rfl, by show 2 ≤ sizeLine; decide, fun T3 f3 => ?_⟩
      refine ⟨by show 4 ≤ sizeLine; decide, fun N fN => ?_⟩
      have g0 := same_new f0 (.tup [V.int (p.1 + 1), V.int p.2])
      have g1 := same_new f1 (.tup [V.int (p.1 - 1), V.int p.2])
      have g2 := same_new f2 (.tup [V.int p.1, V.int (p.2 + 1)])
      have g3 := same_new f3 (.tup [V.int p.1, V.int (p.2 - 1)])
      have gN := same_new fN (.lst [V.ref T0, V.ref T1, V.ref T2, V.ref T3])
      have gg := g0.trans (g1.trans (g2.trans (g3.trans gN)))
      have hpn := (show PtsAt _ [V.ref T0, V.ref T1, V.ref T2, V.ref T3] (nb p) from ⟨⟨T0, rfl, gN _ _ (g3 _ _ (g2 _ _ (g1 _ _ upd_same)))⟩, ⟨T1, rfl, gN _ _ (g3 _ _ (g2 _ _ upd_same))⟩, ⟨T2, rfl, gN _ _ (g3 _ _ upd_same)⟩, ⟨T3, rfl, gN _ _ upd_same⟩, trivial⟩)
      have s6 := s5.trans gg
      have hk6 := gg _ _ hk5
      refine ⟨_, rfl, _, rfl, N, rfl, ⟨_, SqL.of upd_same⟩, fun D2 hD2 => lc_filtP (K := K) (fun q => decide (q ∉ ps)) hD2 upd_same hpn (by show 4 ≤ 10000; decide) (fun x q H7 k hx hm s7 hk => ?_) (fun x H7 k hk => ⟨_, rfl, hk⟩) (fun H7 zs s7 hD2l hzs => ?_)⟩
      · obtain ⟨t2, rfl, ht2⟩ := hx
        refine ⟨_, rfl, _, rfl, kn, _, rfl, DGet.t (s7 _ _ hk6) (show H7 t2 = some (.tup ((pkey q).map kV)) from ht2), _, rfl, ?_⟩
        rw [valV_dpt]
        by_cases hq : q ∈ ps
        · rw [if_pos hq]
          rw [decide_eq_false (fun z => z hq)] at hk
          exact hk
        · rw [if_neg hq]
          rw [decide_eq_true hq] at hk
          exact hk
      · refine ⟨D2, _, rfl, .inl (SqL.of hD2l), _, _, rfl, rfl, ?_⟩
        refine ⟨some (V.int p.1), some (V.int p.2), some (V.ref N), ?_, s6.trans s7, s7 _ _ hk6⟩
        refine congrArg (fun z : V => [some (V.ref l), some z, some (V.ref kn), some (V.int p.1), some (V.int p.2), some (V.ref N), none, none]) (congrArg V.int ?_)
        rw [hzs.len, List.take_add_one, hpi, List.map_append, List.sum_append]
        simp only [Option.toList, List.map_cons, List.map_nil, List.sum_cons, List.sum_nil, sideN, Nat.add_zero]
        omega
    · rintro σ H5 ⟨_, _, _, rfl, s5, _⟩
      refine ⟨_, rfl, ?_⟩
      rw [hxl, List.take_length]
      exact q _ s5
theorem tk_of {H : Hp} {D : Addr} {o o' : HO} (h : H D = some o) (hn : ∀ xs, o ≠ .tup xs) : TupK H (upd H D o') := fun c xs e => by
  rw [upd_ne (ne_of e h (fun z => hn xs z.symm))]
  exact e
theorem PtsAt.unsnoc {H : Hp} : ∀ {xs : List V} {ps : List Pt} {p : Pt}, PtsAt H xs (ps ++ [p]) → ∃ xs0 x, xs = xs0 ++ [x] ∧ PtsAt H xs0 ps ∧ PtAt H x p
  | [x], [], p, h => ⟨[], x, rfl, trivial, h.1⟩
  | x :: xs, q :: ps, p, h => by
    obtain ⟨xs0, y, rfl, h1, h2⟩ := PtsAt.unsnoc (xs := xs) (ps := ps) h.2
    exact ⟨x :: xs0, y, rfl, ⟨h.1, h1⟩, h2⟩
  | [], [], _, h => h.elim
  | [], _ :: _, _, h => h.elim
  | _ :: _ :: _, [], _, h => h.2.elim
/-! ### _law_flooded -/
def spFlooded : Sp := fun vs H Q _ => ∃ (l : Addr) (ps : List Pt), vs = [.ref l] ∧ LPts H l ps ∧ ps.Nodup ∧ ps.length ≤ 1000 ∧ ∀ (rs : List Pt) H', Same H H' → Reps (con (· ∈ ps)) (· ∈ ps) rs → Q (.int (rs.length : Int)) H'
theorem scFlooded : FnScope ["_law_spots", "_law_left", "_law_many", "_law_spot", "_law_todo", "_law_x", "_law_y", "_law_one"] ["_law_spots"] (defScope sFlooded) := ⟨rfl, rfl, rfl, by decide +kernel, rfl, by decide +kernel, by decide +kernel⟩
theorem ok_flooded (a : At K mg "_law_flooded" sFlooded) (T : Bi mg) : Can P w K mg base 1 "_law_flooded" ["_law_spots"] spFlooded := by
  refine a.can scFlooded (fun vs H Q E h => ?_) (fun _ _ _ _ _ _ us hl => match us, hl with | [_], _ => rfl) (fun f cdv A outer s H vs Q E hr h => ?_)
  · obtain ⟨l, ps, rfl, _⟩ := h
    rfl
  · obtain ⟨l, ps, rfl, ⟨xs, hxs, hpts⟩, hnd, hlen, q⟩ := h
    refine ⟨_, pss_cons (ps_par (i := 1) (j := 2) (by rfl) scFlooded.nd rfl rfl (by decide) rfl rfl (pa_cons (pe_callTy (call_dictPT rfl hr.units) (by rfl) T.dict (by decide +kernel) (pa_cons (pe_lc (own := [("_law_spot", 3)]) (g := gName 3) (tt := tYes) rfl scFlooded.nd (pi_list (pv 0))
            (blkOk_by (own := [("_law_spot", 3)]) (N := ["_law_spots", "_law_left", "_law_many", "_law_spot", "_law_todo", "_law_x", "_law_y", "_law_one"]) (sc := defScope sFlooded) (by decide +kernel)) (fun _ _ _ _ _ => pg_name (i := 3) scFlooded.nd rfl (Or.inl rfl)) (fun _ _ _ _ _ => pts_nil)
            (fun _ _ _ _ _ => pe_tup (pa_cons (pv 3) (pa_cons (pe_bl (b := true)) pa_nil)))) pa_nil)) (pa_cons pe_int pa_nil)) (by rfl))
      (pss_cons (ps_for PassesOwn.never rfl (pi_list (pv 0)) (pg_name (i := 3) scFlooded.nd rfl (Or.inl rfl))
        (pss_one (ps_if (pt_cmp (pc_din (hu_of hr) (pv 3) (pv 1)))
          (pss_cons (ps_par (i := 2) (j := 4) (by rfl) scFlooded.nd rfl rfl (by decide) rfl rfl (pa_cons (pe_op op_add (pv 2) pe_int) (pa_cons (pe_lst (pa_cons (pv 3) pa_nil)) pa_nil)) (by rfl))
          (pss_cons (ps_expr (pe_bm PySem.F.plainAttrs_dict PySem.F.slot_dict_pop PySem.F.type_dict_pop (mt_pop1T hr.units) (pv 1) (pa_cons (pv 3) pa_nil)))
          (pss_one (ps_while PassesOwn.never (pt_cmpR (op_neM hr.units) (pv 4) (pe_lst pa_nil) (nomark _))
            (pss_cons (ps_asg (pe_bm0 PySem.F.plainAttrs_list PySem.F.slot_list_pop PySem.F.type_list_pop mt_pop (pv 4)) (pg_tup rfl (pgs_cons (pg_name (i := 5) scFlooded.nd rfl (Or.inl rfl)) (pgs_cons (pg_name (i := 6) scFlooded.nd rfl (Or.inl rfl)) pgs_nil))))
            (pss_one (ps_for PassesOwn.never rfl (pi_list (pe_lst (pa_cons (pe_tup (pa_cons (pe_op op_add (pv 5) pe_int) (pa_cons (pv 6) pa_nil))) (pa_cons (pe_tup (pa_cons (pe_op op_sub (pv 5) pe_int) (pa_cons (pv 6) pa_nil)))
              (pa_cons (pe_tup (pa_cons (pv 5) (pa_cons (pe_op op_add (pv 6) pe_int) pa_nil))) (pa_cons (pe_tup (pa_cons (pv 5) (pa_cons (pe_op op_sub (pv 6) pe_int) pa_nil))) pa_nil)))))) (pg_name (i := 7) scFlooded.nd rfl (Or.inl rfl))
              (pss_one (ps_if (pt_cmp (pc_din (hu_of hr) (pv 7) (pv 1)))
                (pss_cons (ps_expr (pe_bm PySem.F.plainAttrs_dict PySem.F.slot_dict_pop PySem.F.type_dict_pop (mt_pop1T hr.units) (pv 1) (pa_cons (pv 7) pa_nil)))
                (pss_one (ps_expr (pe_bm PySem.F.plainAttrs_list PySem.F.slot_list_append PySem.F.type_list_append mt_append (pv 4) (pa_cons (pv 7) pa_nil))))) pss_nil))))))))) pss_nil)))
      (pss_one (ps_ret (pv 2)))), ?_⟩
    have hxl := hpts.len
    refine ⟨_, rfl, l, rfl, ⟨_, SqL.of hxs⟩, fun D hD => lc_list1 (K := K) (fun j y H => ∀ p, ps[j]? = some p → EntAt H y p (.bl true)) (fun _ _ _ _ k h p e => (h p e).mono k) hD hxs (by omega) (fun j x H2 k hx s2 hk => ?_) (fun H2 ys s2 hDl hl hys => ?_)⟩
    · obtain ⟨p, hpj, t, rfl, ht⟩ := hpts.at hx
      refine ⟨_, rfl, by show 2 ≤ sizeLine; decide, fun T0 hT0 => ?_⟩
      have s3 := same_new hT0 (.tup [V.ref t, V.bl true])
      exact hk _ _ s3 fun p' e' => by
        rw [hpj] at e'
        cases e'
        exact ⟨T0, t, rfl, upd_same, s3 _ _ (s2 _ _ ht)⟩
    obtain ⟨es, rfl, hes, hkv⟩ := ents_idx (K := K) (by rw [hl, hxl]) hys
    refine ⟨D, es, rfl, SqL.of hDl, hes, fun dl hdl => ⟨_, _, rfl, ?_⟩⟩
    have s3 := same_new hdl (.dT (mergeT [] (es.map Ent.kv)))
    have hk3 : upd H2 dl (.dT (mergeT [] (es.map Ent.kv))) dl = some (.dT (dpt ps (.bl true))) := by
      rw [upd_same, hkv]
      have := dpt_merge (v := V.bl true) ps [] (by rw [List.nil_append]; exact hnd)
      rw [List.nil_append] at this
      exact congrArg (fun z => some (HO.dT z)) this
    have s03 := s2.trans s3
    have dH : H dl = none := Same.back s2 hdl
    refine ⟨_, rfl, l, rfl, ⟨_, SqL.of (s03 _ _ hxs)⟩, for_it (walk_list (K := K) (a := l) (xs := xs)) (fun i σ H5 => ∃ (x3 x4 x5 x6 x7 : Option V) (left rs : List Pt), σ = [some (.ref l), some (.ref dl), some (.int ((rs.length : Nat) : Int)), x3, x4, x5, x6, x7] ∧ Same H H5 ∧ H5 dl = some (.dT (dpt left (.bl true))) ∧
        FI ps left [] rs exN ∧ left.length ≤ ps.length ∧ ∀ m q, m < i → ps[m]? = some q → q ∉ left)
      ⟨none, none, none, none, none, ps, [], rfl, s03, hk3, FI.start ps, Nat.le_refl _, fun m q h => absurd h (Nat.not_lt_zero _)⟩ (fun i σ H5 _ ⟨_, _, _, _, _, _, _, _, s5, _⟩ => SqL.of (s5 _ _ hxs)) ?_ ?_⟩
    · rintro i x σ H5 H6 hi ⟨_, x4, x5, x6, x7, left, rs, rfl, s5, hk5, fi, hll, hno⟩ ⟨rfl, ex⟩
      obtain ⟨p, hpi, t, rfl, ht⟩ := hpts.at ex
      have ht6 := s5 _ _ ht
      refine ⟨_, rfl, _, rfl, dl, _, rfl, DGet.t hk5 (show H6 t = some (.tup ((pkey p).map kV)) from ht6), _, rfl, ?_⟩
      rw [valV_dpt]
      by_cases hpl : p ∈ left
      · rw [if_pos hpl]
        refine iteT ?_
        refine ⟨_, rfl, _, _, rfl, rfl, _, rfl, by show 1 ≤ sizeLine; decide, fun TD hTD => ⟨_, _, rfl, ?_⟩⟩
        have s7 := same_new hTD (.lst [V.ref t])
        have s57 := s5.trans s7
        have hk7 := s7 _ _ hk5
        have tH : H TD = none := Same.back s5 hTD
        have hTDl : upd H6 TD (.lst [V.ref t]) TD = some (.lst [V.ref t]) := upd_same
        have ht7 := s7 _ _ ht6
        refine ⟨_, rfl, .inr (.inr (.inl ⟨rfl, .inr ⟨_, hk7⟩⟩)), _, rfl, dl, _, pkey p, t, .bl true, rfl, rfl, hk7, ht7, by rw [valV_dpt, if_pos hpl], ?_⟩
        rw [dpt_drop]
        have dT : dl ≠ TD := ne_of hk7 hTDl (fun z => nomatch z)
        have tk8 : TupK (upd H6 TD (.lst [V.ref t])) (upd (upd H6 TD (.lst [V.ref t])) dl (.dT (dpt (drop1 left p) (.bl true)))) := tk_of hk7 (fun _ z => nomatch z)
        have s8 : Same H (upd (upd H6 TD (.lst [V.ref t])) dl (.dT (dpt (drop1 left p) (.bl true)))) := fun b o e => by
          rw [upd_ne (ne_of_none e dH)]
          exact s57 _ _ e
        have hll2 := drop1_lt hpl
        refine ⟨fun m σ H5 => ∃ (x5 x6 x7 : Option V) (left' todo : List Pt) (tds : List V), σ = [some (.ref l), some (.ref dl), some (.int (((p :: rs).length : Nat) : Int)), some (.ref t), some (.ref TD), x5, x6, x7] ∧ Same H H5 ∧ H5 dl = some (.dT (dpt left' (.bl true))) ∧ H5 TD = some (.lst tds) ∧ PtsAt H5 tds todo ∧
            FI ps left' todo (p :: rs) exN ∧ m = 2 * left'.length + todo.length ∧ left'.length + todo.length ≤ ps.length ∧ ∀ q ∈ left', q ∈ drop1 left p,
          ⟨_, x5, x6, x7, drop1 left p, [p], [V.ref t], congrArg (fun z : V => [some (V.ref l), some (V.ref dl), some z, some (V.ref t), some (V.ref TD), x5, x6, x7]) (congrArg V.int (by rw [List.length_cons]; omega)), s8, upd_same, by rw [upd_ne dT.symm]; exact hTDl, ⟨⟨t, rfl, tk8 _ _ ht7⟩, trivial⟩, fi.new hpl, rfl, by rw [List.length_singleton]; omega, fun q h => h⟩, ?_⟩
        rintro m σ H8 ⟨y5, y6, y7, left', todo, tds, rfl, s8', hk8, ht8, hpt8, fi8, rfl, hsz, hsub⟩
        refine ⟨_, rfl, Nat.zero_le _, fun u hu => nnil_read (K := K) (ps := todo) ⟨tds, (same_new hu _) _ _ ht8, hpt8.mono (Same.tk (same_new hu _))⟩ upd_same ⟨_, rfl, ?_⟩⟩
        have s9 := same_new hu (.lst [])
        have s89 := s8'.trans s9
        have hk9 := s9 _ _ hk8
        have ht9 := s9 _ _ ht8
        have hpt9 := hpt8.mono (Same.tk s9)
        generalize upd H8 u (.lst []) = H9 at s9 s89 hk9 ht9 hpt9
        have todoC : todo = [] ∨ ∃ todo0 p2, todo = todo0 ++ [p2] := by
          rcases List.eq_nil_or_concat todo with h | ⟨a, b, h⟩
          · exact .inl h
          · exact .inr ⟨a, b, by rw [h, List.concat_eq_append]⟩
        rcases todoC with rfl | ⟨todo0, p2, rfl⟩
        · -- nothing left to be looked at
          refine iteF ⟨_, _, _, _, _, left', p :: rs, rfl, s89, hk9, fi8, by simp at hsz; omega, fun m q hm hq => ?_⟩
          intro hql
          have h1 := mem_drop1.mp (hsub q hql)
          by_cases em : m = i
          · subst em
            rw [hpi] at hq
            injection hq with hq
            exact h1.2 hq.symm
          · exact hno m q (by omega) hq h1.1
        · rw [show (todo0 ++ [p2]).isEmpty = false by cases todo0 <;> rfl]
          refine iteT ?_
          generalize hM : 2 * left'.length + (todo0 ++ [p2]).length = M
          refine ⟨fun σ H5 => ∃ (x5 x6 x7 : Option V) (left' todo : List Pt) (tds : List V), σ = [some (.ref l), some (.ref dl), some (.int (((p :: rs).length : Nat) : Int)), some (.ref t), some (.ref TD), x5, x6, x7] ∧ Same H H5 ∧ H5 dl = some (.dT (dpt left' (.bl true))) ∧ H5 TD = some (.lst tds) ∧ PtsAt H5 tds todo ∧
            FI ps left' todo (p :: rs) exN ∧ 2 * left'.length + todo.length < M ∧ left'.length + todo.length ≤ ps.length ∧ ∀ q ∈ left', q ∈ drop1 left p, fun σ' H' h => ?_, ?_⟩
          · obtain ⟨z5, z6, z7, left2, todo2, tds2, e1, e2, e3, e4, e5, e6, e7, e8, e9⟩ := h
            exact ⟨_, e7, z5, z6, z7, left2, todo2, tds2, e1, e2, e3, e4, e5, e6, rfl, e8, e9⟩
          obtain ⟨tds0, y, rfl, hpt0, t2, rfl, ht2⟩ := PtsAt.unsnoc hpt9
          obtain ⟨fip, hp2, hp2l⟩ := fi8.pop
          refine ⟨_, rfl, .inl ⟨rfl, _, SqL.of ht9⟩, TD, _, .ref t2, rfl, rfl, ht9, by rw [List.length_append, List.length_singleton, Nat.add_sub_cancel, List.getElem?_append_right (Nat.le_refl _), Nat.sub_self]; rfl, ?_⟩
          rw [List.dropLast_append_of_ne_nil (by simp)]
          rw [show tds0 ++ ([V.ref t2] : List V).dropLast = tds0 from List.append_nil _]
          have tkA : TupK H9 (upd H9 TD (.lst tds0)) := tk_list ht9
          have s10 : Same H (upd H9 TD (.lst tds0)) := fun b o e => by
            rw [upd_ne (ne_of_none e tH)]
            exact s89 _ _ e
          have hk10 : upd H9 TD (.lst tds0) dl = some (.dT (dpt left' (.bl true))) := by rw [upd_ne dT]; exact hk9
          have ht10 : upd H9 TD (.lst tds0) TD = some (.lst tds0) := upd_same
          have hpt10 := hpt0.mono tkA
          have ht210 := tkA _ _ ht2
          generalize upd H9 TD (.lst tds0) = HA at s10 hk10 ht10 hpt10 ht210
          refine ⟨t2, _, rfl, SqT.of ht210, rfl, _, _, rfl, _, _, rfl, rfl, ?_⟩
          refine ⟨_, rfl, _, _, rfl, rfl, _, rfl, by show 2 ≤ sizeLine; decide, fun T0 f0 => ?_⟩
          refine ⟨_, rfl, _, _, rfl, rfl, _, rfl, by show 2 ≤ sizeLine; decide, fun T1 f1 => ?_⟩
          refine ⟨_, rfl, _, rfl, _, _, rfl, rfl, by show 2 ≤ sizeLine; decide, fun T2 f2 => ?_⟩
          refine ⟨_, rfl, _, rfl, _, _, rfl, rfl, by show 2 ≤ sizeLine; decide, fun T3 f3 => ?_⟩
          refine ⟨by show 4 ≤ sizeLine; decide, fun N fN => ?_⟩
          have g0 := same_new f0 (.tup [V.int (p2.1 + 1), V.int p2.2])
          have g1 := same_new f1 (.tup [V.int (p2.1 - 1), V.int p2.2])
          have g2 := same_new f2 (.tup [V.int p2.1, V.int (p2.2 + 1)])
          have g3 := same_new f3 (.tup [V.int p2.1, V.int (p2.2 - 1)])
          have gN := same_new fN (.lst [V.ref T0, V.ref T1, V.ref T2, V.ref T3])
          have gg := g0.trans (g1.trans (g2.trans (g3.trans gN)))
          have hpn := (show PtsAt _ [V.ref T0, V.ref T1, V.ref T2, V.ref T3] (nb p2) from ⟨⟨T0, rfl, gN _ _ (g3 _ _ (g2 _ _ (g1 _ _ upd_same)))⟩, ⟨T1, rfl, gN _ _ (g3 _ _ (g2 _ _ upd_same))⟩, ⟨T2, rfl, gN _ _ (g3 _ _ upd_same)⟩, ⟨T3, rfl, gN _ _ upd_same⟩, trivial⟩)
          have s11 := s10.trans gg
          have hk11 := gg _ _ hk10
          have ht11 := gg _ _ ht10
          have hpt11 := hpt10.mono (Same.tk gg)
          have nTN : TD ≠ N := ne_of_none (g3 _ _ (g2 _ _ (g1 _ _ (g0 _ _ ht10)))) fN
          refine ⟨N, rfl, ⟨_, SqL.of upd_same⟩, for_it (walk_list (K := K) (a := N) (xs := [V.ref T0, V.ref T1, V.ref T2, V.ref T3])) (fun j σ H5 => ∃ (x7 : Option V) (left2 todo2 : List Pt) (tds2 : List V), σ = [some (.ref l), some (.ref dl), some (.int (((p :: rs).length : Nat) : Int)), some (.ref t), some (.ref TD), some (.int p2.1), some (.int p2.2), x7] ∧ Same H H5 ∧
              H5 N = some (.lst [V.ref T0, V.ref T1, V.ref T2, V.ref T3]) ∧ PtsAt H5 [V.ref T0, V.ref T1, V.ref T2, V.ref T3] (nb p2) ∧ H5 dl = some (.dT (dpt left2 (.bl true))) ∧ H5 TD = some (.lst tds2) ∧ PtsAt H5 tds2 todo2 ∧
              FI ps left2 todo2 (p :: rs) (exP p2 ((nb p2).drop j)) ∧ 2 * left2.length + todo2.length < M ∧ left2.length + todo2.length ≤ ps.length ∧ (∀ q ∈ left2, q ∈ drop1 left p) ∧ p2 ∉ left2)
            ⟨y7, left', todo0, tds0, rfl, s11, upd_same, hpn, hk11, ht11, hpt11, fip, by rw [← hM, List.length_append, List.length_singleton]; omega, by rw [List.length_append, List.length_singleton] at hsz; omega, hsub, hp2l⟩ (fun j σ H5 _ ⟨_, _, _, _, _, _, hN, _⟩ => SqL.of hN) ?_ ?_⟩
          · rintro j x σ H5 H12 hj ⟨_, left2, todo2, tds2, rfl, s12, hN, hpn2, hk12, ht12, hpt12, fi2, hm2, hsz2, hsub2, hpl2⟩ ⟨rfl, ex⟩
            obtain ⟨y, hyj, ty, rfl, hty⟩ := hpn2.at ex
            have hj4 : j < (nb p2).length := hj
            have ey : (nb p2)[j] = y := (List.getElem?_eq_some_iff.mp hyj).2
            have edr : (nb p2).drop j = y :: (nb p2).drop (j + 1) := by rw [List.drop_eq_getElem_cons hj4, ey]
            rw [edr] at fi2
            refine ⟨_, rfl, _, rfl, dl, _, rfl, DGet.t hk12 (show H12 ty = some (.tup ((pkey y).map kV)) from hty), _, rfl, ?_⟩
            rw [valV_dpt]
            by_cases hyl : y ∈ left2
            · rw [if_pos hyl]
              refine iteT ?_
              refine ⟨_, rfl, .inr (.inr (.inl ⟨rfl, .inr ⟨_, hk12⟩⟩)), _, rfl, dl, _, pkey y, ty, .bl true, rfl, rfl, hk12, hty, by rw [valV_dpt, if_pos hyl], ?_⟩
              rw [dpt_drop]
              have tk1 : TupK H12 (upd H12 dl (.dT (dpt (drop1 left2 y) (.bl true)))) := tk_of hk12 (fun _ z => nomatch z)
              have ht13 : upd H12 dl (.dT (dpt (drop1 left2 y) (.bl true))) TD = some (.lst tds2) := by rw [upd_ne dT.symm]; exact ht12
              have hl12 := hpt12.len
              have hdl := drop1_lt hyl
              refine ⟨_, rfl, .inl ⟨rfl, _, SqL.of ht13⟩, _, rfl, TD, tds2, .ref ty, rfl, rfl, ht13, by rw [sizeLine_eq]; omega, ?_⟩
              have tk2 : TupK (upd H12 dl (.dT (dpt (drop1 left2 y) (.bl true)))) (upd (upd H12 dl (.dT (dpt (drop1 left2 y) (.bl true)))) TD (.lst (tds2 ++ [.ref ty]))) := tk_list ht13
              have tk12 := tk1.trans tk2
              have nDN : N ≠ dl := ne_of hN hk12 (fun z => nomatch z)
              refine ⟨_, drop1 left2 y, todo2 ++ [y], tds2 ++ [.ref ty], rfl, fun b o e => ?_, ?_, hpn2.mono tk12, ?_, upd_same, PtsAt.snoc ⟨ty, rfl, tk12 _ _ hty⟩ (hpt12.mono tk12), ?_, ?_, ?_, fun q hq => hsub2 q (mem_drop1.mp hq).1, fun z => hpl2 (mem_drop1.mp z).1⟩
              · rw [upd_ne (ne_of_none e tH), upd_ne (ne_of_none e dH)]
                exact s12 _ _ e
              · rw [upd_ne nTN.symm, upd_ne nDN]
                exact hN
              · rw [upd_ne dT]
                exact upd_same
              · exact fi2.see hp2 hpl2 (List.mem_of_getElem? hyj) hyl
              · rw [List.length_append, List.length_singleton]; omega
              · rw [List.length_append, List.length_singleton]; omega
            · rw [if_neg hyl]
              exact iteF ⟨_, left2, todo2, tds2, rfl, s12, hN, hpn2, hk12, ht12, hpt12, fi2.skip hyl, hm2, hsz2, hsub2, hpl2⟩
          · rintro σ H5 ⟨_, left2, todo2, tds2, rfl, s12, hN, hpn2, hk12, ht12, hpt12, fi2, hm2, hsz2, hsub2, hpl2⟩
            exact ⟨_, _, _, left2, todo2, tds2, rfl, s12, hk12, ht12, hpt12, FI.over (p := p2) fi2, hm2, hsz2, hsub2⟩
      · rw [if_neg hpl]
        refine iteF ⟨_, _, _, _, _, left, rs, rfl, s5, hk5, fi, hll, fun m q hm hq => ?_⟩
        by_cases em : m = i
        · subst em
          rw [hpi] at hq
          injection hq with hq
          rw [← hq]
          exact hpl
        · exact hno m q (by omega) hq
    · rintro σ H5 ⟨_, _, _, _, _, left, rs, rfl, s5, _, fi, _, hno⟩
      refine ⟨_, rfl, q rs _ s5 (fi.fin fun z hz => ?_)⟩
      obtain ⟨m, hm, e⟩ := List.mem_iff_getElem.mp hz
      exact hno m z (by omega) (by rw [List.getElem?_eq_getElem hm, e])
end
end Pl

namespace Pl
open PySem PySem.Spec PyProof.Rows L2
abbrev sSorts : Stmt := top 56
def retArgScope : Stmt → Scope
  | .Return (some (.Call _ [.ListComp _ _ sc _] _ _)) _ => sc
  | st => defScope st
def outSorts : Scope := retArgScope ((defBody sSorts).getD 2 (.Pass ⟨0, 0, 0, 0⟩))
def outSorts2 : Scope := { outSorts with names := outSorts.names.map fun p => if (p.2 == NameKind.free) = true then (p.1, NameKind.cell) else p }
def tri3 (S : Pic) (j : Nat) : Int := match j with
  | 0 => (sb S : Int)
  | 1 => (sw S : Int)
  | _ => (ss S : Int)
theorem tri_at (S : Pic) {j : Nat} (h : j < 3) : (tri S)[j]? = some (.int (tri3 S j)) := by
  match j, h with
  | 0, _ => rfl
  | 1, _ => rfl
  | 2, _ => rfl
section
variable {P : Program} {w : World} {K : PySem.W.Frag} {mg : Str → Option Value} {base : Heap} {C : Addr}
def spSorts (d : Nat) : Sp := fun vs H Q _ => ∃ v S, vs = [v] ∧ PicAt H v S ∧ dp S < d ∧ ∀ v' H', Same H H' → TriAt H' v' S → Q v' H'
theorem scSorts : FnScope ["_law_sheet", "_law_rows", "_law_part", "_law_at", "_law_row"] ["_law_sheet"] (defScope sSorts) := ⟨rfl, rfl, rfl, by decide +kernel, rfl, by decide +kernel, by decide +kernel⟩
theorem ok_sorts (a : At K mg "_law_sorts" sSorts) (T : Bi mg) : ∀ d, Can P w K mg base d "_law_sorts" ["_law_sheet"] (spSorts d)
  | 0 => a.zero (fun _ _ _ _ _ _ us hl => match us, hl with | [_], _ => rfl) fun vs H Q E ⟨v, S, _, _, h, _⟩ => absurd h (Nat.not_lt_zero _)
  | d + 1 => by
    have c := ok_sorts a T d
    refine a.can scSorts (fun vs H Q E h => ?_) (fun _ _ _ _ _ _ us hl => match us, hl with | [_], _ => rfl) (fun f cdv A outer s H vs Q E hr h => ?_)
    · obtain ⟨v, S, rfl, _⟩ := h
      rfl
    · obtain ⟨v, S, rfl, hP, hd, q⟩ := h
      refine ⟨_, pss_cons (ps_if (pt_cmp (pc_in01 hr.units (pv 0) pe_int pe_int)) (pss_one (ps_ret (pe_tup (pa_cons (pe_callTy call_int1 (by rfl) T.int (by decide +kernel) (pa_cons (pe_cmp (pc_eqP true hr.units (pv 0) pe_int)) pa_nil))
            (pa_cons (pe_callTy call_int1 (by rfl) T.int (by decide +kernel) (pa_cons (pe_cmp (pc_eqP false hr.units (pv 0) pe_int)) pa_nil)) (pa_cons pe_int pa_nil)))))) pss_nil)
        (pss_cons (ps_set (i := 1) scSorts.nd rfl (Or.inr rfl) (pe_lc (own := [("_law_part", 2)]) (g := gName 2) (tt := tYes) rfl scSorts.nd (pi_tup (pv 0))
          (blkOk_by (own := [("_law_part", 2)]) (N := ["_law_sheet", "_law_rows", "_law_part", "_law_at", "_law_row"]) (sc := defScope sSorts) (by decide +kernel)) (fun _ _ _ _ _ => pg_name (i := 2) scSorts.nd rfl (Or.inl rfl)) (fun _ _ _ _ _ => pts_nil)
          (fun _ _ _ _ _ => pe_can c hr (pa_cons (pv 2) pa_nil))))
        (pss_one (ps_ret (pe_callTy call_tuple_of (by rfl) T.tuple (by decide +kernel) (pa_cons (pe_lc (own := [("_law_at", 3)]) (g := gName 3) (tt := tYes) rfl scSorts.nd (pi_range1 (by rfl) T.range (pa_cons pe_int pa_nil))
          (blkOk_by (own := [("_law_at", 3)]) (N := ["_law_sheet", "_law_rows", "_law_part", "_law_at", "_law_row"]) (sc := defScope sSorts) (by decide +kernel)) (fun _ _ _ _ _ => pg_name (i := 3) scSorts.nd rfl (Or.inr rfl)) (fun _ _ _ _ _ => pts_nil)
          (fun _ _ _ _ _ => pe_op op_add (pe_callB (show CallR _ (.builtin "sum") (rSum K) from cr_sum rfl) (by rfl) T.sum (by decide +kernel) (pa_cons (pe_lc (own := [("_law_row", 4)]) (g := gName 4) (tt := tYes) rfl scSorts.nd (show PI _ _ _ (iList K (tVar 1)) from pi_list (pv 1))
              (blkOk_by (own := [("_law_row", 4)]) (N := ["_law_sheet", "_law_rows", "_law_part", "_law_at", "_law_row"]) (sc := outSorts2) (by decide +kernel)) (fun _ _ _ _ _ => pg_name (i := 4) scSorts.nd rfl (Or.inl rfl)) (fun _ _ _ _ _ => pts_nil)
              (fun _ _ _ _ _ => pe_ix (show IxR _ (rIxT K) from ix_tup) (pv 4) (pv 3) (fun _ _ => rfl))) pa_nil))
            (pe_callTy call_int1 (by rfl) T.int (by decide +kernel) (pa_cons (pe_cmpR op_eq (pv 3) pe_int (nomark _)) pa_nil)))) pa_nil))))), ?_⟩
      refine ⟨v, S, rfl, hP, fun H2 s2 => ⟨_, rfl, ?_⟩⟩
      refine ite2 (fun cl => ?_) (fun cl => ?_)
      · obtain ⟨b, rfl⟩ := isLeaf_iff cl
        refine ⟨v, _, rfl, hP.mono (Same.tk s2), .inr ⟨_, rfl, v, _, rfl, hP.mono (Same.tk s2), .inr ⟨_, rfl, by show 3 ≤ sizeLine; decide, fun t nt => q _ _ (s2.trans (same_new nt _)) ⟨t, rfl, ?_⟩⟩⟩⟩
        rw [upd_same]
        have e1 : (if decide (Pic.leaf b = Pic.leaf true) = true then (1 : Int) else 0) = (sb (.leaf b) : Int) := by cases b <;> simp [sb]
        have e2 : (if decide (Pic.leaf b = Pic.leaf false) = true then (1 : Int) else 0) = (sw (.leaf b) : Int) := by cases b <;> simp [sw]
        rw [e1, e2]
        rfl
      · obtain ⟨p, q', r, t, rfl⟩ := isNode_iff (Bool.eq_false_iff.mpr cl)
        obtain ⟨ad, v0, v1, v2, v3, rfl, h0, h1, h2, h3, h4⟩ := hP
        simp only [dp] at hd
        refine ⟨_, rfl, ad, rfl, ⟨_, SqT.of (s2 _ _ h0)⟩, fun D hD => lc_tup1 (K := K) (fun j y H => ∀ S', [p, q', r, t][j]? = some S' → TriAt H y S') (fun _ _ _ _ k h S' e => (h S' e).mono k) hD (s2 _ _ h0) (by show 4 ≤ 10000; decide) (fun j x H3 k hx s3 hk => ?_) (fun H3 ys s3 hDl hl hys => ?_)⟩
        · have tk := (Same.tk s2).trans (Same.tk s3)
          refine ⟨_, rfl, ?_⟩
          match j, hx with
          | 0, hx => cases hx; exact ⟨v0, p, rfl, h1.mono tk, by omega, fun v' H' s' hv => hk _ _ s' fun S' e => by cases e; exact hv⟩
          | 1, hx => cases hx; exact ⟨v1, q', rfl, h2.mono tk, by omega, fun v' H' s' hv => hk _ _ s' fun S' e => by cases e; exact hv⟩
          | 2, hx => cases hx; exact ⟨v2, r, rfl, h3.mono tk, by omega, fun v' H' s' hv => hk _ _ s' fun S' e => by cases e; exact hv⟩
          | 3, hx => cases hx; exact ⟨v3, t, rfl, h4.mono tk, by omega, fun v' H' s' hv => hk _ _ s' fun S' e => by cases e; exact hv⟩
        · obtain ⟨y0, y1, y2, y3, rfl⟩ := list4 hl
          obtain ⟨a0, rfl, g0⟩ := hys 0 y0 rfl _ rfl
          obtain ⟨a1, rfl, g1⟩ := hys 1 y1 rfl _ rfl
          obtain ⟨a2, rfl, g2⟩ := hys 2 y2 rfl _ rfl
          obtain ⟨a3, rfl, g3⟩ := hys 3 y3 rfl _ rfl
          refine ⟨3, rfl, by decide, by decide, fun D2 hD2 => lc_rng1 (n := 3) (fun j y _ => (tri (.node p q' r t))[j]? = some y) (fun _ _ _ _ _ h => h) hD2 (by decide) (fun j H4 k hj s4 hk => ?_) (fun H4 zs s4 hD2l hl2 hzs => ?_)⟩
          · have ej : (0 : Int) + (j : Int) = (j : Int) := Int.zero_add _
            refine ⟨_, rfl, D, rfl, ⟨_, SqL.of (s4 _ _ hDl)⟩, fun D3 hD3 => lc_list1 (K := K) (fun m y _ => [V.int (tri3 p j), V.int (tri3 q' j), V.int (tri3 r j), V.int (tri3 t j)][m]? = some y) (fun _ _ _ _ _ h => h) hD3 (s4 _ _ hDl) (by show 4 ≤ 10000; decide) (fun m x H5 k2 hx s5 hk2 => ?_) (fun H5 ws s5 hD3l hl3 hws => ?_)⟩
            · have s45 := s4.trans s5
              have fin : ∀ (aa : Addr) (Z : Pic), x = .ref aa → H3 aa = some (.tup (tri Z)) → k2 (.int (tri3 Z j)) H5 → rIxT K x (.int (0 + (j : Int))) H5 k2 := fun aa Z ex g hk' => by
                subst ex
                exact ⟨aa, _, _, _, rfl, rfl, SqT.of (s45 _ _ g), by rw [ej]; exact atI_nat (tri_at Z hj), hk'⟩
              refine ⟨_, rfl, _, rfl, ?_⟩
              match m, hx with
              | 0, hx => cases hx; exact fin a0 p rfl g0 (hk2 _ _ (Same.refl _) rfl)
              | 1, hx => cases hx; exact fin a1 q' rfl g1 (hk2 _ _ (Same.refl _) rfl)
              | 2, hx => cases hx; exact fin a2 r rfl g2 (hk2 _ _ (Same.refl _) rfl)
              | 3, hx => cases hx; exact fin a3 t rfl g3 (hk2 _ _ (Same.refl _) rfl)
            · have e := four_of hl3 hws
              subst e
              refine ⟨D3, [tri3 p j, tri3 q' j, tri3 r j, tri3 t j], rfl, SqL.of hD3l, _, rfl, rfl, .inr ⟨_, rfl, _, _, rfl, rfl, ?_⟩⟩
              refine hk _ _ s5 ?_
              rw [tri_at _ hj]
              refine congrArg some (congrArg V.int ?_)
              match j, hj with
              | 0, _ => simp only [tri3, List.sum_cons, List.sum_nil, sb]; simp
              | 1, _ => simp only [tri3, List.sum_cons, List.sum_nil, sw]; simp
              | 2, _ => simp only [tri3, List.sum_cons, List.sum_nil, ss]; simp; omega
          · refine ⟨D2, _, rfl, .inl ⟨SqL.of hD2l, fun u hu => ?_⟩⟩
            refine q _ _ (s2.trans (s3.trans (s4.trans (same_new hu _)))) ⟨u, rfl, ?_⟩
            rw [upd_same]
            match zs, hl2, hzs with
            | [x0, x1, x2], _, hzs =>
              have e0 := hzs 0 x0 rfl
              have e1 := hzs 1 x1 rfl
              have e2 := hzs 2 x2 rfl
              simp [tri] at e0 e1 e2
              rw [← e0, ← e1, ← e2]
              rfl
end
end Pl

namespace Pl
open PySem PySem.Spec PyProof.Rows L2
abbrev sDrawn : Stmt := top 53
abbrev nDrawn : List Str := ["_law_source_here", "_law_size", "_law_side", "_law_found", "_law_turn", "_law_x", "_law_y", "_law_near", "_law_wide", "_law_tall", "_law_is_black", "_law_column", "_law_high", "_law_line", "_law_spot"]
/-- over a range from lo -/
theorem lc_rngL {lo : Int} {n : Nat} {te : TE} {i : Nat} {σ : L2.St} {H1 : Hp} {D : Addr} {Qd : Hp → Prop} (Rel : Nat → V → Hp → Prop) (hmono : ∀ j y H H', TupK H H' → Rel j y H → Rel j y H')
    (hD : H1 D = none) (hz : n ≤ 10000)
    (hs : ∀ (j : Nat) (H : Hp) (k : V → Hp → Prop), j < n → Same H1 H → (∀ y H', Same H H' → Rel j y H' → k y H') → te ((wipe σ [i]).set i (some (.int (lo + (j : Int))))) H k)
    (hd : ∀ (H : Hp) (ys : List V), Same H1 H → H D = some (.lst ys) → ys.length = n → (∀ j y, ys[j]? = some y → Rel j y H) → Qd H) :
    ∃ W : Nat → Nat → Hp → Prop, (∃ m, W 0 m (upd H1 D (.lst []))) ∧ ∀ i' m H, W i' m H →
      ((Itr lo n).stop i' H ∧ Qd H) ∨ ((Itr lo n).go i' H ∧ ∃ Nx : Hp → Prop, (∀ H', Nx H' → ∃ m', m' < m ∧ W (i' + 1) m' H') ∧ ∀ x H', (Itr lo n).yld i' H x H' → gName i x (wipe σ [i]) H' fun σ2 H2 => wipe σ2 [i] = wipe σ [i] ∧ tYes σ2 H2 fun b H3 =>
        if b = true then te σ2 H3 fun y H4 => ∃ acc, H4 D = some (.lst acc) ∧ acc.length < sizeLine ∧ Nx (upd H4 D (.lst (acc ++ [y]))) else Nx H3) := by
  refine lc_it walk_range (LcP Rel H1 D) (LcP.zero hD) (fun _ _ _ _ => trivial) (fun j x H H' hj h hy => ?_) (fun H h => ?_)
  · obtain ⟨rfl, rfl⟩ := hy
    have s : Same H1 H' := h.choose_spec.2.2.1
    refine ⟨wipe_set1, ?_⟩
    refine iteT (B := LcP Rel H1 D (j + 1) H') ?_
    exact hs j H' _ hj s fun y H'' s' r => LcP.next hmono hD (by omega) h s' r
  · obtain ⟨acc, hacc, hl, s, hr⟩ := h
    exact hd H acc s hacc hl hr
theorem min_b (i j : Int) : (if j < i then j else i) ≤ i ∧ (if j < i then j else i) ≤ j ∧ ((if j < i then j else i) = i ∨ (if j < i then j else i) = j) := by
  by_cases h : j < i
  · rw [if_pos h]; omega
  · rw [if_neg h]; omega
theorem src_ne {H : Hp} {s l : Addr} (h : SrcAt H s) (hl : H l = none) : l ≠ s := by
  obtain ⟨_, _, _, h⟩ := h
  exact fun e => by rw [e, h] at hl; cases hl
theorem tk_of2 {H : Hp} {D : Addr} {o o' : HO} (h : H D = some o) (hn : ∀ xs, o ≠ .tup xs) : TupK H (upd H D o') := fun c xs e => by
  rw [upd_ne (ne_of e h (fun z => hn xs z.symm))]
  exact e
theorem valV_dq {p : Pt} {b : Bool} : ∀ {qs : List (Pt × Bool)}, (qs.map (·.1)).Nodup → (p, b) ∈ qs → valV (dq qs) (pkey p) = some (.bl b)
  | q :: qs, hn, h => by
    rw [List.map_cons, List.nodup_cons] at hn
    show valV ((pkey q.1, V.bl q.2) :: dq qs) (pkey p) = _
    rcases List.mem_cons.mp h with rfl | h
    · rw [valV_pos rfl]
    · rw [valV_neg fun e => hn.1 (by rw [pkey_inj e]; exact List.mem_map.mpr ⟨_, h, rfl⟩)]
      exact valV_dq hn.2 h
theorem Spots.sub {n : Nat} {ps qs : List Pt} (h : Spots n ps) (k : qs.Sublist ps) : Spots n qs := ⟨h.nd.sublist k, fun p hp => h.inn p (k.subset hp)⟩
theorem down_mul {a b : Int} (ha : 0 ≤ a) (hb : 0 < b) : 0 ≤ a / b * b ∧ a / b * b ≤ a := ⟨Int.mul_nonneg (Int.ediv_nonneg ha (Int.le_of_lt hb)) (Int.le_of_lt hb), Int.ediv_mul_le a (by omega)⟩
/-- a part of a column -/
def colP (c y : Int) (k : Nat) : List Pt := (List.range k).map fun j : Nat => (c, y + (j : Int))
theorem colP_nd (c y : Int) (k : Nat) : (colP c y k).Nodup := by
  refine List.pairwise_map.mpr (List.Pairwise.imp (fun {a b} hne e => hne ?_) (List.nodup_range (n := k)))
  have := congrArg Prod.snd e
  simp only at this
  omega
theorem colP_in {n : Nat} {c y : Int} {k : Nat} (c0 : 0 ≤ c) (c1 : c < 2 ^ n) (y0 : 0 ≤ y) (y1 : y + (k : Int) ≤ 2 ^ n ∨ k = 0) : ∀ p ∈ colP c y k, inq n p = true ∧ p.1 = c := by
  intro p hp
  obtain ⟨j, hj, rfl⟩ := List.mem_map.mp hp
  have hj := List.mem_range.mp hj
  refine ⟨?_, rfl⟩
  simp only [inq, Bool.and_eq_true, decide_eq_true_eq]
  omega
section
variable {P : Program} {w : World} {K : PySem.W.Frag} {mg : Str → Option Value} {base : Heap} {C : Addr}
def spDrawn : Sp := fun vs H Q _ => ∃ (s : Addr) (n : Nat), vs = [.ref s, .int (n : Int)] ∧ SrcAt H s ∧ n ≤ 4 ∧ ∀ (l : Addr) (ps : List Pt) H', SameB s H H' → SrcAt H' s → LPts H' l ps → l ≠ s → Spots n ps → Q (.ref l) H'
theorem scDrawn : FnScope nDrawn ["_law_source_here", "_law_size"] (defScope sDrawn) := ⟨rfl, rfl, rfl, by decide +kernel, rfl, by decide +kernel, by decide +kernel⟩
theorem ok_drawn (a : At K mg "_law_drawn" sDrawn) (T : Bi mg) (tk : Can P w K mg base 2 "_law_take" ["_law_source_here", "_law_bound"] spTake) (pk : Can P w K mg base 3 "_law_pick" ["_law_source_here", "_law_some"] spPick) : Can P w K mg base 4 "_law_drawn" ["_law_source_here", "_law_size"] spDrawn := by
  refine a.can scDrawn (fun vs H Q E h => ?_) (fun _ _ _ _ _ _ us hl => match us, hl with | [_, _], _ => rfl) (fun f cdv A outer s H vs Q E hr h => ?_)
  · obtain ⟨s, n, rfl, _⟩ := h
    rfl
  · obtain ⟨sr, n, rfl, hs, hn, q⟩ := h
    have hr2 : Room 2 _ := hr.mono (by decide)
    refine ⟨_, pss_cons (ps_asg (pe_tup (pa_cons (pe_op op_shl pe_int (pv 1)) (pa_cons pe_dnewT pa_nil))) (pg_tup rfl (pgs_cons (pg_name (i := 2) scDrawn.nd rfl (Or.inl rfl)) (pgs_cons (pg_name (i := 3) scDrawn.nd rfl (Or.inr rfl)) pgs_nil))))
      (pss_cons (ps_for PassesOwn.never rfl (pi_range1 (by rfl) T.range (pa_cons (pe_can tk hr2 (pa_cons (pv 0) (pa_cons pe_int pa_nil))) pa_nil)) (pg_name (i := 4) scDrawn.nd rfl (Or.inl rfl))
        (pss_cons (ps_par (i := 5) (j := 6) (by rfl) scDrawn.nd rfl rfl (by decide) rfl rfl (pa_cons (pe_can tk hr2 (pa_cons (pv 0) (pa_cons (pv 2) pa_nil))) (pa_cons (pe_can tk hr2 (pa_cons (pv 0) (pa_cons (pv 2) pa_nil))) pa_nil)) (by rfl))
        (pss_cons (ps_set (i := 7) scDrawn.nd rfl (Or.inl rfl) (pe_op op_shl pe_int (pe_can tk hr2 (pa_cons (pv 0) (pa_cons (pe_op op_add (pv 1) pe_int) pa_nil)))))
        (pss_cons (ps_par (i := 5) (j := 6) (by rfl) scDrawn.nd rfl rfl (by decide) rfl rfl (pa_cons (pe_op op_mul (pe_op op_fdiv (pv 5) (pv 7)) (pv 7)) (pa_cons (pe_op op_mul (pe_op op_fdiv (pv 6) (pv 7)) (pv 7)) pa_nil)) (by rfl))
        (pss_cons (ps_set (i := 8) scDrawn.nd rfl (Or.inl rfl) (pe_can pk hr (pa_cons (pv 0) (pa_cons (pe_lst (pa_cons pe_int (pa_cons (pv 7) (pa_cons (pe_op op_add pe_int (pe_can tk hr2 (pa_cons (pv 0) (pa_cons (pv 2) pa_nil)))) pa_nil)))) pa_nil))))
        (pss_cons (ps_set (i := 9) scDrawn.nd rfl (Or.inl rfl) (pe_can pk hr (pa_cons (pv 0) (pa_cons (pe_lst (pa_cons pe_int (pa_cons (pv 7) pa_nil))) pa_nil))))
        (pss_cons (ps_set (i := 10) scDrawn.nd rfl (Or.inr rfl) (pe_cmpR op_gt (pe_can tk hr2 (pa_cons (pv 0) (pa_cons pe_int pa_nil))) pe_int (nomark _)))
        (pss_one (ps_for PassesOwn.never rfl (pi_range2 (by rfl) T.range (pa_cons (pv 5) (pa_cons (pe_callB (call_min2 rfl) (by rfl) T.min (by decide +kernel) (pa_cons (pv 2) (pa_cons (pe_op op_add (pv 5) (pv 8)) pa_nil))) pa_nil))) (pg_name (i := 11) scDrawn.nd rfl (Or.inr rfl))
          (pss_cons (ps_set (i := 12) scDrawn.nd rfl (Or.inl rfl) (pe_callB (call_min2 rfl) (by rfl) T.min (by decide +kernel) (pa_cons (pv 2) (pa_cons (pe_op op_add (pv 6) (pv 9)) pa_nil))))
          (pss_one (ps_expr (pe_bm PySem.F.plainAttrs_dict PySem.F.slot_dict_update PySem.F.type_dict_update (mt_updT hr.units) (pv 3) (pa_cons (pe_callTy (call_dictPT rfl hr.units) (by rfl) T.dict (by decide +kernel) (pa_cons (pe_lc (own := [("_law_line", 13)]) (g := gName 13) (tt := tYes) rfl scDrawn.nd
            (pi_range2 (by rfl) T.range (pa_cons (pv 6) (pa_cons (pv 12) pa_nil)))
            (blkOk_by (own := [("_law_line", 13)]) (N := nDrawn) (sc := defScope sDrawn) (by decide +kernel)) (fun _ _ _ _ _ => pg_name (i := 13) scDrawn.nd rfl (Or.inl rfl)) (fun _ _ _ _ _ => pts_nil)
            (fun _ _ _ _ _ => pe_tup (pa_cons (pe_tup (pa_cons (pv 11) (pa_cons (pv 13) pa_nil))) (pa_cons (pv 10) pa_nil)))) pa_nil)) pa_nil))))))))))))))
      (pss_one (ps_ret (pe_callB cr_sortedP (by rfl) T.sorted (by decide +kernel) (pa_cons (pe_lock (pe_lc (own := [("_law_spot", 14)]) (g := gName 14) rfl scDrawn.nd (pi_keys (pv 3))
          (blkOk_by (own := [("_law_spot", 14)]) (N := nDrawn) (sc := defScope sDrawn) (by decide +kernel)) (fun _ _ _ _ _ => pg_name (i := 14) scDrawn.nd rfl (Or.inl rfl))
          (fun _ _ _ _ _ => pts_one (pt_val (pe_dget (hu_of hr) (pv 3) (pv 14) (fun _ _ => rfl)))) (fun _ _ _ _ _ => pv 14))) pa_nil))))), ?_⟩
    have hsz := sq16 hn
    have hp0 := two_pos n
    have e2 : (1 : Int) * 2 ^ (n : Int).toNat = 2 ^ n := by rw [Int.toNat_natCast, Int.one_mul]
    refine ⟨_, rfl, _, _, rfl, rfl, ⟨by omega, by omega, by decide⟩, fun F hF => ⟨by show 2 ≤ sizeLine; decide, fun tt htt => ⟨tt, _, rfl, SqT.of upd_same, rfl, _, _, rfl, _, _, rfl, rfl, ?_⟩⟩⟩
    have t1 := same_new hF (.dT [])
    have t2 := same_new htt (.tup [V.int ((1 : Int) * 2 ^ (n : Int).toNat), V.ref F])
    have sA : SameB sr H _ := Same.b (t1.trans t2) sr
    have hFA := t2 _ _ (upd_same (H := H) (a := F) (o := .dT []))
    have hsA := hs.same (t1.trans t2)
    have hFs : F ≠ sr := by
      obtain ⟨_, _, _, h⟩ := hs
      exact fun e => by rw [e, h] at hF; cases hF
    refine ⟨_, rfl, sr, 5, rfl, hsA, by decide, by decide, fun r HB r0 r1 sB hsB => ⟨r, rfl, by omega, by omega, for_it walk_range (fun i σ H5 => ∃ (x4 x5 x6 x7 x8 x9 x10 x11 x12 x13 x14 : Option V) (kvs : List (List Key × V)), σ = [some (.ref sr), some (.int (n : Int)), some (.int (2 ^ n)), some (.ref F), x4, x5, x6, x7, x8, x9, x10, x11, x12, x13, x14] ∧ SameB sr H H5 ∧ SrcAt H5 sr ∧ H5 F = some (.dT kvs) ∧ DS n kvs)
      ⟨none, none, none, none, none, none, none, none, none, none, none, [], congrArg (fun z : V => [some (V.ref sr), some (V.int (n : Int)), some z, some (V.ref F), none, none, none, none, none, none, none, none, none, none, none]) (congrArg V.int e2), sA.trans sB, hsB, sB _ _ hFs hFA, DS.nil n⟩ (fun _ _ _ _ _ => trivial) ?_ ?_⟩⟩
    · rintro i x σ H5 H5' hi ⟨x4, x5, x6, x7, x8, x9, x10, x11, x12, x13, x14, kvs, rfl, s5, hs5, hF5, ds⟩ ⟨rfl, ex⟩
      refine ⟨_, rfl, _, rfl, sr, _, rfl, hs5, hp0, by omega, fun rx H7 rx0 rx1 s7 hs7 => ⟨_, rfl, _, rfl, sr, _, rfl, hs7, hp0, by omega, fun ry H8 ry0 ry1 s8 hs8 => ⟨_, _, rfl, ?_⟩⟩⟩
      refine ⟨_, rfl, _, rfl, _, _, rfl, rfl, sr, _, rfl, hs8, by omega, by omega, fun rn H9 rn0 rn1 s9 hs9 => ⟨_, _, rfl, rfl, ⟨by omega, by omega, by decide⟩, ?_⟩⟩
      obtain ⟨nr, hnr, nr0, nr1⟩ : ∃ nr : Int, (1 : Int) * 2 ^ rn.toNat = nr ∧ 0 < nr ∧ nr ≤ 16 := by
        refine ⟨_, rfl, ?_, ?_⟩
        · have := two_pos rn.toNat; omega
        · have := sq16 (n := rn.toNat) (by omega); omega
      have a1 := down_mul rx0 nr0
      have a2 := down_mul ry0 nr0
      obtain ⟨xv, hxv⟩ : ∃ xv, rx / nr * nr = xv := ⟨_, rfl⟩
      obtain ⟨yv, hyv⟩ : ∃ yv, ry / nr * nr = yv := ⟨_, rfl⟩
      rw [hxv] at a1
      rw [hyv] at a2
      refine ⟨_, rfl, _, rfl, rx, nr, rfl, congrArg V.int hnr, ⟨nr0, by omega⟩, _, rfl, _, nr, rfl, congrArg V.int hnr, .inr ⟨by omega, by omega⟩, _, rfl, _, rfl, ry, nr, rfl, congrArg V.int hnr, ⟨nr0, by omega⟩, _, rfl, _, nr, rfl, congrArg V.int hnr, .inr ⟨by omega, by omega⟩, .int xv, .int yv, ?_, ?_⟩
      · show [V.int (rx / nr * nr), V.int (ry / nr * nr)] = _
        rw [hxv, hyv]
      refine ⟨_, rfl, _, rfl, _, rfl, _, rfl, sr, _, rfl, hs9, hp0, by omega, fun rw_ H10 rw0 rw1 s10 hs10 => ⟨_, _, rfl, rfl, by show 3 ≤ sizeLine; decide, fun L hL => ?_⟩⟩
      have sL := same_new hL (.lst [V.int 1, V.int ((1 : Int) * 2 ^ rn.toNat), V.int (1 + rw_)])
      refine ⟨sr, L, _, rfl, hs10.same sL, src_ne hs10 hL, upd_same, by show 0 < 3; decide, by show 3 < 1000; decide, fun i1 v1 H11 hv1 s11 hs11 => ?_⟩
      obtain ⟨wd, rfl, wd0, wd1⟩ : ∃ wd : Int, v1 = .int wd ∧ 1 ≤ wd ∧ wd ≤ 17 := by
        match i1, hv1 with
        | 0, hv1 => cases hv1; exact ⟨1, rfl, by decide, by decide⟩
        | 1, hv1 => cases hv1; exact ⟨nr, congrArg V.int hnr, by omega, by omega⟩
        | 2, hv1 => cases hv1; exact ⟨1 + rw_, rfl, by omega, by omega⟩
        | m + 3, hv1 => simp at hv1
      refine ⟨_, rfl, _, rfl, by show 2 ≤ sizeLine; decide, fun L2 hL2 => ?_⟩
      have sL2 := same_new hL2 (.lst [V.int 1, V.int ((1 : Int) * 2 ^ rn.toNat)])
      refine ⟨sr, L2, _, rfl, hs11.same sL2, src_ne hs11 hL2, upd_same, by show 0 < 2; decide, by show 2 < 1000; decide, fun i2 v2 H12 hv2 s12 hs12 => ?_⟩
      obtain ⟨tl, rfl, tl0, tl1⟩ : ∃ wd : Int, v2 = .int wd ∧ 1 ≤ wd ∧ wd ≤ 17 := by
        match i2, hv2 with
        | 0, hv2 => cases hv2; exact ⟨1, rfl, by decide, by decide⟩
        | 1, hv2 => cases hv2; exact ⟨nr, congrArg V.int hnr, by omega, by omega⟩
        | m + 2, hv2 => simp at hv2
      refine ⟨_, rfl, sr, 4, rfl, hs12, by decide, by decide, fun rb H13 rb0 rb1 s13 hs13 => ⟨_, _, rfl, rfl, ?_⟩⟩
      have s513 : SameB sr H5' H13 := s7.trans (s8.trans (s9.trans (s10.trans ((Same.b sL sr).trans (s11.trans ((Same.b sL2 sr).trans (s12.trans s13)))))))
      have hF13 := s513 _ _ hFs hF5
      have s013 := s5.trans s513
      obtain ⟨bb, hbb⟩ : ∃ bb, decide (0 < rb) = bb := ⟨_, rfl⟩
      have mn := min_b (2 ^ n) (xv + wd)
      obtain ⟨mx, hmx⟩ : ∃ mx, (if xv + wd < 2 ^ n then xv + wd else 2 ^ n) = mx := ⟨_, rfl⟩
      rw [hmx] at mn
      refine ⟨_, rfl, _, rfl, _, rfl, _, rfl, _, _, rfl, rfl, _, _, rfl, xv, mx, congrArg (fun z : Int => [V.int xv, V.int z]) hmx, ⟨by omega, by omega, by omega, by omega⟩, for_it walk_range (fun j σ H6 => ∃ (x11 x12 x13 x14 : Option V) (kvs : List (List Key × V)), σ = [some (.ref sr), some (.int (n : Int)), some (.int (2 ^ n)), some (.ref F), some x, some (.int xv), some (.int yv), some (.int nr), some (.int wd), some (.int tl), some (.bl bb), x11, x12, x13, x14] ∧
          SameB sr H H6 ∧ SrcAt H6 sr ∧ H6 F = some (.dT kvs) ∧ DS n kvs)
        ⟨x11, x12, x13, x14, kvs, ?_, s013, hs13, hF13, ds⟩ (fun _ _ _ _ _ => trivial) ?_ ?_⟩
      · show [some (V.ref sr), some (V.int (n : Int)), some (V.int (2 ^ n)), some (V.ref F), some x, some (V.int xv), some (V.int yv), some (V.int ((1 : Int) * 2 ^ rn.toNat)), some (V.int wd), some (V.int tl), some (V.bl (decide (0 < rb))), x11, x12, x13, x14] = _
        rw [hnr, hbb]
      · rintro j z σ H6 H6' hj ⟨y11, y12, y13, y14, kv2, rfl, s6, hs6, hF6, ds6⟩ ⟨rfl, ez⟩
        replace ez : z = .int (xv + (j : Int)) := ez
        subst ez
        obtain ⟨cl, hcl⟩ : ∃ cl, xv + (j : Int) = cl := ⟨_, rfl⟩
        rw [hcl]
        have cl0 : 0 ≤ cl := by omega
        have cl1 : cl < 2 ^ n := by omega
        have mn2 := min_b (2 ^ n) (yv + tl)
        obtain ⟨my, hmy⟩ : ∃ my, (if yv + tl < 2 ^ n then yv + tl else 2 ^ n) = my := ⟨_, rfl⟩
        rw [hmy] at mn2
        refine ⟨_, rfl, _, rfl, _, rfl, _, _, rfl, rfl, _, _, rfl, ?_⟩
        refine ⟨_, rfl, .inr (.inr (.inl ⟨rfl, .inr ⟨_, hF6⟩⟩)), _, rfl, _, rfl, yv, my, congrArg (fun z : Int => [V.int yv, V.int z]) hmy, ⟨by omega, by omega, by omega, by omega⟩, fun D hD => lc_rngL (fun j y H => EntAt H y (cl, yv + (j : Int)) (.bl bb)) (fun _ _ _ _ k h => h.mono k) hD (by omega) (fun j2 H7 k hj2 s7 hk => ?_) (fun H7 ys s7 hDl hl hys => ?_)⟩
        · refine ⟨_, rfl, _, rfl, by show 2 ≤ sizeLine; decide, fun T hT => ⟨_, rfl, by show 2 ≤ sizeLine; decide, fun T2 hT2 => ?_⟩⟩
          have u1 := same_new hT (.tup [V.int cl, V.int (yv + (j2 : Int))])
          have u2 := same_new hT2 (.tup [V.ref T, V.bl bb])
          exact hk _ _ (u1.trans u2) ⟨T2, T, rfl, upd_same, u2 _ _ upd_same⟩
        · have hin := colP_in (n := n) (c := cl) (y := yv) (k := (my - yv).toNat) cl0 cl1 a2.1 (by omega)
          have hnd := colP_nd cl yv (my - yv).toNat
          have hcl2 : (colP cl yv (my - yv).toNat).length = (my - yv).toNat := by rw [colP, List.length_map, List.length_range]
          obtain ⟨es, rfl, hes, hkv⟩ := ents_idx (K := K) (v := .bl bb) (ps := colP cl yv (my - yv).toNat) (by rw [hl, hcl2]) (fun j2 y2 e2 p2 ep2 => by
            have h1 := hys j2 y2 e2
            rw [colP, List.getElem?_map] at ep2
            obtain ⟨j3, e3, rfl⟩ := Option.map_eq_some_iff.mp ep2
            have : j3 = j2 := by
              obtain ⟨h1, h2⟩ := List.getElem?_eq_some_iff.mp e3
              rw [List.getElem_range] at h2
              exact h2.symm
            rw [this]
            exact h1)
          have em : mergeT [] (es.map Ent.kv) = dpt (colP cl yv (my - yv).toNat) (.bl bb) := by
            rw [hkv]
            have := dpt_merge (v := V.bl bb) (colP cl yv (my - yv).toNat) [] (by rw [List.nil_append]; exact hnd)
            rw [List.nil_append] at this
            exact this
          refine ⟨D, es, rfl, SqL.of hDl, hes, fun o ho => ?_⟩
          have so := same_new ho (.dT (mergeT [] (es.map Ent.kv)))
          have hF7 := s7 _ _ hF6
          have hF8 := so _ _ hF7
          have d256 : 2 ^ (2 * n) ≤ 2 ^ 8 := Nat.pow_le_pow_right (by decide) (by omega)
          have dl := ds6.len
          refine ⟨F, o, kv2, dpt (colP cl yv (my - yv).toNat) (.bl bb), rfl, rfl, hF8, by rw [upd_same, em], (fun e => by rw [e, ho] at hF7; cases hF7), .inr (hash_nodup _ _ hn hnd hin), by rw [dpt_len, hcl2, sizeLine_eq]; omega, ?_⟩
          refine ⟨_, _, _, _, _, rfl, fun b ob hb e => ?_, ?_, upd_same, ds6.merge fun p hp => (hin p hp).1⟩
          · rw [upd_ne (ne_of_none e hF)]
            exact so _ _ (s7 _ _ (s6 _ _ hb e))
          · obtain ⟨p1, p2, p3, hh⟩ := hs6
            exact ⟨p1, p2, p3, by rw [upd_ne hFs.symm]; exact so _ _ (s7 _ _ hh)⟩
      · rintro σ H6 ⟨y11, y12, y13, y14, kv2, rfl, s6, hs6, hF6, ds6⟩
        exact ⟨_, _, _, _, _, _, _, _, _, _, _, kv2, rfl, s6, hs6, hF6, ds6⟩
    · rintro σ H5 ⟨x4, x5, x6, x7, x8, x9, x10, x11, x12, x13, x14, kvs, rfl, s5, hs5, hF5, ds⟩
      obtain ⟨qs, rfl, sp⟩ := ds.ex
      have d256 : 2 ^ (2 * n) ≤ 2 ^ 8 := Nat.pow_le_pow_right (by decide) (by omega)
      have dl := ds.len
      rw [dq, List.length_map] at dl
      refine ⟨F, _, hF5, trivial, fun od => ?_⟩
      refine ⟨_, rfl, F, od, rfl, .inr ⟨dq qs, upd_same, ?_⟩⟩
      intro D hD
      refine lc_it (walk_keysT (d := F) (o := od) (kvs := dq qs)) (fun j H6 => ∃ acc : List V, H6 D = some (.lst acc) ∧ acc.length ≤ j ∧ Same (upd H5 F (.frz od (.dT (dq qs)))) H6 ∧ PtsAt H6 acc (((qs.take j).filter (·.2)).map (·.1)))
        ⟨[], upd_same, Nat.le_refl _, same_new hD _, by rw [List.take_zero]; exact trivial⟩ (fun j H6 _ ⟨_, _, _, s6, _⟩ => s6 _ _ upd_same) (fun j x H6 H7 hj h hy => ?_) (fun H6 h => ?_)
      · obtain ⟨rfl, k, v, q0, ek, rfl, hq⟩ := hy
        obtain ⟨acc, hacc, hlen, s6, hP⟩ := h
        rw [dq, List.getElem?_map] at ek
        obtain ⟨⟨p, b⟩, hpj, e⟩ := Option.map_eq_some_iff.mp ek
        injection e with e1 e2
        subst e1
        subst e2
        have hjl : j < qs.length := (List.getElem?_eq_some_iff.mp hpj).1
        have etk : qs.take (j + 1) = qs.take j ++ [(p, b)] := by rw [List.take_add_one, hpj]; rfl
        refine ⟨wipe_set1, _, rfl, _, rfl, F, .bl b, rfl, .inr ⟨dq qs, pkey p, q0, .inr ⟨od, s6 _ _ upd_same⟩, rfl, hq, (valV_dq sp.nd (List.mem_of_getElem? hpj)).symm⟩, b, rfl, ?_⟩
        cases b with
        | true =>
          refine iteT ⟨_, rfl, acc, hacc, by rw [sizeLine_eq]; omega, acc ++ [.ref q0], upd_same, by rw [List.length_append, List.length_singleton]; omega, same_list hD s6, ?_⟩
          have tkk := tk_list (ys := acc ++ [V.ref q0]) hacc
          rw [etk, List.filter_append, List.map_append]
          exact PtsAt.snoc ⟨q0, rfl, tkk _ _ hq⟩ (hP.mono tkk)
        | false =>
          refine iteF ⟨acc, hacc, by omega, s6, ?_⟩
          rw [etk, List.filter_append, List.map_append]
          simpa using hP
      · obtain ⟨acc, hacc, hlen, s6, hP⟩ := h
        have hfz := s6 _ _ upd_same
        have hDF : D ≠ F := ne_of hacc hfz (fun z => nomatch z)
        rw [show (dq qs).length = qs.length from List.length_map .., List.take_length] at hP
        have tk1 : TupK H6 (upd H6 F (.dT (dq qs))) := tk_of2 hfz (fun _ z => nomatch z)
        have hP1 := hP.mono tk1
        have sp2 : Spots n ((qs.filter (·.2)).map (·.1)) := sp.sub (List.Sublist.map _ List.filter_sublist)
        refine ⟨hfz, D, acc, rfl, SqL.of (by rw [upd_ne hDF]; exact hacc), fun x hx => ?_, fun ys p perm hp => ?_⟩
        · obtain ⟨m, hm, em⟩ := List.mem_iff_getElem.mp hx
          obtain ⟨pp, _, t, e1, ht⟩ := hP1.at (i := m) (x := x) (by rw [List.getElem?_eq_getElem hm, em])
          exact ⟨t, pp.1, pp.2, e1, ht⟩
        · obtain ⟨ps', hP2, perm2⟩ := PtsAt.perm perm hP1
          have sp3 := same_new hp (.lst ys)
          have sAll : SameB sr H (upd (upd H6 F (.dT (dq qs))) p (.lst ys)) := fun b o hb e => by
            have hbF := ne_of_none e hF
            refine sp3 _ _ ?_
            rw [upd_ne hbF]
            refine s6 _ _ ?_
            rw [upd_ne hbF]
            exact s5 _ _ hb e
          have hsE : SrcAt (upd H6 F (.dT (dq qs))) sr := by
            obtain ⟨p1, p2, p3, hh⟩ := hs5
            refine ⟨p1, p2, p3, ?_⟩
            rw [upd_ne hFs.symm]
            refine s6 _ _ ?_
            rw [upd_ne hFs.symm]
            exact hh
          exact q p ps' _ sAll (hsE.same sp3) ⟨ys, upd_same, hP2.mono (Same.tk sp3)⟩ (src_ne hsE hp) (sp2.perm perm2)
end
end Pl

namespace Pl
open PySem PySem.Spec PyProof.Rows L2
abbrev sRight : Stmt := top 57
section
variable {X : Cx} {k : Nat} {st : Stmt} {sp : Sp} {x : Str} {p pos : Pos} {kws : List Keyword} {tk : TA}
/-- f(picture = .., figures = ..) -/
theorem pe_canPF (c : Can X.prog X.w X.K X.mg X.base k x ["figures", "picture"] sp) (a : At X.K X.mg x st)
    (bind : ∀ (kV doc pm : Value) (an : Option Addr) (cdv ct : Value) (v w : Value), bindArgs (PySem.W.fnOf x x (defArgs st) (defBody st) (defScope st) .none kV doc pm an cdv ct) ⟨[], [(("picture" : Str), v), (("figures" : Str), w)]⟩ = pure [(("figures" : Str), w), (("picture" : Str), v)])
    (hr : Room k X.A) (hkw : PK X kws tk) (hg : Gl X x := by rfl) (hall : (backToKw pos (keywordEach kws X.env)).all (·.1.isSome) = true := by rfl) (hks : (backToKw pos (keywordEach kws X.env)).filterMap (·.1) = (["picture", "figures"] : List Str) := by rfl)
    (hdb : (x == ("__debug__" : Str)) = false := by decide)
    (hpl : ((backTo pos (starEach [] X.env)).any (·.1) || (backToKw pos (keywordEach kws X.env)).any (·.1.isNone)) = false := by rfl) : PE X (.Call (.Name x p) [] kws pos) (tCallN 0 2 sp swapK E0 tNil tk) := by
  obtain ⟨f, fd, h1, h2, h3, h4, oc, od, osl, lk⟩ := c.ex
  obtain ⟨f', fd', F, hm⟩ := a.ex
  rw [h2] at hm
  injection hm with hm
  injection hm with hm
  subst hm
  obtain ⟨oc', od', dV, kV, doc, pm, an, cdv, ct, osl', e, lk', hcd, hD, hK⟩ := F.ex
  rw [lk] at lk'
  injection lk' with lk'
  injection lk' with _ _ e2 _
  injection e2 with e2
  rw [← e2] at e
  have hkb : KBn X.K fd ["figures", "picture"] 0 ["picture", "figures"] swapK swapK := by
    rcases hD with ⟨_, rfl⟩ | ⟨e9, _⟩
    · subst e
      exact kb_swap (bind kV doc pm an cdv ct)
    · exact absurd rfl e9
  exact pe_callN0 h1 hr hg h2 h3 hkb pass0 hkw hall hks hdb hpl
end
section
variable {K : PySem.W.Frag}
/-! ### three numbers -/
def d3 (a e c : Int) : PyData := .tuple [.int a, .int e, .int c]
theorem d3_eqv (a e c : Int) : PyData.eqv (d3 a e c) (d3 a e c) = true := by
  rw [d3, eqvT, eqvC, eqvC, eqvC, eqvN]
  simp [PyData.eqv]
theorem d3_depth (a e c : Int) : PyData.depth (d3 a e c) ≤ 60 := by simp [d3, PyData.depth, PyData.depthAll]
theorem d3_lay (a e c : Int) : (d3 a e c).canLay0 = true := by simp [d3, PyData.canLay0, PyData.canLayAll0]
theorem dp3 {H : Hp} {x : Addr} {a e c : Int} (h : H x = some (.tup [.int a, .int e, .int c])) : Dp K H (.ref x) (d3 a e c) := .tup (SqT.of h) (.cons (.int _) (.cons (.int _) (.cons (.int _) .nil)))
theorem ne3 {H : Hp} {x y : Addr} {a e c : Int} {Q : VK} (hx : H x = some (.tup [.int a, .int e, .int c])) (hy : H y = some (.tup [.int a, .int e, .int c])) (q : Q (.bl false) H) : rNeM K (.ref x) (.ref y) H Q := by
  have := d3_depth a e c
  refine ⟨_, _, dp3 hx, dp3 hy, d3_lay .., d3_lay .., by omega, ?_⟩
  rw [d3_eqv]
  exact q
theorem eq3 {H : Hp} {x y : Addr} {a e c : Int} {Q : VK} (hx : H x = some (.tup [.int a, .int e, .int c])) (hy : H y = some (.tup [.int a, .int e, .int c])) (q : Q (.bl true) H) : rEqM K (.ref x) (.ref y) H Q := by
  have := d3_depth a e c
  refine ⟨_, _, dp3 hx, dp3 hy, d3_lay .., d3_lay .., by omega, ?_⟩
  rw [d3_eqv]
  exact q
theorem three_at {H : Hp} {x : Addr} {n : Nat} {S : Pic} {a e c c' : Nat} (hd : Due n S a e c) (hc : NCl (blk S) (wit n (nam S 0)) c') : upd H x (.tup [V.int (bc n S : Int), V.int (4 * (bc n S : Int) - 2 * (pw n S : Int)), V.int (c' : Int)]) x = some (.tup [.int (a : Int), .int (e : Int), .int (c : Int)]) := by
  obtain ⟨d1, d2, d3⟩ := hd
  rw [upd_same, d3 c' hc, ← d1]
  have e2 : 4 * (bc n S : Int) - 2 * (pw n S : Int) = (e : Int) := by omega
  rw [← e2]
/-- (area(n, S), edge(n, S), regions(n, S)) -/
theorem three {σ : L2.St} {H : Hp} {i j n : Nat} {v : V} {S : Pic} {a e c : Nat} (hi : σ[i]? = some (some (.int (n : Int)))) (hj : σ[j]? = some (some v)) (hP : PicAt H v S) (ha : Asked n S) (hd : Due n S a e c) {Q : VK}
    (q : ∀ x H', Same H H' → H' x = some (.tup [.int (a : Int), .int (e : Int), .int (c : Int)]) → Q (.ref x) H') :
    tTup (tCons (tCall (spNum fun n S => (bc n S : Int)) [] E0 (tCons (tVar i) (tCons (tVar j) tNil))) (tCons (tCall (spNum fun n S => 4 * (bc n S : Int) - 2 * (pw n S : Int)) [] E0 (tCons (tVar i) (tCons (tVar j) tNil))) (tCons (tCall spRegions [] E0 (tCons (tVar i) (tCons (tVar j) tNil))) tNil))) σ H Q := by
  obtain ⟨d1, d2, d3⟩ := hd
  refine ⟨_, hi, _, hj, n, v, S, rfl, hP, ha, fun H1 s1 => ⟨_, hi, _, hj, n, v, S, rfl, hP.mono (Same.tk s1), ha, fun H2 s2 => ⟨_, hi, _, hj, n, v, S, rfl, hP.mono (Same.tk (s1.trans s2)), ha, fun c' H3 s3 hc => ⟨by show 3 ≤ sizeLine; decide, fun x hx => ?_⟩⟩⟩⟩
  refine q x _ (s1.trans (s2.trans (s3.trans (same_new hx _)))) ?_
  rw [upd_same, d3 c' hc, ← d1]
  have e2 : 4 * (bc n S : Int) - 2 * (pw n S : Int) = (e : Int) := by omega
  rw [← e2]
/-! ### (0,) * k, and sums of tuples -/
theorem rep0 {H : Hp} {p : Addr} {k : Nat} {Q : VK} (hp : H p = some (.tup [.int 0])) (hk : k ≤ 3) (q : ∀ a H', Same H H' → H' a = some (.tup (List.replicate k (.int 0))) → Q (.ref a) H') : rRepA K (.ref p) (.int (k : Int)) H Q := by
  refine ⟨p, (k : Int), [.int 0], rfl, rfl, SqT.of hp, by simp, by omega, by omega, by decide, fun e => ?_, fun e p2 hp2 => ?_⟩
  · have : k = 1 := by omega
    subst this
    exact q p H (Same.refl _) hp
  · refine q p2 _ (same_new hp2 _) ?_
    rw [upd_same, Int.toNat_natCast]
    match k, hk with
    | 0, _ => rfl
    | 1, _ => rfl
    | 2, _ => rfl
    | 3, _ => rfl
theorem cat0 {H : Hp} {a b : Addr} {xs ys : List V} {Q : VK} (ha : H a = some (.tup xs)) (hb : H b = some (.tup ys)) (hl : xs.length + ys.length ≤ 1000) (q : ∀ c H', Same H H' → H' c = some (.tup (xs ++ ys)) → Q (.ref c) H') : rCatA K (.ref a) (.ref b) H Q := by
  refine ⟨a, b, xs, ys, rfl, rfl, SqT.of ha, SqT.of hb, by rw [sizeLine_eq]; omega, fun e => ?_, fun _ e => ?_, fun _ _ p hp => ?_⟩
  · subst e; exact q b H (Same.refl _) hb
  · subst e; exact q a H (Same.refl _) (by rw [List.append_nil]; exact ha)
  · exact q p _ (same_new hp _) upd_same
theorem emb_at {H : Hp} {c : Addr} {v : V} {S : Pic} {k : Nat} (hk : k ≤ 3) (hS : S ≠ .leaf false) (hP : PicAt H v S) (h : H c = some (.tup (List.replicate k (.int 0) ++ [v] ++ List.replicate (3 - k) (.int 0)))) : PicAt H (.ref c) (emb k S) := by
  unfold emb
  rw [if_neg hS]
  match k, hk with
  | 0, _ => exact ⟨c, _, _, _, _, rfl, h, hP, rfl, rfl, rfl⟩
  | 1, _ => exact ⟨c, _, _, _, _, rfl, h, rfl, hP, rfl, rfl⟩
  | 2, _ => exact ⟨c, _, _, _, _, rfl, h, rfl, rfl, hP, rfl⟩
  | 3, _ => exact ⟨c, _, _, _, _, rfl, h, rfl, rfl, rfl, hP⟩
end
section
variable {P : Program} {w : World} {K : PySem.W.Frag} {mg : Str → Option Value} {base : Heap} {C : Addr}
abbrev nRight : List Str := ["_law_source_here", "_law_size", "_law_spots", "_law_sheet", "_law_due", "_law_told", "_law_black", "_law_white", "_law_split_so", "_law_other", "_law_great", "_law_number", "_law_level"]
def spRight : Sp := fun vs H Q _ => ∃ (s : Addr), vs = [.ref s] ∧ SrcAt H s ∧ ∀ H', SameB s H H' → SrcAt H' s → Q (.bl true) H'
theorem scRight : FnScope nRight ["_law_source_here"] (defScope sRight) := ⟨rfl, rfl, rfl, by decide +kernel, rfl, by decide +kernel, by decide +kernel⟩
theorem ok_right (a : At K mg "_law_right" sRight) (T : Bi mg) (tk : Can P w K mg base 2 "_law_take" ["_law_source_here", "_law_bound"] spTake) (dr : Can P w K mg base 4 "_law_drawn" ["_law_source_here", "_law_size"] spDrawn)
    (pc : Can P w K mg base 42 "_law_picture" ["_law_size", "_law_spots"] (spPicture 41)) (sd : Can P w K mg base 1 "_law_sides" ["_law_spots"] spSides) (fl : Can P w K mg base 1 "_law_flooded" ["_law_spots"] spFlooded) (so : Can P w K mg base 41 "_law_sorts" ["_law_sheet"] (spSorts 41))
    (ar : Can P w K mg base 44 "area" ["figures", "picture"] (spNum fun n S => (bc n S : Int))) (ed : Can P w K mg base 84 "edge" ["figures", "picture"] (spNum fun n S => 4 * (bc n S : Int) - 2 * (pw n S : Int))) (rg : Can P w K mg base 84 "regions" ["figures", "picture"] spRegions)
    (co : Can P w K mg base 44 "cells_of" ["figures", "picture"] spCellsOf) (tl : Can P w K mg base 44 "turned_left" ["figures", "picture"] (spPanned 2 0 3 1)) (mi : Can P w K mg base 44 "mirrored" ["figures", "picture"] (spPanned 1 0 3 2))
    (aA : At K mg "area" sArea) (aE : At K mg "edge" sEdge) (aR : At K mg "regions" sRegions) (aC : At K mg "cells_of" sCellsOf) : Can P w K mg base 85 "_law_right" ["_law_source_here"] spRight := by
  refine a.can scRight (fun vs H Q E h => ?_) (fun _ _ _ _ _ _ us hl => match us, hl with | [_], _ => rfl) (fun f cdv A outer s H vs Q E hr h => ?_)
  · obtain ⟨s, rfl, _⟩ := h
    rfl
  · obtain ⟨sr, rfl, hs, q⟩ := h
    have hr1 : Room 1 _ := hr.mono (by decide)
    have hr2 : Room 2 _ := hr.mono (by decide)
    have hr4 : Room 4 _ := hr.mono (by decide)
    have hr41 : Room 41 _ := hr.mono (by decide)
    have hr42 : Room 42 _ := hr.mono (by decide)
    have hr44 : Room 44 _ := hr.mono (by decide)
    refine ⟨_, pss_cons (ps_set (i := 1) scRight.nd rfl (Or.inl rfl) (pe_can tk hr2 (pa_cons (pv 0) (pa_cons pe_int pa_nil))))
      (pss_cons (ps_set (i := 2) scRight.nd rfl (Or.inl rfl) (pe_can dr hr4 (pa_cons (pv 0) (pa_cons (pv 1) pa_nil))))
      (pss_cons (ps_set (i := 3) scRight.nd rfl (Or.inl rfl) (pe_can pc hr42 (pa_cons (pv 1) (pa_cons (pv 2) pa_nil))))
      (pss_cons (ps_set (i := 4) scRight.nd rfl (Or.inl rfl) (pe_tup (pa_cons (pe_callB call_len_seq (by rfl) T.len PySem.boot_len (pa_cons (pv 2) pa_nil)) (pa_cons (pe_can sd hr1 (pa_cons (pv 2) pa_nil)) (pa_cons (pe_can fl hr1 (pa_cons (pv 2) pa_nil)) pa_nil)))))
      (pss_cons (ps_if (pt_cmpR (op_neM hr.units) (pe_tup (pa_cons (pe_can ar hr44 (pa_cons (pv 1) (pa_cons (pv 3) pa_nil))) (pa_cons (pe_can ed hr (pa_cons (pv 1) (pa_cons (pv 3) pa_nil))) (pa_cons (pe_can rg hr (pa_cons (pv 1) (pa_cons (pv 3) pa_nil))) pa_nil)))) (pv 4) (nomark _)) (pss_one (ps_ret (pe_bl (b := false)))) pss_nil)
      (pss_cons (ps_set (i := 5) scRight.nd rfl (Or.inl rfl) (pe_tup (pa_cons (pe_canPF ar aA (fun _ _ _ _ _ _ _ _ => rfl) hr44 (pk_cons (pv 3) (pk_cons (pv 1) pk_nil))) (pa_cons (pe_canPF ed aE (fun _ _ _ _ _ _ _ _ => rfl) hr (pk_cons (pv 3) (pk_cons (pv 1) pk_nil))) pa_nil))))
      (pss_cons (ps_if (PW.pt (pw_or (pt_cmpR (op_neM hr.units) (pe_op op_catA (pv 5) (pe_tup (pa_cons (pe_canPF rg aR (fun _ _ _ _ _ _ _ _ => rfl) hr (pk_cons (pv 3) (pk_cons (pv 1) pk_nil))) pa_nil))) (pv 4) (nomark _))
          (pw_or1 (pt_cmpR (op_neM hr.units) (pe_can co hr44 (pa_cons (pv 1) (pa_cons (pv 3) pa_nil))) (pe_can so hr41 (pa_cons (pv 3) pa_nil)) (nomark _))))) (pss_one (ps_ret (pe_bl (b := false)))) pss_nil)
      (pss_cons (ps_asg (pe_canPF co aC (fun _ _ _ _ _ _ _ _ => rfl) hr44 (pk_cons (pv 3) (pk_cons (pv 1) pk_nil))) (pg_tup rfl (pgs_cons (pg_name (i := 6) scRight.nd rfl (Or.inl rfl)) (pgs_cons (pg_name (i := 7) scRight.nd rfl (Or.inl rfl)) (pgs_cons (pg_name (i := 8) scRight.nd rfl (Or.inl rfl)) pgs_nil)))))
      (pss_cons (ps_if (pt_cmpR op_ne (pe_op op_mul pe_int (pv 8)) (pe_op op_sub (pe_op op_add (pv 6) (pv 7)) pe_int) (nomark _)) (pss_one (ps_ret (pe_bl (b := false)))) pss_nil)
      (pss_cons (ps_for PassesOwn.never rfl (pi_tup (pe_tup (pa_cons (pe_can tl hr44 (pa_cons (pv 1) (pa_cons (pv 3) pa_nil))) (pa_cons (pe_can mi hr44 (pa_cons (pv 1) (pa_cons (pv 3) pa_nil))) pa_nil)))) (pg_name (i := 9) scRight.nd rfl (Or.inl rfl))
        (pss_one (ps_if (pt_cmpR (op_neM hr.units) (pe_tup (pa_cons (pe_can ar hr44 (pa_cons (pv 1) (pa_cons (pv 9) pa_nil))) (pa_cons (pe_can ed hr (pa_cons (pv 1) (pa_cons (pv 9) pa_nil))) (pa_cons (pe_can rg hr (pa_cons (pv 1) (pa_cons (pv 9) pa_nil))) pa_nil)))) (pv 4) (nomark _)) (pss_one (ps_ret (pe_bl (b := false)))) pss_nil)))
      (pss_cons (ps_par (i := 10) (j := 11) (by rfl) scRight.nd rfl rfl (by decide) rfl rfl (pa_cons (pe_op op_sub pe_int (pe_can tk hr2 (pa_cons (pv 0) (pa_cons pe_int pa_nil)))) (pa_cons (pe_can tk hr2 (pa_cons (pv 0) (pa_cons pe_int pa_nil))) pa_nil)) (by rfl))
      (pss_cons (ps_for PassesOwn.never rfl (pi_range1 (by rfl) T.range (pa_cons (pe_op op_sub (pv 10) (pv 1)) pa_nil)) (pg_name (i := 12) scRight.nd rfl (Or.inl rfl))
        (pss_one (ps_set (i := 3) scRight.nd rfl (Or.inl rfl) (pe_ifExp (pt_cmp (pc_neP false hr.units (pv 3) pe_int)) (pe_op op_catA (pe_op op_catA (pe_op op_repA (pe_tup (pa_cons pe_int pa_nil)) (pv 11)) (pe_tup (pa_cons (pv 3) pa_nil))) (pe_op op_repA (pe_tup (pa_cons pe_int pa_nil)) (pe_op op_sub pe_int (pv 11)))) pe_int))))
      (pss_cons (ps_set (i := 5) scRight.nd rfl (Or.inl rfl) (pe_tup (pa_cons (pe_can ar hr44 (pa_cons (pv 10) (pa_cons (pv 3) pa_nil))) (pa_cons (pe_can ed hr (pa_cons (pv 10) (pa_cons (pv 3) pa_nil))) (pa_cons (pe_can rg hr (pa_cons (pv 10) (pa_cons (pv 3) pa_nil))) pa_nil)))))
      (pss_one (ps_ret (pe_and (pe_cmpR (op_eqM hr.units) (pv 5) (pv 4) (nomark _)) (pe_one (pe_cmpR (op_eqM hr.units) (pe_can co hr44 (pa_cons (pv 10) (pa_cons (pv 3) pa_nil))) (pe_can so hr41 (pa_cons (pv 3) pa_nil)) (nomark _)))))))))))))))))), ?_⟩
    refine ⟨_, rfl, sr, 5, rfl, hs, by decide, by decide, fun r H1 r0 r1 s1 hs1 => ?_⟩
    obtain ⟨n, rfl⟩ : ∃ n : Nat, r = (n : Int) := ⟨r.toNat, by omega⟩
    have hn : n ≤ 4 := by omega
    refine ⟨_, rfl, _, rfl, sr, n, rfl, hs1, hn, fun l ps H2 s2 hs2 hL hls sp => ?_⟩
    have d256 : 2 ^ (2 * n) ≤ 2 ^ 8 := Nat.pow_le_pow_right (by decide) (by omega)
    have hlen := sp.len
    refine ⟨_, rfl, _, rfl, n, l, ps, rfl, hL, sp, by omega, by omega, by omega, fun v H3 s3 hP => ?_⟩
    have hL3 := hL.mono s3
    obtain ⟨xs, hxs, hpts⟩ := id hL3
    refine ⟨_, rfl, l, xs, rfl, .inl (SqL.of hxs), _, rfl, l, ps, rfl, hL3, sp.nd, by omega, fun H4 s4 => ⟨_, rfl, l, ps, rfl, hL3.mono s4, sp.nd, by omega, fun rs H5 s5 hr => ⟨by show 3 ≤ sizeLine; decide, fun D hD => ?_⟩⟩⟩
    have hD6 : upd H5 D (.tup [V.int (xs.length : Int), V.int (sidesN ps : Int), V.int (rs.length : Int)]) D = some (.tup [V.int (ps.length : Int), V.int (sidesN ps : Int), V.int (rs.length : Int)]) := by rw [upd_same, hpts.len]
    have s36 := s4.trans (s5.trans (same_new hD (.tup [V.int (xs.length : Int), V.int (sidesN ps : Int), V.int (rs.length : Int)])))
    generalize upd H5 D (.tup [V.int (xs.length : Int), V.int (sidesN ps : Int), V.int (rs.length : Int)]) = H6 at hD6 s36
    have hP6 := hP.mono (Same.tk s36)
    have s06 : SameB sr H H6 := s1.trans (s2.trans (Same.b (s3.trans s36) sr))
    have hs6 := hs2.same (s3.trans s36)
    have hdue := pic_due sp hr
    have hwf := pic_wf sp
    have hcnt : cnt (pic n ps) ≤ 341 := by
      have h1 := cnt_le (wf_dok _ _ hwf)
      have h2 : 4 ^ (n + 1) ≤ 4 ^ 5 := Nat.pow_le_pow_right (by decide) (by omega)
      omega
    have hask : Asked n (pic n ps) := ⟨hwf, by omega, by omega⟩
    generalize pic n ps = S at hP6 hdue hwf hcnt hask
    generalize ps.length = a' at hdue hD6
    generalize sidesN ps = e' at hdue hD6
    generalize rs.length = c' at hdue hD6
    -- the first comparison
    refine ⟨_, rfl, _, rfl, n, v, S, rfl, hP6, hask, fun x7A x7t => ⟨_, rfl, _, rfl, n, v, S, rfl, hP6.mono (Same.tk x7t), hask, fun x7B x7u => ⟨_, rfl, _, rfl, n, v, S, rfl, hP6.mono (Same.tk (x7t.trans x7u)), hask, fun x7c x7C x7w x7h => ⟨by show 3 ≤ sizeLine; decide, fun x7 x7n => ?_⟩⟩⟩⟩
    have s7 := x7t.trans (x7u.trans (x7w.trans (same_new x7n (.tup [V.int (bc n S : Int), V.int (4 * (bc n S : Int) - 2 * (pw n S : Int)), V.int (x7c : Int)]))))
    have hx7 := three_at (x := x7) (H := x7C) hdue x7h
    refine ⟨_, rfl, ne3 hx7 (s7 _ _ hD6) ⟨false, rfl, iteF ?_⟩⟩
    have hP7 := hP6.mono (Same.tk s7)
    -- by keywords
    refine ⟨_, rfl, _, rfl, rfl, rfl, n, v, S, rfl, hP7, hask, fun H8 s8 => ⟨_, rfl, _, rfl, rfl, rfl, n, v, S, rfl, hP7.mono (Same.tk s8), hask, fun H9 s9 => ⟨by show 2 ≤ sizeLine; decide, fun U hU => ?_⟩⟩⟩
    have e2 : 4 * (bc n S : Int) - 2 * (pw n S : Int) = (e' : Int) := by have := hdue.2.1; omega
    have e1 : (bc n S : Int) = (a' : Int) := by rw [hdue.1]
    have hU10 : upd H9 U (.tup [V.int (bc n S : Int), V.int (4 * (bc n S : Int) - 2 * (pw n S : Int))]) U = some (.tup [V.int (a' : Int), V.int (e' : Int)]) := by rw [upd_same, e1]; rw [← e1, e2]
    have s10 := s8.trans (s9.trans (same_new hU (.tup [V.int (bc n S : Int), V.int (4 * (bc n S : Int) - 2 * (pw n S : Int))])))
    generalize upd H9 U (.tup [V.int (bc n S : Int), V.int (4 * (bc n S : Int) - 2 * (pw n S : Int))]) = H10 at hU10 s10
    have hP10 := hP7.mono (Same.tk s10)
    refine ⟨_, rfl, _, rfl, _, rfl, rfl, rfl, n, v, S, rfl, hP10, hask, fun cc H11 s11 hc => ⟨by show 1 ≤ sizeLine; decide, fun W hW => ?_⟩⟩
    have s12 := s11.trans (same_new hW (.tup [V.int (cc : Int)]))
    refine cat0 (s12 _ _ hU10) upd_same (by show 3 ≤ 1000; decide) fun Y H13 s13 hY => ?_
    rw [hdue.2.2 cc hc] at hY
    have sD13 := s7.trans (s10.trans (s12.trans s13))
    refine ⟨_, rfl, ne3 hY (sD13 _ _ hD6) ⟨false, rfl, iteF ?_⟩⟩
    have hP13 := hP6.mono (Same.tk sD13)
    refine ⟨_, rfl, _, rfl, n, v, S, rfl, hP13, hask, fun t1 H14 s14 ht1 => ⟨_, rfl, v, S, rfl, hP13.mono (Same.tk s14), hask.dp, fun t2 H15 s15 ht2 => ?_⟩⟩
    obtain ⟨b1, rfl, hb1⟩ := ht1.mono (Same.tk s15)
    obtain ⟨b2, rfl, hb2⟩ := ht2
    refine ne3 hb1 hb2 ⟨false, rfl, iteF ?_⟩
    have sD15 := sD13.trans (s14.trans s15)
    have hP15 := hP6.mono (Same.tk sD15)
    refine ⟨_, rfl, _, rfl, rfl, rfl, n, v, S, rfl, hP15, hask, fun t3 H16 s16 ht3 => ?_⟩
    obtain ⟨b3, rfl, hb3⟩ := ht3
    refine ⟨b3, _, rfl, SqT.of hb3, rfl, _, _, rfl, _, _, rfl, _, _, rfl, rfl, ?_⟩
    refine ⟨_, rfl, _, _, rfl, rfl, .inl ⟨by decide, by decide⟩, _, rfl, _, rfl, _, _, rfl, rfl, _, _, rfl, rfl, rfl, false, ?_, iteF ?_⟩
    · have h3 := split_third S
      refine congrArg V.bl ?_
      show (!decide (V.int (3 * (ss S : Int)) = V.int ((sb S : Int) + (sw S : Int) - 1))) = false
      rw [decide_eq_true (congrArg V.int (by omega))]
      rfl
    have sD16 := sD15.trans s16
    have hP16 := hP6.mono (Same.tk sD16)
    -- turned and mirrored
    refine ⟨_, rfl, _, rfl, n, v, S, rfl, hP16, hask, fun v1 H17 s17 g1 => ⟨_, rfl, _, rfl, n, v, S, rfl, hP16.mono (Same.tk s17), hask, fun v2 H18 s18 g2 => ⟨by show 2 ≤ sizeLine; decide, fun X hX => ?_⟩⟩⟩
    have sX := same_new hX (.tup [v1, v2])
    have hX19 : upd H18 X (.tup [v1, v2]) X = some (.tup [v1, v2]) := upd_same
    have g1' := g1.mono (Same.tk (s18.trans sX))
    have g2' := g2.mono (Same.tk sX)
    have sD19 := sD16.trans (s17.trans (s18.trans sX))
    generalize upd H18 X (.tup [v1, v2]) = H19 at hX19 g1' g2' sD19
    refine ⟨X, rfl, ⟨_, SqT.of hX19⟩, for_it (walk_tup (K := K) (a := X) (xs := [v1, v2])) (fun i σ H20 => ∃ x9 : Option V, σ = [some (.ref sr), some (.int (n : Int)), some (.ref l), some v, some (.ref D), some (.ref U), some (.int (sb S : Int)), some (.int (sw S : Int)), some (.int (ss S : Int)), x9, none, none, none] ∧ Same H19 H20)
      ⟨none, rfl, Same.refl _⟩ (fun i σ H20 _ ⟨_, _, s20⟩ => SqT.of (s20 _ _ hX19)) ?_ ?_⟩
    · rintro i x σ H20 H21 hi ⟨_, rfl, s20⟩ ⟨rfl, ex⟩
      have go : ∀ (S' : Pic), PicAt H19 x S' → Asked n S' → Due n S' a' e' c' → ∃ xx, some (some x) = some (some xx) ∧ PicAt H21 xx S' ∧ Asked n S' ∧ Due n S' a' e' c' := fun S' h1 h2 h3 => ⟨x, rfl, h1.mono (Same.tk s20), h2, h3⟩
      obtain ⟨S', hS1, hS2, hS3⟩ : ∃ S', PicAt H21 x S' ∧ Asked n S' ∧ Due n S' a' e' c' := by
        match i, hi, ex with
        | 0, _, ex => cases ex; exact ⟨turn S, g1'.mono (Same.tk s20), ⟨turn_wf hwf, by omega, by rw [turn_cnt]; omega⟩, due_turn hwf hdue⟩
        | 1, _, ex => cases ex; exact ⟨mirr S, g2'.mono (Same.tk s20), ⟨mirr_wf hwf, by omega, by rw [mirr_cnt]; omega⟩, due_mirr hwf hdue⟩
      refine ⟨_, rfl, _, rfl, n, x, S', rfl, hS1, hS2, fun x22A x22t => ⟨_, rfl, _, rfl, n, x, S', rfl, hS1.mono (Same.tk x22t), hS2, fun x22B x22u => ⟨_, rfl, _, rfl, n, x, S', rfl, hS1.mono (Same.tk (x22t.trans x22u)), hS2, fun x22c x22C x22w x22h => ⟨by show 3 ≤ sizeLine; decide, fun x22 x22n => ?_⟩⟩⟩⟩
      have s22 := x22t.trans (x22u.trans (x22w.trans (same_new x22n (.tup [V.int (bc n S' : Int), V.int (4 * (bc n S' : Int) - 2 * (pw n S' : Int)), V.int (x22c : Int)]))))
      have hx22 := three_at (x := x22) (H := x22C) hS3 x22h
      exact ⟨_, rfl, ne3 hx22 ((s20.trans s22) _ _ (sD19 _ _ hD6)) ⟨false, rfl, iteF ⟨_, rfl, s20.trans s22⟩⟩⟩
    rintro σ H20 ⟨x9, rfl, s20⟩
    have sD20 := sD19.trans s20
    have hs20 := hs6.same sD20
    refine ⟨_, rfl, sr, 30, rfl, hs20, by decide, by decide, fun rg_ H21 g0 g1 s21 hs21 => ⟨_, _, rfl, rfl, _, rfl, sr, 4, rfl, hs21, by decide, by decide, fun rk H22 k0 k1 s22 hs22 => ?_⟩⟩
    obtain ⟨gr, hgr⟩ : ∃ gr : Nat, 40 - rg_ = (gr : Int) := ⟨(40 - rg_).toNat, by omega⟩
    obtain ⟨nu, rfl⟩ : ∃ nu : Nat, rk = (nu : Int) := ⟨rk.toNat, by omega⟩
    refine ⟨.int (gr : Int), .int (nu : Int), congrArg (fun z : Int => [V.int z, V.int (nu : Int)]) hgr, ?_⟩
    have s22B : SameB sr H6 H22 := (Same.b sD20 sr).trans (s21.trans s22)
    have tk22 : TupK H6 H22 := fun b xs h => (s21.trans s22) b _ (fun e => by
      obtain ⟨_, _, _, hh⟩ := hs20
      have := sD20 _ _ h
      rw [e, hh] at this
      cases this) (sD20 _ _ h)
    have eL : ((gr : Int) - (n : Int)).toNat = gr - n := by omega
    refine ⟨_, rfl, _, rfl, _, _, rfl, rfl, (gr : Int) - (n : Int), rfl, by omega, by omega, ?_⟩
    rw [eL]
    refine for_it walk_range (fun i σ H5 => ∃ (x12 : Option V) (v' : V) (S' : Pic), σ = [some (.ref sr), some (.int (n : Int)), some (.ref l), some v', some (.ref D), some (.ref U), some (.int (sb S : Int)), some (.int (sw S : Int)), some (.int (ss S : Int)), x9, some (.int (gr : Int)), some (.int (nu : Int)), x12] ∧ Same H22 H5 ∧
        PicAt H5 v' S' ∧ wf (n + i) S' = true ∧ cnt S' ≤ 341 + 4 * i ∧ Due (n + i) S' a' e' c')
      ⟨none, v, S, rfl, Same.refl _, hP6.mono tk22, hwf, hcnt, hdue⟩ (fun _ _ _ _ _ => trivial) ?_ ?_
    · rintro i x σ H5 H5' hi ⟨x12, v', S', rfl, s5, hP5, hw5, hc5, hd5⟩ ⟨rfl, ex⟩
      have nxt : ∀ (v2 : V) (H' : Hp), Same H5' H' → PicAt H' v2 (emb nu S') → ∃ (x12 : Option V) (v' : V) (S'' : Pic), [some (V.ref sr), some (V.int (n : Int)), some (V.ref l), some v2, some (V.ref D), some (V.ref U), some (V.int (sb S : Int)), some (V.int (sw S : Int)), some (V.int (ss S : Int)), x9, some (V.int (gr : Int)), some (V.int (nu : Int)), some x] = [some (.ref sr), some (.int (n : Int)), some (.ref l), some v', some (.ref D), some (.ref U), some (.int (sb S : Int)), some (.int (sw S : Int)), some (.int (ss S : Int)), x9, some (.int (gr : Int)), some (.int (nu : Int)), x12] ∧ Same H22 H' ∧
          PicAt H' v' S'' ∧ wf (n + (i + 1)) S'' = true ∧ cnt S'' ≤ 341 + 4 * (i + 1) ∧ Due (n + (i + 1)) S'' a' e' c' := fun v2 H' s' g => ⟨_, v2, emb nu S', rfl, s5.trans s', g, emb_wf nu hw5, by have := emb_cnt nu S'; omega, emb_due nu hd5⟩
      refine ⟨v', S', rfl, hP5, _, rfl, ?_⟩
      by_cases hS : S' = .leaf false
      · rw [decide_eq_true hS]
        refine iteF (nxt _ _ (Same.refl _) ?_)
        rw [show emb nu S' = .leaf false by unfold emb; rw [if_pos hS]]
        rfl
      · rw [decide_eq_false hS]
        refine iteT ⟨by show 1 ≤ sizeLine; decide, fun z1 hz1 => ⟨_, rfl, ?_⟩⟩
        have w1 := same_new hz1 (.tup [V.int 0])
        refine rep0 upd_same (by omega) fun a1 Ha1 t1 h1 => ⟨_, rfl, by show 1 ≤ sizeLine; decide, fun z2 hz2 => ?_⟩
        have w2 := same_new hz2 (.tup [v'])
        refine cat0 (w2 _ _ h1) upd_same (by rw [List.length_replicate, List.length_singleton]; omega) fun a2 Ha2 t2 h2 => ⟨by show 1 ≤ sizeLine; decide, fun z3 hz3 => ?_⟩
        have w3 := same_new hz3 (.tup [V.int 0])
        refine ⟨_, rfl, _, _, rfl, rfl, ?_⟩
        have e3 : (3 : Int) - (nu : Int) = ((3 - nu : Nat) : Int) := by omega
        show rRepA K (.ref z3) (.int ((3 : Int) - (nu : Int))) _ _
        rw [e3]
        refine rep0 upd_same (by omega) fun a3 Ha3 t3 h3 => ?_
        refine cat0 ((w3.trans t3) _ _ h2) h3 (by rw [List.length_append, List.length_replicate, List.length_replicate, List.length_singleton]; omega) fun a4 Ha4 t4 h4 => ?_
        have sAll := w1.trans (t1.trans (w2.trans (t2.trans (w3.trans (t3.trans t4)))))
        exact nxt _ _ sAll (emb_at (by omega) hS (hP5.mono (Same.tk sAll)) h4)
    · rintro σ H5 ⟨x12, v', S', rfl, s5, hP5, hw5, hc5, hd5⟩
      rw [show n + (gr - n) = gr by omega] at hw5 hd5
      have hask5 : Asked gr S' := ⟨hw5, by omega, by omega⟩
      refine ⟨_, rfl, _, rfl, gr, v', S', rfl, hP5, hask5, fun x6A x6t => ⟨_, rfl, _, rfl, gr, v', S', rfl, hP5.mono (Same.tk x6t), hask5, fun x6B x6u => ⟨_, rfl, _, rfl, gr, v', S', rfl, hP5.mono (Same.tk (x6t.trans x6u)), hask5, fun x6c x6C x6w x6h => ⟨by show 3 ≤ sizeLine; decide, fun x6 x6n => ?_⟩⟩⟩⟩
      have s6 := x6t.trans (x6u.trans (x6w.trans (same_new x6n (.tup [V.int (bc gr S' : Int), V.int (4 * (bc gr S' : Int) - 2 * (pw gr S' : Int)), V.int (x6c : Int)]))))
      have hx6 := three_at (x := x6) (H := x6C) hd5 x6h
      have hD7 := (s5.trans s6) _ _ (tk22 _ _ hD6)
      refine ⟨_, rfl, _, rfl, eq3 hx6 hD7 ⟨true, rfl, iteT ?_⟩⟩
      have hP7' := hP5.mono (Same.tk s6)
      refine ⟨_, rfl, _, rfl, gr, v', S', rfl, hP7', hask5, fun t1 H14 s14 ht1 => ⟨_, rfl, v', S', rfl, hP7'.mono (Same.tk s14), hask5.dp, fun t2 H15 s15 ht2 => ?_⟩⟩
      obtain ⟨b1, rfl, hb1⟩ := ht1.mono (Same.tk s15)
      obtain ⟨b2, rfl, hb2⟩ := ht2
      refine eq3 hb1 hb2 (q _ ?_ ?_)
      · exact s06.trans (s22B.trans (Same.b (s5.trans (s6.trans (s14.trans s15))) sr))
      · exact hs22.same (s5.trans (s6.trans (s14.trans s15)))
end
end Pl

namespace Pl
open PySem PySem.Spec PyProof.Rows L2
abbrev sGreat : Stmt := top 58
/-! ## The frame, the board, the whole -/
def cor : Nat → Pic
  | 0 => .leaf true
  | k + 1 => .node (cor k) (.leaf false) (.leaf false) (.leaf false)
def brd : Pic := .node (.leaf false) (.leaf true) (.leaf true) (.leaf false)
def frame (n : Nat) : Pic := met (.leaf true) (opp (cor n))
def okGreat (n : Nat) : Bool :=
  (wf n (cor n) && (decide (cnt (cor n) ≤ 4000) && (decide (dp (frame n) < 41) && (wf n (frame n) && decide (cnt (frame n) ≤ 4000))))) &&
  ((decide (bc n (frame n) = 2 ^ n * 2 ^ n - 1) && (decide (4 * 2 ^ n + 2 * pw n (frame n) = 4 * bc n (frame n)) && (decide (1 ≤ blk (frame n)) && ups (blk (frame n)) (wit n (nam (frame n) 0))))) &&
  ((wf n brd && (decide (bc n brd = 2 ^ n * 2 ^ n / 2) && (decide (4 * 2 ^ n + 2 * pw n brd = 4 * bc n brd) && decide (wit n (nam brd 0) = [])))) &&
  (decide (bc n (.leaf true) = 2 ^ n * 2 ^ n) && decide (4 * 2 ^ n + 2 * pw n (.leaf true) = 4 * bc n (.leaf true)))))
theorem great_all : ∀ k : Fin 39, okGreat (k.val + 2) = true := by decide +kernel
structure Great (n : Nat) : Prop where
  c1 : Asked n (cor n)
  c2 : dp (frame n) < 41
  f1 : Asked n (frame n)
  f2 : Due n (frame n) (2 ^ n * 2 ^ n - 1) (4 * 2 ^ n) 1
  b1 : Asked n brd
  b2 : Due n brd (2 ^ n * 2 ^ n / 2) (4 * 2 ^ n) 2
  w1 : Asked n (.leaf true)
  w2 : Due n (.leaf true) (2 ^ n * 2 ^ n) (4 * 2 ^ n) 1
theorem great_of {n : Nat} (h2 : 2 ≤ n) (h40 : n ≤ 40) : Great n := by
  have h := great_all ⟨n - 2, by omega⟩
  rw [show n - 2 + 2 = n by omega] at h
  simp only [okGreat, Bool.and_eq_true, decide_eq_true_eq] at h
  obtain ⟨⟨a1, a2, a3, a4, a5⟩, ⟨b1, b2, b3, b4⟩, ⟨c1, c2, c3, c4⟩, d1, d2⟩ := h
  refine ⟨⟨a1, h40, a2⟩, a3, ⟨a4, h40, a5⟩, ⟨b1, b2, fun c' hc => ups_one b3 (wit_lt (nlt_nam (by omega))) b4 hc⟩, ⟨c1, h40, by decide⟩, ⟨c2, c3, fun c' hc => ?_⟩, ⟨by cases n <;> simp [wf], h40, by decide⟩, ⟨d1, d2, fun c' hc => ?_⟩⟩
  · rw [c4] at hc
    exact none_cls hc
  · have e : wit n (nam (.leaf true) 0) = [] := by cases n <;> rfl
    rw [e] at hc
    exact none_cls hc
section
variable {P : Program} {w : World} {K : PySem.W.Frag} {mg : Str → Option Value} {base : Heap} {C : Addr}
abbrev nGreat : List Str := ["_law_size", "_law_side", "_law_corner", "_law_level", "_law_frame", "_law_told", "_law_board"]
def spGreat : Sp := fun vs H Q _ => ∃ (n : Nat), vs = [.int (n : Int)] ∧ 2 ≤ n ∧ n ≤ 40 ∧ ∀ H', Same H H' → Q (.bl true) H'
theorem scGreat : FnScope nGreat ["_law_size"] (defScope sGreat) := ⟨rfl, rfl, rfl, by decide +kernel, rfl, by decide +kernel, by decide +kernel⟩
theorem ok_great (a : At K mg "_law_great_right" sGreat) (T : Bi mg) (wo : Can P w K mg base 45 "without" ["figures", "one", "other"] spWithout)
    (ar : Can P w K mg base 44 "area" ["figures", "picture"] (spNum fun n S => (bc n S : Int))) (ed : Can P w K mg base 84 "edge" ["figures", "picture"] (spNum fun n S => 4 * (bc n S : Int) - 2 * (pw n S : Int))) (rg : Can P w K mg base 84 "regions" ["figures", "picture"] spRegions) : Can P w K mg base 85 "_law_great_right" ["_law_size"] spGreat := by
  refine a.can scGreat (fun vs H Q E h => ?_) (fun _ _ _ _ _ _ us hl => match us, hl with | [_], _ => rfl) (fun f cdv A outer s H vs Q E hr h => ?_)
  · obtain ⟨n, rfl, _⟩ := h
    rfl
  · obtain ⟨n, rfl, h2, h40, q⟩ := h
    have hr44 : Room 44 _ := hr.mono (by decide)
    have hr45 : Room 45 _ := hr.mono (by decide)
    refine ⟨_, pss_cons (ps_set (i := 1) scGreat.nd rfl (Or.inl rfl) (pe_op op_shl pe_int (pv 0)))
      (pss_cons (ps_set (i := 2) scGreat.nd rfl (Or.inl rfl) (pe_tup (pa_cons pe_int (pa_cons pe_int (pa_cons pe_int (pa_cons pe_int pa_nil))))))
      (pss_cons (ps_for PassesOwn.never rfl (pi_range1 (by rfl) T.range (pa_cons (pe_op op_sub (pv 0) pe_int) pa_nil)) (pg_name (i := 3) scGreat.nd rfl (Or.inl rfl))
        (pss_one (ps_set (i := 2) scGreat.nd rfl (Or.inl rfl) (pe_tup (pa_cons (pv 2) (pa_cons pe_int (pa_cons pe_int (pa_cons pe_int pa_nil))))))))
      (pss_cons (ps_set (i := 4) scGreat.nd rfl (Or.inl rfl) (pe_can wo hr45 (pa_cons (pv 0) (pa_cons pe_int (pa_cons (pv 2) pa_nil)))))
      (pss_cons (ps_set (i := 5) scGreat.nd rfl (Or.inl rfl) (pe_tup (pa_cons (pe_can ar hr44 (pa_cons (pv 0) (pa_cons (pv 4) pa_nil))) (pa_cons (pe_can ed hr (pa_cons (pv 0) (pa_cons (pv 4) pa_nil))) (pa_cons (pe_can rg hr (pa_cons (pv 0) (pa_cons (pv 4) pa_nil))) pa_nil)))))
      (pss_cons (ps_if (pt_cmpR (op_neM hr.units) (pv 5) (pe_tup (pa_cons (pe_op op_sub (pe_op op_mul (pv 1) (pv 1)) pe_int) (pa_cons (pe_op op_mul pe_int (pv 1)) (pa_cons pe_int pa_nil)))) (nomark _)) (pss_one (ps_ret (pe_bl (b := false)))) pss_nil)
      (pss_cons (ps_set (i := 6) scGreat.nd rfl (Or.inl rfl) (pe_tup (pa_cons pe_int (pa_cons pe_int (pa_cons pe_int (pa_cons pe_int pa_nil))))))
      (pss_cons (ps_set (i := 5) scGreat.nd rfl (Or.inl rfl) (pe_tup (pa_cons (pe_can ar hr44 (pa_cons (pv 0) (pa_cons (pv 6) pa_nil))) (pa_cons (pe_can ed hr (pa_cons (pv 0) (pa_cons (pv 6) pa_nil))) (pa_cons (pe_can rg hr (pa_cons (pv 0) (pa_cons (pv 6) pa_nil))) pa_nil)))))
      (pss_cons (ps_if (pt_cmpR (op_neM hr.units) (pv 5) (pe_tup (pa_cons (pe_op op_fdiv (pe_op op_mul (pv 1) (pv 1)) pe_int) (pa_cons (pe_op op_mul pe_int (pv 1)) (pa_cons pe_int pa_nil)))) (nomark _)) (pss_one (ps_ret (pe_bl (b := false)))) pss_nil)
      (pss_cons (ps_if (pt_cmpR (op_neM hr.units) (pe_tup (pa_cons (pe_can ar hr44 (pa_cons (pv 0) (pa_cons pe_int pa_nil))) (pa_cons (pe_can ed hr (pa_cons (pv 0) (pa_cons pe_int pa_nil))) (pa_cons (pe_can rg hr (pa_cons (pv 0) (pa_cons pe_int pa_nil))) pa_nil)))) (pe_tup (pa_cons (pe_op op_mul (pv 1) (pv 1)) (pa_cons (pe_op op_mul pe_int (pv 1)) (pa_cons pe_int pa_nil)))) (nomark _)) (pss_one (ps_ret (pe_bl (b := false)))) pss_nil)
      (pss_one (ps_ret (pe_cmpR op_eq (pe_can rg hr (pa_cons (pv 0) (pa_cons pe_int pa_nil))) pe_int (nomark _))))))))))))), ?_⟩
    have G := great_of h2 h40
    have p40 := pow40' h40
    have p0 := two_pos n
    have e2 : (1 : Int) * 2 ^ (n : Int).toNat = 2 ^ n := by rw [Int.toNat_natCast, Int.one_mul]
    have tc := two_cast n
    refine ⟨_, rfl, _, _, rfl, rfl, ⟨by omega, by omega, by decide⟩, by show 4 ≤ sizeLine; decide, fun C0 hC0 => ?_⟩
    have s1 := same_new hC0 (.tup [V.int 1, V.int 0, V.int 0, V.int 0])
    have hc1 : PicAt (upd H C0 (.tup [V.int 1, V.int 0, V.int 0, V.int 0])) (.ref C0) (cor 1) := ⟨C0, _, _, _, _, rfl, upd_same, rfl, rfl, rfl, rfl⟩
    refine ⟨_, rfl, _, _, rfl, rfl, (n : Int) - 1, rfl, by omega, by omega, ?_⟩
    rw [show ((n : Int) - 1).toNat = n - 1 by omega]
    refine for_it walk_range (fun i σ H5 => ∃ (x3 : Option V) (v : V), σ = [some (.int (n : Int)), some (.int (2 ^ n)), some v, x3, none, none, none] ∧ Same H H5 ∧ PicAt H5 v (cor (i + 1)))
      ⟨none, _, congrArg (fun z : V => [some (V.int (n : Int)), some z, some (V.ref C0), none, none, none, none]) (congrArg V.int e2), s1, hc1⟩ (fun _ _ _ _ _ => trivial) ?_ ?_
    · rintro i x σ H5 H5' hi ⟨x3, v, rfl, s5, hP⟩ ⟨rfl, ex⟩
      refine ⟨_, rfl, by show 4 ≤ sizeLine; decide, fun C1 hC1 => ?_⟩
      have s6 := same_new hC1 (.tup [v, V.int 0, V.int 0, V.int 0])
      exact ⟨_, _, rfl, s5.trans s6, C1, _, _, _, _, rfl, upd_same, hP.mono (Same.tk s6), rfl, rfl, rfl⟩
    rintro σ H5 ⟨x3, v, rfl, s5, hP⟩
    rw [show n - 1 + 1 = n by omega] at hP
    refine ⟨_, rfl, _, rfl, n, .int 1, .leaf true, v, cor n, rfl, rfl, hP, G.w1, G.c1, G.c2, G.f1.2.2, fun v4 H6 s6 g4 => ?_⟩
    -- a square's numbers
    have sqn : (2 : Int) ^ n * 2 ^ n - 1 = ((2 ^ n * 2 ^ n - 1 : Nat) : Int) := by
      have := Nat.mul_pos (pow1' n) (pow1' n)
      rw [Int.natCast_sub this, Int.natCast_mul, tc]
      rfl
    have four : (4 : Int) * 2 ^ n = ((4 * 2 ^ n : Nat) : Int) := by rw [Int.natCast_mul, tc]; rfl
    have halfn : (2 : Int) ^ n * 2 ^ n / 2 = ((2 ^ n * 2 ^ n / 2 : Nat) : Int) := by rw [Int.natCast_ediv, Int.natCast_mul, tc]; rfl
    have full : (2 : Int) ^ n * 2 ^ n = ((2 ^ n * 2 ^ n : Nat) : Int) := by rw [Int.natCast_mul, tc]
    have cm : CMul ((2 : Int) ^ n) (2 ^ n) := .inl ⟨by omega, by omega⟩
    -- the frame
    refine ⟨_, rfl, _, rfl, n, v4, frame n, rfl, g4, G.f1, fun H7 t1 => ⟨_, rfl, _, rfl, n, v4, frame n, rfl, g4.mono (Same.tk t1), G.f1, fun H8 t2 => ⟨_, rfl, _, rfl, n, v4, frame n, rfl, g4.mono (Same.tk (t1.trans t2)), G.f1, fun c9 H9 t3 hc9 => ⟨by show 3 ≤ sizeLine; decide, fun x9 n9 => ?_⟩⟩⟩⟩
    have s9 := s6.trans (t1.trans (t2.trans (t3.trans (same_new n9 (.tup [V.int (bc n (frame n) : Int), V.int (4 * (bc n (frame n) : Int) - 2 * (pw n (frame n) : Int)), V.int (c9 : Int)])))))
    have hx9 := three_at (x := x9) (H := H9) G.f2 hc9
    refine ⟨_, rfl, _, rfl, _, rfl, _, _, rfl, rfl, cm, _, _, rfl, rfl, _, rfl, _, _, rfl, rfl, .inl ⟨by decide, by decide⟩, by show 3 ≤ sizeLine; decide, fun y9 m9 => ?_⟩
    have sy := same_new m9 (.tup [V.int ((2 : Int) ^ n * 2 ^ n - 1), V.int ((4 : Int) * 2 ^ n), V.int 1])
    refine ne3 (sy _ _ hx9) (by rw [upd_same]; show some (HO.tup [V.int ((2 : Int) ^ n * 2 ^ n - 1), V.int ((4 : Int) * 2 ^ n), V.int 1]) = _; rw [sqn, four]; rfl) ⟨false, rfl, iteF ?_⟩
    -- the board
    refine ⟨by show 4 ≤ sizeLine; decide, fun Bd hBd => ?_⟩
    have sB := same_new hBd (.tup [V.int 0, V.int 1, V.int 1, V.int 0])
    have s10 := s5.trans (s9.trans (sy.trans sB))
    have gB : ∀ H' : Hp, PicAt (upd H' Bd (.tup [V.int 0, V.int 1, V.int 1, V.int 0])) (.ref Bd) brd := fun H' => ⟨Bd, _, _, _, _, rfl, upd_same, rfl, rfl, rfl, rfl⟩
    refine ⟨_, rfl, _, rfl, n, .ref Bd, brd, rfl, gB _, G.b1, fun H7 u1 => ⟨_, rfl, _, rfl, n, .ref Bd, brd, rfl, (gB _).mono (Same.tk u1), G.b1, fun H8 u2 => ⟨_, rfl, _, rfl, n, .ref Bd, brd, rfl, (gB _).mono (Same.tk (u1.trans u2)), G.b1, fun c11 H11 u3 hc11 => ⟨by show 3 ≤ sizeLine; decide, fun x11 n11 => ?_⟩⟩⟩⟩
    have s11 := u1.trans (u2.trans (u3.trans (same_new n11 (.tup [V.int (bc n brd : Int), V.int (4 * (bc n brd : Int) - 2 * (pw n brd : Int)), V.int (c11 : Int)]))))
    have hx11 := three_at (x := x11) (H := H11) G.b2 hc11
    refine ⟨_, rfl, _, rfl, _, rfl, _, _, rfl, rfl, cm, _, _, rfl, rfl, ⟨by decide, by decide⟩, _, rfl, _, _, rfl, rfl, .inl ⟨by decide, by decide⟩, by show 3 ≤ sizeLine; decide, fun y11 m11 => ?_⟩
    have sy2 := same_new m11 (.tup [V.int ((2 : Int) ^ n * 2 ^ n / 2), V.int ((4 : Int) * 2 ^ n), V.int 2])
    refine ne3 (sy2 _ _ hx11) (by rw [upd_same]; show some (HO.tup [V.int ((2 : Int) ^ n * 2 ^ n / 2), V.int ((4 : Int) * 2 ^ n), V.int 2]) = _; rw [halfn, four]; rfl) ⟨false, rfl, iteF ?_⟩
    have s12 := s10.trans (s11.trans sy2)
    -- the whole square
    have gW : ∀ H', PicAt H' (.int 1) (.leaf true) := fun _ => rfl
    refine ⟨_, rfl, n, .int 1, .leaf true, rfl, gW _, G.w1, fun H7 w1 => ⟨_, rfl, n, .int 1, .leaf true, rfl, gW _, G.w1, fun H8 w2 => ⟨_, rfl, n, .int 1, .leaf true, rfl, gW _, G.w1, fun c13 H13 w3 hc13 => ⟨by show 3 ≤ sizeLine; decide, fun x13 n13 => ?_⟩⟩⟩⟩
    have s13 := w1.trans (w2.trans (w3.trans (same_new n13 (.tup [V.int (bc n (.leaf true) : Int), V.int (4 * (bc n (.leaf true) : Int) - 2 * (pw n (.leaf true) : Int)), V.int (c13 : Int)]))))
    have hx13 := three_at (x := x13) (H := H13) G.w2 hc13
    refine ⟨_, rfl, _, rfl, _, _, rfl, rfl, cm, _, rfl, _, _, rfl, rfl, .inl ⟨by decide, by decide⟩, by show 3 ≤ sizeLine; decide, fun y13 m13 => ?_⟩
    have sy3 := same_new m13 (.tup [V.int ((2 : Int) ^ n * 2 ^ n), V.int ((4 : Int) * 2 ^ n), V.int 1])
    refine ne3 (sy3 _ _ hx13) (by rw [upd_same]; show some (HO.tup [V.int ((2 : Int) ^ n * 2 ^ n), V.int ((4 : Int) * 2 ^ n), V.int 1]) = _; rw [full, four]; rfl) ⟨false, rfl, iteF ?_⟩
    -- the white square
    have aW : Asked n (.leaf false) := ⟨by cases n <;> simp [wf], h40, by decide⟩
    refine ⟨_, rfl, n, .int 0, .leaf false, rfl, rfl, aW, fun c14 H14 s14 hc14 => ⟨rfl, ?_⟩⟩
    have ec : c14 = 0 := by
      have e : wit n (nam (.leaf false) 0) = [] := by cases n <;> rfl
      rw [e] at hc14
      exact none_cls hc14
    subst ec
    exact q _ (s12.trans (s13.trans (sy3.trans s14)))
end
end Pl

namespace Pl
open PySem PySem.Spec PyProof.Rows L2
/-! ## black_at of whole numbers -/
def castP (p : Nat × Nat) : Pt := ((p.1 : Int), (p.2 : Int))
def quN (n : Nat) (ps : List (Nat × Nat)) (i : Nat) : List (Nat × Nat) := (ps.filter fun p => decide (p.1 / 2 ^ n + 2 * (p.2 / 2 ^ n) = i)).map fun p => (p.1 % 2 ^ n, p.2 % 2 ^ n)
def bN : Nat → List (Nat × Nat) → Pic
  | 0, ps => .leaf (!ps.isEmpty)
  | n + 1, ps => if ps = [] ∨ ps.length = 2 ^ (2 * (n + 1)) then .leaf (!ps.isEmpty) else mk4 (bN n (quN n ps 0)) (bN n (quN n ps 1)) (bN n (quN n ps 2)) (bN n (quN n ps 3))
def inN (n : Nat) (p : Nat × Nat) : Bool := decide (p.1 < 2 ^ n) && decide (p.2 < 2 ^ n)
def okN : Nat → List (Nat × Nat) → Bool
  | 0, ps => decide (ps.length ≤ 1)
  | n + 1, ps => (ps.isEmpty || decide (ps.length = 2 ^ (2 * (n + 1)))) || (ps.all (inN (n + 1)) && (okN n (quN n ps 0) && (okN n (quN n ps 1) && (okN n (quN n ps 2) && okN n (quN n ps 3)))))
theorem pow_cast (n : Nat) : (2 : Int) ^ n = ((2 ^ n : Nat) : Int) := (two_cast n).symm
theorem qu_cast (n : Nat) (ps : List (Nat × Nat)) (i : Nat) : qu n (ps.map castP) i = (quN n ps i).map castP := by
  rw [qu, quN, List.filter_map, List.map_map, List.map_map]
  have e : (fun p => decide (qi n p = (i : Int))) ∘ castP = fun p => decide (p.1 / 2 ^ n + 2 * (p.2 / 2 ^ n) = i) := by
    funext p
    simp only [Function.comp, qi, castP, pow_cast]
    rw [decide_eq_decide]
    rw [← Int.natCast_ediv, ← Int.natCast_ediv]
    omega
  rw [e]
  refine List.map_congr_left fun p _ => ?_
  simp only [Function.comp, qm, castP, pow_cast]
  rw [← Int.natCast_emod, ← Int.natCast_emod]
theorem bAt_cast : ∀ (n : Nat) (ps : List (Nat × Nat)), bAt n (ps.map castP) = bN n ps
  | 0, ps => by simp only [bAt, bN]; cases ps <;> rfl
  | n + 1, ps => by
    simp only [bAt, bN, qu_cast, bAt_cast n, List.length_map, List.map_eq_nil_iff]
    cases ps <;> rfl
theorem inq_cast (n : Nat) (p : Nat × Nat) : inq n (castP p) = inN n p := by
  have h1 : ∀ a : Nat, decide (0 ≤ (a : Int)) = true := fun a => decide_eq_true (by omega)
  have h2 : ∀ a : Nat, decide ((a : Int) < 2 ^ n) = decide (a < 2 ^ n) := fun a => by
    rw [decide_eq_decide, pow_cast]
    exact Int.ofNat_lt
  show (decide (0 ≤ (p.1 : Int)) && (decide ((p.1 : Int) < 2 ^ n) && (decide (0 ≤ (p.2 : Int)) && decide ((p.2 : Int) < 2 ^ n)))) = (decide (p.1 < 2 ^ n) && decide (p.2 < 2 ^ n))
  rw [h1, h1, h2, h2, Bool.true_and, Bool.true_and]
theorem okAt_cast : ∀ (n : Nat) (ps : List (Nat × Nat)), okAt n (ps.map castP) = okN n ps
  | 0, ps => by simp only [okAt, okN, List.length_map]
  | n + 1, ps => by
    have e : (ps.map castP).all (inq (n + 1)) = ps.all (inN (n + 1)) := by
      rw [List.all_map]
      congr 1
      funext p
      exact inq_cast _ _
    simp only [okAt, okN, qu_cast, okAt_cast n, List.length_map, e]
    cases ps <;> rfl
theorem downs_one {m : Nat} {E : List (Nat × Nat)} (hm : 1 ≤ m) (hE : ∀ e ∈ E, e.1 < m ∧ e.2 < m) (h : ((List.range m).all fun i => decide (i = 0) || E.any fun e => (decide (e.1 = i) && decide (e.2 < i)) || (decide (e.2 = i) && decide (e.1 < i))) = true) {c : Nat} (hc : NCl m E c) : c = 1 := by
  have key : ∀ i, i < m → Eqv (ER E) i 0 := by
    intro i
    induction i using Nat.strongRecOn with
    | ind i ih =>
      intro hi
      have := List.all_eq_true.mp h i (List.mem_range.mpr hi)
      rw [Bool.or_eq_true] at this
      rcases this with z | z
      · rw [of_decide_eq_true z]; exact .refl _
      · obtain ⟨e, he, he2⟩ := List.any_eq_true.mp z
        have hl := hE e he
        simp only [Bool.or_eq_true, Bool.and_eq_true, decide_eq_true_eq] at he2
        rcases he2 with ⟨e1, e2⟩ | ⟨e1, e2⟩
        · subst e1
          exact .trans (.rel (show (e.1, e.2) ∈ E from he)) (ih e.2 e2 hl.2)
        · subst e1
          exact .trans (.symm (.rel (show (e.1, e.2) ∈ E from he))) (ih e.1 e2 hl.1)
  exact hc.eq ⟨[0], rfl, fun r hr => by rw [List.mem_singleton.mp hr]; show 0 < m; omega, by simp, fun i hi => ⟨0, List.mem_singleton.mpr rfl, key i hi⟩⟩
/-! ## The stairs, the line, both -/
def W0 : Pic := .leaf false
def B0 : Pic := .leaf true
def grow (t : Pic) : Nat → Pic
  | 0 => t
  | k + 1 => .node (grow t k) (grow t k) W0 W0
/-- 400 wide in a square 512 wide -/
def wide (t : Pic) : Pic := .node (grow t 7) (.node (grow t 6) (.node (.node (.node (grow t 3) W0 W0 W0) W0 W0 W0) W0 W0 W0) W0 W0) W0 W0
def S1 : Pic := wide (.node B0 W0 W0 B0)
def L1 : Pic := wide (.node B0 B0 W0 W0)
def U1 : Pic := wide (.node B0 B0 W0 B0)
def stairsN : List (Nat × Nat) := (List.range 400).map fun k => (k, k % 2)
def lineN : List (Nat × Nat) := (List.range 400).map fun k => (k, 0)
theorem stairs_eq : bN 9 stairsN = S1 := by decide +kernel
theorem line_eq : bN 9 lineN = L1 := by decide +kernel
theorem union_eq : opp (met (opp S1) (opp L1)) = U1 := by decide +kernel
theorem stairs_ok : okN 9 stairsN = true := by decide +kernel
theorem line_ok : okN 9 lineN = true := by decide +kernel
theorem s1_wf : wf 9 S1 = true := by decide +kernel
theorem l1_wf : wf 9 L1 = true := by decide +kernel
theorem u1_wf : wf 9 U1 = true := by decide +kernel
theorem s1_cnt : cnt S1 ≤ 4000 := by decide +kernel
theorem l1_cnt : cnt L1 ≤ 4000 := by decide +kernel
theorem u1_cnt : cnt U1 ≤ 4000 := by decide +kernel
theorem s1_bc : bc 9 S1 = 400 ∧ 1600 + 2 * pw 9 S1 = 4 * bc 9 S1 := by decide +kernel
theorem u1_bc : bc 9 U1 = 600 ∧ 1202 + 2 * pw 9 U1 = 4 * bc 9 U1 := by decide +kernel
theorem s1_wit : wit 9 (nam S1 0) = [] ∧ blk S1 = 400 := by decide +kernel
theorem u1_blk : blk U1 = 600 := by decide +kernel
theorem u1_wit : ((List.range 600).all fun i => decide (i = 0) || (wit 9 (nam U1 0)).any fun e => (decide (e.1 = i) && decide (e.2 < i)) || (decide (e.2 = i) && decide (e.1 < i))) = true := by decide +kernel
theorem s1_due : Due 9 S1 400 1600 400 := ⟨s1_bc.1, s1_bc.2, fun c' hc => by rw [s1_wit.1, s1_wit.2] at hc; exact none_cls hc⟩
theorem u1_due : Due 9 U1 600 1202 1 := ⟨u1_bc.1, u1_bc.2, fun c' hc => by
  have hl := wit_lt (m := blk U1) (n := 9) (A := nam U1 0) (nlt_nam (by omega))
  rw [u1_blk] at hc hl
  exact downs_one (by decide) hl u1_wit hc⟩
end Pl

namespace Pl
open PySem PySem.Spec PyProof.Rows L2
abbrev sLaw : Stmt := top 59
/-! ## The lists of the law's end -/
def stairs : List Pt := stairsN.map castP
def lineL : List Pt := lineN.map castP
theorem nd_of {f : Nat → Pt} (h : ∀ a, (f a).1 = (a : Int)) (m : Nat) : ((List.range m).map f).Nodup := by
  refine List.pairwise_map.mpr (List.Pairwise.imp (fun {a b} hne e => hne ?_) (List.nodup_range (n := m)))
  have := congrArg Prod.fst e
  rw [h, h] at this
  omega
theorem stairs_ix (f : Nat → Nat × Nat) (m : Nat) : ((List.range m).map f).map castP = (List.range m).map fun k => castP (f k) := by rw [List.map_map]; rfl
theorem in_of (ps : List (Nat × Nat)) (n : Nat) (h : ps.all (inN n) = true) : ∀ p ∈ ps.map castP, inq n p = true := by
  intro p hp
  obtain ⟨q, hq, rfl⟩ := List.mem_map.mp hp
  rw [inq_cast]
  exact List.all_eq_true.mp h q hq
theorem stairs_in : stairsN.all (inN 9) = true := by decide +kernel
theorem opp_dp : dp (opp S1) < 41 := by decide +kernel
theorem met_dp : dp (met (opp S1) (opp L1)) < 41 := by decide +kernel
theorem line_in : lineN.all (inN 9) = true := by decide +kernel
section
variable {P : Program} {w : World} {K : PySem.W.Frag} {mg : Str → Option Value} {base : Heap} {C : Addr}
abbrev nLaw : List Str := ["_law_script", "_law_cell", "_law_source_here", "_law_turn", "_law_stairs", "_law_sheet", "_law_line", "_law_whole", "_law_k"]
def spLaw (K : PySem.W.Frag) : Sp := fun vs H Q _ => ∃ (a : Addr) (ns : List Int), vs = [.ref a] ∧ SqL K H a (ns.map V.int) ∧ ns.length ≤ 63 ∧ ∀ H', Q (.bl true) H'
theorem scLaw : FnScope nLaw ["_law_script"] (defScope sLaw) := ⟨rfl, rfl, rfl, by decide +kernel, rfl, by decide +kernel, by decide +kernel⟩
theorem ok_law (a : At K mg "law" sLaw) (T : Bi mg) (sc : Can P w K mg base 1 "_law_source" ["_law_cell"] spSource) (tk : Can P w K mg base 2 "_law_take" ["_law_source_here", "_law_bound"] spTake) (ri : Can P w K mg base 85 "_law_right" ["_law_source_here"] spRight) (gr : Can P w K mg base 85 "_law_great_right" ["_law_size"] spGreat)
    (pt : Can P w K mg base 43 "painted" ["figures", "places"] spPainted) (ei : Can P w K mg base 45 "either" ["figures", "one", "other"] spEither)
    (ar : Can P w K mg base 44 "area" ["figures", "picture"] (spNum fun n S => (bc n S : Int))) (ed : Can P w K mg base 84 "edge" ["figures", "picture"] (spNum fun n S => 4 * (bc n S : Int) - 2 * (pw n S : Int))) (rg : Can P w K mg base 84 "regions" ["figures", "picture"] spRegions) : Can P w K mg base 86 "law" ["_law_script"] (spLaw K) := by
  refine a.can scLaw (fun vs H Q E h => ?_) (fun _ _ _ _ _ _ us hl => match us, hl with | [_], _ => rfl) (fun f cdv A outer s H vs Q E hr h => ?_)
  · obtain ⟨a, ns, rfl, _⟩ := h
    rfl
  · obtain ⟨sa, ns, rfl, hsq, hns, q⟩ := h
    have hr1 : Room 1 _ := hr.mono (by decide)
    have hr2 : Room 2 _ := hr.mono (by decide)
    have hr43 : Room 43 _ := hr.mono (by decide)
    have hr44 : Room 44 _ := hr.mono (by decide)
    have hr45 : Room 45 _ := hr.mono (by decide)
    have hr84 : Room 84 _ := hr.mono (by decide)
    refine ⟨_, pss_cons (ps_for PassesOwn.never rfl (pi_list (pe_op op_cat (pe_slice sl_list (pv 0) po_none (po_some pe_int)) (pe_lst (pa_cons pe_int pa_nil)))) (pg_name (i := 1) scLaw.nd rfl (Or.inl rfl))
        (pss_cons (ps_set (i := 2) scLaw.nd rfl (Or.inl rfl) (pe_can sc hr1 (pa_cons (pv 1) pa_nil)))
        (pss_cons (ps_for PassesOwn.never rfl (pi_range1 (by rfl) T.range (pa_cons pe_int pa_nil)) (pg_name (i := 3) scLaw.nd rfl (Or.inl rfl))
          (pss_one (ps_if (pt_not (pt_val (pe_can ri hr (pa_cons (pv 2) pa_nil)))) (pss_one (ps_ret (pe_bl (b := false)))) pss_nil)))
        (pss_one (ps_if (pt_not (pt_val (pe_can gr hr (pa_cons (pe_op op_add pe_int (pe_can tk hr2 (pa_cons (pv 2) (pa_cons pe_int pa_nil)))) pa_nil)))) (pss_one (ps_ret (pe_bl (b := false)))) pss_nil)))))
      (pss_cons (ps_setLc (i := 4) (own := [("_law_k", 8)]) (g := gName 8) (tt := tYes) rfl scLaw.nd rfl rfl (sw_true rfl rfl rfl (by decide +kernel)) (pi_range1 (by rfl) T.range (pa_cons pe_int pa_nil))
          (blkOk_by (own := [("_law_k", 8)]) (N := nLaw) (sc := defScope sLaw) (by decide +kernel)) (fun _ _ _ _ _ => pg_name (i := 8) scLaw.nd rfl (Or.inl rfl)) (fun _ _ _ _ _ => pts_nil)
          (fun _ _ _ _ _ => pe_tup (pa_cons (pv 8) (pa_cons (pe_op op_mod (pe_callTy call_int1 (by rfl) T.int (by decide +kernel) (pa_cons (pv 8) pa_nil)) pe_int) pa_nil))))
      (pss_cons (ps_set (i := 5) scLaw.nd rfl (Or.inl rfl) (pe_can pt hr43 (pa_cons pe_int (pa_cons (pv 4) pa_nil))))
      (pss_cons (ps_if (pt_cmpR (op_neM hr.units) (pe_tup (pa_cons (pe_can ar hr44 (pa_cons pe_int (pa_cons (pv 5) pa_nil))) (pa_cons (pe_can ed hr84 (pa_cons pe_int (pa_cons (pv 5) pa_nil))) (pa_cons (pe_can rg hr84 (pa_cons pe_int (pa_cons (pv 5) pa_nil))) pa_nil)))) (pe_tup (pa_cons pe_int (pa_cons pe_int (pa_cons pe_int pa_nil)))) (nomark _)) (pss_one (ps_ret (pe_bl (b := false)))) pss_nil)
      (pss_cons (ps_set (i := 6) scLaw.nd rfl (Or.inl rfl) (pe_can pt hr43 (pa_cons pe_int (pa_cons (pe_lc (own := [("_law_k", 8)]) (g := gName 8) (tt := tYes) rfl scLaw.nd (pi_range1 (by rfl) T.range (pa_cons pe_int pa_nil))
          (blkOk_by (own := [("_law_k", 8)]) (N := nLaw) (sc := defScope sLaw) (by decide +kernel)) (fun _ _ _ _ _ => pg_name (i := 8) scLaw.nd rfl (Or.inl rfl)) (fun _ _ _ _ _ => pts_nil)
          (fun _ _ _ _ _ => pe_tup (pa_cons (pv 8) (pa_cons pe_int pa_nil)))) pa_nil))))
      (pss_cons (ps_set (i := 7) scLaw.nd rfl (Or.inl rfl) (pe_can ei hr45 (pa_cons pe_int (pa_cons (pv 5) (pa_cons (pv 6) pa_nil)))))
      (pss_one (ps_ret (pe_cmpR (op_eqM hr.units) (pe_tup (pa_cons (pe_can ar hr44 (pa_cons pe_int (pa_cons (pv 7) pa_nil))) (pa_cons (pe_can rg hr84 (pa_cons pe_int (pa_cons (pv 7) pa_nil))) (pa_cons (pe_can ed hr84 (pa_cons pe_int (pa_cons (pv 7) pa_nil))) pa_nil)))) (pe_tup (pa_cons pe_int (pa_cons pe_int (pa_cons pe_int pa_nil)))) (nomark _))))))))), ?_⟩
    have allI : ∀ x ∈ cutV (ns.map V.int) none (some 4) ++ [V.int 0], ∃ i : Int, x = .int i := by
      intro x hx
      rcases List.mem_append.mp hx with hx | hx
      · have h1 := List.mem_of_mem_drop (List.mem_of_mem_take hx)
        obtain ⟨i, _, rfl⟩ := List.mem_map.mp h1
        exact ⟨i, rfl⟩
      · exact ⟨0, List.mem_singleton.mp hx⟩
    have hcl : (cutV (ns.map V.int) none (some 4)).length ≤ 63 := by
      have := cutV_length (ns.map V.int) none (some 4)
      rw [List.length_map] at this
      omega
    refine ⟨_, rfl, 4, rfl, sa, ns.map V.int, rfl, hsq, fun L1a hL1 => ⟨by show 1 ≤ sizeLine; decide, fun L2a hL2 => ?_⟩⟩
    have z1 := same_new hL1 (.lst (cutV (ns.map V.int) none (some 4)))
    have z2 := same_new hL2 (.lst [V.int 0])
    refine ⟨L1a, L2a, _, _, rfl, rfl, z2 _ _ upd_same, upd_same, by rw [sizeLine_eq, List.length_singleton]; omega, fun L hL => ?_⟩
    have hLL : upd (upd (upd H L1a (.lst (cutV (ns.map V.int) none (some 4)))) L2a (.lst [V.int 0])) L (.lst (cutV (ns.map V.int) none (some 4) ++ [V.int 0])) L = some (.lst (cutV (ns.map V.int) none (some 4) ++ [V.int 0])) := upd_same
    generalize cutV (ns.map V.int) none (some 4) ++ [V.int 0] = cells at allI hLL
    obtain ⟨HL, eHL⟩ : ∃ HL, upd (upd (upd H L1a (.lst (cutV (ns.map V.int) none (some 4)))) L2a (.lst [V.int 0])) L (.lst cells) = HL := ⟨_, rfl⟩
    rw [eHL] at hLL
    show ∃ a_1, _
    refine ⟨L, rfl, ⟨_, SqL.of (by rw [eHL]; exact hLL)⟩, ?_⟩
    rw [eHL]
    refine for_it (walk_list (K := K) (a := L) (xs := cells)) (fun i σ H5 => ∃ x1 x2 x3 : Option V, σ = [some (.ref sa), x1, x2, x3, none, none, none, none, none] ∧ Same HL H5)
      ⟨none, none, none, rfl, Same.refl _⟩ (fun i σ H5 _ ⟨_, _, _, _, s5⟩ => SqL.of (s5 _ _ hLL)) ?_ ?_
    · rintro i x σ H5 H5' hi ⟨x1, x2, x3, rfl, s5⟩ ⟨rfl, ex⟩
      obtain ⟨cz, rfl⟩ := allI x (List.mem_of_getElem? ex)
      refine ⟨_, rfl, cz, rfl, fun sr H6 s6 hs0 hsrc => ?_⟩
      have hsr := Same.back s5 hs0
      have s56 := s5.trans s6
      refine ⟨5, rfl, by decide, by decide, for_it walk_range (fun j σ H7 => ∃ x3 : Option V, σ = [some (.ref sa), some (.int cz), some (.ref sr), x3, none, none, none, none, none] ∧ SameB sr H6 H7 ∧ SrcAt H7 sr)
        ⟨x3, rfl, SameB.refl _ _, hsrc⟩ (fun _ _ _ _ _ => trivial) ?_ ?_⟩
      · rintro j y σ H7 H7' hj ⟨x3, rfl, s7, hs7⟩ ⟨rfl, ey⟩
        refine ⟨_, rfl, sr, rfl, hs7, fun H8 s8 hs8 => ⟨true, rfl, iteF ⟨_, rfl, s7.trans s8, hs8⟩⟩⟩
      · rintro σ H7 ⟨x3, rfl, s7, hs7⟩
        refine ⟨_, rfl, sr, 39, rfl, hs7, by decide, by decide, fun r H8 r0 r1 s8 hs8 => ⟨_, _, rfl, rfl, (2 + r).toNat, congrArg (fun z : Int => [V.int z]) (show 2 + r = (((2 + r).toNat : Nat) : Int) by omega), by omega, by omega, fun H9 s9 => ⟨true, rfl, iteF ⟨_, _, _, rfl, fun b o e => ?_⟩⟩⟩⟩
        exact s9 _ _ (s8 _ _ (ne_of_none e hsr) (s7 _ _ (ne_of_none e hsr) (s56 _ _ e)))
    rintro σ H5 ⟨x1, x2, x3, rfl, s5⟩
    -- the stairs
    have eS : bAt 9 stairs = S1 := (bAt_cast 9 stairsN).trans stairs_eq
    have eL : bAt 9 lineL = L1 := (bAt_cast 9 lineN).trans line_eq
    have ask1 : Asked 9 S1 := ⟨s1_wf, by decide, s1_cnt⟩
    have askL : Asked 9 L1 := ⟨l1_wf, by decide, l1_cnt⟩
    have askU : Asked 9 U1 := ⟨u1_wf, by decide, u1_cnt⟩
    refine ⟨400, rfl, by decide, by decide, fun D hD => lc_rng1 (n := 400) (fun j y H => PtAt H y ((j : Int), (j : Int) % 2)) (fun _ _ _ _ k h => h.mono k) hD (by decide) (fun j H6 k hj s6 hk => ?_) (fun H6 ys s6 hDl hl hys => ?_)⟩
    · have ej : (0 : Int) + (j : Int) = (j : Int) := Int.zero_add _
      refine ⟨_, rfl, _, rfl, .inl ⟨_, rfl, _, _, rfl, rfl, (by show (0 : Int) < _; decide), by show 2 ≤ sizeLine; decide, fun T0 hT0 => ?_⟩⟩
      refine hk _ _ (same_new hT0 _) ⟨T0, rfl, ?_⟩
      rw [upd_same]
      show some (HO.tup [V.int (0 + (j : Int)), V.int ((0 + (j : Int)) % 2)]) = _
      rw [ej]
      rfl
    have hst : LPts H6 D stairs := ⟨ys, hDl, PtsAt.of_idx (by rw [hl, stairs, stairsN, List.length_map, List.length_map, List.length_range]) fun j y ey p ep => by
      have h1 := hys j y ey
      rw [stairs, stairsN, stairs_ix, List.getElem?_map] at ep
      obtain ⟨m, em, rfl⟩ := Option.map_eq_some_iff.mp ep
      obtain ⟨hm1, hm2⟩ := List.getElem?_eq_some_iff.mp em
      rw [List.getElem_range] at hm2
      subst hm2
      exact h1⟩
    refine ⟨_, rfl, 9, D, stairs, rfl, hst, by rw [stairs, stairsN, stairs_ix]; exact nd_of (fun a => rfl) 400, in_of _ _ stairs_in, by rw [stairs, okAt_cast]; exact stairs_ok, by rw [stairs, stairsN, List.length_map, List.length_map, List.length_range]; decide, by decide, by rw [eS]; exact ask1.dp, by rw [eS]; exact s1_cnt, fun v1 H7 s7 g1 => ?_⟩
    rw [eS] at g1
    refine ⟨_, rfl, 9, v1, S1, rfl, g1, ask1, fun H8 t8 => ⟨_, rfl, 9, v1, S1, rfl, g1.mono (Same.tk t8), ask1, fun H9 t9 => ⟨_, rfl, 9, v1, S1, rfl, g1.mono (Same.tk (t8.trans t9)), ask1, fun c10 H10 t10 hc10 => ⟨by show 3 ≤ sizeLine; decide, fun x10 n10 => ⟨by show 3 ≤ sizeLine; decide, fun y10 m10 => ?_⟩⟩⟩⟩⟩
    have hx10 := three_at (x := x10) (H := H10) s1_due hc10
    have sy10 := same_new m10 (.tup [V.int 400, V.int 1600, V.int 400])
    refine ne3 (sy10 _ _ hx10) upd_same ⟨false, rfl, iteF ?_⟩
    have s10 := t8.trans (t9.trans (t10.trans ((same_new n10 (.tup [V.int (bc 9 S1 : Int), V.int (4 * (bc 9 S1 : Int) - 2 * (pw 9 S1 : Int)), V.int (c10 : Int)])).trans sy10)))
    have g1' := g1.mono (Same.tk s10)
    -- the line
    refine ⟨400, rfl, by decide, by decide, fun D2 hD2 => lc_rng1 (n := 400) (fun j y H => PtAt H y ((j : Int), 0)) (fun _ _ _ _ k h => h.mono k) hD2 (by decide) (fun j H11 k hj s11 hk => ?_) (fun H11 ys2 s11 hD2l hl2 hys2 => ?_)⟩
    · have ej : (0 : Int) + (j : Int) = (j : Int) := Int.zero_add _
      refine ⟨_, rfl, by show 2 ≤ sizeLine; decide, fun T0 hT0 => ?_⟩
      refine hk _ _ (same_new hT0 _) ⟨T0, rfl, ?_⟩
      rw [upd_same]
      show some (HO.tup [V.int (0 + (j : Int)), V.int 0]) = _
      rw [ej]
      rfl
    have hln : LPts H11 D2 lineL := ⟨ys2, hD2l, PtsAt.of_idx (by rw [hl2, lineL, lineN, List.length_map, List.length_map, List.length_range]) fun j y ey p ep => by
      have h1 := hys2 j y ey
      rw [lineL, lineN, stairs_ix, List.getElem?_map] at ep
      obtain ⟨m, em, rfl⟩ := Option.map_eq_some_iff.mp ep
      obtain ⟨hm1, hm2⟩ := List.getElem?_eq_some_iff.mp em
      rw [List.getElem_range] at hm2
      subst hm2
      exact h1⟩
    refine ⟨9, D2, lineL, rfl, hln, by rw [lineL, lineN, stairs_ix]; exact nd_of (fun a => rfl) 400, in_of _ _ line_in, by rw [lineL, okAt_cast]; exact line_ok, by rw [lineL, lineN, List.length_map, List.length_map, List.length_range]; decide, by decide, by rw [eL]; exact askL.dp, by rw [eL]; exact l1_cnt, fun v2 H12 s12 g2 => ?_⟩
    rw [eL] at g2
    have g1'' := g1'.mono (Same.tk (s11.trans s12))
    refine ⟨_, rfl, _, rfl, 9, v1, S1, v2, L1, rfl, g1'', g2, ask1, askL, opp_dp, met_dp, by rw [union_eq]; exact askU.dp, by rw [union_eq]; exact u1_cnt, fun v3 H13 s13 g3 => ?_⟩
    rw [union_eq] at g3
    refine ⟨_, rfl, 9, v3, U1, rfl, g3, askU, fun H14 t14 => ⟨_, rfl, 9, v3, U1, rfl, g3.mono (Same.tk t14), askU, fun c15 H15 t15 hc15 => ⟨_, rfl, 9, v3, U1, rfl, g3.mono (Same.tk (t14.trans t15)), askU, fun H16 t16 => ⟨by show 3 ≤ sizeLine; decide, fun x16 n16 => ⟨by show 3 ≤ sizeLine; decide, fun y16 m16 => ?_⟩⟩⟩⟩⟩
    have hx16 : upd H16 x16 (.tup [V.int (bc 9 U1 : Int), V.int (c15 : Int), V.int (4 * (bc 9 U1 : Int) - 2 * (pw 9 U1 : Int))]) x16 = some (.tup [.int 600, .int 1, .int 1202]) := by
      obtain ⟨d1, d2, d3⟩ := u1_due
      rw [upd_same, d3 c15 hc15]
      have e2 : 4 * (bc 9 U1 : Int) - 2 * (pw 9 U1 : Int) = 1202 := by omega
      rw [e2, d1]
      rfl
    have sy16 := same_new m16 (.tup [V.int 600, V.int 1, V.int 1202])
    exact eq3 (sy16 _ _ hx16) upd_same (q _)
end
end Pl

namespace Pl
open PySem PySem.Spec PyProof.Rows L2
def dd0 : He.DefD := ⟨("is_integer", none), "is_integer", "is_integer", defArgs (top 8), defBody (top 8), defScope (top 8), [], []⟩
def dd1 : He.DefD := ⟨("is_between", none), "is_between", "is_between", defArgs (top 9), defBody (top 9), defScope (top 9), [], []⟩
def dd2 : He.DefD := ⟨("require_number", none), "require_number", "require_number", defArgs (top 10), defBody (top 10), defScope (top 10), [], []⟩
def dd3 : He.DefD := ⟨("is_in_square", none), "is_in_square", "is_in_square", defArgs (top 12), defBody (top 12), defScope (top 12), [], []⟩
def dd4 : He.DefD := ⟨("is_place", none), "is_place", "is_place", defArgs (top 15), defBody (top 15), defScope (top 15), [], []⟩
def dd5 : He.DefD := ⟨("require_figures", none), "require_figures", "require_figures", defArgs (top 16), defBody (top 16), defScope (top 16), [], []⟩
def dd6 : He.DefD := ⟨("parts_in", none), "parts_in", "parts_in", defArgs (top 18), defBody (top 18), defScope (top 18), [], []⟩
def dd7 : He.DefD := ⟨("pairs_across", none), "pairs_across", "pairs_across", defArgs (top 19), defBody (top 19), defScope (top 19), [], []⟩
def dd8 : He.DefD := ⟨("pairs_within", none), "pairs_within", "pairs_within", defArgs (top 20), defBody (top 20), defScope (top 20), [], []⟩
def dd9 : He.DefD := ⟨("Regions", some "__init__"), "__init__", "Regions.__init__", defArgs (inClass (top 21) 0), defBody (inClass (top 21) 0), defScope (inClass (top 21) 0), [], []⟩
def dd10 : He.DefD := ⟨("Regions", some "named"), "named", "Regions.named", defArgs (inClass (top 21) 1), defBody (inClass (top 21) 1), defScope (inClass (top 21) 1), [], []⟩
def dd11 : He.DefD := ⟨("Regions", some "head"), "head", "Regions.head", defArgs (inClass (top 21) 2), defBody (inClass (top 21) 2), defScope (inClass (top 21) 2), [], []⟩
def dd12 : He.DefD := ⟨("Regions", some "join_across"), "join_across", "Regions.join_across", defArgs (inClass (top 21) 3), defBody (inClass (top 21) 3), defScope (inClass (top 21) 3), [], []⟩
def dd13 : He.DefD := ⟨("Regions", some "join_within"), "join_within", "Regions.join_within", defArgs (inClass (top 21) 4), defBody (inClass (top 21) 4), defScope (inClass (top 21) 4), [], []⟩
def dd14 : He.DefD := ⟨("is_plain", none), "is_plain", "is_plain", defArgs (top 25), defBody (top 25), defScope (top 25), [], []⟩
def dd15 : He.DefD := ⟨("Judge", some "__init__"), "__init__", "Judge.__init__", defArgs (inClass (top 26) 0), defBody (inClass (top 26) 0), defScope (inClass (top 26) 0), [], []⟩
def dd16 : He.DefD := ⟨("Judge", some "fault"), "fault", "Judge.fault", defArgs (inClass (top 26) 1), defBody (inClass (top 26) 1), defScope (inClass (top 26) 1), [], []⟩
def dd17 : He.DefD := ⟨("require_picture", none), "require_picture", "require_picture", defArgs (top 27), defBody (top 27), defScope (top 27), [], []⟩
def dd18 : He.DefD := ⟨("made", none), "made", "made", defArgs (top 28), defBody (top 28), defScope (top 28), [], []⟩
def dd19 : He.DefD := ⟨("node_count", none), "node_count", "node_count", defArgs (top 29), defBody (top 29), defScope (top 29), [], []⟩
def dd20 : He.DefD := ⟨("checked", none), "checked", "checked", defArgs (top 30), defBody (top 30), defScope (top 30), [], []⟩
def dd21 : He.DefD := ⟨("black_at", none), "black_at", "black_at", defArgs (top 31), defBody (top 31), defScope (top 31), [], []⟩
def dd22 : He.DefD := ⟨("painted", none), "painted", "painted", defArgs (top 32), defBody (top 32), defScope (top 32), [], []⟩
def dd23 : He.DefD := ⟨("opposed", none), "opposed", "opposed", defArgs (top 33), defBody (top 33), defScope (top 33), [], []⟩
def dd24 : He.DefD := ⟨("met", none), "met", "met", defArgs (top 34), defBody (top 34), defScope (top 34), [], []⟩
def dd25 : He.DefD := ⟨("require_two", none), "require_two", "require_two", defArgs (top 35), defBody (top 35), defScope (top 35), [], []⟩
def dd26 : He.DefD := ⟨("either", none), "either", "either", defArgs (top 36), defBody (top 36), defScope (top 36), [], []⟩
def dd27 : He.DefD := ⟨("without", none), "without", "without", defArgs (top 37), defBody (top 37), defScope (top 37), [], []⟩
def dd28 : He.DefD := ⟨("placed_anew", none), "placed_anew", "placed_anew", defArgs (top 38), defBody (top 38), defScope (top 38), [], []⟩
def dd29 : He.DefD := ⟨("turned_left", none), "turned_left", "turned_left", defArgs (top 39), defBody (top 39), defScope (top 39), [], []⟩
def dd30 : He.DefD := ⟨("mirrored", none), "mirrored", "mirrored", defArgs (top 40), defBody (top 40), defScope (top 40), [], []⟩
def dd31 : He.DefD := ⟨("black_count", none), "black_count", "black_count", defArgs (top 41), defBody (top 41), defScope (top 41), [], []⟩
def dd32 : He.DefD := ⟨("area", none), "area", "area", defArgs (top 42), defBody (top 42), defScope (top 42), [], []⟩
def dd33 : He.DefD := ⟨("edge", none), "edge", "edge", defArgs (top 43), defBody (top 43), defScope (top 43), [], []⟩
def dd34 : He.DefD := ⟨("regions", none), "regions", "regions", defArgs (top 44), defBody (top 44), defScope (top 44), [], []⟩
def dd35 : He.DefD := ⟨("sorts_in", none), "sorts_in", "sorts_in", defArgs (top 45), defBody (top 45), defScope (top 45), [], []⟩
def dd36 : He.DefD := ⟨("cells_of", none), "cells_of", "cells_of", defArgs (top 46), defBody (top 46), defScope (top 46), [], []⟩
def dd37 : He.DefD := ⟨("_law_mixed", none), "_law_mixed", "_law_mixed", defArgs (top 48), defBody (top 48), defScope (top 48), [], []⟩
def dd38 : He.DefD := ⟨("_law_source", none), "_law_source", "_law_source", defArgs (top 49), defBody (top 49), defScope (top 49), [], []⟩
def dd39 : He.DefD := ⟨("_law_take", none), "_law_take", "_law_take", defArgs (top 50), defBody (top 50), defScope (top 50), [], []⟩
def dd40 : He.DefD := ⟨("_law_pick", none), "_law_pick", "_law_pick", defArgs (top 51), defBody (top 51), defScope (top 51), [], []⟩
def dd41 : He.DefD := ⟨("_law_picture", none), "_law_picture", "_law_picture", defArgs (top 52), defBody (top 52), defScope (top 52), [], []⟩
def dd42 : He.DefD := ⟨("_law_drawn", none), "_law_drawn", "_law_drawn", defArgs (top 53), defBody (top 53), defScope (top 53), [], []⟩
def dd43 : He.DefD := ⟨("_law_sides", none), "_law_sides", "_law_sides", defArgs (top 54), defBody (top 54), defScope (top 54), [], []⟩
def dd44 : He.DefD := ⟨("_law_flooded", none), "_law_flooded", "_law_flooded", defArgs (top 55), defBody (top 55), defScope (top 55), [], []⟩
def dd45 : He.DefD := ⟨("_law_sorts", none), "_law_sorts", "_law_sorts", defArgs (top 56), defBody (top 56), defScope (top 56), [], []⟩
def dd46 : He.DefD := ⟨("_law_right", none), "_law_right", "_law_right", defArgs (top 57), defBody (top 57), defScope (top 57), [], []⟩
def dd47 : He.DefD := ⟨("_law_great_right", none), "_law_great_right", "_law_great_right", defArgs (top 58), defBody (top 58), defScope (top 58), [], []⟩
def dd48 : He.DefD := ⟨("law", none), "law", "law", defArgs (top 59), defBody (top 59), defScope (top 59), [], []⟩
def fn : List He.DefD := [dd0, dd1, dd2, dd3, dd4, dd5, dd6, dd7, dd8, dd9, dd10, dd11, dd12, dd13, dd14, dd15, dd16, dd17, dd18, dd19, dd20, dd21, dd22, dd23, dd24, dd25, dd26, dd27, dd28, dd29, dd30, dd31, dd32, dd33, dd34, dd35, dd36, dd37, dd38, dd39, dd40, dd41, dd42, dd43, dd44, dd45, dd46, dd47, dd48]
def fa1 : List He.Fa := [.glo "is_integer", .glo "is_between", .glo "require_number", .glo "is_in_square", .glo "is_place", .glo "require_figures", .glo "parts_in", .glo "pairs_across", .glo "pairs_within", .meth "Regions" "named", .meth "Regions" "head", .meth "Regions" "join_across", .meth "Regions" "join_within", .glo "is_plain", .meth "Judge" "fault", .glo "require_picture", .glo "made", .glo "node_count", .glo "checked", .glo "black_at", .glo "painted", .glo "opposed", .glo "met", .glo "require_two"]
def fa2 : List He.Fa := [.glo "either", .glo "without", .glo "placed_anew", .glo "turned_left", .glo "mirrored", .glo "black_count", .glo "area", .glo "edge", .glo "regions", .glo "sorts_in", .glo "cells_of", .glo "_law_mixed", .glo "_law_source", .glo "_law_take", .glo "_law_pick", .glo "_law_picture", .glo "_law_drawn", .glo "_law_sides", .glo "_law_flooded", .glo "_law_sorts", .glo "_law_right", .glo "_law_great_right", .glo "law", .glo "Regions"]
def fa3 : List He.Fa := [.cls "Regions", .mkr "Regions", .glo "Judge", .cls "Judge", .mkr "Judge", .noat "Regions" "heads", .noat "Judge" "many", .int "MAX_SIDE" 40, .int "MAX_NODES" 4000, .int "MAX_PLACES" 500, .free "isinstance", .free "int", .free "bool", .free "tuple", .free "list", .free "dict", .free "len", .free "sum", .free "all", .free "enumerate", .free "range", .free "zip", .free "sorted", .free "min"]
def fa : List He.Fa := fa1 ++ fa2 ++ fa3
section
variable {K : PySem.W.Frag} {h : Heap} {mg : Str → Option Value}
theorem at_of {x : Str} {d : He.DefD} {st : Stmt} (e : d = ⟨(x, none), x, x, defArgs st, defBody st, defScope st, [], []⟩) (F : ∃ fd, FunD K d.name d.qual d.params d.body d.scope (d.dvs K) (d.kws K) (He.fAd K d.at_) fd) (g : mg x = some (.ref (He.ga K x))) : At K mg x st := by
  subst e
  obtain ⟨fd, F⟩ := F
  exact ⟨⟨_, fd, F, g⟩⟩
theorem atM_of {C m qual : Str} {d : He.DefD} {st : Stmt} (e : d = ⟨(C, some m), m, qual, defArgs st, defBody st, defScope st, [], []⟩) (F : ∃ fd, FunD K d.name d.qual d.params d.body d.scope (d.dvs K) (d.kws K) (He.fAd K d.at_) fd) (g : Meth K (He.ga K C) m (He.ma K (He.ga K C) m)) : AtM K (He.ga K C) m qual st := by
  subst e
  obtain ⟨fd, F⟩ := F
  exact ⟨⟨_, fd, F, g⟩⟩
theorem atC_of {x qual : Str} {d : He.DefD} {st : Stmt} (e : d = ⟨(x, some "__init__"), "__init__", qual, defArgs st, defBody st, defScope st, [], []⟩) (F : ∃ fd, FunD K d.name d.qual d.params d.body d.scope (d.dvs K) (d.kws K) (He.fAd K d.at_) fd) (cl : Cls K (He.ga K x)) (g : mg x = some (.ref (He.ga K x))) (m : Mk K (He.ga K x) (He.ma K (He.ga K x) "__init__")) : AtC K mg x qual (He.ga K x) st := by
  obtain ⟨fd, F⟩ := F
  subst e
  exact ⟨cl, g, ⟨_, fd, F, m⟩⟩
end
theorem law_can {P : Program} {w : World} {K : PySem.W.Frag} {h : Heap} {mg : Str → Option Value} {base : Heap} (X : K.In h) (G : h.Ns mainGlobals mg) (c : He.SaysD fa fn K) : Can P w K mg base 86 "law" ["_law_script"] (spLaw K) := by
  have a_is_integer : At K mg "is_integer" sIsInteger := at_of (d := dd0) rfl (c.def_ 0 rfl) (He.glo_ok X G (c.fact 0 (f := .glo "is_integer") rfl))
  have a_is_between : At K mg "is_between" sIsBetween := at_of (d := dd1) rfl (c.def_ 1 rfl) (He.glo_ok X G (c.fact 1 (f := .glo "is_between") rfl))
  have a_require_number : At K mg "require_number" sRequireNumber := at_of (d := dd2) rfl (c.def_ 2 rfl) (He.glo_ok X G (c.fact 2 (f := .glo "require_number") rfl))
  have a_is_in_square : At K mg "is_in_square" sIsInSquare := at_of (d := dd3) rfl (c.def_ 3 rfl) (He.glo_ok X G (c.fact 3 (f := .glo "is_in_square") rfl))
  have a_is_place : At K mg "is_place" sIsPlace := at_of (d := dd4) rfl (c.def_ 4 rfl) (He.glo_ok X G (c.fact 4 (f := .glo "is_place") rfl))
  have a_require_figures : At K mg "require_figures" sRequireFigures := at_of (d := dd5) rfl (c.def_ 5 rfl) (He.glo_ok X G (c.fact 5 (f := .glo "require_figures") rfl))
  have a_parts_in : At K mg "parts_in" sPartsIn := at_of (d := dd6) rfl (c.def_ 6 rfl) (He.glo_ok X G (c.fact 6 (f := .glo "parts_in") rfl))
  have a_pairs_across : At K mg "pairs_across" sPairsAcross := at_of (d := dd7) rfl (c.def_ 7 rfl) (He.glo_ok X G (c.fact 7 (f := .glo "pairs_across") rfl))
  have a_pairs_within : At K mg "pairs_within" sPairsWithin := at_of (d := dd8) rfl (c.def_ 8 rfl) (He.glo_ok X G (c.fact 8 (f := .glo "pairs_within") rfl))
  have a_is_plain : At K mg "is_plain" sIsPlain := at_of (d := dd14) rfl (c.def_ 14 rfl) (He.glo_ok X G (c.fact 13 (f := .glo "is_plain") rfl))
  have a_require_picture : At K mg "require_picture" sRequirePicture := at_of (d := dd17) rfl (c.def_ 17 rfl) (He.glo_ok X G (c.fact 15 (f := .glo "require_picture") rfl))
  have a_made : At K mg "made" sMade := at_of (d := dd18) rfl (c.def_ 18 rfl) (He.glo_ok X G (c.fact 16 (f := .glo "made") rfl))
  have a_node_count : At K mg "node_count" sNodeCount := at_of (d := dd19) rfl (c.def_ 19 rfl) (He.glo_ok X G (c.fact 17 (f := .glo "node_count") rfl))
  have a_checked : At K mg "checked" sChecked := at_of (d := dd20) rfl (c.def_ 20 rfl) (He.glo_ok X G (c.fact 18 (f := .glo "checked") rfl))
  have a_black_at : At K mg "black_at" sBlackAt := at_of (d := dd21) rfl (c.def_ 21 rfl) (He.glo_ok X G (c.fact 19 (f := .glo "black_at") rfl))
  have a_painted : At K mg "painted" sPainted := at_of (d := dd22) rfl (c.def_ 22 rfl) (He.glo_ok X G (c.fact 20 (f := .glo "painted") rfl))
  have a_opposed : At K mg "opposed" sOpposed := at_of (d := dd23) rfl (c.def_ 23 rfl) (He.glo_ok X G (c.fact 21 (f := .glo "opposed") rfl))
  have a_met : At K mg "met" sMet := at_of (d := dd24) rfl (c.def_ 24 rfl) (He.glo_ok X G (c.fact 22 (f := .glo "met") rfl))
  have a_require_two : At K mg "require_two" sRequireTwo := at_of (d := dd25) rfl (c.def_ 25 rfl) (He.glo_ok X G (c.fact 23 (f := .glo "require_two") rfl))
  have a_either : At K mg "either" sEither := at_of (d := dd26) rfl (c.def_ 26 rfl) (He.glo_ok X G (c.fact 24 (f := .glo "either") rfl))
  have a_without : At K mg "without" sWithout := at_of (d := dd27) rfl (c.def_ 27 rfl) (He.glo_ok X G (c.fact 25 (f := .glo "without") rfl))
  have a_placed_anew : At K mg "placed_anew" sPlacedAnew := at_of (d := dd28) rfl (c.def_ 28 rfl) (He.glo_ok X G (c.fact 26 (f := .glo "placed_anew") rfl))
  have a_turned_left : At K mg "turned_left" sTurnedLeft := at_of (d := dd29) rfl (c.def_ 29 rfl) (He.glo_ok X G (c.fact 27 (f := .glo "turned_left") rfl))
  have a_mirrored : At K mg "mirrored" sMirrored := at_of (d := dd30) rfl (c.def_ 30 rfl) (He.glo_ok X G (c.fact 28 (f := .glo "mirrored") rfl))
  have a_black_count : At K mg "black_count" sBlackCount := at_of (d := dd31) rfl (c.def_ 31 rfl) (He.glo_ok X G (c.fact 29 (f := .glo "black_count") rfl))
  have a_area : At K mg "area" sArea := at_of (d := dd32) rfl (c.def_ 32 rfl) (He.glo_ok X G (c.fact 30 (f := .glo "area") rfl))
  have a_edge : At K mg "edge" sEdge := at_of (d := dd33) rfl (c.def_ 33 rfl) (He.glo_ok X G (c.fact 31 (f := .glo "edge") rfl))
  have a_regions : At K mg "regions" sRegions := at_of (d := dd34) rfl (c.def_ 34 rfl) (He.glo_ok X G (c.fact 32 (f := .glo "regions") rfl))
  have a_sorts_in : At K mg "sorts_in" sSortsIn := at_of (d := dd35) rfl (c.def_ 35 rfl) (He.glo_ok X G (c.fact 33 (f := .glo "sorts_in") rfl))
  have a_cells_of : At K mg "cells_of" sCellsOf := at_of (d := dd36) rfl (c.def_ 36 rfl) (He.glo_ok X G (c.fact 34 (f := .glo "cells_of") rfl))
  have a_law_mixed : At K mg "_law_mixed" sMixed := at_of (d := dd37) rfl (c.def_ 37 rfl) (He.glo_ok X G (c.fact 35 (f := .glo "_law_mixed") rfl))
  have a_law_source : At K mg "_law_source" sSource := at_of (d := dd38) rfl (c.def_ 38 rfl) (He.glo_ok X G (c.fact 36 (f := .glo "_law_source") rfl))
  have a_law_take : At K mg "_law_take" sTake := at_of (d := dd39) rfl (c.def_ 39 rfl) (He.glo_ok X G (c.fact 37 (f := .glo "_law_take") rfl))
  have a_law_pick : At K mg "_law_pick" sPick := at_of (d := dd40) rfl (c.def_ 40 rfl) (He.glo_ok X G (c.fact 38 (f := .glo "_law_pick") rfl))
  have a_law_picture : At K mg "_law_picture" sPicture := at_of (d := dd41) rfl (c.def_ 41 rfl) (He.glo_ok X G (c.fact 39 (f := .glo "_law_picture") rfl))
  have a_law_drawn : At K mg "_law_drawn" sDrawn := at_of (d := dd42) rfl (c.def_ 42 rfl) (He.glo_ok X G (c.fact 40 (f := .glo "_law_drawn") rfl))
  have a_law_sides : At K mg "_law_sides" sSides := at_of (d := dd43) rfl (c.def_ 43 rfl) (He.glo_ok X G (c.fact 41 (f := .glo "_law_sides") rfl))
  have a_law_flooded : At K mg "_law_flooded" sFlooded := at_of (d := dd44) rfl (c.def_ 44 rfl) (He.glo_ok X G (c.fact 42 (f := .glo "_law_flooded") rfl))
  have a_law_sorts : At K mg "_law_sorts" sSorts := at_of (d := dd45) rfl (c.def_ 45 rfl) (He.glo_ok X G (c.fact 43 (f := .glo "_law_sorts") rfl))
  have a_law_right : At K mg "_law_right" sRight := at_of (d := dd46) rfl (c.def_ 46 rfl) (He.glo_ok X G (c.fact 44 (f := .glo "_law_right") rfl))
  have a_law_great_right : At K mg "_law_great_right" sGreat := at_of (d := dd47) rfl (c.def_ 47 rfl) (He.glo_ok X G (c.fact 45 (f := .glo "_law_great_right") rfl))
  have a_law : At K mg "law" sLaw := at_of (d := dd48) rfl (c.def_ 48 rfl) (He.glo_ok X G (c.fact 46 (f := .glo "law") rfl))
  have cl_Regions : Cls K (He.ga K "Regions") := He.cls_ok (c.fact 48 (f := .cls "Regions") rfl)
  have g_Regions : mg "Regions" = some (.ref (He.ga K "Regions")) := He.glo_ok X G (c.fact 47 (f := .glo "Regions") rfl)
  have mk_Regions := He.mkr_ok (c.fact 49 (f := .mkr "Regions") rfl)
  have cl_Judge : Cls K (He.ga K "Judge") := He.cls_ok (c.fact 51 (f := .cls "Judge") rfl)
  have g_Judge : mg "Judge" = some (.ref (He.ga K "Judge")) := He.glo_ok X G (c.fact 50 (f := .glo "Judge") rfl)
  have mk_Judge := He.mkr_ok (c.fact 52 (f := .mkr "Judge") rfl)
  have na_R : NoAttr K (He.ga K "Regions") "heads" := He.noat_ok (c.fact 53 (f := .noat "Regions" "heads") rfl)
  have na_J : NoAttr K (He.ga K "Judge") "many" := He.noat_ok (c.fact 54 (f := .noat "Judge" "many") rfl)
  have m_named : AtM K (He.ga K "Regions") "named" "Regions.named" sNamed := atM_of (d := dd10) rfl (c.def_ 10 rfl) (He.meth_ok (c.fact 9 (f := .meth "Regions" "named") rfl))
  have m_head : AtM K (He.ga K "Regions") "head" "Regions.head" sHead := atM_of (d := dd11) rfl (c.def_ 11 rfl) (He.meth_ok (c.fact 10 (f := .meth "Regions" "head") rfl))
  have m_join_across : AtM K (He.ga K "Regions") "join_across" "Regions.join_across" sJoinAcross := atM_of (d := dd12) rfl (c.def_ 12 rfl) (He.meth_ok (c.fact 11 (f := .meth "Regions" "join_across") rfl))
  have m_join_within : AtM K (He.ga K "Regions") "join_within" "Regions.join_within" sJoinWithin := atM_of (d := dd13) rfl (c.def_ 13 rfl) (He.meth_ok (c.fact 12 (f := .meth "Regions" "join_within") rfl))
  have m_fault : AtM K (He.ga K "Judge") "fault" "Judge.fault" sFault := atM_of (d := dd16) rfl (c.def_ 16 rfl) (He.meth_ok (c.fact 14 (f := .meth "Judge" "fault") rfl))
  have i_Regions : AtC K mg "Regions" "Regions.__init__" (He.ga K "Regions") sRInit := atC_of (d := dd9) rfl (c.def_ 9 rfl) cl_Regions g_Regions mk_Regions
  have i_Judge : AtC K mg "Judge" "Judge.__init__" (He.ga K "Judge") sJInit := atC_of (d := dd15) rfl (c.def_ 15 rfl) cl_Judge g_Judge mk_Judge
  obtain ⟨t_MAX_SIDE, n_MAX_SIDE⟩ := He.int_ok X G (c.fact 55 (f := .int "MAX_SIDE" 40) rfl)
  obtain ⟨t_MAX_NODES, n_MAX_NODES⟩ := He.int_ok X G (c.fact 56 (f := .int "MAX_NODES" 4000) rfl)
  obtain ⟨t_MAX_PLACES, n_MAX_PLACES⟩ := He.int_ok X G (c.fact 57 (f := .int "MAX_PLACES" 500) rfl)
  have T : Bi mg := ⟨He.free_ok X G (c.fact 58 (f := .free "isinstance") rfl), He.free_ok X G (c.fact 59 (f := .free "int") rfl), He.free_ok X G (c.fact 60 (f := .free "bool") rfl), He.free_ok X G (c.fact 61 (f := .free "tuple") rfl), He.free_ok X G (c.fact 62 (f := .free "list") rfl), He.free_ok X G (c.fact 63 (f := .free "dict") rfl), He.free_ok X G (c.fact 64 (f := .free "len") rfl), He.free_ok X G (c.fact 65 (f := .free "sum") rfl), He.free_ok X G (c.fact 66 (f := .free "all") rfl), He.free_ok X G (c.fact 67 (f := .free "enumerate") rfl), He.free_ok X G (c.fact 68 (f := .free "range") rfl), He.free_ok X G (c.fact 69 (f := .free "zip") rfl), He.free_ok X G (c.fact 70 (f := .free "sorted") rfl), He.free_ok X G (c.fact 71 (f := .free "min") rfl)⟩
  have c_ii := ok_is_integer (P := P) (w := w) (base := base) a_is_integer T
  have c_ib := ok_is_between a_is_between c_ii
  have c_rn := ok_require_number a_require_number c_ib
  have c_rf : CRF P w K mg base := ok_require_figures a_require_figures n_MAX_SIDE c_rn
  have c_sq := ok_in_square (P := P) (w := w) (base := base) a_is_in_square T
  have c_pl := ok_is_place a_is_place T c_ii c_sq
  have c_pi := ok_parts_in (P := P) (w := w) (base := base) a_parts_in
  have c_pa := ok_pairs_across a_pairs_across T c_pi 41
  have c_pw := ok_pairs_within a_pairs_within T c_pa 41
  have c_ri := ok_rinit (P := P) (w := w) (base := base) i_Regions na_R
  have c_nm := ok_named (P := P) (w := w) (base := base) m_named cl_Regions na_R T 41
  have c_hd := ok_head (P := P) (w := w) (mg := mg) (base := base) m_head cl_Regions na_R
  have c_ja := ok_join_across m_join_across cl_Regions na_R T c_hd 41
  have c_jw := ok_join_within m_join_within cl_Regions na_R T c_ja 41
  have c_ip := ok_is_plain (P := P) (w := w) (base := base) a_is_plain T
  have c_ji := ok_jinit (P := P) (w := w) (base := base) i_Judge na_J
  have c_fa := ok_fault m_fault cl_Judge na_J T n_MAX_NODES c_ip 41
  have c_rp : CRP P w K mg base := ok_require_picture a_require_picture cl_Judge c_ji c_fa
  have c_md := ok_made (P := P) (w := w) (base := base) a_made T
  have c_nc := ok_node_count (P := P) (w := w) (base := base) a_node_count T 41
  have c_ck := ok_checked a_checked n_MAX_NODES c_nc
  have c_ba := ok_black_at a_black_at T c_md 41
  have c_pt := ok_painted a_painted T n_MAX_PLACES c_rf c_pl c_ba c_ck
  have c_op := ok_opposed (P := P) (w := w) (base := base) a_opposed T 41
  have c_mt := ok_met a_met T c_md 41
  have c_r2 := ok_require_two a_require_two c_rf c_rp
  have c_ei := ok_either a_either c_r2 c_ck c_op c_mt
  have c_wo := ok_without a_without c_r2 c_ck c_op c_mt
  have c_pn := ok_placed_anew (P := P) (w := w) (base := base) a_placed_anew T 41
  have c_tl := ok_turned_left a_turned_left c_rf c_rp c_pn
  have c_mi := ok_mirrored a_mirrored c_rf c_rp c_pn
  have c_bk := ok_black_count (P := P) (w := w) (base := base) a_black_count T 41
  have c_ar := ok_area a_area c_rf c_rp c_bk
  have c_ed := ok_edge a_edge c_rf c_rp c_bk c_pw
  have c_rg := ok_regions a_regions T cl_Regions na_R c_rf c_rp c_ri c_nm c_jw
  have c_so := ok_sorts_in (P := P) (w := w) (base := base) a_sorts_in T 41
  have c_co := ok_cells_of a_cells_of c_rf c_rp c_so
  have c_mx := ok_mixed (P := P) (w := w) (base := base) a_law_mixed T
  have c_sc := ok_source (P := P) (w := w) (base := base) a_law_source T
  have c_tk := ok_take a_law_take T c_mx
  have c_pk := ok_pick a_law_pick T c_tk
  have c_pc := ok_picture (P := P) (w := w) (base := base) a_law_picture T 41
  have c_dr := ok_drawn a_law_drawn T c_tk c_pk
  have c_sd := ok_sides (P := P) (w := w) (base := base) a_law_sides T
  have c_fl := ok_flooded (P := P) (w := w) (base := base) a_law_flooded T
  have c_ls := ok_sorts (P := P) (w := w) (base := base) a_law_sorts T 41
  have c_rt := ok_right a_law_right T c_tk c_dr c_pc c_sd c_fl c_ls c_ar c_ed c_rg c_co c_tl c_mi a_area a_edge a_regions a_cells_of
  have c_gr := ok_great a_law_great_right T c_wo c_ar c_ed c_rg
  exact ok_law a_law T c_sc c_tk c_rt c_gr c_pt c_ei c_ar c_ed c_rg
theorem facts {P : Program} {w : World} {K : PySem.W.Frag} {h : Heap} {mg : Str → Option Value} {f : Addr} (X : K.In h) (G : h.Ns mainGlobals mg) (hfa : mg ("law" : Str) = some (.ref f)) (c : He.SaysD fa fn K) :
    ∃ fd : FuncData, (∀ (s : Shared) (v : Value), BindsTo s fd ⟨[v], []⟩ [("_law_script", v)]) ∧ ∀ base : Heap, K.In base → base.Ns mainGlobals mg → FnOk P w K mg base CX0 86 f fd ["_law_script"] (spLaw K) := by
  obtain ⟨fd, F⟩ := c.def_ 48 (d := dd48) rfl
  have e := hfa.symm.trans (He.glo_ok X G (c.fact 46 (f := .glo "law") rfl))
  injection e with e
  injection e with e
  subst e
  have b := FunD.bindsA (ps := ["_law_script"]) F fun _ _ _ _ _ _ us hl => match us, hl with | [_], _ => rfl
  refine ⟨fd, fun s v => b s [v] rfl, fun base _ _ => ?_⟩
  obtain ⟨f', fd', h1, h2, _, _, oc, od, osl, lk⟩ := (law_can (P := P) (w := w) (base := base) X G c).ex
  rw [hfa] at h2
  injection h2 with h2
  injection h2 with h2
  subst h2
  obtain ⟨oc', od', osl', lk'⟩ := Pl.FunD.lk F
  have e3 : (some ⟨oc, od, .func fd', osl⟩ : Option Obj) = some ⟨oc', od', .func fd, osl'⟩ := lk.symm.trans lk'
  injection e3 with e3
  injection e3 with _ _ e4 _
  injection e4 with e4
  rw [← e4]
  exact h1
end Pl

namespace Pl
open PySem PySem.Spec PyProof.Rows L2
def loose1 : List Str := ["PlaneError", "InvalidPoints", "InvalidTree", "InvalidNumber", "TooLarge", "Mismatch", "is_integer", "is_between", "require_number", "is_in_square", "MAX_SIDE", "is_place", "require_figures", "parts_in", "pairs_across", "pairs_within", "Regions", "MAX_NODES", "MAX_PLACES", "is_plain", "Judge", "require_picture", "made", "node_count", "checked", "black_at"]
def loose2 : List Str := ["painted", "opposed", "met", "require_two", "either", "without", "placed_anew", "turned_left", "mirrored", "black_count", "area", "edge", "regions", "sorts_in", "cells_of", "_law_mixed", "_law_source", "_law_take", "_law_pick", "_law_picture", "_law_drawn", "_law_sides", "_law_flooded", "_law_sorts", "_law_right", "_law_great_right"]
def loose : List Str := loose1 ++ loose2
abbrev R : PySem.W.OpenRow := PySem.W.OpenLaw.row PySem.Challenge.rw_planesplits_k92_whole_areas_edges_and_re
abbrev hk : PySem.W.Hook := He.hookD 5 fa fn
def ob (s : PySem.W.SharedT) : He.AlD := He.obsDG 5 fa fn (HandSHeadRun.getT s)
theorem ob_eq (s : PySem.W.SharedT) : ob s = hk.obs s.abs := He.obsDG_eq (HandSHeadRun.getT_eq s)
theorem run (w : World) : HandSHeadRun.RunEq R (PySem.W.view R.prog [59]) hk ob 4000 loose w := by
  intro os
  kernel_rfl
end Pl
open PySem PySem.W PySem.Calls PyProof.Rows
theorem PySem.Challenge.cw_planesplits_k92_whole_areas_edges_and_re_holds : PySem.Challenge.rw_planesplits_k92_whole_areas_edges_and_re.Holds := by
  w_on; o_law
  refine HandSHeadRun.head_any (r := OpenLaw.row PySem.Challenge.rw_planesplits_k92_whole_areas_edges_and_re) (q := view (OpenLaw.row PySem.Challenge.rw_planesplits_k92_whole_areas_edges_and_re).prog [59]) (H := Pl.hk) (ob := Pl.ob) (M := 4000) (loose := Pl.loose) (d := HandSHeadRun.topDef (OpenLaw.row PySem.Challenge.rw_planesplits_k92_whole_areas_edges_and_re).prog 59) (kwd := []) Pl.ob_eq
    (by kernel_rfl) (fun s => by kernel_rfl) Pl.run (by kernel_rfl) (by kernel_rfl) (by kernel_rfl) (by rfl) (by first | assumption | decide +kernel) (by decide +kernel) ⟨rfl, rfl, rfl, rfl, rfl, by decide +kernel⟩ ?hw ?hc
  case hw => w_witness2
  case hc =>
    refine L2.walk_ofE (l := PySem.Challenge.rw_planesplits_k92_whole_areas_edges_and_re) (n := 63) (k := 86) (x := "_law_script") (CX := L2.CX0) rfl (by decide) (by kernel_rfl) ⟨rfl, by decide, by decide⟩ ?F (fun _ _ _ _ z => z)
    intro w mg fa h Y G hmg0
    obtain ⟨K, KX, c⟩ := Y
    have hmg : mg ("law" : PySem.Str) = some (.ref fa) := by
      have e : (HandSHeadRun.topDef (OpenLaw.row PySem.Challenge.rw_planesplits_k92_whole_areas_edges_and_re).prog 59).name = ("law" : PySem.Str) := by kernel_rfl
      rw [← e]
      exact hmg0
    obtain ⟨fd, hb, hF⟩ := Pl.facts (P := (PySem.Challenge.rw_planesplits_k92_whole_areas_edges_and_re).prog) (w := w) KX G hmg c
    exact ⟨K, fd, Pl.spLaw K, KX, hb, fun H a ns hl _ hS => ⟨a, ns, rfl, hS, hl, fun _ => rfl⟩, hF⟩

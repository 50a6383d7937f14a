import PyProof.Rows.All
import Wide.All
import OpenK.AllK
import Wide.FinOn
import KE.KStateDown
import Lean
import HandS.ForMost
import HandS.WordsExc
import HandS.Defaults
import HandS.Codes
import HandS.Head0
import HandS.Head1
import HandS.Head2
import HandS.HeadEnd
import HandS.HeadHook1
import HandS.HeadHook2
import HandS.HeadHook3
import HandS.HeadHook4
import HandS.HeadWalk
import PySem.Challenge.RW_lastoflot_k47_whole_pairs_surely_ahead
import HandS.IsInst
import HandS.WideBits
import HandS.Walk
import HandS.SortInts
import HandS.Style
import HandS.TupAny
import HandS.Sort
import HandS.SortRule
import HandS.Conv
import HandS.Flow
import KE.OsArith
import KE.GoesEnum
import HandS.Comp
import HandS.Dict
import HandS.DictComp
import HandS.DictEq
import HandS.Iter
import KE.KDictDisplayH
import HandS.Lambda
import KE.SortKeyHeap
import KE.SortData
import KE.KSortKey
import HandS.Set
import HandS.SetFor
import HandS.TupSets
import HandS.Deep
import HandS.Strs
import HandS.EndTab
section
set_option linter.all false
set_option autoImplicit false
/-! LotMath: bit masks, greedy placing, fits (plain Lean) -/
namespace LM
/-! ### masks -/
theorem tb_add {m p : Nat} (h : m.testBit p = false) (i : Nat) : (2 ^ p + m).testBit i = (decide (p = i) || m.testBit i) := by
  have e : m = 2 ^ (p + 1) * (m / 2 ^ (p + 1)) + m % 2 ^ (p + 1) := (Nat.div_add_mod m (2 ^ (p + 1))).symm
  have hl : m % 2 ^ (p + 1) < 2 ^ p := by
    have h1 : m % 2 ^ (p + 1) < 2 ^ (p + 1) := Nat.mod_lt _ (Nat.two_pow_pos _)
    by_cases hc : m % 2 ^ (p + 1) < 2 ^ p
    · exact hc
    · exfalso
      have hb : (m % 2 ^ (p + 1)).testBit p = true := by
        have e2 : m % 2 ^ (p + 1) = 2 ^ p + (m % 2 ^ (p + 1) - 2 ^ p) := by omega
        rw [e2, Nat.testBit_two_pow_add_eq, Nat.testBit_lt_two_pow]
        · rfl
        · rw [Nat.pow_succ] at h1; omega
      rw [Nat.testBit_mod_two_pow] at hb
      simp [h] at hb
  by_cases hi : i < p + 1
  · by_cases hp : p = i
    · subst hp
      rw [Nat.testBit_two_pow_add_eq, h]; simp
    · rw [Nat.testBit_two_pow_add_gt (by omega)]
      simp [hp]
  · have hp : p ≠ i := by omega
    have e3 : 2 ^ p + m = 2 ^ (p + 1) * (m / 2 ^ (p + 1)) + (2 ^ p + m % 2 ^ (p + 1)) := by omega
    have hl2 : 2 ^ p + m % 2 ^ (p + 1) < 2 ^ (p + 1) := by
      have h2 : 2 ^ (p + 1) = 2 ^ p * 2 := Nat.pow_succ 2 p
      omega
    rw [e3, Nat.testBit_two_pow_mul_add _ hl2]
    conv => rhs; rw [e, Nat.testBit_two_pow_mul_add _ (Nat.mod_lt _ (Nat.two_pow_pos _))]
    simp [hi, hp]
def bitsOf (c : List Nat) : Nat := (c.map (2 ^ ·)).sum
theorem bitsOf_nil : bitsOf [] = 0 := rfl
theorem bitsOf_cons (p : Nat) (c : List Nat) : bitsOf (p :: c) = 2 ^ p + bitsOf c := by simp [bitsOf]
theorem bitsOf_perm {a b : List Nat} (h : a.Perm b) : bitsOf a = bitsOf b := (h.map _).sum_nat
theorem tb_bitsOf : ∀ {c : List Nat}, c.Nodup → ∀ i, (bitsOf c).testBit i = decide (i ∈ c)
  | [], _, i => by simp [bitsOf_nil]
  | p :: c, h, i => by
    obtain ⟨h1, h2⟩ := List.nodup_cons.mp h
    have ih := tb_bitsOf h2
    rw [bitsOf_cons, tb_add (by rw [ih]; simp [h1]), ih]
    by_cases e : p = i
    · subst e; simp
    · have e' : ¬ i = p := fun z => e z.symm
      simp [e, e']
theorem bitsOf_snoc {c : List Nat} {p : Nat} (h : c.Nodup) (hp : p ∉ c) : bitsOf c ||| 2 ^ p = bitsOf (c ++ [p]) := by
  apply Nat.eq_of_testBit_eq
  intro i
  have hn : (c ++ [p]).Nodup := List.nodup_append.mpr ⟨h, by simp, by
    intro a ha b hb e
    simp at hb
    subst hb; subst e; exact hp ha⟩
  rw [Nat.testBit_or, tb_bitsOf h, tb_bitsOf hn, Nat.testBit_two_pow]
  by_cases e : p = i
  · subst e; simp
  · have e' : ¬ i = p := fun z => e z.symm
    simp [e, e']
def holds (a b : Nat) : Bool := a &&& b == b
theorem holds_iff {a b : Nat} : holds a b = true ↔ ∀ i, b.testBit i = true → a.testBit i = true := by
  unfold holds
  rw [beq_iff_eq]
  constructor
  · intro h i hb
    rw [← h, Nat.testBit_and] at hb
    simp at hb
    exact hb.1
  · intro h
    apply Nat.eq_of_testBit_eq
    intro i
    rw [Nat.testBit_and]
    cases hb : b.testBit i with
    | false => simp
    | true => rw [h i hb]; rfl
/-- the ascending list of the persons of a mask -/
def crowdOf (m : Nat) : List Nat := (List.range (if m = 0 then 0 else m.log2 + 1)).filter fun p => m.testBit p
theorem mem_crowdOf {m p : Nat} : p ∈ crowdOf m ↔ m.testBit p = true := by
  unfold crowdOf
  rw [List.mem_filter, List.mem_range]
  constructor
  · exact fun h => h.2
  · intro h
    refine ⟨?_, h⟩
    by_cases h0 : m = 0
    · subst h0; simp at h
    · rw [if_neg h0]
      by_cases hl : p < m.log2 + 1
      · exact hl
      · exfalso
        have : m < 2 ^ p := Nat.lt_of_lt_of_le Nat.lt_log2_self (Nat.pow_le_pow_right (by decide) (by omega))
        rw [Nat.testBit_lt_two_pow this] at h
        cases h
def allOf (n : Nat) : Nat := 2 ^ n - 1
theorem tb_allOf (n i : Nat) : (allOf n).testBit i = decide (i < n) := Nat.testBit_two_pow_sub_one n i

/-! ### greedy placing -/
structure IsOrder (n : Nat) (L : List Nat) : Prop where
  nd : L.Nodup
  mem : ∀ p, p ∈ L ↔ p < n
theorem IsOrder.len {n : Nat} {L : List Nat} (h : IsOrder n L) : L.length = n := by
  have : L.Perm (List.range n) := (List.perm_ext_iff_of_nodup h.nd List.nodup_range).mpr fun a => by rw [h.mem, List.mem_range]
  rw [this.length_eq, List.length_range]
/-- who can stand next behind a mask -/
abbrev CanT := Nat → Nat → Bool
def Mono (C : CanT) : Prop := ∀ m m' p, (∀ q, m.testBit q = true → m'.testBit q = true) → C m p = true → C m' p = true
def Valid (C : CanT) (o : List Nat) : Prop := ∀ a p b, o = a ++ p :: b → C (bitsOf a) p = true
theorem Valid.nil (C : CanT) : Valid C [] := fun a p b h => by simp at h
theorem Valid.pre {C : CanT} {a b : List Nat} (h : Valid C (a ++ b)) : Valid C a := fun x p y e => h x p (y ++ b) (by rw [e]; simp)
theorem Valid.snoc {C : CanT} {o : List Nat} {p : Nat} (h : Valid C o) (hp : C (bitsOf o) p = true) : Valid C (o ++ [p]) := fun a q b e => by
  rcases List.eq_nil_or_concat b with hb | ⟨b', z, hb⟩
  · subst hb
    have e2 : o ++ [p] = a ++ [q] := e
    obtain ⟨e3, e4⟩ := List.append_inj' e2 rfl
    cases e4
    rw [← e3]; exact hp
  · subst hb
    have e2 : o ++ [p] = (a ++ q :: b') ++ [z] := by rw [e]; simp
    obtain ⟨e3, _⟩ := List.append_inj' e2 rfl
    exact h a q b' e3
theorem nodup_snoc {o : List Nat} {p : Nat} (h : o.Nodup) (hp : p ∉ o) : (o ++ [p]).Nodup := List.nodup_append.mpr ⟨h, by simp, by
    intro a ha b hb e
    simp at hb
    subst hb; subst e; exact hp ha⟩
/-- what greedy placing comes to: o is a row of unlike persons below n, none of them left out (w), each can stand; nobody else can -/
structure Placed (C : CanT) (n : Nat) (w : Nat → Bool) (o : List Nat) : Prop where
  nd : o.Nodup
  lt : ∀ q ∈ o, q < n ∧ w q = false
  val : Valid C o
  cl : ∀ p, p < n → p ∉ o → w p = false → C (bitsOf o) p = false
theorem Placed.sub {C : CanT} {n : Nat} {w : Nat → Bool} {o : List Nat} (M : Mono C) (P : Placed C n w o) : ∀ (k : Nat) (x : List Nat), x.length = k → x.Nodup → Valid C x → (∀ q ∈ x, q < n ∧ w q = false) → ∀ q ∈ x, q ∈ o
  | 0, x, hk, _, _, _, q, hq => by
    have : x = [] := List.length_eq_zero_iff.mp hk
    subst this; simp at hq
  | k + 1, x, hk, hn, hv, hl, q, hq => by
    rcases List.eq_nil_or_concat x with hx | ⟨y, z, hx⟩
    · subst hx; simp at hk
    · rw [List.concat_eq_append] at hx
      subst hx
      have hy : y.Nodup := (List.nodup_append.mp hn).1
      have ih := Placed.sub M P k y (by simp at hk; exact hk) hy hv.pre fun q hq => hl q (by simp [hq])
      rcases List.mem_append.mp hq with h | h
      · exact ih q h
      · simp at h
        subst h
        have c1 : C (bitsOf y) q = true := hv y q [] rfl
        have c2 : C (bitsOf o) q = true := M _ _ _ (fun i hi => by
          rw [tb_bitsOf hy] at hi
          rw [tb_bitsOf P.nd]
          simp at hi ⊢
          exact ih i hi) c1
        by_cases hm : q ∈ o
        · exact hm
        · have := P.cl q (hl q (by simp)).1 hm (hl q (by simp)).2
          rw [this] at c2; cases c2
theorem Placed.full {C : CanT} {n : Nat} {o L : List Nat} (M : Mono C) (P : Placed C n (fun _ => false) o) (hL : IsOrder n L) (hv : Valid C L) : IsOrder n o :=
  ⟨P.nd, fun p => ⟨fun h => (P.lt p h).1, fun h => Placed.sub M P L.length L rfl hL.nd hv (fun q hq => ⟨(hL.mem q).mp hq, rfl⟩) p ((hL.mem p).mpr h)⟩⟩
theorem extend {C : CanT} {n : Nat} (M : Mono C) {L : List Nat} (hL : IsOrder n L) (hv : Valid C L) : ∀ (r u o : List Nat), L = u ++ r → o.Nodup → Valid C o → (∀ q ∈ u, q ∈ o) → (∀ q ∈ o, q < n) →
    ∃ t, IsOrder n (o ++ t) ∧ Valid C (o ++ t)
  | [], u, o, e, hn, ho, hu, hl => ⟨[], by
      rw [List.append_nil]
      refine ⟨⟨hn, fun p => ⟨hl p, fun h => hu p ?_⟩⟩, ho⟩
      have := (hL.mem p).mpr h
      rw [e, List.append_nil] at this; exact this⟩
  | q :: r, u, o, e, hn, ho, hu, hl => by
    by_cases hq : q ∈ o
    · exact extend M hL hv r (u ++ [q]) o (by rw [e]; simp) hn ho (fun z hz => by
        rcases List.mem_append.mp hz with h | h
        · exact hu z h
        · simp at h; subst h; exact hq) hl
    · have hun : u.Nodup := by
        have := hL.nd
        rw [e] at this
        exact (List.nodup_append.mp this).1
      have c1 : C (bitsOf u) q = true := hv u q r e
      have c2 : C (bitsOf o) q = true := M _ _ _ (fun i hi => by
        rw [tb_bitsOf hun] at hi
        rw [tb_bitsOf hn]
        simp at hi ⊢
        exact hu i hi) c1
      have hqn : q < n := (hL.mem q).mp (by rw [e]; simp)
      obtain ⟨t, h1, h2⟩ := extend M hL hv r (u ++ [q]) (o ++ [q]) (by rw [e]; simp) (nodup_snoc hn hq) (ho.snoc c2) (fun z hz => by
        rcases List.mem_append.mp hz with h | h
        · simp [hu z h]
        · simp at h; subst h; simp) (fun z hz => by
        rcases List.mem_append.mp hz with h | h
        · exact hl z h
        · simp at h; subst h; exact hqn)
      exact ⟨q :: t, by simpa using h1, by simpa using h2⟩
/-- a stands ahead of b in a list -/
def Ahead (L : List Nat) (a b : Nat) : Prop := L.idxOf a < L.idxOf b
theorem ahead_of {x y : List Nat} {a b : Nat} (hb : b ∉ x) (hba : b ≠ a) : Ahead (x ++ a :: y) a b := by
  unfold Ahead
  rw [List.idxOf_append, List.idxOf_append, if_neg hb]
  have h1 : (a :: y).idxOf a = 0 := by simp
  have h2 : 0 < (a :: y).idxOf b := by
    rw [List.idxOf_cons]
    have : (a == b) = false := by simpa using fun e : a = b => hba e.symm
    simp [this]
  split
  · rename_i ha
    have := List.idxOf_lt_length_of_mem ha
    omega
  · omega
theorem sure_iff {C : CanT} {n a b : Nat} {o L0 : List Nat} (M : Mono C) (h0 : IsOrder n L0) (v0 : Valid C L0) (P : Placed C n (fun q => decide (q = a)) o) (ha : a < n) (hb : b < n) (hba : b ≠ a) :
    b ∉ o ↔ ∀ L, IsOrder n L → Valid C L → Ahead L a b := by
  have hao : a ∉ o := fun h => by
    have := (P.lt a h).2
    simp at this
  constructor
  · intro hbo L hL hv
    obtain ⟨x, y, e⟩ := List.append_of_mem ((hL.mem a).mpr ha)
    have nd := hL.nd
    rw [e] at nd
    have hax : a ∉ x := fun h => (List.nodup_append.mp nd).2.2 a h a (by simp) rfl
    have hx : ∀ q ∈ x, q ∈ o := Placed.sub M P x.length x rfl (List.nodup_append.mp nd).1 (by rw [e] at hv; exact hv.pre) fun q hq => ⟨(hL.mem q).mp (by rw [e]; simp [hq]), by
      simp
      intro e; subst e; exact hax hq⟩
    rw [e]
    exact ahead_of (fun h => hbo (hx b h)) hba
  · intro h hbo
    obtain ⟨t, h1, h2⟩ := extend M h0 v0 L0 [] o rfl P.nd P.val (by simp) fun q hq => (P.lt q hq).1
    have := h _ h1 h2
    unfold Ahead at this
    rw [List.idxOf_append, List.idxOf_append, if_neg hao, if_pos hbo] at this
    have := List.idxOf_lt_length_of_mem hbo
    omega
end LM
end
section
set_option linter.all false
set_option autoImplicit false
/-! LotFits: the law's own reading of who is let in, against what must stand ahead -/
namespace LM
abbrev Lots := List (List Nat)
abbrev Sgt := List (List Nat × List Nat)
/-- all others of a lot of p are in f -/
def barred (lots : Lots) (f : List Nat) (p : Nat) : Bool := lots.any fun lot => decide (p ∈ lot) && lot.all fun k => decide (k ∈ f) || decide (k = p)
theorem barred_iff {lots : Lots} {f : List Nat} {p : Nat} : barred lots f p = true ↔ ∃ lot ∈ lots, p ∈ lot ∧ ∀ k ∈ lot, k ∈ f ∨ k = p := by
  unfold barred
  simp only [List.any_eq_true, Bool.and_eq_true, decide_eq_true_eq, List.all_eq_true, Bool.or_eq_true]
def inStep (lots : Lots) (crowd f : List Nat) (p : Nat) : List Nat := if p ∈ crowd then (if barred lots f p = true then f else f ++ [p]) else f
def inF (lots : Lots) (order crowd : List Nat) : List Nat := order.foldl (inStep lots crowd) []
theorem inF_snoc (lots : Lots) (a crowd : List Nat) (p : Nat) : inF lots (a ++ [p]) crowd = inStep lots crowd (inF lots a crowd) p := by
  unfold inF; rw [List.foldl_append]; rfl
/-- the ascending list of those of f (below n) -/
def asc (n : Nat) (f : List Nat) : List Nat := (List.range n).filter fun p => decide (p ∈ f)
theorem mem_asc {n : Nat} {f : List Nat} {p : Nat} : p ∈ asc n f ↔ p < n ∧ p ∈ f := by simp [asc]
theorem asc_sorted (n : Nat) (f : List Nat) : (asc n f).Pairwise (· < ·) := List.Pairwise.filter _ List.pairwise_lt_range
/-- an ascending list below n is its own -/
theorem asc_self {n : Nat} {s : List Nat} (h : s.Pairwise (· < ·)) (hl : ∀ p ∈ s, p < n) : asc n s = s := by
  have p1 : (asc n s).Perm s := by
    refine (List.perm_ext_iff_of_nodup ((asc_sorted n s).imp fun h => Nat.ne_of_lt h) (h.imp fun h => Nat.ne_of_lt h)).mpr fun a => ?_
    rw [mem_asc]
    exact ⟨fun h => h.2, fun h => ⟨hl a h, h⟩⟩
  exact p1.eq_of_pairwise (fun a b _ _ h1 h2 => absurd h1 (Nat.lt_asymm h2)) (asc_sorted n s) h
theorem asc_congr {n : Nat} {f g : List Nat} (h : ∀ p, p < n → (p ∈ f ↔ p ∈ g)) : asc n f = asc n g := by
  unfold asc
  apply List.filter_congr
  intro p hp
  rw [List.mem_range] at hp
  simp [h p hp]
/-- those let in, ascending -/
def lawIn (n : Nat) (lots : Lots) (order crowd : List Nat) : List Nat := asc n (inF lots order crowd)
def fits (n : Nat) (lots : Lots) (S : Sgt) (order : List Nat) : Bool := S.all fun cs => lawIn n lots order cs.1 == cs.2

theorem inF_sub {lots : Lots} {crowd : List Nat} : ∀ (k : Nat) (a : List Nat), a.length = k → ∀ q ∈ inF lots a crowd, q ∈ a ∧ q ∈ crowd
  | 0, a, hk, q, hq => by
    have : a = [] := List.length_eq_zero_iff.mp hk
    subst this; simp [inF] at hq
  | k + 1, a, hk, q, hq => by
    rcases List.eq_nil_or_concat a with hx | ⟨y, z, hx⟩
    · subst hx; simp at hk
    · rw [List.concat_eq_append] at hx
      subst hx
      rw [inF_snoc] at hq
      unfold inStep at hq
      have ih := inF_sub k y (by simp at hk; exact hk) (lots := lots) (crowd := crowd)
      split at hq
      · rename_i hc
        split at hq
        · have := ih q hq; exact ⟨by simp [this.1], this.2⟩
        · rcases List.mem_append.mp hq with h | h
          · have := ih q h; exact ⟨by simp [this.1], this.2⟩
          · simp at h; subst h; exact ⟨by simp, hc⟩
      · have := ih q hq; exact ⟨by simp [this.1], this.2⟩
theorem inF_mono {lots : Lots} {crowd : List Nat} (a : List Nat) : ∀ b : List Nat, ∀ q ∈ inF lots a crowd, q ∈ inF lots (a ++ b) crowd := by
  intro b
  induction b generalizing a with
  | nil => intro q hq; simpa using hq
  | cons p b ih =>
    intro q hq
    have e : a ++ p :: b = (a ++ [p]) ++ b := by simp
    rw [e]
    refine ih (a ++ [p]) q ?_
    rw [inF_snoc]
    unfold inStep
    split
    · split
      · exact hq
      · simp [hq]
    · exact hq
/-- who stands at the end of a prefix: is let in or not by what stands there, for good -/
theorem inF_at {lots : Lots} {crowd a b : List Nat} {p : Nat} (nd : (a ++ p :: b).Nodup) : p ∈ inF lots (a ++ p :: b) crowd ↔ p ∈ crowd ∧ barred lots (inF lots a crowd) p = false := by
  have hpb : ∀ (k : Nat) (c : List Nat), c.length = k → p ∉ b → (∀ q ∈ c, q ∈ b) → (p ∈ inF lots ((a ++ [p]) ++ c) crowd → p ∈ inF lots (a ++ [p]) crowd) := by
    intro k
    induction k with
    | zero =>
      intro c hk _ _ h
      have : c = [] := List.length_eq_zero_iff.mp hk
      subst this; simpa using h
    | succ k ih =>
      intro c hk hp hs h
      rcases List.eq_nil_or_concat c with hx | ⟨c', z, hx⟩
      · subst hx; simp at hk
      · rw [List.concat_eq_append] at hx
        subst hx
        rw [← List.append_assoc, inF_snoc] at h
        have hz : p ≠ z := fun e => hp (by rw [e]; exact hs z (by simp))
        unfold inStep at h
        refine ih c' (by simp at hk; exact hk) hp (fun q hq => hs q (by simp [hq])) ?_
        split at h
        · split at h
          · exact h
          · rcases List.mem_append.mp h with h | h
            · exact h
            · simp at h; exact absurd h hz
        · exact h
  have hpa : p ∉ a := fun h => (List.nodup_append.mp nd).2.2 p h p (by simp) rfl
  have hpb' : p ∉ b := (List.nodup_cons.mp (List.nodup_append.mp nd).2.1).1
  have e : a ++ p :: b = (a ++ [p]) ++ b := by simp
  have key : p ∈ inF lots (a ++ [p]) crowd ↔ p ∈ crowd ∧ barred lots (inF lots a crowd) p = false := by
    rw [inF_snoc]
    unfold inStep
    have hn : p ∉ inF lots a crowd := fun h => hpa (inF_sub a.length a rfl p h).1
    by_cases hc : p ∈ crowd
    · rw [if_pos hc]
      cases hb : barred lots (inF lots a crowd) p with
      | true => simp [hn]
      | false => simp [hc]
    · rw [if_neg hc]; simp [hn, hc]
  rw [e]
  exact ⟨fun h => key.mp (hpb b.length b rfl hpb' (fun _ h => h) h), fun h => inF_mono _ b p (key.mpr h)⟩
/-- of some in a list one stands behind all others -/
theorem last_of {L : List Nat} (nd : L.Nodup) {lot : List Nat} : ∀ (k : Nat) (x : List Nat), x.length = k → (∀ q ∈ lot, q ∈ x) → lot ≠ [] → (∃ y, L = x ++ y) → ∃ a p b, L = a ++ p :: b ∧ p ∈ lot ∧ ∀ q ∈ lot, q = p ∨ q ∈ a
  | 0, x, hk, hs, hne, _ => by
    have : x = [] := List.length_eq_zero_iff.mp hk
    subst this
    cases lot with
    | nil => exact absurd rfl hne
    | cons q r => have := hs q (by simp); simp at this
  | k + 1, x, hk, hs, hne, ⟨y, e⟩ => by
    rcases List.eq_nil_or_concat x with hx | ⟨x', z, hx⟩
    · subst hx; simp at hk
    · rw [List.concat_eq_append] at hx
      subst hx
      by_cases hz : z ∈ lot
      · refine ⟨x', z, y, by rw [e]; simp, hz, fun q hq => ?_⟩
        have := hs q hq
        simp at this
        rcases this with h | h
        · exact .inr h
        · exact .inl h
      · exact last_of nd k x' (by simp at hk; exact hk) (fun q hq => by
          have := hs q hq
          simp at this
          rcases this with h | h
          · exact h
          · subst h; exact absurd hq hz) hne ⟨z :: y, by rw [e]; simp⟩
/-- no lot is let in whole -/
theorem no_lot_in {n : Nat} {lots : Lots} {L crowd : List Nat} (hL : IsOrder n L) {lot : List Nat} (hm : lot ∈ lots) (hne : lot ≠ []) : ¬ ∀ q ∈ lot, q ∈ inF lots L crowd := by
  intro h
  obtain ⟨a, p, b, e, hp, ha⟩ := last_of hL.nd (lot := lot) L.length L rfl (fun q hq => (inF_sub L.length L rfl q (h q hq)).1) hne ⟨[], by simp⟩
  have nd := hL.nd
  rw [e] at nd
  have h1 := h p hp
  rw [e] at h1
  obtain ⟨_, h2⟩ := (inF_at nd).mp h1
  have : barred lots (inF lots a crowd) p = true := barred_iff.mpr ⟨lot, hm, hp, fun k hk => by
    rcases ha k hk with e1 | e1
    · exact .inr e1
    · left
      have h3 := h k hk
      rw [e] at h3
      obtain ⟨x, y, e4⟩ := List.append_of_mem e1
      subst e4
      have e5 : (x ++ k :: y) ++ p :: b = x ++ k :: (y ++ p :: b) := by simp
      rw [e5] at h3 nd
      have nd1 : (x ++ k :: y).Nodup := by
        have : (x ++ k :: (y ++ p :: b)) = (x ++ k :: y) ++ (p :: b) := by simp
        rw [this] at nd
        exact (List.nodup_append.mp nd).1
      exact (inF_at nd1).mpr ((inF_at nd).mp h3)⟩
  rw [this] at h2; cases h2

/-! ### what must stand ahead -/
def othersWithin (masks : List Nat) (seen p : Nat) : List Nat := (masks.filter fun m => m.testBit p && holds seen (m ^^^ 2 ^ p)).map fun m => m ^^^ 2 ^ p
abbrev Need := List (Int × List Nat)
def canStand (need : Need) (placed : Nat) : Bool := need.all fun x => x.2.any fun o => holds placed o
theorem canStand_mono {need : Need} {m m' : Nat} (h : ∀ q, m.testBit q = true → m'.testBit q = true) (hc : canStand need m = true) : canStand need m' = true := by
  unfold canStand at *
  simp only [List.all_eq_true, List.any_eq_true] at *
  intro x hx
  obtain ⟨o, h1, h2⟩ := hc x hx
  exact ⟨o, h1, holds_iff.mpr fun i hi => h i (holds_iff.mp h2 i hi)⟩
/-- what person p needs, by the sightings from the number k on -/
def needOf (masks : List Nat) (p : Nat) : Nat → Sgt → Need
  | _, [] => []
  | k, (c, s) :: r => if p ∈ c ∧ p ∉ s then ((k : Int), othersWithin masks (bitsOf s) p) :: needOf masks p (k + 1) r else needOf masks p (k + 1) r
theorem needOf_snoc (masks : List Nat) (p : Nat) : ∀ (S : Sgt) (k : Nat) (c s : List Nat), needOf masks p k (S ++ [(c, s)]) = needOf masks p k S ++ (if p ∈ c ∧ p ∉ s then [(((k + S.length : Nat) : Int), othersWithin masks (bitsOf s) p)] else [])
  | [], k, c, s => by simp [needOf]
  | (c', s') :: r, k, c, s => by
    rw [List.cons_append]
    unfold needOf
    rw [needOf_snoc masks p r (k + 1) c s]
    have e : k + 1 + r.length = k + ((c', s') :: r).length := by simp; omega
    rw [e]
    split <;> simp
def canT (masks : List Nat) (S : Sgt) : CanT := fun m p => canStand (needOf masks p 0 S) m
theorem canT_mono (masks : List Nat) (S : Sgt) : Mono (canT masks S) := fun _ _ _ h hc => canStand_mono h hc
theorem needOf_all (masks : List Nat) (p m : Nat) : ∀ (S : Sgt) (k : Nat), canStand (needOf masks p k S) m = true ↔ ∀ cs ∈ S, p ∈ cs.1 → p ∉ cs.2 → ∃ o ∈ othersWithin masks (bitsOf cs.2) p, holds m o = true
  | [], k => by simp [needOf, canStand]
  | (c, s) :: r, k => by
    have ih := needOf_all masks p m r (k + 1)
    unfold needOf
    by_cases h : p ∈ c ∧ p ∉ s
    · rw [if_pos h]
      have e : canStand (((k : Int), othersWithin masks (bitsOf s) p) :: needOf masks p (k + 1) r) m = ((othersWithin masks (bitsOf s) p).any (fun o => holds m o) && canStand (needOf masks p (k + 1) r) m) := by simp [canStand]
      rw [e, Bool.and_eq_true, ih, List.any_eq_true]
      constructor
      · rintro ⟨h1, h2⟩ cs hcs
        rcases List.mem_cons.mp hcs with e | e
        · subst e; exact fun _ _ => h1
        · exact h2 cs e
      · intro h1
        exact ⟨h1 (c, s) (by simp) h.1 h.2, fun cs hcs => h1 cs (by simp [hcs])⟩
    · rw [if_neg h, ih]
      constructor
      · intro h1 cs hcs
        rcases List.mem_cons.mp hcs with e | e
        · subst e; exact fun a b => absurd ⟨a, b⟩ h
        · exact h1 cs e
      · exact fun h1 cs hcs => h1 cs (by simp [hcs])
/-- lots as masks -/
def masksOf (lots : Lots) : List Nat := lots.map bitsOf
theorem tb_others {lot : List Nat} (h : lot.Nodup) (p i : Nat) (hp : p ∈ lot) : (bitsOf lot ^^^ 2 ^ p).testBit i = (decide (i ∈ lot) && !decide (i = p)) := by
  rw [Nat.testBit_xor, tb_bitsOf h, Nat.testBit_two_pow]
  by_cases e : p = i
  · subst e; simp [hp]
  · have e' : ¬ i = p := fun z => e z.symm
    simp [e, e']
structure LotsOk (n : Nat) (lots : Lots) : Prop where
  nd : ∀ l ∈ lots, l.Nodup
  two : ∀ l ∈ lots, 2 ≤ l.length
  lt : ∀ l ∈ lots, ∀ p ∈ l, p < n
theorem mem_others {n : Nat} {lots : Lots} (ok : LotsOk n lots) {s : List Nat} (hs : s.Nodup) {p o : Nat} : o ∈ othersWithin (masksOf lots) (bitsOf s) p ↔ ∃ lot ∈ lots, p ∈ lot ∧ (∀ k ∈ lot, k ≠ p → k ∈ s) ∧ o = bitsOf lot ^^^ 2 ^ p := by
  unfold othersWithin masksOf
  simp only [List.mem_map, List.mem_filter, Bool.and_eq_true]
  constructor
  · rintro ⟨m, ⟨⟨lot, hl, rfl⟩, h1, h2⟩, rfl⟩
    have nd := ok.nd lot hl
    rw [tb_bitsOf nd] at h1
    simp at h1
    refine ⟨lot, hl, h1, fun k hk hne => ?_, rfl⟩
    have := holds_iff.mp h2 k (by rw [tb_others nd p k h1]; simp [hk, hne])
    rw [tb_bitsOf hs] at this
    simpa using this
  · rintro ⟨lot, hl, hp, hk, rfl⟩
    have nd := ok.nd lot hl
    refine ⟨bitsOf lot, ⟨⟨lot, hl, rfl⟩, by rw [tb_bitsOf nd]; simpa using hp, holds_iff.mpr fun i hi => ?_⟩, rfl⟩
    rw [tb_others nd p i hp] at hi
    simp at hi
    rw [tb_bitsOf hs]
    simpa using hk i hi.1 hi.2
theorem canT_iff {n : Nat} {lots : Lots} (ok : LotsOk n lots) {S : Sgt} (hS : ∀ cs ∈ S, cs.2.Nodup) {a : List Nat} (ha : a.Nodup) {p : Nat} :
    canT (masksOf lots) S (bitsOf a) p = true ↔ ∀ cs ∈ S, p ∈ cs.1 → p ∉ cs.2 → ∃ lot ∈ lots, p ∈ lot ∧ ∀ k ∈ lot, k ≠ p → k ∈ cs.2 ∧ k ∈ a := by
  unfold canT
  rw [needOf_all]
  constructor
  · intro h cs hcs h1 h2
    obtain ⟨o, ho, hh⟩ := h cs hcs h1 h2
    obtain ⟨lot, hl, hp, hk, rfl⟩ := (mem_others ok (hS cs hcs)).mp ho
    refine ⟨lot, hl, hp, fun k hkl hne => ⟨hk k hkl hne, ?_⟩⟩
    have := holds_iff.mp hh k (by rw [tb_others (ok.nd lot hl) p k hp]; simp [hkl, hne])
    rw [tb_bitsOf ha] at this
    simpa using this
  · intro h cs hcs h1 h2
    obtain ⟨lot, hl, hp, hk⟩ := h cs hcs h1 h2
    refine ⟨_, (mem_others ok (hS cs hcs)).mpr ⟨lot, hl, hp, fun k a b => (hk k a b).1, rfl⟩, holds_iff.mpr fun i hi => ?_⟩
    rw [tb_others (ok.nd lot hl) p i hp] at hi
    simp at hi
    rw [tb_bitsOf ha]
    simpa using (hk i hi.1 hi.2).2
/-- sightings that are ones, with no lot seen whole -/
structure SgtOk (n : Nat) (lots : Lots) (S : Sgt) : Prop where
  sub : ∀ cs ∈ S, ∀ p ∈ cs.2, p ∈ cs.1
  inc : ∀ cs ∈ S, cs.2.Pairwise (· < ·)
  lt : ∀ cs ∈ S, ∀ p ∈ cs.1, p < n
  no : ∀ cs ∈ S, ∀ lot ∈ lots, ¬ ∀ q ∈ lot, q ∈ cs.2
theorem SgtOk.nd {n : Nat} {lots : Lots} {S : Sgt} (h : SgtOk n lots S) : ∀ cs ∈ S, cs.2.Nodup := fun cs hcs => (h.inc cs hcs).imp fun h => Nat.ne_of_lt h
theorem fits_iff {n : Nat} {lots : Lots} {S : Sgt} (ok : LotsOk n lots) (hS : SgtOk n lots S) {L : List Nat} (hL : IsOrder n L) : fits n lots S L = true ↔ Valid (canT (masksOf lots) S) L := by
  unfold fits
  rw [List.all_eq_true]
  constructor
  · intro h a p b e
    have nd := hL.nd
    rw [e] at nd
    refine (canT_iff ok hS.nd (List.nodup_append.mp nd).1).mpr fun cs hcs h1 h2 => ?_
    have hf := h cs hcs
    rw [beq_iff_eq] at hf
    have hnot : p ∉ inF lots (a ++ p :: b) cs.1 := fun hp => h2 (by
      rw [← hf, lawIn, mem_asc]
      exact ⟨(hL.mem p).mp (by rw [e]; simp), by rw [e]; exact hp⟩)
    rw [inF_at nd] at hnot
    have hb : barred lots (inF lots a cs.1) p = true := by
      cases hq : barred lots (inF lots a cs.1) p with
      | true => rfl
      | false => exact absurd ⟨h1, hq⟩ hnot
    obtain ⟨lot, hl, hp, hk⟩ := barred_iff.mp hb
    refine ⟨lot, hl, hp, fun k hkl hne => ?_⟩
    have hka : k ∈ inF lots a cs.1 := (hk k hkl).resolve_right hne
    refine ⟨?_, (inF_sub a.length a rfl k hka).1⟩
    rw [← hf, lawIn, mem_asc]
    exact ⟨ok.lt lot hl k hkl, by rw [e]; exact inF_mono a _ k hka⟩
  · intro h cs hcs
    rw [beq_iff_eq]
    have key : ∀ (k : Nat) (a : List Nat), a.length = k → (∃ b, L = a ++ b) → ∀ q, q ∈ inF lots a cs.1 ↔ q ∈ a ∧ q ∈ cs.2 := by
      intro k
      induction k with
      | zero =>
        intro a hk _ q
        have : a = [] := List.length_eq_zero_iff.mp hk
        subst this; simp [inF]
      | succ k ih =>
        intro a hk ⟨b, e⟩ q
        rcases List.eq_nil_or_concat a with hx | ⟨x, p, hx⟩
        · subst hx; simp at hk
        · rw [List.concat_eq_append] at hx
          subst hx
          have e' : L = x ++ p :: b := by rw [e]; simp
          have ih' := ih x (by simp at hk; exact hk) ⟨p :: b, e'⟩
          have nd := hL.nd
          rw [e'] at nd
          rw [inF_snoc]
          unfold inStep
          by_cases hc : p ∈ cs.1
          · rw [if_pos hc]
            by_cases hp : p ∈ cs.2
            · have hb : ¬ barred lots (inF lots x cs.1) p = true := fun hb => by
                obtain ⟨lot, hl, hpl, hk⟩ := barred_iff.mp hb
                refine hS.no cs hcs lot hl fun z hz => ?_
                rcases hk z hz with h1 | h1
                · exact ((ih' z).mp h1).2
                · rw [h1]; exact hp
              rw [if_neg hb]
              simp only [List.mem_append, List.mem_singleton]
              rw [ih' q]
              constructor
              · rintro (⟨h1, h2⟩ | h1)
                · exact ⟨.inl h1, h2⟩
                · subst h1; exact ⟨.inr rfl, hp⟩
              · rintro ⟨h1 | h1, h2⟩
                · exact .inl ⟨h1, h2⟩
                · exact .inr h1
            · have hv := (canT_iff ok hS.nd (List.nodup_append.mp nd).1).mp (h x p b e') cs hcs hc hp
              obtain ⟨lot, hl, hpl, hk⟩ := hv
              have hb : barred lots (inF lots x cs.1) p = true := barred_iff.mpr ⟨lot, hl, hpl, fun z hz => by
                by_cases hz' : z = p
                · exact .inr hz'
                · exact .inl ((ih' z).mpr ⟨(hk z hz hz').2, (hk z hz hz').1⟩)⟩
              rw [if_pos hb, ih' q]
              simp only [List.mem_append, List.mem_singleton]
              constructor
              · exact fun h => ⟨.inl h.1, h.2⟩
              · rintro ⟨h1 | h1, h2⟩
                · exact ⟨h1, h2⟩
                · subst h1; exact absurd h2 hp
          · rw [if_neg hc, ih' q]
            simp only [List.mem_append, List.mem_singleton]
            constructor
            · exact fun h => ⟨.inl h.1, h.2⟩
            · rintro ⟨h1 | h1, h2⟩
              · exact ⟨h1, h2⟩
              · subst h1; exact absurd (hS.sub cs hcs q h2) hc
    unfold lawIn
    rw [asc_congr (g := cs.2), asc_self (hS.inc cs hcs) fun p hp => hS.lt cs hcs p (hS.sub cs hcs p hp)]
    intro p hp
    rw [key L.length L rfl ⟨[], by simp⟩ p]
    exact ⟨fun h => h.2, fun h => ⟨(hL.mem p).mpr hp, h⟩⟩
/-- sightings of one list -/
def seenBy (n : Nat) (lots : Lots) (L : List Nat) (cs : List (List Nat)) : Sgt := cs.map fun c => (c, lawIn n lots L c)
theorem seenBy_ok {n : Nat} {lots : Lots} {L : List Nat} (ok : LotsOk n lots) (hL : IsOrder n L) {cs : List (List Nat)} (hc : ∀ c ∈ cs, ∀ p ∈ c, p < n) : SgtOk n lots (seenBy n lots L cs) := by
  unfold seenBy
  refine ⟨fun x hx p hp => ?_, fun x hx => ?_, fun x hx p hp => ?_, fun x hx lot hl h => ?_⟩
  all_goals obtain ⟨c, h1, rfl⟩ := List.mem_map.mp hx
  · exact (inF_sub L.length L rfl p (mem_asc.mp hp).2).2
  · exact asc_sorted _ _
  · exact hc c h1 p hp
  · exact no_lot_in hL hl (fun e => by have := ok.two lot hl; rw [e] at this; simp at this) fun q hq => (mem_asc.mp (h q hq)).2
theorem seenBy_fits {n : Nat} {lots : Lots} {L : List Nat} {cs : List (List Nat)} : fits n lots (seenBy n lots L cs) L = true := by
  unfold fits seenBy
  simp
/-- THE PAIRS: behind all = what greedy placing without a leaves out -/
theorem pairs_iff {n a b : Nat} {lots : Lots} {S : Sgt} {L0 o : List Nat} (ok : LotsOk n lots) (hS : SgtOk n lots S) (h0 : IsOrder n L0) (f0 : fits n lots S L0 = true)
    (P : Placed (canT (masksOf lots) S) n (fun q => decide (q = a)) o) (ha : a < n) (hb : b < n) (hba : b ≠ a) : b ∉ o ↔ ∀ L, IsOrder n L → fits n lots S L = true → Ahead L a b := by
  rw [sure_iff (canT_mono _ _) h0 ((fits_iff ok hS h0).mp f0) P ha hb hba]
  exact ⟨fun h L hL hf => h L hL ((fits_iff ok hS hL).mp hf), fun h L hL hv => h L hL ((fits_iff ok hS hL).mpr hv)⟩
end LM
end
section
set_option linter.all false
set_option autoImplicit false
/-! LotChain: lots of two in a row, sightings of neighbours -/
namespace LM
/-! ### placing by edges -/
inductive Reach (E : Nat → Nat → Prop) (a : Nat) : Nat → Prop where
  | one {b : Nat} : E a b → Reach E a b
  | step {b c : Nat} : Reach E a b → E b c → Reach E a c
structure ByEdges (C : CanT) (n : Nat) (E : Nat → Nat → Prop) (r : Nat → Nat) : Prop where
  can : ∀ (o : List Nat) (v : Nat), o.Nodup → (C (bitsOf o) v = true ↔ ∀ u, E u v → u ∈ o)
  up : ∀ u v, E u v → r u < r v
  lt : ∀ u v, E u v → u < n
section
variable {C : CanT} {n : Nat} {E : Nat → Nat → Prop} {r : Nat → Nat}
theorem ByEdges.all (B : ByEdges C n E r) {o : List Nat} (P : Placed C n (fun _ => false) o) : IsOrder n o := by
  refine ⟨P.nd, fun p => ⟨fun h => (P.lt p h).1, ?_⟩⟩
  have : ∀ k p, r p = k → p < n → p ∈ o := by
    intro k
    induction k using Nat.strongRecOn with
    | ind k ih =>
      intro p hk hp
      by_cases hm : p ∈ o
      · exact hm
      · have h1 := P.cl p hp hm rfl
        have h2 : C (bitsOf o) p = true := (B.can o p P.nd).mpr fun u hu => ih (r u) (by rw [← hk]; exact B.up u p hu) u rfl (B.lt u p hu)
        rw [h1] at h2; cases h2
  exact this (r p) p rfl
theorem ByEdges.reach (B : ByEdges C n E r) {o : List Nat} {a b : Nat} (P : Placed C n (fun q => decide (q = a)) o) (hb : b < n) (hba : b ≠ a) : b ∉ o ↔ Reach E a b := by
  constructor
  · have : ∀ k b, r b = k → b < n → b ≠ a → b ∉ o → Reach E a b := by
      intro k
      induction k using Nat.strongRecOn with
      | ind k ih =>
        intro b hk hb hba hbo
        refine Classical.byContradiction fun hn => ?_
        have h1 := P.cl b hb hbo (by simpa using hba)
        have h2 : C (bitsOf o) b = true := (B.can o b P.nd).mpr fun u hu => by
          by_cases hua : u = a
          · subst hua; exact absurd (Reach.one hu) hn
          · refine Classical.byContradiction fun huo => hn ?_
            exact .step (ih (r u) (by rw [← hk]; exact B.up u b hu) u rfl (B.lt u b hu) hua huo) hu
        rw [h1] at h2; cases h2
    exact this (r b) b rfl hb hba
  · intro h
    have hao : a ∉ o := fun h => by
      have := (P.lt a h).2
      simp at this
    have pred : ∀ u v, E u v → v ∈ o → u ∈ o := fun u v hE hv => by
      obtain ⟨x, y, e⟩ := List.append_of_mem hv
      have nd := P.nd
      rw [e] at nd
      have := (B.can x v (List.nodup_append.mp nd).1).mp (P.val x v y e) u hE
      rw [e]; simp [this]
    induction h with
    | one h => exact fun hm => hao (pred _ _ h hm)
    | step h1 h2 ih =>
      rename_i c d
      intro hm
      have hc := pred _ _ h2 hm
      by_cases hca : c = a
      · subst hca; exact hao hc
      · exact ih (P.lt c hc).1 hca hc
end
/-! ### the chain -/
def pair (p q : Nat) : List Nat := if p ≤ q then [p, q] else [q, p]
theorem mem_pair {p q z : Nat} : z ∈ pair p q ↔ z = p ∨ z = q := by
  unfold pair
  split <;> simp [or_comm]
abbrev Fl := List (Option Bool)
structure Chain (n : Nat) (names : List Nat) (fl : Fl) (lots : Lots) (S : Sgt) : Prop where
  ord : IsOrder n names
  len : fl.length + 1 = n
  lot : ∀ l, l ∈ lots ↔ ∃ i p q, names[i]? = some p ∧ names[i + 1]? = some q ∧ l = pair p q
  sgt : ∀ cs, cs ∈ S ↔ ∃ (i p q : Nat) (b : Bool), names[i]? = some p ∧ names[i + 1]? = some q ∧ fl[i]? = some (some b) ∧ cs = (pair p q, [if b = true then p else q])
def Edge (names : List Nat) (fl : Fl) (u v : Nat) : Prop := ∃ i, (names[i]? = some u ∧ names[i + 1]? = some v ∧ fl[i]? = some (some true)) ∨ (names[i]? = some v ∧ names[i + 1]? = some u ∧ fl[i]? = some (some false))
theorem nd_at {l : List Nat} (h : l.Nodup) {i j : Nat} {x : Nat} (a : l[i]? = some x) (b : l[j]? = some x) : i = j := by
  obtain ⟨h1, e1⟩ := List.getElem?_eq_some_iff.mp a
  obtain ⟨h2, e2⟩ := List.getElem?_eq_some_iff.mp b
  exact (List.getElem_inj h).mp (e1.trans e2.symm)
section
variable {n : Nat} {names : List Nat} {fl : Fl} {lots : Lots} {S : Sgt}
theorem Chain.ne (c : Chain n names fl lots S) {i p q : Nat} (h1 : names[i]? = some p) (h2 : names[i + 1]? = some q) : p ≠ q := fun e => by
  subst e
  have := nd_at c.ord.nd h1 h2
  omega
theorem Chain.lt (c : Chain n names fl lots S) {i p : Nat} (h1 : names[i]? = some p) : p < n := (c.ord.mem p).mp (List.mem_of_getElem? h1)
theorem pair_len {p q : Nat} : (pair p q).length = 2 := by unfold pair; split <;> rfl
theorem pair_sorted {p q : Nat} (h : p ≠ q) : (pair p q).Pairwise (· < ·) := by
  unfold pair
  split <;> (simp; omega)
theorem Chain.lotsOk (c : Chain n names fl lots S) : LotsOk n lots := by
  refine ⟨fun l hl => ?_, fun l hl => ?_, fun l hl p hp => ?_⟩
  all_goals obtain ⟨i, p', q, h1, h2, rfl⟩ := (c.lot l).mp hl
  · exact (pair_sorted (c.ne h1 h2)).imp fun h => Nat.ne_of_lt h
  · rw [pair_len]; exact Nat.le_refl _
  · rcases mem_pair.mp hp with e | e <;> subst e
    · exact c.lt h1
    · exact c.lt h2
theorem Chain.sgtOk (c : Chain n names fl lots S) : SgtOk n lots S := by
  refine ⟨fun cs hcs p hp => ?_, fun cs hcs => ?_, fun cs hcs p hp => ?_, fun cs hcs lot hl h => ?_⟩
  all_goals obtain ⟨i, u, v, b, h1, h2, h3, rfl⟩ := (c.sgt cs).mp hcs
  · have hp' : p = if b = true then u else v := by simpa using hp
    rw [hp', mem_pair]
    split <;> simp
  · simp
  · rcases mem_pair.mp hp with e | e <;> subst e
    · exact c.lt h1
    · exact c.lt h2
  · obtain ⟨j, p, q, g1, g2, rfl⟩ := (c.lot lot).mp hl
    have e1 := h p (mem_pair.mpr (.inl rfl))
    have e2 := h q (mem_pair.mpr (.inr rfl))
    simp at e1 e2
    exact c.ne g1 g2 (e1.trans e2.symm)
theorem Chain.can (c : Chain n names fl lots S) (o : List Nat) (v : Nat) (ho : o.Nodup) : canT (masksOf lots) S (bitsOf o) v = true ↔ ∀ u, Edge names fl u v → u ∈ o := by
  rw [canT_iff c.lotsOk c.sgtOk.nd ho]
  constructor
  · intro h u hE
    have : ∃ cs ∈ S, v ∈ cs.1 ∧ v ∉ cs.2 ∧ cs.2 = [u] := by
      obtain ⟨i, ⟨h1, h2, h3⟩ | ⟨h1, h2, h3⟩⟩ := hE
      · exact ⟨(pair u v, [u]), (c.sgt _).mpr ⟨i, u, v, true, h1, h2, h3, rfl⟩, mem_pair.mpr (.inr rfl), by simpa using (c.ne h1 h2).symm, rfl⟩
      · exact ⟨(pair v u, [u]), (c.sgt _).mpr ⟨i, v, u, false, h1, h2, h3, rfl⟩, mem_pair.mpr (.inl rfl), by simpa using c.ne h1 h2, rfl⟩
    obtain ⟨cs, hcs, m1, m2, e⟩ := this
    obtain ⟨lot, hl, hv, hk⟩ := h cs hcs m1 m2
    obtain ⟨j, p, q, g1, g2, rfl⟩ := (c.lot lot).mp hl
    have hpq := c.ne g1 g2
    rcases mem_pair.mp hv with e1 | e1 <;> subst e1
    · obtain ⟨a1, a2⟩ := hk q (mem_pair.mpr (.inr rfl)) (fun z => hpq z.symm)
      rw [e] at a1
      have : q = u := by simpa using a1
      rw [← this]; exact a2
    · obtain ⟨a1, a2⟩ := hk p (mem_pair.mpr (.inl rfl)) hpq
      rw [e] at a1
      have : p = u := by simpa using a1
      rw [← this]; exact a2
  · intro h cs hcs m1 m2
    obtain ⟨i, p, q, b, h1, h2, h3, rfl⟩ := (c.sgt cs).mp hcs
    refine ⟨pair p q, (c.lot _).mpr ⟨i, p, q, h1, h2, rfl⟩, m1, fun k hk hne => ?_⟩
    have hpq := c.ne h1 h2
    have m2' : v ≠ if b = true then p else q := by simpa using m2
    cases b with
    | true =>
      have hv : v = q := by
        rcases mem_pair.mp m1 with e | e
        · exact absurd e (by simpa using m2')
        · exact e
      subst hv
      have hk' : k = p := by
        rcases mem_pair.mp hk with e | e
        · exact e
        · exact absurd e hne
      subst hk'
      exact ⟨by simp, h k ⟨i, .inl ⟨h1, h2, h3⟩⟩⟩
    | false =>
      have hv : v = p := by
        rcases mem_pair.mp m1 with e | e
        · exact e
        · exact absurd e (by simpa using m2')
      subst hv
      have hk' : k = q := by
        rcases mem_pair.mp hk with e | e
        · exact absurd e hne
        · exact e
      subst hk'
      exact ⟨by simp, h k ⟨i, .inr ⟨h1, h2, h3⟩⟩⟩
/-- how far up the i-th stands -/
def rk (fl : Fl) : Nat → Int
  | 0 => 0
  | i + 1 => rk fl i + (if fl[i]? = some (some false) then -1 else 1)
theorem rk_ge (fl : Fl) : ∀ i : Nat, -(i : Int) ≤ rk fl i
  | 0 => by simp [rk]
  | i + 1 => by
    have := rk_ge fl i
    unfold rk
    split <;> omega
theorem Chain.edges (c : Chain n names fl lots S) : ByEdges (canT (masksOf lots) S) n (Edge names fl) (fun v => ((n : Int) + rk fl (names.idxOf v)).toNat) := by
  have ix : ∀ i v, names[i]? = some v → names.idxOf v = i := fun i v h => by
    have h1 := List.mem_of_getElem? h
    have h2 := List.idxOf_lt_length_of_mem h1
    have h3 : names[names.idxOf v]? = some v := by
      rw [List.getElem?_eq_getElem h2]
      simp
    exact nd_at c.ord.nd h3 h
  have il : ∀ (i v : Nat), names[i]? = some v → i < n := fun i v h => by
    have := (List.getElem?_eq_some_iff.mp h).1
    rw [c.ord.len] at this
    exact this
  refine ⟨c.can, fun u v hE => ?_, fun u v hE => ?_⟩
  · obtain ⟨i, ⟨h1, h2, h3⟩ | ⟨h1, h2, h3⟩⟩ := hE
    · show ((n : Int) + rk fl (names.idxOf u)).toNat < ((n : Int) + rk fl (names.idxOf v)).toNat
      rw [ix _ _ h1, ix _ _ h2]
      have := rk_ge fl i
      have := il _ _ h1
      have e : rk fl (i + 1) = rk fl i + 1 := by
        show rk fl i + (if fl[i]? = some (some false) then -1 else 1) = _
        rw [h3]; simp
      rw [e]; omega
    · show ((n : Int) + rk fl (names.idxOf u)).toNat < ((n : Int) + rk fl (names.idxOf v)).toNat
      rw [ix _ _ h1, ix _ _ h2]
      have := rk_ge fl (i + 1)
      have := il _ _ h2
      have e : rk fl (i + 1) = rk fl i - 1 := by
        show rk fl i + (if fl[i]? = some (some false) then -1 else 1) = _
        rw [h3]; simp; omega
      rw [e]; omega
  · obtain ⟨i, ⟨h1, h2, h3⟩ | ⟨h1, h2, h3⟩⟩ := hE
    · exact c.lt h1
    · exact c.lt h2
/-- all flags from i below j are b -/
def Run (fl : Fl) (b : Bool) (i j : Nat) : Prop := ∀ k, i ≤ k → k < j → fl[k]? = some (some b)
def Seg (names : List Nat) (fl : Fl) (a b : Nat) : Prop := ∃ i j, i < j ∧ ((names[i]? = some a ∧ names[j]? = some b ∧ Run fl true i j) ∨ (names[i]? = some b ∧ names[j]? = some a ∧ Run fl false i j))
theorem Chain.seg (c : Chain n names fl lots S) {a b : Nat} : Reach (Edge names fl) a b ↔ Seg names fl a b := by
  constructor
  · intro h
    induction h with
    | one h =>
      obtain ⟨i, ⟨h1, h2, h3⟩ | ⟨h1, h2, h3⟩⟩ := h
      · exact ⟨i, i + 1, by omega, .inl ⟨h1, h2, fun k g1 g2 => by rw [show k = i by omega]; exact h3⟩⟩
      · exact ⟨i, i + 1, by omega, .inr ⟨h1, h2, fun k g1 g2 => by rw [show k = i by omega]; exact h3⟩⟩
    | step h1 h2 ih =>
      obtain ⟨i, j, hij, ⟨e1, e2, e3⟩ | ⟨e1, e2, e3⟩⟩ := ih
      · obtain ⟨k, ⟨g1, g2, g3⟩ | ⟨g1, g2, g3⟩⟩ := h2
        · have : k = j := nd_at c.ord.nd g1 e2
          subst this
          exact ⟨i, k + 1, by omega, .inl ⟨e1, g2, fun m m1 m2 => by
            by_cases hm : m < k
            · exact e3 m m1 hm
            · rw [show m = k by omega]; exact g3⟩⟩
        · have : k + 1 = j := nd_at c.ord.nd g2 e2
          have := e3 k (by omega) (by omega)
          rw [g3] at this; simp at this
      · obtain ⟨k, ⟨g1, g2, g3⟩ | ⟨g1, g2, g3⟩⟩ := h2
        · have : k = i := nd_at c.ord.nd g1 e1
          have := e3 k (by omega) (by omega)
          rw [g3] at this; simp at this
        · have : k + 1 = i := nd_at c.ord.nd g2 e1
          subst this
          exact ⟨k, j, by omega, .inr ⟨g1, e2, fun m m1 m2 => by
            by_cases hm : m = k
            · rw [hm]; exact g3
            · exact e3 m (by omega) m2⟩⟩
  · rintro ⟨i, j, hij, h⟩
    have up : ∀ (d i j a b : Nat), j = i + 1 + d → names[i]? = some a → names[j]? = some b → Run fl true i j → Reach (Edge names fl) a b := by
      intro d
      induction d with
      | zero =>
        intro i j a b e h1 h2 h3
        subst e
        exact .one ⟨i, .inl ⟨h1, h2, h3 i (by omega) (by omega)⟩⟩
      | succ d ih =>
        intro i j a b e h1 h2 h3
        have hl := (List.getElem?_eq_some_iff.mp h2).1
        have hm : names[j - 1]? = some (names[j - 1]'(by omega)) := List.getElem?_eq_getElem _
        have := ih i (j - 1) a _ (by omega) h1 hm fun k k1 k2 => h3 k k1 (by omega)
        exact .step this ⟨j - 1, .inl ⟨hm, by rw [show j - 1 + 1 = j by omega]; exact h2, h3 (j - 1) (by omega) (by omega)⟩⟩
    have down : ∀ (d i j a b : Nat), j = i + 1 + d → names[i]? = some b → names[j]? = some a → Run fl false i j → Reach (Edge names fl) a b := by
      intro d
      induction d with
      | zero =>
        intro i j a b e h1 h2 h3
        subst e
        exact .one ⟨i, .inr ⟨h1, h2, h3 i (by omega) (by omega)⟩⟩
      | succ d ih =>
        intro i j a b e h1 h2 h3
        have hl := (List.getElem?_eq_some_iff.mp h2).1
        have hm : names[i + 1]? = some (names[i + 1]'(by omega)) := List.getElem?_eq_getElem _
        have := ih (i + 1) j a _ (by omega) hm h2 fun k k1 k2 => h3 k (by omega) k2
        exact .step this ⟨i, .inr ⟨h1, hm, h3 i (by omega) (by omega)⟩⟩
    rcases h with ⟨h1, h2, h3⟩ | ⟨h1, h2, h3⟩
    · exact up (j - i - 1) i j a b (by omega) h1 h2 h3
    · exact down (j - i - 1) i j a b (by omega) h1 h2 h3
theorem Chain.pairs (c : Chain n names fl lots S) {a b : Nat} {o : List Nat} (P : Placed (canT (masksOf lots) S) n (fun q => decide (q = a)) o) (hb : b < n) (hba : b ≠ a) : b ∉ o ↔ Seg names fl a b :=
  (c.edges.reach P hb hba).trans c.seg
theorem Chain.full (c : Chain n names fl lots S) {o : List Nat} (P : Placed (canT (masksOf lots) S) n (fun _ => false) o) : IsOrder n o := c.edges.all P
end
end LM
end
section
set_option Elab.async false
set_option linter.all false
set_option maxRecDepth 100000
set_option maxHeartbeats 0
/-! the program by places, the facts of its top, the run of the top -/
namespace Hd
open PySem PySem.Spec PyProof.Rows L2
def top (i : Nat) : Stmt := PySem.Challenge.pw_lastoflot_k47_whole_pairs_surely_ahead.main.body.getD i (.Pass ⟨0, 0, 0, 0⟩)
abbrev s_is_integer : Stmt := top 9
abbrev s_is_within : Stmt := top 10
abbrev s_is_pair : Stmt := top 11
abbrev s_is_listed : Stmt := top 12
abbrev s_are_ascending : Stmt := top 13
abbrev s_are_persons : Stmt := top 14
abbrev s_is_crowd : Stmt := top 15
abbrev s_is_lot : Stmt := top 16
abbrev s_check_crowd : Stmt := top 17
abbrev s_check_many : Stmt := top 18
abbrev s_bits_of : Stmt := top 19
abbrev s_crowd_of : Stmt := top 20
abbrev s_holds : Stmt := top 21
abbrev s_all_of : Stmt := top 22
abbrev s_first_wrong_lot : Stmt := top 25
abbrev s_is_sighting : Stmt := top 29
abbrev s_check_sightings : Stmt := top 30
abbrev s_others_within : Stmt := top 31
abbrev s_needs : Stmt := top 32
abbrev s_can_stand : Stmt := top 33
abbrev s_can_follow : Stmt := top 34
abbrev s_first_lot : Stmt := top 35
abbrev s_placed_by : Stmt := top 36
abbrev s_fitting_in : Stmt := top 37
abbrev s_check_fitting : Stmt := top 40
abbrev s_behind_all : Stmt := top 41
abbrev s_surely_ahead : Stmt := top 42
abbrev s_with_next : Stmt := top 43
abbrev s_all_let_in : Stmt := top 44
abbrev s_word_for : Stmt := top 45
abbrev s_verdicts : Stmt := top 46
abbrev s_law_hand : Stmt := top 48
abbrev s_law_draw : Stmt := top 49
abbrev s_law_flag : Stmt := top 50
abbrev s_law_is : Stmt := top 51
abbrev s_law_part : Stmt := top 52
abbrev s_law_order : Stmt := top 53
abbrev s_law_lots : Stmt := top 54
abbrev s_law_in : Stmt := top 55
abbrev s_law_crowds : Stmt := top 56
abbrev s_law_lists : Stmt := top 57
abbrev s_law_fits : Stmt := top 58
abbrev s_law_seen : Stmt := top 59
abbrev s_law_packed : Stmt := top 60
abbrev s_law_chain : Stmt := top 61
abbrev s_law_chain_seen : Stmt := top 62
abbrev s_law_great : Stmt := top 63
abbrev s_law : Stmt := top 64
abbrev s_Book_init : Stmt := inClass (top 26) 0
abbrev s_Book_keep : Stmt := inClass (top 26) 1
abbrev s_Book_eq : Stmt := inClass (top 26) 2
def d_is_integer : He.DefD := ⟨("is_integer", none), "is_integer", "is_integer", defArgs s_is_integer, defBody s_is_integer, defScope s_is_integer, [], []⟩
def d_is_within : He.DefD := ⟨("is_within", none), "is_within", "is_within", defArgs s_is_within, defBody s_is_within, defScope s_is_within, [], []⟩
def d_is_pair : He.DefD := ⟨("is_pair", none), "is_pair", "is_pair", defArgs s_is_pair, defBody s_is_pair, defScope s_is_pair, [], []⟩
def d_is_listed : He.DefD := ⟨("is_listed", none), "is_listed", "is_listed", defArgs s_is_listed, defBody s_is_listed, defScope s_is_listed, [], []⟩
def d_are_ascending : He.DefD := ⟨("are_ascending", none), "are_ascending", "are_ascending", defArgs s_are_ascending, defBody s_are_ascending, defScope s_are_ascending, [], []⟩
def d_are_persons : He.DefD := ⟨("are_persons", none), "are_persons", "are_persons", defArgs s_are_persons, defBody s_are_persons, defScope s_are_persons, [], []⟩
def d_is_crowd : He.DefD := ⟨("is_crowd", none), "is_crowd", "is_crowd", defArgs s_is_crowd, defBody s_is_crowd, defScope s_is_crowd, [], []⟩
def d_is_lot : He.DefD := ⟨("is_lot", none), "is_lot", "is_lot", defArgs s_is_lot, defBody s_is_lot, defScope s_is_lot, [], []⟩
def d_check_crowd : He.DefD := ⟨("check_crowd", none), "check_crowd", "check_crowd", defArgs s_check_crowd, defBody s_check_crowd, defScope s_check_crowd, [], []⟩
def d_check_many : He.DefD := ⟨("check_many", none), "check_many", "check_many", defArgs s_check_many, defBody s_check_many, defScope s_check_many, [], []⟩
def d_bits_of : He.DefD := ⟨("bits_of", none), "bits_of", "bits_of", defArgs s_bits_of, defBody s_bits_of, defScope s_bits_of, [], []⟩
def d_crowd_of : He.DefD := ⟨("crowd_of", none), "crowd_of", "crowd_of", defArgs s_crowd_of, defBody s_crowd_of, defScope s_crowd_of, [], []⟩
def d_holds : He.DefD := ⟨("holds", none), "holds", "holds", defArgs s_holds, defBody s_holds, defScope s_holds, [], []⟩
def d_all_of : He.DefD := ⟨("all_of", none), "all_of", "all_of", defArgs s_all_of, defBody s_all_of, defScope s_all_of, [], []⟩
def d_first_wrong_lot : He.DefD := ⟨("first_wrong_lot", none), "first_wrong_lot", "first_wrong_lot", defArgs s_first_wrong_lot, defBody s_first_wrong_lot, defScope s_first_wrong_lot, [], []⟩
def d_is_sighting : He.DefD := ⟨("is_sighting", none), "is_sighting", "is_sighting", defArgs s_is_sighting, defBody s_is_sighting, defScope s_is_sighting, [], []⟩
def d_check_sightings : He.DefD := ⟨("check_sightings", none), "check_sightings", "check_sightings", defArgs s_check_sightings, defBody s_check_sightings, defScope s_check_sightings, [], []⟩
def d_others_within : He.DefD := ⟨("others_within", none), "others_within", "others_within", defArgs s_others_within, defBody s_others_within, defScope s_others_within, [], []⟩
def d_needs : He.DefD := ⟨("needs", none), "needs", "needs", defArgs s_needs, defBody s_needs, defScope s_needs, [], []⟩
def d_can_stand : He.DefD := ⟨("can_stand", none), "can_stand", "can_stand", defArgs s_can_stand, defBody s_can_stand, defScope s_can_stand, [], []⟩
def d_can_follow : He.DefD := ⟨("can_follow", none), "can_follow", "can_follow", defArgs s_can_follow, defBody s_can_follow, defScope s_can_follow, [], []⟩
def d_first_lot : He.DefD := ⟨("first_lot", none), "first_lot", "first_lot", defArgs s_first_lot, defBody s_first_lot, defScope s_first_lot, [], []⟩
def d_placed_by : He.DefD := ⟨("placed_by", none), "placed_by", "placed_by", defArgs s_placed_by, defBody s_placed_by, defScope s_placed_by, [], []⟩
def d_fitting_in : He.DefD := ⟨("fitting_in", none), "fitting_in", "fitting_in", defArgs s_fitting_in, defBody s_fitting_in, defScope s_fitting_in, [], []⟩
def d_check_fitting : He.DefD := ⟨("check_fitting", none), "check_fitting", "check_fitting", defArgs s_check_fitting, defBody s_check_fitting, defScope s_check_fitting, [], []⟩
def d_behind_all : He.DefD := ⟨("behind_all", none), "behind_all", "behind_all", defArgs s_behind_all, defBody s_behind_all, defScope s_behind_all, [], []⟩
def d_surely_ahead : He.DefD := ⟨("surely_ahead", none), "surely_ahead", "surely_ahead", defArgs s_surely_ahead, defBody s_surely_ahead, defScope s_surely_ahead, [], []⟩
def d_with_next : He.DefD := ⟨("with_next", none), "with_next", "with_next", defArgs s_with_next, defBody s_with_next, defScope s_with_next, [], []⟩
def d_all_let_in : He.DefD := ⟨("all_let_in", none), "all_let_in", "all_let_in", defArgs s_all_let_in, defBody s_all_let_in, defScope s_all_let_in, [], []⟩
def d_word_for : He.DefD := ⟨("word_for", none), "word_for", "word_for", defArgs s_word_for, defBody s_word_for, defScope s_word_for, [], []⟩
def d_verdicts : He.DefD := ⟨("verdicts", none), "verdicts", "verdicts", defArgs s_verdicts, defBody s_verdicts, defScope s_verdicts, [], []⟩
def d_law_hand : He.DefD := ⟨("_law_hand", none), "_law_hand", "_law_hand", defArgs s_law_hand, defBody s_law_hand, defScope s_law_hand, [], []⟩
def d_law_draw : He.DefD := ⟨("_law_draw", none), "_law_draw", "_law_draw", defArgs s_law_draw, defBody s_law_draw, defScope s_law_draw, [], []⟩
def d_law_is : He.DefD := ⟨("_law_is", none), "_law_is", "_law_is", defArgs s_law_is, defBody s_law_is, defScope s_law_is, [], []⟩
def d_law_part : He.DefD := ⟨("_law_part", none), "_law_part", "_law_part", defArgs s_law_part, defBody s_law_part, defScope s_law_part, [], []⟩
def d_law_order : He.DefD := ⟨("_law_order", none), "_law_order", "_law_order", defArgs s_law_order, defBody s_law_order, defScope s_law_order, [], []⟩
def d_law_lots : He.DefD := ⟨("_law_lots", none), "_law_lots", "_law_lots", defArgs s_law_lots, defBody s_law_lots, defScope s_law_lots, [], []⟩
def d_law_in : He.DefD := ⟨("_law_in", none), "_law_in", "_law_in", defArgs s_law_in, defBody s_law_in, defScope s_law_in, [], []⟩
def d_law_crowds : He.DefD := ⟨("_law_crowds", none), "_law_crowds", "_law_crowds", defArgs s_law_crowds, defBody s_law_crowds, defScope s_law_crowds, [], []⟩
def d_law_lists : He.DefD := ⟨("_law_lists", none), "_law_lists", "_law_lists", defArgs s_law_lists, defBody s_law_lists, defScope s_law_lists, [], []⟩
def d_law_fits : He.DefD := ⟨("_law_fits", none), "_law_fits", "_law_fits", defArgs s_law_fits, defBody s_law_fits, defScope s_law_fits, [], []⟩
def d_law_seen : He.DefD := ⟨("_law_seen", none), "_law_seen", "_law_seen", defArgs s_law_seen, defBody s_law_seen, defScope s_law_seen, [], []⟩
def d_law_packed : He.DefD := ⟨("_law_packed", none), "_law_packed", "_law_packed", defArgs s_law_packed, defBody s_law_packed, defScope s_law_packed, [], []⟩
def d_law_chain : He.DefD := ⟨("_law_chain", none), "_law_chain", "_law_chain", defArgs s_law_chain, defBody s_law_chain, defScope s_law_chain, [], []⟩
def d_law_chain_seen : He.DefD := ⟨("_law_chain_seen", none), "_law_chain_seen", "_law_chain_seen", defArgs s_law_chain_seen, defBody s_law_chain_seen, defScope s_law_chain_seen, [], []⟩
def d_law_great : He.DefD := ⟨("_law_great", none), "_law_great", "_law_great", defArgs s_law_great, defBody s_law_great, defScope s_law_great, [], []⟩
def d_law : He.DefD := ⟨("law", none), "law", "law", defArgs s_law, defBody s_law, defScope s_law, [], []⟩
def d_Book_init : He.DefD := ⟨("Book", some "__init__"), "__init__", "Book.__init__", defArgs s_Book_init, defBody s_Book_init, defScope s_Book_init, [], []⟩
def d_Book_keep : He.DefD := ⟨("Book", some "keep"), "keep", "Book.keep", defArgs s_Book_keep, defBody s_Book_keep, defScope s_Book_keep, [], []⟩
def fn : List He.DefD := [d_is_integer, d_is_within, d_is_pair, d_is_listed, d_are_ascending, d_are_persons, d_is_crowd, d_is_lot, d_check_crowd, d_check_many, d_bits_of, d_crowd_of, d_holds, d_all_of, d_first_wrong_lot, d_is_sighting, d_check_sightings, d_others_within, d_needs, d_can_stand, d_can_follow, d_first_lot, d_placed_by, d_fitting_in, d_check_fitting, d_behind_all, d_surely_ahead, d_with_next, d_all_let_in, d_word_for, d_verdicts, d_law_hand, d_law_draw, d_law_is, d_law_part, d_law_order, d_law_lots, d_law_in, d_law_crowds, d_law_lists, d_law_fits, d_law_seen, d_law_packed, d_law_chain, d_law_chain_seen, d_law_great, d_law, d_Book_init, d_Book_keep]
def fa : List He.Fa := [.glo "is_integer", .glo "is_within", .glo "is_pair", .glo "is_listed", .glo "are_ascending", .glo "are_persons", .glo "is_crowd", .glo "is_lot", .glo "check_crowd", .glo "check_many", .glo "bits_of", .glo "crowd_of", .glo "holds", .glo "all_of", .glo "first_wrong_lot", .glo "is_sighting", .glo "check_sightings", .glo "others_within", .glo "needs", .glo "can_stand", .glo "can_follow", .glo "first_lot", .glo "placed_by", .glo "fitting_in", .glo "check_fitting", .glo "behind_all", .glo "surely_ahead", .glo "with_next", .glo "all_let_in", .glo "word_for", .glo "verdicts", .glo "_law_hand", .glo "_law_draw", .glo "_law_is", .glo "_law_part", .glo "_law_order", .glo "_law_lots", .glo "_law_in", .glo "_law_crowds", .glo "_law_lists", .glo "_law_fits", .glo "_law_seen", .glo "_law_packed", .glo "_law_chain", .glo "_law_chain_seen", .glo "_law_great", .glo "law", .glo "Book", .cls "Book", .noat "Book" "people", .noat "Book" "lots", .noat "Book" "masks", .meth "Book" "keep", .mkr "Book", .int "MOST_PEOPLE" 12, .int "MOST_LOTS" 60, .int "MOST_SIGHTINGS" 20, .int "MOST_JUDGED" 8, .free "len", .free "isinstance", .free "all", .free "any", .free "sum", .free "tuple", .free "range", .free "list", .free "sorted", .free "set", .free "enumerate", .free "zip", .free "int", .free "abs", .free "max", .free "bool"]
abbrev R : PySem.W.OpenRow := PySem.W.OpenLaw.row PySem.Challenge.rw_lastoflot_k47_whole_pairs_surely_ahead
def tf : List He.Defn := [("_law_crowds", none)]
def ex : PySem.W.Frag → Bool := fun _ => true
abbrev hk : PySem.W.Hook := He.hookX 5 fa fn [] tf ex
def ob (s : PySem.W.SharedT) : He.AlX := He.obsX 5 fa fn [] tf ex (HandSHeadRun.getT s)
theorem ob_eq (s : PySem.W.SharedT) : ob s = hk.obs s.abs := He.obsX_eq (HandSHeadRun.getT_eq s)
def nm0 : List Str := ["is_integer", "is_within", "is_pair", "is_listed", "are_ascending", "are_persons", "is_crowd", "is_lot", "check_crowd", "check_many", "bits_of", "crowd_of", "holds", "all_of", "first_wrong_lot"]
def nm1 : List Str := ["is_sighting", "check_sightings", "others_within", "needs", "can_stand", "can_follow", "first_lot", "placed_by", "fitting_in", "check_fitting", "behind_all", "surely_ahead", "with_next", "all_let_in", "word_for"]
def nm2 : List Str := ["verdicts", "_law_hand", "_law_draw", "_law_flag", "_law_is", "_law_part", "_law_order", "_law_lots", "_law_in", "_law_crowds", "_law_lists", "_law_fits", "_law_seen", "_law_packed", "_law_chain"]
def nm3 : List Str := ["_law_chain_seen", "_law_great", "LotError", "BadBook", "TooMany", "NoCrowd", "NoList", "NoSightings", "Book", "MOST_PEOPLE", "MOST_LOTS", "MOST_SIGHTINGS", "MOST_JUDGED"]
def nms : List Str := nm0 ++ nm1 ++ nm2 ++ nm3
theorem run (w : World) : HandSHeadRun.RunEq R (PySem.W.view R.prog [64]) hk ob 6000 nms w := by
  intro os
  kernel_rfl
end Hd
end
section
set_option Elab.async false
set_option linter.all false
set_option maxRecDepth 100000
set_option maxHeartbeats 0
/-! DLa: data at values; what an expression comes to, by data alone -/
namespace DL
open PySem L2
/-- a datum; adr: a thing at an address that may change; any: a value of which nothing is known -/
inductive Dt where
  | non | bl (b : Bool) | int (i : Int) | str (x : Str) | lst (xs : List Dt) | tup (xs : List Dt) | book (n : Int) (lots masks : Dt) | adr (a : Addr) | ty (n : String) | dct (ks : List (Int × Str)) | tupb (xs : List Dt) | any
/-- the class of books -/
structure BkC (K : PySem.W.Frag) (C : Addr) : Prop where
  cl : Cls K C
  nP : NoAttr K C "people"
  nL : NoAttr K C "lots"
  nM : NoAttr K C "masks"
mutual
inductive Rp (K : PySem.W.Frag) (G : Hp) : V → Dt → Prop
  | non : Rp K G .non .non
  | bl (b : Bool) : Rp K G (.bl b) (.bl b)
  | int (i : Int) : Rp K G (.int i) (.int i)
  | str (x : Str) : Rp K G (.str x) (.str x)
  | lst {a : Addr} {vs : List V} {ds : List Dt} : G a = some (.lst vs) → RpAll K G vs ds → Rp K G (.ref a) (.lst ds)
  | tup {a : Addr} {vs : List V} {ds : List Dt} : G a = some (.tup vs) → RpAll K G vs ds → Rp K G (.ref a) (.tup ds)
  | book {b C dx : Addr} {fs : List (Str × V)} {n : Int} {v1 v2 : V} {d1 d2 : Dt} : G b = some (.ins C dx fs) → BkC K C → fs.lookup ("people" : Str) = some (V.int n) → fs.lookup ("lots" : Str) = some v1 → Rp K G v1 d1 →
      fs.lookup ("masks" : Str) = some v2 → Rp K G v2 d2 → Rp K G (.ref b) (.book n d1 d2)
  | adr (a : Addr) : Rp K G (.ref a) (.adr a)
  | ty (n : String) : Rp K G (.ty n) (.ty n)
  | dct {a : Addr} {ks : List (Int × Str)} : G a = some (.dK (ks.map fun x => ((.inl x.1 : Key), V.str x.2))) → Rp K G (.ref a) (.dct ks)
  | tupb {a : Addr} {o : Obj} {vs : List V} {ds : List Dt} : G a = some (.frz o (.tup vs)) → o.dict = none → RpAll K G vs ds → Rp K G (.ref a) (.tupb ds)
  | any (v : V) : Rp K G v .any
inductive RpAll (K : PySem.W.Frag) (G : Hp) : List V → List Dt → Prop
  | nil : RpAll K G [] []
  | cons {v : V} {vs : List V} {d : Dt} {ds : List Dt} : Rp K G v d → RpAll K G vs ds → RpAll K G (v :: vs) (d :: ds)
end
section
variable {K : PySem.W.Frag} {G G' H H' : Hp}
theorem same_t {a : Addr} {xs : List V} (e : Same G G') (h : SqT K G a xs) : SqT K G' a xs := by
  rcases h with (h | ⟨o, h⟩) | h
  · exact .inl (.inl (e _ _ h))
  · exact .inl (.inr ⟨o, e _ _ h⟩)
  · exact .inr h
mutual
theorem Rp.mono (e : Same G G') : ∀ (d : Dt) {v : V}, Rp K G v d → Rp K G' v d
  | .non, _, .non => .non
  | .bl _, _, .bl b => .bl b
  | .int _, _, .int i => .int i
  | .str _, _, .str x => .str x
  | .lst ds, _, .lst h1 h2 => .lst (e _ _ h1) (RpAll.mono e ds h2)
  | .tup ds, _, .tup h1 h2 => .tup (e _ _ h1) (RpAll.mono e ds h2)
  | .book _ d1 d2, _, .book h1 h2 h3 h4 h5 h6 h7 => .book (e _ _ h1) h2 h3 h4 (Rp.mono e d1 h5) h6 (Rp.mono e d2 h7)
  | .adr _, _, .adr a => .adr a
  | .ty _, _, .ty n => .ty n
  | .dct _, _, .dct h => .dct (e _ _ h)
  | .tupb ds, _, .tupb h1 h2 h3 => .tupb (e _ _ h1) h2 (RpAll.mono e ds h3)
  | .any, _, .any v => .any v
theorem RpAll.mono (e : Same G G') : ∀ (ds : List Dt) {vs : List V}, RpAll K G vs ds → RpAll K G' vs ds
  | [], _, .nil => .nil
  | d :: ds, _, .cons h1 h2 => .cons (Rp.mono e d h1) (RpAll.mono e ds h2)
end
theorem RpAll.length : ∀ {vs : List V} {ds : List Dt}, RpAll K G vs ds → vs.length = ds.length
  | _, _, .nil => rfl
  | _, _, .cons _ h => congrArg (· + 1) (RpAll.length h)
theorem RpAll.get : ∀ {vs : List V} {ds : List Dt}, RpAll K G vs ds → ∀ {i : Nat} {d : Dt}, ds[i]? = some d → ∃ v, vs[i]? = some v ∧ Rp K G v d
  | _, _, .nil, i, d, h => by simp at h
  | _, _, .cons h1 h2, 0, d, h => by
    simp at h
    subst h
    exact ⟨_, rfl, h1⟩
  | _, _, .cons h1 h2, i + 1, d, h => by
    obtain ⟨v, e, r⟩ := RpAll.get h2 (i := i) (d := d) (by simpa using h)
    exact ⟨v, by simpa using e, r⟩
theorem RpAll.snoc : ∀ {vs : List V} {ds : List Dt} {v : V} {d : Dt}, RpAll K G vs ds → Rp K G v d → RpAll K G (vs ++ [v]) (ds ++ [d])
  | _, _, _, _, .nil, r => .cons r .nil
  | _, _, _, _, .cons h1 h2, r => .cons h1 (RpAll.snoc h2 r)
theorem RpAll.append : ∀ {vs ws : List V} {ds es : List Dt}, RpAll K G vs ds → RpAll K G ws es → RpAll K G (vs ++ ws) (ds ++ es)
  | _, _, _, _, .nil, r => r
  | _, _, _, _, .cons h1 h2, r => .cons h1 (RpAll.append h2 r)
theorem RpAll.anys : ∀ {vs : List V} {ds : List Dt}, RpAll K G vs ds → ∀ G', RpAll K G' vs (ds.map fun _ => Dt.any)
  | _, _, .nil, _ => .nil
  | _, _, .cons _ h, G' => .cons (.any _) (RpAll.anys h G')
theorem RpAll.drop : ∀ {vs : List V} {ds : List Dt} (n : Nat), RpAll K G vs ds → RpAll K G (vs.drop n) (ds.drop n)
  | _, _, 0, h => h
  | _, _, n + 1, .nil => .nil
  | _, _, n + 1, .cons _ h => RpAll.drop n h
theorem RpAll.take : ∀ {vs : List V} {ds : List Dt} (n : Nat), RpAll K G vs ds → RpAll K G (vs.take n) (ds.take n)
  | _, _, 0, h => .nil
  | _, _, n + 1, .nil => .nil
  | _, _, n + 1, .cons h1 h => .cons h1 (RpAll.take n h)
theorem RpAll.eraseIdx : ∀ {vs : List V} {ds : List Dt} (n : Nat), RpAll K G vs ds → RpAll K G (vs.eraseIdx n) (ds.eraseIdx n)
  | _, _, _, .nil => .nil
  | _, _, 0, .cons h1 h => h
  | _, _, n + 1, .cons h1 h => .cons h1 (RpAll.eraseIdx n h)
theorem rp_ints : ∀ {vs : List V} {ns : List Int}, RpAll K G vs (ns.map Dt.int) → vs = ns.map V.int
  | _, [], .nil => rfl
  | _, n :: ns, .cons (.int _) h => by rw [rp_ints h]; rfl
theorem ints_rp : ∀ (ns : List Int), RpAll K G (ns.map V.int) (ns.map Dt.int)
  | [] => .nil
  | n :: ns => .cons (.int n) (ints_rp ns)
theorem rp_bls : ∀ {vs : List V} {ns : List Bool}, RpAll K G vs (ns.map Dt.bl) → vs = ns.map V.bl
  | _, [], .nil => rfl
  | _, n :: ns, .cons (.bl _) h => by rw [rp_bls h]; rfl
/-! ### knowledge and heap -/
/-- from knowledge G of the heap H to G' of H': all that was stands; what is newly known is new -/
structure Ok (G H G' H' : Hp) : Prop where
  gg : Same G G'
  gh : Same G' H'
  hh : Same H H'
  fr : ∀ a o, G' a = some o → G a = none → H a = none
theorem none_of {a : Addr} (e : Same H H') (h : H' a = none) : H a = none := e.free h
theorem Ok.refl (h : Same G H) : Ok G H G H := ⟨Same.refl _, h, Same.refl _, fun a o h1 h2 => by rw [h1] at h2; cases h2⟩
theorem Ok.trans {G1 H1 G2 H2 : Hp} (a : Ok G H G1 H1) (b : Ok G1 H1 G2 H2) : Ok G H G2 H2 := ⟨a.gg.trans b.gg, b.gh, a.hh.trans b.hh, fun x o h1 h2 => by
  cases e : G1 x with
  | none => exact none_of a.hh (b.fr x o h1 e)
  | some u => exact a.fr x u e h2⟩
theorem Ok.more (h : Same G H) (hh : Same H H') : Ok G H G H' := ⟨Same.refl _, h.trans hh, hh, fun a o h1 h2 => by rw [h1] at h2; cases h2⟩
theorem same_upd {p : Addr} {o : HO} (h : H p = none) : Same H (upd H p o) := fun b x e => by
  rw [upd_ne (ne_of_none e h)]; exact e
theorem same_upd2 {p : Addr} {o : HO} (h : Same G H) : Same (upd G p o) (upd H p o) := fun b x e => by
  by_cases q : b = p
  · subst q; rw [upd_same] at e ⊢; exact e
  · rw [upd_ne q] at e ⊢; exact h _ _ e
/-- a new object, known -/
theorem Ok.new {p : Addr} {o : HO} (h : Same G H) (hp : H p = none) : Ok G H (upd G p o) (upd H p o) :=
  ⟨same_upd (none_of h hp), same_upd2 h, same_upd hp, fun a u h1 h2 => by
    by_cases q : a = p
    · subst q; exact hp
    · rw [upd_ne q] at h1; rw [h1] at h2; cases h2⟩
/-- what stands in the heap and is new, known -/
theorem Ok.know {p : Addr} {o : HO} (k : Ok G H G' H') (hp : H p = none) (h : H' p = some o) (hg : G' p = none) : Ok G H (upd G' p o) H' :=
  ⟨k.gg.trans (same_upd hg), fun b u e => by
    by_cases q : b = p
    · subst q; rw [upd_same] at e; cases e; exact h
    · rw [upd_ne q] at e; exact k.gh _ _ e, k.hh, fun a u h1 h2 => by
    by_cases q : a = p
    · subst q; exact hp
    · rw [upd_ne q] at h1; exact k.fr a u h1 h2⟩
/-! ### the slots -/
abbrev Es := List (Option Dt)
structure SlE (K : PySem.W.Frag) (G : Hp) (σ : L2.St) (es : Es) : Prop where
  len : σ.length = es.length
  at_ : ∀ (i : Nat) (d : Dt), es[i]? = some (some d) → ∃ v, σ[i]? = some (some v) ∧ Rp K G v d
theorem SlE.mono {σ : L2.St} {es : Es} (h : SlE K G σ es) (e : Same G G') : SlE K G' σ es := ⟨h.len, fun i d q => by
  obtain ⟨v, e1, r⟩ := h.at_ i d q
  exact ⟨v, e1, r.mono e⟩⟩
theorem SlE.set {σ : L2.St} {es : Es} {i : Nat} {v : V} {d : Dt} (h : SlE K G σ es) (r : Rp K G v d) : SlE K G (σ.set i (some v)) (es.set i (some d)) := ⟨by simp [h.len], fun j e q => by
  by_cases hj : i = j
  · subst hj
    by_cases hl : i < es.length
    · rw [List.getElem?_set_self hl] at q
      cases q
      exact ⟨v, List.getElem?_set_self (by rw [h.len]; exact hl), r⟩
    · rw [List.getElem?_eq_none (by simpa using hl)] at q; cases q
  · rw [List.getElem?_set_ne hj] at q
    obtain ⟨w, e1, r'⟩ := h.at_ j e q
    exact ⟨w, by rw [List.getElem?_set_ne hj]; exact e1, r'⟩⟩
theorem SlE.forget {σ : L2.St} {es : Es} (h : SlE K G σ es) (i : Nat) (o : Option V) : SlE K G (σ.set i o) (es.set i none) := ⟨by simp [h.len], fun j e q => by
  by_cases hj : i = j
  · subst hj
    by_cases hl : i < es.length
    · rw [List.getElem?_set_self hl] at q; cases q
    · rw [List.getElem?_eq_none (by simpa using hl)] at q; cases q
  · rw [List.getElem?_set_ne hj] at q
    obtain ⟨w, e1, r'⟩ := h.at_ j e q
    exact ⟨w, by rw [List.getElem?_set_ne hj]; exact e1, r'⟩⟩
def wipeE (es : Es) : List Nat → Es
  | [] => es
  | v :: vs => (wipeE es vs).set v none
theorem SlE.wipe {σ : L2.St} {es : Es} (h : SlE K G σ es) : ∀ vs : List Nat, SlE K G (wipe σ vs) (wipeE es vs)
  | [] => h
  | v :: vs => (SlE.wipe h vs).forget v none
theorem SlE.start {N : List Str} {vs : List V} {ds : List Dt} (h : RpAll K G vs ds) : SlE K G (start N vs) (ds.map some ++ List.replicate (N.length - ds.length) none) := by
  unfold L2.start
  refine ⟨by simp [h.length], fun i d q => ?_⟩
  by_cases hl : i < ds.length
  · rw [List.getElem?_append_left (by simpa using hl)] at q
    rw [List.getElem?_append_left (by rw [List.length_map, h.length]; exact hl)]
    rw [List.getElem?_map] at q
    cases e : ds[i]? with
    | none => rw [e] at q; cases q
    | some d' =>
      rw [e] at q
      have : d' = d := by simpa using q
      subst this
      obtain ⟨v, e1, r⟩ := h.get e
      exact ⟨v, by rw [List.getElem?_map, e1]; rfl, r⟩
  · rw [List.getElem?_append_right (by simpa using hl)] at q
    rw [List.getElem?_replicate] at q
    split at q <;> cases q
/-- only the slots is were set -/
def SetOn (is : List Nat) (σ σ' : L2.St) : Prop := σ'.length = σ.length ∧ ∀ j, j ∉ is → σ'[j]? = σ[j]?
theorem wipe_at (σ : L2.St) : ∀ (vs : List Nat) (j : Nat), (L2.wipe σ vs)[j]? = if j ∈ vs ∧ j < σ.length then some none else σ[j]?
  | [], j => by simp [L2.wipe]
  | v :: vs, j => by
    unfold L2.wipe
    have ih := wipe_at σ vs j
    by_cases hj : v = j
    · subst hj
      by_cases hl : v < σ.length
      · rw [List.getElem?_set_self (by rw [wipe_length]; exact hl)]; simp [hl]
      · rw [List.getElem?_eq_none (by simp [wipe_length]; omega)]
        simp [hl]
    · rw [List.getElem?_set_ne hj, ih]
      have : ¬ j = v := fun e => hj e.symm
      simp [this]
theorem wipe_eq {is vs : List Nat} {σ σ' : L2.St} (h : SetOn is (L2.wipe σ vs) σ') (hs : ∀ i ∈ is, i ∈ vs) : L2.wipe σ' vs = L2.wipe σ vs := by
  apply List.ext_getElem?
  intro j
  have hl : σ'.length = σ.length := by rw [h.1, wipe_length]
  rw [wipe_at σ' vs j, wipe_at σ vs j, hl]
  by_cases hj : j ∈ vs
  · by_cases hlt : j < σ.length
    · simp [hj, hlt]
    · rw [if_neg (by simp [hlt]), if_neg (by simp [hlt]), List.getElem?_eq_none (by omega), List.getElem?_eq_none (by omega)]
  · rw [if_neg (by simp [hj]), if_neg (by simp [hj]), h.2 j fun q => hj (hs j q), wipe_at]
    simp [hj]
/-! ### what an expression comes to -/
/-- a datum -/
def EvD (K : PySem.W.Frag) (te : TE) (es : Es) (d : Dt) : Prop := ∀ σ G H, SlE K G σ es → Same G H → ∀ Q : VK, (∀ v G' H', Ok G H G' H' → Rp K G' v d → Q v H') → te σ H Q
/-- a new list -/
def EvL (K : PySem.W.Frag) (te : TE) (es : Es) (ds : List Dt) : Prop := ∀ σ G H, SlE K G σ es → Same G H → ∀ Q : VK,
  (∀ p xs G' H', Ok G H G' H' → H p = none → G' p = none → H' p = some (.lst xs) → RpAll K G' xs ds → Q (.ref p) H') → te σ H Q
def EvT (K : PySem.W.Frag) (tt : TT) (es : Es) (b : Bool) : Prop := ∀ σ G H, SlE K G σ es → Same G H → ∀ Q : Bool → Hp → Prop, (∀ H', Same H H' → Q b H') → tt σ H Q
def EvA (K : PySem.W.Frag) (ta : TA) (es : Es) (ds : List Dt) : Prop := ∀ σ G H, SlE K G σ es → Same G H → ∀ Q : List V → Hp → Prop, (∀ vs G' H', Ok G H G' H' → RpAll K G' vs ds → Q vs H') → ta σ H Q
theorem EvL.d {te : TE} {es : Es} {ds : List Dt} (h : EvL K te es ds) : EvD K te es (.lst ds) := fun σ G H he hs Q q => h σ G H he hs Q fun p xs G' H' k hp hg hx r =>
  q _ _ _ (k.know hp hx hg) (.lst upd_same (RpAll.mono (same_upd hg) _ r))
theorem ev_var {i : Nat} {es : Es} {d : Dt} (h : es[i]? = some (some d)) : EvD K (tVar i) es d := fun σ G H he hs Q q => by
  obtain ⟨v, e, r⟩ := he.at_ i d h
  exact ⟨v, e, q v G H (.refl hs) r⟩
theorem ev_int {es : Es} {i : Int} : EvD K (tC (.int i)) es (.int i) := fun σ G H he hs Q q => q _ G H (.refl hs) (.int i)
theorem ev_bl {es : Es} {i : Bool} : EvD K (tC (.bl i)) es (.bl i) := fun σ G H he hs Q q => q _ G H (.refl hs) (.bl i)
theorem ev_str {es : Es} {i : Str} : EvD K (tC (.str i)) es (.str i) := fun σ G H he hs Q q => q _ G H (.refl hs) (.str i)
theorem ev_non {es : Es} : EvD K (tC .non) es .non := fun σ G H he hs Q q => q _ G H (.refl hs) .non
/-- a rule of two values, by data -/
def RD (K : PySem.W.Frag) (r : R2) (x y z : Dt) : Prop := ∀ u v G H, Same G H → Rp K G u x → Rp K G v y → ∀ Q : VK, (∀ w G' H', Ok G H G' H' → Rp K G' w z → Q w H') → r u v H Q
theorem ev_op {r : R2} {ta tb : TE} {es : Es} {x y z : Dt} (ha : EvD K ta es x) (hb : EvD K tb es y) (hr : RD K r x y z) : EvD K (tOp r ta tb) es z := fun σ G H he hs Q q =>
  ha σ G H he hs _ fun u G1 H1 k1 r1 => hb σ G1 H1 (he.mono k1.gg) k1.gh _ fun v G2 H2 k2 r2 => hr u v G2 H2 k2.gh (r1.mono k2.gg) r2 Q fun w G3 H3 k3 r3 => q w G3 H3 ((k1.trans k2).trans k3) r3
theorem rd_i0 {f : Int → Int → Int} {i j : Int} : RD K (rI0 fun i j => .int (f i j)) (.int i) (.int j) (.int (f i j)) := fun u v G H hs h1 h2 Q q => by
  cases h1; cases h2
  exact ⟨i, j, rfl, rfl, q _ G H (.refl hs) (.int _)⟩
theorem rd_ic {C : Int → Int → Prop} {f : Int → Int → Int} {i j : Int} (hc : C i j) : RD K (rI C fun i j => .int (f i j)) (.int i) (.int j) (.int (f i j)) := fun u v G H hs h1 h2 Q q => by
  cases h1; cases h2
  exact ⟨i, j, rfl, rfl, hc, q _ G H (.refl hs) (.int _)⟩
theorem rd_b0 {f : Int → Int → Bool} {i j : Int} : RD K (rI0 fun i j => .bl (f i j)) (.int i) (.int j) (.bl (f i j)) := fun u v G H hs h1 h2 Q q => by
  cases h1; cases h2
  exact ⟨i, j, rfl, rfl, q _ G H (.refl hs) (.bl _)⟩
theorem rd_eqI {i j : Int} : RD K rEq (.int i) (.int j) (.bl (decide (i = j))) := fun u v G H hs h1 h2 Q q => by
  cases h1; cases h2
  refine ⟨rfl, ?_⟩
  have e : decide (V.int i = V.int j) = decide (i = j) := by by_cases h : i = j <;> simp [h]
  rw [e]
  exact q _ G H (.refl hs) (.bl _)
theorem rd_neI {i j : Int} : RD K rNe (.int i) (.int j) (.bl (!decide (i = j))) := fun u v G H hs h1 h2 Q q => by
  cases h1; cases h2
  refine ⟨rfl, ?_⟩
  have e : decide (V.int i = V.int j) = decide (i = j) := by by_cases h : i = j <;> simp [h]
  rw [e]
  exact q _ G H (.refl hs) (.bl _)
theorem rd_eqB {i j : Bool} : RD K rEq (.bl i) (.bl j) (.bl (decide (i = j))) := fun u v G H hs h1 h2 Q q => by
  cases h1; cases h2
  refine ⟨rfl, ?_⟩
  have e : decide (V.bl i = V.bl j) = decide (i = j) := by by_cases h : i = j <;> simp [h]
  rw [e]
  exact q _ G H (.refl hs) (.bl _)
theorem rd_neB {i j : Bool} : RD K rNe (.bl i) (.bl j) (.bl (!decide (i = j))) := fun u v G H hs h1 h2 Q q => by
  cases h1; cases h2
  refine ⟨rfl, ?_⟩
  have e : decide (V.bl i = V.bl j) = decide (i = j) := by by_cases h : i = j <;> simp [h]
  rw [e]
  exact q _ G H (.refl hs) (.bl _)
theorem rd_ixL {xs : List Dt} {i : Int} {d : Dt} (h : atI xs i = some d) : RD K (rIxL K) (.lst xs) (.int i) d := fun u v G H hs h1 h2 Q q => by
  cases h2
  cases h1 with
  | lst h3 h4 =>
    rename_i a vs
    obtain ⟨j, e1, e2, _, _, _⟩ := atI_get h
    obtain ⟨w, e3, r⟩ := h4.get e2
    refine ⟨a, vs, i, w, rfl, rfl, SqL.of (hs _ _ h3), ?_, q w G H (.refl hs) r⟩
    unfold atI at h ⊢
    rw [h4.length]
    cases e : ixN xs.length i with
    | none => rw [e] at h; cases h
    | some j' =>
      have := ixN_seq e
      rw [e1] at this
      have hj : j = j' := by simpa using this.1
      subst hj
      exact e3
theorem rd_ixT {xs : List Dt} {i : Int} {d : Dt} (h : atI xs i = some d) : RD K (rIxT K) (.tup xs) (.int i) d := fun u v G H hs h1 h2 Q q => by
  cases h2
  cases h1 with
  | tup h3 h4 =>
    rename_i a vs
    obtain ⟨j, e1, e2, _, _, _⟩ := atI_get h
    obtain ⟨w, e3, r⟩ := h4.get e2
    refine ⟨a, vs, i, w, rfl, rfl, SqT.of (hs _ _ h3), ?_, q w G H (.refl hs) r⟩
    unfold atI at h ⊢
    rw [h4.length]
    cases e : ixN xs.length i with
    | none => rw [e] at h; cases h
    | some j' =>
      have := ixN_seq e
      rw [e1] at this
      have hj : j = j' := by simpa using this.1
      subst hj
      exact e3
/-! ### tests -/
theorem et_test {te : TE} {es : Es} {b : Bool} (h : EvD K te es (.bl b)) : EvT K (tTest te) es b := fun σ G H he hs Q q => h σ G H he hs _ fun v G' H' k r => by
  cases r
  exact ⟨b, rfl, q H' k.hh⟩
theorem et_B {te : TE} {es : Es} {b : Bool} (h : EvD K te es (.bl b)) : EvT K (tB te) es b := fun σ G H he hs Q q => h σ G H he hs _ fun v G' H' k r => by
  cases r
  exact ⟨b, rfl, q H' k.hh⟩
theorem et_not {t : TT} {es : Es} {a : Bool} (h : EvT K t es a) : EvT K (tNot t) es (!a) := fun σ G H he hs Q q => h σ G H he hs _ fun H' k => q H' k
theorem et_and {t u : TT} {es : Es} {a b : Bool} (h1 : EvT K t es a) (h2 : a = true → EvT K u es b) : EvT K (tAnd t u) es (a && b) := fun σ G H he hs Q q => h1 σ G H he hs _ fun H1 k1 => by
  cases a with
  | true =>
    show u σ H1 Q
    exact h2 rfl σ G H1 he (hs.trans k1) Q fun H2 k2 => q H2 (k1.trans k2)
  | false => exact q H1 k1
theorem et_or {t u : TT} {es : Es} {a b : Bool} (h1 : EvT K t es a) (h2 : a = false → EvT K u es b) : EvT K (tOr t u) es (a || b) := fun σ G H he hs Q q => h1 σ G H he hs _ fun H1 k1 => by
  cases a with
  | false =>
    show u σ H1 Q
    exact h2 rfl σ G H1 he (hs.trans k1) Q fun H2 k2 => q H2 (k1.trans k2)
  | true => exact q H1 k1
theorem ev_andV {ta tb : TE} {es : Es} {a b : Bool} (h1 : EvD K ta es (.bl a)) (h2 : a = true → EvD K tb es (.bl b)) : EvD K (tAndV ta tb) es (.bl (a && b)) := fun σ G H he hs Q q => h1 σ G H he hs _ fun v G1 H1 k1 r1 => by
  cases r1
  refine ⟨a, rfl, ?_⟩
  cases a with
  | true =>
    show tb σ H1 Q
    exact h2 rfl σ G1 H1 (he.mono k1.gg) k1.gh Q fun w G2 H2 k2 r2 => q w G2 H2 (k1.trans k2) r2
  | false => exact q _ G1 H1 k1 (.bl _)
theorem ev_orV {ta tb : TE} {es : Es} {a b : Bool} (h1 : EvD K ta es (.bl a)) (h2 : a = false → EvD K tb es (.bl b)) : EvD K (tOrV ta tb) es (.bl (a || b)) := fun σ G H he hs Q q => h1 σ G H he hs _ fun v G1 H1 k1 r1 => by
  cases r1
  refine ⟨a, rfl, ?_⟩
  cases a with
  | false =>
    show tb σ H1 Q
    exact h2 rfl σ G1 H1 (he.mono k1.gg) k1.gh Q fun w G2 H2 k2 r2 => q w G2 H2 (k1.trans k2) r2
  | true => exact q _ G1 H1 k1 (.bl _)
theorem ev_notV {ta : TE} {es : Es} {a : Bool} (h : EvD K ta es (.bl a)) : EvD K (tNotV ta) es (.bl (!a)) := fun σ G H he hs Q q => h σ G H he hs _ fun v G1 H1 k1 r1 => by
  cases r1
  exact ⟨a, rfl, q _ G1 H1 k1 (.bl _)⟩
theorem ev_if {t : TT} {ta tb : TE} {es : Es} {b : Bool} {d : Dt} (h : EvT K t es b) (h1 : b = true → EvD K ta es d) (h2 : b = false → EvD K tb es d) : EvD K (tIf t ta tb) es d := fun σ G H he hs Q q => h σ G H he hs _ fun H1 k1 => by
  cases b with
  | true =>
    show ta σ H1 Q
    exact h1 rfl σ G H1 he (hs.trans k1) Q fun w G2 H2 k2 r2 => q w G2 H2 ((Ok.more hs k1).trans k2) r2
  | false =>
    show tb σ H1 Q
    exact h2 rfl σ G H1 he (hs.trans k1) Q fun w G2 H2 k2 r2 => q w G2 H2 ((Ok.more hs k1).trans k2) r2
theorem ev_is {te : TE} {es : Es} {d d' : Dt} (h : EvD K te es d) (e : d = d') : EvD K te es d' := by subst e; exact h
theorem et_is {tt : TT} {es : Es} {d d' : Bool} (h : EvT K tt es d) (e : d = d') : EvT K tt es d' := by subst e; exact h
/-! ### arguments, displays, calls -/
theorem ea_nil {es : Es} : EvA K tNil es [] := fun σ G H he hs Q q => q [] G H (.refl hs) .nil
theorem ea_cons {te : TE} {ta : TA} {es : Es} {d : Dt} {ds : List Dt} (h : EvD K te es d) (hr : EvA K ta es ds) : EvA K (tCons te ta) es (d :: ds) := fun σ G H he hs Q q =>
  h σ G H he hs _ fun v G1 H1 k1 r1 => hr σ G1 H1 (he.mono k1.gg) k1.gh _ fun vs G2 H2 k2 r2 => q (v :: vs) G2 H2 (k1.trans k2) (.cons (r1.mono k2.gg) r2)
theorem small {n : Nat} (h : n ≤ 100000) : n ≤ sizeLine := Nat.le_trans h (by decide)
theorem small' {n : Nat} (h : n ≤ 100000) : n < sizeLine := Nat.lt_of_le_of_lt h (by decide)
theorem ev_tup {ta : TA} {es : Es} {ds : List Dt} (h : EvA K ta es ds) (hl : ds.length ≤ 100000) : EvD K (tTup ta) es (.tup ds) := fun σ G H he hs Q q =>
  h σ G H he hs _ fun vs G1 H1 k1 r1 => ⟨small (by rw [r1.length]; exact hl), fun p hp => q _ _ _ (k1.trans (Ok.new k1.gh hp)) (.tup upd_same (RpAll.mono (same_upd (none_of k1.gh hp)) _ r1))⟩
theorem el_lst {ta : TA} {es : Es} {ds : List Dt} (h : EvA K ta es ds) (hl : ds.length ≤ 100000) : EvL K (tLst ta) es ds := fun σ G H he hs Q q =>
  h σ G H he hs _ fun vs G1 H1 k1 r1 => ⟨small (by rw [r1.length]; exact hl), fun p hp => q p vs G1 _ (k1.trans (Ok.more k1.gh (same_upd hp))) (none_of k1.hh hp) (none_of k1.gh hp) upd_same r1⟩
/-- a call's rule, by data -/
def RC (K : PySem.W.Frag) (r : List V → Hp → VK → Prop) (ds : List Dt) (z : Dt) : Prop := ∀ vs G H, Same G H → RpAll K G vs ds → ∀ Q : VK, (∀ w G' H', Ok G H G' H' → Rp K G' w z → Q w H') → r vs H Q
def RCL (K : PySem.W.Frag) (r : List V → Hp → VK → Prop) (ds : List Dt) (zs : List Dt) : Prop := ∀ vs G H, Same G H → RpAll K G vs ds → ∀ Q : VK,
  (∀ p xs G' H', Ok G H G' H' → H p = none → G' p = none → H' p = some (.lst xs) → RpAll K G' xs zs → Q (.ref p) H') → r vs H Q
theorem ev_cb {r : List V → Hp → VK → Prop} {ta : TA} {es : Es} {ds : List Dt} {z : Dt} (h : EvA K ta es ds) (hr : RC K r ds z) : EvD K (tCB r ta) es z := fun σ G H he hs Q q =>
  h σ G H he hs _ fun vs G1 H1 k1 r1 => hr vs G1 H1 k1.gh r1 Q fun w G2 H2 k2 r2 => q w G2 H2 (k1.trans k2) r2
theorem el_cb {r : List V → Hp → VK → Prop} {ta : TA} {es : Es} {ds zs : List Dt} (h : EvA K ta es ds) (hr : RCL K r ds zs) : EvL K (tCB r ta) es zs := fun σ G H he hs Q q =>
  h σ G H he hs _ fun vs G1 H1 k1 r1 => hr vs G1 H1 k1.gh r1 Q fun p xs G2 H2 k2 hp hg hx r2 => q p xs G2 H2 (k1.trans k2) (none_of k1.hh hp) hg hx r2
/-- a def's promise, by data: inp the arguments, pre what is asked of them, out what it hands back -/
def spD {α : Type} (K : PySem.W.Frag) (inp : α → List Dt) (pre : α → Prop) (out : α → Dt) : Sp := fun vs H Q _ => ∃ (x : α) (G : Hp), Same G H ∧ RpAll K G vs (inp x) ∧ pre x ∧ ∀ v G' H', Ok G H G' H' → Rp K G' v (out x) → Q v H'
/-- .. a new list -/
def spL {α : Type} (K : PySem.W.Frag) (inp : α → List Dt) (pre : α → Prop) (out : α → List Dt) : Sp := fun vs H Q _ => ∃ (x : α) (G : Hp), Same G H ∧ RpAll K G vs (inp x) ∧ pre x ∧
  ∀ p xs G' H', Ok G H G' H' → H p = none → G' p = none → H' p = some (.lst xs) → RpAll K G' xs (out x) → Q (.ref p) H'
theorem ev_call {α : Type} {inp : α → List Dt} {pre : α → Prop} {out : α → Dt} {ta : TA} {es : Es} (x : α) (h : EvA K ta es (inp x)) (hp : pre x) : EvD K (tCall (spD K inp pre out) [] E0 ta) es (out x) := fun σ G H he hs Q q =>
  h σ G H he hs _ fun vs G1 H1 k1 r1 => ⟨x, G1, k1.gh, by rw [List.append_nil]; exact r1, hp, fun v G2 H2 k2 r2 => q v G2 H2 (k1.trans k2) r2⟩
theorem el_call {α : Type} {inp : α → List Dt} {pre : α → Prop} {out : α → List Dt} {ta : TA} {es : Es} (x : α) (h : EvA K ta es (inp x)) (hp : pre x) : EvL K (tCall (spL K inp pre out) [] E0 ta) es (out x) := fun σ G H he hs Q q =>
  h σ G H he hs _ fun vs G1 H1 k1 r1 => ⟨x, G1, k1.gh, by rw [List.append_nil]; exact r1, hp, fun p xs G2 H2 k2 hp2 hg hx r2 => q p xs G2 H2 (k1.trans k2) (none_of k1.hh hp2) hg hx r2⟩
/-! ### a book's fields -/
theorem ev_people {ta : TE} {es : Es} {n : Int} {d1 d2 : Dt} (h : EvD K ta es (.book n d1 d2)) : EvD K (tFld K ta "people") es (.int n) := fun σ G H he hs Q q => h σ G H he hs _ fun v G1 H1 k1 r1 => by
  cases r1 with
  | book h1 h2 h3 h4 h5 h6 h7 => exact ⟨_, _, _, _, _, rfl, k1.gh _ _ h1, h2.cl, h2.nP, h3, q _ G1 H1 k1 (.int _)⟩
theorem ev_lots {ta : TE} {es : Es} {n : Int} {d1 d2 : Dt} (h : EvD K ta es (.book n d1 d2)) : EvD K (tFld K ta "lots") es d1 := fun σ G H he hs Q q => h σ G H he hs _ fun v G1 H1 k1 r1 => by
  cases r1 with
  | book h1 h2 h3 h4 h5 h6 h7 => exact ⟨_, _, _, _, _, rfl, k1.gh _ _ h1, h2.cl, h2.nL, h4, q _ G1 H1 k1 h5⟩
theorem ev_masks {ta : TE} {es : Es} {n : Int} {d1 d2 : Dt} (h : EvD K ta es (.book n d1 d2)) : EvD K (tFld K ta "masks") es d2 := fun σ G H he hs Q q => h σ G H he hs _ fun v G1 H1 k1 r1 => by
  cases r1 with
  | book h1 h2 h3 h4 h5 h6 h7 => exact ⟨_, _, _, _, _, rfl, k1.gh _ _ h1, h2.cl, h2.nM, h6, q _ G1 H1 k1 h7⟩
end
end DL
end
section
set_option Elab.async false
set_option linter.all false
set_option maxRecDepth 100000
set_option maxHeartbeats 0
/-! DLb: walks, targets, comprehensions; statements, by data alone -/
namespace DL
open PySem L2
section
variable {K : PySem.W.Frag}
/-! ### walks -/
/-- the iterator J gives xs while G is known -/
def WkJ (K : PySem.W.Frag) (J : It) (G : Hp) (xs : List Dt) : Prop := ∀ H, Same G H → (∀ i, i < xs.length → J.go i H) ∧ J.stop xs.length H ∧
  ∀ (i : Nat) v H' x, xs[i]? = some x → J.yld i H v H' → ∀ Gc, Same G Gc → Same Gc H → ∃ Gc', Ok Gc H Gc' H' ∧ Rp K Gc' v x
def WkD (K : PySem.W.Frag) (wi : TI) (es : Es) (xs : List Dt) : Prop := ∀ σ G H, SlE K G σ es → Same G H → ∀ R : It → Hp → Prop, (∀ J G' H', Ok G H G' H' → WkJ K J G' xs → R J H') → wi σ H R
theorem wkj_list {G : Hp} {a : Addr} {vs : List V} {xs : List Dt} (h1 : SqL K G a vs) (h2 : RpAll K G vs xs) : WkJ K (Itl K a) G xs := fun H hs => by
  have hH := hs.seq h1
  refine ⟨fun i hi => ?_, ⟨vs, hH, by rw [h2.length]; exact Nat.le_refl _⟩, fun i v H' x hx hy Gc g1 g2 => ?_⟩
  · obtain ⟨v, e, _⟩ := h2.get (List.getElem?_eq_getElem hi)
    exact ⟨vs, v, hH, e⟩
  · obtain ⟨e, hy⟩ := hy
    subst e
    obtain ⟨w, e1, r⟩ := h2.get hx
    have := hy vs hH
    rw [e1] at this
    cases this
    exact ⟨Gc, .refl g2, r.mono g1⟩
theorem wkj_tup {G : Hp} {a : Addr} {vs : List V} {xs : List Dt} (h1 : SqT K G a vs) (h2 : RpAll K G vs xs) : WkJ K (Itt K a) G xs := fun H hs => by
  have hH := same_t hs h1
  refine ⟨fun i hi => ?_, ⟨vs, hH, by rw [h2.length]; exact Nat.le_refl _⟩, fun i v H' x hx hy Gc g1 g2 => ?_⟩
  · obtain ⟨v, e, _⟩ := h2.get (List.getElem?_eq_getElem hi)
    exact ⟨vs, v, hH, e⟩
  · obtain ⟨e, hy⟩ := hy
    subst e
    obtain ⟨w, e1, r⟩ := h2.get hx
    have := hy vs hH
    rw [e1] at this
    cases this
    exact ⟨Gc, .refl g2, r.mono g1⟩
theorem wk_list {te : TE} {es : Es} {xs : List Dt} (h : EvD K te es (.lst xs)) : WkD K (iList K te) es xs := fun σ G H he hs R q => h σ G H he hs _ fun v G1 H1 k1 r1 => by
  cases r1 with
  | lst h1 h2 => exact ⟨_, rfl, ⟨_, SqL.of (k1.gh _ _ h1)⟩, q _ G1 H1 k1 (wkj_list (SqL.of h1) h2)⟩
theorem wk_tup {te : TE} {es : Es} {xs : List Dt} (h : EvD K te es (.tup xs)) : WkD K (iTup K te) es xs := fun σ G H he hs R q => h σ G H he hs _ fun v G1 H1 k1 r1 => by
  cases r1 with
  | tup h1 h2 => exact ⟨_, rfl, ⟨_, SqT.of (k1.gh _ _ h1)⟩, q _ G1 H1 k1 (wkj_tup (SqT.of h1) h2)⟩
def rngD (lo : Int) (n : Nat) : List Dt := (List.range n).map fun (i : Nat) => Dt.int (lo + ((i : Nat) : Int))
theorem rngD_get {lo : Int} {n i : Nat} (h : i < n) : (rngD lo n)[i]? = some (.int (lo + (i : Int))) := by
  unfold rngD
  rw [List.getElem?_map, List.getElem?_range h]
  rfl
theorem rngD_len (lo : Int) (n : Nat) : (rngD lo n).length = n := by simp [rngD]
theorem wkj_range {G : Hp} {lo : Int} {n : Nat} : WkJ K (Itr lo n) G (rngD lo n) := fun H hs => by
  refine ⟨fun i hi => by rw [rngD_len] at hi; exact hi, by rw [rngD_len]; exact Nat.le_refl _, fun i v H' x hx hy Gc g1 g2 => ?_⟩
  obtain ⟨e1, e2⟩ := hy
  subst e1 e2
  have hi : i < n := by
    have := (List.getElem?_eq_some_iff.mp hx).1
    rw [rngD_len] at this; exact this
  rw [rngD_get hi] at hx
  cases hx
  exact ⟨Gc, .refl g2, .int _⟩
theorem wk_range1 {ta : TA} {es : Es} {n : Int} (h : EvA K ta es [.int n]) (h1 : -(2 ^ 62) ≤ n) (h2 : n < 2 ^ 62) : WkD K (iRng1 ta) es (rngD 0 n.toNat) := fun σ G H he hs R q => h σ G H he hs _ fun vs G1 H1 k1 r1 => by
  cases r1 with
  | cons a b =>
    cases a; cases b
    exact ⟨n, rfl, h1, h2, q _ G1 H1 k1 wkj_range⟩
theorem wk_range2 {ta : TA} {es : Es} {m n : Int} (h : EvA K ta es [.int m, .int n]) (h0 : -(2 ^ 62) ≤ m ∧ m < 2 ^ 62) (h1 : -(2 ^ 62) ≤ n) (h2 : n < 2 ^ 62) : WkD K (iRng2 ta) es (rngD m (n - m).toNat) := fun σ G H he hs R q => h σ G H he hs _ fun vs G1 H1 k1 r1 => by
  cases r1 with
  | cons a b =>
    cases b with
    | cons b c =>
      cases a; cases b; cases c
      exact ⟨m, n, rfl, ⟨h0.1, h0.2, h1, h2⟩, q _ G1 H1 k1 wkj_range⟩
theorem wk_is {wi : TI} {es : Es} {xs ys : List Dt} (h : WkD K wi es xs) (e : xs = ys) : WkD K wi es ys := by subst e; exact h
/-! ### targets -/
def TgD (K : PySem.W.Frag) (g : TG) (is : List Nat) (x : Dt) (es : Es) (k : Es → Prop) : Prop := ∀ v σ G H, SlE K G σ es → Same G H → Rp K G v x → ∀ Q : L2.St → Hp → Prop, (∀ σ' es', k es' → SlE K G σ' es' → SetOn is σ σ' → Q σ' H) → g v σ H Q
def TgsD (K : PySem.W.Frag) (g : TGs) (is : List Nat) (xs : List Dt) (es : Es) (k : Es → Prop) : Prop := ∀ vs σ G H, SlE K G σ es → Same G H → RpAll K G vs xs → ∀ Q : L2.St → Hp → Prop, (∀ σ' es', k es' → SlE K G σ' es' → SetOn is σ σ' → Q σ' H) → g vs σ H Q
theorem SetOn.one {σ : L2.St} {i : Nat} {v : Option V} : SetOn [i] σ (σ.set i v) := ⟨by simp, fun j hj => by
  have : ¬ i = j := fun e => hj (by rw [e]; simp)
  rw [List.getElem?_set_ne this]⟩
theorem tg_name {i : Nat} {x : Dt} {es : Es} {k : Es → Prop} (h : k (es.set i (some x))) : TgD K (gName i) [i] x es k := fun v σ G H he hs r Q q => q _ _ h (he.set r) .one
theorem tgs_nil {es : Es} {k : Es → Prop} (h : k es) : TgsD K gNil [] [] es k := fun vs σ G H he hs r Q q => by
  cases r
  exact ⟨rfl, q σ es h he ⟨rfl, fun _ _ => rfl⟩⟩
theorem tgs_cons {g : TG} {gs : TGs} {is js : List Nat} {x : Dt} {xs : List Dt} {es : Es} {k : Es → Prop} (h : TgD K g is x es fun es' => TgsD K gs js xs es' k) : TgsD K (gCons g gs) (is ++ js) (x :: xs) es k := fun vs σ G H he hs r Q q => by
  cases r with
  | cons r1 r2 =>
    refine ⟨_, _, rfl, h _ σ G H he hs r1 _ fun σ1 es1 k1 e1 o1 => k1 _ σ1 G H e1 hs r2 _ fun σ2 es2 k2 e2 o2 => q σ2 es2 k2 e2 ⟨o2.1.trans o1.1, fun j hj => ?_⟩⟩
    rw [o2.2 j fun z => hj (by simp [z]), o1.2 j fun z => hj (by simp [z])]
theorem tg_tup {n : Nat} {gs : TGs} {is : List Nat} {xs : List Dt} {es : Es} {k : Es → Prop} (hn : xs.length = n) (h : TgsD K gs is xs es k) : TgD K (gTup K n gs) is (.tup xs) es k := fun v σ G H he hs r Q q => by
  cases r with
  | tup h1 h2 => exact ⟨_, _, rfl, SqT.of (hs _ _ h1), by rw [h2.length]; exact hn, h _ σ G H he hs h2 Q q⟩
theorem TgD.imp {g : TG} {is : List Nat} {x : Dt} {es : Es} {k k' : Es → Prop} (h : TgD K g is x es k) (hk : ∀ e, k e → k' e) : TgD K g is x es k' := fun v σ G H he hs r Q q => h v σ G H he hs r Q fun σ' es' a b c => q σ' es' (hk _ a) b c
/-! ### comprehensions -/
theorem et_yes {es : Es} : EvT K tYes es true := fun σ G H he hs Q q => q H (Same.refl H)
theorem el_lc {α : Type} (ys : List α) (enc : α → Dt) (b : α → Bool) (f : α → Dt) {wi : TI} {g : TG} {tt : TT} {te : TE} {vs is : List Nat} {es : Es} (hw : WkD K wi es (ys.map enc)) (hi : ∀ i ∈ is, i ∈ vs) (hz : ys.length ≤ 100000)
    (ht : ∀ y ∈ ys, TgD K g is (enc y) (wipeE es vs) fun es' => EvT K tt es' (b y) ∧ (b y = true → EvD K te es' (f y))) : EvL K (tLc wi g tt te vs) es ((ys.filter b).map f) := fun σ G H he hs Q q => by
  refine hw σ G H he hs _ fun J G1 H1 k1 wj D hD => ?_
  refine ⟨fun i m Hc => m = ys.length - i ∧ i ≤ ys.length ∧ ∃ Gc xs, Ok G1 H1 Gc Hc ∧ Gc D = none ∧ Hc D = some (.lst xs) ∧ RpAll K Gc xs (((ys.take i).filter b).map f),
    ⟨_, rfl, Nat.zero_le _, G1, [], Ok.more k1.gh (same_upd hD), none_of k1.gh hD, upd_same, .nil⟩, ?_⟩
  rintro i m Hc ⟨rfl, hile, Gc, xs, kc, gD, hDx, rx⟩
  have w := wj Hc (kc.gg.trans kc.gh)
  rw [List.length_map] at w
  by_cases hlt : i < ys.length
  · refine .inr ⟨w.1 i hlt, fun H' => i + 1 ≤ ys.length ∧ ∃ Gc xs, Ok G1 H1 Gc H' ∧ Gc D = none ∧ H' D = some (.lst xs) ∧ RpAll K Gc xs (((ys.take (i + 1)).filter b).map f), fun H' z => ⟨ys.length - (i + 1), by omega, rfl, z.1, z.2⟩, fun v H' hy => ?_⟩
    have hyi : ys[i]? = some ys[i] := List.getElem?_eq_getElem hlt
    obtain ⟨Gd, kd, rv⟩ := w.2.2 i v H' (enc ys[i]) (by rw [List.getElem?_map, hyi]; rfl) hy Gc kc.gg kc.gh
    have gdD : Gd D = none := by
      cases e : Gd D with
      | none => rfl
      | some o =>
        have := kd.fr D o e gD
        rw [hDx] at this; cases this
    have hDx' := kd.hh _ _ hDx
    refine ht ys[i] (List.getElem_mem hlt) v (L2.wipe σ vs) Gd H' (((he.mono k1.gg).mono kc.gg).mono kd.gg |>.wipe vs) kd.gh rv _ fun σ2 es2 ⟨h1, h2⟩ e2 o2 => ⟨wipe_eq o2 hi, ?_⟩
    refine h1 σ2 Gd H' e2 kd.gh _ fun H3 s3 => ?_
    have etk : ys.take (i + 1) = ys.take i ++ [ys[i]] := by rw [List.take_add_one, hyi]; rfl
    cases hb : b ys[i] with
    | false =>
      refine ⟨hlt, Gd, xs, kc.trans (kd.trans (Ok.more kd.gh s3)), gdD, s3 _ _ hDx', ?_⟩
      rw [etk, List.filter_append]
      have : [ys[i]].filter b = [] := by simp [hb]
      rw [this, List.append_nil]
      exact RpAll.mono kd.gg _ rx
    | true =>
      refine h2 hb σ2 Gd H3 e2 (kd.gh.trans s3) _ fun u G4 H4 k4 r4 => ⟨xs, k4.hh _ _ (s3 _ _ hDx'), ?_, ?_⟩
      · have l1 := rx.length
        have l2 : (((ys.take i).filter b).map f).length ≤ i := by
          rw [List.length_map]
          exact Nat.le_trans (List.length_filter_le _ _) (by rw [List.length_take]; omega)
        exact small' (by omega)
      · have g4D : G4 D = none := by
          cases e : G4 D with
          | none => rfl
          | some o =>
            have := k4.fr D o e gdD
            rw [s3 _ _ hDx'] at this; cases this
        have kk : Ok G1 H1 G4 H4 := kc.trans (kd.trans ((Ok.more kd.gh s3).trans k4))
        refine ⟨hlt, G4, xs ++ [u], ⟨kk.gg, fun a o e => ?_, fun a o e => ?_, kk.fr⟩, g4D, upd_same, ?_⟩
        · rw [upd_ne (fun z => by rw [z, g4D] at e; cases e)]; exact kk.gh _ _ e
        · rw [upd_ne (fun z => by rw [z, hD] at e; cases e)]; exact kk.hh _ _ e
        · rw [etk, List.filter_append]
          have : [ys[i]].filter b = [ys[i]] := by simp [hb]
          rw [this, List.map_append]
          exact RpAll.snoc (RpAll.mono (kd.gg.trans k4.gg) _ rx) r4
  · have e : i = ys.length := by omega
    subst e
    refine .inl ⟨w.2.1, ?_⟩
    rw [List.take_length] at rx
    exact q D xs Gc Hc (k1.trans kc) (none_of k1.hh hD) gD hDx rx
/-! ### what may change -/
structure Mo where
  ad : Addr → Prop
  ok : Hp → Hp → Prop
  there : ∀ {G H : Hp} {a : Addr}, ok G H → ad a → H a ≠ none
  keep : ∀ {G H G' H' : Hp}, ok G H → Same G G' → (∀ a o, G' a = some o → G a = none → ¬ ad a) → (∀ a o, ad a → H a = some o → H' a = some o) → ok G' H'
def Mo.pure : Mo := ⟨fun _ => False, fun _ _ => True, fun _ z => z.elim, fun _ _ _ _ => trivial⟩
structure OkM (M : Mo) (G H G' H' : Hp) : Prop where
  gg : Same G G'
  gh : Same G' H'
  hh : ∀ a o, ¬ M.ad a → H a = some o → H' a = some o
  nn : ∀ a, H' a = none → H a = none
  fr : ∀ a o, G' a = some o → G a = none → H a = none
theorem OkM.of {M : Mo} {G H G' H' : Hp} (k : Ok G H G' H') : OkM M G H G' H' := ⟨k.gg, k.gh, fun a o _ e => k.hh a o e, fun a e => none_of k.hh e, k.fr⟩
theorem OkM.trans {M : Mo} {G H G1 H1 G2 H2 : Hp} (a : OkM M G H G1 H1) (b : OkM M G1 H1 G2 H2) : OkM M G H G2 H2 := ⟨a.gg.trans b.gg, b.gh, fun x o n e => b.hh x o n (a.hh x o n e), fun x e => a.nn x (b.nn x e), fun x o h1 h2 => by
  cases e : G1 x with
  | none => exact a.nn x (b.fr x o h1 e)
  | some u => exact a.fr x u e h2⟩
theorem OkM.ok {G H G' H' : Hp} (k : OkM Mo.pure G H G' H') : Ok G H G' H' := ⟨k.gg, k.gh, fun a o e => k.hh a o (fun z => z) e, k.fr⟩
/-- the lists that a body fills: where, what they hold -/
abbrev Mu := List (Addr × List Dt)
structure MuOk (K : PySem.W.Frag) (M : Mo) (H0 G H : Hp) (mu : Mu) : Prop where
  nd : (mu.map Prod.fst).Nodup
  at_ : ∀ p ∈ mu, ¬ M.ad p.1 ∧ H0 p.1 = none ∧ G p.1 = none ∧ ∃ xs, H p.1 = some (.lst xs) ∧ RpAll K G xs p.2
def Cfg (K : PySem.W.Frag) (M : Mo) (B G0 H0 : Hp) (es : Es) (mu : Mu) (σ : L2.St) (H : Hp) : Prop :=
  ∃ G, Same B G ∧ OkM M G0 H0 G H ∧ M.ok G H ∧ SlE K G σ es ∧ MuOk K M H0 G H mu
theorem MuOk.step {M : Mo} {H0 G H G' H' : Hp} {mu : Mu} (h : MuOk K M H0 G H mu) (gg : Same G G') (fr : ∀ a o, G' a = some o → G a = none → H a = none) (hh : ∀ a o, ¬ M.ad a → H a = some o → H' a = some o) : MuOk K M H0 G' H' mu := ⟨h.nd, fun p hp => by
  obtain ⟨a, b, c, xs, d, e⟩ := h.at_ p hp
  refine ⟨a, b, ?_, xs, hh _ _ a d, RpAll.mono gg _ e⟩
  cases q : G' p.1 with
  | none => rfl
  | some o =>
    have := fr _ _ q c
    rw [d] at this; cases this⟩
abbrev RT := Hp → V → Hp → Hp → Prop
def RD1 (K : PySem.W.Frag) (P : Dt → Prop) : RT := fun _ v G' _ => ∃ d, P d ∧ Rp K G' v d
def RL1 (K : PySem.W.Frag) (P : List Dt → Prop) : RT := fun H0 v G' H' => ∃ ds p xs, P ds ∧ v = .ref p ∧ H0 p = none ∧ G' p = none ∧ H' p = some (.lst xs) ∧ RpAll K G' xs ds
/-- a statement: from slots es and lists mu to N, or back with R -/
def Xs (K : PySem.W.Frag) (M : Mo) (ts : TS) (es : Es) (mu : Mu) (N : Es → Mu → Prop) (R : RT) : Prop := ∀ B G0 H0 σ H (D : Ends), Cfg K M B G0 H0 es mu σ H →
  (∀ es' mu' σ' H', N es' mu' → Cfg K M B G0 H0 es' mu' σ' H' → D.nx σ' H') → (∀ v G' H', OkM M G0 H0 G' H' → M.ok G' H' → R H0 v G' H' → D.rt v H') → ts D σ H
section
variable {M : Mo} {es : Es} {mu : Mu} {N : Es → Mu → Prop} {R : RT}
theorem x_seq {t u : TS} (h : Xs K M t es mu (fun es' mu' => Xs K M u es' mu' N R) R) : Xs K M (tSeq t u) es mu N R := fun B G0 H0 σ H D c hn hr =>
  h B G0 H0 σ H _ c (fun es' mu' σ' H' x c' => x B G0 H0 σ' H' D c' hn hr) hr
theorem x_next (h : N es mu) : Xs K M tNext es mu N R := fun B G0 H0 σ H D c hn hr => hn es mu σ H h c
theorem Xs.imp {t : TS} {N' : Es → Mu → Prop} (h : Xs K M t es mu N R) (hN : ∀ e m, N e m → N' e m) : Xs K M t es mu N' R := fun B G0 H0 σ H D c hn hr =>
  h B G0 H0 σ H D c (fun es' mu' σ' H' x c' => hn es' mu' σ' H' (hN _ _ x) c') hr
/-- a pure step -/
theorem Cfg.step {B G0 H0 G H G' H' : Hp} {σ : L2.St} (b : Same B G) (k : OkM M G0 H0 G H) (m : M.ok G H) (e : SlE K G σ es) (u : MuOk K M H0 G H mu) (s : Ok G H G' H') : Same B G' ∧ OkM M G0 H0 G' H' ∧ M.ok G' H' ∧ SlE K G' σ es ∧ MuOk K M H0 G' H' mu :=
  ⟨b.trans s.gg, k.trans (.of s), M.keep m s.gg (fun a o z1 z2 n => M.there m n (s.fr a o z1 z2)) (fun a o _ z => s.hh a o z), e.mono s.gg, u.step s.gg s.fr fun a o _ z => s.hh a o z⟩
theorem x_asg {te : TE} {i : Nat} {d : Dt} (h : EvD K te es d) (q : N (es.set i (some d)) mu) : Xs K M (tAsg te (gName i)) es mu N R := fun B G0 H0 σ H D ⟨G, b, k, m, e, u⟩ hn hr =>
  h σ G H e k.gh _ fun v G1 H1 k1 r1 => by
    obtain ⟨b', k', m', e', u'⟩ := Cfg.step b k m e u k1
    exact hn _ _ _ _ q ⟨G1, b', k', m', e'.set r1, u'⟩
theorem x_asgT {te : TE} {g : TG} {is : List Nat} {d : Dt} (h : EvD K te es d) (q : TgD K g is d es fun es' => N es' mu) : Xs K M (tAsg te g) es mu N R := fun B G0 H0 σ H D ⟨G, b, k, m, e, u⟩ hn hr =>
  h σ G H e k.gh _ fun v G1 H1 k1 r1 => by
    obtain ⟨b', k', m', e', u'⟩ := Cfg.step b k m e u k1
    exact q v σ G1 H1 e' k1.gh r1 _ fun σ' es' x e2 _ => hn _ _ _ _ x ⟨G1, b', k', m', e2, u'⟩
theorem x_drop {te : TE} {d : Dt} (h : EvD K te es d) (q : N es mu) : Xs K M (tDrop te) es mu N R := fun B G0 H0 σ H D ⟨G, b, k, m, e, u⟩ hn hr =>
  h σ G H e k.gh _ fun v G1 H1 k1 r1 => by
    obtain ⟨b', k', m', e', u'⟩ := Cfg.step b k m e u k1
    exact hn _ _ _ _ q ⟨G1, b', k', m', e', u'⟩
theorem x_ret {te : TE} {P : Dt → Prop} {d : Dt} (h : EvD K te es d) (q : P d) : Xs K M (tRet te) es mu N (RD1 K P) := fun B G0 H0 σ H D ⟨G, b, k, m, e, u⟩ hn hr =>
  h σ G H e k.gh _ fun v G1 H1 k1 r1 => by
    obtain ⟨b', k', m', e', u'⟩ := Cfg.step b k m e u k1
    exact hr v G1 H1 k' m' ⟨d, q, r1⟩
theorem x_retL {te : TE} {P : List Dt → Prop} {ds : List Dt} (h : EvL K te es ds) (q : P ds) : Xs K M (tRet te) es mu N (RL1 K P) := fun B G0 H0 σ H D ⟨G, b, k, m, e, u⟩ hn hr =>
  h σ G H e k.gh _ fun p xs G1 H1 k1 hp hg hx r1 => by
    obtain ⟨b', k', m', e', u'⟩ := Cfg.step b k m e u k1
    exact hr _ G1 H1 k' m' ⟨ds, p, xs, q, rfl, k.nn p hp, hg, hx, r1⟩
theorem x_if {tt : TT} {t u : TS} {b : Bool} (h : EvT K tt es b) (h1 : b = true → Xs K M t es mu N R) (h2 : b = false → Xs K M u es mu N R) : Xs K M (tIfS tt t u) es mu N R := fun B G0 H0 σ H D ⟨G, bb, k, m, e, uu⟩ hn hr =>
  h σ G H e k.gh _ fun H1 s1 => by
    have c : Cfg K M B G0 H0 es mu σ H1 := ⟨G, Cfg.step bb k m e uu (Ok.more k.gh s1)⟩
    cases b with
    | true =>
      show t D σ H1
      exact h1 rfl B G0 H0 σ H1 D c hn hr
    | false =>
      show u D σ H1
      exact h2 rfl B G0 H0 σ H1 D c hn hr
/-- a new list that will be filled -/
theorem MuOk.add {H0 G H : Hp} {p : Addr} {xs : List V} {ds : List Dt} (u : MuOk K M H0 G H mu) (na : ¬ M.ad p) (h0 : H0 p = none) (hg : G p = none) (hx : H p = some (.lst xs)) (r : RpAll K G xs ds) (hn : p ∉ mu.map Prod.fst) : MuOk K M H0 G H ((p, ds) :: mu) :=
  ⟨List.nodup_cons.mpr ⟨hn, u.nd⟩, fun q hq => by
    rcases List.mem_cons.mp hq with e | hq
    · subst e; exact ⟨na, h0, hg, xs, hx, r⟩
    · exact u.at_ q hq⟩
theorem x_new {te : TE} {i : Nat} {ds : List Dt} (h : EvL K te es ds) (q : ∀ l, N (es.set i (some (.adr l))) ((l, ds) :: mu)) : Xs K M (tAsg te (gName i)) es mu N R := fun B G0 H0 σ H D ⟨G, b, k, m, e, u⟩ hn hr =>
  h σ G H e k.gh _ fun p xs G1 H1 k1 hp hg hx r1 => by
    obtain ⟨b', k', m', e', u'⟩ := Cfg.step b k m e u k1
    refine hn _ _ _ _ (q p) ⟨G1, b', k', m', e'.set (.adr p), u'.add (fun z => M.there m z hp) (k.nn p hp) hg hx r1 fun z => ?_⟩
    obtain ⟨x, hx1, hx2⟩ := List.mem_map.mp z
    obtain ⟨_, _, _, ys, hy, _⟩ := u.at_ x hx1
    rw [hx2, hp] at hy; cases hy
/-- xs.append(e) -/
theorem MuOk.put {H0 G H : Hp} {j : Nat} {l : Addr} {ds ds' : List Dt} {ys : List V} (u : MuOk K M H0 G H mu) (hj : mu[j]? = some (l, ds)) (r : RpAll K G ys ds') : MuOk K M H0 G (upd H l (.lst ys)) (mu.set j (l, ds')) := by
  obtain ⟨hl, he⟩ := List.getElem?_eq_some_iff.mp hj
  have ef : (mu.set j (l, ds')).map Prod.fst = mu.map Prod.fst := by
    rw [List.map_set]
    apply List.ext_getElem?
    intro i
    by_cases hi : j = i
    · subst hi
      rw [List.getElem?_set_self (by rw [List.length_map]; exact hl), List.getElem?_map, hj]; rfl
    · rw [List.getElem?_set_ne hi]
  refine ⟨by rw [ef]; exact u.nd, fun p hp => ?_⟩
  obtain ⟨i, hi⟩ := List.getElem?_of_mem hp
  by_cases hij : j = i
  · subst hij
    rw [List.getElem?_set_self hl] at hi
    cases hi
    obtain ⟨a, b, c, _⟩ := u.at_ (l, ds) (List.mem_of_getElem? hj)
    exact ⟨a, b, c, ys, upd_same, r⟩
  · rw [List.getElem?_set_ne hij] at hi
    obtain ⟨a, b, c, xs, d, e⟩ := u.at_ p (List.mem_of_getElem? hi)
    refine ⟨a, b, c, xs, ?_, e⟩
    rw [upd_ne]
    · exact d
    · intro z
      have h1 : (mu.map Prod.fst)[i]? = some l := by rw [List.getElem?_map, hi, ← z]; rfl
      have h2 : (mu.map Prod.fst)[j]? = some l := by rw [List.getElem?_map, hj]; rfl
      obtain ⟨g1, f1⟩ := List.getElem?_eq_some_iff.mp h1
      obtain ⟨g2, f2⟩ := List.getElem?_eq_some_iff.mp h2
      exact hij ((List.getElem_inj u.nd).mp (f2.trans f1.symm))
theorem Cfg.put {B G0 H0 G H : Hp} {σ : L2.St} {j : Nat} {l : Addr} {ds ds' : List Dt} {ys : List V} (b : Same B G) (k : OkM M G0 H0 G H) (m : M.ok G H) (e : SlE K G σ es) (u : MuOk K M H0 G H mu) (hj : mu[j]? = some (l, ds)) (r : RpAll K G ys ds') :
    Cfg K M B G0 H0 es (mu.set j (l, ds')) σ (upd H l (.lst ys)) := by
  obtain ⟨na, h0, hg, xs, hx, _⟩ := u.at_ _ (List.mem_of_getElem? hj)
  refine ⟨G, b, ⟨k.gg, fun a o z => ?_, fun a o n z => ?_, fun a z => ?_, k.fr⟩, M.keep m (Same.refl G) (fun a o h1 h2 _ => by rw [h1] at h2; cases h2) fun a o n z => ?_, e, u.put hj r⟩
  · rw [upd_ne (fun q => by rw [q, hg] at z; cases z)]; exact k.gh _ _ z
  · rw [upd_ne (fun q => by rw [q, h0] at z; cases z)]; exact k.hh _ _ n z
  · by_cases q : a = l
    · rw [q]; exact h0
    · rw [upd_ne q] at z; exact k.nn _ z
  · rw [upd_ne (fun q => na (by rw [← q]; exact n))]; exact z
theorem x_app {to te : TE} (j : Nat) {l : Addr} {ds : List Dt} {d : Dt} (ho : EvD K to es (.adr l)) (h : EvD K te es d) (hj : mu[j]? = some (l, ds)) (hz : ds.length < 100000) (q : N es (mu.set j (l, ds ++ [d]))) :
    Xs K M (tDrop (tBM K "list" rAppend to (tCons te tNil))) es mu N R := fun B G0 H0 σ H D ⟨G, b, k, m, e, u⟩ hn hr =>
  ho σ G H e k.gh _ fun v G1 H1 k1 r1 => by
    cases r1
    obtain ⟨b1, k1', m1, e1, u1⟩ := Cfg.step b k m e u k1
    obtain ⟨na, h0, hg, xs, hx, rx⟩ := u1.at_ _ (List.mem_of_getElem? hj)
    refine ⟨.inl ⟨rfl, _, .inl (.inl hx)⟩, h σ G1 H1 e1 k1.gh _ fun w G2 H2 k2 r2 => ?_⟩
    obtain ⟨b2, k2', m2, e2, u2⟩ := Cfg.step b1 k1' m1 e1 u1 k2
    have hx2 := k2.hh _ _ hx
    have rx2 := RpAll.mono k2.gg _ rx
    exact ⟨l, xs, w, rfl, rfl, hx2, small' (by rw [rx.length]; exact Nat.le_of_lt hz), hn _ _ _ _ q (Cfg.put b2 k2' m2 e2 u2 hj (rx2.snoc r2))⟩
/-- for -/
theorem x_for {wi : TI} {g : TG} {tb : TS} {is : List Nat} {xs : List Dt} (I : Nat → Es → Mu → Prop) (hw : WkD K wi es xs) (h0 : I 0 es mu)
    (ht : ∀ (i : Nat) x es' mu', xs[i]? = some x → I i es' mu' → TgD K g is x es' fun es'' => Xs K M tb es'' mu' (I (i + 1)) R) (hd : ∀ es' mu', I xs.length es' mu' → N es' mu') : Xs K M (tFor wi g tb) es mu N R := fun B G0 H0 σ H D ⟨G, b, k, m, e, u⟩ hn hr => by
  refine hw σ G H e k.gh _ fun J G1 H1 k1 wj => ?_
  obtain ⟨b1, k1', m1, e1, u1⟩ := Cfg.step b k m e u k1
  refine ⟨fun i mm σ' H' => mm = xs.length - i ∧ i ≤ xs.length ∧ ∃ es' mu', I i es' mu' ∧ Cfg K M G1 G0 H0 es' mu' σ' H', ⟨_, rfl, Nat.zero_le _, es, mu, h0, G1, Same.refl _, k1', m1, e1, u1⟩, ?_⟩
  rintro i mm σ' H' ⟨rfl, hile, es', mu', hI, G2, b2, k2, m2, e2, u2⟩
  have w := wj H' (b2.trans k2.gh)
  by_cases hlt : i < xs.length
  · refine .inr ⟨w.1 i hlt, fun σ'' H'' => ∃ es' mu', I (i + 1) es' mu' ∧ Cfg K M G1 G0 H0 es' mu' σ'' H'', fun σ'' H'' z => ⟨xs.length - (i + 1), by omega, rfl, hlt, z⟩, fun v H'' hy => ?_⟩
    have hxi : xs[i]? = some xs[i] := List.getElem?_eq_getElem hlt
    obtain ⟨G3, k3, rv⟩ := w.2.2 i v H'' xs[i] hxi hy G2 b2 k2.gh
    obtain ⟨b3, k3', m3, e3, u3⟩ := Cfg.step b2 k2 m2 e2 u2 k3
    refine ht i xs[i] es' mu' hxi hI v σ' G3 H'' e3 k3.gh rv _ fun σ4 es4 x4 e4 _ => ?_
    exact x4 G1 G0 H0 σ4 H'' _ ⟨G3, b3, k3', m3, e4, u3⟩ (fun es5 mu5 σ5 H5 z c => ⟨es5, mu5, z, c⟩) hr
  · have ee : i = xs.length := by omega
    subst ee
    refine .inl ⟨w.2.1, hn es' mu' σ' H' (hd _ _ hI) ⟨G2, k1.gg.trans b2 |> b.trans, k2, m2, e2, u2⟩⟩
/-- while -/
theorem x_while {tc : TT} {tb : TS} (I : Nat → Es → Mu → Prop) {n0 : Nat} (h0 : I n0 es mu)
    (ht : ∀ n es' mu', I n es' mu' → ∃ c, EvT K tc es' c ∧ (c = true → Xs K M tb es' mu' (fun e' m' => ∃ n', n' < n ∧ I n' e' m') R) ∧ (c = false → N es' mu')) : Xs K M (tWhile tc tb) es mu N R := fun B G0 H0 σ H D c hn hr => by
  refine ⟨fun mm σ' H' => ∃ es' mu', I mm es' mu' ∧ Cfg K M B G0 H0 es' mu' σ' H', ⟨n0, es, mu, h0, c⟩, ?_⟩
  rintro mm σ' H' ⟨es', mu', hI, G, b, k, m, e, u⟩
  obtain ⟨cc, hc, h1, h2⟩ := ht mm es' mu' hI
  refine hc σ' G H' e k.gh _ fun H1 s1 => ?_
  have cf : Cfg K M B G0 H0 es' mu' σ' H1 := ⟨G, Cfg.step b k m e u (Ok.more k.gh s1)⟩
  cases cc with
  | true =>
    show ∃ N : L2.St → Hp → Prop, _
    refine ⟨fun σ2 H2 => ∃ n' es2 mu2, n' < mm ∧ I n' es2 mu2 ∧ Cfg K M B G0 H0 es2 mu2 σ2 H2, fun σ2 H2 ⟨n', es2, mu2, l, i, c⟩ => ⟨n', l, es2, mu2, i, c⟩, ?_⟩
    exact h1 rfl B G0 H0 σ' H1 _ cf (fun es2 mu2 σ2 H2 ⟨n', l, i⟩ c => ⟨n', es2, mu2, l, i, c⟩) hr
  | false =>
    show D.nx σ' H1
    exact hn _ _ _ _ (h2 rfl) cf
/-- from here on a list is not filled any more: it is data -/
def thaw (l : Addr) (ds : List Dt) (es : Es) : Es := es.map fun o => match o with
  | some (.adr a) => if a = l then some (.lst ds) else some (.adr a)
  | o => o
theorem SlE.thaw {G : Hp} {σ : L2.St} {l : Addr} {ds : List Dt} (e : SlE K G σ es) (hl : Rp K G (.ref l) (.lst ds)) : SlE K G σ (DL.thaw l ds es) := ⟨by unfold DL.thaw; rw [List.length_map]; exact e.len, fun i d q => by
  unfold DL.thaw at q
  rw [List.getElem?_map] at q
  cases h : es[i]? with
  | none => rw [h] at q; cases q
  | some o =>
    rw [h] at q
    cases o with
    | none => cases q
    | some d0 =>
      obtain ⟨v, e1, r⟩ := e.at_ i d0 h
      cases d0 with
      | adr a =>
        have q' : (if a = l then some (Dt.lst ds) else some (Dt.adr a)) = some d := by simpa using q
        by_cases ha : a = l
        · rw [if_pos ha] at q'
          cases q'
          cases r
          exact ⟨_, e1, by rw [ha]; exact hl⟩
        · rw [if_neg ha] at q'
          cases q'
          exact ⟨v, e1, r⟩
      | _ =>
        have q' : some _ = some d := Option.some.inj q
        cases q'
        exact ⟨v, e1, r⟩⟩
theorem MuOk.know {H0 G H : Hp} {l : Addr} {ds : List Dt} (u : MuOk K M H0 G H ((l, ds) :: mu)) : ¬ M.ad l ∧ ∃ xs, H l = some (.lst xs) ∧ G l = none ∧ H0 l = none ∧ RpAll K G xs ds ∧ MuOk K M H0 (upd G l (.lst xs)) H mu := by
  obtain ⟨na, h0, hg, xs, hx, r⟩ := u.at_ (l, ds) (by simp)
  obtain ⟨n1, n2⟩ := List.nodup_cons.mp u.nd
  refine ⟨na, xs, hx, hg, h0, r, n2, fun p hp => ?_⟩
  obtain ⟨a, b, c, ys, d, e⟩ := u.at_ p (List.mem_cons_of_mem _ hp)
  have hne : p.1 ≠ l := fun z => n1 (List.mem_map.mpr ⟨p, hp, z⟩)
  exact ⟨a, b, by rw [upd_ne hne]; exact c, ys, d, RpAll.mono (same_upd hg) _ e⟩
theorem Cfg.thaw {B G0 H0 H : Hp} {σ : L2.St} {l : Addr} {ds : List Dt} (c : Cfg K M B G0 H0 es ((l, ds) :: mu) σ H) : Cfg K M B G0 H0 (DL.thaw l ds es) mu σ H := by
  obtain ⟨G, b, k, m, e, u⟩ := c
  obtain ⟨na, xs, hx, hg, h0, r, u'⟩ := u.know
  have s1 : Same G (upd G l (.lst xs)) := same_upd hg
  refine ⟨upd G l (.lst xs), b.trans s1, ⟨k.gg.trans s1, fun a o z => ?_, k.hh, k.nn, fun a o z1 z2 => ?_⟩, ?_, (e.mono s1).thaw (.lst upd_same (RpAll.mono s1 _ r)), u'⟩
  · by_cases q : a = l
    · subst q; rw [upd_same] at z; cases z; exact hx
    · rw [upd_ne q] at z; exact k.gh _ _ z
  · by_cases q : a = l
    · rw [q]; exact h0
    · rw [upd_ne q] at z1; exact k.fr a o z1 z2
  · refine M.keep m s1 (fun a o z1 z2 n => ?_) fun _ _ _ z => z
    by_cases q : a = l
    · exact na (by rw [← q]; exact n)
    · rw [upd_ne q, z2] at z1; cases z1
theorem x_thaw {t : TS} {l : Addr} {ds : List Dt} (h : Xs K M t (DL.thaw l ds es) mu N R) : Xs K M t es ((l, ds) :: mu) N R := fun B G0 H0 σ H D c hn hr => h B G0 H0 σ H D c.thaw hn hr
end
end
end DL
end
section
set_option Elab.async false
set_option linter.all false
set_option maxRecDepth 100000
set_option maxHeartbeats 0
/-! DLc: the layer's rules with the written part named, and what they come to by data; a def's promise -/
namespace DL
open PySem L2
/-! ### rules with K named -/
section
variable {X : Cx} (K : PySem.W.Frag) (hK : X.K = K := by rfl)
include hK
theorem kAll (hc : X.calm = true := by rfl) : CallR X (.builtin "all") (rAll K) := hK ▸ cr_all hc
theorem kAny (hc : X.calm = true := by rfl) : CallR X (.builtin "any") (rAny K) := hK ▸ cr_any hc
theorem kSum (hc : X.calm = true := by rfl) : CallR X (.builtin "sum") (rSum K) := hK ▸ cr_sum hc
def rLenQ (K : PySem.W.Frag) : List V → Hp → VK → Prop := fun xs H Q => ∃ p ys, xs = [.ref p] ∧ (SqL K H p ys ∨ SqT K H p ys) ∧ Q (.int ys.length) H
theorem kLen : CallR X (.builtin "len") (rLenQ K) := hK ▸ call_len_seq
theorem kIsi : CallR X (.builtin "isinstance") (rIsi K) := hK ▸ call_isi
theorem kIsiT : CallR X (.builtin "isinstance") (rIsiT K) := hK ▸ call_isiT
def rTupQ (K : PySem.W.Frag) : List V → Hp → VK → Prop := fun xs H Q => ∃ p ys, xs = [.ref p] ∧ ((SqL K H p ys ∧ ∀ l, H l = none → Q (.ref l) (upd H l (.tup ys))) ∨ (SqT K H p ys ∧ Q (.ref p) H))
theorem kTup : CallR X (.type "tuple") (rTupQ K) := hK ▸ call_tuple_of
theorem kSortI : CallR X (.builtin "sorted") (rSortedI K) := hK ▸ cr_sortedI
theorem kSortP : CallR X (.builtin "sorted") (rSortedPO K) := hK ▸ cr_sortedPO
theorem kIxL : IxR X (rIxL K) := hK ▸ ix_list
theorem kIxT : IxR X (rIxT K) := hK ▸ ix_tup
theorem kSlL : SlR X (rSlL K) := hK ▸ sl_list
theorem kSlT : SlR X (rSlA K) := hK ▸ sl_tupA
theorem kIn : OpR X (compareOp .In) (rIn K false) := hK ▸ op_in_seq
theorem kNotIn : OpR X (compareOp .NotIn) (rIn K true) := hK ▸ op_notIn_seq
theorem kLtT (hu : X.A.units < cLine) : OpR X (compareOp .Lt) (rLtT K) := hK ▸ op_ltT hu
theorem kEqD (hu : X.A.units + 64 < cLine) : OpR X (compareOp .Eq) (rEqD K) := hK ▸ op_eqD hu
theorem kCatT : OpR X (binaryOp .Add) (rCatA K) := hK ▸ op_catA
theorem kIdx : MtR X "list.index" (rIndex K) := hK ▸ mt_index
theorem kFld {e : Expr} {f : Str} {pos : Pos} {ta : TE} (he : PE X e ta) (hb : attributeBase e f X.env (eval e X.env) = eval e X.env := by rfl) : PE X (.Attribute e f pos) (tFld K ta f) := hK ▸ pe_fld he hb
theorem kApp {o e : Expr} {es : List Expr} {apos cpos : Pos} {to : TE} {t : TA} {name : Str} {id : String} {T : String} {r : V → List V → Hp → VK → Prop} {pl : Sem Bool} (h : PE X (.Call (.Attribute o name apos) (e :: es) [] cpos) (tBM X.K T r to t)) : PE X (.Call (.Attribute o name apos) (e :: es) [] cpos) (tBM K T r to t) := hK ▸ h
theorem kList {tg l : Expr} {tl : TE} (hl : PE X l tl) : PI X tg l (iList K tl) := hK ▸ pi_list hl
theorem kTupW {tg l : Expr} {tl : TE} (hl : PE X l tl) : PI X tg l (iTup K tl) := hK ▸ pi_tup hl
/-- a name that holds a list or a tuple -/
def iSeq (K : PySem.W.Frag) (i : Nat) : TI := fun σ H R => ∃ a, σ[i]? = some (some (V.ref a)) ∧ (((∃ xs, SqL K H a xs) ∧ R (Itl K a) H) ∨ ((∃ xs, SqT K H a xs) ∧ R (Itt K a) H))
theorem kSeq {tg l : Expr} {i : Nat} (hl : PE X l (tVar i)) : PI X tg l (iSeq K i) := by
  refine ⟨fun pins s σ H R I h => ?_⟩
  obtain ⟨a, e, ⟨q, r⟩ | ⟨q, r⟩⟩ := h
  · exact (kList K hK hl).run pins s σ H R I ⟨.ref a, e, a, rfl, q, r⟩
  · exact (kTupW K hK hl).run pins s σ H R I ⟨.ref a, e, a, rfl, q, r⟩
end
section
variable {X : Cx}
/-- an attribute's call of one argument, a list's append: plain -/
theorem kAppend (K : PySem.W.Frag) {o e : Expr} {to te : TE} {apos cpos : Pos} {sp : Pos} {st : PS X (.Expr (.Call (.Attribute o "append" apos) [e] [] cpos) sp) (tDrop (tBM X.K "list" rAppend to (tCons te tNil)))} (hK : X.K = K := by rfl) :
    PS X (.Expr (.Call (.Attribute o "append" apos) [e] [] cpos) sp) (tDrop (tBM K "list" rAppend to (tCons te tNil))) := hK ▸ st
end
/-! ### what they come to -/
section
variable {K : PySem.W.Frag}
theorem one_rp {G : Hp} {vs : List V} {d : Dt} (h : RpAll K G vs [d]) : ∃ v, vs = [v] ∧ Rp K G v d := by
  cases h with
  | cons a b =>
    cases b
    exact ⟨_, rfl, a⟩
theorem two_rp {G : Hp} {vs : List V} {d e : Dt} (h : RpAll K G vs [d, e]) : ∃ v w, vs = [v, w] ∧ Rp K G v d ∧ Rp K G w e := by
  cases h with
  | cons a b =>
    obtain ⟨w, rfl, r⟩ := one_rp b
    exact ⟨_, w, rfl, a, r⟩
theorem rc_all (bs : List Bool) : RC K (rAll K) [.lst (bs.map Dt.bl)] (.bl (bs.all id)) := fun vs G H hs h Q q => by
  obtain ⟨v, rfl, r⟩ := one_rp h
  cases r with
  | lst h1 h2 => rw [rp_bls h2] at h1; exact ⟨_, bs, rfl, SqL.of (hs _ _ h1), q _ G H (.refl hs) (.bl _)⟩
theorem rc_any (bs : List Bool) : RC K (rAny K) [.lst (bs.map Dt.bl)] (.bl (bs.any id)) := fun vs G H hs h Q q => by
  obtain ⟨v, rfl, r⟩ := one_rp h
  cases r with
  | lst h1 h2 => rw [rp_bls h2] at h1; exact ⟨_, bs, rfl, SqL.of (hs _ _ h1), q _ G H (.refl hs) (.bl _)⟩
theorem rc_sum (ns : List Int) : RC K (rSum K) [.lst (ns.map Dt.int)] (.int ns.sum) := fun vs G H hs h Q q => by
  obtain ⟨v, rfl, r⟩ := one_rp h
  cases r with
  | lst h1 h2 => rw [rp_ints h2] at h1; exact ⟨_, ns, rfl, SqL.of (hs _ _ h1), q _ G H (.refl hs) (.int _)⟩
theorem rc_lenL {xs : List Dt} : RC K (rLenQ K) [.lst xs] (.int (xs.length : Int)) := fun vs G H hs h Q q => by
  obtain ⟨v, rfl, r⟩ := one_rp h
  cases r with
  | lst h1 h2 => exact ⟨_, _, rfl, .inl (SqL.of (hs _ _ h1)), q _ G H (.refl hs) (by rw [h2.length]; exact .int _)⟩
theorem rc_lenT {xs : List Dt} : RC K (rLenQ K) [.tup xs] (.int (xs.length : Int)) := fun vs G H hs h Q q => by
  obtain ⟨v, rfl, r⟩ := one_rp h
  cases r with
  | tup h1 h2 => exact ⟨_, _, rfl, .inr (SqT.of (hs _ _ h1)), q _ G H (.refl hs) (by rw [h2.length]; exact .int _)⟩
theorem rc_tupL {xs : List Dt} : RC K (rTupQ K) [.lst xs] (.tup xs) := fun vs G H hs h Q q => by
  obtain ⟨v, rfl, r⟩ := one_rp h
  cases r with
  | lst h1 h2 => exact ⟨_, _, rfl, .inl ⟨SqL.of (hs _ _ h1), fun l hl => q _ _ _ (Ok.new hs hl) (.tup upd_same (RpAll.mono (same_upd (none_of hs hl)) _ h2))⟩⟩
theorem rc_tupT {xs : List Dt} : RC K (rTupQ K) [.tup xs] (.tup xs) := fun vs G H hs h Q q => by
  obtain ⟨v, rfl, r⟩ := one_rp h
  cases r with
  | tup h1 h2 => exact ⟨_, _, rfl, .inr ⟨SqT.of (hs _ _ h1), q _ G H (.refl hs) (.tup h1 h2)⟩⟩
/-- a datum's type -/
def tyD : Dt → String
  | .non => "NoneType"
  | .bl _ => "bool"
  | .int _ => "int"
  | .str _ => "str"
  | .lst _ => "list"
  | .tup _ => "tuple"
  | _ => ""
theorem ty_of {G H : Hp} (hs : Same G H) {v : V} {d : Dt} (r : Rp K G v d) (h : (tyD d == "") = false) : TyX K H v (.type (tyD d)) := by
  cases r with
  | non => exact .base .non
  | bl b => exact .base (.bl b)
  | int b => exact .base (.int b)
  | str b => exact .base (.str b)
  | lst h1 h2 => exact .base (.lst (hs _ _ h1))
  | tup h1 h2 => exact .base (.tup (hs _ _ h1))
  | book => cases h
  | adr => cases h
  | ty => cases h
  | dct => cases h
  | tupb => cases h
  | any => cases h
theorem rc_isi {d : Dt} {n : String} {b : Bool} (h : (tyD d == "") = false) (hk : kitB (tyD d) n = some b) : RC K (rIsi K) [d, .ty n] (.bl b) := fun vs G H hs hv Q q => by
  obtain ⟨v, w, rfl, r1, r2⟩ := two_rp hv
  cases r2
  exact ⟨v, .ty n, _, _, b, rfl, .ty n, ty_of hs r1 h, kit_ty hk, q _ G H (.refl hs) (.bl _)⟩
theorem rc_isiT {d : Dt} {m n : String} {b c : Bool} (h : (tyD d == "") = false) (hk : kitB (tyD d) m = some b) (hk2 : kitB (tyD d) n = some c) : RC K (rIsiT K) [d, .tup [.ty m, .ty n]] (.bl (b || c)) := fun vs G H hs hv Q q => by
  obtain ⟨v, w, rfl, r1, r2⟩ := two_rp hv
  cases r2 with
  | tup h1 h2 =>
    obtain ⟨x, y, rfl, q1, q2⟩ := two_rp h2
    cases q1; cases q2
    refine ⟨v, _, _, _, [.type m, .type n], b || c, rfl, hs _ _ h1, .cons (.ty m) (.cons (.ty n) .nil), ty_of hs r1 h, ?_, q _ G H (.refl hs) (.bl _)⟩
    exact kitAny_cons (kit_ty hk) (fun e => kitAny_cons (kit_ty hk2) (fun e2 => by rw [e, e2]; exact kitAny_nil) fun e2 => by rw [e, e2]; rfl) fun e => by rw [e]; rfl
/-- sorted: the ascending one -/
theorem rc_sortI {ns ms : List Int} (hp : ms.Perm ns) (hs' : ms.Pairwise (· ≤ ·)) : RCL K (rSortedI K) [.lst (ns.map Dt.int)] (ms.map Dt.int) := fun vs G H hs h Q q => by
  obtain ⟨v, rfl, r⟩ := one_rp h
  cases r with
  | lst h1 h2 =>
    rw [rp_ints h2] at h1
    refine ⟨_, ns, rfl, SqL.of (hs _ _ h1), fun ns' p p1 p2 hp0 => ?_⟩
    have e : ns' = ms := (p1.trans hp.symm).eq_of_pairwise (fun a b _ _ h1 h2 => Int.le_antisymm h1 h2) p2 hs'
    subst e
    exact q p _ G _ (Ok.more hs (same_upd hp0)) hp0 (none_of hs hp0) upd_same (ints_rp _)
theorem rd_sl {xs : List Dt} {lo hi : Option Int} {vs : List V} {G : Hp} (h : RpAll K G vs xs) : RpAll K G (cutV vs lo hi) ((xs.drop (HT.sIx xs.length 0 lo)).take (HT.sIx xs.length xs.length hi - HT.sIx xs.length 0 lo)) := by
  unfold cutV
  rw [h.length]
  exact (h.drop _).take _
def cutD (xs : List Dt) (lo hi : Option Int) : List Dt := (xs.drop (HT.sIx xs.length 0 lo)).take (HT.sIx xs.length xs.length hi - HT.sIx xs.length 0 lo)
def EvO (K : PySem.W.Frag) (to : TO) (es : Es) (o : Option Int) : Prop := ∀ σ G H, SlE K G σ es → Same G H → ∀ Q : Option Int → Hp → Prop, (∀ H', Same H H' → Q o H') → to σ H Q
theorem eo_none {es : Es} : EvO K tNoPart es none := fun σ G H he hs Q q => q H (Same.refl H)
theorem eo_some {te : TE} {es : Es} {i : Int} (h : EvD K te es (.int i)) : EvO K (tPart te) es (some i) := fun σ G H he hs Q q => h σ G H he hs _ fun v G' H' k r => by
  cases r
  exact ⟨i, rfl, q H' k.hh⟩
theorem el_sl {te : TE} {tl th : TO} {es : Es} {xs : List Dt} {lo hi : Option Int} (h : EvD K te es (.lst xs)) (h1 : EvO K tl es lo) (h2 : EvO K th es hi) : EvL K (tSl (rSlL K) te tl th) es (cutD xs lo hi) := fun σ G H he hs Q q =>
  h σ G H he hs _ fun v G1 H1 k1 r1 => by
    cases r1 with
    | lst g1 g2 =>
      refine h1 σ G1 H1 (he.mono k1.gg) k1.gh _ fun H2 s2 => h2 σ G1 H2 (he.mono k1.gg) (k1.gh.trans s2) _ fun H3 s3 => ?_
      refine ⟨_, _, rfl, SqL.of (s3 _ _ (s2 _ _ (k1.gh _ _ g1))), fun p hp => ?_⟩
      have hp1 := none_of (s2.trans s3) hp
      exact q p _ G1 _ (k1.trans (Ok.more k1.gh ((s2.trans s3).trans (same_upd hp)))) (none_of k1.hh hp1) (none_of k1.gh hp1) upd_same (rd_sl g2)
theorem ev_slT {te : TE} {tl th : TO} {es : Es} {xs : List Dt} {lo hi : Option Int} (h : EvD K te es (.tup xs)) (h1 : EvO K tl es lo) (h2 : EvO K th es hi) : EvD K (tSl (rSlA K) te tl th) es (.tup (cutD xs lo hi)) := fun σ G H he hs Q q =>
  h σ G H he hs _ fun v G1 H1 k1 r1 => by
    cases r1 with
    | tup g1 g2 =>
      rename_i a vs
      refine h1 σ G1 H1 (he.mono k1.gg) k1.gh _ fun H2 s2 => h2 σ G1 H2 (he.mono k1.gg) (k1.gh.trans s2) _ fun H3 s3 => ?_
      have k3 : Ok G H G1 H3 := k1.trans (Ok.more k1.gh (s2.trans s3))
      refine ⟨_, _, rfl, SqT.of (k3.gh _ _ g1), fun hw => q _ G1 H3 k3 ?_, fun _ p hp => ?_⟩
      · refine .tup g1 ?_
        have e : cutD xs lo hi = xs := by
          unfold cutD
          rw [← g2.length, hw.1, hw.2]
          rw [List.drop_zero, Nat.sub_zero, g2.length, List.take_length]
        rw [e]; exact g2
      · exact q _ _ _ (k3.trans (Ok.new k3.gh hp)) (.tup upd_same (RpAll.mono (same_upd (none_of k3.gh hp)) _ (rd_sl g2)))
/-- in, not in, over ints -/
theorem inV_ints (i : Int) (ns : List Int) : inV (.int i) (ns.map V.int) = decide (i ∈ ns) := by
  unfold inV
  rw [List.any_map]
  by_cases h : i ∈ ns
  · simp only [h, decide_true]
    rw [List.any_eq_true]
    exact ⟨i, h, by simp [eqV]⟩
  · simp only [h, decide_false]
    rw [List.any_eq_false]
    intro x hx
    have : x ≠ i := fun e => h (e ▸ hx)
    simpa [eqV] using this
theorem flat_ints (ns : List Int) : (ns.map V.int).all flatV = true := by
  rw [List.all_map, List.all_eq_true]
  intro x _; rfl
theorem rd_inL {i : Int} {ns : List Int} : RD K (rIn K false) (.int i) (.lst (ns.map Dt.int)) (.bl (decide (i ∈ ns))) := fun u v G H hs h1 h2 Q q => by
  cases h1
  cases h2 with
  | lst g1 g2 =>
    rw [rp_ints g2] at g1
    refine ⟨_, _, rfl, .inl (SqL.of (hs _ _ g1)), rfl, flat_ints ns, ?_⟩
    show Q (.bl (inV (.int i) (ns.map V.int))) H
    rw [inV_ints]
    exact q _ G H (.refl hs) (.bl _)
theorem rd_inT {i : Int} {ns : List Int} : RD K (rIn K false) (.int i) (.tup (ns.map Dt.int)) (.bl (decide (i ∈ ns))) := fun u v G H hs h1 h2 Q q => by
  cases h1
  cases h2 with
  | tup g1 g2 =>
    rw [rp_ints g2] at g1
    refine ⟨_, _, rfl, .inr (SqT.of (hs _ _ g1)), rfl, flat_ints ns, ?_⟩
    show Q (.bl (inV (.int i) (ns.map V.int))) H
    rw [inV_ints]
    exact q _ G H (.refl hs) (.bl _)
theorem rd_niT {i : Int} {ns : List Int} : RD K (rIn K true) (.int i) (.tup (ns.map Dt.int)) (.bl (!decide (i ∈ ns))) := fun u v G H hs h1 h2 Q q => by
  cases h1
  cases h2 with
  | tup g1 g2 =>
    rw [rp_ints g2] at g1
    refine ⟨_, _, rfl, .inr (SqT.of (hs _ _ g1)), rfl, flat_ints ns, ?_⟩
    show Q (.bl (!inV (.int i) (ns.map V.int))) H
    rw [inV_ints]
    exact q _ G H (.refl hs) (.bl _)
/-- < of tuples of ints -/
theorem rd_ltT {ns ms : List Int} : RD K (rLtT K) (.tup (ns.map Dt.int)) (.tup (ms.map Dt.int)) (.bl (HT.lexLt ns ms)) := fun u v G H hs h1 h2 Q q => by
  cases h1 with
  | tup g1 g2 =>
    cases h2 with
    | tup g3 g4 =>
      rw [rp_ints g2] at g1
      rw [rp_ints g4] at g3
      exact ⟨_, _, ns, ms, rfl, rfl, SqT.of (hs _ _ g1), SqT.of (hs _ _ g3), q _ G H (.refl hs) (.bl _)⟩
theorem rd_catT {xs ys : List Dt} (hz : xs.length + ys.length ≤ 100000) : RD K (rCatA K) (.tup xs) (.tup ys) (.tup (xs ++ ys)) := fun u v G H hs h1 h2 Q q => by
  cases h1 with
  | tup g1 g2 =>
    cases h2 with
    | tup g3 g4 =>
      refine ⟨_, _, _, _, rfl, rfl, SqT.of (hs _ _ g1), SqT.of (hs _ _ g3), by rw [g2.length, g4.length]; exact small hz, fun e => ?_, fun _ e => ?_, fun _ _ p hp => ?_⟩
      · subst e
        cases g2
        exact q _ G H (.refl hs) (.tup g3 g4)
      · subst e
        cases g4
        exact q _ G H (.refl hs) (by rw [List.append_nil]; exact .tup g1 g2)
      · exact q _ _ _ (Ok.new hs hp) (.tup upd_same (RpAll.mono (same_upd (none_of hs hp)) _ (g2.append g4)))
/-- a chain of comparisons of ints -/
theorem ev_chain {ta tb tc : TE} {es : Es} {f g : Int → Int → Bool} {i j k : Int} (ha : EvD K ta es (.int i)) (hb : EvD K tb es (.int j)) (hc : EvD K tc es (.int k)) : EvD K (tChain (rI0 fun i j => .bl (f i j)) (rI0 fun i j => .bl (g i j)) ta tb tc) es (.bl (f i j && g j k)) := fun σ G H he hs Q q =>
  ha σ G H he hs _ fun u G1 H1 k1 r1 => hb σ G1 H1 (he.mono k1.gg) k1.gh _ fun v G2 H2 k2 r2 => by
    cases r1; cases r2
    refine ⟨i, j, rfl, rfl, f i j, rfl, ?_⟩
    cases e : f i j with
    | true =>
      show tc σ H2 _
      exact hc σ G2 H2 (he.mono (k1.gg.trans k2.gg)) k2.gh _ fun w G3 H3 k3 r3 => by
        cases r3
        exact ⟨j, k, rfl, rfl, q _ G3 H3 ((k1.trans k2).trans k3) (by rw [e, Bool.true_and]; exact .bl _)⟩
    | false =>
      show Q (.bl false) H2
      exact q _ G2 H2 (k1.trans k2) (by rw [e, Bool.false_and]; exact .bl _)
/-- is None -/
theorem rd_isN {d : Dt} (b : Bool) (h : (tyD d == "") = false) (e : (tyD d == "NoneType") = b) : RD K (fun x y H Q => y = .non ∧ Q (.bl (decide (x = .non))) H) d .non (.bl b) := fun u v G H hs h1 h2 Q q => by
  cases h2
  refine ⟨rfl, ?_⟩
  have eb : decide (u = V.non) = b := by
    subst e
    cases h1 with
    | non => rfl
    | bl b => rfl
    | int b => rfl
    | str b => rfl
    | lst h1 h2 => rfl
    | tup h1 h2 => rfl
    | book => cases h
    | adr => cases h
    | ty => cases h
    | dct => cases h
    | tupb => cases h
    | any => cases h
  rw [eb]
  exact q _ G H (.refl hs) (.bl _)
theorem rd_notN {d : Dt} (b : Bool) (h : (tyD d == "") = false) (e : (tyD d == "NoneType") = b) : RD K (fun x y H Q => y = .non ∧ Q (.bl (!decide (x = .non))) H) d .non (.bl (!b)) := fun u v G H hs h1 h2 Q q => by
  cases h2
  refine ⟨rfl, ?_⟩
  have eb : decide (u = V.non) = b := by
    subst e
    cases h1 with
    | non => rfl
    | bl b => rfl
    | int b => rfl
    | str b => rfl
    | lst h1 h2 => rfl
    | tup h1 h2 => rfl
    | book => cases h
    | adr => cases h
    | ty => cases h
    | dct => cases h
    | tupb => cases h
    | any => cases h
  rw [eb]
  exact q _ G H (.refl hs) (.bl _)
/-- n.bit_length() -/
theorem ev_bits {to : TE} {es : Es} {i : Int} (h : EvD K to es (.int i)) : EvD K (tBits to) es (.int (Builtin.Int.intBits i : Nat)) := fun σ G H he hs Q q => h σ G H he hs _ fun v G' H' k r => by
  cases r
  exact ⟨i, rfl, q _ G' H' k (.int _)⟩
theorem rc_max2 {i j : Int} : RC K (fun xs H Q => ∃ i j, xs = [V.int i, V.int j] ∧ Q (.int (if j > i then j else i)) H) [.int i, .int j] (.int (if j > i then j else i)) := fun vs G H hs h Q q => by
  obtain ⟨v, w, rfl, r1, r2⟩ := two_rp h
  cases r1; cases r2
  exact ⟨i, j, rfl, q _ G H (.refl hs) (.int _)⟩
theorem wk_seqL {i : Nat} {es : Es} {xs : List Dt} (h : es[i]? = some (some (.lst xs))) : WkD K (iSeq K i) es xs := fun σ G H he hs R q => by
  obtain ⟨v, e, r⟩ := he.at_ i _ h
  cases r with
  | lst h1 h2 => exact ⟨_, e, .inl ⟨⟨_, SqL.of (hs _ _ h1)⟩, q _ G H (.refl hs) (wkj_list (SqL.of h1) h2)⟩⟩
theorem wk_seqT {i : Nat} {es : Es} {xs : List Dt} (h : es[i]? = some (some (.tup xs))) : WkD K (iSeq K i) es xs := fun σ G H he hs R q => by
  obtain ⟨v, e, r⟩ := he.at_ i _ h
  cases r with
  | tup h1 h2 => exact ⟨_, e, .inr ⟨⟨_, SqT.of (hs _ _ h1)⟩, q _ G H (.refl hs) (wkj_tup (SqT.of h1) h2)⟩⟩
end
/-! ### a def -/
section
variable {P : Program} {w : World} {K : PySem.W.Frag} {mg : Str → Option Value} {base : Heap}
theorem rd1_ret {α : Type} {K : PySem.W.Frag} {o : Dt} {H0 : Hp} {v : V} {G' H' : Hp} (h : RD1 K (fun d => d = o) H0 v G' H') : Rp K G' v o := by
  obtain ⟨d, rfl, r⟩ := h
  exact r
theorem start_cfg {N : List Str} {vs : List V} {ds : List Dt} {G H : Hp} (hs : Same G H) (r : RpAll K G vs ds) : Cfg K Mo.pure G G H (ds.map some ++ List.replicate (N.length - ds.length) none) [] (start N vs) H :=
  ⟨G, Same.refl _, .of (.refl hs), trivial, SlE.start r, List.nodup_nil, fun p hp => by cases hp⟩
/-- a def that hands back a datum -/
theorem mkD {α : Type} {x qual : Str} {params : Arguments} {body : List Stmt} {scope : Scope} {f : Addr} {fd : FuncData} {N ps : List Str} {k : Nat} {inp : α → List Dt} {pre : α → Prop} {out : α → Dt}
    (F : FunD K x qual params body scope [] [] f fd) (S : FnScope N ps scope) (hl : ∀ x, (inp x).length = ps.length)
    (hb : ∀ us : List Value, us.length = ps.length → ∀ (kV doc pm : Value) (an : Option Addr) (cdv ct : Value), bindArgs (PySem.W.fnOf x qual params body scope .none kV doc pm an cdv ct) ⟨us, []⟩ = pure (ps.zip us)) (hm : mg x = some (.ref f))
    (hbody : ∀ (cdv : Value) (A : Around) (outer : List Env) (s : Shared) (H : Hp) (E : XK), Room k (A.deeper (PyProof.Rows.envOfC qual scope s.heap.objs.size f cdv)) →
      ∃ t, PSs (cxOf CX0 P w K mg base N qual scope f cdv A outer s H E).nox body t ∧ ∀ x, pre x → Xs K Mo.pure t ((inp x).map some ++ List.replicate (N.length - (inp x).length) none) [] (fun _ _ => out x = .non) (RD1 K fun d => d = out x)) :
    C8.Cal P w K mg base (k + 1) x (spD K inp pre out) [] := by
  refine ⟨f, fd, ps, [], F.ok S (fun vs H Q E h => ?_) (fun cdv A outer s H vs Q E hr h => ?_), hm, F.kp, F.bindsN fun kV doc pm an cdv ct us hu => hb us hu kV doc pm an cdv ct, .nil⟩
  · obtain ⟨y, G, _, r, _⟩ := h
    rw [r.length, hl]
  · obtain ⟨y, G, hs, r, hp, q⟩ := h
    obtain ⟨t, ht, hx⟩ := hbody cdv A outer s H E hr
    refine ⟨t, ht.nox, hx y hp G G H _ H _ (start_cfg hs r) (fun es' mu' σ' H' e c => ?_) fun v G' H' k' _ z => q v G' H' k'.ok (rd1_ret (α := α) z)⟩
    obtain ⟨G', _, k', _⟩ := c
    exact q .non G' H' k'.ok (by rw [e]; exact .non)
/-- .. a new list -/
theorem mkL {α : Type} {x qual : Str} {params : Arguments} {body : List Stmt} {scope : Scope} {f : Addr} {fd : FuncData} {N ps : List Str} {k : Nat} {inp : α → List Dt} {pre : α → Prop} {out : α → List Dt}
    (F : FunD K x qual params body scope [] [] f fd) (S : FnScope N ps scope) (hl : ∀ x, (inp x).length = ps.length)
    (hb : ∀ us : List Value, us.length = ps.length → ∀ (kV doc pm : Value) (an : Option Addr) (cdv ct : Value), bindArgs (PySem.W.fnOf x qual params body scope .none kV doc pm an cdv ct) ⟨us, []⟩ = pure (ps.zip us)) (hm : mg x = some (.ref f))
    (hbody : ∀ (cdv : Value) (A : Around) (outer : List Env) (s : Shared) (H : Hp) (E : XK), Room k (A.deeper (PyProof.Rows.envOfC qual scope s.heap.objs.size f cdv)) →
      ∃ t, PSs (cxOf CX0 P w K mg base N qual scope f cdv A outer s H E).nox body t ∧ ∀ x, pre x → Xs K Mo.pure t ((inp x).map some ++ List.replicate (N.length - (inp x).length) none) [] (fun _ _ => False) (RL1 K fun d => d = out x)) :
    C8.Cal P w K mg base (k + 1) x (spL K inp pre out) [] := by
  refine ⟨f, fd, ps, [], F.ok S (fun vs H Q E h => ?_) (fun cdv A outer s H vs Q E hr h => ?_), hm, F.kp, F.bindsN fun kV doc pm an cdv ct us hu => hb us hu kV doc pm an cdv ct, .nil⟩
  · obtain ⟨y, G, _, r, _⟩ := h
    rw [r.length, hl]
  · obtain ⟨y, G, hs, r, hp, q⟩ := h
    obtain ⟨t, ht, hx⟩ := hbody cdv A outer s H E hr
    refine ⟨t, ht.nox, hx y hp G G H _ H _ (start_cfg hs r) (fun es' mu' σ' H' e c => e.elim) fun v G' H' k' _ ⟨ds, p, xs, e1, e2, h1, h2, h3, h4⟩ => ?_⟩
    subst e1 e2
    exact q p xs G' H' k'.ok h1 h2 h3 h4
end
end DL
end
section
set_option Elab.async false
set_option linter.all false
set_option maxRecDepth 100000
set_option maxHeartbeats 0
/-! Tx: what the walk asks of the program as its top has left it -/
namespace DL
open PySem L2
structure Txt (K : PySem.W.Frag) (mg : Str → Option Value) : Prop where
  f_is_integer : ∃ fd, FunD K "is_integer" "is_integer" (defArgs Hd.s_is_integer) (defBody Hd.s_is_integer) (defScope Hd.s_is_integer) [] [] (He.ga K "is_integer") fd
  m_is_integer : mg "is_integer" = some (.ref (He.ga K "is_integer"))
  f_is_within : ∃ fd, FunD K "is_within" "is_within" (defArgs Hd.s_is_within) (defBody Hd.s_is_within) (defScope Hd.s_is_within) [] [] (He.ga K "is_within") fd
  m_is_within : mg "is_within" = some (.ref (He.ga K "is_within"))
  f_is_pair : ∃ fd, FunD K "is_pair" "is_pair" (defArgs Hd.s_is_pair) (defBody Hd.s_is_pair) (defScope Hd.s_is_pair) [] [] (He.ga K "is_pair") fd
  m_is_pair : mg "is_pair" = some (.ref (He.ga K "is_pair"))
  f_is_listed : ∃ fd, FunD K "is_listed" "is_listed" (defArgs Hd.s_is_listed) (defBody Hd.s_is_listed) (defScope Hd.s_is_listed) [] [] (He.ga K "is_listed") fd
  m_is_listed : mg "is_listed" = some (.ref (He.ga K "is_listed"))
  f_are_ascending : ∃ fd, FunD K "are_ascending" "are_ascending" (defArgs Hd.s_are_ascending) (defBody Hd.s_are_ascending) (defScope Hd.s_are_ascending) [] [] (He.ga K "are_ascending") fd
  m_are_ascending : mg "are_ascending" = some (.ref (He.ga K "are_ascending"))
  f_are_persons : ∃ fd, FunD K "are_persons" "are_persons" (defArgs Hd.s_are_persons) (defBody Hd.s_are_persons) (defScope Hd.s_are_persons) [] [] (He.ga K "are_persons") fd
  m_are_persons : mg "are_persons" = some (.ref (He.ga K "are_persons"))
  f_is_crowd : ∃ fd, FunD K "is_crowd" "is_crowd" (defArgs Hd.s_is_crowd) (defBody Hd.s_is_crowd) (defScope Hd.s_is_crowd) [] [] (He.ga K "is_crowd") fd
  m_is_crowd : mg "is_crowd" = some (.ref (He.ga K "is_crowd"))
  f_is_lot : ∃ fd, FunD K "is_lot" "is_lot" (defArgs Hd.s_is_lot) (defBody Hd.s_is_lot) (defScope Hd.s_is_lot) [] [] (He.ga K "is_lot") fd
  m_is_lot : mg "is_lot" = some (.ref (He.ga K "is_lot"))
  f_check_crowd : ∃ fd, FunD K "check_crowd" "check_crowd" (defArgs Hd.s_check_crowd) (defBody Hd.s_check_crowd) (defScope Hd.s_check_crowd) [] [] (He.ga K "check_crowd") fd
  m_check_crowd : mg "check_crowd" = some (.ref (He.ga K "check_crowd"))
  f_check_many : ∃ fd, FunD K "check_many" "check_many" (defArgs Hd.s_check_many) (defBody Hd.s_check_many) (defScope Hd.s_check_many) [] [] (He.ga K "check_many") fd
  m_check_many : mg "check_many" = some (.ref (He.ga K "check_many"))
  f_bits_of : ∃ fd, FunD K "bits_of" "bits_of" (defArgs Hd.s_bits_of) (defBody Hd.s_bits_of) (defScope Hd.s_bits_of) [] [] (He.ga K "bits_of") fd
  m_bits_of : mg "bits_of" = some (.ref (He.ga K "bits_of"))
  f_crowd_of : ∃ fd, FunD K "crowd_of" "crowd_of" (defArgs Hd.s_crowd_of) (defBody Hd.s_crowd_of) (defScope Hd.s_crowd_of) [] [] (He.ga K "crowd_of") fd
  m_crowd_of : mg "crowd_of" = some (.ref (He.ga K "crowd_of"))
  f_holds : ∃ fd, FunD K "holds" "holds" (defArgs Hd.s_holds) (defBody Hd.s_holds) (defScope Hd.s_holds) [] [] (He.ga K "holds") fd
  m_holds : mg "holds" = some (.ref (He.ga K "holds"))
  f_all_of : ∃ fd, FunD K "all_of" "all_of" (defArgs Hd.s_all_of) (defBody Hd.s_all_of) (defScope Hd.s_all_of) [] [] (He.ga K "all_of") fd
  m_all_of : mg "all_of" = some (.ref (He.ga K "all_of"))
  f_first_wrong_lot : ∃ fd, FunD K "first_wrong_lot" "first_wrong_lot" (defArgs Hd.s_first_wrong_lot) (defBody Hd.s_first_wrong_lot) (defScope Hd.s_first_wrong_lot) [] [] (He.ga K "first_wrong_lot") fd
  m_first_wrong_lot : mg "first_wrong_lot" = some (.ref (He.ga K "first_wrong_lot"))
  f_is_sighting : ∃ fd, FunD K "is_sighting" "is_sighting" (defArgs Hd.s_is_sighting) (defBody Hd.s_is_sighting) (defScope Hd.s_is_sighting) [] [] (He.ga K "is_sighting") fd
  m_is_sighting : mg "is_sighting" = some (.ref (He.ga K "is_sighting"))
  f_check_sightings : ∃ fd, FunD K "check_sightings" "check_sightings" (defArgs Hd.s_check_sightings) (defBody Hd.s_check_sightings) (defScope Hd.s_check_sightings) [] [] (He.ga K "check_sightings") fd
  m_check_sightings : mg "check_sightings" = some (.ref (He.ga K "check_sightings"))
  f_others_within : ∃ fd, FunD K "others_within" "others_within" (defArgs Hd.s_others_within) (defBody Hd.s_others_within) (defScope Hd.s_others_within) [] [] (He.ga K "others_within") fd
  m_others_within : mg "others_within" = some (.ref (He.ga K "others_within"))
  f_needs : ∃ fd, FunD K "needs" "needs" (defArgs Hd.s_needs) (defBody Hd.s_needs) (defScope Hd.s_needs) [] [] (He.ga K "needs") fd
  m_needs : mg "needs" = some (.ref (He.ga K "needs"))
  f_can_stand : ∃ fd, FunD K "can_stand" "can_stand" (defArgs Hd.s_can_stand) (defBody Hd.s_can_stand) (defScope Hd.s_can_stand) [] [] (He.ga K "can_stand") fd
  m_can_stand : mg "can_stand" = some (.ref (He.ga K "can_stand"))
  f_can_follow : ∃ fd, FunD K "can_follow" "can_follow" (defArgs Hd.s_can_follow) (defBody Hd.s_can_follow) (defScope Hd.s_can_follow) [] [] (He.ga K "can_follow") fd
  m_can_follow : mg "can_follow" = some (.ref (He.ga K "can_follow"))
  f_first_lot : ∃ fd, FunD K "first_lot" "first_lot" (defArgs Hd.s_first_lot) (defBody Hd.s_first_lot) (defScope Hd.s_first_lot) [] [] (He.ga K "first_lot") fd
  m_first_lot : mg "first_lot" = some (.ref (He.ga K "first_lot"))
  f_placed_by : ∃ fd, FunD K "placed_by" "placed_by" (defArgs Hd.s_placed_by) (defBody Hd.s_placed_by) (defScope Hd.s_placed_by) [] [] (He.ga K "placed_by") fd
  m_placed_by : mg "placed_by" = some (.ref (He.ga K "placed_by"))
  f_fitting_in : ∃ fd, FunD K "fitting_in" "fitting_in" (defArgs Hd.s_fitting_in) (defBody Hd.s_fitting_in) (defScope Hd.s_fitting_in) [] [] (He.ga K "fitting_in") fd
  m_fitting_in : mg "fitting_in" = some (.ref (He.ga K "fitting_in"))
  f_check_fitting : ∃ fd, FunD K "check_fitting" "check_fitting" (defArgs Hd.s_check_fitting) (defBody Hd.s_check_fitting) (defScope Hd.s_check_fitting) [] [] (He.ga K "check_fitting") fd
  m_check_fitting : mg "check_fitting" = some (.ref (He.ga K "check_fitting"))
  f_behind_all : ∃ fd, FunD K "behind_all" "behind_all" (defArgs Hd.s_behind_all) (defBody Hd.s_behind_all) (defScope Hd.s_behind_all) [] [] (He.ga K "behind_all") fd
  m_behind_all : mg "behind_all" = some (.ref (He.ga K "behind_all"))
  f_surely_ahead : ∃ fd, FunD K "surely_ahead" "surely_ahead" (defArgs Hd.s_surely_ahead) (defBody Hd.s_surely_ahead) (defScope Hd.s_surely_ahead) [] [] (He.ga K "surely_ahead") fd
  m_surely_ahead : mg "surely_ahead" = some (.ref (He.ga K "surely_ahead"))
  f_with_next : ∃ fd, FunD K "with_next" "with_next" (defArgs Hd.s_with_next) (defBody Hd.s_with_next) (defScope Hd.s_with_next) [] [] (He.ga K "with_next") fd
  m_with_next : mg "with_next" = some (.ref (He.ga K "with_next"))
  f_all_let_in : ∃ fd, FunD K "all_let_in" "all_let_in" (defArgs Hd.s_all_let_in) (defBody Hd.s_all_let_in) (defScope Hd.s_all_let_in) [] [] (He.ga K "all_let_in") fd
  m_all_let_in : mg "all_let_in" = some (.ref (He.ga K "all_let_in"))
  f_word_for : ∃ fd, FunD K "word_for" "word_for" (defArgs Hd.s_word_for) (defBody Hd.s_word_for) (defScope Hd.s_word_for) [] [] (He.ga K "word_for") fd
  m_word_for : mg "word_for" = some (.ref (He.ga K "word_for"))
  f_verdicts : ∃ fd, FunD K "verdicts" "verdicts" (defArgs Hd.s_verdicts) (defBody Hd.s_verdicts) (defScope Hd.s_verdicts) [] [] (He.ga K "verdicts") fd
  m_verdicts : mg "verdicts" = some (.ref (He.ga K "verdicts"))
  f_law_hand : ∃ fd, FunD K "_law_hand" "_law_hand" (defArgs Hd.s_law_hand) (defBody Hd.s_law_hand) (defScope Hd.s_law_hand) [] [] (He.ga K "_law_hand") fd
  m_law_hand : mg "_law_hand" = some (.ref (He.ga K "_law_hand"))
  f_law_draw : ∃ fd, FunD K "_law_draw" "_law_draw" (defArgs Hd.s_law_draw) (defBody Hd.s_law_draw) (defScope Hd.s_law_draw) [] [] (He.ga K "_law_draw") fd
  m_law_draw : mg "_law_draw" = some (.ref (He.ga K "_law_draw"))
  f_law_is : ∃ fd, FunD K "_law_is" "_law_is" (defArgs Hd.s_law_is) (defBody Hd.s_law_is) (defScope Hd.s_law_is) [] [] (He.ga K "_law_is") fd
  m_law_is : mg "_law_is" = some (.ref (He.ga K "_law_is"))
  f_law_part : ∃ fd, FunD K "_law_part" "_law_part" (defArgs Hd.s_law_part) (defBody Hd.s_law_part) (defScope Hd.s_law_part) [] [] (He.ga K "_law_part") fd
  m_law_part : mg "_law_part" = some (.ref (He.ga K "_law_part"))
  f_law_order : ∃ fd, FunD K "_law_order" "_law_order" (defArgs Hd.s_law_order) (defBody Hd.s_law_order) (defScope Hd.s_law_order) [] [] (He.ga K "_law_order") fd
  m_law_order : mg "_law_order" = some (.ref (He.ga K "_law_order"))
  f_law_lots : ∃ fd, FunD K "_law_lots" "_law_lots" (defArgs Hd.s_law_lots) (defBody Hd.s_law_lots) (defScope Hd.s_law_lots) [] [] (He.ga K "_law_lots") fd
  m_law_lots : mg "_law_lots" = some (.ref (He.ga K "_law_lots"))
  f_law_in : ∃ fd, FunD K "_law_in" "_law_in" (defArgs Hd.s_law_in) (defBody Hd.s_law_in) (defScope Hd.s_law_in) [] [] (He.ga K "_law_in") fd
  m_law_in : mg "_law_in" = some (.ref (He.ga K "_law_in"))
  f_law_crowds : ∃ fd, FunD K "_law_crowds" "_law_crowds" (defArgs Hd.s_law_crowds) (defBody Hd.s_law_crowds) (defScope Hd.s_law_crowds) [] [] (He.ga K "_law_crowds") fd
  m_law_crowds : mg "_law_crowds" = some (.ref (He.ga K "_law_crowds"))
  f_law_lists : ∃ fd, FunD K "_law_lists" "_law_lists" (defArgs Hd.s_law_lists) (defBody Hd.s_law_lists) (defScope Hd.s_law_lists) [] [] (He.ga K "_law_lists") fd
  m_law_lists : mg "_law_lists" = some (.ref (He.ga K "_law_lists"))
  f_law_fits : ∃ fd, FunD K "_law_fits" "_law_fits" (defArgs Hd.s_law_fits) (defBody Hd.s_law_fits) (defScope Hd.s_law_fits) [] [] (He.ga K "_law_fits") fd
  m_law_fits : mg "_law_fits" = some (.ref (He.ga K "_law_fits"))
  f_law_seen : ∃ fd, FunD K "_law_seen" "_law_seen" (defArgs Hd.s_law_seen) (defBody Hd.s_law_seen) (defScope Hd.s_law_seen) [] [] (He.ga K "_law_seen") fd
  m_law_seen : mg "_law_seen" = some (.ref (He.ga K "_law_seen"))
  f_law_packed : ∃ fd, FunD K "_law_packed" "_law_packed" (defArgs Hd.s_law_packed) (defBody Hd.s_law_packed) (defScope Hd.s_law_packed) [] [] (He.ga K "_law_packed") fd
  m_law_packed : mg "_law_packed" = some (.ref (He.ga K "_law_packed"))
  f_law_chain : ∃ fd, FunD K "_law_chain" "_law_chain" (defArgs Hd.s_law_chain) (defBody Hd.s_law_chain) (defScope Hd.s_law_chain) [] [] (He.ga K "_law_chain") fd
  m_law_chain : mg "_law_chain" = some (.ref (He.ga K "_law_chain"))
  f_law_chain_seen : ∃ fd, FunD K "_law_chain_seen" "_law_chain_seen" (defArgs Hd.s_law_chain_seen) (defBody Hd.s_law_chain_seen) (defScope Hd.s_law_chain_seen) [] [] (He.ga K "_law_chain_seen") fd
  m_law_chain_seen : mg "_law_chain_seen" = some (.ref (He.ga K "_law_chain_seen"))
  f_law_great : ∃ fd, FunD K "_law_great" "_law_great" (defArgs Hd.s_law_great) (defBody Hd.s_law_great) (defScope Hd.s_law_great) [] [] (He.ga K "_law_great") fd
  m_law_great : mg "_law_great" = some (.ref (He.ga K "_law_great"))
  f_law : ∃ fd, FunD K "law" "law" (defArgs Hd.s_law) (defBody Hd.s_law) (defScope Hd.s_law) [] [] (He.ga K "law") fd
  m_law : mg "law" = some (.ref (He.ga K "law"))
  f_Book_init : ∃ fd, FunD K "__init__" "Book.__init__" (defArgs Hd.s_Book_init) (defBody Hd.s_Book_init) (defScope Hd.s_Book_init) [] [] (He.ma K (He.ga K "Book") "__init__") fd
  f_Book_keep : ∃ fd, FunD K "keep" "Book.keep" (defArgs Hd.s_Book_keep) (defBody Hd.s_Book_keep) (defScope Hd.s_Book_keep) [] [] (He.ma K (He.ga K "Book") "keep") fd
  m_Book : mg "Book" = some (.ref (He.ga K "Book"))
  bk : BkC K (He.ga K "Book")
  mt_keep : Meth K (He.ga K "Book") "keep" (He.ma K (He.ga K "Book") "keep")
  mk_Book : Mk K (He.ga K "Book") (He.ma K (He.ga K "Book") "__init__")
  MOST_PEOPLE : ∃ u, mg "MOST_PEOPLE" = some u ∧ RelV (.int 12) u
  MOST_LOTS : ∃ u, mg "MOST_LOTS" = some u ∧ RelV (.int 60) u
  MOST_SIGHTINGS : ∃ u, mg "MOST_SIGHTINGS" = some u ∧ RelV (.int 20) u
  MOST_JUDGED : ∃ u, mg "MOST_JUDGED" = some u ∧ RelV (.int 8) u
  «len» : mg "len" = none
  «isinstance» : mg "isinstance" = none
  «all» : mg "all" = none
  «any» : mg "any" = none
  «sum» : mg "sum" = none
  «tuple» : mg "tuple" = none
  «range» : mg "range" = none
  «list» : mg "list" = none
  «sorted» : mg "sorted" = none
  «set» : mg "set" = none
  «enumerate» : mg "enumerate" = none
  «zip» : mg "zip" = none
  «int» : mg "int" = none
  «abs» : mg "abs" = none
  «max» : mg "max" = none
  «bool» : mg "bool" = none
theorem txt_of {K : PySem.W.Frag} {h : Heap} {mg : Str → Option Value} (X : K.In h) (G : h.Ns mainGlobals mg) (c : He.SaysD Hd.fa Hd.fn K) : Txt K mg where
  f_is_integer := c.def_ 0 (d := Hd.d_is_integer) rfl
  m_is_integer := He.glo_ok X G (c.fact 0 (f := .glo "is_integer") rfl)
  f_is_within := c.def_ 1 (d := Hd.d_is_within) rfl
  m_is_within := He.glo_ok X G (c.fact 1 (f := .glo "is_within") rfl)
  f_is_pair := c.def_ 2 (d := Hd.d_is_pair) rfl
  m_is_pair := He.glo_ok X G (c.fact 2 (f := .glo "is_pair") rfl)
  f_is_listed := c.def_ 3 (d := Hd.d_is_listed) rfl
  m_is_listed := He.glo_ok X G (c.fact 3 (f := .glo "is_listed") rfl)
  f_are_ascending := c.def_ 4 (d := Hd.d_are_ascending) rfl
  m_are_ascending := He.glo_ok X G (c.fact 4 (f := .glo "are_ascending") rfl)
  f_are_persons := c.def_ 5 (d := Hd.d_are_persons) rfl
  m_are_persons := He.glo_ok X G (c.fact 5 (f := .glo "are_persons") rfl)
  f_is_crowd := c.def_ 6 (d := Hd.d_is_crowd) rfl
  m_is_crowd := He.glo_ok X G (c.fact 6 (f := .glo "is_crowd") rfl)
  f_is_lot := c.def_ 7 (d := Hd.d_is_lot) rfl
  m_is_lot := He.glo_ok X G (c.fact 7 (f := .glo "is_lot") rfl)
  f_check_crowd := c.def_ 8 (d := Hd.d_check_crowd) rfl
  m_check_crowd := He.glo_ok X G (c.fact 8 (f := .glo "check_crowd") rfl)
  f_check_many := c.def_ 9 (d := Hd.d_check_many) rfl
  m_check_many := He.glo_ok X G (c.fact 9 (f := .glo "check_many") rfl)
  f_bits_of := c.def_ 10 (d := Hd.d_bits_of) rfl
  m_bits_of := He.glo_ok X G (c.fact 10 (f := .glo "bits_of") rfl)
  f_crowd_of := c.def_ 11 (d := Hd.d_crowd_of) rfl
  m_crowd_of := He.glo_ok X G (c.fact 11 (f := .glo "crowd_of") rfl)
  f_holds := c.def_ 12 (d := Hd.d_holds) rfl
  m_holds := He.glo_ok X G (c.fact 12 (f := .glo "holds") rfl)
  f_all_of := c.def_ 13 (d := Hd.d_all_of) rfl
  m_all_of := He.glo_ok X G (c.fact 13 (f := .glo "all_of") rfl)
  f_first_wrong_lot := c.def_ 14 (d := Hd.d_first_wrong_lot) rfl
  m_first_wrong_lot := He.glo_ok X G (c.fact 14 (f := .glo "first_wrong_lot") rfl)
  f_is_sighting := c.def_ 15 (d := Hd.d_is_sighting) rfl
  m_is_sighting := He.glo_ok X G (c.fact 15 (f := .glo "is_sighting") rfl)
  f_check_sightings := c.def_ 16 (d := Hd.d_check_sightings) rfl
  m_check_sightings := He.glo_ok X G (c.fact 16 (f := .glo "check_sightings") rfl)
  f_others_within := c.def_ 17 (d := Hd.d_others_within) rfl
  m_others_within := He.glo_ok X G (c.fact 17 (f := .glo "others_within") rfl)
  f_needs := c.def_ 18 (d := Hd.d_needs) rfl
  m_needs := He.glo_ok X G (c.fact 18 (f := .glo "needs") rfl)
  f_can_stand := c.def_ 19 (d := Hd.d_can_stand) rfl
  m_can_stand := He.glo_ok X G (c.fact 19 (f := .glo "can_stand") rfl)
  f_can_follow := c.def_ 20 (d := Hd.d_can_follow) rfl
  m_can_follow := He.glo_ok X G (c.fact 20 (f := .glo "can_follow") rfl)
  f_first_lot := c.def_ 21 (d := Hd.d_first_lot) rfl
  m_first_lot := He.glo_ok X G (c.fact 21 (f := .glo "first_lot") rfl)
  f_placed_by := c.def_ 22 (d := Hd.d_placed_by) rfl
  m_placed_by := He.glo_ok X G (c.fact 22 (f := .glo "placed_by") rfl)
  f_fitting_in := c.def_ 23 (d := Hd.d_fitting_in) rfl
  m_fitting_in := He.glo_ok X G (c.fact 23 (f := .glo "fitting_in") rfl)
  f_check_fitting := c.def_ 24 (d := Hd.d_check_fitting) rfl
  m_check_fitting := He.glo_ok X G (c.fact 24 (f := .glo "check_fitting") rfl)
  f_behind_all := c.def_ 25 (d := Hd.d_behind_all) rfl
  m_behind_all := He.glo_ok X G (c.fact 25 (f := .glo "behind_all") rfl)
  f_surely_ahead := c.def_ 26 (d := Hd.d_surely_ahead) rfl
  m_surely_ahead := He.glo_ok X G (c.fact 26 (f := .glo "surely_ahead") rfl)
  f_with_next := c.def_ 27 (d := Hd.d_with_next) rfl
  m_with_next := He.glo_ok X G (c.fact 27 (f := .glo "with_next") rfl)
  f_all_let_in := c.def_ 28 (d := Hd.d_all_let_in) rfl
  m_all_let_in := He.glo_ok X G (c.fact 28 (f := .glo "all_let_in") rfl)
  f_word_for := c.def_ 29 (d := Hd.d_word_for) rfl
  m_word_for := He.glo_ok X G (c.fact 29 (f := .glo "word_for") rfl)
  f_verdicts := c.def_ 30 (d := Hd.d_verdicts) rfl
  m_verdicts := He.glo_ok X G (c.fact 30 (f := .glo "verdicts") rfl)
  f_law_hand := c.def_ 31 (d := Hd.d_law_hand) rfl
  m_law_hand := He.glo_ok X G (c.fact 31 (f := .glo "_law_hand") rfl)
  f_law_draw := c.def_ 32 (d := Hd.d_law_draw) rfl
  m_law_draw := He.glo_ok X G (c.fact 32 (f := .glo "_law_draw") rfl)
  f_law_is := c.def_ 33 (d := Hd.d_law_is) rfl
  m_law_is := He.glo_ok X G (c.fact 33 (f := .glo "_law_is") rfl)
  f_law_part := c.def_ 34 (d := Hd.d_law_part) rfl
  m_law_part := He.glo_ok X G (c.fact 34 (f := .glo "_law_part") rfl)
  f_law_order := c.def_ 35 (d := Hd.d_law_order) rfl
  m_law_order := He.glo_ok X G (c.fact 35 (f := .glo "_law_order") rfl)
  f_law_lots := c.def_ 36 (d := Hd.d_law_lots) rfl
  m_law_lots := He.glo_ok X G (c.fact 36 (f := .glo "_law_lots") rfl)
  f_law_in := c.def_ 37 (d := Hd.d_law_in) rfl
  m_law_in := He.glo_ok X G (c.fact 37 (f := .glo "_law_in") rfl)
  f_law_crowds := c.def_ 38 (d := Hd.d_law_crowds) rfl
  m_law_crowds := He.glo_ok X G (c.fact 38 (f := .glo "_law_crowds") rfl)
  f_law_lists := c.def_ 39 (d := Hd.d_law_lists) rfl
  m_law_lists := He.glo_ok X G (c.fact 39 (f := .glo "_law_lists") rfl)
  f_law_fits := c.def_ 40 (d := Hd.d_law_fits) rfl
  m_law_fits := He.glo_ok X G (c.fact 40 (f := .glo "_law_fits") rfl)
  f_law_seen := c.def_ 41 (d := Hd.d_law_seen) rfl
  m_law_seen := He.glo_ok X G (c.fact 41 (f := .glo "_law_seen") rfl)
  f_law_packed := c.def_ 42 (d := Hd.d_law_packed) rfl
  m_law_packed := He.glo_ok X G (c.fact 42 (f := .glo "_law_packed") rfl)
  f_law_chain := c.def_ 43 (d := Hd.d_law_chain) rfl
  m_law_chain := He.glo_ok X G (c.fact 43 (f := .glo "_law_chain") rfl)
  f_law_chain_seen := c.def_ 44 (d := Hd.d_law_chain_seen) rfl
  m_law_chain_seen := He.glo_ok X G (c.fact 44 (f := .glo "_law_chain_seen") rfl)
  f_law_great := c.def_ 45 (d := Hd.d_law_great) rfl
  m_law_great := He.glo_ok X G (c.fact 45 (f := .glo "_law_great") rfl)
  f_law := c.def_ 46 (d := Hd.d_law) rfl
  m_law := He.glo_ok X G (c.fact 46 (f := .glo "law") rfl)
  f_Book_init := c.def_ 47 (d := Hd.d_Book_init) rfl
  f_Book_keep := c.def_ 48 (d := Hd.d_Book_keep) rfl
  m_Book := He.glo_ok X G (c.fact 47 (f := .glo "Book") rfl)
  bk := ⟨He.cls_ok (c.fact 48 (f := .cls "Book") rfl), He.noat_ok (c.fact 49 (f := .noat "Book" "people") rfl), He.noat_ok (c.fact 50 (f := .noat "Book" "lots") rfl), He.noat_ok (c.fact 51 (f := .noat "Book" "masks") rfl)⟩
  mt_keep := He.meth_ok (c.fact 52 (f := .meth "Book" "keep") rfl)
  mk_Book := He.mkr_ok (c.fact 53 (f := .mkr "Book") rfl)
  MOST_PEOPLE := by
    obtain ⟨t, e⟩ := He.int_ok X G (c.fact 54 (f := .int "MOST_PEOPLE" 12) rfl)
    exact ⟨_, e, t, rfl⟩
  MOST_LOTS := by
    obtain ⟨t, e⟩ := He.int_ok X G (c.fact 55 (f := .int "MOST_LOTS" 60) rfl)
    exact ⟨_, e, t, rfl⟩
  MOST_SIGHTINGS := by
    obtain ⟨t, e⟩ := He.int_ok X G (c.fact 56 (f := .int "MOST_SIGHTINGS" 20) rfl)
    exact ⟨_, e, t, rfl⟩
  MOST_JUDGED := by
    obtain ⟨t, e⟩ := He.int_ok X G (c.fact 57 (f := .int "MOST_JUDGED" 8) rfl)
    exact ⟨_, e, t, rfl⟩
  «len» := He.free_ok X G (c.fact 58 (f := .free "len") rfl)
  «isinstance» := He.free_ok X G (c.fact 59 (f := .free "isinstance") rfl)
  «all» := He.free_ok X G (c.fact 60 (f := .free "all") rfl)
  «any» := He.free_ok X G (c.fact 61 (f := .free "any") rfl)
  «sum» := He.free_ok X G (c.fact 62 (f := .free "sum") rfl)
  «tuple» := He.free_ok X G (c.fact 63 (f := .free "tuple") rfl)
  «range» := He.free_ok X G (c.fact 64 (f := .free "range") rfl)
  «list» := He.free_ok X G (c.fact 65 (f := .free "list") rfl)
  «sorted» := He.free_ok X G (c.fact 66 (f := .free "sorted") rfl)
  «set» := He.free_ok X G (c.fact 67 (f := .free "set") rfl)
  «enumerate» := He.free_ok X G (c.fact 68 (f := .free "enumerate") rfl)
  «zip» := He.free_ok X G (c.fact 69 (f := .free "zip") rfl)
  «int» := He.free_ok X G (c.fact 70 (f := .free "int") rfl)
  «abs» := He.free_ok X G (c.fact 71 (f := .free "abs") rfl)
  «max» := He.free_ok X G (c.fact 72 (f := .free "max") rfl)
  «bool» := He.free_ok X G (c.fact 73 (f := .free "bool") rfl)
end DL
end
section
set_option Elab.async false
set_option linter.all false
set_option maxRecDepth 100000
set_option maxHeartbeats 0
/-! DLd: masks, crowds, as data -/
namespace DL
open PySem L2
abbrev dn (n : Nat) : Dt := .int ((n : Nat) : Int)
/-- a crowd -/
abbrev crD (c : List Nat) : Dt := .tup (c.map dn)
abbrev ldN (c : List Nat) : Dt := .lst (c.map dn)
abbrev zi (c : List Nat) : List Int := c.map fun n => ((n : Nat) : Int)
theorem dn_zi (c : List Nat) : c.map dn = (zi c).map Dt.int := by simp [zi]
theorem mem_zi {p : Nat} {c : List Nat} : ((p : Nat) : Int) ∈ zi c ↔ p ∈ c := by
  unfold zi
  rw [List.mem_map]
  exact ⟨fun ⟨a, h, e⟩ => by rw [show p = a by omega]; exact h, fun h => ⟨p, h, rfl⟩⟩
theorem zi_inj {a b : List Nat} (h : zi a = zi b) : a = b := by
  have e : ∀ c : List Nat, (zi c).map Int.toNat = c := fun c => by
    unfold zi
    rw [List.map_map]
    have : (Int.toNat ∘ fun n : Nat => (n : Int)) = id := by funext n; simp
    rw [this, List.map_id]
  rw [← e a, ← e b, h]
section
variable {K : PySem.W.Frag} {es : Es} {ta tb : TE}
theorem xor_nat (a b : Nat) : Builtin.bitXor (a : Int) (b : Int) = ((a ^^^ b : Nat) : Int) := by
  rw [Bits.bitXor_pp (Int.natCast_nonneg _) (Int.natCast_nonneg _)]; rfl
theorem or_nat (a b : Nat) : Builtin.bitOr (a : Int) (b : Int) = ((a ||| b : Nat) : Int) := by
  rw [bitOr_nn (Int.natCast_nonneg _) (Int.natCast_nonneg _)]; rfl
theorem ev_and {a b : Nat} (h : EvD K ta es (dn a)) (h' : EvD K tb es (dn b)) : EvD K (tOp (rI0 fun i j => .int (Builtin.bitAnd i j)) ta tb) es (dn (a &&& b)) := by
  have := ev_op h h' (rd_i0 (f := fun i j => Builtin.bitAnd i j))
  rw [PySem.W.os_band] at this; exact this
theorem ev_xor {a b : Nat} (h : EvD K ta es (dn a)) (h' : EvD K tb es (dn b)) : EvD K (tOp (rI0 fun i j => .int (Builtin.bitXor i j)) ta tb) es (dn (a ^^^ b)) := by
  have := ev_op h h' (rd_i0 (f := fun i j => Builtin.bitXor i j))
  rw [xor_nat] at this; exact this
theorem ev_or {a b : Nat} (h : EvD K ta es (dn a)) (h' : EvD K tb es (dn b)) : EvD K (tOp (rI0 fun i j => .int (Builtin.bitOr i j)) ta tb) es (dn (a ||| b)) := by
  have := ev_op h h' (rd_i0 (f := fun i j => Builtin.bitOr i j))
  rw [or_nat] at this; exact this
theorem ev_shl {p : Nat} (h' : EvD K tb es (dn p)) (hp : p ≤ 1000) : EvD K (tOp (rI CPow fun i j => .int (i * 2 ^ j.toNat)) (tC (.int 1)) tb) es (dn (2 ^ p)) := by
  have := ev_op (ev_int (i := 1)) h' (rd_ic (C := CPow) (f := fun i j => i * 2 ^ j.toNat) ⟨by omega, by omega, by decide⟩)
  refine ev_is this ?_
  show Dt.int (1 * 2 ^ ((p : Nat) : Int).toNat) = Dt.int ((2 ^ p : Nat) : Int)
  rw [Int.toNat_natCast, Int.one_mul]
  simp
theorem ev_shr {a p : Nat} (h : EvD K ta es (dn a)) (h' : EvD K tb es (dn p)) : EvD K (tOp (rI (fun _ j => 0 ≤ j) fun i j => .int (i / 2 ^ j.toNat)) ta tb) es (dn (a / 2 ^ p)) := by
  have := ev_op h h' (rd_ic (C := fun _ j => 0 ≤ j) (f := fun i j => i / 2 ^ j.toNat) (by omega))
  refine ev_is this ?_
  show Dt.int ((a : Int) / 2 ^ ((p : Nat) : Int).toNat) = Dt.int ((a / 2 ^ p : Nat) : Int)
  rw [Int.toNat_natCast]
  simp
theorem bit_and (a p : Nat) : (a / 2 ^ p &&& 1 = 1) ↔ a.testBit p = true := by
  have : a.testBit p = (1 &&& (a >>> p) != 0) := rfl
  rw [this, Nat.shiftRight_eq_div_pow, Nat.and_comm]
  have h := Nat.and_one_is_mod (a / 2 ^ p)
  rw [Nat.and_comm] at h
  rw [h]
  have : a / 2 ^ p % 2 < 2 := Nat.mod_lt _ (by decide)
  constructor
  · intro e; rw [e]; rfl
  · intro e
    have : a / 2 ^ p % 2 ≠ 0 := by simpa using e
    omega
/-- (a >> p) & 1 == 1 -/
theorem ev_bit {a p : Nat} (h : EvD K ta es (dn a)) (h' : EvD K tb es (dn p)) : EvD K (tOp rEq (tOp (rI0 fun i j => .int (Builtin.bitAnd i j)) (tOp (rI (fun _ j => 0 ≤ j) fun i j => .int (i / 2 ^ j.toNat)) ta tb) (tC (.int 1))) (tC (.int 1))) es (.bl (a.testBit p)) := by
  have := ev_op (ev_and (ev_shr h h') (ev_int (i := 1))) (ev_int (i := 1)) rd_eqI
  refine ev_is this ?_
  congr 1
  have hb := bit_and a p
  cases e : a.testBit p with
  | true => rw [hb.mpr e]; rfl
  | false =>
    have : ¬ (((a / 2 ^ p &&& 1 : Nat) : Int) = 1) := fun z => by
      have : a / 2 ^ p &&& 1 = 1 := by omega
      rw [hb.mp this] at e; cases e
    exact decide_eq_false this
/-- (a >> p) & 1 == 0 -/
theorem ev_bit0 {a p : Nat} (h : EvD K ta es (dn a)) (h' : EvD K tb es (dn p)) : EvD K (tOp rEq (tOp (rI0 fun i j => .int (Builtin.bitAnd i j)) (tOp (rI (fun _ j => 0 ≤ j) fun i j => .int (i / 2 ^ j.toNat)) ta tb) (tC (.int 1))) (tC (.int 0))) es (.bl (!a.testBit p)) := by
  have := ev_op (ev_and (ev_shr h h') (ev_int (i := 1))) (ev_int (i := 0)) rd_eqI
  refine ev_is this ?_
  congr 1
  have hb := bit_and a p
  have hl : a / 2 ^ p &&& 1 < 2 := Nat.lt_of_le_of_lt Nat.and_le_right (by decide)
  cases e : a.testBit p with
  | true =>
    have := hb.mpr e
    rw [this]; rfl
  | false =>
    have : a / 2 ^ p &&& 1 = 0 := by
      have : ¬ a / 2 ^ p &&& 1 = 1 := fun z => by rw [hb.mp z] at e; cases e
      omega
    rw [this]; rfl
end
end DL
end
section
set_option Elab.async false
set_option linter.all false
set_option maxRecDepth 100000
set_option maxHeartbeats 0
/-! SpEnum: enumerate and zip of lists and tuples in any mix, as walks -/
namespace DL
open PySem L2
/-! ### a list (false) or a tuple (true) -/
def SqK (t : Bool) (K : PySem.W.Frag) (H : Hp) (a : Addr) (xs : List V) : Prop := match t with
  | true => SqT K H a xs
  | false => SqL K H a xs
def RawS (t : Bool) (h : Heap) (a : Addr) (its : Array Value) : Prop := match t with
  | true => h.IsTuple a its
  | false => h.IsList a its
def RawI (t : Bool) (h : Heap) (it a : Addr) (i : Nat) : Prop := match t with
  | true => h.IsTupleIter it a i
  | false => h.IsListIter it a i
def itrO (t : Bool) (a : Addr) : Obj := match t with
  | true => { cls := .type "tuple_iterator", data := .fields #[.ref a, .int 0 0] }
  | false => { cls := .type "list_iterator", data := .fields #[.ref a, .int 0 0] }
section
variable {t u : Bool} {X : Cx} {pins : List (Addr × Obj)} {σ : L2.St} {H : Hp} {s : Shared} {a b it : Addr}
theorem sqk_raw {xs : List V} (I : Inv X pins σ H s) (h : SqK t X.K H a xs) : ∃ its : List Value, Vals xs its ∧ RawS t s.heap a its.toArray := by
  cases t with
  | true =>
    obtain ⟨its, rv, p, _⟩ := I.tuple h
    exact ⟨its, rv, p⟩
  | false =>
    obtain ⟨its, rv, p, _⟩ := I.list h
    exact ⟨its, rv, p.isList⟩
theorem sqk_inj {xs ys : List V} (I : Inv X pins σ H s) (h : SqK t X.K H a xs) (h' : SqK t X.K H a ys) : xs = ys := by
  cases t with
  | true => exact I.tuple_inj h h'
  | false => exact I.list_inj h h'
theorem raw_lt {h : Heap} {its : Array Value} (r : RawS t h a its) : a < h.objs.size := by
  cases t with
  | true => obtain ⟨_, e, _⟩ := r; exact Heap.lt_size e
  | false => obtain ⟨_, e, _⟩ := r; exact Heap.lt_size e
theorem rawI_ob {h : Heap} {i : Nat} (r : RawI t h it a i) : ∃ o, h.get? it = some o ∧ ∀ v, o.data ≠ .cell v := by
  cases t with
  | true => obtain ⟨o, e, _, d⟩ := r; exact ⟨o, e, fun v q => by rw [d] at q; cases q⟩
  | false => obtain ⟨o, e, _, d⟩ := r; exact ⟨o, e, fun v q => by rw [d] at q; cases q⟩
theorem rawI_at {h h' : Heap} {i : Nat} (r : RawI t h it a i) (k : ∀ o, h.get? it = some o → h'.get? it = some o) : RawI t h' it a i := by
  cases t with
  | true => obtain ⟨o, e, d⟩ := r; exact ⟨o, k o e, d⟩
  | false => obtain ⟨o, e, d⟩ := r; exact ⟨o, k o e, d⟩
theorem raw_ne {h : Heap} {its : Array Value} {i : Nat} (r : RawS t h a its) (q : RawI u h it b i) : a ≠ it := by
  intro e
  subst e
  have c1 : ∃ o, h.get? a = some o ∧ (o.cls = .type "tuple" ∨ o.cls = .type "list") := by
    cases t with
    | true => obtain ⟨o, e, c, _⟩ := r; exact ⟨o, e, .inl c⟩
    | false => obtain ⟨o, e, c, _⟩ := r; exact ⟨o, e, .inr c⟩
  have c2 : ∃ o, h.get? a = some o ∧ (o.cls = .type "tuple_iterator" ∨ o.cls = .type "list_iterator") := by
    cases u with
    | true => obtain ⟨o, e, c, _⟩ := q; exact ⟨o, e, .inl c⟩
    | false => obtain ⟨o, e, c, _⟩ := q; exact ⟨o, e, .inr c⟩
  obtain ⟨o, e1, d1⟩ := c1
  obtain ⟨o', e2, d2⟩ := c2
  rw [e1] at e2
  cases e2
  rcases d1 with d1 | d1 <;> rcases d2 with d2 | d2 <;> (rw [d1] at d2; exact absurd (Value.type.inj d2) (by decide))
theorem draws_k {P : Program} {w : World} {A : Around} (hh : A.handled = none) (it a : Addr) (hne : a ≠ it) (its : Array Value) :
    Draws P w A it [it, a] its.size (fun i v => its[i]? = some v) (fun i h => RawI t h it a i ∧ RawS t h a its) := by
  cases t with
  | true => exact Draws.tuple hh it a hne its
  | false => exact Draws.list hh it a hne its
theorem begins_k (t : Bool) (a : Addr) (its : Array Value) : Begins (.ref a) (itrO t a) fun h => RawS t h a its := by
  cases t with
  | true => exact begins_tuple a its
  | false => exact begins_list a its
theorem itrO_at {h : Heap} (e : h.get? it = some (itrO t a)) : RawI t h it a 0 := by
  cases t with
  | true => exact ⟨_, e, rfl, rfl⟩
  | false => exact ⟨_, e, rfl, rfl⟩
end
/-! ### enumerate(v) -/
set_option maxHeartbeats 0
theorem enum_new1 {v : Value} {o : Obj} {HB : Heap → Prop} (B : Begins v o HB) :
    Meets (Builtin.«enumerate.__new__» ⟨[.type "enumerate", v], []⟩) (fun _ R s => HB s.heap ∧
      R (.ok (.ret (.ref (s.heap.push o).objs.size))) { s with heap := (s.heap.push o).push { cls := .type "enumerate", data := .fields #[.none, .bool false, .ref s.heap.objs.size, rawInt 0, .none, .none] } }) :=
  .of_wp fun prog w A R s h => by
    obtain ⟨hp, gg, dd, tk, os⟩ := s
    obtain ⟨h1, h⟩ := h
    have hsub := sub_enumerate
    have step : ∀ {A' : Around} {E : Value → Shared → Prop} {Q : Value → Shared → Prop}, Q (.ref hp.objs.size) ⟨hp.push o, gg, dd, tk, os⟩ → wpAny (model prog w) A' (pyIter v) Q E ⟨hp, gg, dd, tk, os⟩ :=
      fun q => B.iter prog w _ _ ⟨hp, gg, dd, tk, os⟩ _ h1 q
    wp_walk using step
    refine wpAny_stack_any fun st => wpAny_pure ?_
    split
    · rename_i c _ _ _ _ _
      cases (c == Value.type "enumerate") <;>
        (wp_walk using step
         exact ⟨_, rfl, h⟩)
    · wp_walk using step
      exact ⟨_, rfl, h⟩
theorem enum_call1 {prog : Program} {w : World} {A : Around} {E : Value → Shared → Prop} {s : Shared} {v : Value} {o : Obj} {HB : Heap → Prop} {Q : Value → Shared → Prop} (B : Begins v o HB) (h1 : HB s.heap)
    (h : ∀ h', IsEnum h' (s.heap.objs.size + 1) s.heap.objs.size 0 .none → h'.get? s.heap.objs.size = some o → (∀ b o, s.heap.get? b = some o → h'.get? b = some o) → Q (.ref (s.heap.objs.size + 1)) { s with heap := h' }) :
    wpAny (model prog w) A (call (.type "enumerate") [v]) Q E s := by
  refine callType_new F.called_enumerate (by decide) (F.typeCall_enumerate_1 _) (F.newCall_enumerate_1 _) (fun obj => F.args_object_init_2 obj _) F.entry_enumerate_new (enum_new1 B) ⟨h1, ?_⟩
  have sz : (s.heap.push o).objs.size = s.heap.objs.size + 1 := Heap.size_push ..
  show _ ∧ _
  rw [sz]
  have at1 : IsEnum ((s.heap.push o).push { cls := .type "enumerate", data := .fields #[.none, .bool false, .ref s.heap.objs.size, rawInt 0, .none, .none] }) (s.heap.objs.size + 1) s.heap.objs.size 0 .none := by
    have z := Heap.get?_push_size (s.heap.push o) (o := { cls := .type "enumerate", data := .fields #[.none, .bool false, .ref s.heap.objs.size, rawInt 0, .none, .none] }) rfl
    rw [sz] at z
    exact z
  exact ⟨⟨_, at1, rfl⟩, h _ at1 (Heap.get?_push_of_some _ (Heap.get?_push_size _ B.free)) fun b q x => Heap.get?_push_of_some _ (Heap.get?_push_of_some _ x)⟩
/-- the items of the one at a, each in a new pair with its number -/
def ItE (t : Bool) (K : PySem.W.Frag) (a : Addr) : It :=
  ⟨fun i H => ∃ (xs : List V) (x : V), SqK t K H a xs ∧ xs[i]? = some x, fun i H v H' => ∃ T x, v = .ref T ∧ H T = none ∧ H' = upd H T (.tup [.int (i : Nat), x]) ∧ ∀ xs, SqK t K H a xs → xs[i]? = some x, fun i H => ∃ xs : List V, SqK t K H a xs ∧ xs.length = i⟩
theorem turn_k {P : Program} {w : World} {K : PySem.W.Frag} {elts : List Expr} {kk : Nat} {tpos : Pos} (t : Bool) (a e it : Addr) :
    Turn P w K (.Tuple elts kk tpos) (ItE t K a) [e, it] e (fun i h => (∃ old, IsEnum h e it ((i : Nat) : Int) old) ∧ RawI t h it a i ∧ e ≠ it) where
  mem := List.mem_cons_self
  obj := fun i h st b hb => by
    obtain ⟨⟨old, he⟩, hi, _⟩ := st
    rcases List.mem_cons.mp hb with z | z
    · subst z; exact ⟨_, he, fun v q => nomatch q⟩
    · rw [List.mem_singleton.mp z]; exact rawI_ob hi
  keep := fun i h h' st k => let ⟨⟨old, he⟩, hi, hne⟩ := st; ⟨⟨old, k e (by simp) _ he⟩, rawI_at hi fun o q => k it (by simp) o q, hne⟩
  item := by
    intro X hP hw hK hc i pins s σ H E I hf st hg
    subst hP hw hK
    obtain ⟨⟨old, he⟩, hit, hne⟩ := st
    obtain ⟨xs, x, hq, hx⟩ := hg
    obtain ⟨its, rv, raw⟩ := sqk_raw I hq
    obtain ⟨u, hu, ru⟩ := rv.get hx
    have l1 : e < s.heap.objs.size := Heap.lt_size he
    have l2 : it < s.heap.objs.size := by obtain ⟨o, q, _⟩ := rawI_ob hit; exact Heap.lt_size q
    have ane := raw_ne raw hit
    have hea : e ≠ a := by
      intro z
      subst z
      have : ∃ o, s.heap.get? e = some o ∧ (o.cls = .type "tuple" ∨ o.cls = .type "list") := by
        cases t with
        | true => obtain ⟨o, e, c, _⟩ := raw; exact ⟨o, e, .inl c⟩
        | false => obtain ⟨o, e, c, _⟩ := raw; exact ⟨o, e, .inr c⟩
      obtain ⟨o, e1, d1⟩ := this
      have e2 : s.heap.get? e = some _ := he
      rw [e2] at e1
      cases e1
      rcases d1 with d1 | d1 <;> exact absurd (Value.type.inj d1) (by decide)
    have hi : i < its.toArray.size := by
      have := (List.getElem?_eq_some_iff.mp hu).1
      simpa using this
    refine wpAny_pyNext_enum_itemD (draws_k (P := X.prog) (w := X.w) (A := X.A.in1) (t := t) (I.ok.hd hc) it a ane its.toArray) he ⟨hit, raw⟩ hi hne (by simp [hne, hea]) fun x' h' tk hx' ho' st' hT hsz hk => ?_
    have ex : x' = u := by
      have h1 : its.toArray[i]? = some u := by simpa using hu
      exact Option.some.inj (hx'.symm.trans h1)
    subst ex
    refine ⟨_, rfl, wpAny_letOwnedTupleGo_enum (s := { s with heap := h', toks := tk + 1 }) ho' fun h'' he' sb => ?_⟩
    have hT2 : h''.get? s.heap.objs.size = some { cls := .type "tuple", data := .seq #[.int i tk, x'] } := (sb.2 _ (Nat.ne_of_gt l1)).trans hT
    have I1 : Inv X pins σ (upd H s.heap.objs.size (.tup [.int (i : Nat), x])) { s with heap := h'', toks := tk + 1 } :=
      I.turnedNew (ch := [e, it]) (fun b ob hb q => (sb.2 b (fun z => hb (by simp [z]))).trans (hk b ob (fun z => hb (by simp [z])) (fun z => hb (by simp [z])) q)) hf (Nat.le_refl _)
        ⟨by show 2 ≤ sizeLine; decide, [.int i tk, x'], .cons ⟨_, rfl⟩ (.cons ru .nil), ⟨_, hT2, rfl, _, rfl⟩⟩
    refine ⟨.ref s.heap.objs.size, _, I1, rfl, ⟨_, x, rfl, I.hok.fresh (Nat.le_refl _), rfl, fun ys hy => by rw [sqk_inj I hy hq]; exact hx⟩, ⟨⟨x', ?_⟩, rawI_at st'.1 fun o q => (sb.2 it (Ne.symm hne)).trans q, hne⟩, fun b hb => ?_⟩
    · rw [show ((i + 1 : Nat) : Int) = (i : Int) + 1 by omega]; exact he'
    · have lt : b < s.heap.objs.size := by
        rcases List.mem_cons.mp hb with z | z
        · rw [z]; exact l1
        · rw [List.mem_singleton.mp z]; exact l2
      rw [upd_ne (Nat.ne_of_lt lt)]
      exact (hf b hb).1
  done := by
    intro X hP hw hK hc i pins s σ H E I hf st hg
    subst hP hw hK
    obtain ⟨⟨old, he⟩, hit, hne⟩ := st
    obtain ⟨xs, hq, hx⟩ := hg
    obtain ⟨its, rv, raw⟩ := sqk_raw I hq
    obtain ⟨f0, f1, f2, f3, f4, f5⟩ := hf it (by simp)
    have ez : its.toArray.size = i := by rw [List.size_toArray, ← rv.length]; exact hx
    have st : RawI t s.heap it a its.toArray.size ∧ RawS t s.heap a its.toArray := by rw [ez]; exact ⟨hit, raw⟩
    exact wpAny_pyNext_enum_endD (draws_k (P := X.prog) (w := X.w) (A := X.A.in1) (t := t) (I.ok.hd hc) it a (raw_ne raw hit) its.toArray) he st fun h' eb => ⟨rfl, I.turned (t' := s.toks) (fun b o hb q => eb b o hb q) f0 f1 f3 f4 f5⟩
  self := fun A i s Q E st h => let ⟨⟨_, he⟩, _⟩ := st; wpAny_pyIter_enum he h
def iEnK (K : PySem.W.Frag) (ta : TA) : TI := fun σ H R => ta σ H fun vs H1 => ∃ (t : Bool) (a : Addr) (xs : List V), vs = [.ref a] ∧ SqK t K H1 a xs ∧ R (ItE t K a) H1
theorem kEnum {X : Cx} (K : PySem.W.Frag) (hK : X.K = K) {e : Expr} {ta : TA} {p pos tpos : Pos} {elts : List Expr} {kk : Nat} (hg : Gl X "enumerate") (hm : X.mg "enumerate" = none) (ha : PA X [e] ta) (hs : starEach [e] X.env = [(false, eval e X.env)] := by rfl) :
    PI X (.Tuple elts kk tpos) (.Call (.Name "enumerate" p) [e] [] pos) (iEnK K ta) := by
  subst hK
  refine ⟨fun pins s σ H R I h => ?_⟩
  refine PyProof.Rows.Call_ (ld_blt I hg hm PyProof.Rows.boot_enumerate (PyProof.Rows.callWith_type1 (thn (ha.run pos pins s σ H _ I h) fun us s1 ⟨vs, H1, I1, r1, t, a, xs, ex, hq, q⟩ => ?_) hs rfl))
  subst ex
  rw [Vals.ref1 r1]
  obtain ⟨its, rv, raw⟩ := sqk_raw I1 hq
  refine enum_call1 (begins_k t a its.toArray) raw fun h' he hit hk => wpAny_pyIter_enum he ?_
  have I2 : Inv X pins σ H1 { s1 with heap := h' } := I1.kept (t' := s1.toks) hk
  refine ⟨s1.heap.objs.size + 1, [s1.heap.objs.size + 1, s1.heap.objs.size], _, _, H1, rfl, I2, turn_k t a (s1.heap.objs.size + 1) s1.heap.objs.size, ⟨⟨.none, he⟩, itrO_at hit, Nat.succ_ne_self _⟩, fun b hb => ?_, q⟩
  have le : s1.heap.objs.size ≤ b := by
    rcases List.mem_cons.mp hb with z | z
    · rw [z]; exact Nat.le_add_right _ _
    · rw [List.mem_singleton.mp z]; exact Nat.le_refl _
  exact I1.fpOk le (I1.hok.fresh le)
/-! ### zip(v, w) -/
def ItZ (t u : Bool) (K : PySem.W.Frag) (a b : Addr) : It :=
  ⟨fun i H => ∃ (xs ys : List V) (x y : V), SqK t K H a xs ∧ SqK u K H b ys ∧ xs[i]? = some x ∧ ys[i]? = some y,
    fun i H v H' => ∃ T x y, v = .ref T ∧ H T = none ∧ H' = upd H T (.tup [x, y]) ∧ (∀ xs, SqK t K H a xs → xs[i]? = some x) ∧ ∀ ys, SqK u K H b ys → ys[i]? = some y,
    fun i H => ∃ xs ys : List V, SqK t K H a xs ∧ SqK u K H b ys ∧ xs.length = i ∧ ys.length = i⟩
theorem cls_ne {h : Heap} {a z : Addr} {t : Bool} {its : Array Value} {o : Obj} {n : String} (r : RawS t h a its) (e : h.get? z = some o) (c : o.cls = .type n) (h1 : ("tuple" == n) = false) (h2 : ("list" == n) = false) : a ≠ z := by
  intro q
  subst q
  have : ∃ o, h.get? a = some o ∧ (o.cls = .type "tuple" ∨ o.cls = .type "list") := by
    cases t with
    | true => obtain ⟨o, e, c, _⟩ := r; exact ⟨o, e, .inl c⟩
    | false => obtain ⟨o, e, c, _⟩ := r; exact ⟨o, e, .inr c⟩
  obtain ⟨o', e', d⟩ := this
  rw [e] at e'
  cases e'
  rw [c] at d
  rcases d with d | d
  · rw [Value.type.inj d] at h1; exact absurd h1 (by decide)
  · rw [Value.type.inj d] at h2; exact absurd h2 (by decide)
structure ZAp (z TI TO i1 i2 : Addr) : Prop where
  a1 : TI ≠ z
  a2 : TO ≠ z
  a3 : TI ≠ TO
  a4 : TI ≠ i1
  a5 : TI ≠ i2
  a6 : z ≠ i1
  a7 : z ≠ i2
  a8 : TO ≠ i1
  a9 : TO ≠ i2
  a10 : i1 ≠ i2
/-- the pairs that a zip holds are none of those that it walks: they are none that the layer tracks -/
theorem turn_zk {P : Program} {w : World} {K : PySem.W.Frag} {elts : List Expr} {kk : Nat} {tpos : Pos} (t u : Bool) {a b z TI TO i1 i2 : Addr} (D : ZAp z TI TO i1 i2) (na : a ≠ TO) (nb : b ≠ TO) :
    Turn P w K (.Tuple elts kk tpos) (ItZ t u K a b) [z, TI, TO, i1, i2] z (fun i h => IsZip h z TI TO .none ∧ IsTupOf2 h TI (.ref i1) (.ref i2) ∧ (∃ x y, IsTupOf2 h TO x y) ∧ RawI t h i1 a i ∧ RawI u h i2 b i) where
  mem := List.mem_cons_self
  obj := fun i h st c hc => by
    obtain ⟨hz, hTI, ⟨x, y, hTO⟩, h1, h2⟩ := st
    simp only [List.mem_cons, List.not_mem_nil, or_false] at hc
    rcases hc with q | q | q | q | q
    · subst q; exact ⟨_, hz, fun v q => nomatch q⟩
    · subst q; exact ⟨_, hTI, fun v q => nomatch q⟩
    · subst q; exact ⟨_, hTO, fun v q => nomatch q⟩
    · subst q; exact rawI_ob h1
    · subst q; exact rawI_ob h2
  keep := fun i h h' st k => let ⟨hz, hTI, ⟨x, y, hTO⟩, h1, h2⟩ := st; ⟨k z (by simp) _ hz, k TI (by simp) _ hTI, ⟨x, y, k TO (by simp) _ hTO⟩, rawI_at h1 fun o q => k i1 (by simp) o q, rawI_at h2 fun o q => k i2 (by simp) o q⟩
  item := by
    intro X hP hw hK hc i pins s σ H E I hf st hg
    subst hP hw hK
    obtain ⟨hz, hTI, ⟨x0, y0, hTO⟩, h1, h2⟩ := st
    obtain ⟨xs, ys, x, y, hqx, hqy, hx, hy⟩ := hg
    obtain ⟨its, rv, raw⟩ := sqk_raw I hqx
    obtain ⟨its2, rv2, raw2⟩ := sqk_raw I hqy
    obtain ⟨w1, hu, ru⟩ := rv.get hx
    obtain ⟨w2, hu2, ru2⟩ := rv2.get hy
    have lz : z < s.heap.objs.size := Heap.lt_size hz
    have naz : a ≠ z := cls_ne raw hz rfl (by decide) (by decide)
    have nbz : b ≠ z := cls_ne raw2 hz rfl (by decide) (by decide)
    have S : ZipSep2 z TI TO i1 i2 [i1, a] [i2, b] := ⟨D.a1, D.a2, D.a3, D.a4, by simp, by simp [D.a6, naz.symm], by simp [D.a8, na.symm], D.a5, by simp, by simp [D.a7, nbz.symm], by simp [D.a9, nb.symm],
      by simp [D.a10, (raw_ne raw2 h1).symm], by simp [D.a10.symm, (raw_ne raw h2).symm]⟩
    have g1 : i < its.toArray.size := by have := (List.getElem?_eq_some_iff.mp hu).1; simpa using this
    have g2 : i < its2.toArray.size := by have := (List.getElem?_eq_some_iff.mp hu2).1; simpa using this
    refine wpAny_pyNext_zipD2_item S (draws_k (P := X.prog) (w := X.w) (A := X.A.in1) (t := t) (I.ok.hd hc) i1 a (raw_ne raw h1) its.toArray) (draws_k (P := X.prog) (w := X.w) (A := X.A.in1) (t := u) (I.ok.hd hc) i2 b (raw_ne raw2 h2) its2.toArray) hz hTI hTO ⟨h1, raw⟩ ⟨h2, raw2⟩ g1 g2 fun v1 v2 h' tk e1 e2 z' TO' st1 st2 hT hsz hk => ?_
    have q1 : v1 = w1 := Option.some.inj (e1.symm.trans (by simpa using hu))
    have q2 : v2 = w2 := Option.some.inj (e2.symm.trans (by simpa using hu2))
    subst q1 q2
    refine ⟨_, rfl, wpAny_letOwnedTupleGo_zip (s := { s with heap := h', toks := tk }) z' fun h'' z'' sb => ?_⟩
    have hT2 : h''.get? s.heap.objs.size = some { cls := .type "tuple", data := .seq #[v1, v2] } := (sb.2 _ (Nat.ne_of_gt lz)).trans hT
    have I1 : Inv X pins σ (upd H s.heap.objs.size (.tup [x, y])) { s with heap := h'', toks := tk } :=
      I.turnedNew (ch := [z, TI, TO, i1, i2]) (fun c o hb q => (sb.2 c (fun q' => hb (by simp [q']))).trans (hk c o (fun q' => hb (by simp [q'])) (fun q' => hb (by simp [q'])) (fun q' => hb (by simp [q'])) (fun q' => hb (by simp [q'])) q)) hf (Nat.le_refl _)
        ⟨by show 2 ≤ sizeLine; decide, [v1, v2], .cons ru (.cons ru2 .nil), ⟨_, hT2, rfl, _, rfl⟩⟩
    refine ⟨.ref s.heap.objs.size, _, I1, rfl, ⟨_, x, y, rfl, I.hok.fresh (Nat.le_refl _), rfl, fun l hl => by rw [sqk_inj I hl hqx]; exact hx, fun l hl => by rw [sqk_inj I hl hqy]; exact hy⟩, ⟨z'', ?_, ⟨v1, v2, ?_⟩, ?_, ?_⟩, fun c hcm => ?_⟩
    · exact (sb.2 _ D.a1).trans (hk _ _ D.a1 D.a3 D.a4 D.a5 hTI)
    · exact (sb.2 _ D.a2).trans TO'
    · exact rawI_at st1.1 fun o q => (sb.2 _ D.a6.symm).trans q
    · exact rawI_at st2.1 fun o q => (sb.2 _ D.a7.symm).trans q
    · have lt : c < s.heap.objs.size := by
        simp only [List.mem_cons, List.not_mem_nil, or_false] at hcm
        rcases hcm with q | q | q | q | q
        · rw [q]; exact lz
        · rw [q]; exact Heap.lt_size hTI
        · rw [q]; exact Heap.lt_size hTO
        · rw [q]; obtain ⟨_, e1, _⟩ := rawI_ob h1; exact Heap.lt_size e1
        · rw [q]; obtain ⟨_, e2, _⟩ := rawI_ob h2; exact Heap.lt_size e2
      rw [upd_ne (Nat.ne_of_lt lt)]
      exact (hf c hcm).1
  done := by
    intro X hP hw hK hc i pins s σ H E I hf st hg
    subst hP hw hK
    obtain ⟨hz, hTI, ⟨x0, y0, hTO⟩, h1, h2⟩ := st
    obtain ⟨xs, ys, hqx, hqy, hx, hy⟩ := hg
    obtain ⟨its, rv, raw⟩ := sqk_raw I hqx
    obtain ⟨its2, rv2, raw2⟩ := sqk_raw I hqy
    have naz : a ≠ z := cls_ne raw hz rfl (by decide) (by decide)
    have nbz : b ≠ z := cls_ne raw2 hz rfl (by decide) (by decide)
    have S : ZipSep2 z TI TO i1 i2 [i1, a] [i2, b] := ⟨D.a1, D.a2, D.a3, D.a4, by simp, by simp [D.a6, naz.symm], by simp [D.a8, na.symm], D.a5, by simp, by simp [D.a7, nbz.symm], by simp [D.a9, nb.symm],
      by simp [D.a10, (raw_ne raw2 h1).symm], by simp [D.a10.symm, (raw_ne raw h2).symm]⟩
    have e1 : i = its.toArray.size := by rw [List.size_toArray, ← rv.length]; exact hx.symm
    have e2 : i = its2.toArray.size := by rw [List.size_toArray, ← rv2.length]; exact hy.symm
    exact wpAny_pyNext_zipD2_end S (draws_k (P := X.prog) (w := X.w) (A := X.A.in1) (t := t) (I.ok.hd hc) i1 a (raw_ne raw h1) its.toArray) (draws_k (P := X.prog) (w := X.w) (A := X.A.in1) (t := u) (I.ok.hd hc) i2 b (raw_ne raw2 h2) its2.toArray) hz hTI hTO ⟨h1, raw⟩ ⟨h2, raw2⟩ (Nat.le_of_eq e1) (Nat.le_of_eq e2) (.inl e1) fun h' tk hk => ⟨rfl, I.turnedL (ch := [z, TI, TO, i1, i2]) (fun c o hb q =>
      hk c o (fun q' => hb (by simp [q'])) (fun q' => hb (by simp [q'])) (fun q' => hb (by simp [q'])) (fun q' => hb (by simp [q'])) q) hf⟩
  self := fun A i s Q E st h => wpAny_pyIter_zip st.1 h
def iZiK (K : PySem.W.Frag) (ta : TA) : TI := fun σ H R => ta σ H fun vs H1 => ∃ (t u : Bool) (a b : Addr) (xs ys : List V), vs = [.ref a, .ref b] ∧ SqK t K H1 a xs ∧ SqK u K H1 b ys ∧ R (ItZ t u K a b) H1
theorem kZip {X : Cx} (K : PySem.W.Frag) (hK : X.K = K) {e e2 : Expr} {ta : TA} {p pos tpos : Pos} {elts : List Expr} {kk : Nat} (hg : Gl X "zip") (hm : X.mg "zip" = none) (ha : PA X [e, e2] ta)
    (hs : starEach [e, e2] X.env = (false, eval e X.env) :: starEach [e2] X.env := by rfl) (hpl : (backTo pos (starEach [e2] X.env)).any (·.1) = false := by rfl) :
    PI X (.Tuple elts kk tpos) (.Call (.Name "zip" p) [e, e2] [] pos) (iZiK K ta) := by
  subst hK
  refine ⟨fun pins s σ H R I h => ?_⟩
  refine PyProof.Rows.Call_ (ld_blt I hg hm PyProof.Rows.boot_zip (PyProof.Rows.callWith_type1 (thn (ha.run pos pins s σ H _ I h) fun us s1 ⟨vs, H1, I1, r1, t, u, a, b, xs, ys, ex, hqx, hqy, q⟩ => ?_) hs hpl))
  subst ex
  obtain ⟨v1, v2, rfl, ra, rb⟩ := Vals.two r1
  cases ra
  cases rb
  obtain ⟨its, rv, raw⟩ := sqk_raw I1 hqx
  obtain ⟨its2, rv2, raw2⟩ := sqk_raw I1 hqy
  have la := raw_lt raw
  have lb := raw_lt raw2
  refine zip_begins2 (begins_k t a its.toArray) (begins_k u b its2.toArray) raw raw2 fun h' hz hTI hTO h1 h2 hsz hk => wpAny_pyIter_zip hz ?_
  have I2 : Inv X pins σ H1 { s1 with heap := h' } := I1.kept (t' := s1.toks) hk
  have off : ∀ {n i j : Nat}, i ≠ j → (n + i : Nat) ≠ n + j := fun h e => h (by omega)
  refine ⟨s1.heap.objs.size + 4, [s1.heap.objs.size + 4, s1.heap.objs.size + 2, s1.heap.objs.size + 3, s1.heap.objs.size, s1.heap.objs.size + 1], _, _, H1, rfl, I2,
    turn_zk t u ⟨off (by decide), off (by decide), off (by decide), off (j := 0) (by decide), off (by decide), off (j := 0) (by decide), off (by decide), off (j := 0) (by decide), off (by decide), off (i := 0) (by decide)⟩
      (Nat.ne_of_lt (Nat.lt_add_right 3 la)) (Nat.ne_of_lt (Nat.lt_add_right 3 lb)), ⟨hz, hTI, ⟨_, _, hTO⟩, itrO_at h1, itrO_at h2⟩, fun c hc => ?_, q⟩
  have le : s1.heap.objs.size ≤ c := by
    simp only [List.mem_cons, List.not_mem_nil, or_false] at hc
    rcases hc with z | z | z | z | z <;> (rw [z]; first | exact Nat.le_refl _ | exact Nat.le_add_right _ _)
  exact I1.fpOk le (I1.hok.fresh le)
/-! ### by data -/
section
variable {K : PySem.W.Frag}
/-- a datum that is a list or a tuple -/
def seqD (t : Bool) (xs : List Dt) : Dt := match t with
  | true => .tup xs
  | false => .lst xs
theorem rp_seq {t : Bool} {G H : Hp} {v : V} {xs : List Dt} (hs : Same G H) (r : Rp K G v (seqD t xs)) : ∃ a vs, v = .ref a ∧ (∀ H, Same G H → SqK t K H a vs) ∧ RpAll K G vs xs := by
  cases t with
  | true =>
    cases r with
    | tup h1 h2 => exact ⟨_, _, rfl, fun H s => SqT.of (s _ _ h1), h2⟩
  | false =>
    cases r with
    | lst h1 h2 => exact ⟨_, _, rfl, fun H s => SqL.of (s _ _ h1), h2⟩
def enD (xs : List Dt) : List Dt := xs.zipIdx.map fun p => Dt.tup [.int ((p.2 : Nat) : Int), p.1]
theorem enD_len (xs : List Dt) : (enD xs).length = xs.length := by simp [enD]
theorem enD_get {xs : List Dt} {i : Nat} {x : Dt} (h : xs[i]? = some x) : (enD xs)[i]? = some (.tup [.int ((i : Nat) : Int), x]) := by
  unfold enD
  rw [List.getElem?_map, List.getElem?_zipIdx, h]
  simp
theorem wk_enum (t : Bool) {ta : TA} {es : Es} {xs : List Dt} (h : EvA K ta es [seqD t xs]) : WkD K (iEnK K ta) es (enD xs) := fun σ G H he hs R q => h σ G H he hs _ fun vs G1 H1 k1 r1 => by
  obtain ⟨v, rfl, r⟩ := one_rp r1
  obtain ⟨a, ws, rfl, hq, ra⟩ := rp_seq k1.gh r
  refine ⟨t, a, ws, rfl, hq H1 k1.gh, q _ G1 H1 k1 fun H2 s2 => ?_⟩
  have hH := hq H2 s2
  refine ⟨fun i hi => ?_, ⟨ws, hH, by rw [enD_len]; exact ra.length⟩, fun i v H' x hx hy Gc g1 g2 => ?_⟩
  · rw [enD_len] at hi
    obtain ⟨v, e, _⟩ := ra.get (List.getElem?_eq_getElem hi)
    exact ⟨ws, v, hH, e⟩
  · obtain ⟨T, y, rfl, hT, rfl, hy⟩ := hy
    have hi : i < xs.length := by
      have := (List.getElem?_eq_some_iff.mp hx).1
      rw [enD_len] at this; exact this
    have hxi : xs[i]? = some xs[i] := List.getElem?_eq_getElem hi
    rw [enD_get hxi] at hx
    cases hx
    obtain ⟨v', e, rv⟩ := ra.get hxi
    have := hy ws hH
    rw [e] at this
    cases this
    exact ⟨_, Ok.new g2 hT, .tup upd_same (.cons (.int _) (.cons (Rp.mono (g1.trans (same_upd (none_of g2 hT))) _ rv) .nil))⟩
def ziD (xs ys : List Dt) : List Dt := (xs.zip ys).map fun p => Dt.tup [p.1, p.2]
theorem wk_zip (t u : Bool) {ta : TA} {es : Es} {xs ys : List Dt} (h : EvA K ta es [seqD t xs, seqD u ys]) (hl : xs.length = ys.length) : WkD K (iZiK K ta) es (ziD xs ys) := fun σ G H he hs R q => h σ G H he hs _ fun vs G1 H1 k1 r1 => by
  obtain ⟨v, w, rfl, r, r'⟩ := two_rp r1
  obtain ⟨a, ws, rfl, hq, ra⟩ := rp_seq k1.gh r
  obtain ⟨b, zs, rfl, hq2, rb⟩ := rp_seq k1.gh r'
  have zl : (ziD xs ys).length = xs.length := by simp [ziD, hl]
  refine ⟨t, u, a, b, ws, zs, rfl, hq H1 k1.gh, hq2 H1 k1.gh, q _ G1 H1 k1 fun H2 s2 => ?_⟩
  refine ⟨fun i hi => ?_, ⟨ws, zs, hq H2 s2, hq2 H2 s2, by rw [zl]; exact ra.length, by rw [zl, hl]; exact rb.length⟩, fun i v H' x hx hy Gc g1 g2 => ?_⟩
  · rw [zl] at hi
    obtain ⟨v, e, _⟩ := ra.get (List.getElem?_eq_getElem hi)
    obtain ⟨v', e', _⟩ := rb.get (List.getElem?_eq_getElem (by rw [← hl]; exact hi))
    exact ⟨ws, zs, v, v', hq H2 s2, hq2 H2 s2, e, e'⟩
  · obtain ⟨T, y, y', rfl, hT, rfl, hy, hy'⟩ := hy
    have hi : i < xs.length := by
      have := (List.getElem?_eq_some_iff.mp hx).1
      rw [zl] at this; exact this
    have hxi : xs[i]? = some xs[i] := List.getElem?_eq_getElem hi
    have hyi : ys[i]? = some ys[i] := List.getElem?_eq_getElem (by rw [← hl]; exact hi)
    have ez : (xs.zip ys)[i]? = some (xs[i], ys[i]) := by rw [List.getElem?_zip_eq_some]; exact ⟨hxi, hyi⟩
    unfold ziD at hx
    rw [List.getElem?_map, ez] at hx
    cases hx
    obtain ⟨v', e, rv⟩ := ra.get hxi
    obtain ⟨v'', e', rv'⟩ := rb.get hyi
    have h1 : y = v' := Option.some.inj ((hy ws (hq H2 s2)).symm.trans e)
    have h2 : y' = v'' := Option.some.inj ((hy' zs (hq2 H2 s2)).symm.trans e')
    subst h1 h2
    have m := g1.trans (same_upd (o := .tup [y, y']) (none_of g2 hT))
    exact ⟨_, Ok.new g2 hT, .tup upd_same (.cons (Rp.mono m _ rv) (.cons (Rp.mono m _ rv') .nil))⟩
end
end DL
end
section
set_option Elab.async false
set_option linter.all false
set_option maxRecDepth 100000
set_option maxHeartbeats 0
/-! DLe: lists read while they are filled; lists of such; books made; sightings and needs as data -/
namespace DL
open PySem L2
section
variable {K : PySem.W.Frag} {M : Mo} {es : Es} {mu : Mu} {N : Es → Mu → Prop} {R : RT}
theorem thaw_at {l : Addr} {ds : List Dt} {i : Nat} (h : es[i]? = some (some (.adr l))) : (thaw l ds es)[i]? = some (some (.lst ds)) := by
  unfold thaw
  rw [List.getElem?_map, h]
  simp
/-- a test that reads a list that is being filled -/
theorem x_ifF {tt : TT} {t u : TS} {b : Bool} {l : Addr} {ds : List Dt} (h : EvT K tt (thaw l ds es) b) (h1 : b = true → Xs K M t es ((l, ds) :: mu) N R) (h2 : b = false → Xs K M u es ((l, ds) :: mu) N R) : Xs K M (tIfS tt t u) es ((l, ds) :: mu) N R := fun B G0 H0 σ H D ⟨G, bb, k, m, e, uu⟩ hn hr => by
  obtain ⟨na, xs, hx, hg, h0, r, u'⟩ := uu.know
  have s1 : Same G (upd G l (.lst xs)) := same_upd hg
  refine h σ (upd G l (.lst xs)) H ((e.mono s1).thaw (.lst upd_same (RpAll.mono s1 _ r))) (fun a o z => by
    by_cases q : a = l
    · subst q; rw [upd_same] at z; cases z; exact hx
    · rw [upd_ne q] at z; exact k.gh _ _ z) _ fun H1 s2 => ?_
  have c : Cfg K M B G0 H0 es ((l, ds) :: mu) σ H1 := ⟨G, Cfg.step bb k m e uu (Ok.more k.gh s2)⟩
  cases b with
  | true =>
    show t D σ H1
    exact h1 rfl B G0 H0 σ H1 D c hn hr
  | false =>
    show u D σ H1
    exact h2 rfl B G0 H0 σ H1 D c hn hr
/-- a new list made from one that is being filled: how long it is -/
theorem x_asgFL {te : TE} {i : Nat} {l : Addr} {ds zs : List Dt} (h : EvL K te (thaw l ds es) zs) (q : N (es.set i (some (.lst (zs.map fun _ => .any)))) ((l, ds) :: mu)) : Xs K M (tAsg te (gName i)) es ((l, ds) :: mu) N R := fun B G0 H0 σ H D ⟨G, bb, k, m, e, uu⟩ hn hr => by
  obtain ⟨na, xs, hx, hg, h0, r, u'⟩ := uu.know
  have s1 : Same G (upd G l (.lst xs)) := same_upd hg
  refine h σ (upd G l (.lst xs)) H ((e.mono s1).thaw (.lst upd_same (RpAll.mono s1 _ r))) (fun a o z => by
    by_cases q : a = l
    · subst q; rw [upd_same] at z; cases z; exact hx
    · rw [upd_ne q] at z; exact k.gh _ _ z) _ fun p ys G1 H1 k1 hp hg1 hy ry => ?_
  have hgp : G p = none := none_of (s1.trans k1.gg) hg1
  have k2 : Ok G H (upd G p (.lst ys)) H1 := (Ok.more k.gh k1.hh).know hp hy hgp
  obtain ⟨b', k', m', e', u2⟩ := Cfg.step bb k m e uu k2
  exact hn _ _ _ _ q ⟨_, b', k', m', e'.set (.lst upd_same (ry.anys _)), u2⟩
/-! ### a list of new lists -/
theorem x_newLs {wi : TI} {g : TG} {vs is : List Nat} {i : Nat} {xs : List Dt} (hw : WkD K wi es xs) (hi : ∀ i ∈ is, i ∈ vs) (hz : xs.length ≤ 1000) (ht : ∀ x ∈ xs, TgD K g is x (wipeE es vs) fun _ => True)
    (q : ∀ ls : List Addr, ls.length = xs.length → N (es.set i (some (.lst (ls.map .adr)))) (ls.map (·, []) ++ mu)) : Xs K M (tAsg (tLc wi g tYes (tLst tNil) vs) (gName i)) es mu N R := fun B G0 H0 σ H D ⟨G, bb, k, m, e, uu⟩ hn hr => by
  refine hw σ G H e k.gh _ fun J G1 H1 k1 wj P hP => ?_
  obtain ⟨b1, k1', m1, e1, u1⟩ := Cfg.step bb k m e uu k1
  refine ⟨fun n mm Hc => mm = xs.length - n ∧ n ≤ xs.length ∧ ∃ (Gc : Hp) (ls : List Addr), ls.length = n ∧ Ok G1 H1 Gc Hc ∧ Gc P = none ∧ Hc P = some (.lst (ls.map V.ref)) ∧ ls.Nodup ∧ ∀ l ∈ ls, l ≠ P ∧ H1 l = none ∧ Gc l = none ∧ Hc l = some (.lst []),
    ⟨_, rfl, Nat.zero_le _, G1, [], rfl, Ok.more k1.gh (same_upd hP), none_of k1.gh hP, upd_same, List.nodup_nil, fun l hl => by cases hl⟩, ?_⟩
  rintro n mm Hc ⟨rfl, hile, Gc, ls, hl, kc, gP, hPx, nd, hls⟩
  have w := wj Hc (kc.gg.trans kc.gh)
  by_cases hlt : n < xs.length
  · refine .inr ⟨w.1 n hlt, fun H' => n + 1 ≤ xs.length ∧ ∃ (Gc : Hp) (ls : List Addr), ls.length = n + 1 ∧ Ok G1 H1 Gc H' ∧ Gc P = none ∧ H' P = some (.lst (ls.map V.ref)) ∧ ls.Nodup ∧ ∀ l ∈ ls, l ≠ P ∧ H1 l = none ∧ Gc l = none ∧ H' l = some (.lst []), fun H' z => ⟨xs.length - (n + 1), by omega, rfl, z.1, z.2⟩, fun v H' hy => ?_⟩
    have hyi : xs[n]? = some xs[n] := List.getElem?_eq_getElem hlt
    obtain ⟨Gd, kd, rv⟩ := w.2.2 n v H' xs[n] hyi hy Gc kc.gg kc.gh
    have new : ∀ {l : Addr} {o : HO}, Gc l = none → Hc l = some o → Gd l = none := fun {l o} h1 h2 => by
      cases z : Gd l with
      | none => rfl
      | some o' => have := kd.fr l o' z h1; rw [h2] at this; cases this
    have gdP : Gd P = none := new gP hPx
    have hPx' := kd.hh _ _ hPx
    refine ht xs[n] (List.getElem_mem hlt) v (L2.wipe σ vs) Gd H' ((((e1.mono kc.gg).mono kd.gg)).wipe vs) kd.gh rv _ fun σ2 es2 _ e2 o2 => ⟨wipe_eq o2 hi, ?_⟩
    refine ⟨small (by decide), fun p hp => ⟨ls.map V.ref, ?_, small' (by rw [List.length_map]; omega), hlt, ?_⟩⟩
    · rw [upd_ne (fun z => by rw [z, hp] at hPx'; cases hPx')]; exact hPx'
    have pP : p ≠ P := fun z => by rw [z, hPx'] at hp; cases hp
    have hH1p : H1 p = none := none_of (kc.hh.trans kd.hh) hp
    refine ⟨Gd, ls ++ [p], by simp [hl], ⟨kc.gg.trans kd.gg, fun a o z => ?_, fun a o z => ?_, (kc.trans kd).fr⟩, gdP, ?_, ?_, fun l hl => ?_⟩
    · have a1 : a ≠ P := fun y => by rw [y, gdP] at z; cases z
      have a2 : a ≠ p := fun y => by have := kd.gh _ _ z; rw [y, hp] at this; cases this
      rw [upd_ne a1, upd_ne a2]; exact kd.gh _ _ z
    · have a1 : a ≠ P := fun y => by rw [y, hP] at z; cases z
      have a2 : a ≠ p := fun y => by rw [y, hH1p] at z; cases z
      rw [upd_ne a1, upd_ne a2]; exact (kc.trans kd).hh _ _ z
    · rw [upd_same, List.map_append]; rfl
    · refine List.nodup_append.mpr ⟨nd, by simp, fun a ha b hb e => ?_⟩
      rw [List.mem_singleton] at hb
      subst hb; subst e
      have := kd.hh _ _ (hls _ ha).2.2.2
      rw [hp] at this; cases this
    · rcases List.mem_append.mp hl with hl | hl
      · obtain ⟨c1, c2, c3, c4⟩ := hls l hl
        have c5 := kd.hh _ _ c4
        refine ⟨c1, c2, new c3 c4, ?_⟩
        rw [upd_ne c1, upd_ne (fun y => by rw [y, hp] at c5; cases c5)]; exact c5
      · rw [List.mem_singleton] at hl
        subst hl
        refine ⟨pP, hH1p, none_of kd.gh hp, ?_⟩
        rw [upd_ne pP, upd_same]
  · have en : n = xs.length := by omega
    refine .inl ⟨by rw [en]; exact w.2.1, ?_⟩
    have kk : Ok G1 H1 (upd Gc P (.lst (ls.map V.ref))) Hc := kc.know hP hPx gP
    obtain ⟨b2, k2', m2, e2, u2⟩ := Cfg.step b1 k1' m1 e1 u1 kk
    refine hn _ _ _ _ (q ls (by rw [hl, en])) ⟨_, b2, k2', m2, e2.set (.lst upd_same ?_), ?_⟩
    · have : ∀ ls : List Addr, RpAll K (upd Gc P (.lst (ls.map V.ref))) (ls.map V.ref) (ls.map .adr) := fun ls => by
        generalize upd Gc P (.lst (ls.map V.ref)) = GG
        induction ls with
        | nil => exact .nil
        | cons a ls ih => exact .cons (.adr a) ih
      exact this ls
    · refine ⟨?_, fun p hp => ?_⟩
      · rw [List.map_append, List.map_map]
        refine List.nodup_append.mpr ⟨?_, u2.nd, fun a ha b hb z => ?_⟩
        · rw [show (Prod.fst ∘ fun x : Addr => (x, ([] : List Dt))) = id from rfl, List.map_id]; exact nd
        · rw [show (Prod.fst ∘ fun x : Addr => (x, ([] : List Dt))) = id from rfl, List.map_id] at ha
          obtain ⟨p, hp, e3⟩ := List.mem_map.mp hb
          obtain ⟨_, _, _, xs', e4, _⟩ := u1.at_ p hp
          have := (hls a ha).2.1
          rw [z, ← e3, e4] at this; cases this
      · rcases List.mem_append.mp hp with hp | hp
        · obtain ⟨l, hl', rfl⟩ := List.mem_map.mp hp
          obtain ⟨c1, c2, c3, c4⟩ := hls l hl'
          exact ⟨fun z => M.there m1 z c2, k1'.nn _ c2, by rw [upd_ne c1]; exact c3, [], c4, .nil⟩
        · exact u2.at_ p hp
/-- all lists that were filled are data from here on -/
theorem MuOk.knowAll {H0 H : Hp} : ∀ (mu : Mu) {G : Hp}, MuOk K M H0 G H mu → Same G H → ∃ G', Same G G' ∧ Same G' H ∧ (∀ a o, G' a = some o → G a = none → H0 a = none ∧ ¬ M.ad a) ∧ RpAll K G' (mu.map fun p => V.ref p.1) (mu.map fun p => Dt.lst p.2)
  | [], G, _, hs => ⟨G, Same.refl _, hs, (fun a o h1 h2 => by rw [h1] at h2; cases h2), .nil⟩
  | (l, ds) :: mu, G, u, hs => by
    obtain ⟨na, xs, hx, hg, h0, r, u'⟩ := u.know
    have s1 : Same G (upd G l (.lst xs)) := same_upd hg
    obtain ⟨G', g1, g2, g3, g4⟩ := MuOk.knowAll mu u' (fun a o z => by
      by_cases q : a = l
      · subst q; rw [upd_same] at z; cases z; exact hx
      · rw [upd_ne q] at z; exact hs _ _ z)
    refine ⟨G', s1.trans g1, g2, fun a o z1 z2 => ?_, .cons (.lst (g1 _ _ upd_same) (RpAll.mono (s1.trans g1) _ r)) g4⟩
    by_cases q : a = l
    · subst q; exact ⟨h0, na⟩
    · exact g3 a o z1 (by rw [upd_ne q]; exact z2)
theorem refs_of {G : Hp} : ∀ (mu : Mu) {vs : List V}, RpAll K G vs (mu.map fun p => Dt.adr p.1) → vs = mu.map fun p => V.ref p.1
  | [], _, .nil => rfl
  | p :: mu, _, .cons (.adr _) h => by rw [refs_of mu h]; rfl
theorem x_retAll {i : Nat} {P : Dt → Prop} (h : es[i]? = some (some (.lst (mu.map fun p => .adr p.1)))) (q : P (.lst (mu.map fun p => .lst p.2))) : Xs K M (tRet (tVar i)) es mu N (RD1 K P) := fun B G0 H0 σ H D ⟨G, b, k, m, e, u⟩ hn hr => by
  obtain ⟨v, e1, r⟩ := e.at_ i _ h
  cases r with
  | lst h1 h2 =>
    rename_i a vs
    obtain ⟨G', g1, g2, g3, g4⟩ := u.knowAll mu k.gh
    have ev : vs = mu.map fun p => V.ref p.1 := refs_of mu h2
    refine ⟨_, e1, hr _ G' H ⟨k.gg.trans g1, g2, k.hh, k.nn, fun a o z1 z2 => ?_⟩ (M.keep m g1 (fun a o z1 z2 => (g3 a o z1 z2).2) fun _ _ _ z => z) ⟨_, q, .lst (g1 _ _ h1) (by rw [ev]; exact g4)⟩⟩
    cases z : G a with
    | none => exact (g3 a o z1 z).1
    | some o' => exact k.fr a o' z z2
theorem Xs.run {t : TS} {B G0 H0 : Hp} {σ : L2.St} {H : Hp} {D : Ends} (h : Xs K M t es mu N R) (c : Cfg K M B G0 H0 es mu σ H) (hn : ∀ es' mu' σ' H', N es' mu' → Cfg K M B G0 H0 es' mu' σ' H' → D.nx σ' H') (hr : ∀ v G' H', OkM M G0 H0 G' H' → M.ok G' H' → R H0 v G' H' → D.rt v H') : t D σ H := h B G0 H0 σ H D c hn hr
end
/-! ### data of the program -/
abbrev lotsD (lots : LM.Lots) : Dt := .tup (lots.map crD)
abbrev bkD (n : Nat) (lots : LM.Lots) : Dt := .book n (lotsD lots) (ldN (LM.masksOf lots))
abbrev sgD (cs : List Nat × List Nat) : Dt := .tup [crD cs.1, crD cs.2]
abbrev sgsD (t : Bool) (S : LM.Sgt) : Dt := seqD t (S.map sgD)
abbrev ndE (x : Int × List Nat) : Dt := .tup [.int x.1, ldN x.2]
abbrev ndD (need : LM.Need) : Dt := .lst (need.map ndE)
abbrev ndsD (n : Nat) (masks : List Nat) (S : LM.Sgt) : Dt := .lst ((List.range n).map fun p => ndD (LM.needOf masks p 0 S))
theorem enD_at {xs : List Dt} {i : Nat} {y : Dt} (h : (enD xs)[i]? = some y) : ∃ x, xs[i]? = some x ∧ y = .tup [.int ((i : Nat) : Int), x] := by
  have hi := (List.getElem?_eq_some_iff.mp h).1
  rw [enD_len] at hi
  have := enD_get (List.getElem?_eq_getElem hi)
  rw [this] at h
  cases h
  exact ⟨_, List.getElem?_eq_getElem hi, rfl⟩
theorem map_at {α β : Type} {f : α → β} {xs : List α} {i : Nat} {y : β} (h : (xs.map f)[i]? = some y) : ∃ x, xs[i]? = some x ∧ y = f x := by
  rw [List.getElem?_map] at h
  cases e : xs[i]? with
  | none => rw [e] at h; cases h
  | some x => rw [e] at h; cases h; exact ⟨x, rfl, rfl⟩
theorem rngD_at {lo : Int} {n i : Nat} {y : Dt} (h : (rngD lo n)[i]? = some y) : i < n ∧ y = .int (lo + (i : Int)) := by
  have hi := (List.getElem?_eq_some_iff.mp h).1
  rw [rngD_len] at hi
  rw [rngD_get hi] at h
  cases h
  exact ⟨hi, rfl⟩
theorem rng0 (n : Nat) : rngD 0 n = (List.range n).map dn := by
  unfold rngD
  apply List.map_congr_left
  intro i _
  show Dt.int (0 + (i : Int)) = _
  rw [Int.zero_add]
end DL
end
section
set_option Elab.async false
set_option linter.all false
set_option maxRecDepth 100000
set_option maxHeartbeats 0
/-! DLf: a comprehension of two walks -/
namespace DL
open PySem L2
section
variable {K : PySem.W.Frag}
theorem el_lc2 {α β : Type} (ys : List α) (enc : α → Dt) (zs : α → List β) (enc1 : β → Dt) (f : α → β → Dt) {wi wi1 : TI} {g g1 : TG} {te : TE} {vs is vs1 is1 : List Nat} {es : Es} (hw : WkD K wi es (ys.map enc)) (hi : ∀ i ∈ is, i ∈ vs) (hi1 : ∀ i ∈ is1, i ∈ vs1)
    (hz : ys.length ≤ 300) (hz1 : ∀ y ∈ ys, (zs y).length ≤ 300)
    (ht : ∀ y ∈ ys, TgD K g is (enc y) (wipeE es vs) fun es' => WkD K wi1 es' ((zs y).map enc1) ∧ ∀ z ∈ zs y, TgD K g1 is1 (enc1 z) (wipeE es' vs1) fun es'' => EvD K te es'' (f y z)) :
    EvL K (tLc2 wi g tYes wi1 g1 tYes te vs vs1) es (ys.flatMap fun y => (zs y).map (f y)) := fun σ G H he hs Q q => by
  refine hw σ G H he hs _ fun J G1 H1 k1 wj D hD => ?_
  have lenF : ∀ i, i ≤ ys.length → ((ys.take i).flatMap fun y => (zs y).map (f y)).length ≤ 300 * i := fun i hi => by
    rw [List.length_flatMap]
    have : ∀ l : List α, (∀ y ∈ l, (zs y).length ≤ 300) → (l.map fun a => ((zs a).map (f a)).length).sum ≤ 300 * l.length := fun l h => by
      induction l with
      | nil => simp
      | cons a l ih =>
        simp only [List.map_cons, List.sum_cons, List.length_map, List.length_cons] at ih ⊢
        have h1 := h a (by simp)
        have h2 := ih fun y hy => h y (by simp [hy])
        omega
    have h1 := this (ys.take i) fun y hy => hz1 y (List.mem_of_mem_take hy)
    rw [List.length_take] at h1
    have : min i ys.length ≤ i := Nat.min_le_left _ _
    have := Nat.mul_le_mul_left 300 this
    omega
  refine ⟨fun i m Hc => m = ys.length - i ∧ i ≤ ys.length ∧ ∃ Gc xs, Ok G1 H1 Gc Hc ∧ Gc D = none ∧ Hc D = some (.lst xs) ∧ RpAll K Gc xs ((ys.take i).flatMap fun y => (zs y).map (f y)),
    ⟨_, rfl, Nat.zero_le _, G1, [], Ok.more k1.gh (same_upd hD), none_of k1.gh hD, upd_same, .nil⟩, ?_⟩
  rintro i m Hc ⟨rfl, hile, Gc, xs, kc, gD, hDx, rx⟩
  have w := wj Hc (kc.gg.trans kc.gh)
  rw [List.length_map] at w
  by_cases hlt : i < ys.length
  · refine .inr ⟨w.1 i hlt, fun H' => i + 1 ≤ ys.length ∧ ∃ Gc xs, Ok G1 H1 Gc H' ∧ Gc D = none ∧ H' D = some (.lst xs) ∧ RpAll K Gc xs ((ys.take (i + 1)).flatMap fun y => (zs y).map (f y)), fun H' z => ⟨ys.length - (i + 1), by omega, rfl, z.1, z.2⟩, fun v H' hy => ?_⟩
    have hyi : ys[i]? = some ys[i] := List.getElem?_eq_getElem hlt
    obtain ⟨Gd, kd, rv⟩ := w.2.2 i v H' (enc ys[i]) (by rw [List.getElem?_map, hyi]; rfl) hy Gc kc.gg kc.gh
    have new : ∀ {Ga Ha Gb Hb : Hp} {o : HO}, Ok Ga Ha Gb Hb → Ga D = none → Ha D = some o → Gb D = none := fun {Ga Ha Gb Hb o} k h1 h2 => by
      cases z : Gb D with
      | none => rfl
      | some o' => have := k.fr D o' z h1; rw [h2] at this; cases this
    have gdD := new kd gD hDx
    have hDx' := kd.hh _ _ hDx
    have etk : ys.take (i + 1) = ys.take i ++ [ys[i]] := by rw [List.take_add_one, hyi]; rfl
    refine ht ys[i] (List.getElem_mem hlt) v (L2.wipe σ vs) Gd H' (((he.mono k1.gg).mono kc.gg).mono kd.gg |>.wipe vs) kd.gh rv _ fun σ2 es2 ⟨h1, h2⟩ e2 o2 => ⟨wipe_eq o2 hi, ?_⟩
    show wi1 σ2 H' _
    refine h1 σ2 Gd H' e2 kd.gh _ fun J1 G4 H4 k4 wj1 => ?_
    refine ⟨fun j k Hd => k = (zs ys[i]).length - j ∧ j ≤ (zs ys[i]).length ∧ ∃ Ge xs, Same G4 Ge ∧ Ok G1 H1 Ge Hd ∧ Ge D = none ∧ Hd D = some (.lst xs) ∧ RpAll K Ge xs (((ys.take i).flatMap fun y => (zs y).map (f y)) ++ ((zs ys[i]).take j).map (f ys[i])),
      ⟨_, rfl, Nat.zero_le _, G4, xs, Same.refl _, kc.trans (kd.trans k4), new k4 gdD hDx', k4.hh _ _ hDx', by rw [List.take_zero, List.map_nil, List.append_nil]; exact RpAll.mono (kd.gg.trans k4.gg) _ rx⟩, ?_⟩
    rintro j k Hd ⟨rfl, hjle, Ge, xs', g4, ke, geD, heD, re⟩
    have w1 := wj1 Hd (g4.trans ke.gh)
    rw [List.length_map] at w1
    by_cases hlj : j < (zs ys[i]).length
    · refine .inr ⟨w1.1 j hlj, fun H' => j + 1 ≤ (zs ys[i]).length ∧ ∃ Ge xs, Same G4 Ge ∧ Ok G1 H1 Ge H' ∧ Ge D = none ∧ H' D = some (.lst xs) ∧ RpAll K Ge xs (((ys.take i).flatMap fun y => (zs y).map (f y)) ++ ((zs ys[i]).take (j + 1)).map (f ys[i])), fun H' z => ⟨(zs ys[i]).length - (j + 1), by omega, rfl, z.1, z.2⟩, fun v1 H5 hy1 => ?_⟩
      have hzj : (zs ys[i])[j]? = some (zs ys[i])[j] := List.getElem?_eq_getElem hlj
      obtain ⟨Gf, kf, rf⟩ := w1.2.2 j v1 H5 (enc1 (zs ys[i])[j]) (by rw [List.getElem?_map, hzj]; rfl) hy1 Ge g4 ke.gh
      have gfD := new kf geD heD
      have hfD := kf.hh _ _ heD
      refine h2 (zs ys[i])[j] (List.getElem_mem hlj) v1 (L2.wipe σ2 vs1) Gf H5 ((((e2.mono k4.gg).mono g4).mono kf.gg).wipe vs1) kf.gh rf _ fun σ3 es3 h3 e3 o3 => ⟨wipe_eq o3 hi1, ?_⟩
      show te σ3 H5 _
      refine h3 σ3 Gf H5 e3 kf.gh _ fun u G6 H6 k6 r6 => ⟨xs', k6.hh _ _ hfD, ?_, hlj, ?_⟩
      · have l1 := re.length
        have l2 := lenF i hile
        have l3 := hz1 ys[i] (List.getElem_mem hlt)
        refine small' ?_
        rw [l1, List.length_append, List.length_map, List.length_take]
        omega
      · have g6D := new k6 gfD hfD
        have kk : Ok G1 H1 G6 H6 := ke.trans (kf.trans k6)
        have etj : (zs ys[i]).take (j + 1) = (zs ys[i]).take j ++ [(zs ys[i])[j]] := by rw [List.take_add_one, hzj]; rfl
        refine ⟨G6, xs' ++ [u], g4.trans (kf.gg.trans k6.gg), ⟨kk.gg, fun a o e => ?_, fun a o e => ?_, kk.fr⟩, g6D, upd_same, ?_⟩
        · rw [upd_ne (fun z => by rw [z, g6D] at e; cases e)]; exact kk.gh _ _ e
        · rw [upd_ne (fun z => by rw [z, hD] at e; cases e)]; exact kk.hh _ _ e
        · rw [etj, List.map_append, ← List.append_assoc]
          exact RpAll.snoc (RpAll.mono (kf.gg.trans k6.gg) _ re) r6
    · have e : j = (zs ys[i]).length := by omega
      subst e
      refine .inl ⟨w1.2.1, hlt, Ge, xs', ke, geD, heD, ?_⟩
      rw [List.take_length] at re
      rw [etk, List.flatMap_append]
      simpa using re
  · have e : i = ys.length := by omega
    subst e
    refine .inl ⟨w.2.1, ?_⟩
    rw [List.take_length] at rx
    exact q D xs Gc Hc (k1.trans kc) (none_of k1.hh hD) gD hDx rx
end
end DL
end
section
set_option Elab.async false
set_option linter.all false
set_option maxRecDepth 100000
set_option maxHeartbeats 0
/-! DLg: expressions that change a thing, or whose datum is known by a property alone -/
namespace DL
open PySem L2
section
variable {K : PySem.W.Frag} {M : Mo}
/-- one configuration to the next -/
structure OkS (M : Mo) (G H G' H' : Hp) : Prop where
  k : OkM M G H G' H'
  ok : M.ok G' H'
theorem OkS.trans {G H G1 H1 G2 H2 : Hp} (a : OkS M G H G1 H1) (b : OkS M G1 H1 G2 H2) : OkS M G H G2 H2 := ⟨a.k.trans b.k, b.ok⟩
theorem OkS.of {G H G' H' : Hp} (m : M.ok G H) (s : Ok G H G' H') : OkS M G H G' H' := ⟨.of s, M.keep m s.gg (fun a o z1 z2 n => M.there m n (s.fr a o z1 z2)) fun a o _ z => s.hh a o z⟩
theorem OkS.refl {G H : Hp} (hs : Same G H) (m : M.ok G H) : OkS M G H G H := .of m (.refl hs)
theorem OkS.gg {G H G' H' : Hp} (s : OkS M G H G' H') : Same G G' := s.k.gg
theorem OkS.gh {G H G' H' : Hp} (s : OkS M G H G' H') : Same G' H' := s.k.gh
def EvM (K : PySem.W.Frag) (M : Mo) (te : TE) (es : Es) (P : Dt → Prop) : Prop := ∀ σ G H, SlE K G σ es → Same G H → M.ok G H → ∀ Q : VK, (∀ v G' H' d, P d → OkS M G H G' H' → Rp K G' v d → Q v H') → te σ H Q
/-- a new list -/
def EvML (K : PySem.W.Frag) (M : Mo) (te : TE) (es : Es) (P : List Dt → Prop) : Prop := ∀ σ G H, SlE K G σ es → Same G H → M.ok G H → ∀ Q : VK,
  (∀ p xs G' H' ds, P ds → OkS M G H G' H' → H p = none → G' p = none → ¬ M.ad p → H' p = some (.lst xs) → RpAll K G' xs ds → Q (.ref p) H') → te σ H Q
def EvMT (K : PySem.W.Frag) (M : Mo) (tt : TT) (es : Es) (P : Bool → Prop) : Prop := ∀ σ G H, SlE K G σ es → Same G H → M.ok G H → ∀ Q : Bool → Hp → Prop, (∀ b G' H', P b → OkS M G H G' H' → Q b H') → tt σ H Q
def EvMA (K : PySem.W.Frag) (M : Mo) (ta : TA) (es : Es) (P : List Dt → Prop) : Prop := ∀ σ G H, SlE K G σ es → Same G H → M.ok G H → ∀ Q : List V → Hp → Prop, (∀ vs G' H' ds, P ds → OkS M G H G' H' → RpAll K G' vs ds → Q vs H') → ta σ H Q
variable {es : Es}
theorem em_of {te : TE} {d : Dt} (h : EvD K te es d) : EvM K M te es (· = d) := fun σ G H he hs m Q q => h σ G H he hs Q fun v G' H' k r => q v G' H' d rfl (.of m k) r
theorem em_imp {te : TE} {P P' : Dt → Prop} (h : EvM K M te es P) (i : ∀ d, P d → P' d) : EvM K M te es P' := fun σ G H he hs m Q q => h σ G H he hs m Q fun v G' H' d p k r => q v G' H' d (i d p) k r
theorem eml_of {te : TE} {ds : List Dt} (h : EvL K te es ds) : EvML K M te es (· = ds) := fun σ G H he hs m Q q => h σ G H he hs Q fun p xs G' H' k hp hg hx r => q p xs G' H' ds rfl (.of m k) hp hg (fun n => M.there m n hp) hx r
theorem EvML.d {te : TE} {P : List Dt → Prop} (h : EvML K M te es P) : EvM K M te es (fun d => ∃ ds, P ds ∧ d = .lst ds) := fun σ G H he hs m Q q => h σ G H he hs m Q fun p xs G' H' ds pd k hp hg na hx r => by
  have s1 : Same G' (upd G' p (.lst xs)) := same_upd hg
  refine q _ (upd G' p (.lst xs)) H' _ ⟨ds, pd, rfl⟩ ⟨⟨k.k.gg.trans s1, fun a o z => ?_, k.k.hh, k.k.nn, fun a o z1 z2 => ?_⟩, M.keep k.ok s1 (fun a o z1 z2 n => ?_) fun _ _ _ z => z⟩ (.lst upd_same (RpAll.mono s1 _ r))
  · by_cases e : a = p
    · subst e; rw [upd_same] at z; cases z; exact hx
    · rw [upd_ne e] at z; exact k.gh _ _ z
  · by_cases e : a = p
    · rw [e]; exact hp
    · rw [upd_ne e] at z1; exact k.k.fr a o z1 z2
  · by_cases e : a = p
    · exact na (by rw [← e]; exact n)
    · rw [upd_ne e, z2] at z1; cases z1
theorem em_op {r : R2} {ta tb : TE} {Pa : Dt → Prop} {Pb : Dt → Dt → Prop} {Pz : Dt → Prop} (ha : EvM K M ta es Pa) (hb : ∀ x, Pa x → EvM K M tb es (Pb x)) (hr : ∀ x y, Pa x → Pb x y → ∃ z, Pz z ∧ RD K r x y z) : EvM K M (tOp r ta tb) es Pz := fun σ G H he hs m Q q =>
  ha σ G H he hs m _ fun u G1 H1 x px k1 r1 => hb x px σ G1 H1 (he.mono k1.gg) k1.gh k1.ok _ fun v G2 H2 y py k2 r2 => by
    obtain ⟨z, pz, rd⟩ := hr x y px py
    exact rd u v G2 H2 k2.gh (r1.mono k2.gg) r2 Q fun w G3 H3 k3 r3 => q w G3 H3 z pz ((k1.trans k2).trans (.of k2.ok k3)) r3
/-- the left one pure -/
theorem em_opR {r : R2} {ta tb : TE} {x : Dt} {Pb : Dt → Prop} {Pz : Dt → Prop} (ha : EvD K ta es x) (hb : EvM K M tb es Pb) (hr : ∀ y, Pb y → ∃ z, Pz z ∧ RD K r x y z) : EvM K M (tOp r ta tb) es Pz := em_op (em_of ha) (fun _ _ => hb) fun a y e p => by subst e; exact hr y p
/-- the right one pure -/
theorem em_opL {r : R2} {ta tb : TE} {y : Dt} {Pa : Dt → Prop} {Pz : Dt → Prop} (ha : EvM K M ta es Pa) (hb : EvD K tb es y) (hr : ∀ x, Pa x → ∃ z, Pz z ∧ RD K r x y z) : EvM K M (tOp r ta tb) es Pz := em_op ha (fun _ _ => em_of hb) fun x b p e => by subst e; exact hr x p
theorem ema_of {ta : TA} {ds : List Dt} (h : EvA K ta es ds) : EvMA K M ta es (· = ds) := fun σ G H he hs m Q q => h σ G H he hs Q fun vs G' H' k r => q vs G' H' ds rfl (.of m k) r
theorem ema_nil : EvMA K M tNil es (· = []) := ema_of ea_nil
theorem ema_cons {te : TE} {ta : TA} {P : Dt → Prop} {Pr : Dt → List Dt → Prop} (h : EvM K M te es P) (hr : ∀ d, P d → EvMA K M ta es (Pr d)) : EvMA K M (tCons te ta) es (fun l => ∃ d ds, P d ∧ Pr d ds ∧ l = d :: ds) := fun σ G H he hs m Q q =>
  h σ G H he hs m _ fun v G1 H1 d pd k1 r1 => hr d pd σ G1 H1 (he.mono k1.gg) k1.gh k1.ok _ fun vs G2 H2 ds pds k2 r2 => q (v :: vs) G2 H2 _ ⟨d, ds, pd, pds, rfl⟩ (k1.trans k2) (.cons (r1.mono k2.gg) r2)
theorem ema_imp {ta : TA} {P P' : List Dt → Prop} (h : EvMA K M ta es P) (i : ∀ d, P d → P' d) : EvMA K M ta es P' := fun σ G H he hs m Q q => h σ G H he hs m Q fun v G' H' d p k r => q v G' H' d (i d p) k r
theorem em_tup {ta : TA} {P : List Dt → Prop} {Pz : Dt → Prop} (h : EvMA K M ta es P) (hl : ∀ ds, P ds → ds.length ≤ 100000 ∧ Pz (.tup ds)) : EvM K M (tTup ta) es Pz := fun σ G H he hs m Q q =>
  h σ G H he hs m _ fun vs G1 H1 ds p k1 r1 => ⟨small (by rw [r1.length]; exact (hl ds p).1), fun l hp => q _ _ _ _ (hl ds p).2 (k1.trans (.of k1.ok (Ok.new k1.gh hp))) (.tup upd_same (RpAll.mono (same_upd (none_of k1.gh hp)) _ r1))⟩
theorem em_lst {ta : TA} {P : List Dt → Prop} {Pz : Dt → Prop} (h : EvMA K M ta es P) (hl : ∀ ds, P ds → ds.length ≤ 100000 ∧ Pz (.lst ds)) : EvM K M (tLst ta) es Pz := fun σ G H he hs m Q q =>
  h σ G H he hs m _ fun vs G1 H1 ds p k1 r1 => ⟨small (by rw [r1.length]; exact (hl ds p).1), fun l hp => q _ _ _ _ (hl ds p).2 (k1.trans (.of k1.ok (Ok.new k1.gh hp))) (.lst upd_same (RpAll.mono (same_upd (none_of k1.gh hp)) _ r1))⟩
theorem em_cb {r : List V → Hp → VK → Prop} {ta : TA} {P : List Dt → Prop} {Pz : Dt → Prop} (h : EvMA K M ta es P) (hr : ∀ ds, P ds → ∃ z, Pz z ∧ RC K r ds z) : EvM K M (tCB r ta) es Pz := fun σ G H he hs m Q q =>
  h σ G H he hs m _ fun vs G1 H1 ds p k1 r1 => by
    obtain ⟨z, pz, rc⟩ := hr ds p
    exact rc vs G1 H1 k1.gh r1 Q fun w G2 H2 k2 r2 => q w G2 H2 z pz (k1.trans (.of k1.ok k2)) r2
theorem emt_test {te : TE} {P : Bool → Prop} (h : EvM K M te es fun d => ∃ b, P b ∧ d = .bl b) : EvMT K M (tTest te) es P := fun σ G H he hs m Q q => h σ G H he hs m _ fun v G' H' d p k r => by
  obtain ⟨b, pb, rfl⟩ := p
  cases r
  exact ⟨b, rfl, q b G' H' pb k⟩
theorem emt_of {tt : TT} {b : Bool} (h : EvT K tt es b) : EvMT K M tt es (· = b) := fun σ G H he hs m Q q => h σ G H he hs Q fun H' k => q b G H' rfl (.of m (.more hs k))
/-- a def's promise: P what is true of what it hands back; M what it may change -/
def spM {α : Type} (K : PySem.W.Frag) (M : α → Mo) (inp : α → List Dt) (pre : α → Prop) (P : α → Dt → Prop) : Sp := fun vs H Q _ => ∃ (x : α) (G : Hp), Same G H ∧ RpAll K G vs (inp x) ∧ (M x).ok G H ∧ pre x ∧ ∀ v G' H' d, P x d → OkS (M x) G H G' H' → Rp K G' v d → Q v H'
theorem em_call {α : Type} {Mf : α → Mo} {inp : α → List Dt} {pre : α → Prop} {P : α → Dt → Prop} {ta : TA} {Pa : List Dt → Prop} {Pz : Dt → Prop} (h : EvMA K M ta es Pa) (hp : ∀ ds, Pa ds → ∃ x, Mf x = M ∧ ds = inp x ∧ pre x ∧ ∀ d, P x d → Pz d) : EvM K M (tCall (spM K Mf inp pre P) [] C8.E0 ta) es Pz := fun σ G H he hs m Q q =>
  h σ G H he hs m _ fun vs G1 H1 ds pd k1 r1 => by
    obtain ⟨x, e1, e2, px, pz⟩ := hp ds pd
    subst e1 e2
    exact ⟨x, G1, k1.gh, by rw [List.append_nil]; exact r1, k1.ok, px, fun v G2 H2 d pd k2 r2 => q v G2 H2 d (pz d pd) (k1.trans k2) r2⟩
/-- .. by a pure def -/
theorem em_callD {α : Type} {inp : α → List Dt} {pre : α → Prop} {out : α → Dt} {ta : TA} {Pa : List Dt → Prop} {Pz : Dt → Prop} (h : EvMA K M ta es Pa) (hp : ∀ ds, Pa ds → ∃ x, ds = inp x ∧ pre x ∧ Pz (out x)) : EvM K M (tCall (spD K inp pre out) [] C8.E0 ta) es Pz := fun σ G H he hs m Q q =>
  h σ G H he hs m _ fun vs G1 H1 ds pd k1 r1 => by
    obtain ⟨x, e2, px, pz⟩ := hp ds pd
    subst e2
    exact ⟨x, G1, k1.gh, by rw [List.append_nil]; exact r1, px, fun v G2 H2 k2 r2 => q v G2 H2 _ pz (k1.trans (.of k1.ok k2)) r2⟩
/-! ### comprehensions whose test or element changes a thing -/
theorem eml_lc {α : Type} (ys : List α) (enc : α → Dt) (Pf : α → Dt → Prop) {wi : TI} {g : TG} {tt : TT} {te : TE} {vs is : List Nat} (hw : WkD K wi es (ys.map enc)) (hi : ∀ i ∈ is, i ∈ vs) (hz : ys.length ≤ 100000)
    (ht : ∀ y ∈ ys, TgD K g is (enc y) (wipeE es vs) fun es' => EvMT K M tt es' (fun _ => True) ∧ EvM K M te es' (Pf y)) :
    EvML K M (tLc wi g tt te vs) es fun ds => ∃ zs : List α, zs.Sublist ys ∧ zs.length = ds.length ∧ ∀ (i : Nat) z d, zs[i]? = some z → ds[i]? = some d → Pf z d := fun σ G H he hs m0 Q q => by
  refine hw σ G H he hs _ fun J G1 H1 k1 wj D hD => ?_
  have m1 : M.ok G1 H1 := (OkS.of m0 k1).ok
  have naD : ¬ M.ad D := fun n => M.there m1 n hD
  have mD : M.ok G1 (upd H1 D (.lst [])) := M.keep m1 (Same.refl _) (fun a o z1 z2 n => by rw [z1] at z2; cases z2) fun a o n z => by
    rw [upd_ne (ne_of_none z hD)]; exact z
  refine ⟨fun i m Hc => m = ys.length - i ∧ i ≤ ys.length ∧ ∃ (Gc : Hp) (xs : List V) (ds : List Dt) (zs : List α), OkS M G1 H1 Gc Hc ∧ Gc D = none ∧ Hc D = some (.lst xs) ∧ RpAll K Gc xs ds ∧ zs.Sublist (ys.take i) ∧ zs.length = ds.length ∧ ∀ (i : Nat) z d, zs[i]? = some z → ds[i]? = some d → Pf z d,
    ⟨_, rfl, Nat.zero_le _, G1, [], [], [], ⟨.of (Ok.more k1.gh (same_upd hD)), mD⟩, none_of k1.gh hD, upd_same, .nil, List.nil_sublist _, rfl, fun i z d h => by simp at h⟩, ?_⟩
  rintro i m Hc ⟨rfl, hile, Gc, xs, ds, zs, kc, gD, hDx, rx, sub, lzs, hzs⟩
  have w := wj Hc (kc.gg.trans kc.gh)
  rw [List.length_map] at w
  by_cases hlt : i < ys.length
  · refine .inr ⟨w.1 i hlt, fun H' => i + 1 ≤ ys.length ∧ ∃ (Gc : Hp) (xs : List V) (ds : List Dt) (zs : List α), OkS M G1 H1 Gc H' ∧ Gc D = none ∧ H' D = some (.lst xs) ∧ RpAll K Gc xs ds ∧ zs.Sublist (ys.take (i + 1)) ∧ zs.length = ds.length ∧ ∀ (i : Nat) z d, zs[i]? = some z → ds[i]? = some d → Pf z d, fun H' z => ⟨ys.length - (i + 1), by omega, rfl, z.1, z.2⟩, fun v H' hy => ?_⟩
    have hyi : ys[i]? = some ys[i] := List.getElem?_eq_getElem hlt
    have etk : ys.take (i + 1) = ys.take i ++ [ys[i]] := by rw [List.take_add_one, hyi]; rfl
    obtain ⟨Gd, kd, rv⟩ := w.2.2 i v H' (enc ys[i]) (by rw [List.getElem?_map, hyi]; rfl) hy Gc kc.gg kc.gh
    have kd' : OkS M Gc Hc Gd H' := .of kc.ok kd
    have new : ∀ {Ga Ha Gb Hb : Hp} {o : HO}, OkS M Ga Ha Gb Hb → Ga D = none → Ha D = some o → Gb D = none := fun {Ga Ha Gb Hb o} k h1 h2 => by
      cases z : Gb D with
      | none => rfl
      | some o' => have := k.k.fr D o' z h1; rw [h2] at this; cases this
    have gdD := new kd' gD hDx
    have hDx' := kd.hh _ _ hDx
    refine ht ys[i] (List.getElem_mem hlt) v (L2.wipe σ vs) Gd H' (((he.mono k1.gg).mono kc.gg).mono kd.gg |>.wipe vs) kd.gh rv _ fun σ2 es2 ⟨h1, h2⟩ e2 o2 => ⟨wipe_eq o2 hi, ?_⟩
    refine h1 σ2 Gd H' e2 kd.gh kd'.ok _ fun b G3 H3 _ k3 => ?_
    have g3D := new k3 gdD hDx'
    have h3D := k3.k.hh _ _ naD hDx'
    cases b with
    | false => exact ⟨hlt, G3, xs, ds, zs, kc.trans (kd'.trans k3), g3D, h3D, RpAll.mono (kd.gg.trans k3.gg) _ rx, sub.trans (by rw [etk]; exact List.sublist_append_left _ _), lzs, hzs⟩
    | true =>
      refine h2 σ2 G3 H3 (e2.mono k3.gg) k3.gh k3.ok _ fun u G4 H4 d pd k4 r4 => ⟨xs, k4.k.hh _ _ naD h3D, ?_, ?_⟩
      · have l1 := rx.length
        have l2 := sub.length_le
        rw [List.length_take] at l2
        exact small' (by omega)
      · have g4D := new k4 g3D h3D
        have kk : OkS M G1 H1 G4 H4 := kc.trans (kd'.trans (k3.trans k4))
        refine ⟨hlt, G4, xs ++ [u], ds ++ [d], zs ++ [ys[i]], ⟨⟨kk.k.gg, fun a o e => ?_, fun a o n e => ?_, fun a e => ?_, kk.k.fr⟩, M.keep kk.ok (Same.refl _) (fun a o z1 z2 n => by rw [z1] at z2; cases z2) fun a o n z => ?_⟩, g4D, upd_same, RpAll.snoc (RpAll.mono ((kd.gg.trans k3.gg).trans k4.gg) _ rx) r4, by rw [etk]; exact List.Sublist.append sub (List.Sublist.refl _), by simp [lzs], fun j z d' hj hd => ?_⟩
        · rw [upd_ne (fun z => by rw [z, g4D] at e; cases e)]; exact kk.k.gh _ _ e
        · rw [upd_ne (fun z => by rw [z, hD] at e; cases e)]; exact kk.k.hh _ _ n e
        · by_cases q : a = D
          · rw [q]; exact hD
          · rw [upd_ne q] at e; exact kk.k.nn _ e
        · rw [upd_ne (fun q => naD (by rw [← q]; exact n))]; exact z
        · by_cases hjl : j < zs.length
          · rw [List.getElem?_append_left hjl] at hj
            rw [List.getElem?_append_left (by omega)] at hd
            exact hzs j z d' hj hd
          · have h5 : j = zs.length := by
              have := (List.getElem?_eq_some_iff.mp hj).1
              simp at this; omega
            subst h5
            rw [List.getElem?_append_right (Nat.le_refl _)] at hj
            rw [lzs, List.getElem?_append_right (Nat.le_refl _)] at hd
            simp at hj hd
            subst hj hd
            exact pd
  · have e : i = ys.length := by omega
    subst e
    refine .inl ⟨w.2.1, ?_⟩
    rw [List.take_length] at sub
    exact q D xs Gc Hc ds ⟨zs, sub, lzs, hzs⟩ ((OkS.of m0 k1).trans kc) (none_of k1.hh hD) gD naD hDx rx
/-! ### statements -/
variable {mu : Mu} {N : Es → Mu → Prop} {R : RT}
theorem Cfg.stepM {B G0 H0 G H G' H' : Hp} {σ : L2.St} (b : Same B G) (k : OkM M G0 H0 G H) (e : SlE K G σ es) (u : MuOk K M H0 G H mu) (s : OkS M G H G' H') : Same B G' ∧ OkM M G0 H0 G' H' ∧ M.ok G' H' ∧ SlE K G' σ es ∧ MuOk K M H0 G' H' mu :=
  ⟨b.trans s.gg, k.trans s.k, s.ok, e.mono s.gg, u.step s.gg s.k.fr s.k.hh⟩
theorem x_asgM {te : TE} {i : Nat} {P : Dt → Prop} (h : EvM K M te es P) (q : ∀ d, P d → N (es.set i (some d)) mu) : Xs K M (tAsg te (gName i)) es mu N R := fun B G0 H0 σ H D ⟨G, b, k, m, e, u⟩ hn hr =>
  h σ G H e k.gh m _ fun v G1 H1 d p k1 r1 => by
    obtain ⟨b', k', m', e', u'⟩ := Cfg.stepM b k e u k1
    exact hn _ _ _ _ (q d p) ⟨G1, b', k', m', e'.set r1, u'⟩
theorem x_asgTM {te : TE} {g : TG} {is : List Nat} {P : Dt → Prop} (h : EvM K M te es P) (q : ∀ d, P d → TgD K g is d es fun es' => N es' mu) : Xs K M (tAsg te g) es mu N R := fun B G0 H0 σ H D ⟨G, b, k, m, e, u⟩ hn hr =>
  h σ G H e k.gh m _ fun v G1 H1 d p k1 r1 => by
    obtain ⟨b', k', m', e', u'⟩ := Cfg.stepM b k e u k1
    exact q d p v σ G1 H1 e' k1.gh r1 _ fun σ' es' x e2 _ => hn _ _ _ _ x ⟨G1, b', k', m', e2, u'⟩
theorem x_dropM {te : TE} {P : Dt → Prop} (h : EvM K M te es P) (q : N es mu) : Xs K M (tDrop te) es mu N R := fun B G0 H0 σ H D ⟨G, b, k, m, e, u⟩ hn hr =>
  h σ G H e k.gh m _ fun v G1 H1 d p k1 r1 => by
    obtain ⟨b', k', m', e', u'⟩ := Cfg.stepM b k e u k1
    exact hn _ _ _ _ q ⟨G1, b', k', m', e', u'⟩
theorem x_retM {te : TE} {Pr : Dt → Prop} (h : EvM K M te es Pr) : Xs K M (tRet te) es mu N (RD1 K Pr) := fun B G0 H0 σ H D ⟨G, b, k, m, e, u⟩ hn hr =>
  h σ G H e k.gh m _ fun v G1 H1 d p k1 r1 => by
    obtain ⟨b', k', m', e', u'⟩ := Cfg.stepM b k e u k1
    exact hr v G1 H1 k' m' ⟨d, p, r1⟩
theorem x_ifM {tt : TT} {t u : TS} {P : Bool → Prop} (h : EvMT K M tt es P) (h1 : P true → Xs K M t es mu N R) (h2 : P false → Xs K M u es mu N R) : Xs K M (tIfS tt t u) es mu N R := fun B G0 H0 σ H D ⟨G, bb, k, m, e, uu⟩ hn hr =>
  h σ G H e k.gh m _ fun b G1 H1 p k1 => by
    have c : Cfg K M B G0 H0 es mu σ H1 := ⟨G1, Cfg.stepM bb k e uu k1⟩
    cases b with
    | true =>
      show t D σ H1
      exact h1 p B G0 H0 σ H1 D c hn hr
    | false =>
      show u D σ H1
      exact h2 p B G0 H0 σ H1 D c hn hr
theorem x_newM {te : TE} {i : Nat} {P : List Dt → Prop} (h : EvML K M te es P) (q : ∀ l ds, P ds → N (es.set i (some (.adr l))) ((l, ds) :: mu)) : Xs K M (tAsg te (gName i)) es mu N R := fun B G0 H0 σ H D ⟨G, b, k, m, e, u⟩ hn hr =>
  h σ G H e k.gh m _ fun p xs G1 H1 ds pd k1 hp hg na hx r1 => by
    obtain ⟨b', k', m', e', u'⟩ := Cfg.stepM b k e u k1
    refine hn _ _ _ _ (q p ds pd) ⟨G1, b', k', m', e'.set (.adr p), u'.add na (k.nn p hp) hg hx r1 fun z => ?_⟩
    obtain ⟨x, hx1, hx2⟩ := List.mem_map.mp z
    obtain ⟨_, _, _, ys, hy, _⟩ := u.at_ x hx1
    rw [hx2, hp] at hy; cases hy
theorem x_appM {to te : TE} (j : Nat) {l : Addr} {ds : List Dt} {P : Dt → Prop} (ho : EvD K to es (.adr l)) (h : EvM K M te es P) (hj : mu[j]? = some (l, ds)) (hz : ds.length < 100000) (q : ∀ d, P d → N es (mu.set j (l, ds ++ [d]))) :
    Xs K M (tDrop (tBM K "list" rAppend to (tCons te tNil))) es mu N R := fun B G0 H0 σ H D ⟨G, b, k, m, e, u⟩ hn hr =>
  ho σ G H e k.gh _ fun v G1 H1 k1 r1 => by
    cases r1
    obtain ⟨b1, k1', m1, e1, u1⟩ := Cfg.step b k m e u k1
    obtain ⟨na, h0, hg, xs, hx, rx⟩ := u1.at_ _ (List.mem_of_getElem? hj)
    refine ⟨.inl ⟨rfl, _, .inl (.inl hx)⟩, h σ G1 H1 e1 k1.gh m1 _ fun w G2 H2 d pd k2 r2 => ?_⟩
    obtain ⟨b2, k2', m2, e2, u2⟩ := Cfg.stepM b1 k1' e1 u1 k2
    have hx2 := k2.k.hh _ _ na hx
    have rx2 := RpAll.mono k2.gg _ rx
    exact ⟨l, xs, w, rfl, rfl, hx2, small' (by rw [rx.length]; exact Nat.le_of_lt hz), hn _ _ _ _ (q d pd) (Cfg.put b2 k2' m2 e2 u2 hj (rx2.snoc r2))⟩
/-- a walk that is begun by an expression which changes a thing -/
def WkM (K : PySem.W.Frag) (M : Mo) (wi : TI) (es : Es) (P : List Dt → Prop) : Prop := ∀ σ G H, SlE K G σ es → Same G H → M.ok G H → ∀ R : It → Hp → Prop, (∀ J G' H' xs, P xs → OkS M G H G' H' → WkJ K J G' xs → R J H') → wi σ H R
theorem wm_range1 {ta : TA} {P : Nat → Prop} (h : EvMA K M ta es fun l => ∃ n : Nat, P n ∧ l = [dn n]) (hb : ∀ n, P n → n < 2 ^ 62) : WkM K M (iRng1 ta) es (fun xs => ∃ n, P n ∧ xs = rngD 0 n) := fun σ G H he hs m R q => h σ G H he hs m _ fun vs G1 H1 ds ⟨n, pn, ed⟩ k1 r1 => by
  subst ed
  obtain ⟨v, rfl, r⟩ := one_rp r1
  cases r
  have h1 := hb n pn
  exact ⟨(n : Int), rfl, by omega, by omega, q _ G1 H1 _ ⟨n, pn, rfl⟩ k1 (by rw [Int.toNat_natCast]; exact wkj_range)⟩
theorem x_forM {wi : TI} {g : TG} {tb : TS} {is : List Nat} {P : List Dt → Prop} (I : List Dt → Nat → Es → Mu → Prop) (hw : WkM K M wi es P) (h0 : ∀ xs, P xs → I xs 0 es mu)
    (ht : ∀ (i : Nat) xs x es' mu', P xs → xs[i]? = some x → I xs i es' mu' → TgD K g is x es' fun es'' => Xs K M tb es'' mu' (I xs (i + 1)) R) (hd : ∀ xs es' mu', P xs → I xs xs.length es' mu' → N es' mu') : Xs K M (tFor wi g tb) es mu N R := fun B G0 H0 σ H D ⟨G, b, k, m, e, u⟩ hn hr => by
  refine hw σ G H e k.gh m _ fun J G1 H1 xs px k1 wj => ?_
  obtain ⟨b1, k1', m1, e1, u1⟩ := Cfg.stepM b k e u k1
  refine ⟨fun i mm σ' H' => mm = xs.length - i ∧ i ≤ xs.length ∧ ∃ es' mu', I xs i es' mu' ∧ Cfg K M G1 G0 H0 es' mu' σ' H', ⟨_, rfl, Nat.zero_le _, es, mu, h0 xs px, G1, Same.refl _, k1', m1, e1, u1⟩, ?_⟩
  rintro i mm σ' H' ⟨rfl, hile, es', mu', hI, G2, b2, k2, m2, e2, u2⟩
  have w := wj H' (b2.trans k2.gh)
  by_cases hlt : i < xs.length
  · refine .inr ⟨w.1 i hlt, fun σ'' H'' => ∃ es' mu', I xs (i + 1) es' mu' ∧ Cfg K M G1 G0 H0 es' mu' σ'' H'', fun σ'' H'' z => ⟨xs.length - (i + 1), by omega, rfl, hlt, z⟩, fun v H'' hy => ?_⟩
    have hxi : xs[i]? = some xs[i] := List.getElem?_eq_getElem hlt
    obtain ⟨G3, k3, rv⟩ := w.2.2 i v H'' xs[i] hxi hy G2 b2 k2.gh
    obtain ⟨b3, k3', m3, e3, u3⟩ := Cfg.step b2 k2 m2 e2 u2 k3
    refine ht i xs xs[i] es' mu' px hxi hI v σ' G3 H'' e3 k3.gh rv _ fun σ4 es4 x4 e4 _ => ?_
    exact x4 G1 G0 H0 σ4 H'' _ ⟨G3, b3, k3', m3, e4, u3⟩ (fun es5 mu5 σ5 H5 z c => ⟨es5, mu5, z, c⟩) hr
  · have ee : i = xs.length := by omega
    subst ee
    refine .inl ⟨w.2.1, hn es' mu' σ' H' (hd _ _ _ px hI) ⟨G2, k1.gg.trans b2 |> b.trans, k2, m2, e2, u2⟩⟩
end
section
variable {P : Program} {w : World} {K : PySem.W.Frag} {mg : Str → Option Value} {base : Heap}
/-- a def that may change a thing -/
theorem mkM {α : Type} {x qual : Str} {params : Arguments} {body : List Stmt} {scope : Scope} {f : Addr} {fd : FuncData} {N ps : List Str} {k : Nat} {Mf : α → Mo} {inp : α → List Dt} {pre : α → Prop} {Pd : α → Dt → Prop}
    (F : FunD K x qual params body scope [] [] f fd) (S : FnScope N ps scope) (hl : ∀ x, (inp x).length = ps.length)
    (hb : ∀ us : List Value, us.length = ps.length → ∀ (kV doc pm : Value) (an : Option Addr) (cdv ct : Value), bindArgs (PySem.W.fnOf x qual params body scope .none kV doc pm an cdv ct) ⟨us, []⟩ = pure (ps.zip us)) (hm : mg x = some (.ref f))
    (hbody : ∀ (cdv : Value) (A : Around) (outer : List Env) (s : Shared) (H : Hp) (E : XK), Room k (A.deeper (PyProof.Rows.envOfC qual scope s.heap.objs.size f cdv)) →
      ∃ t, PSs (cxOf CX0 P w K mg base N qual scope f cdv A outer s H E).nox body t ∧ ∀ x, pre x → Xs K (Mf x) t ((inp x).map some ++ List.replicate (N.length - (inp x).length) none) [] (fun _ _ => False) (RD1 K (Pd x))) :
    C8.Cal P w K mg base (k + 1) x (spM K Mf inp pre Pd) [] := by
  refine ⟨f, fd, ps, [], F.ok S (fun vs H Q E h => ?_) (fun cdv A outer s H vs Q E hr h => ?_), hm, F.kp, F.bindsN fun kV doc pm an cdv ct us hu => hb us hu kV doc pm an cdv ct, .nil⟩
  · obtain ⟨y, G, _, r, _⟩ := h
    rw [r.length, hl]
  · obtain ⟨y, G, hs, r, mo, hp, q⟩ := h
    obtain ⟨t, ht, hx⟩ := hbody cdv A outer s H E hr
    refine ⟨t, ht.nox, hx y hp G G H _ H _ ⟨G, Same.refl _, .of (.refl hs), mo, SlE.start r, List.nodup_nil, fun p hp => by cases hp⟩ (fun es' mu' σ' H' e c => e.elim) fun v G' H' k' m' ⟨d, pd, rv⟩ => q v G' H' d pd ⟨k', m'⟩ rv⟩
end
end DL
end
section
set_option Elab.async false
set_option linter.all false
set_option maxRecDepth 100000
set_option maxHeartbeats 0
/-! SpDict: a display of one pair whose key is a tuple -/
namespace DL
open PySem L2
def tDisp1 (tk tv : TE) : TE := fun σ H Q => ∀ p, H p = none → tk σ (upd H p (.dT [])) fun x H1 => tv σ H1 fun y H2 => H2 p = some (.dT []) ∧ ∃ b k, x = .ref b ∧ H2 b = some (.tup (k.map kV)) ∧ Q (.ref p) (upd H2 p (.dT [(k, y)]))
theorem pe_disp1 {X : Cx} {pos : Pos} {ke ve : Expr} {tk tv : TE} (hu : X.A.units < cLine) (hk : PE X ke tk) (hv : PE X ve tv) : PE X (.Dict [some ke] [ve] pos) (tDisp1 tk tv) := by
  refine ⟨fun pins s σ H Q I q => ?_⟩
  have hn := I.hok.fresh (Nat.le_refl s.heap.objs.size)
  have I1 := I.laid (a := s.heap.objs.size) (o := .dT []) (h' := s.heap.push { cls := .type "dict", data := .dict #[] }) (t' := s.toks) (fun _ _ q => Heap.get?_push_of_some _ q) (Nat.le_refl _) (dt_empty s.heap I.big)
  rw [arm_eval_Dict, PySem.zip_pairTrees [some ke] [ve] X.env pos rfl rfl, dictDisplay_pairs (pairTrees [some ke] [ve] X.env pos) (fun z => nomatch z) (show 1 < 17 by decide)]
  refine wpAny_bind (wpAny_standAt (wpAny_bind (wpAny_subDictH (knd := tupleKind (mixKind X.prog X.w)) hu (show 1 ≤ 15 by decide) ?_)))
  refine PySem.pairTrees_cons_walk (thn (hk.run pins _ σ _ _ I1 (q _ hn)) fun u s1 ⟨x, H1, I2, rx, q1⟩ => thn (hv.run pins s1 σ H1 _ I2 q1) fun w2 s2 ⟨y, H2, I3, ry, e, b, k, ex, eb, q2⟩ => ?_)
  subst ex
  obtain rfl : u = Value.ref b := rx
  obtain ⟨z, hd, xs, rel, dd⟩ := dt_of I3.hok e
  cases rel
  refine PySem.pairTrees_nil_walk ⟨[(k, b, w2)], ⟨rfl, rfl, key_of I3.hok eb, trivial⟩, dd, fun h' tk' dd' hs => wpAny_pure ?_⟩
  obtain ⟨q', es, ep, hq, h2, h3, h4, _, h5⟩ := dd'
  refine ⟨.ref s.heap.objs.size, _, d_write (ob := .dT [(k, y)]) I3 (by rw [e]; exact True.intro) hs ⟨q', hq⟩ ⟨?_, hd, _, ((KT.put .nil k eb ry).keeps fun c ys ec => ?_), q', es, ep, hq, h2, h3, h4, h5⟩, rfl, q2⟩
  · show 1 ≤ sizeLine
    decide
  · rw [upd_ne (ne_of ec e (fun z => nomatch z))]
    exact ec
end DL
end
section
set_option Elab.async false
set_option linter.all false
set_option maxRecDepth 100000
set_option maxHeartbeats 0
/-! D1: the small checks, crowds as bits -/
namespace DL
open PySem L2
theorem ev_ty {K : PySem.W.Frag} {es : Es} {n : String} : EvD K (tC (.ty n)) es (.ty n) := fun σ G H he hs Q q => q _ G H (.refl hs) (.ty n)
theorem kb_ii : kitB "int" "int" = some true := by decide +kernel
theorem kb_ib : kitB "int" "bool" = some false := by decide +kernel
theorem kb_tt : kitB "tuple" "tuple" = some true := by decide +kernel
theorem kb_ll : kitB "list" "list" = some true := by decide +kernel
theorem kb_lt : kitB "list" "tuple" = some false := by decide +kernel
theorem kb_tl : kitB "tuple" "list" = some false := by decide +kernel
/-- a crowd of so many -/
structure CrOk (n : Nat) (c : List Nat) : Prop where
  inc : c.Pairwise (· < ·)
  lt : ∀ p ∈ c, p < n
section
variable {P : Program} {w : World} {K : PySem.W.Frag} {mg : Str → Option Value} {base : Heap}
theorem sc_is_integer : FnScope ["thing"] ["thing"] (defScope Hd.s_is_integer) := ⟨rfl, rfl, rfl, by decide +kernel, rfl, by decide +kernel, by decide +kernel⟩
def sp_is_integer (K : PySem.W.Frag) : Sp := spD K (fun i : Int => [.int i]) (fun _ => True) (fun _ => .bl true)
theorem cal_is_integer (T : Txt K mg) : C8.Cal P w K mg base 1 "is_integer" (sp_is_integer K) [] := by
  obtain ⟨fd, F⟩ := T.f_is_integer
  have nd := sc_is_integer.nd
  refine mkD F sc_is_integer (fun _ => rfl) (fun us hl _ _ _ _ _ _ => match us, hl with | [_], _ => rfl) T.m_is_integer fun cdv A outer s H E hr => ⟨_,
      (pss_one (ps_ret (pe_and (pe_callB (kIsi K) (by rfl) T.isinstance (by decide +kernel) (pa_cons (pv 0) (pa_cons (pe_bltn (v := .ty "int") (by rfl) T.int (by decide +kernel) rfl) pa_nil))) (pe_one (pe_not (pe_callB (kIsi K) (by rfl) T.isinstance (by decide +kernel) (pa_cons (pv 0) (pa_cons (pe_bltn (v := .ty "bool") (by rfl) T.bool (by decide +kernel) rfl) pa_nil)))))))), ?_⟩
  intro i _
  exact x_ret (ev_andV (ev_cb (ea_cons (ev_var rfl) (ea_cons ev_ty ea_nil)) (rc_isi rfl kb_ii)) fun _ => ev_notV (ev_cb (ea_cons (ev_var rfl) (ea_cons ev_ty ea_nil)) (rc_isi rfl kb_ib))) rfl
theorem sc_is_within : FnScope ["thing", "least", "most"] ["thing", "least", "most"] (defScope Hd.s_is_within) := ⟨rfl, rfl, rfl, by decide +kernel, rfl, by decide +kernel, by decide +kernel⟩
def sp_is_within (K : PySem.W.Frag) : Sp := spD K (fun x : Int × Int × Int => [.int x.1, .int x.2.1, .int x.2.2]) (fun _ => True) (fun x => .bl (decide (x.2.1 ≤ x.1) && decide (x.1 ≤ x.2.2)))
theorem cal_is_within (T : Txt K mg) : C8.Cal P w K mg base 2 "is_within" (sp_is_within K) [] := by
  have c_is_integer := cal_is_integer (P := P) (w := w) (base := base) T
  obtain ⟨fd, F⟩ := T.f_is_within
  have nd := sc_is_within.nd
  refine mkD F sc_is_within (fun _ => rfl) (fun us hl _ _ _ _ _ _ => match us, hl with | [_, _, _], _ => rfl) T.m_is_within fun cdv A outer s H E hr => ⟨_,
      (pss_one (ps_ret (pe_and (C8.pe_c c_is_integer hr (by decide) (by rfl) (pa_cons (pv 0) pa_nil)) (pe_one (pe_chain op_le op_le (pv 1) (pv 0) (pv 2)))))), ?_⟩
  rintro ⟨i, l, m⟩ _
  exact x_ret (ev_andV (ev_call i (ea_cons (ev_var rfl) ea_nil) trivial) fun _ => ev_chain (ev_var rfl) (ev_var rfl) (ev_var rfl)) rfl
theorem sc_is_pair : FnScope ["thing"] ["thing"] (defScope Hd.s_is_pair) := ⟨rfl, rfl, rfl, by decide +kernel, rfl, by decide +kernel, by decide +kernel⟩
def sp_is_pair (K : PySem.W.Frag) : Sp := spD K (fun x : List Dt => [.tup x]) (fun _ => True) (fun x => .bl (decide ((x.length : Int) = 2)))
theorem cal_is_pair (T : Txt K mg) : C8.Cal P w K mg base 1 "is_pair" (sp_is_pair K) [] := by
  obtain ⟨fd, F⟩ := T.f_is_pair
  have nd := sc_is_pair.nd
  refine mkD F sc_is_pair (fun _ => rfl) (fun us hl _ _ _ _ _ _ => match us, hl with | [_], _ => rfl) T.m_is_pair fun cdv A outer s H E hr => ⟨_,
      (pss_one (ps_ret (pe_and (pe_callB (kIsi K) (by rfl) T.isinstance (by decide +kernel) (pa_cons (pv 0) (pa_cons (pe_bltn (v := .ty "tuple") (by rfl) T.tuple (by decide +kernel) rfl) pa_nil))) (pe_one (pe_cmpR op_eq (pe_callB (kLen K) (by rfl) T.len (by decide +kernel) (pa_cons (pv 0) pa_nil)) pe_int (nomark _)))))), ?_⟩
  intro x _
  exact x_ret (ev_andV (ev_cb (ea_cons (ev_var rfl) (ea_cons ev_ty ea_nil)) (rc_isi rfl kb_tt)) fun _ => ev_op (ev_cb (ea_cons (ev_var rfl) ea_nil) rc_lenT) ev_int rd_eqI) rfl
theorem sc_is_listed : FnScope ["thing"] ["thing"] (defScope Hd.s_is_listed) := ⟨rfl, rfl, rfl, by decide +kernel, rfl, by decide +kernel, by decide +kernel⟩
def sp_is_listed (K : PySem.W.Frag) : Sp := spD K (fun x : Dt => [x]) (fun x => tyD x = "list" ∨ tyD x = "tuple") (fun _ => .bl true)
theorem cal_is_listed (T : Txt K mg) : C8.Cal P w K mg base 1 "is_listed" (sp_is_listed K) [] := by
  obtain ⟨fd, F⟩ := T.f_is_listed
  have nd := sc_is_listed.nd
  refine mkD F sc_is_listed (fun _ => rfl) (fun us hl _ _ _ _ _ _ => match us, hl with | [_], _ => rfl) T.m_is_listed fun cdv A outer s H E hr => ⟨_,
      (pss_one (ps_ret (pe_callB (kIsiT K) (by rfl) T.isinstance (by decide +kernel) (pa_cons (pv 0) (pa_cons (pe_tup (pa_cons (pe_bltn (v := .ty "list") (by rfl) T.list (by decide +kernel) rfl) (pa_cons (pe_bltn (v := .ty "tuple") (by rfl) T.tuple (by decide +kernel) rfl) pa_nil))) pa_nil))))), ?_⟩
  intro x hx
  rcases hx with hx | hx
  · exact x_ret (ev_cb (ea_cons (ev_var rfl) (ea_cons (ev_tup (ea_cons ev_ty (ea_cons ev_ty ea_nil)) (by decide)) ea_nil)) (rc_isiT (b := true) (c := false) (by rw [hx]; rfl) (by rw [hx]; decide +kernel) (by rw [hx]; decide +kernel))) rfl
  · exact x_ret (ev_cb (ea_cons (ev_var rfl) (ea_cons (ev_tup (ea_cons ev_ty (ea_cons ev_ty ea_nil)) (by decide)) ea_nil)) (rc_isiT (b := false) (c := true) (by rw [hx]; rfl) (by rw [hx]; decide +kernel) (by rw [hx]; decide +kernel))) rfl
theorem all_true {α : Type} {ys : List α} {f : α → Bool} (h : ∀ y ∈ ys, f y = true) : (ys.map f).all id = true := by
  rw [List.all_map, List.all_eq_true]; exact h
theorem filter_yes {α : Type} (ys : List α) : ys.filter (fun _ => true) = ys := by simp
theorem sc_are_ascending : FnScope ["things", "at"] ["things"] (defScope Hd.s_are_ascending) := ⟨rfl, rfl, rfl, by decide +kernel, rfl, by decide +kernel, by decide +kernel⟩
def sp_are_ascending (K : PySem.W.Frag) : Sp := spD K (fun c : List Nat => [crD c]) (fun c => c.Pairwise (· < ·) ∧ c.length ≤ 1000) (fun _ => .bl true)
theorem cal_are_ascending (T : Txt K mg) : C8.Cal P w K mg base 1 "are_ascending" (sp_are_ascending K) [] := by
  obtain ⟨fd, F⟩ := T.f_are_ascending
  have nd := sc_are_ascending.nd
  refine mkD F sc_are_ascending (fun _ => rfl) (fun us hl _ _ _ _ _ _ => match us, hl with | [_], _ => rfl) T.m_are_ascending fun cdv A outer s H E hr => ⟨_,
      (pss_one (ps_ret (pe_callB (kAll K) (by rfl) T.all (by decide +kernel) (pa_cons (pe_lc (own := [("at", 1)]) (g := (gName 1)) rfl nd (pi_range2 (by rfl) T.range (pa_cons pe_int (pa_cons (pe_callB (kLen K) (by rfl) T.len (by decide +kernel) (pa_cons (pv 0) pa_nil)) pa_nil))) (blkOk_by (by show blkC ["things", "at"] (defScope Hd.s_are_ascending) _ _ = true; decide +kernel)) (fun _ _ _ _ _ => (pg_name (i := 1) nd rfl (by first | exact Or.inl rfl | exact Or.inr rfl))) (fun _ _ _ _ _ => pts_nil) (fun _ _ _ _ _ => (pe_cmpR op_lt (pe_ix (kIxT K) (pv 0) (pe_op op_sub (pv 1) pe_int) (fun _ _ => rfl)) (pe_ix (kIxT K) (pv 0) (pv 1) (fun _ _ => rfl)) (nomark _)))) pa_nil)))), ?_⟩
  rintro c ⟨hc, hl⟩
  refine x_ret (ev_cb (ea_cons (EvL.d (el_lc (List.range (c.length - 1)) (fun i => Dt.int (1 + (i : Int))) (fun _ => true) (fun _ => .bl true) (is := [1]) ?_ (by simp) (by rw [List.length_range]; omega) fun i hi => tg_name ⟨et_yes, fun _ => ?_⟩)) ea_nil) (by rw [filter_yes, show (List.range (c.length - 1)).map (fun _ => Dt.bl true) = ((List.range (c.length - 1)).map fun _ => true).map Dt.bl by rw [List.map_map]; rfl]; exact rc_all _)) (by rw [all_true fun _ _ => rfl])
  · refine wk_is (wk_range2 (m := 1) (n := ((c.map dn).length : Int)) (ea_cons ev_int (ea_cons (ev_cb (ea_cons (ev_var rfl) ea_nil) rc_lenT) ea_nil)) ⟨by decide, by decide⟩ (by omega) (by rw [List.length_map]; omega)) ?_
    unfold rngD
    rw [List.length_map, show ((c.length : Int) - 1).toNat = c.length - 1 by omega]
  · rw [List.mem_range] at hi
    have e1 : (c.map dn)[i]? = some (dn c[i]) := by rw [List.getElem?_map, List.getElem?_eq_getElem (by omega)]; rfl
    have e2 : (c.map dn)[i + 1]? = some (dn c[i + 1]) := by rw [List.getElem?_map, List.getElem?_eq_getElem (by omega)]; rfl
    have lt : c[i] < c[i + 1] := List.pairwise_iff_getElem.mp hc i (i + 1) (by omega) (by omega) (by omega)
    refine ev_is (ev_op (ev_op (ev_var rfl) (ev_op (ev_var rfl) ev_int rd_i0) (rd_ixT (by rw [show (1 : Int) + (i : Int) - 1 = ((i : Nat) : Int) by omega]; exact atI_nat e1))) (ev_op (ev_var rfl) (ev_var rfl) (rd_ixT (by rw [show (1 : Int) + (i : Int) = ((i + 1 : Nat) : Int) by omega]; exact atI_nat e2))) rd_b0) ?_
    rw [decide_eq_true (by omega)]
theorem sc_are_persons : FnScope ["people", "thing", "person"] ["people", "thing"] (defScope Hd.s_are_persons) := ⟨rfl, rfl, rfl, by decide +kernel, rfl, by decide +kernel, by decide +kernel⟩
def sp_are_persons (K : PySem.W.Frag) : Sp := spD K (fun x : Nat × List Nat => [dn x.1, crD x.2]) (fun x => (∀ p ∈ x.2, p < x.1) ∧ x.2.length ≤ 1000) (fun _ => .bl true)
theorem cal_are_persons (T : Txt K mg) : C8.Cal P w K mg base 3 "are_persons" (sp_are_persons K) [] := by
  have c_is_within := cal_is_within (P := P) (w := w) (base := base) T
  obtain ⟨fd, F⟩ := T.f_are_persons
  have nd := sc_are_persons.nd
  refine mkD F sc_are_persons (fun _ => rfl) (fun us hl _ _ _ _ _ _ => match us, hl with | [_, _], _ => rfl) T.m_are_persons fun cdv A outer s H E hr => ⟨_,
      (pss_one (ps_ret (pe_and (pe_callB (kIsi K) (by rfl) T.isinstance (by decide +kernel) (pa_cons (pv 1) (pa_cons (pe_bltn (v := .ty "tuple") (by rfl) T.tuple (by decide +kernel) rfl) pa_nil))) (pe_one (pe_callB (kAll K) (by rfl) T.all (by decide +kernel) (pa_cons (pe_lc (own := [("person", 2)]) (g := (gName 2)) rfl nd (kTupW K rfl (pv 1)) (blkOk_by (by show blkC ["people", "thing", "person"] (defScope Hd.s_are_persons) _ _ = true; decide +kernel)) (fun _ _ _ _ _ => (pg_name (i := 2) nd rfl (by first | exact Or.inl rfl | exact Or.inr rfl))) (fun _ _ _ _ _ => pts_nil) (fun _ _ _ _ _ => (C8.pe_c c_is_within hr (by decide) (by rfl) (pa_cons (pv 2) (pa_cons pe_int (pa_cons (pe_op op_sub (pv 0) pe_int) pa_nil)))))) pa_nil)))))), ?_⟩
  rintro ⟨n, c⟩ ⟨hc, hl⟩
  refine x_ret (ev_andV (ev_cb (ea_cons (ev_var rfl) (ea_cons ev_ty ea_nil)) (rc_isi rfl kb_tt)) fun _ => ev_cb (ea_cons (EvL.d (el_lc c dn (fun _ => true) (fun _ => .bl true) (is := [2]) (wk_tup (ev_var rfl)) (by simp) (by show c.length ≤ 100000; exact Nat.le_trans hl (by decide)) fun p hp => tg_name ⟨et_yes, fun _ => ?_⟩)) ea_nil) (by rw [filter_yes, show c.map (fun _ => Dt.bl true) = (c.map fun _ => true).map Dt.bl by rw [List.map_map]; rfl]; exact rc_all _)) (by rw [all_true fun _ _ => rfl]; rfl)
  have hpn := hc p hp
  refine ev_is (ev_call ((p : Int), 0, (n : Int) - 1) (ea_cons (ev_var rfl) (ea_cons ev_int (ea_cons (ev_op (ev_var rfl) ev_int rd_i0) ea_nil))) trivial) ?_
  show Dt.bl (decide ((0 : Int) ≤ (p : Int)) && decide ((p : Int) ≤ (n : Int) - 1)) = .bl true
  rw [decide_eq_true (by omega), decide_eq_true (by simp only at hpn; omega)]; rfl
theorem sc_is_crowd : FnScope ["people", "thing"] ["people", "thing"] (defScope Hd.s_is_crowd) := ⟨rfl, rfl, rfl, by decide +kernel, rfl, by decide +kernel, by decide +kernel⟩
def sp_is_crowd (K : PySem.W.Frag) : Sp := spD K (fun x : Nat × List Nat => [dn x.1, crD x.2]) (fun x => CrOk x.1 x.2 ∧ x.2.length ≤ 1000) (fun _ => .bl true)
theorem cal_is_crowd (T : Txt K mg) : C8.Cal P w K mg base 4 "is_crowd" (sp_is_crowd K) [] := by
  have c_are_persons := cal_are_persons (P := P) (w := w) (base := base) T
  have c_are_ascending := cal_are_ascending (P := P) (w := w) (base := base) T
  obtain ⟨fd, F⟩ := T.f_is_crowd
  have nd := sc_is_crowd.nd
  refine mkD F sc_is_crowd (fun _ => rfl) (fun us hl _ _ _ _ _ _ => match us, hl with | [_, _], _ => rfl) T.m_is_crowd fun cdv A outer s H E hr => ⟨_,
      (pss_one (ps_ret (pe_and (C8.pe_c c_are_persons hr (by decide) (by rfl) (pa_cons (pv 0) (pa_cons (pv 1) pa_nil))) (pe_one (C8.pe_c c_are_ascending hr (by decide) (by rfl) (pa_cons (pv 1) pa_nil)))))), ?_⟩
  rintro ⟨n, c⟩ ⟨hc, hl⟩
  exact x_ret (ev_andV (ev_call (n, c) (ea_cons (ev_var rfl) (ea_cons (ev_var rfl) ea_nil)) ⟨hc.lt, hl⟩) fun _ => ev_call c (ea_cons (ev_var rfl) ea_nil) ⟨hc.inc, hl⟩) rfl
theorem sc_is_lot : FnScope ["people", "thing"] ["people", "thing"] (defScope Hd.s_is_lot) := ⟨rfl, rfl, rfl, by decide +kernel, rfl, by decide +kernel, by decide +kernel⟩
def sp_is_lot (K : PySem.W.Frag) : Sp := spD K (fun x : Nat × List Nat => [dn x.1, crD x.2]) (fun x => CrOk x.1 x.2 ∧ x.2.length ≤ 1000 ∧ 2 ≤ x.2.length) (fun _ => .bl true)
theorem cal_is_lot (T : Txt K mg) : C8.Cal P w K mg base 5 "is_lot" (sp_is_lot K) [] := by
  have c_is_crowd := cal_is_crowd (P := P) (w := w) (base := base) T
  obtain ⟨fd, F⟩ := T.f_is_lot
  have nd := sc_is_lot.nd
  refine mkD F sc_is_lot (fun _ => rfl) (fun us hl _ _ _ _ _ _ => match us, hl with | [_, _], _ => rfl) T.m_is_lot fun cdv A outer s H E hr => ⟨_,
      (pss_one (ps_ret (pe_and (C8.pe_c c_is_crowd hr (by decide) (by rfl) (pa_cons (pv 0) (pa_cons (pv 1) pa_nil))) (pe_one (pe_cmpR op_gt (pe_callB (kLen K) (by rfl) T.len (by decide +kernel) (pa_cons (pv 1) pa_nil)) pe_int (nomark _)))))), ?_⟩
  rintro ⟨n, c⟩ ⟨hc, hl, h2⟩
  refine x_ret (ev_andV (ev_call (n, c) (ea_cons (ev_var rfl) (ea_cons (ev_var rfl) ea_nil)) ⟨hc, hl⟩) fun _ => ev_op (ev_cb (ea_cons (ev_var rfl) ea_nil) rc_lenT) ev_int rd_b0) ?_
  rw [List.length_map, decide_eq_true (by show (1 : Int) < (c.length : Int); simp only at h2; omega)]; rfl
theorem sc_check_crowd : FnScope ["people", "thing"] ["people", "thing"] (defScope Hd.s_check_crowd) := ⟨rfl, rfl, rfl, by decide +kernel, rfl, by decide +kernel, by decide +kernel⟩
def sp_check_crowd (K : PySem.W.Frag) : Sp := spD K (fun x : Nat × List Nat => [dn x.1, crD x.2]) (fun x => CrOk x.1 x.2 ∧ x.2.length ≤ 1000) (fun _ => .non)
theorem cal_check_crowd (T : Txt K mg) : C8.Cal P w K mg base 5 "check_crowd" (sp_check_crowd K) [] := by
  have c_is_crowd := cal_is_crowd (P := P) (w := w) (base := base) T
  obtain ⟨fd, F⟩ := T.f_check_crowd
  have nd := sc_check_crowd.nd
  refine mkD F sc_check_crowd (fun _ => rfl) (fun us hl _ _ _ _ _ _ => match us, hl with | [_, _], _ => rfl) T.m_check_crowd fun cdv A outer s H E hr => ⟨_,
      (pss_one (ps_if (pt_not (pt_val (C8.pe_c c_is_crowd hr (by decide) (by rfl) (pa_cons (pv 0) (pa_cons (pv 1) pa_nil))))) (pss_one ps_never) pss_nil)), ?_⟩
  rintro ⟨n, c⟩ hc
  exact x_if (et_not (et_B (ev_call (n, c) (ea_cons (ev_var rfl) (ea_cons (ev_var rfl) ea_nil)) hc))) (fun z => by cases z) fun _ => x_next rfl
theorem sc_check_many : FnScope ["number", "most"] ["number", "most"] (defScope Hd.s_check_many) := ⟨rfl, rfl, rfl, by decide +kernel, rfl, by decide +kernel, by decide +kernel⟩
def sp_check_many (K : PySem.W.Frag) : Sp := spD K (fun x : Int × Int => [.int x.1, .int x.2]) (fun x => x.1 ≤ x.2) (fun _ => .non)
theorem cal_check_many (T : Txt K mg) : C8.Cal P w K mg base 1 "check_many" (sp_check_many K) [] := by
  obtain ⟨fd, F⟩ := T.f_check_many
  have nd := sc_check_many.nd
  refine mkD F sc_check_many (fun _ => rfl) (fun us hl _ _ _ _ _ _ => match us, hl with | [_, _], _ => rfl) T.m_check_many fun cdv A outer s H E hr => ⟨_,
      (pss_one (ps_if (pt_cmpR op_gt (pv 0) (pv 1) (nomark _)) (pss_one ps_never) pss_nil)), ?_⟩
  rintro ⟨n, c⟩ hc
  exact x_if (et_test (ev_op (ev_var rfl) (ev_var rfl) rd_b0)) (fun z => by have := of_decide_eq_true z; simp only at hc; omega) fun _ => x_next rfl
theorem sc_bits_of : FnScope ["crowd", "person"] ["crowd"] (defScope Hd.s_bits_of) := ⟨rfl, rfl, rfl, by decide +kernel, rfl, by decide +kernel, by decide +kernel⟩
def sp_bits_of (K : PySem.W.Frag) : Sp := spD K (fun c : List Nat => [crD c]) (fun c => (∀ p ∈ c, p ≤ 1000) ∧ c.length ≤ 1000) (fun c => dn (LM.bitsOf c))
theorem sum_zi : ∀ c : List Nat, ((c.map fun p => 2 ^ p).map fun n : Nat => (n : Int)).sum = ((LM.bitsOf c : Nat) : Int)
  | [] => rfl
  | p :: c => by
    have := sum_zi c
    simp only [List.map_cons, List.sum_cons] at this ⊢
    rw [this, LM.bitsOf_cons]; simp
theorem cal_bits_of (T : Txt K mg) : C8.Cal P w K mg base 1 "bits_of" (sp_bits_of K) [] := by
  obtain ⟨fd, F⟩ := T.f_bits_of
  have nd := sc_bits_of.nd
  refine mkD F sc_bits_of (fun _ => rfl) (fun us hl _ _ _ _ _ _ => match us, hl with | [_], _ => rfl) T.m_bits_of fun cdv A outer s H E hr => ⟨_,
      (pss_one (ps_ret (pe_callB (kSum K) (by rfl) T.sum (by decide +kernel) (pa_cons (pe_lc (own := [("person", 1)]) (g := (gName 1)) rfl nd (kTupW K rfl (pv 0)) (blkOk_by (by show blkC ["crowd", "person"] (defScope Hd.s_bits_of) _ _ = true; decide +kernel)) (fun _ _ _ _ _ => (pg_name (i := 1) nd rfl (by first | exact Or.inl rfl | exact Or.inr rfl))) (fun _ _ _ _ _ => pts_nil) (fun _ _ _ _ _ => (pe_op op_shl pe_int (pv 1)))) pa_nil)))), ?_⟩
  rintro c ⟨hc, hl⟩
  refine x_ret (ev_cb (ea_cons (EvL.d (el_lc c dn (fun _ => true) (fun p => dn (2 ^ p)) (is := [1]) (wk_tup (ev_var rfl)) (by simp) (by show c.length ≤ 100000; exact Nat.le_trans hl (by decide)) fun p hp => tg_name ⟨et_yes, fun _ => ev_shl (ev_var rfl) (hc p hp)⟩)) ea_nil)
    (by rw [filter_yes, show c.map (fun p => dn (2 ^ p)) = ((c.map fun p => 2 ^ p).map fun n : Nat => (n : Int)).map Dt.int by rw [List.map_map, List.map_map]; rfl]; exact rc_sum _)) (by rw [sum_zi])
theorem sc_crowd_of : FnScope ["bits", "person"] ["bits"] (defScope Hd.s_crowd_of) := ⟨rfl, rfl, rfl, by decide +kernel, rfl, by decide +kernel, by decide +kernel⟩
def sp_crowd_of (K : PySem.W.Frag) : Sp := spD K (fun m : Nat => [dn m]) (fun m => m < 2 ^ 1000) (fun m => crD (LM.crowdOf m))
theorem cal_crowd_of (T : Txt K mg) : C8.Cal P w K mg base 1 "crowd_of" (sp_crowd_of K) [] := by
  obtain ⟨fd, F⟩ := T.f_crowd_of
  have nd := sc_crowd_of.nd
  refine mkD F sc_crowd_of (fun _ => rfl) (fun us hl _ _ _ _ _ _ => match us, hl with | [_], _ => rfl) T.m_crowd_of fun cdv A outer s H E hr => ⟨_,
      (pss_one (ps_ret (pe_callTy (kTup K) (by rfl) T.tuple (by decide +kernel) (pa_cons (pe_lc (own := [("person", 1)]) (g := (gName 1)) rfl nd (pi_range1 (by rfl) T.range (pa_cons (pe_bits (pv 0)) pa_nil)) (blkOk_by (by show blkC ["bits", "person"] (defScope Hd.s_crowd_of) _ _ = true; decide +kernel)) (fun _ _ _ _ _ => (pg_name (i := 1) nd rfl (by first | exact Or.inl rfl | exact Or.inr rfl))) (fun _ _ _ _ _ => (pts_one (pt_cmpR op_eq (pe_op op_and (pe_op op_shr (pv 0) (pv 1)) pe_int) pe_int (nomark _)))) (fun _ _ _ _ _ => (pv 1))) pa_nil)))), ?_⟩
  intro m hm
  have hb : Builtin.Int.intBits (m : Int) = if m = 0 then 0 else m.log2 + 1 := by
    unfold Builtin.Int.intBits
    by_cases h : m = 0
    · subst h; rfl
    · have : ((m : Int) == 0) = false := by simpa using h
      rw [this, if_neg h]; rfl
  have hl : (if m = 0 then 0 else m.log2 + 1) ≤ 1000 := by
    split
    · exact Nat.zero_le _
    · rename_i h
      exact (Nat.log2_lt h).mpr hm
  refine x_ret (ev_cb (ea_cons (EvL.d (el_lc (List.range (if m = 0 then 0 else m.log2 + 1)) dn (fun p => m.testBit p) dn (is := [1]) ?_ (by simp) (by rw [List.length_range]; omega) fun p hp => tg_name ⟨et_test (ev_bit (ev_var rfl) (ev_var rfl)), fun _ => ev_var rfl⟩)) ea_nil) rc_tupL) rfl
  refine wk_is (wk_range1 (ea_cons (ev_bits (ev_var rfl)) ea_nil) (by omega) (by rw [hb]; omega)) ?_
  unfold rngD
  rw [hb, Int.toNat_natCast]
  apply List.map_congr_left
  intro i _
  show Dt.int (0 + (i : Int)) = _
  rw [Int.zero_add]
theorem sc_holds : FnScope ["bits", "some"] ["bits", "some"] (defScope Hd.s_holds) := ⟨rfl, rfl, rfl, by decide +kernel, rfl, by decide +kernel, by decide +kernel⟩
def sp_holds (K : PySem.W.Frag) : Sp := spD K (fun x : Nat × Nat => [dn x.1, dn x.2]) (fun _ => True) (fun x => .bl (LM.holds x.1 x.2))
theorem cal_holds (T : Txt K mg) : C8.Cal P w K mg base 1 "holds" (sp_holds K) [] := by
  obtain ⟨fd, F⟩ := T.f_holds
  have nd := sc_holds.nd
  refine mkD F sc_holds (fun _ => rfl) (fun us hl _ _ _ _ _ _ => match us, hl with | [_, _], _ => rfl) T.m_holds fun cdv A outer s H E hr => ⟨_,
      (pss_one (ps_ret (pe_cmpR op_eq (pe_op op_and (pv 0) (pv 1)) (pv 1) (nomark _)))), ?_⟩
  rintro ⟨a, b⟩ _
  refine x_ret (ev_op (ev_and (ev_var rfl) (ev_var rfl)) (ev_var rfl) rd_eqI) ?_
  unfold LM.holds
  by_cases h : a &&& b = b
  · rw [decide_eq_true (by show ((a &&& b : Nat) : Int) = _; rw [h]), show ((a &&& b) == b) = true by simpa using h]
  · rw [decide_eq_false (by show ¬ ((a &&& b : Nat) : Int) = (b : Int); omega), show ((a &&& b) == b) = false by simpa using h]
theorem sc_all_of : FnScope ["people"] ["people"] (defScope Hd.s_all_of) := ⟨rfl, rfl, rfl, by decide +kernel, rfl, by decide +kernel, by decide +kernel⟩
def sp_all_of (K : PySem.W.Frag) : Sp := spD K (fun n : Nat => [dn n]) (fun n => n ≤ 1000) (fun n => dn (LM.allOf n))
theorem cal_all_of (T : Txt K mg) : C8.Cal P w K mg base 1 "all_of" (sp_all_of K) [] := by
  obtain ⟨fd, F⟩ := T.f_all_of
  have nd := sc_all_of.nd
  refine mkD F sc_all_of (fun _ => rfl) (fun us hl _ _ _ _ _ _ => match us, hl with | [_], _ => rfl) T.m_all_of fun cdv A outer s H E hr => ⟨_,
      (pss_one (ps_ret (pe_op op_sub (pe_op op_shl pe_int (pv 0)) pe_int))), ?_⟩
  intro n hn
  refine x_ret (ev_op (ev_shl (ev_var rfl) hn) ev_int rd_i0) ?_
  unfold LM.allOf
  have := Nat.two_pow_pos n
  show Dt.int (((2 ^ n : Nat) : Int) - 1) = Dt.int ((2 ^ n - 1 : Nat) : Int)
  congr 1
  omega
end
end DL
end
section
set_option Elab.async false
set_option linter.all false
set_option maxRecDepth 100000
set_option maxHeartbeats 0
/-! D2: lots, sightings, needs, placing -/
namespace DL
open PySem L2
theorem CrOk.len {n : Nat} {c : List Nat} (h : CrOk n c) : c.length ≤ n := by
  have e := LM.asc_self h.inc h.lt
  have := List.length_filter_le (fun p => decide (p ∈ c)) (List.range n)
  rw [List.length_range] at this
  rw [← e]; exact this
theorem CrOk.nd {n : Nat} {c : List Nat} (h : CrOk n c) : c.Nodup := h.inc.imp fun h => Nat.ne_of_lt h
theorem bits_lt {n : Nat} {c : List Nat} (h : c.Nodup) (hl : ∀ p ∈ c, p < n) : LM.bitsOf c < 2 ^ n := by
  apply Nat.lt_pow_two_of_testBit
  intro i hi
  rw [LM.tb_bitsOf h]
  exact decide_eq_false fun z => by have := hl i z; omega
/-- what a book is made of -/
structure BookOk (n : Nat) (lots : LM.Lots) : Prop where
  n1 : 1 ≤ n
  n12 : n ≤ 12
  len : lots.length ≤ 60
  cr : ∀ l ∈ lots, CrOk n l
  two : ∀ l ∈ lots, 2 ≤ l.length
  asc : ∀ (i : Nat) (l m : List Nat), lots[i]? = some l → lots[i + 1]? = some m → HT.lexLt (zi l) (zi m) = true
  anti : lots.Pairwise fun l m => LM.holds (LM.bitsOf m) (LM.bitsOf l) = false ∧ LM.holds (LM.bitsOf l) (LM.bitsOf m) = false
structure SgC (n : Nat) (S : LM.Sgt) : Prop where
  len : S.length ≤ 20
  c1 : ∀ cs ∈ S, CrOk n cs.1
  c2 : ∀ cs ∈ S, CrOk n cs.2
  sub : ∀ cs ∈ S, ∀ p ∈ cs.2, p ∈ cs.1
section
variable {P : Program} {w : World} {K : PySem.W.Frag} {mg : Str → Option Value} {base : Heap}
theorem rd_ltN {a b : List Nat} : RD K (rLtT K) (crD a) (crD b) (.bl (HT.lexLt (zi a) (zi b))) := by
  unfold crD
  rw [dn_zi, dn_zi]
  exact rd_ltT
theorem rc_anyF {α : Type} (ys : List α) (f : α → Bool) : RC K (rAny K) [.lst (ys.map fun y => Dt.bl (f y))] (.bl (ys.any f)) := by
  have e : (ys.map fun y => Dt.bl (f y)) = (ys.map f).map Dt.bl := by rw [List.map_map]; rfl
  rw [e, show ys.any f = (ys.map f).any id by rw [List.any_map]; rfl]
  exact rc_any _
theorem rc_allF {α : Type} (ys : List α) (f : α → Bool) : RC K (rAll K) [.lst (ys.map fun y => Dt.bl (f y))] (.bl (ys.all f)) := by
  have e : (ys.map fun y => Dt.bl (f y)) = (ys.map f).map Dt.bl := by rw [List.map_map]; rfl
  rw [e, show ys.all f = (ys.map f).all id by rw [List.all_map]; rfl]
  exact rc_all _
theorem any_false {α : Type} {ys : List α} {f : α → Bool} (h : ∀ y ∈ ys, f y = false) : ys.any f = false := by
  rw [List.any_eq_false]; exact fun y hy => by rw [h y hy]; simp
theorem sc_first_wrong_lot : FnScope ["people", "lots", "found", "at", "lot", "bits", "other"] ["people", "lots"] (defScope Hd.s_first_wrong_lot) := ⟨rfl, rfl, rfl, by decide +kernel, rfl, by decide +kernel, by decide +kernel⟩
def sp_first_wrong_lot (K : PySem.W.Frag) : Sp := spD K (fun x : Nat × LM.Lots => [dn x.1, lotsD x.2]) (fun x => BookOk x.1 x.2) (fun _ => .non)
theorem cal_first_wrong_lot (T : Txt K mg) : C8.Cal P w K mg base 6 "first_wrong_lot" (sp_first_wrong_lot K) [] := by
  have c_is_lot := cal_is_lot (P := P) (w := w) (base := base) T
  have c_bits_of := cal_bits_of (P := P) (w := w) (base := base) T
  have c_holds := cal_holds (P := P) (w := w) (base := base) T
  obtain ⟨fd, F⟩ := T.f_first_wrong_lot
  have nd := sc_first_wrong_lot.nd
  refine mkD F sc_first_wrong_lot (fun _ => rfl) (fun us hl _ _ _ _ _ _ => match us, hl with | [_, _], _ => rfl) T.m_first_wrong_lot fun cdv A outer s H E hr => ⟨_,
      (pss_cons (ps_set (i := 2) nd rfl (by first | exact Or.inl rfl | exact Or.inr rfl) (pe_lst pa_nil))
      (pss_cons (ps_for PassesOwn.never rfl (kEnum K rfl (by rfl) T.enumerate (pa_cons (pv 1) pa_nil)) (pg_tup rfl (pgs_cons (pg_name (i := 3) nd rfl (by first | exact Or.inl rfl | exact Or.inr rfl)) (pgs_cons (pg_name (i := 4) nd rfl (by first | exact Or.inl rfl | exact Or.inr rfl)) pgs_nil))) (pss_cons (ps_if (PW.pt (pw_or (pt_not (pt_val (C8.pe_c c_is_lot hr (by decide) (by rfl) (pa_cons (pv 0) (pa_cons (pv 4) pa_nil))))) (pw_or1 (PW.pt (pw_and (pt_cmpR op_gt (pv 3) pe_int (nomark _)) (pw_and1 (pt_not (pt_cmpR (kLtT K rfl hr.units0) (pe_ix (kIxT K) (pv 1) (pe_op op_sub (pv 3) pe_int) (fun _ _ => rfl)) (pv 4) (nomark _))))))))) (pss_one (ps_ret (pv 3))) pss_nil)
      (pss_cons (ps_set (i := 5) nd rfl (by first | exact Or.inl rfl | exact Or.inr rfl) (C8.pe_c c_bits_of hr (by decide) (by rfl) (pa_cons (pv 4) pa_nil)))
      (pss_cons (ps_if (pt_val (pe_callB (kAny K) (by rfl) T.any (by decide +kernel) (pa_cons (pe_lc (own := [("other", 6)]) (g := (gName 6)) rfl nd (kList K rfl (pv 2)) (blkOk_by (by show blkC ["people", "lots", "found", "at", "lot", "bits", "other"] (defScope Hd.s_first_wrong_lot) _ _ = true; decide +kernel)) (fun _ _ _ _ _ => (pg_name (i := 6) nd rfl (by first | exact Or.inl rfl | exact Or.inr rfl))) (fun _ _ _ _ _ => pts_nil) (fun _ _ _ _ _ => (pe_or (C8.pe_c c_holds hr (by decide) (by rfl) (pa_cons (pv 5) (pa_cons (pv 6) pa_nil))) (pe_one (C8.pe_c c_holds hr (by decide) (by rfl) (pa_cons (pv 6) (pa_cons (pv 5) pa_nil))))))) pa_nil))) (pss_one (ps_ret (pv 3))) pss_nil)
      (pss_one (kAppend K (st := ps_expr (pe_bm PySem.F.plainAttrs_list PySem.F.slot_list_append PySem.F.type_list_append mt_append (pv 2) (pa_cons (pv 5) pa_nil)))))))))
      (pss_one (ps_ret pe_non)))), ?_⟩
  rintro ⟨n, lots⟩ ok
  simp only at ok
  refine x_seq (x_new (el_lst ea_nil (by decide)) fun l => x_seq (x_for (is := [3, 4]) (xs := enD (lots.map crD))
    (fun i es mu => ∃ o3 o4 o5, es = [some (dn n), some (lotsD lots), some (.adr l), o3, o4, o5, none] ∧ mu = [(l, ((LM.masksOf (lots.take i))).map dn)])
    (wk_enum true (ea_cons (ev_var rfl) ea_nil)) ⟨_, _, _, rfl, by simp [LM.masksOf]⟩ ?_ ?_))
  · rintro i y es mu hy ⟨o3, o4, o5, rfl, rfl⟩
    obtain ⟨x, hx, rfl⟩ := enD_at hy
    obtain ⟨lot, hl, rfl⟩ := map_at hx
    have hm := List.mem_of_getElem? hl
    have hc := ok.cr _ hm
    have hlen := hc.len
    have h12 := ok.n12
    have hil := (List.getElem?_eq_some_iff.mp hl).1
    have h60 := ok.len
    refine tg_tup rfl (tgs_cons (tg_name (tgs_cons (tg_name (tgs_nil ?_)))))
    refine x_seq (x_if (b := false) (et_or (a := false) (b := false) (et_is (et_not (et_B (ev_call (n, lot) (ea_cons (ev_var rfl) (ea_cons (ev_var rfl) ea_nil)) ⟨hc, by show lot.length ≤ 1000; omega, ok.two _ hm⟩))) rfl) fun _ => ?_) (fun z => by cases z) fun _ => x_next ?_)
    · refine et_is (et_and (b := false) (et_test (ev_op (ev_var rfl) ev_int rd_b0)) (fun hi => ?_)) (Bool.and_false _)
      have hi' : 0 < i := by have := of_decide_eq_true hi; omega
      have hp : (lots.map crD)[i - 1]? = some (crD lots[i - 1]) := by rw [List.getElem?_map, List.getElem?_eq_getElem (by omega)]; rfl
      refine et_is (et_not (et_test (ev_op (ev_op (ev_var rfl) (ev_op (ev_var rfl) ev_int rd_i0) (rd_ixT (by rw [show ((i : Nat) : Int) - 1 = ((i - 1 : Nat) : Int) by omega]; exact atI_nat hp))) (ev_var rfl) rd_ltN))) ?_
      rw [ok.asc (i - 1) lots[i - 1] lot (List.getElem?_eq_getElem (by omega)) (by rw [show i - 1 + 1 = i by omega]; exact hl)]; rfl
    · refine x_seq (x_asg (ev_call lot (ea_cons (ev_var rfl) ea_nil) ⟨fun p hp => by have := hc.lt p hp; omega, by omega⟩) ?_)
      refine x_seq (x_ifF (b := false) (et_is (et_B (ev_cb (ea_cons (EvL.d (el_lc (LM.masksOf (lots.take i)) dn (fun _ => true) (fun m => .bl (LM.holds (LM.bitsOf lot) m || LM.holds m (LM.bitsOf lot))) (is := [6]) (wk_list (ev_var (thaw_at rfl))) (by simp) ?_ fun m hm => tg_name ⟨et_yes, fun _ =>
        ev_orV (ev_call (LM.bitsOf lot, m) (ea_cons (ev_var rfl) (ea_cons (ev_var rfl) ea_nil)) trivial) fun _ => ev_call (m, LM.bitsOf lot) (ea_cons (ev_var rfl) (ea_cons (ev_var rfl) ea_nil)) trivial⟩)) ea_nil) (by rw [filter_yes]; exact rc_anyF _ _))) ?_) (fun z => by cases z) fun _ => x_next ?_)
      · simp [LM.masksOf]; omega
      · rw [any_false fun m hm' => ?_]
        obtain ⟨l', hl', rfl⟩ := List.mem_map.mp hm'
        obtain ⟨j, hj⟩ := List.getElem?_of_mem hl'
        rw [List.getElem?_take] at hj
        split at hj
        · rename_i hji
          have hjl := (List.getElem?_eq_some_iff.mp hj).1
          have := List.pairwise_iff_getElem.mp ok.anti j i hjl hil hji
          rw [(List.getElem?_eq_some_iff.mp hj).2, (List.getElem?_eq_some_iff.mp hl).2] at this
          rw [this.1, this.2]; rfl
        · cases hj
      · refine x_app 0 (ev_var rfl) (ev_var rfl) rfl (by simp [LM.masksOf]; omega) ⟨_, _, _, rfl, ?_⟩
        rw [List.take_add_one, hl]
        simp [LM.masksOf]
  · rintro es mu ⟨o3, o4, o5, rfl, rfl⟩
    exact x_ret ev_non rfl

theorem kFldS {X : Cx} (K : PySem.W.Frag) (hK : X.K = K) {o value : Expr} {f : Str} {pos' pos : Pos} {ta tv : TE} (ha : PE X o ta) (hv : PE X value tv) (hs : swapsWith value (some (.Attribute o f pos')) pos.line X.env = pure false := by rfl) : PS X (.Assign [.Attribute o f pos'] value pos) (sFld K ta tv f) := hK ▸ ps_fld ha hv hs
theorem sc_Book_keep : FnScope ["self", "people", "lots", "lot"] ["self", "people", "lots"] (defScope Hd.s_Book_keep) := ⟨rfl, rfl, rfl, by decide +kernel, rfl, by decide +kernel, by decide +kernel⟩
theorem sc_Book_init : FnScope ["self", "people", "lots", "at"] ["self", "people", "lots"] (defScope Hd.s_Book_init) := ⟨rfl, rfl, rfl, by decide +kernel, rfl, by decide +kernel, by decide +kernel⟩
/-- a new book's fields are set: x stands behind, with the fields fs -/
def BkDone (K : PySem.W.Frag) (x C dx : Addr) (n : Nat) (lots : LM.Lots) (G H G' H' : Hp) : Prop :=
  Same G G' ∧ Same G' H' ∧ (∀ a o, a ≠ x → H a = some o → H' a = some o) ∧ (∀ a o, G' a = some o → G a = none → H a = none) ∧ G' x = none ∧
    ∃ v m, H' x = some (.ins C dx [("people", .int n), ("lots", v), ("masks", m)]) ∧ Rp K G' v (lotsD lots) ∧ Rp K G' m (ldN (LM.masksOf lots))
def sp_new (K : PySem.W.Frag) (C : Addr) : Sp := fun vs H Q _ => ∃ x dx n lots v G, vs = [.ref x, .int ((n : Nat) : Int), v] ∧ Same G H ∧ G x = none ∧ H x = some (.ins C dx []) ∧ Rp K G v (lotsD lots) ∧ BookOk n lots ∧
  ∀ G' H', BkDone K x C dx n lots G H G' H' → Q .non H'
theorem el_masks {es : Es} {i j : Nat} {lots : LM.Lots} {n : Nat} (ok : BookOk n lots) (h : es[i]? = some (some (lotsD lots))) (hj : j < es.length) : EvL K (tLc (iTup K (tVar i)) (gName j) tYes (tCall (sp_bits_of K) [] C8.E0 (tCons (tVar j) tNil)) [j]) es ((LM.masksOf lots).map dn) := by
  have := el_lc (K := K) lots crD (fun _ => true) (fun l => dn (LM.bitsOf l)) (wi := iTup K (tVar i)) (g := gName j) (tt := tYes) (te := tCall (sp_bits_of K) [] C8.E0 (tCons (tVar j) tNil)) (vs := [j]) (is := [j]) (es := es) (wk_tup (ev_var h)) (by simp) (by have := ok.len; omega) fun l hl => tg_name ⟨et_yes, fun _ => ?_⟩
  · rw [filter_yes] at this
    unfold LM.masksOf
    rw [List.map_map]; exact this
  · have hc := ok.cr l hl
    have := hc.len
    have := ok.n12
    exact ev_call l (ea_cons (ev_var (List.getElem?_set_self (by simp [wipeE]; exact hj))) ea_nil) ⟨fun p hp => by have := hc.lt p hp; omega, by omega⟩
theorem met_keep (T : Txt K mg) : C8.Met P w K mg base 2 (He.ga K "Book") "keep" (sp_new K (He.ga K "Book")) [] := by
  have c_bits_of := cal_bits_of (P := P) (w := w) (base := base) T
  obtain ⟨fd, F⟩ := T.f_Book_keep
  have nd := sc_Book_keep.nd
  have b := T.bk
  refine ⟨_, fd, ["self", "people", "lots"], [], b.cl, T.mt_keep, F.ok sc_Book_keep (fun vs H Q E h => ?_) (fun cdv A outer s H vs Q E hr h => ?_), F.bindsN fun kV doc pm an cdv ct us hu => (match us, hu with | [_, _, _], _ => rfl), .nil⟩
  · obtain ⟨x, dx, n, lots, v, G, rfl, _⟩ := h
    rfl
  obtain ⟨x, dx, n, lots, v, G, rfl, hs, hg, hx, r, ok, q⟩ := h
  refine ⟨_,
(pss_cons (kFldS K rfl (pv 0) (pv 1))
      (pss_cons (kFldS K rfl (pv 0) (pv 2))
      (pss_one (kFldS K rfl (pv 0) (pe_lc (own := [("lot", 3)]) (g := (gName 3)) rfl nd (kTupW K rfl (pv 2)) (blkOk_by (by show blkC ["self", "people", "lots", "lot"] (defScope Hd.s_Book_keep) _ _ = true; decide +kernel)) (fun _ _ _ _ _ => (pg_name (i := 3) nd rfl (by first | exact Or.inl rfl | exact Or.inr rfl))) (fun _ _ _ _ _ => pts_nil) (fun _ _ _ _ _ => (C8.pe_c c_bits_of hr (by decide) (by rfl) (pa_cons (pv 3) pa_nil))))))))
    , ?_⟩
  refine ⟨_, rfl, _, rfl, x, _, dx, [], rfl, hx, b.cl, b.nP, by decide, ?_⟩
  refine ⟨_, rfl, _, rfl, x, _, dx, _, rfl, upd_same, b.cl, b.nL, by show 1 < 1000; decide, ?_⟩
  have sH : Same G (upd (upd H x (.ins (He.ga K "Book") dx (putF "people" (.int n) []))) x (.ins (He.ga K "Book") dx (putF "lots" v (putF "people" (.int n) [])))) := fun a o z => by
    have : a ≠ x := fun e => by rw [e, hg] at z; cases z
    rw [upd_ne this, upd_ne this]; exact hs _ _ z
  have se : SlE K G (start ["self", "people", "lots", "lot"] [V.ref x, .int n, v]) [some .any, some (dn n), some (lotsD lots), none] := SlE.start (N := ["self", "people", "lots", "lot"]) (ds := [.any, dn n, lotsD lots]) (.cons (.any _) (.cons (.int _) (.cons r .nil)))
  dsimp only
  unfold sFld
  refine el_masks (i := 2) (j := 3) ok rfl (by simp) _ G _ se sH _ fun p xs G' H' k hp hgp hxx rr => ⟨_, rfl, x, _, dx, _, rfl, k.hh _ _ upd_same, b.cl, b.nM, by show 2 < 1000; decide, q (upd G' p (.lst xs)) _ ?_⟩
  have xp : x ≠ p := fun e => by rw [← e, upd_same] at hp; cases hp
  have gx : G' x = none := by
    cases e : G' x with
    | none => rfl
    | some o => have := k.fr x o e hg; rw [upd_same] at this; cases this
  have kk := k.know hp hxx hgp
  have Hn : ∀ a, (upd (upd H x (.ins (He.ga K "Book") dx (putF "people" (.int n) []))) x (.ins (He.ga K "Book") dx (putF "lots" v (putF "people" (.int n) [])))) a = none → H a = none := fun a z => by
    have : a ≠ x := fun e => by rw [e, upd_same] at z; cases z
    rw [upd_ne this, upd_ne this] at z; exact z
  refine ⟨kk.gg, fun a o z => ?_, fun a o e z => ?_, fun a o z1 z2 => Hn a (kk.fr a o z1 z2), by rw [upd_ne xp]; exact gx, v, _, by rw [upd_same]; rfl, r.mono kk.gg, .lst upd_same (RpAll.mono (same_upd hgp) _ rr)⟩
  · have : a ≠ x := fun e => by rw [e, upd_ne xp, gx] at z; cases z
    rw [upd_ne this]; exact kk.gh _ _ z
  · rw [upd_ne e]
    exact k.hh _ _ (by rw [upd_ne e, upd_ne e]; exact z)
theorem Xs.seq {M : Mo} {es : Es} {mu : Mu} {N : Es → Mu → Prop} {R : RT} {t u : TS} {B G0 H0 : Hp} {σ : L2.St} {H : Hp} {D : Ends} (h : Xs K M t es mu N R) (c : Cfg K M B G0 H0 es mu σ H) (hr : ∀ v G' H', OkM M G0 H0 G' H' → M.ok G' H' → R H0 v G' H' → D.rt v H')
    (hu : ∀ es' mu' σ' H', N es' mu' → Cfg K M B G0 H0 es' mu' σ' H' → u D σ' H') : tSeq t u D σ H := h B G0 H0 σ H _ c hu hr
/-- the book at x, unmade -/
def moNew (x C dx : Addr) : Mo := ⟨fun a => a = x, fun G H => G x = none ∧ H x = some (.ins C dx []), fun h e => by rw [e, h.2]; simp, fun {G H G' H'} h s n k => ⟨by
  cases e : G' x with
  | none => rfl
  | some o => exact (n x o e h.1 rfl).elim, k x _ rfl h.2⟩⟩
theorem mak_Book (T : Txt K mg) : C8.Mak P w K mg base 7 "Book" (He.ga K "Book") (sp_new K (He.ga K "Book")) [] := by
  have c_keep := met_keep (P := P) (w := w) (base := base) T
  have c_is_within := cal_is_within (P := P) (w := w) (base := base) T
  have c_first_wrong_lot := cal_first_wrong_lot (P := P) (w := w) (base := base) T
  obtain ⟨fd, F⟩ := T.f_Book_init
  have nd := sc_Book_init.nd
  refine ⟨_, fd, ["self", "people", "lots"], [], T.mk_Book, F.ok sc_Book_init (fun vs H Q E h => ?_) (fun cdv A outer s H vs Q E hr h => ?_), T.m_Book, F.bindsN fun kV doc pm an cdv ct us hu => (match us, hu with | [_, _, _], _ => rfl), .nil⟩
  · obtain ⟨x, dx, n, lots, v, G, rfl, _⟩ := h
    rfl
  obtain ⟨x, dx, n, lots, v, G, rfl, hs, hg, hx, r, ok, q⟩ := h
  refine ⟨_,
(pss_cons (ps_if (pt_not (pt_val (C8.pe_c c_is_within hr (by decide) (by rfl) (pa_cons (pv 1) (pa_cons pe_int (pa_cons (C8.pe_gc (by rfl) T.MOST_PEOPLE) pa_nil)))))) (pss_one ps_never) pss_nil)
      (pss_cons (ps_if (PW.pt (pw_or (pt_not (pt_val (pe_callB (kIsi K) (by rfl) T.isinstance (by decide +kernel) (pa_cons (pv 2) (pa_cons (pe_bltn (v := .ty "tuple") (by rfl) T.tuple (by decide +kernel) rfl) pa_nil))))) (pw_or1 (pt_cmpR op_gt (pe_callB (kLen K) (by rfl) T.len (by decide +kernel) (pa_cons (pv 2) pa_nil)) (C8.pe_gc (by rfl) T.MOST_LOTS) (nomark _))))) (pss_one ps_never) pss_nil)
      (pss_cons (ps_set (i := 3) nd rfl (by first | exact Or.inl rfl | exact Or.inr rfl) (C8.pe_c c_first_wrong_lot hr (by decide) (by rfl) (pa_cons (pv 1) (pa_cons (pv 2) pa_nil))))
      (pss_cons (ps_if (pt_cmpR op_notN (pv 3) pe_non (nomark _)) (pss_one ps_never) pss_nil)
      (pss_one (ps_expr (C8.pe_mt c_keep hr (by decide) (pv 0) (pa_cons (pv 1) (pa_cons (pv 2) pa_nil)))))))))
    , ?_⟩
  have h12 := ok.n12
  have h1 := ok.n1
  have h60 := ok.len
  have se : SlE K G (start ["self", "people", "lots", "at"] [V.ref x, .int n, v]) [some (.adr x), some (dn n), some (lotsD lots), none] := SlE.start (N := ["self", "people", "lots", "at"]) (ds := [.adr x, dn n, lotsD lots]) (.cons (.adr _) (.cons (.int _) (.cons r .nil)))
  have c0 : Cfg K (moNew x (He.ga K "Book") dx) G G H [some (.adr x), some (dn n), some (lotsD lots), none] [] (start ["self", "people", "lots", "at"] [V.ref x, .int n, v]) H :=
    ⟨G, Same.refl _, .of (.refl hs), ⟨hg, hx⟩, se, List.nodup_nil, fun p hp => by cases hp⟩
  have nr : ∀ (v : V) (G' H' : Hp), OkM (moNew x (He.ga K "Book") dx) G H G' H' → (moNew x (He.ga K "Book") dx).ok G' H' → (fun _ _ _ _ => False : RT) H v G' H' → Q v H' := fun _ _ _ _ _ z => z.elim
  refine Xs.seq (R := fun _ _ _ _ => False) (N := fun e m => e = [some (.adr x), some (dn n), some (lotsD lots), none] ∧ m = []) (x_if (b := false) (et_is (et_not (et_B (ev_call ((n : Int), 1, 12) (ea_cons (ev_var rfl) (ea_cons ev_int (ea_cons ev_int ea_nil))) trivial))) (by rw [decide_eq_true (by show (1 : Int) ≤ n; omega), decide_eq_true (by show (n : Int) ≤ 12; omega)]; rfl)) (fun z => by cases z) fun _ => x_next ⟨rfl, rfl⟩) c0 nr ?_
  rintro _ _ σ1 H1 ⟨rfl, rfl⟩ c1
  refine Xs.seq (R := fun _ _ _ _ => False) (N := fun e m => e = [some (.adr x), some (dn n), some (lotsD lots), none] ∧ m = []) (x_if (b := false) (et_is (d' := false) (et_or (a := false) (et_is (et_not (et_test (ev_cb (ea_cons (ev_var rfl) (ea_cons ev_ty ea_nil)) (rc_isi (d := lotsD lots) rfl kb_tt)))) rfl) fun _ => et_test (ev_op (ev_cb (ea_cons (ev_var rfl) ea_nil) rc_lenT) ev_int rd_b0)) (by rw [List.length_map, decide_eq_false (by show ¬ (60 : Int) < (lots.length : Int); omega)]; rfl)) (fun z => by cases z) fun _ => x_next ⟨rfl, rfl⟩) c1 nr ?_
  rintro _ _ σ2 H2 ⟨rfl, rfl⟩ c2
  refine Xs.seq (R := fun _ _ _ _ => False) (N := fun e m => e = [some (.adr x), some (dn n), some (lotsD lots), some .non] ∧ m = []) (x_asg (ev_call (n, lots) (ea_cons (ev_var rfl) (ea_cons (ev_var rfl) ea_nil)) ok) ⟨rfl, rfl⟩) c2 nr ?_
  rintro _ _ σ3 H3 ⟨rfl, rfl⟩ c3
  refine Xs.seq (R := fun _ _ _ _ => False) (N := fun e m => e = [some (.adr x), some (dn n), some (lotsD lots), some .non] ∧ m = []) (x_if (et_test (ev_op (ev_var rfl) ev_non (rd_notN true rfl rfl))) (fun z => by cases z) fun _ => x_next ⟨rfl, rfl⟩) c3 nr ?_
  rintro _ _ σ4 H4 ⟨rfl, rfl⟩ ⟨G4, s4, k4, ⟨g4, x4⟩, e4, _⟩
  obtain ⟨v0, e0, r0⟩ := e4.at_ 0 _ rfl
  cases r0
  refine ⟨_, e0, x, dx, [], rfl, x4, rfl, ?_⟩
  obtain ⟨v1, e1, r1⟩ := e4.at_ 1 _ rfl
  obtain ⟨v2, e2, r2⟩ := e4.at_ 2 _ rfl
  cases r1
  refine ⟨_, e1, _, e2, x, dx, n, lots, v2, G4, rfl, k4.gh, g4, x4, r2, ok, fun G' H' ⟨d1, d2, d3, d4, d5, d6⟩ => ?_⟩
  exact q G' H' ⟨k4.gg.trans d1, d2, fun a o na z => d3 a o na (k4.hh a o na z), fun a o z1 z2 => by
    cases e : G4 a with
    | none => exact k4.nn a (d4 a o z1 e)
    | some o' => exact k4.fr a o' e z2, d5, d6⟩
/-- Book(people, lots) -/
theorem ev_mk {ta : TA} {es : Es} {n : Nat} {lots : LM.Lots} (T : Txt K mg) (h : EvA K ta es [dn n, lotsD lots]) (ok : BookOk n lots) : EvD K (tMake (He.ga K "Book") (sp_new K (He.ga K "Book")) [] C8.E0 ta) es (bkD n lots) := fun σ G H he hs Q q =>
  h σ G H he hs _ fun vs G1 H1 k1 r1 x dx hx hdx hne => by
    obtain ⟨v1, v2, rfl, a1, a2⟩ := two_rp r1
    cases a1
    have hxd : (upd (upd H1 dx (.own x)) x (.ins (He.ga K "Book") dx [])) x = some (.ins (He.ga K "Book") dx []) := upd_same
    have s1 : Same H1 (upd (upd H1 dx (.own x)) x (.ins (He.ga K "Book") dx [])) := fun a o z => by
      rw [upd_ne (ne_of_none z hx), upd_ne (ne_of_none z hdx)]; exact z
    refine ⟨x, dx, n, lots, v2, G1, rfl, k1.gh.trans s1, none_of k1.gh hx, hxd, a2, ok, fun G' H' ⟨d1, d2, d3, d4, d5, v, m, d6, d7, d8⟩ => ⟨rfl, ?_⟩⟩
    refine q _ (upd G' x (.ins (He.ga K "Book") dx [("people", .int n), ("lots", v), ("masks", m)])) H' (k1.trans ⟨d1.trans (same_upd d5), fun a o z => ?_, fun a o z => ?_, fun a o z1 z2 => ?_⟩) (.book upd_same T.bk rfl rfl (d7.mono (same_upd d5)) rfl (d8.mono (same_upd d5)))
    · by_cases e : a = x
      · subst e; rw [upd_same] at z; cases z; exact d6
      · rw [upd_ne e] at z; exact d2 _ _ z
    · exact d3 a o (ne_of_none z hx) (s1 _ _ z)
    · by_cases e : a = x
      · rw [e]; exact hx
      · rw [upd_ne e] at z1
        have := d4 a o z1 z2
        exact none_of s1 this
end
end DL
end
section
set_option Elab.async false
set_option linter.all false
set_option maxRecDepth 100000
set_option maxHeartbeats 0
/-! D3: sightings, needs, placing -/
namespace DL
open PySem L2
section
variable {P : Program} {w : World} {K : PySem.W.Frag} {mg : Str → Option Value} {base : Heap}
theorem sc_is_sighting : FnScope ["book", "thing"] ["book", "thing"] (defScope Hd.s_is_sighting) := ⟨rfl, rfl, rfl, by decide +kernel, rfl, by decide +kernel, by decide +kernel⟩
def sp_is_sighting (K : PySem.W.Frag) : Sp := spD K (fun x : Nat × LM.Lots × (List Nat × List Nat) => [bkD x.1 x.2.1, sgD x.2.2]) (fun x => x.1 ≤ 12 ∧ CrOk x.1 x.2.2.1 ∧ CrOk x.1 x.2.2.2 ∧ ∀ p ∈ x.2.2.2, p ∈ x.2.2.1) (fun _ => .bl true)
theorem cal_is_sighting (T : Txt K mg) : C8.Cal P w K mg base 5 "is_sighting" (sp_is_sighting K) [] := by
  have c_is_pair := cal_is_pair (P := P) (w := w) (base := base) T
  have c_is_crowd := cal_is_crowd (P := P) (w := w) (base := base) T
  have c_bits_of := cal_bits_of (P := P) (w := w) (base := base) T
  have c_holds := cal_holds (P := P) (w := w) (base := base) T
  obtain ⟨fd, F⟩ := T.f_is_sighting
  have nd := sc_is_sighting.nd
  refine mkD F sc_is_sighting (fun _ => rfl) (fun us hl _ _ _ _ _ _ => match us, hl with | [_, _], _ => rfl) T.m_is_sighting fun cdv A outer s H E hr => ⟨_,
      (pss_cons (ps_if (PW.pt (pw_or (pt_not (pt_val (C8.pe_c c_is_pair hr (by decide) (by rfl) (pa_cons (pv 1) pa_nil)))) (pw_or (pt_not (pt_val (C8.pe_c c_is_crowd hr (by decide) (by rfl) (pa_cons (kFld K rfl (pv 0)) (pa_cons (pe_ix (kIxT K) (pv 1) pe_int (fun _ _ => rfl)) pa_nil))))) (pw_or1 (pt_not (pt_val (C8.pe_c c_is_crowd hr (by decide) (by rfl) (pa_cons (kFld K rfl (pv 0)) (pa_cons (pe_ix (kIxT K) (pv 1) pe_int (fun _ _ => rfl)) pa_nil))))))))) (pss_one (ps_ret pe_bl)) pss_nil)
      (pss_one (ps_ret (C8.pe_c c_holds hr (by decide) (by rfl) (pa_cons (C8.pe_c c_bits_of hr (by decide) (by rfl) (pa_cons (pe_ix (kIxT K) (pv 1) pe_int (fun _ _ => rfl)) pa_nil)) (pa_cons (C8.pe_c c_bits_of hr (by decide) (by rfl) (pa_cons (pe_ix (kIxT K) (pv 1) pe_int (fun _ _ => rfl)) pa_nil)) pa_nil)))))), ?_⟩
  rintro ⟨n, lots, c, s⟩ ⟨h12, h1, h2, hs⟩
  simp only at h12 h1 h2 hs
  have l1 := h1.len
  have l2 := h2.len
  refine x_seq (x_if (b := false) (et_is (d' := false) (et_or (a := false) (et_is (et_not (et_B (ev_call [crD c, crD s] (ea_cons (ev_var rfl) ea_nil) trivial))) rfl) fun _ => et_or (a := false) (et_is (et_not (et_B (ev_call (n, c) (ea_cons (ev_people (ev_var rfl)) (ea_cons (ev_op (ev_var rfl) ev_int (rd_ixT rfl)) ea_nil)) ⟨h1, by show c.length ≤ 1000; omega⟩))) rfl) fun _ =>
    et_is (d' := false) (et_not (et_B (ev_call (n, s) (ea_cons (ev_people (ev_var rfl)) (ea_cons (ev_op (ev_var rfl) ev_int (rd_ixT rfl)) ea_nil)) ⟨h2, by show s.length ≤ 1000; omega⟩))) rfl) rfl) (fun z => by cases z) fun _ => x_next ?_)
  refine x_ret (ev_call (LM.bitsOf c, LM.bitsOf s) (ea_cons (ev_call c (ea_cons (ev_op (ev_var rfl) ev_int (rd_ixT rfl)) ea_nil) ⟨fun p hp => by have := h1.lt p hp; omega, by omega⟩) (ea_cons (ev_call s (ea_cons (ev_op (ev_var rfl) ev_int (rd_ixT rfl)) ea_nil) ⟨fun p hp => by have := h2.lt p hp; omega, by omega⟩) ea_nil)) trivial) ?_
  show Dt.bl (LM.holds (LM.bitsOf c) (LM.bitsOf s)) = Dt.bl true
  rw [LM.holds_iff.mpr fun i hi => ?_]
  rw [LM.tb_bitsOf h2.nd] at hi
  rw [LM.tb_bitsOf h1.nd]
  exact decide_eq_true (hs i (of_decide_eq_true hi))
theorem sc_check_sightings : FnScope ["book", "thing", "one"] ["book", "thing"] (defScope Hd.s_check_sightings) := ⟨rfl, rfl, rfl, by decide +kernel, rfl, by decide +kernel, by decide +kernel⟩
def sp_check_sightings (K : PySem.W.Frag) : Sp := spD K (fun x : Nat × LM.Lots × Bool × LM.Sgt => [bkD x.1 x.2.1, sgsD x.2.2.1 x.2.2.2]) (fun x => x.1 ≤ 12 ∧ SgC x.1 x.2.2.2) (fun _ => .non)
theorem cal_check_sightings (T : Txt K mg) : C8.Cal P w K mg base 6 "check_sightings" (sp_check_sightings K) [] := by
  have c_is_listed := cal_is_listed (P := P) (w := w) (base := base) T
  have c_is_sighting := cal_is_sighting (P := P) (w := w) (base := base) T
  obtain ⟨fd, F⟩ := T.f_check_sightings
  have nd := sc_check_sightings.nd
  refine mkD F sc_check_sightings (fun _ => rfl) (fun us hl _ _ _ _ _ _ => match us, hl with | [_, _], _ => rfl) T.m_check_sightings fun cdv A outer s H E hr => ⟨_,
      (pss_one (ps_if (PW.pt (pw_or (pt_not (pt_val (C8.pe_c c_is_listed hr (by decide) (by rfl) (pa_cons (pv 1) pa_nil)))) (pw_or (pt_cmpR op_gt (pe_callB (kLen K) (by rfl) T.len (by decide +kernel) (pa_cons (pv 1) pa_nil)) (C8.pe_gc (by rfl) T.MOST_SIGHTINGS) (nomark _)) (pw_or1 (pt_not (pt_val (pe_callB (kAll K) (by rfl) T.all (by decide +kernel) (pa_cons (pe_lc (own := [("one", 2)]) (g := (gName 2)) rfl nd (kSeq K rfl (pv 1)) (blkOk_by (by show blkC ["book", "thing", "one"] (defScope Hd.s_check_sightings) _ _ = true; decide +kernel)) (fun _ _ _ _ _ => (pg_name (i := 2) nd rfl (by first | exact Or.inl rfl | exact Or.inr rfl))) (fun _ _ _ _ _ => pts_nil) (fun _ _ _ _ _ => (C8.pe_c c_is_sighting hr (by decide) (by rfl) (pa_cons (pv 0) (pa_cons (pv 2) pa_nil))))) pa_nil)))))))) (pss_one ps_never) pss_nil)), ?_⟩
  rintro ⟨n, lots, t, S⟩ ⟨h12, hS⟩
  simp only at h12 hS
  have h20 := hS.len
  have wk : ∀ es : Es, es[1]? = some (some (sgsD t S)) → WkD K (iSeq K 1) es (S.map sgD) := fun es h => by
    cases t with
    | true => exact wk_seqT h
    | false => exact wk_seqL h
  have ln : RC K (rLenQ K) [sgsD t S] (.int ((S.map sgD).length : Int)) := by
    cases t with
    | true => exact rc_lenT
    | false => exact rc_lenL
  have ty : tyD (sgsD t S) = "list" ∨ tyD (sgsD t S) = "tuple" := by
    cases t with
    | true => exact .inr rfl
    | false => exact .inl rfl
  refine x_if (b := false) (et_is (d' := false) (et_or (a := false) (et_is (et_not (et_B (ev_call (sgsD t S) (ea_cons (ev_var rfl) ea_nil) ty))) rfl) fun _ => et_or (a := false) (et_is (et_test (ev_op (ev_cb (ea_cons (ev_var rfl) ea_nil) ln) ev_int rd_b0)) ?_) fun _ =>
    et_is (d' := false) (et_not (et_test (ev_cb (ea_cons (EvL.d (el_lc S sgD (fun _ => true) (fun _ => .bl true) (is := [2]) (wk _ rfl) (by simp) (by omega) fun cs hcs => tg_name ⟨et_yes, fun _ => ev_call (n, lots, cs) (ea_cons (ev_var rfl) (ea_cons (ev_var rfl) ea_nil)) ⟨h12, hS.c1 cs hcs, hS.c2 cs hcs, hS.sub cs hcs⟩⟩)) ea_nil) (by rw [filter_yes]; exact rc_allF S fun _ => true)))) (by simp)) rfl) (fun z => by cases z) fun _ => x_next rfl
  rw [List.length_map]
  exact decide_eq_false (by omega)
theorem sc_others_within : FnScope ["book", "seen", "person", "found", "mask"] ["book", "seen", "person"] (defScope Hd.s_others_within) := ⟨rfl, rfl, rfl, by decide +kernel, rfl, by decide +kernel, by decide +kernel⟩
def sp_others_within (K : PySem.W.Frag) : Sp := spD K (fun x : Nat × LM.Lots × Nat × Nat => [bkD x.1 x.2.1, dn x.2.2.1, dn x.2.2.2]) (fun x => x.2.1.length ≤ 1000 ∧ x.2.2.2 ≤ 1000) (fun x => ldN (LM.othersWithin (LM.masksOf x.2.1) x.2.2.1 x.2.2.2))
theorem cal_others_within (T : Txt K mg) : C8.Cal P w K mg base 2 "others_within" (sp_others_within K) [] := by
  have c_holds := cal_holds (P := P) (w := w) (base := base) T
  obtain ⟨fd, F⟩ := T.f_others_within
  have nd := sc_others_within.nd
  refine mkD F sc_others_within (fun _ => rfl) (fun us hl _ _ _ _ _ _ => match us, hl with | [_, _, _], _ => rfl) T.m_others_within fun cdv A outer s H E hr => ⟨_,
      (pss_cons (ps_set (i := 3) nd rfl (by first | exact Or.inl rfl | exact Or.inr rfl) (pe_lst pa_nil))
      (pss_cons (ps_for PassesOwn.never rfl (kList K rfl (kFld K rfl (pv 0))) (pg_name (i := 4) nd rfl (by first | exact Or.inl rfl | exact Or.inr rfl)) (pss_one (ps_if (PW.pt (pw_and (pt_cmpR op_eq (pe_op op_and (pe_op op_shr (pv 4) (pv 2)) pe_int) pe_int (nomark _)) (pw_and1 (pt_val (C8.pe_c c_holds hr (by decide) (by rfl) (pa_cons (pv 1) (pa_cons (pe_op op_xor (pv 4) (pe_op op_shl pe_int (pv 2))) pa_nil))))))) (pss_one (kAppend K (st := ps_expr (pe_bm PySem.F.plainAttrs_list PySem.F.slot_list_append PySem.F.type_list_append mt_append (pv 3) (pa_cons (pe_op op_xor (pv 4) (pe_op op_shl pe_int (pv 2))) pa_nil))))) pss_nil)))
      (pss_one (ps_ret (pv 3))))), ?_⟩
  rintro ⟨n, lots, seen, p⟩ ⟨hl, hp⟩
  simp only at hl hp
  have hml : (LM.masksOf lots).length = lots.length := by simp [LM.masksOf]
  have oth_len : ∀ ms : List Nat, (LM.othersWithin ms seen p).length ≤ ms.length := fun ms => by
    unfold LM.othersWithin
    rw [List.length_map]; exact List.length_filter_le _ _
  refine x_seq (x_new (el_lst ea_nil (by decide)) fun l => x_seq (x_for (is := [4]) (xs := (LM.masksOf lots).map dn)
    (fun i es mu => ∃ o, es = [some (bkD n lots), some (dn seen), some (dn p), some (.adr l), o] ∧ mu = [(l, (LM.othersWithin ((LM.masksOf lots).take i) seen p).map dn)])
    (wk_list (ev_masks (ev_var rfl))) ⟨_, rfl, rfl⟩ ?_ ?_))
  · rintro i y es mu hy ⟨o, rfl, rfl⟩
    obtain ⟨m, hm, rfl⟩ := map_at hy
    have hil := (List.getElem?_eq_some_iff.mp hm).1
    have st : LM.othersWithin ((LM.masksOf lots).take (i + 1)) seen p = LM.othersWithin ((LM.masksOf lots).take i) seen p ++ (if (m.testBit p && LM.holds seen (m ^^^ 2 ^ p)) = true then [m ^^^ 2 ^ p] else []) := by
      rw [List.take_add_one, hm]
      unfold LM.othersWithin
      rw [List.filter_append, List.map_append]
      congr 1
      cases e : m.testBit p && LM.holds seen (m ^^^ 2 ^ p) <;> simp [e]
    refine tg_name (x_if (et_and (et_test (ev_bit (ev_var rfl) (ev_var rfl))) fun _ => et_B (ev_call (seen, m ^^^ 2 ^ p) (ea_cons (ev_var rfl) (ea_cons (ev_xor (ev_var rfl) (ev_shl (ev_var rfl) hp)) ea_nil)) trivial)) (fun hb => ?_) fun hb => x_next ⟨_, rfl, ?_⟩)
    · refine x_app 0 (ev_var rfl) (ev_xor (ev_var rfl) (ev_shl (ev_var rfl) hp)) rfl ?_ ⟨_, rfl, ?_⟩
      · rw [List.length_map]
        have := oth_len ((LM.masksOf lots).take i)
        rw [List.length_take] at this
        omega
      · rw [st, if_pos hb, List.map_append]; rfl
    · rw [st, if_neg (by simp only at hb; rw [hb]; simp), List.append_nil]
  · rintro es mu ⟨o, rfl, rfl⟩
    refine x_thaw (x_ret (ev_var (thaw_at rfl)) ?_)
    rw [List.length_map, List.take_length]
theorem rd_niN {p : Nat} {s : List Nat} : RD K (rIn K true) (dn p) (crD s) (.bl (!decide (p ∈ s))) := by
  have := rd_niT (K := K) (i := (p : Int)) (ns := zi s)
  rw [← dn_zi] at this
  have e : decide ((p : Int) ∈ zi s) = decide (p ∈ s) := by by_cases h : p ∈ s <;> simp [h, mem_zi]
  rw [e] at this
  exact this
theorem needOf_len (masks : List Nat) (p : Nat) : ∀ (S : LM.Sgt) (k : Nat), (LM.needOf masks p k S).length ≤ S.length
  | [], k => by simp [LM.needOf]
  | (c, s) :: r, k => by
    have := needOf_len masks p r (k + 1)
    unfold LM.needOf
    split <;> simp <;> omega
theorem needOf_ol (masks : List Nat) (p : Nat) : ∀ (S : LM.Sgt) (k : Nat), ∀ e ∈ LM.needOf masks p k S, e.2.length ≤ masks.length
  | [], k, e, he => by simp [LM.needOf] at he
  | (c, s) :: r, k, e, he => by
    unfold LM.needOf at he
    split at he
    · rcases List.mem_cons.mp he with h | h
      · subst h
        show (LM.othersWithin _ _ _).length ≤ _
        unfold LM.othersWithin
        rw [List.length_map]; exact List.length_filter_le _ _
      · exact needOf_ol masks p r (k + 1) e h
    · exact needOf_ol masks p r (k + 1) e he
/-- the lists that needs fills -/
def muOf (ls : List Addr) (f : Nat → LM.Need) : Mu := ls.zipIdx.map fun x => (x.1, (f x.2).map ndE)
theorem muOf_at {ls : List Addr} {f : Nat → LM.Need} {p : Nat} (h : p < ls.length) : (muOf ls f)[p]? = some (ls[p], (f p).map ndE) := by
  unfold muOf
  rw [List.getElem?_map, List.getElem?_zipIdx, List.getElem?_eq_getElem h]
  simp
theorem muOf_set {ls : List Addr} {f g : Nat → LM.Need} {p : Nat} (h : p < ls.length) (hg : ∀ q, q ≠ p → g q = f q) : (muOf ls f).set p (ls[p], (g p).map ndE) = muOf ls g := by
  apply List.ext_getElem?
  intro i
  have ln : ∀ f, (muOf ls f).length = ls.length := fun f => by simp [muOf]
  by_cases hi : i < ls.length
  · by_cases e : p = i
    · subst e
      rw [List.getElem?_set_self (by rw [ln]; exact h), muOf_at hi]
    · rw [List.getElem?_set_ne e, muOf_at hi, muOf_at hi, hg i (fun z => e z.symm)]
  · rw [List.getElem?_eq_none (by rw [List.length_set, ln]; omega), List.getElem?_eq_none (by rw [ln]; omega)]
theorem muOf_congr {ls : List Addr} {f g : Nat → LM.Need} (h : ∀ p, p < ls.length → f p = g p) : muOf ls f = muOf ls g := by
  apply List.ext_getElem?
  intro i
  have ln : ∀ f, (muOf ls f).length = ls.length := fun f => by simp [muOf]
  by_cases hi : i < ls.length
  · rw [muOf_at hi, muOf_at hi, h i hi]
  · rw [List.getElem?_eq_none (by rw [ln]; omega), List.getElem?_eq_none (by rw [ln]; omega)]
theorem sc_needs : FnScope ["book", "sightings", "found", "person", "number", "crowd", "seen", "bits"] ["book", "sightings"] (defScope Hd.s_needs) := ⟨rfl, rfl, rfl, by decide +kernel, rfl, by decide +kernel, by decide +kernel⟩
def sp_needs (K : PySem.W.Frag) : Sp := spD K (fun x : Nat × LM.Lots × Bool × LM.Sgt => [bkD x.1 x.2.1, sgsD x.2.2.1 x.2.2.2]) (fun x => x.1 ≤ 12 ∧ x.2.1.length ≤ 60 ∧ SgC x.1 x.2.2.2) (fun x => ndsD x.1 (LM.masksOf x.2.1) x.2.2.2)
theorem cal_needs (T : Txt K mg) : C8.Cal P w K mg base 3 "needs" (sp_needs K) [] := by
  have c_others_within := cal_others_within (P := P) (w := w) (base := base) T
  have c_bits_of := cal_bits_of (P := P) (w := w) (base := base) T
  obtain ⟨fd, F⟩ := T.f_needs
  have nd := sc_needs.nd
  refine mkD F sc_needs (fun _ => rfl) (fun us hl _ _ _ _ _ _ => match us, hl with | [_, _], _ => rfl) T.m_needs fun cdv A outer s H E hr => ⟨_,
      (pss_cons (ps_setLc (i := 2) (own := [("person", 3)]) (g := (gName 3)) rfl nd rfl rfl (sw_true rfl rfl rfl (by decide +kernel)) (pi_range1 (by rfl) T.range (pa_cons (kFld K rfl (pv 0)) pa_nil)) (blkOk_by (by show blkC ["book", "sightings", "found", "person", "number", "crowd", "seen", "bits"] (defScope Hd.s_needs) _ _ = true; decide +kernel)) (fun _ _ _ _ _ => (pg_name (i := 3) nd rfl (by first | exact Or.inl rfl | exact Or.inr rfl))) (fun _ _ _ _ _ => pts_nil) (fun _ _ _ _ _ => (pe_lst pa_nil)))
      (pss_cons (ps_for PassesOwn.never rfl (kEnum K rfl (by rfl) T.enumerate (pa_cons (pv 1) pa_nil)) (pg_tup rfl (pgs_cons (pg_name (i := 4) nd rfl (by first | exact Or.inl rfl | exact Or.inr rfl)) (pgs_cons (pg_tup rfl (pgs_cons (pg_name (i := 5) nd rfl (by first | exact Or.inl rfl | exact Or.inr rfl)) (pgs_cons (pg_name (i := 6) nd rfl (by first | exact Or.inl rfl | exact Or.inr rfl)) pgs_nil))) pgs_nil))) (pss_cons (ps_set (i := 7) nd rfl (by first | exact Or.inl rfl | exact Or.inr rfl) (C8.pe_c c_bits_of hr (by decide) (by rfl) (pa_cons (pv 6) pa_nil)))
      (pss_one (ps_for PassesOwn.never rfl (kTupW K rfl (pv 5)) (pg_name (i := 3) nd rfl (by first | exact Or.inl rfl | exact Or.inr rfl)) (pss_one (ps_if (pt_cmpR (kNotIn K) (pv 3) (pv 6) (by rfl)) (pss_one (kAppend K (st := ps_expr (pe_bm PySem.F.plainAttrs_list PySem.F.slot_list_append PySem.F.type_list_append mt_append (pe_ix (kIxL K) (pv 2) (pv 3) (fun _ _ => rfl)) (pa_cons (pe_tup (pa_cons (pv 4) (pa_cons (C8.pe_c c_others_within hr (by decide) (by rfl) (pa_cons (pv 0) (pa_cons (pv 7) (pa_cons (pv 3) pa_nil)))) pa_nil))) pa_nil))))) pss_nil))))))
      (pss_one (ps_ret (pv 2))))), ?_⟩
  rintro ⟨n, lots, t, S⟩ ⟨h12, h60, hS⟩
  simp only at h12 h60 hS
  have h20 := hS.len
  refine x_seq (x_newLs (is := [3]) (xs := rngD 0 n) (wk_is (wk_range1 (n := (n : Int)) (ea_cons (ev_people (ev_var rfl)) ea_nil) (by omega) (by omega)) (by rw [Int.toNat_natCast])) (by simp) (by rw [rngD_len]; omega) (fun x _ => tg_name trivial) fun ls hls => ?_)
  rw [rngD_len] at hls
  refine x_seq (x_for (is := [4, 5, 6]) (xs := enD (S.map sgD))
    (fun i es mu => ∃ o3 o4 o5 o6 o7, es = [some (bkD n lots), some (sgsD t S), some (.lst (ls.map .adr)), o3, o4, o5, o6, o7] ∧ mu = muOf ls fun p => LM.needOf (LM.masksOf lots) p 0 (S.take i))
    (wk_enum t (ea_cons (ev_var rfl) ea_nil)) ⟨_, _, _, _, _, rfl, ?_⟩ ?_ ?_)
  · rw [List.append_nil]
    unfold muOf
    apply List.ext_getElem?
    intro i
    rw [List.getElem?_map, List.getElem?_map, List.getElem?_zipIdx]
    cases ls[i]? <;> simp [LM.needOf]
  · rintro i y es mu hy ⟨o3, o4, o5, o6, o7, rfl, rfl⟩
    obtain ⟨x, hx, rfl⟩ := enD_at hy
    obtain ⟨⟨c, s⟩, hcs, rfl⟩ := map_at hx
    have hm := List.mem_of_getElem? hcs
    have hil := (List.getElem?_eq_some_iff.mp hcs).1
    have hc := hS.c1 _ hm
    have hs := hS.c2 _ hm
    simp only at hc hs
    have l1 := hc.len
    have l2 := hs.len
    refine tg_tup rfl (tgs_cons (tg_name (tgs_cons (tg_tup rfl (tgs_cons (tg_name (tgs_cons (tg_name (tgs_nil (tgs_nil ?_))))))))))
    refine x_seq (x_asg (ev_call s (ea_cons (ev_var rfl) ea_nil) ⟨fun p hp => by have := hs.lt p hp; omega, by omega⟩) ?_)
    refine x_for (is := [3]) (xs := c.map dn)
      (fun k es mu => ∃ o3, es = [some (bkD n lots), some (sgsD t S), some (.lst (ls.map .adr)), o3, some (.int i), some (crD c), some (crD s), some (dn (LM.bitsOf s))] ∧
        mu = muOf ls fun p => LM.needOf (LM.masksOf lots) p 0 (S.take i) ++ (if p ∈ c.take k ∧ p ∉ s then [((i : Int), LM.othersWithin (LM.masksOf lots) (LM.bitsOf s) p)] else []))
      (wk_tup (ev_var rfl)) ⟨_, rfl, muOf_congr fun p _ => by simp⟩ ?_ ?_
    · rintro k y es mu hy ⟨o, rfl, rfl⟩
      obtain ⟨p, hp, rfl⟩ := map_at hy
      have hkl := (List.getElem?_eq_some_iff.mp hp).1
      have hpn : p < ls.length := by rw [hls]; exact hc.lt p (List.mem_of_getElem? hp)
      have hadr : (ls.map Dt.adr)[p]? = some (.adr ls[p]) := by rw [List.getElem?_map, List.getElem?_eq_getElem hpn]; rfl
      have hnot : p ∉ c.take k := fun z => by
        obtain ⟨j, hj⟩ := List.getElem?_of_mem z
        rw [List.getElem?_take] at hj
        split at hj
        · have := LM.nd_at hc.nd hj hp
          omega
        · cases hj
      have tk : ∀ q, q ∈ c.take (k + 1) ↔ q ∈ c.take k ∨ q = p := fun q => by
        rw [List.take_add_one, hp]; simp
      refine tg_name (x_if (et_test (ev_op (ev_var rfl) (ev_var rfl) rd_niN)) (fun hb => ?_) fun hb => x_next ⟨_, rfl, muOf_congr fun q _ => ?_⟩)
      · have hps : p ∉ s := by simpa using hb
        refine x_app p (l := ls[p]) (ev_op (ev_var rfl) (ev_var rfl) (rd_ixL (atI_nat hadr))) (ev_tup (ea_cons (ev_var rfl) (ea_cons (ev_call (n, lots, LM.bitsOf s, p) (ea_cons (ev_var rfl) (ea_cons (ev_var rfl) (ea_cons (ev_var rfl) ea_nil))) ⟨by show lots.length ≤ 1000; omega, by show p ≤ 1000; omega⟩) ea_nil)) (by simp)) (muOf_at hpn) ?_ ⟨_, rfl, ?_⟩
        · rw [List.length_map, List.length_append]
          have := needOf_len (LM.masksOf lots) p (S.take i) 0
          rw [List.length_take] at this
          split <;> simp <;> omega
        · rw [← muOf_set (g := fun q => LM.needOf (LM.masksOf lots) q 0 (S.take i) ++ (if q ∈ c.take (k + 1) ∧ q ∉ s then [((i : Int), LM.othersWithin (LM.masksOf lots) (LM.bitsOf s) q)] else [])) hpn fun q hq => ?_]
          · congr 2
            rw [if_neg (fun z => hnot z.1), if_pos ⟨(tk p).mpr (.inr rfl), hps⟩]
            simp [ndE]
          · simp only [tk, hq, or_false]
      · have hps : p ∈ s := by simpa using hb
        by_cases e : q = p
        · subst e
          rw [if_neg (fun z => z.2 hps), if_neg (fun z => z.2 hps)]
        · simp only [tk, e, or_false]
    · rintro es mu ⟨o, rfl, rfl⟩
      refine ⟨_, _, _, _, _, rfl, muOf_congr fun p _ => ?_⟩
      rw [List.length_map, List.take_length, List.take_add_one, hcs]
      show _ = LM.needOf _ p 0 (S.take i ++ [(c, s)])
      rw [LM.needOf_snoc, List.length_take, Nat.min_eq_left (Nat.le_of_lt hil), Nat.zero_add]
  · rintro es mu ⟨o3, o4, o5, o6, o7, rfl, rfl⟩
    refine x_retAll ?_ ?_
    · show some (some (Dt.lst (ls.map Dt.adr))) = _
      congr 3
      unfold muOf
      apply List.ext_getElem?
      intro i
      rw [List.getElem?_map, List.getElem?_map, List.getElem?_map, List.getElem?_zipIdx]
      cases ls[i]? <;> simp
    · show _ = Dt.lst _
      congr 1
      unfold muOf
      apply List.ext_getElem?
      intro i
      rw [List.getElem?_map, List.getElem?_map, List.getElem?_map, List.getElem?_zipIdx]
      by_cases hi : i < n
      · rw [List.getElem?_eq_getElem (by omega), List.getElem?_range hi, enD_len, List.length_map, List.take_length]
        simp
      · rw [List.getElem?_eq_none (by omega), List.getElem?_eq_none (by rw [List.length_range]; omega)]; rfl
theorem sc_can_stand : FnScope ["need", "placed", "others", "lots", "number"] ["need", "placed"] (defScope Hd.s_can_stand) := ⟨rfl, rfl, rfl, by decide +kernel, rfl, by decide +kernel, by decide +kernel⟩
def sp_can_stand (K : PySem.W.Frag) : Sp := spD K (fun x : LM.Need × Nat => [ndD x.1, dn x.2]) (fun x => x.1.length ≤ 1000 ∧ ∀ e ∈ x.1, e.2.length ≤ 1000) (fun x => .bl (LM.canStand x.1 x.2))
theorem cal_can_stand (T : Txt K mg) : C8.Cal P w K mg base 2 "can_stand" (sp_can_stand K) [] := by
  have c_holds := cal_holds (P := P) (w := w) (base := base) T
  obtain ⟨fd, F⟩ := T.f_can_stand
  have nd := sc_can_stand.nd
  refine mkD F sc_can_stand (fun _ => rfl) (fun us hl _ _ _ _ _ _ => match us, hl with | [_, _], _ => rfl) T.m_can_stand fun cdv A outer s H E hr => ⟨_,
      (pss_one (ps_ret (pe_callB (kAll K) (by rfl) T.all (by decide +kernel) (pa_cons (pe_lc (own := [("number", 4), ("lots", 3)]) (g := (gTup K 2 (gCons (gName 4) (gCons (gName 3) gNil)))) rfl nd (kList K rfl (pv 0)) (blkOk_by (by show blkC ["need", "placed", "others", "lots", "number"] (defScope Hd.s_can_stand) _ _ = true; decide +kernel)) (fun _ _ _ _ _ => (pg_tup rfl (pgs_cons (pg_name (i := 4) nd rfl (by first | exact Or.inl rfl | exact Or.inr rfl)) (pgs_cons (pg_name (i := 3) nd rfl (by first | exact Or.inl rfl | exact Or.inr rfl)) pgs_nil)))) (fun _ _ _ _ _ => pts_nil) (fun _ _ _ _ _ => (pe_callB (kAny K) (by rfl) T.any (by decide +kernel) (pa_cons (pe_lc (own := [("others", 2)]) (g := (gName 2)) rfl nd (kList K rfl (pv 3)) (blkOk_by (by show blkC ["need", "placed", "others", "lots", "number"] (relS _ (defScope Hd.s_can_stand)) _ _ = true; decide +kernel)) (fun _ _ _ _ _ => (pg_name (i := 2) nd rfl (by first | exact Or.inl rfl | exact Or.inr rfl))) (fun _ _ _ _ _ => pts_nil) (fun _ _ _ _ _ => (C8.pe_c c_holds hr (by decide) (by rfl) (pa_cons (pv 1) (pa_cons (pv 2) pa_nil))))) pa_nil)))) pa_nil)))), ?_⟩
  rintro ⟨need, m⟩ ⟨h1, h2⟩
  simp only at h1 h2
  refine x_ret (ev_cb (ea_cons (EvL.d (el_lc need ndE (fun _ => true) (fun x => .bl (x.2.any fun o => LM.holds m o)) (is := [4, 3]) (wk_list (ev_var rfl)) (by simp) (by omega) fun x hx => tg_tup rfl (tgs_cons (tg_name (tgs_cons (tg_name (tgs_nil ⟨et_yes, fun _ => ?_⟩))))))) ea_nil) (by rw [filter_yes]; exact rc_allF _ _)) rfl
  refine ev_cb (ea_cons (EvL.d (el_lc x.2 dn (fun _ => true) (fun o => .bl (LM.holds m o)) (is := [2]) (wk_list (ev_var rfl)) (by simp) (by have := h2 x hx; omega) fun o ho => tg_name ⟨et_yes, fun _ => ev_call (m, o) (ea_cons (ev_var rfl) (ea_cons (ev_var rfl) ea_nil)) trivial⟩)) ea_nil) (by rw [filter_yes]; exact rc_anyF _ _)
/-- who can follow -/
def canF (n : Nat) (C : LM.CanT) (m : Nat) : List Nat := (LM.crowdOf (LM.allOf n ^^^ m)).filter fun p => C m p
theorem sc_can_follow : FnScope ["book", "need", "placed", "some", "person"] ["book", "need", "placed"] (defScope Hd.s_can_follow) := ⟨rfl, rfl, rfl, by decide +kernel, rfl, by decide +kernel, by decide +kernel⟩
def sp_can_follow (K : PySem.W.Frag) : Sp := spD K (fun x : Nat × LM.Lots × LM.Sgt × Nat => [bkD x.1 x.2.1, ndsD x.1 (LM.masksOf x.2.1) x.2.2.1, dn x.2.2.2]) (fun x => x.1 ≤ 12 ∧ x.2.1.length ≤ 60 ∧ x.2.2.1.length ≤ 20 ∧ x.2.2.2 < 2 ^ x.1) (fun x => ldN (canF x.1 (LM.canT (LM.masksOf x.2.1) x.2.2.1) x.2.2.2))
theorem mem_free {n m p : Nat} (hm : m < 2 ^ n) : p ∈ LM.crowdOf (LM.allOf n ^^^ m) ↔ p < n ∧ m.testBit p = false := by
  rw [LM.mem_crowdOf, Nat.testBit_xor, LM.tb_allOf]
  by_cases h : p < n
  · simp [h]
  · have : m.testBit p = false := Nat.testBit_lt_two_pow (Nat.lt_of_lt_of_le hm (Nat.pow_le_pow_right (by decide) (by omega)))
    simp [h, this]
theorem cal_can_follow (T : Txt K mg) : C8.Cal P w K mg base 3 "can_follow" (sp_can_follow K) [] := by
  have c_can_stand := cal_can_stand (P := P) (w := w) (base := base) T
  have c_crowd_of := cal_crowd_of (P := P) (w := w) (base := base) T
  have c_all_of := cal_all_of (P := P) (w := w) (base := base) T
  obtain ⟨fd, F⟩ := T.f_can_follow
  have nd := sc_can_follow.nd
  refine mkD F sc_can_follow (fun _ => rfl) (fun us hl _ _ _ _ _ _ => match us, hl with | [_, _, _], _ => rfl) T.m_can_follow fun cdv A outer s H E hr => ⟨_,
      (pss_cons (ps_set (i := 3) nd rfl (by first | exact Or.inl rfl | exact Or.inr rfl) (C8.pe_c c_crowd_of hr (by decide) (by rfl) (pa_cons (pe_op op_xor (C8.pe_c c_all_of hr (by decide) (by rfl) (pa_cons (kFld K rfl (pv 0)) pa_nil)) (pv 2)) pa_nil)))
      (pss_one (ps_ret (pe_lc (own := [("person", 4)]) (g := (gName 4)) rfl nd (kTupW K rfl (pv 3)) (blkOk_by (by show blkC ["book", "need", "placed", "some", "person"] (defScope Hd.s_can_follow) _ _ = true; decide +kernel)) (fun _ _ _ _ _ => (pg_name (i := 4) nd rfl (by first | exact Or.inl rfl | exact Or.inr rfl))) (fun _ _ _ _ _ => (pts_one (pt_val (C8.pe_c c_can_stand hr (by decide) (by rfl) (pa_cons (pe_ix (kIxL K) (pv 1) (pv 4) (fun _ _ => rfl)) (pa_cons (pv 2) pa_nil)))))) (fun _ _ _ _ _ => (pv 4)))))), ?_⟩
  rintro ⟨n, lots, S, m⟩ ⟨h12, h60, h20, hm⟩
  simp only at h12 h60 h20 hm
  have hx : LM.allOf n ^^^ m < 2 ^ n := Nat.xor_lt_two_pow (by unfold LM.allOf; have := Nat.two_pow_pos n; omega) hm
  have hx2 : LM.allOf n ^^^ m < 2 ^ 1000 := Nat.lt_of_lt_of_le hx (Nat.pow_le_pow_right (by decide) (by omega))
  have hcl : (LM.crowdOf (LM.allOf n ^^^ m)).length ≤ 100000 := by
    unfold LM.crowdOf
    refine Nat.le_trans (List.length_filter_le _ _) ?_
    rw [List.length_range]
    split
    · exact Nat.zero_le _
    · rename_i h
      have := (Nat.log2_lt h).mpr hx2
      omega
  refine x_seq (x_asg (ev_call (LM.allOf n ^^^ m) (ea_cons (ev_xor (ev_call n (ea_cons (ev_people (ev_var rfl)) ea_nil) (by show n ≤ 1000; omega)) (ev_var rfl)) ea_nil) hx2) ?_)
  refine x_ret (EvL.d (el_lc (LM.crowdOf (LM.allOf n ^^^ m)) dn (fun p => LM.canT (LM.masksOf lots) S m p) dn (is := [4]) (wk_tup (ev_var rfl)) (by simp) hcl fun p hp => tg_name ⟨?_, fun _ => ev_var rfl⟩)) rfl
  have hpn := ((mem_free hm).mp hp).1
  have hnd : ((List.range n).map fun p => ndD (LM.needOf (LM.masksOf lots) p 0 S))[p]? = some (ndD (LM.needOf (LM.masksOf lots) p 0 S)) := by rw [List.getElem?_map, List.getElem?_range hpn]; rfl
  refine et_B (ev_call (LM.needOf (LM.masksOf lots) p 0 S, m) (ea_cons (ev_op (ev_var rfl) (ev_var rfl) (rd_ixL (atI_nat hnd))) (ea_cons (ev_var rfl) ea_nil)) ⟨?_, fun e he => ?_⟩)
  · have := needOf_len (LM.masksOf lots) p S 0
    show (LM.needOf (LM.masksOf lots) p 0 S).length ≤ 1000
    omega
  · have := needOf_ol (LM.masksOf lots) p S 0 e he
    simp only [LM.masksOf, List.length_map] at this
    omega
end
end DL
end
section
set_option Elab.async false
set_option linter.all false
set_option maxRecDepth 100000
set_option maxHeartbeats 0
/-! D4: placing, pairs -/
namespace DL
open PySem L2
/-! ### greedy placing, as the program does it -/
def nextF (n : Nat) (C : LM.CanT) (wo : Nat) (o : List Nat) : List Nat := (canF n C (LM.bitsOf o)).filter fun p => !wo.testBit p
def grow (n : Nat) (C : LM.CanT) (wo : Nat) : Nat → List Nat → List Nat
  | 0, o => o
  | k + 1, o => match nextF n C wo o with
    | [] => o
    | p :: _ => grow n C wo k (o ++ [p])
def placeBy (n : Nat) (C : LM.CanT) (wo : Nat) : List Nat := grow n C wo n []
theorem mem_nextF {n : Nat} {C : LM.CanT} {wo : Nat} {o : List Nat} (h : o.Nodup) (hl : ∀ p ∈ o, p < n) {p : Nat} : p ∈ nextF n C wo o ↔ p < n ∧ p ∉ o ∧ C (LM.bitsOf o) p = true ∧ wo.testBit p = false := by
  unfold nextF canF
  rw [List.mem_filter, List.mem_filter, mem_free (bits_lt h hl), LM.tb_bitsOf h]
  simp only [decide_eq_false_iff_not, Bool.not_eq_true', and_assoc]
theorem len_lt {n : Nat} {o : List Nat} {p : Nat} (h : o.Nodup) (hl : ∀ p ∈ o, p < n) (hp : p < n) (hn : p ∉ o) : o.length < n := by
  have hs : (o ++ [p]).Nodup := LM.nodup_snoc h hn
  have hp' : (o ++ [p]).Perm (LM.asc n (o ++ [p])) := (List.perm_ext_iff_of_nodup hs ((LM.asc_sorted n _).imp fun h => Nat.ne_of_lt h)).mpr fun q => by
    rw [LM.mem_asc]
    refine ⟨fun hq => ⟨?_, hq⟩, fun hq => hq.2⟩
    rcases List.mem_append.mp hq with e | e
    · exact hl q e
    · rw [List.mem_singleton] at e; subst e; exact hp
  have h1 := hp'.length_eq
  have h2 := List.length_filter_le (fun q => decide (q ∈ o ++ [p])) (List.range n)
  rw [List.length_range] at h2
  unfold LM.asc at h1
  rw [List.length_append] at h1
  simp only [List.length_cons, List.length_nil] at h1
  omega
theorem grow_placed {n : Nat} {C : LM.CanT} {wo : Nat} : ∀ (k : Nat) (o : List Nat), k + o.length = n → o.Nodup → (∀ q ∈ o, q < n ∧ wo.testBit q = false) → LM.Valid C o → LM.Placed C n (fun q => wo.testBit q) (grow n C wo k o)
  | 0, o, hk, nd, hl, hv => ⟨nd, hl, hv, fun p hp hn _ => by
    have := len_lt nd (fun q hq => (hl q hq).1) hp hn
    omega⟩
  | k + 1, o, hk, nd, hl, hv => by
    unfold grow
    have mem := fun p => mem_nextF (C := C) (wo := wo) nd (fun q hq => (hl q hq).1) (p := p)
    cases e : nextF n C wo o with
    | nil =>
      refine ⟨nd, hl, hv, fun p hp hn hw => ?_⟩
      cases hc : C (LM.bitsOf o) p with
      | false => rfl
      | true =>
        have := (mem p).mpr ⟨hp, hn, hc, hw⟩
        rw [e] at this; cases this
    | cons p r =>
      have hp := (mem p).mp (by rw [e]; simp)
      refine grow_placed k (o ++ [p]) (by rw [List.length_append]; simp; omega) (LM.nodup_snoc nd hp.2.1) (fun q hq => ?_) (hv.snoc hp.2.2.1)
      rcases List.mem_append.mp hq with h | h
      · exact hl q h
      · rw [List.mem_singleton] at h; subst h; exact ⟨hp.1, hp.2.2.2⟩
theorem placeBy_ok (n : Nat) (C : LM.CanT) (wo : Nat) : LM.Placed C n (fun q => wo.testBit q) (placeBy n C wo) := grow_placed n [] (by simp) List.nodup_nil (by simp) (LM.Valid.nil C)
abbrev canTT (lots : LM.Lots) (S : LM.Sgt) : LM.CanT := LM.canT (LM.masksOf lots) S
def behind (n : Nat) (C : LM.CanT) (a : Nat) : List Nat := (List.range n).filter fun b => !decide (b ∈ placeBy n C (2 ^ a)) && !decide (b = a)
def pairsOf (n : Nat) (C : LM.CanT) : List (Nat × Nat) := (List.range n).flatMap fun a => (behind n C a).map fun b => (a, b)
abbrev prD (x : Nat × Nat) : Dt := .tup [dn x.1, dn x.2]
/-- what surely_ahead asks -/
structure Fit (n : Nat) (lots : LM.Lots) (S : LM.Sgt) : Prop where
  n12 : n ≤ 12
  l60 : lots.length ≤ 60
  sg : SgC n S
  no : ∀ cs ∈ S, ∀ lot ∈ lots, LM.holds (LM.bitsOf cs.2) (LM.bitsOf lot) = false
  full : (placeBy n (canTT lots S) 0).length = n
section
variable {P : Program} {w : World} {K : PySem.W.Frag} {mg : Str → Option Value} {base : Heap}
theorem ziD_lots (lots : LM.Lots) : ziD (lots.map crD) ((LM.masksOf lots).map dn) = lots.map fun l => Dt.tup [crD l, dn (LM.bitsOf l)] := by
  unfold ziD LM.masksOf
  induction lots with
  | nil => rfl
  | cons l r ih => simp only [List.map_cons, List.zip_cons_cons] at ih ⊢; rw [ih]
theorem sc_first_lot : FnScope ["book", "sightings", "number", "crowd", "seen", "bits", "lots", "lot", "mask"] ["book", "sightings"] (defScope Hd.s_first_lot) := ⟨rfl, rfl, rfl, by decide +kernel, rfl, by decide +kernel, by decide +kernel⟩
def sp_first_lot (K : PySem.W.Frag) : Sp := spD K (fun x : Nat × LM.Lots × Bool × LM.Sgt => [bkD x.1 x.2.1, sgsD x.2.2.1 x.2.2.2]) (fun x => x.1 ≤ 12 ∧ x.2.1.length ≤ 60 ∧ SgC x.1 x.2.2.2 ∧ ∀ cs ∈ x.2.2.2, ∀ lot ∈ x.2.1, LM.holds (LM.bitsOf cs.2) (LM.bitsOf lot) = false) (fun _ => .non)
theorem cal_first_lot (T : Txt K mg) : C8.Cal P w K mg base 2 "first_lot" (sp_first_lot K) [] := by
  have c_bits_of := cal_bits_of (P := P) (w := w) (base := base) T
  have c_holds := cal_holds (P := P) (w := w) (base := base) T
  obtain ⟨fd, F⟩ := T.f_first_lot
  have nd := sc_first_lot.nd
  refine mkD F sc_first_lot (fun _ => rfl) (fun us hl _ _ _ _ _ _ => match us, hl with | [_, _], _ => rfl) T.m_first_lot fun cdv A outer s H E hr => ⟨_,
      (pss_cons (ps_for PassesOwn.never rfl (kEnum K rfl (by rfl) T.enumerate (pa_cons (pv 1) pa_nil)) (pg_tup rfl (pgs_cons (pg_name (i := 2) nd rfl (by first | exact Or.inl rfl | exact Or.inr rfl)) (pgs_cons (pg_tup rfl (pgs_cons (pg_name (i := 3) nd rfl (by first | exact Or.inl rfl | exact Or.inr rfl)) (pgs_cons (pg_name (i := 4) nd rfl (by first | exact Or.inl rfl | exact Or.inr rfl)) pgs_nil))) pgs_nil))) (pss_cons (ps_set (i := 5) nd rfl (by first | exact Or.inl rfl | exact Or.inr rfl) (C8.pe_c c_bits_of hr (by decide) (by rfl) (pa_cons (pv 4) pa_nil)))
      (pss_cons (ps_setLc (i := 6) (own := [("lot", 7), ("mask", 8)]) (g := (gTup K 2 (gCons (gName 7) (gCons (gName 8) gNil)))) rfl nd rfl rfl (sw_true rfl rfl rfl (by decide +kernel)) (kZip K rfl (by rfl) T.zip (pa_cons (kFld K rfl (pv 0)) (pa_cons (kFld K rfl (pv 0)) pa_nil))) (blkOk_by (by show blkC ["book", "sightings", "number", "crowd", "seen", "bits", "lots", "lot", "mask"] (defScope Hd.s_first_lot) _ _ = true; decide +kernel)) (fun _ _ _ _ _ => (pg_tup rfl (pgs_cons (pg_name (i := 7) nd rfl (by first | exact Or.inl rfl | exact Or.inr rfl)) (pgs_cons (pg_name (i := 8) nd rfl (by first | exact Or.inl rfl | exact Or.inr rfl)) pgs_nil)))) (fun _ _ _ _ _ => (pts_one (pt_val (C8.pe_c c_holds hr (by decide) (by rfl) (pa_cons (pv 5) (pa_cons (pv 8) pa_nil)))))) (fun _ _ _ _ _ => (pv 7)))
      (pss_one (ps_if (pt_cmpR op_gt (pe_callB (kLen K) (by rfl) T.len (by decide +kernel) (pa_cons (pv 6) pa_nil)) pe_int (nomark _)) (pss_one (ps_ret (pe_tup (pa_cons (pv 2) (pa_cons (pe_ix (kIxL K) (pv 6) pe_int (fun _ _ => rfl)) pa_nil))))) pss_nil)))))
      (pss_one (ps_ret pe_non))), ?_⟩
  rintro ⟨n, lots, t, S⟩ ⟨h12, h60, hS, hno⟩
  simp only at h12 h60 hS hno
  refine x_seq (x_for (is := [2, 3, 4]) (xs := enD (S.map sgD))
    (fun i es mu => ∃ o2 o3 o4 o5 o6, es = [some (bkD n lots), some (sgsD t S), o2, o3, o4, o5, o6, none, none] ∧ mu = [])
    (wk_enum t (ea_cons (ev_var rfl) ea_nil)) ⟨_, _, _, _, _, rfl, rfl⟩ ?_ ?_)
  · rintro i y es mu hy ⟨o2, o3, o4, o5, o6, rfl, rfl⟩
    obtain ⟨x, hx, rfl⟩ := enD_at hy
    obtain ⟨⟨c, s⟩, hcs, rfl⟩ := map_at hx
    have hm := List.mem_of_getElem? hcs
    have hs := hS.c2 _ hm
    have hn := hno _ hm
    simp only at hs hn
    have l2 := hs.len
    refine tg_tup rfl (tgs_cons (tg_name (tgs_cons (tg_tup rfl (tgs_cons (tg_name (tgs_cons (tg_name (tgs_nil (tgs_nil ?_))))))))))
    refine x_seq (x_asg (ev_call s (ea_cons (ev_var rfl) ea_nil) ⟨fun p hp => by have := hs.lt p hp; omega, by omega⟩) ?_)
    refine x_seq (x_asg (EvL.d (el_lc lots (fun l => Dt.tup [crD l, dn (LM.bitsOf l)]) (fun l => LM.holds (LM.bitsOf s) (LM.bitsOf l)) crD (is := [7, 8]) (wk_is (wk_zip true false (ea_cons (ev_lots (ev_var rfl)) (ea_cons (ev_masks (ev_var rfl)) ea_nil)) (by simp [LM.masksOf])) (ziD_lots lots)) (by simp) (by omega)
      fun l hl => tg_tup rfl (tgs_cons (tg_name (tgs_cons (tg_name (tgs_nil ⟨et_B (ev_call (LM.bitsOf s, LM.bitsOf l) (ea_cons (ev_var rfl) (ea_cons (ev_var rfl) ea_nil)) trivial), fun _ => ev_var rfl⟩))))))) ?_)
    have e0 : lots.filter (fun l => LM.holds (LM.bitsOf s) (LM.bitsOf l)) = [] := List.filter_eq_nil_iff.mpr fun l hl => by rw [hn l hl]; simp
    rw [e0]
    exact x_if (et_test (ev_op (ev_cb (ea_cons (ev_var rfl) ea_nil) rc_lenL) ev_int rd_b0)) (fun z => by cases z) fun _ => x_next ⟨_, _, _, _, _, rfl, rfl⟩
  · rintro es mu ⟨o2, o3, o4, o5, o6, rfl, rfl⟩
    exact x_ret ev_non rfl
theorem sc_placed_by : FnScope ["book", "need", "without", "order", "placed", "some", "person"] ["book", "need", "without"] (defScope Hd.s_placed_by) := ⟨rfl, rfl, rfl, by decide +kernel, rfl, by decide +kernel, by decide +kernel⟩
def sp_placed_by (K : PySem.W.Frag) : Sp := spD K (fun x : Nat × LM.Lots × LM.Sgt × Nat => [bkD x.1 x.2.1, ndsD x.1 (LM.masksOf x.2.1) x.2.2.1, dn x.2.2.2]) (fun x => x.1 ≤ 12 ∧ x.2.1.length ≤ 60 ∧ x.2.2.1.length ≤ 20) (fun x => crD (placeBy x.1 (canTT x.2.1 x.2.2.1) x.2.2.2))
theorem cal_placed_by (T : Txt K mg) : C8.Cal P w K mg base 4 "placed_by" (sp_placed_by K) [] := by
  have c_can_follow := cal_can_follow (P := P) (w := w) (base := base) T
  obtain ⟨fd, F⟩ := T.f_placed_by
  have nd := sc_placed_by.nd
  refine mkD F sc_placed_by (fun _ => rfl) (fun us hl _ _ _ _ _ _ => match us, hl with | [_, _, _], _ => rfl) T.m_placed_by fun cdv A outer s H E hr => ⟨_,
      (pss_cons (ps_set (i := 3) nd rfl (by first | exact Or.inl rfl | exact Or.inr rfl) (pe_tup pa_nil))
      (pss_cons (ps_set (i := 4) nd rfl (by first | exact Or.inl rfl | exact Or.inr rfl) pe_int)
      (pss_cons (ps_setLc (i := 5) (own := [("person", 6)]) (g := (gName 6)) rfl nd rfl rfl (sw_true rfl rfl rfl (by decide +kernel)) (kList K rfl (C8.pe_c c_can_follow hr (by decide) (by rfl) (pa_cons (pv 0) (pa_cons (pv 1) (pa_cons (pv 4) pa_nil))))) (blkOk_by (by show blkC ["book", "need", "without", "order", "placed", "some", "person"] (defScope Hd.s_placed_by) _ _ = true; decide +kernel)) (fun _ _ _ _ _ => (pg_name (i := 6) nd rfl (by first | exact Or.inl rfl | exact Or.inr rfl))) (fun _ _ _ _ _ => (pts_one (pt_cmpR op_eq (pe_op op_and (pe_op op_shr (pv 2) (pv 6)) pe_int) pe_int (nomark _)))) (fun _ _ _ _ _ => (pv 6)))
      (pss_cons (ps_while PassesOwn.never (pt_cmpR op_gt (pe_callB (kLen K) (by rfl) T.len (by decide +kernel) (pa_cons (pv 5) pa_nil)) pe_int (nomark _)) (pss_cons (ps_set (i := 3) nd rfl (by first | exact Or.inl rfl | exact Or.inr rfl) (pe_op (kCatT K) (pv 3) (pe_tup (pa_cons (pe_ix (kIxL K) (pv 5) pe_int (fun _ _ => rfl)) pa_nil))))
      (pss_cons (ps_set (i := 4) nd rfl (by first | exact Or.inl rfl | exact Or.inr rfl) (pe_op op_or (pv 4) (pe_op op_shl pe_int (pe_ix (kIxL K) (pv 5) pe_int (fun _ _ => rfl)))))
      (pss_one (ps_setLc (i := 5) (own := [("person", 6)]) (g := (gName 6)) rfl nd rfl rfl (sw_true rfl rfl rfl (by decide +kernel)) (kList K rfl (C8.pe_c c_can_follow hr (by decide) (by rfl) (pa_cons (pv 0) (pa_cons (pv 1) (pa_cons (pv 4) pa_nil))))) (blkOk_by (by show blkC ["book", "need", "without", "order", "placed", "some", "person"] (defScope Hd.s_placed_by) _ _ = true; decide +kernel)) (fun _ _ _ _ _ => (pg_name (i := 6) nd rfl (by first | exact Or.inl rfl | exact Or.inr rfl))) (fun _ _ _ _ _ => (pts_one (pt_cmpR op_eq (pe_op op_and (pe_op op_shr (pv 2) (pv 6)) pe_int) pe_int (nomark _)))) (fun _ _ _ _ _ => (pv 6)))))))
      (pss_one (ps_ret (pv 3))))))), ?_⟩
  rintro ⟨n, lots, S, wo⟩ ⟨h12, h60, h20⟩
  simp only at h12 h60 h20
  have next : ∀ (es : Es) (o : List Nat), o.Nodup → (∀ p ∈ o, p < n) → es[0]? = some (some (bkD n lots)) → es[1]? = some (some (ndsD n (LM.masksOf lots) S)) → es[2]? = some (some (dn wo)) → es[4]? = some (some (dn (LM.bitsOf o))) → es.length = 7 →
      EvL K (tLc (iList K (tCall (sp_can_follow K) [] C8.E0 (tCons (tVar 0) (tCons (tVar 1) (tCons (tVar 4) tNil))))) (gName 6) (tTest (tOp rEq (tOp (rI0 fun i j => .int (Builtin.bitAnd i j)) (tOp (rI (fun _ j => 0 ≤ j) fun i j => .int (i / 2 ^ j.toNat)) (tVar 2) (tVar 6)) (tC (.int 1))) (tC (.int 0)))) (tVar 6) [6]) es ((nextF n (canTT lots S) wo o).map dn) := fun es o nd hl h0 h1 h2 h4 h7 => by
    have hb := bits_lt nd hl
    refine el_lc (canF n (canTT lots S) (LM.bitsOf o)) dn (fun p => !wo.testBit p) dn (is := [6]) (wk_list (ev_call (n, lots, S, LM.bitsOf o) (ea_cons (ev_var h0) (ea_cons (ev_var h1) (ea_cons (ev_var h4) ea_nil))) ⟨h12, h60, h20, hb⟩)) (by simp) ?_ fun p hp => ?_
    · unfold canF LM.crowdOf
      refine Nat.le_trans (List.length_filter_le _ _) (Nat.le_trans (List.length_filter_le _ _) ?_)
      rw [List.length_range]
      split
      · exact Nat.zero_le _
      · rename_i h
        have hx : LM.allOf n ^^^ LM.bitsOf o < 2 ^ n := Nat.xor_lt_two_pow (by unfold LM.allOf; have := Nat.two_pow_pos n; omega) hb
        have := (Nat.log2_lt h).mpr hx
        omega
    · have e2 : ((wipeE es [6]).set 6 (some (dn p)))[2]? = some (some (dn wo)) := by
        rw [List.getElem?_set_ne (by decide)]
        show (es.set 6 none)[2]? = _
        rw [List.getElem?_set_ne (by decide), h2]
      have e6 : ((wipeE es [6]).set 6 (some (dn p)))[6]? = some (some (dn p)) := List.getElem?_set_self (by show 6 < (es.set 6 none).length; rw [List.length_set]; omega)
      exact tg_name ⟨et_test (ev_bit0 (ev_var e2) (ev_var e6)), fun _ => ev_var e6⟩
  refine x_seq (x_asg (ev_tup ea_nil (by simp)) (x_seq (x_asg ev_int (x_seq (x_asg (EvL.d (next _ [] List.nodup_nil (by simp) rfl rfl rfl rfl rfl)) ?_)))))
  refine x_seq (x_while (n0 := n) (fun m es mu => ∃ o, es = [some (bkD n lots), some (ndsD n (LM.masksOf lots) S), some (dn wo), some (crD o), some (dn (LM.bitsOf o)), some (ldN (nextF n (canTT lots S) wo o)), none] ∧ mu = [] ∧ o.Nodup ∧ (∀ p ∈ o, p < n) ∧ m + o.length = n ∧ grow n (canTT lots S) wo m o = placeBy n (canTT lots S) wo)
    ⟨[], rfl, rfl, List.nodup_nil, by simp, by simp, rfl⟩ ?_)
  rintro m es mu ⟨o, rfl, rfl, nd, hl, hmo, hg⟩
  have mem := fun p => mem_nextF (C := canTT lots S) (wo := wo) nd hl (p := p)
  refine ⟨decide ((0 : Int) < ((nextF n (canTT lots S) wo o).map dn).length), et_test (ev_op (ev_cb (ea_cons (ev_var rfl) ea_nil) rc_lenL) ev_int rd_b0), fun hc => ?_, fun hc => ?_⟩
  · cases e : nextF n (canTT lots S) wo o with
    | nil => rw [e] at hc; cases hc
    | cons p r =>
      have hp := (mem p).mp (by rw [e]; simp)
      have hlt := len_lt nd hl hp.1 hp.2.1
      obtain ⟨m', rfl⟩ : ∃ m', m = m' + 1 := ⟨m - 1, by omega⟩
      unfold grow at hg
      rw [e] at hg
      have nd' := LM.nodup_snoc nd hp.2.1
      have hl' : ∀ q ∈ o ++ [p], q < n := fun q hq => by
        rcases List.mem_append.mp hq with h | h
        · exact hl q h
        · rw [List.mem_singleton] at h; subst h; exact hp.1
      refine x_seq (x_asg (ev_op (ev_var rfl) (ev_tup (ea_cons (ev_op (ev_var rfl) ev_int (rd_ixL (xs := (p :: r).map dn) (d := dn p) (atI_nat (j := 0) rfl))) ea_nil) (by simp)) (rd_catT (by rw [List.length_map]; simp; omega))) ?_)
      refine x_seq (x_asg (ev_or (ev_var rfl) (ev_shl (ev_op (ev_var rfl) ev_int (rd_ixL (xs := (p :: r).map dn) (d := dn p) (atI_nat (j := 0) rfl))) (by omega))) ?_)
      rw [LM.bitsOf_snoc nd hp.2.1]
      refine x_asg (EvL.d (next _ (o ++ [p]) nd' hl' rfl rfl rfl rfl rfl)) ⟨m', Nat.lt_succ_self _, o ++ [p], ?_, rfl, nd', hl', ?_, hg⟩
      · simp
      · rw [List.length_append]; simp; omega
  · have e : nextF n (canTT lots S) wo o = [] := by
      cases e : nextF n (canTT lots S) wo o with
      | nil => rfl
      | cons p r =>
        rw [e] at hc
        have := of_decide_eq_false hc
        simp at this
    have ho : o = placeBy n (canTT lots S) wo := by
      rw [← hg]
      cases m with
      | zero => rfl
      | succ m' => unfold grow; rw [e]
    exact x_ret (ev_var rfl) (by rw [ho])
theorem sc_fitting_in : FnScope ["book", "sightings", "order"] ["book", "sightings"] (defScope Hd.s_fitting_in) := ⟨rfl, rfl, rfl, by decide +kernel, rfl, by decide +kernel, by decide +kernel⟩
def sp_fitting_in (K : PySem.W.Frag) : Sp := spD K (fun x : Nat × LM.Lots × Bool × LM.Sgt => [bkD x.1 x.2.1, sgsD x.2.2.1 x.2.2.2]) (fun x => Fit x.1 x.2.1 x.2.2.2) (fun x => crD (placeBy x.1 (canTT x.2.1 x.2.2.2) 0))
theorem cal_fitting_in (T : Txt K mg) : C8.Cal P w K mg base 5 "fitting_in" (sp_fitting_in K) [] := by
  have c_first_lot := cal_first_lot (P := P) (w := w) (base := base) T
  have c_needs := cal_needs (P := P) (w := w) (base := base) T
  have c_placed_by := cal_placed_by (P := P) (w := w) (base := base) T
  obtain ⟨fd, F⟩ := T.f_fitting_in
  have nd := sc_fitting_in.nd
  refine mkD F sc_fitting_in (fun _ => rfl) (fun us hl _ _ _ _ _ _ => match us, hl with | [_, _], _ => rfl) T.m_fitting_in fun cdv A outer s H E hr => ⟨_,
      (pss_cons (ps_if (pt_cmpR op_notN (C8.pe_c c_first_lot hr (by decide) (by rfl) (pa_cons (pv 0) (pa_cons (pv 1) pa_nil))) pe_non (nomark _)) (pss_one (ps_ret pe_non)) pss_nil)
      (pss_cons (ps_set (i := 2) nd rfl (by first | exact Or.inl rfl | exact Or.inr rfl) (C8.pe_c c_placed_by hr (by decide) (by rfl) (pa_cons (pv 0) (pa_cons (C8.pe_c c_needs hr (by decide) (by rfl) (pa_cons (pv 0) (pa_cons (pv 1) pa_nil))) (pa_cons pe_int pa_nil)))))
      (pss_one (ps_ret (pe_ifExp (pt_cmpR op_eq (pe_callB (kLen K) (by rfl) T.len (by decide +kernel) (pa_cons (pv 2) pa_nil)) (kFld K rfl (pv 0)) (nomark _)) (pv 2) pe_non))))), ?_⟩
  rintro ⟨n, lots, t, S⟩ ok
  simp only at ok
  refine x_seq (x_if (et_test (ev_op (ev_call (n, lots, t, S) (ea_cons (ev_var rfl) (ea_cons (ev_var rfl) ea_nil)) ⟨ok.n12, ok.l60, ok.sg, ok.no⟩) ev_non (rd_notN true rfl rfl))) (fun z => by cases z) fun _ => x_next ?_)
  refine x_seq (x_asg (ev_call (n, lots, S, 0) (ea_cons (ev_var rfl) (ea_cons (ev_call (n, lots, t, S) (ea_cons (ev_var rfl) (ea_cons (ev_var rfl) ea_nil)) ⟨ok.n12, ok.l60, ok.sg⟩) (ea_cons ev_int ea_nil))) ⟨ok.n12, ok.l60, ok.sg.len⟩) ?_)
  refine x_ret (ev_if (et_test (ev_op (ev_cb (ea_cons (ev_var rfl) ea_nil) rc_lenT) (ev_people (ev_var rfl)) rd_eqI)) (fun _ => ev_var rfl) fun z => ?_) rfl
  rw [List.length_map] at z
  have z2 : ¬ ((placeBy n (canTT lots S) 0).length : Int) = (n : Int) := of_decide_eq_false z
  have := ok.full
  omega
theorem sc_check_fitting : FnScope ["book", "sightings"] ["book", "sightings"] (defScope Hd.s_check_fitting) := ⟨rfl, rfl, rfl, by decide +kernel, rfl, by decide +kernel, by decide +kernel⟩
def sp_check_fitting (K : PySem.W.Frag) : Sp := spD K (fun x : Nat × LM.Lots × Bool × LM.Sgt => [bkD x.1 x.2.1, sgsD x.2.2.1 x.2.2.2]) (fun x => Fit x.1 x.2.1 x.2.2.2) (fun x => .non)
theorem cal_check_fitting (T : Txt K mg) : C8.Cal P w K mg base 6 "check_fitting" (sp_check_fitting K) [] := by
  have c_fitting_in := cal_fitting_in (P := P) (w := w) (base := base) T
  obtain ⟨fd, F⟩ := T.f_check_fitting
  have nd := sc_check_fitting.nd
  refine mkD F sc_check_fitting (fun _ => rfl) (fun us hl _ _ _ _ _ _ => match us, hl with | [_, _], _ => rfl) T.m_check_fitting fun cdv A outer s H E hr => ⟨_,
      (pss_one (ps_if (pt_cmpR op_isN (C8.pe_c c_fitting_in hr (by decide) (by rfl) (pa_cons (pv 0) (pa_cons (pv 1) pa_nil))) pe_non (nomark _)) (pss_one ps_never) pss_nil)), ?_⟩
  rintro ⟨n, lots, t, S⟩ ok
  exact x_if (et_test (ev_op (ev_call (n, lots, t, S) (ea_cons (ev_var rfl) (ea_cons (ev_var rfl) ea_nil)) ok) ev_non (rd_isN false rfl rfl))) (fun z => by cases z) fun _ => x_next rfl
theorem sc_behind_all : FnScope ["book", "need", "person", "placed", "other"] ["book", "need", "person"] (defScope Hd.s_behind_all) := ⟨rfl, rfl, rfl, by decide +kernel, rfl, by decide +kernel, by decide +kernel⟩
def sp_behind_all (K : PySem.W.Frag) : Sp := spD K (fun x : Nat × LM.Lots × LM.Sgt × Nat => [bkD x.1 x.2.1, ndsD x.1 (LM.masksOf x.2.1) x.2.2.1, dn x.2.2.2]) (fun x => x.1 ≤ 12 ∧ x.2.1.length ≤ 60 ∧ x.2.2.1.length ≤ 20 ∧ x.2.2.2 ≤ 1000) (fun x => ldN (behind x.1 (canTT x.2.1 x.2.2.1) x.2.2.2))
theorem rd_neN {a b : Nat} : RD K rNe (dn a) (dn b) (.bl (!decide (a = b))) := by
  have := rd_neI (K := K) (i := (a : Int)) (j := (b : Int))
  have e : decide ((a : Int) = b) = decide (a = b) := by by_cases h : a = b <;> simp [h] <;> omega
  rw [e] at this
  exact this
theorem cal_behind_all (T : Txt K mg) : C8.Cal P w K mg base 5 "behind_all" (sp_behind_all K) [] := by
  have c_placed_by := cal_placed_by (P := P) (w := w) (base := base) T
  obtain ⟨fd, F⟩ := T.f_behind_all
  have nd := sc_behind_all.nd
  refine mkD F sc_behind_all (fun _ => rfl) (fun us hl _ _ _ _ _ _ => match us, hl with | [_, _, _], _ => rfl) T.m_behind_all fun cdv A outer s H E hr => ⟨_,
      (pss_cons (ps_set (i := 3) nd rfl (by first | exact Or.inl rfl | exact Or.inr rfl) (C8.pe_c c_placed_by hr (by decide) (by rfl) (pa_cons (pv 0) (pa_cons (pv 1) (pa_cons (pe_op op_shl pe_int (pv 2)) pa_nil)))))
      (pss_one (ps_ret (pe_lc (own := [("other", 4)]) (g := (gName 4)) rfl nd (pi_range1 (by rfl) T.range (pa_cons (kFld K rfl (pv 0)) pa_nil)) (blkOk_by (by show blkC ["book", "need", "person", "placed", "other"] (defScope Hd.s_behind_all) _ _ = true; decide +kernel)) (fun _ _ _ _ _ => (pg_name (i := 4) nd rfl (by first | exact Or.inl rfl | exact Or.inr rfl))) (fun _ _ _ _ _ => (pts_one (PW.pt (pw_and (pt_cmpR (kNotIn K) (pv 4) (pv 3) (by rfl)) (pw_and1 (pt_cmpR op_ne (pv 4) (pv 2) (nomark _))))))) (fun _ _ _ _ _ => (pv 4)))))), ?_⟩
  rintro ⟨n, lots, S, a⟩ ⟨h12, h60, h20, ha⟩
  simp only at h12 h60 h20 ha
  refine x_seq (x_asg (ev_call (n, lots, S, 2 ^ a) (ea_cons (ev_var rfl) (ea_cons (ev_var rfl) (ea_cons (ev_shl (ev_var rfl) ha) ea_nil))) ⟨h12, h60, h20⟩) ?_)
  exact x_ret (EvL.d (el_lc (List.range n) dn (fun b => !decide (b ∈ placeBy n (canTT lots S) (2 ^ a)) && !decide (b = a)) dn (is := [4]) (wk_is (wk_range1 (n := (n : Int)) (ea_cons (ev_people (ev_var rfl)) ea_nil) (by omega) (by omega)) (by rw [Int.toNat_natCast, rng0])) (by simp) (by rw [List.length_range]; omega)
    fun b hb => tg_name ⟨et_and (et_test (ev_op (ev_var rfl) (ev_var rfl) rd_niN)) fun _ => et_test (ev_op (ev_var rfl) (ev_var rfl) rd_neN), fun _ => ev_var rfl⟩)) rfl
theorem sc_surely_ahead : FnScope ["book", "sightings", "need", "person", "other"] ["book", "sightings"] (defScope Hd.s_surely_ahead) := ⟨rfl, rfl, rfl, by decide +kernel, rfl, by decide +kernel, by decide +kernel⟩
def sp_surely_ahead (K : PySem.W.Frag) : Sp := spL K (fun x : Nat × LM.Lots × Bool × LM.Sgt => [bkD x.1 x.2.1, sgsD x.2.2.1 x.2.2.2]) (fun x => Fit x.1 x.2.1 x.2.2.2) (fun x => (pairsOf x.1 (canTT x.2.1 x.2.2.2)).map prD)
theorem cal_surely_ahead (T : Txt K mg) : C8.Cal P w K mg base 7 "surely_ahead" (sp_surely_ahead K) [] := by
  have c_check_sightings := cal_check_sightings (P := P) (w := w) (base := base) T
  have c_check_fitting := cal_check_fitting (P := P) (w := w) (base := base) T
  have c_needs := cal_needs (P := P) (w := w) (base := base) T
  have c_behind_all := cal_behind_all (P := P) (w := w) (base := base) T
  obtain ⟨fd, F⟩ := T.f_surely_ahead
  have nd := sc_surely_ahead.nd
  refine mkL F sc_surely_ahead (fun _ => rfl) (fun us hl _ _ _ _ _ _ => match us, hl with | [_, _], _ => rfl) T.m_surely_ahead fun cdv A outer s H E hr => ⟨_,
      (pss_cons (ps_expr (C8.pe_c c_check_sightings hr (by decide) (by rfl) (pa_cons (pv 0) (pa_cons (pv 1) pa_nil))))
      (pss_cons (ps_expr (C8.pe_c c_check_fitting hr (by decide) (by rfl) (pa_cons (pv 0) (pa_cons (pv 1) pa_nil))))
      (pss_cons (ps_set (i := 2) nd rfl (by first | exact Or.inl rfl | exact Or.inr rfl) (C8.pe_c c_needs hr (by decide) (by rfl) (pa_cons (pv 0) (pa_cons (pv 1) pa_nil))))
      (pss_one (ps_ret (pe_lc2 (own := [("person", 3), ("other", 4)]) (vs1 := [4]) (g := (gName 3)) (g1 := (gName 4)) rfl nd (pi_range1 (by rfl) T.range (pa_cons (kFld K rfl (pv 0)) pa_nil)) (blkOk_by (by show blkC ["book", "sightings", "need", "person", "other"] (defScope Hd.s_surely_ahead) _ _ = true; decide +kernel)) (by decide) (fun _ _ _ _ _ => (pg_name (i := 3) nd rfl (by first | exact Or.inl rfl | exact Or.inr rfl))) (fun _ _ _ _ _ => pts_nil) (fun _ _ _ _ _ => (kList K rfl (C8.pe_c c_behind_all hr (by decide) (by rfl) (pa_cons (pv 0) (pa_cons (pv 2) (pa_cons (pv 3) pa_nil)))))) (fun _ _ _ _ _ => (pg_name (i := 4) nd rfl (by first | exact Or.inl rfl | exact Or.inr rfl))) (fun _ _ _ _ _ => pts_nil) (fun _ _ _ _ _ => (pe_tup (pa_cons (pv 3) (pa_cons (pv 4) pa_nil)))))))))), ?_⟩
  rintro ⟨n, lots, t, S⟩ ok
  simp only at ok
  have h12 := ok.n12
  refine x_seq (x_drop (ev_call (n, lots, t, S) (ea_cons (ev_var rfl) (ea_cons (ev_var rfl) ea_nil)) ⟨ok.n12, ok.sg⟩) (x_seq (x_drop (ev_call (n, lots, t, S) (ea_cons (ev_var rfl) (ea_cons (ev_var rfl) ea_nil)) ok) (x_seq (x_asg (ev_call (n, lots, t, S) (ea_cons (ev_var rfl) (ea_cons (ev_var rfl) ea_nil)) ⟨ok.n12, ok.l60, ok.sg⟩) ?_)))))
  refine x_retL (el_lc2 (List.range n) dn (fun a => behind n (canTT lots S) a) dn (fun a b => prD (a, b)) (is := [3]) (is1 := [4]) (wk_is (wk_range1 (n := (n : Int)) (ea_cons (ev_people (ev_var rfl)) ea_nil) (by omega) (by omega)) (by rw [Int.toNat_natCast, rng0])) (by simp) (by simp) (by rw [List.length_range]; omega) (fun a ha => ?_)
    fun a ha => tg_name ⟨wk_list (ev_call (n, lots, S, a) (ea_cons (ev_var rfl) (ea_cons (ev_var rfl) (ea_cons (ev_var rfl) ea_nil))) ⟨ok.n12, ok.l60, ok.sg.len, ?_⟩), fun b hb => tg_name (ev_tup (ea_cons (ev_var rfl) (ea_cons (ev_var rfl) ea_nil)) (by simp))⟩) ?_
  · unfold behind
    refine Nat.le_trans (List.length_filter_le _ _) ?_
    rw [List.length_range]; omega
  · have := List.mem_range.mp ha
    show a ≤ 1000
    omega
  · unfold pairsOf
    rw [List.map_flatMap]
    simp only [List.map_map]
    rfl
end
end DL
end
section
set_option Elab.async false
set_option linter.all false
set_option maxRecDepth 100000
set_option maxHeartbeats 0
/-! D5: who is let in -/
namespace DL
open PySem L2
/-- one more let in, or not -/
def insStep (masks : List Nat) (bits i p : Nat) : Nat := if (!bits.testBit p || decide ((0 : Int) < ((LM.othersWithin masks i p).length : Int))) = true then i else i ||| 2 ^ p
def insF (masks : List Nat) (bits : Nat) (o : List Nat) : Nat := o.foldl (insStep masks bits) 0
theorem insF_snoc (masks : List Nat) (bits : Nat) (o : List Nat) (p : Nat) : insF masks bits (o ++ [p]) = insStep masks bits (insF masks bits o) p := by
  unfold insF; rw [List.foldl_append]; rfl
theorem nd_len {α : Type} [BEq α] [LawfulBEq α] : ∀ (l L : List α), l.Nodup → (∀ x ∈ l, x ∈ L) → l.length ≤ L.length
  | [], L, _, _ => Nat.zero_le _
  | x :: l, L, h, hs => by
    obtain ⟨h1, h2⟩ := List.nodup_cons.mp h
    have hx := hs x (by simp)
    have := nd_len l (L.erase x) h2 fun y hy => (List.mem_erase_of_ne (fun e => h1 (by rw [← e]; exact hy))).mpr (hs y (by simp [hy]))
    rw [List.length_erase_of_mem hx] at this
    have := List.length_pos_of_mem hx
    rw [List.length_cons]; omega
section
variable (n : Nat) (C : LM.CanT) (masks : List Nat) (bits : Nat)
/-- what stands in the states behind t turns -/
def Rc (t : Nat) (x : Nat × Nat) : Prop := ∃ o : List Nat, o.Nodup ∧ (∀ p ∈ o, p < n) ∧ LM.Valid C o ∧ o.length = t ∧ x = (LM.bitsOf o, insF masks bits o)
def outs (x : Nat × Nat) : List (Nat × Nat) := (canF n C x.1).map fun p => (x.1 ||| 2 ^ p, insStep masks bits x.2 p)
theorem mem_canF {m p : Nat} (hm : m < 2 ^ n) : p ∈ canF n C m ↔ (p < n ∧ m.testBit p = false) ∧ C m p = true := by
  unfold canF
  rw [List.mem_filter, mem_free hm]
theorem rc_step {t : Nat} {ks : List (Nat × Nat)} (h : ∀ x, x ∈ ks ↔ Rc n C masks bits t x) (y : Nat × Nat) : y ∈ ks.flatMap (outs n C masks bits) ↔ Rc n C masks bits (t + 1) y := by
  rw [List.mem_flatMap]
  constructor
  · rintro ⟨x, hx, hy⟩
    obtain ⟨o, nd, hl, hv, ht, rfl⟩ := (h x).mp hx
    unfold outs at hy
    obtain ⟨p, hp, rfl⟩ := List.mem_map.mp hy
    obtain ⟨⟨h1, h2⟩, h3⟩ := (mem_canF n C (bits_lt nd hl)).mp hp
    rw [LM.tb_bitsOf nd] at h2
    have hpo : p ∉ o := of_decide_eq_false h2
    refine ⟨o ++ [p], LM.nodup_snoc nd hpo, fun q hq => ?_, hv.snoc h3, by simp [ht], by rw [LM.bitsOf_snoc nd hpo, insF_snoc]⟩
    rcases List.mem_append.mp hq with e | e
    · exact hl q e
    · rw [List.mem_singleton] at e; subst e; exact h1
  · rintro ⟨o, nd, hl, hv, ht, rfl⟩
    rcases List.eq_nil_or_concat o with e | ⟨o', p, e⟩
    · subst e; cases ht
    · have e2 : o = o' ++ [p] := by rw [e, List.concat_eq_append]
      subst e2
      have nd' := (List.nodup_append.mp nd).1
      have hpo : p ∉ o' := fun z => (List.nodup_append.mp nd).2.2 p z p (by simp) rfl
      have hl' : ∀ q ∈ o', q < n := fun q hq => hl q (by simp [hq])
      refine ⟨(LM.bitsOf o', insF masks bits o'), (h _).mpr ⟨o', nd', hl', hv.pre, by simpa using ht, rfl⟩, ?_⟩
      unfold outs
      refine List.mem_map.mpr ⟨p, (mem_canF n C (bits_lt nd' hl')).mpr ⟨⟨hl p (by simp), ?_⟩, hv o' p [] (by simp)⟩, by rw [← LM.bitsOf_snoc nd' hpo, ← insF_snoc]⟩
      rw [LM.tb_bitsOf nd']
      exact decide_eq_false hpo
theorem rc_len {t : Nat} {ks : List (Nat × Nat)} {vals : List Nat} (hv : ∀ o, insF masks bits o ∈ vals) (nd : ks.Nodup) (h : ∀ x ∈ ks, Rc n C masks bits t x) : ks.length ≤ 2 ^ n * vals.length := by
  have := nd_len ks ((List.range (2 ^ n)).flatMap fun a => vals.map fun b => (a, b)) nd fun x hx => by
    obtain ⟨o, nd, hl, _, _, rfl⟩ := h x hx
    rw [List.mem_flatMap]
    exact ⟨_, List.mem_range.mpr (bits_lt nd hl), List.mem_map.mpr ⟨_, hv o, rfl⟩⟩
  refine Nat.le_trans this (Nat.le_of_eq ?_)
  rw [List.length_flatMap]
  simp only [List.length_map]
  rw [List.map_const', List.sum_replicate_nat, List.length_range]
end
/-- the states as a dict -/
def k2 (x : Nat × Nat) : List Key := [.inl (x.1 : Int), .inl (x.2 : Int)]
def kvsOf (ks : List (Nat × Nat)) : List (List Key × V) := ks.map fun x => (k2 x, V.bl true)
theorem k2_inj {x y : Nat × Nat} (h : k2 x = k2 y) : x = y := by
  unfold k2 at h
  simp only [List.cons.injEq, Sum.inl.injEq, and_true] at h
  apply Prod.ext <;> omega
def insK (ks : List (Nat × Nat)) (x : Nat × Nat) : List (Nat × Nat) := if x ∈ ks then ks else ks ++ [x]
theorem putK_of (ks : List (Nat × Nat)) (x : Nat × Nat) : putK (kvsOf ks) (k2 x) (V.bl true) = kvsOf (insK ks x) := by
  unfold putK insK
  have e : ((kvsOf ks).any fun kv => decide (kv.1 = k2 x)) = decide (x ∈ ks) := by
    unfold kvsOf
    rw [List.any_map]
    by_cases h : x ∈ ks
    · rw [decide_eq_true h, List.any_eq_true]
      exact ⟨x, h, by simp⟩
    · rw [decide_eq_false h, List.any_eq_false]
      intro y hy
      have : k2 y ≠ k2 x := fun z => h (by rw [← k2_inj z]; exact hy)
      simpa using this
  rw [e]
  by_cases h : x ∈ ks
  · rw [if_pos (by simpa using h), if_pos h]
    unfold kvsOf
    rw [List.map_map]
    apply List.map_congr_left
    intro y hy
    show (if k2 y = k2 x then (k2 y, V.bl true) else (k2 y, V.bl true)) = _
    split <;> rfl
  · rw [if_neg (by simpa using h), if_neg h]
    unfold kvsOf
    simp
theorem insK_nd {ks : List (Nat × Nat)} {x : Nat × Nat} (h : ks.Nodup) : (insK ks x).Nodup := by
  unfold insK
  split
  · exact h
  · rename_i hx
    exact List.nodup_append.mpr ⟨h, by simp, fun a ha b hb e => hx (by rw [List.mem_singleton] at hb; rw [← hb, ← e]; exact ha)⟩
theorem mem_insK {ks : List (Nat × Nat)} {x y : Nat × Nat} : y ∈ insK ks x ↔ y ∈ ks ∨ y = x := by
  unfold insK
  split
  · rename_i h
    exact ⟨.inl, fun z => z.elim id fun e => by rw [e]; exact h⟩
  · simp
def kv1 (fs : List Nat) : List (Key × V) := fs.map fun (f : Nat) => ((.inl (f : Int) : Key), V.bl true)
def insN (fs : List Nat) (x : Nat) : List Nat := if x ∈ fs then fs else fs ++ [x]
theorem putK_of1 (fs : List Nat) (x : Nat) : putK (kv1 fs) (.inl (x : Int)) (V.bl true) = kv1 (insN fs x) := by
  unfold putK insN
  have e : ((kv1 fs).any fun kv => decide (kv.1 = .inl (x : Int))) = decide (x ∈ fs) := by
    unfold kv1
    rw [List.any_map]
    by_cases h : x ∈ fs
    · rw [decide_eq_true h, List.any_eq_true]
      exact ⟨x, h, by simp⟩
    · rw [decide_eq_false h, List.any_eq_false]
      intro y hy
      have : y ≠ x := fun z => h (by rw [← z]; exact hy)
      have : ¬ ((y : Int) = (x : Int)) := by omega
      simpa using this
  rw [e]
  by_cases h : x ∈ fs
  · rw [if_pos (by simpa using h), if_pos h]
    unfold kv1
    rw [List.map_map]
    apply List.map_congr_left
    intro y hy
    show (if (Sum.inl (y : Int) : Key) = Sum.inl (x : Int) then ((Sum.inl (y : Int) : Key), V.bl true) else ((Sum.inl (y : Int) : Key), V.bl true)) = _
    split <;> rfl
  · rw [if_neg (by simpa using h), if_neg h]
    unfold kv1
    simp
theorem mem_insN {fs : List Nat} {x y : Nat} : y ∈ insN fs x ↔ y ∈ fs ∨ y = x := by
  unfold insN
  split
  · rename_i h
    exact ⟨.inl, fun z => z.elim id fun e => by rw [e]; exact h⟩
  · simp
theorem insN_len (fs : List Nat) (x : Nat) : (insN fs x).length ≤ fs.length + 1 := by
  unfold insN
  split <;> simp
section
variable {P : Program} {w : World} {K : PySem.W.Frag} {mg : Str → Option Value} {base : Heap}
theorem sc_with_next : FnScope ["book", "bits", "inside", "person"] ["book", "bits", "inside", "person"] (defScope Hd.s_with_next) := ⟨rfl, rfl, rfl, by decide +kernel, rfl, by decide +kernel, by decide +kernel⟩
def sp_with_next (K : PySem.W.Frag) : Sp := spD K (fun x : Nat × LM.Lots × Nat × Nat × Nat => [bkD x.1 x.2.1, dn x.2.2.1, dn x.2.2.2.1, dn x.2.2.2.2]) (fun x => x.2.1.length ≤ 1000 ∧ x.2.2.2.2 ≤ 1000) (fun x => dn (insStep (LM.masksOf x.2.1) x.2.2.1 x.2.2.2.1 x.2.2.2.2))
theorem cal_with_next (T : Txt K mg) : C8.Cal P w K mg base 3 "with_next" (sp_with_next K) [] := by
  have c_others_within := cal_others_within (P := P) (w := w) (base := base) T
  obtain ⟨fd, F⟩ := T.f_with_next
  have nd := sc_with_next.nd
  refine mkD F sc_with_next (fun _ => rfl) (fun us hl _ _ _ _ _ _ => match us, hl with | [_, _, _, _], _ => rfl) T.m_with_next fun cdv A outer s H E hr => ⟨_,
      (pss_cons (ps_if (PW.pt (pw_or (pt_cmpR op_eq (pe_op op_and (pe_op op_shr (pv 1) (pv 3)) pe_int) pe_int (nomark _)) (pw_or1 (pt_cmpR op_gt (pe_callB (kLen K) (by rfl) T.len (by decide +kernel) (pa_cons (C8.pe_c c_others_within hr (by decide) (by rfl) (pa_cons (pv 0) (pa_cons (pv 2) (pa_cons (pv 3) pa_nil)))) pa_nil)) pe_int (nomark _))))) (pss_one (ps_ret (pv 2))) pss_nil)
      (pss_one (ps_ret (pe_op op_or (pv 2) (pe_op op_shl pe_int (pv 3)))))), ?_⟩
  rintro ⟨n, lots, bits, i, p⟩ ⟨hl, hp⟩
  simp only at hl hp
  refine x_seq (x_if (et_or (et_test (ev_bit0 (ev_var rfl) (ev_var rfl))) fun _ => et_test (ev_op (ev_cb (ea_cons (ev_call (n, lots, i, p) (ea_cons (ev_var rfl) (ea_cons (ev_var rfl) (ea_cons (ev_var rfl) ea_nil))) ⟨hl, hp⟩) ea_nil) rc_lenL) ev_int rd_b0)) (fun hb => ?_) fun hb => x_next ?_)
  · refine x_ret (ev_var rfl) ?_
    rw [List.length_map] at hb
    show dn i = dn (insStep (LM.masksOf lots) bits i p)
    unfold insStep
    rw [if_pos hb]
  · refine x_ret (ev_or (ev_var rfl) (ev_shl (ev_var rfl) hp)) ?_
    rw [List.length_map] at hb
    show _ = dn (insStep (LM.masksOf lots) bits i p)
    unfold insStep
    rw [if_neg (by intro z; exact absurd (z.symm.trans hb) (by simp))]
theorem sc_word_for : FnScope ["found", "person", "flags", "inside"] ["found", "person"] (defScope Hd.s_word_for) := ⟨rfl, rfl, rfl, by decide +kernel, rfl, by decide +kernel, by decide +kernel⟩
def wordOf (found : List Nat) (p : Nat) : Str := if found.all (fun i => i.testBit p) = true then "in" else if found.any (fun i => i.testBit p) = true then "open" else "out"
def sp_word_for (K : PySem.W.Frag) : Sp := spD K (fun x : List Nat × Nat => [ldN x.1, dn x.2]) (fun x => x.1.length ≤ 100000) (fun x => .str (wordOf x.1 x.2))
theorem cal_word_for (T : Txt K mg) : C8.Cal P w K mg base 1 "word_for" (sp_word_for K) [] := by
  obtain ⟨fd, F⟩ := T.f_word_for
  have nd := sc_word_for.nd
  refine mkD F sc_word_for (fun _ => rfl) (fun us hl _ _ _ _ _ _ => match us, hl with | [_, _], _ => rfl) T.m_word_for fun cdv A outer s H E hr => ⟨_,
      (pss_cons (ps_setLc (i := 2) (own := [("inside", 3)]) (g := (gName 3)) rfl nd rfl rfl (sw_true rfl rfl rfl (by decide +kernel)) (kList K rfl (pv 0)) (blkOk_by (by show blkC ["found", "person", "flags", "inside"] (defScope Hd.s_word_for) _ _ = true; decide +kernel)) (fun _ _ _ _ _ => (pg_name (i := 3) nd rfl (by first | exact Or.inl rfl | exact Or.inr rfl))) (fun _ _ _ _ _ => pts_nil) (fun _ _ _ _ _ => (pe_cmpR op_eq (pe_op op_and (pe_op op_shr (pv 3) (pv 1)) pe_int) pe_int (nomark _))))
      (pss_cons (ps_if (pt_val (pe_callB (kAll K) (by rfl) T.all (by decide +kernel) (pa_cons (pv 2) pa_nil))) (pss_one (ps_ret pe_str)) pss_nil)
      (pss_one (ps_ret (pe_ifExp (pt_val (pe_callB (kAny K) (by rfl) T.any (by decide +kernel) (pa_cons (pv 2) pa_nil))) pe_str pe_str))))), ?_⟩
  rintro ⟨found, p⟩ hl
  simp only at hl
  refine x_seq (x_asg (EvL.d (el_lc found dn (fun _ => true) (fun i => .bl (i.testBit p)) (is := [3]) (wk_list (ev_var rfl)) (by simp) hl fun i _ => tg_name ⟨et_yes, fun _ => ev_bit (ev_var rfl) (ev_var rfl)⟩)) ?_)
  rw [filter_yes]
  refine x_seq (x_if (et_test (ev_cb (ea_cons (ev_var rfl) ea_nil) (rc_allF _ _))) (fun hb => x_ret ev_str ?_) fun hb => x_next ?_)
  · show _ = Dt.str (wordOf found p)
    unfold wordOf
    rw [if_pos hb]
  · refine x_ret (ev_if (d := Dt.str (wordOf found p)) (et_test (ev_cb (ea_cons (ev_var rfl) ea_nil) (rc_anyF _ _))) (fun hc => ev_is ev_str ?_) fun hc => ev_is ev_str ?_) rfl
    · unfold wordOf
      rw [if_neg (by rw [hb]; simp), if_pos hc]
    · unfold wordOf
      rw [if_neg (by rw [hb]; simp), if_neg (by rw [hc]; simp)]
end
end DL
end
section
set_option Elab.async false
set_option linter.all false
set_option maxRecDepth 100000
set_option maxHeartbeats 0
/-! D6: all_let_in, verdicts -/
namespace DL
open PySem L2
section
variable {P : Program} {w : World} {K : PySem.W.Frag} {mg : Str → Option Value} {base : Heap}
theorem Ok.upd {G0 H0 G H : Hp} {d : Addr} {o : HO} (k : Ok G0 H0 G H) (hg : G d = none) (h0 : H0 d = none) : Ok G0 H0 G (L2.upd H d o) := ⟨k.gg, fun a u z => by
  rw [upd_ne (fun e => by rw [e, hg] at z; cases z)]; exact k.gh _ _ z, fun a u z => by
  rw [upd_ne (ne_of_none z h0)]; exact k.hh _ _ z, k.fr⟩
theorem Ok.stayN {G H G' H' : Hp} {d : Addr} {o : HO} (k : Ok G H G' H') (hg : G d = none) (hd : H d = some o) : G' d = none ∧ H' d = some o := by
  refine ⟨?_, k.hh _ _ hd⟩
  cases z : G' d with
  | none => rfl
  | some u => have := k.fr d u z hg; rw [hd] at this; cases this
theorem raw_for {wi : TI} {g : TG} {tb : TS} {es : Es} {xs : List Dt} {D : Ends} {σ : L2.St} {G H : Hp} (C : Nat → Hp → L2.St → Hp → Prop) (hw : WkD K wi es xs) (he : SlE K G σ es) (hs : Same G H) (h0 : ∀ G1 H1, Ok G H G1 H1 → C 0 G1 σ H1) (hC : ∀ i G' σ' H', C i G' σ' H' → Same G' H')
    (ht : ∀ i x, xs[i]? = some x → ∀ G' σ' H', C i G' σ' H' → ∀ G'' H'' v, Ok G' H' G'' H'' → Rp K G'' v x → ∀ D' : Ends, (∀ σ3 H3, (∃ G3, Same G'' G3 ∧ C (i + 1) G3 σ3 H3) → D'.nx σ3 H3) → g v σ' H'' fun σ2 H2 => tb D' σ2 H2)
    (hd : ∀ G' σ' H', C xs.length G' σ' H' → D.nx σ' H') : tFor wi g tb D σ H := by
  refine hw σ G H he hs _ fun J G1 H1 k1 wj => ?_
  refine ⟨fun i m σ' H' => m = xs.length - i ∧ i ≤ xs.length ∧ ∃ G', Same G1 G' ∧ C i G' σ' H', ⟨_, rfl, Nat.zero_le _, G1, Same.refl _, h0 G1 H1 k1⟩, ?_⟩
  rintro i m σ' H' ⟨rfl, hile, G', g1, c⟩
  have gh := hC _ _ _ _ c
  have w := wj H' (g1.trans gh)
  by_cases hlt : i < xs.length
  · refine .inr ⟨w.1 i hlt, fun σ3 H3 => i + 1 ≤ xs.length ∧ ∃ G3, Same G1 G3 ∧ C (i + 1) G3 σ3 H3, fun σ3 H3 z => ⟨xs.length - (i + 1), by omega, rfl, z.1, z.2⟩, fun v H'' hy => ?_⟩
    have hxi : xs[i]? = some xs[i] := List.getElem?_eq_getElem hlt
    obtain ⟨G'', k2, rv⟩ := w.2.2 i v H'' xs[i] hxi hy G' g1 gh
    exact ht i xs[i] hxi G' σ' H' c G'' H'' v k2 rv _ fun σ3 H3 ⟨G3, s3, c3⟩ => ⟨hlt, G3, (g1.trans k2.gg).trans s3, c3⟩
  · have e : i = xs.length := by omega
    subst e
    exact .inl ⟨w.2.1, hd G' σ' H' c⟩
theorem sc_all_let_in : FnScope ["book", "need", "bits", "states", "turn", "later", "placed", "inside", "person"] ["book", "need", "bits"] (defScope Hd.s_all_let_in) := ⟨rfl, rfl, rfl, by decide +kernel, rfl, by decide +kernel, by decide +kernel⟩
def sp_all_let_in (K : PySem.W.Frag) : Sp := spM K (fun _ => Mo.pure) (fun x : Nat × LM.Lots × LM.Sgt × Nat => [bkD x.1 x.2.1, ndsD x.1 (LM.masksOf x.2.1) x.2.2.1, dn x.2.2.2])
  (fun x => x.1 ≤ 12 ∧ x.2.1.length ≤ 60 ∧ x.2.2.1.length ≤ 20 ∧ ∃ vals : List Nat, vals.length ≤ 100 ∧ ∀ o, insF (LM.masksOf x.2.1) x.2.2.2 o ∈ vals)
  (fun x d => ∃ found : List Nat, d = ldN found ∧ found.length ≤ 100000 ∧ ∀ i, i ∈ found ↔ ∃ t, Rc x.1 (canTT x.2.1 x.2.2.1) (LM.masksOf x.2.1) x.2.2.2 x.1 (t, i))
section
variable (n : Nat) (lots : LM.Lots) (S : LM.Sgt) (bits : Nat)
abbrev es9 (o4 o6 o7 o8 : Option Dt) : Es := [some (bkD n lots), some (ndsD n (LM.masksOf lots) S), some (dn bits), none, o4, none, o6, o7, o8]
/-- the slots and heap between two turns: the states stand at d -/
structure StA (K : PySem.W.Frag) (G0 H0 : Hp) (d : Addr) (ks : List (Nat × Nat)) (G : Hp) (σ : L2.St) (H : Hp) : Prop where
  ok : Ok G0 H0 G H
  sl : SlE K G σ (es9 n lots S bits none none none none)
  s3 : σ[3]? = some (some (.ref d))
  hd : H d = some (.dT (kvsOf ks))
  gd : G d = none
  h0 : H0 d = none
  nd : ks.Nodup
/-- .. within a turn: the states are locked, the later ones stand at e -/
structure StB (K : PySem.W.Frag) (G0 H0 : Hp) (od : Obj) (d e : Addr) (ks lks : List (Nat × Nat)) (G : Hp) (σ : L2.St) (H : Hp) : Prop where
  ok : Ok G0 H0 G H
  sl : SlE K G σ (es9 n lots S bits none none none none)
  s3 : σ[3]? = some (some (.ref d))
  s5 : σ[5]? = some (some (.ref e))
  hd : H d = some (.frz od (.dT (kvsOf ks)))
  gd : G d = none
  h0 : H0 d = none
  he : H e = some (.dT (kvsOf lks))
  ge : G e = none
  h0e : H0 e = none
  de : d ≠ e
  nd : lks.Nodup
end
theorem SlE.weak {G : Hp} {σ : L2.St} {es es' : Es} (h : SlE K G σ es) (hl : es'.length = es.length) (hs : ∀ (i : Nat) d, es'[i]? = some (some d) → es[i]? = some (some d)) : SlE K G σ es' := ⟨h.len.trans hl.symm, fun i d q => h.at_ i d (hs i d q)⟩
theorem es9_weak {n : Nat} {lots : LM.Lots} {S : LM.Sgt} {bits : Nat} {G : Hp} {σ : L2.St} {es : Es} (h : SlE K G σ es) (hl : es.length = 9) (h0 : es[0]? = some (some (bkD n lots))) (h1 : es[1]? = some (some (ndsD n (LM.masksOf lots) S))) (h2 : es[2]? = some (some (dn bits))) : SlE K G σ (es9 n lots S bits none none none none) := by
  refine h.weak (by rw [hl]; rfl) fun i d q => ?_
  match i, q with
  | 0, q => cases q; exact h0
  | 1, q => cases q; exact h1
  | 2, q => cases q; exact h2
  | 3, q => cases q
  | 4, q => cases q
  | 5, q => cases q
  | 6, q => cases q
  | 7, q => cases q
  | 8, q => cases q
  | i + 9, q => simp at q
section
variable {n : Nat} {lots : LM.Lots} {S : LM.Sgt} {bits : Nat} {G0 H0 G H G' H' : Hp} {od : Obj} {d e : Addr} {ks lks : List (Nat × Nat)} {σ : L2.St} {v : V}
theorem StA.step (a : StA n lots S bits K G0 H0 d ks G σ H) (k : Ok G H G' H') : StA n lots S bits K G0 H0 d ks G' σ H' := by
  obtain ⟨h1, h2⟩ := k.stayN a.gd a.hd
  exact ⟨a.ok.trans k, a.sl.mono k.gg, a.s3, h2, h1, a.h0, a.nd⟩
theorem StA.set4 (a : StA n lots S bits K G0 H0 d ks G σ H) : StA n lots S bits K G0 H0 d ks G (σ.set 4 (some v)) H := ⟨a.ok, es9_weak (a.sl.forget 4 _) rfl rfl rfl rfl, by rw [List.getElem?_set_ne (by decide)]; exact a.s3, a.hd, a.gd, a.h0, a.nd⟩
theorem StB.step (b : StB n lots S bits K G0 H0 od d e ks lks G σ H) (k : Ok G H G' H') : StB n lots S bits K G0 H0 od d e ks lks G' σ H' := by
  obtain ⟨h1, h2⟩ := k.stayN b.gd b.hd
  obtain ⟨h3, h4⟩ := k.stayN b.ge b.he
  exact ⟨b.ok.trans k, b.sl.mono k.gg, b.s3, b.s5, h2, h1, b.h0, h4, h3, b.h0e, b.de, b.nd⟩
theorem StB.set6 (b : StB n lots S bits K G0 H0 od d e ks lks G σ H) : StB n lots S bits K G0 H0 od d e ks lks G (σ.set 6 (some v)) H := ⟨b.ok, es9_weak (b.sl.forget 6 _) rfl rfl rfl rfl, by rw [List.getElem?_set_ne (by decide)]; exact b.s3, by rw [List.getElem?_set_ne (by decide)]; exact b.s5, b.hd, b.gd, b.h0, b.he, b.ge, b.h0e, b.de, b.nd⟩
theorem StB.set7 (b : StB n lots S bits K G0 H0 od d e ks lks G σ H) : StB n lots S bits K G0 H0 od d e ks lks G (σ.set 7 (some v)) H := ⟨b.ok, es9_weak (b.sl.forget 7 _) rfl rfl rfl rfl, by rw [List.getElem?_set_ne (by decide)]; exact b.s3, by rw [List.getElem?_set_ne (by decide)]; exact b.s5, b.hd, b.gd, b.h0, b.he, b.ge, b.h0e, b.de, b.nd⟩
theorem StB.set8 (b : StB n lots S bits K G0 H0 od d e ks lks G σ H) : StB n lots S bits K G0 H0 od d e ks lks G (σ.set 8 (some v)) H := ⟨b.ok, es9_weak (b.sl.forget 8 _) rfl rfl rfl rfl, by rw [List.getElem?_set_ne (by decide)]; exact b.s3, by rw [List.getElem?_set_ne (by decide)]; exact b.s5, b.hd, b.gd, b.h0, b.he, b.ge, b.h0e, b.de, b.nd⟩
end
theorem kvsOf_at {ks : List (Nat × Nat)} {i : Nat} {k : List Key} {v : V} (h : (kvsOf ks)[i]? = some (k, v)) : ∃ x, ks[i]? = some x ∧ k = k2 x := by
  obtain ⟨x, hx, e⟩ := map_at (f := fun x : Nat × Nat => (k2 x, V.bl true)) h
  cases e
  exact ⟨x, hx, rfl⟩
theorem k2_kV (x : Nat × Nat) : (k2 x).map kV = [V.int (x.1 : Int), .int (x.2 : Int)] := rfl
theorem insN_nd {fs : List Nat} {x : Nat} (h : fs.Nodup) : (insN fs x).Nodup := by
  unfold insN
  split
  · exact h
  · rename_i hx
    exact List.nodup_append.mpr ⟨h, by simp, fun a ha b hb e => hx (by rw [List.mem_singleton] at hb; rw [← hb, ← e]; exact ha)⟩
theorem rc_zero {n : Nat} {C : LM.CanT} {masks : List Nat} {bits : Nat} (x : Nat × Nat) : x ∈ [((0 : Nat), (0 : Nat))] ↔ Rc n C masks bits 0 x := by
  rw [List.mem_singleton]
  constructor
  · intro e
    subst e
    exact ⟨[], List.nodup_nil, by simp, LM.Valid.nil C, rfl, rfl⟩
  · rintro ⟨o, _, _, _, h, rfl⟩
    have : o = [] := List.length_eq_zero_iff.mp h
    subst this
    rfl
theorem cal_all_let_in (T : Txt K mg) : C8.Cal P w K mg base 4 "all_let_in" (sp_all_let_in K) [] := by
  have c_can_follow := cal_can_follow (P := P) (w := w) (base := base) T
  have c_with_next := cal_with_next (P := P) (w := w) (base := base) T
  obtain ⟨fd, F⟩ := T.f_all_let_in
  have nd := sc_all_let_in.nd
  refine ⟨_, fd, ["book", "need", "bits"], [], F.ok sc_all_let_in (fun vs H Q E h => ?_) (fun cdv A outer s H vs Q E hr h => ?_), T.m_all_let_in, F.kp, F.bindsN fun kV doc pm an cdv ct us hu => (match us, hu with | [_, _, _], _ => rfl), .nil⟩
  · obtain ⟨y, G, _, r, _⟩ := h
    rw [r.length]; rfl
  obtain ⟨⟨n, lots, S, bits⟩, G, hs, r, mo, ⟨h12, h60, h20, vals, hvl, hvals⟩, q⟩ := h
  simp only at h12 h60 h20 hvals q
  refine ⟨_, PSs.nox
(pss_cons (ps_set (i := 3) nd rfl (by first | exact Or.inl rfl | exact Or.inr rfl) (pe_disp1 hr.units0 (pe_tup (pa_cons pe_int (pa_cons pe_int pa_nil))) pe_bl))
      (pss_cons (ps_for PassesOwn.never rfl (pi_range1 (by rfl) T.range (pa_cons (kFld K rfl (pv 0)) pa_nil)) (pg_name (i := 4) nd rfl (by first | exact Or.inl rfl | exact Or.inr rfl)) (pss_cons (ps_set (i := 5) nd rfl (by first | exact Or.inl rfl | exact Or.inr rfl) pe_dnewT)
      (pss_cons (ps_lock (ps_for PassesOwn.never rfl (pi_keys (pv 3)) (pg_tup rfl (pgs_cons (pg_name (i := 6) nd rfl (by first | exact Or.inl rfl | exact Or.inr rfl)) (pgs_cons (pg_name (i := 7) nd rfl (by first | exact Or.inl rfl | exact Or.inr rfl)) pgs_nil))) (pss_one (ps_for PassesOwn.never rfl (kList K rfl (C8.pe_c c_can_follow hr (by decide) (by rfl) (pa_cons (pv 0) (pa_cons (pv 1) (pa_cons (pv 6) pa_nil))))) (pg_name (i := 8) nd rfl (by first | exact Or.inl rfl | exact Or.inr rfl)) (pss_one (ps_dput (Nat.lt_of_le_of_lt (Nat.add_le_add_left (by decide : 1 ≤ 64) _) hr.units) (pv 5) (pe_tup (pa_cons (pe_op op_or (pv 6) (pe_op op_shl pe_int (pv 8))) (pa_cons (C8.pe_c c_with_next hr (by decide) (by rfl) (pa_cons (pv 0) (pa_cons (pv 2) (pa_cons (pv 7) (pa_cons (pv 8) pa_nil))))) pa_nil))) pe_bl rfl))))))
      (pss_one (ps_set (i := 3) nd rfl (by first | exact Or.inl rfl | exact Or.inr rfl) (pv 5))))))
      (pss_one (ps_ret (pe_callB (kSortI K) (by rfl) T.sorted (by decide +kernel) (pa_cons (pe_callTy (call_list_dK rfl) (by rfl) T.list (by decide +kernel) (pa_cons (pe_lock (pe_dc (own := [("placed", 6), ("inside", 7)]) (g := (gTup K 2 (gCons (gName 6) (gCons (gName 7) gNil)))) rfl nd (pi_keys (pv 3)) (blkOk_by (by show blkC ["book", "need", "bits", "states", "turn", "later", "placed", "inside", "person"] (defScope Hd.s_all_let_in) _ _ = true; decide +kernel)) (fun _ _ _ _ _ => (pg_tup rfl (pgs_cons (pg_name (i := 6) nd rfl (by first | exact Or.inl rfl | exact Or.inr rfl)) (pgs_cons (pg_name (i := 7) nd rfl (by first | exact Or.inl rfl | exact Or.inr rfl)) pgs_nil)))) (fun _ _ _ _ _ => pts_nil) (fun _ _ _ _ _ => (pv 7)) (fun _ _ _ _ _ => pe_bl))) pa_nil)) pa_nil))))))
    , ?_⟩
  have se : SlE K G (start ["book", "need", "bits", "states", "turn", "later", "placed", "inside", "person"] vs) (es9 n lots S bits none none none none) := SlE.start (N := ["book", "need", "bits", "states", "turn", "later", "placed", "inside", "person"]) (ds := [bkD n lots, ndsD n (LM.masksOf lots) S, dn bits]) r
  generalize start ["book", "need", "bits", "states", "turn", "later", "placed", "inside", "person"] vs = σ at se ⊢
  have l9 := se.len
  have big : ∀ (t : Nat) (ks : List (Nat × Nat)), ks.Nodup → (∀ x ∈ ks, Rc n (canTT lots S) (LM.masksOf lots) bits t x) → ks.length ≤ 409600 := fun t ks nd h => by
    have h1 := rc_len n (canTT lots S) (LM.masksOf lots) bits hvals nd h
    have h2 : 2 ^ n ≤ 2 ^ 12 := Nat.pow_le_pow_right (by decide) h12
    have h3 : 2 ^ n * vals.length ≤ 2 ^ 12 * 100 := Nat.mul_le_mul h2 hvl
    omega
  -- the first state
  intro d hdn
  refine ⟨small (by decide : 2 ≤ 100000), fun b hb => ⟨?_, b, k2 (0, 0), rfl, upd_same, ?_⟩⟩
  · rw [upd_ne (fun e => by rw [← e, upd_same] at hb; cases hb)]; exact upd_same
  have k0 : Ok G H G (L2.upd (L2.upd (L2.upd H d (.dT [])) b (.tup [V.int 0, V.int 0])) d (.dT [(k2 (0, 0), V.bl true)])) := by
    have hbH : H b = none := none_of (same_upd hdn) hb
    exact (((Ok.refl hs).upd (none_of hs hdn) hdn).upd (none_of hs hbH) hbH).upd (none_of hs hdn) hdn
  have A0 : StA n lots S bits K G H d [(0, 0)] G (σ.set 3 (some (.ref d))) (L2.upd (L2.upd (L2.upd H d (.dT [])) b (.tup [V.int 0, V.int 0])) d (.dT [(k2 (0, 0), V.bl true)])) :=
    ⟨k0, es9_weak (se.forget 3 (some (.ref d))) rfl rfl rfl rfl, List.getElem?_set_self (by rw [l9]; show 3 < 9; decide), upd_same, none_of hs hdn, hdn, by simp⟩
  generalize (L2.upd (L2.upd (L2.upd H d (.dT [])) b (.tup [V.int 0, V.int 0])) d (.dT [(k2 (0, 0), V.bl true)])) = H1 at A0 ⊢
  refine raw_for (es := es9 n lots S bits none none none none) (xs := rngD 0 n) (fun t G' σ' H' => ∃ d ks, StA n lots S bits K G H d ks G' σ' H' ∧ ∀ x, x ∈ ks ↔ Rc n (canTT lots S) (LM.masksOf lots) bits t x)
    (wk_is (wk_range1 (n := (n : Int)) (ea_cons (ev_people (ev_var rfl)) ea_nil) (by omega) (by omega)) (by rw [Int.toNat_natCast])) A0.sl A0.ok.gh (fun G1 H1' k1 => ⟨d, _, A0.step k1, rc_zero⟩) (fun t G' σ' H' ⟨_, _, a, _⟩ => a.ok.gh) (fun t x _ G' σ' H' ⟨d, ks, a0, lev⟩ G'' H'' v k rv D' hD' => ?_) (fun G' σ' H' ⟨d, ks, a, lev⟩ => ?_)
  · -- a turn
    have a1 := (a0.step k).set4 (v := v)
    intro e hen
    have de : d ≠ e := fun z => by rw [← z, a1.hd] at hen; cases hen
    have h0e : H e = none := none_of a1.ok.hh hen
    have gee : G'' e = none := none_of a1.ok.gh hen
    refine ⟨d, .dT (kvsOf ks), by rw [upd_ne de]; exact a1.hd, trivial, fun od => ?_⟩
    have B0 : StB n lots S bits K G H od d e ks [] G'' ((σ'.set 4 (some v)).set 5 (some (.ref e))) (L2.upd (L2.upd H'' e (.dT [])) d (.frz od (.dT (kvsOf ks)))) :=
      ⟨(a1.ok.upd gee h0e).upd a1.gd a1.h0, es9_weak (a1.sl.forget 5 _) rfl rfl rfl rfl, by rw [List.getElem?_set_ne (by decide)]; exact a1.s3, List.getElem?_set_self (by rw [a1.sl.len]; show 5 < 9; decide), upd_same, a1.gd, a1.h0, by rw [upd_ne (Ne.symm de), upd_same]; rfl, gee, h0e, de, List.nodup_nil⟩
    refine ⟨_, B0.s3, d, od, rfl, .inr ⟨kvsOf ks, upd_same, ?_⟩⟩
    refine ⟨fun i m σ3 H3 => m = ks.length - i ∧ i ≤ ks.length ∧ ∃ G3 lks, Same G'' G3 ∧ StB n lots S bits K G H od d e ks lks G3 σ3 H3 ∧ ∀ y, y ∈ lks ↔ y ∈ (ks.take i).flatMap (outs n (canTT lots S) (LM.masksOf lots) bits), ⟨_, rfl, Nat.zero_le _, G'', [], Same.refl _, B0, by simp⟩, ?_⟩
    rintro i m σ3 H3 ⟨rfl, hile, G3, lks, g3, b, hl⟩
    by_cases hlt : i < ks.length
    · refine .inr ⟨⟨b.hd, by unfold kvsOf; rw [List.length_map]; exact hlt⟩, fun σ4 H4 => i + 1 ≤ ks.length ∧ ∃ G4 lks, Same G'' G4 ∧ StB n lots S bits K G H od d e ks lks G4 σ4 H4 ∧ ∀ y, y ∈ lks ↔ y ∈ (ks.take (i + 1)).flatMap (outs n (canTT lots S) (LM.masksOf lots) bits), fun σ4 H4 z => ⟨ks.length - (i + 1), by omega, rfl, z.1, z.2⟩, fun x H5 ⟨e5, kk, vv, qq, hk, ex, hq⟩ => ?_⟩
      subst e5 ex
      obtain ⟨x0, hx0, rfl⟩ := kvsOf_at hk
      obtain ⟨o, ond, ol, ov, ot, ox⟩ := (lev x0).mp (List.mem_of_getElem? hx0)
      have hm : x0.1 < 2 ^ n := by rw [ox]; exact bits_lt ond ol
      have etk : ks.take (i + 1) = ks.take i ++ [x0] := by rw [List.take_add_one, hx0]; rfl
      refine ⟨qq, _, rfl, .inl (.inl hq), rfl, ⟨_, _, rfl, ⟨_, _, rfl, ⟨rfl, ?_⟩⟩⟩⟩
      have s6 : SlE K G3 ((σ3.set 6 (some (V.int (x0.1 : Int)))).set 7 (some (V.int (x0.2 : Int)))) (es9 n lots S bits none (some (dn x0.1)) (some (dn x0.2)) none) := (b.sl.set (i := 6) (.int _)).set (i := 7) (.int _)
      have b6 := (b.set6 (v := V.int (x0.1 : Int))).set7 (v := V.int (x0.2 : Int))
      refine raw_for (es := es9 n lots S bits none (some (dn x0.1)) (some (dn x0.2)) none) (xs := (canF n (canTT lots S) x0.1).map dn) (fun j G4 σ4 H4 => ∃ lks, Same G3 G4 ∧ StB n lots S bits K G H od d e ks lks G4 σ4 H4 ∧ SlE K G4 σ4 (es9 n lots S bits none (some (dn x0.1)) (some (dn x0.2)) none) ∧
          ∀ y, y ∈ lks ↔ y ∈ (ks.take i).flatMap (outs n (canTT lots S) (LM.masksOf lots) bits) ++ (outs n (canTT lots S) (LM.masksOf lots) bits x0).take j)
        (wk_list (ev_call (n, lots, S, x0.1) (ea_cons (ev_var rfl) (ea_cons (ev_var rfl) (ea_cons (ev_var rfl) ea_nil))) ⟨h12, h60, h20, hm⟩)) s6 b6.ok.gh (fun G4 H4 k4 => ⟨lks, k4.gg, b6.step k4, s6.mono k4.gg, by simpa using hl⟩) (fun j G4 σ4 H4 ⟨_, _, b, _⟩ => b.ok.gh) (fun j x hxj G4 σ4 H4 ⟨lks, g4, b4, s4, hl4⟩ G5 H5 v5 k5 r5 D5 hD5 => ?_) (fun G4 σ4 H4 ⟨lks, g4, b4, s4, hl4⟩ => ⟨hlt, G4, lks, g3.trans g4, b4, fun y => ?_⟩)
      · obtain ⟨p, hp, rfl⟩ := map_at hxj
        have hpc := (mem_canF n (canTT lots S) hm).mp (List.mem_of_getElem? hp)
        have b5 := (b4.step k5).set8 (v := v5)
        have s5 : SlE K G5 (σ4.set 8 (some v5)) (es9 n lots S bits none (some (dn x0.1)) (some (dn x0.2)) (some (dn p))) := (s4.mono k5.gg).set (i := 8) r5
        have hpn := hpc.1.1
        refine ⟨_, b5.s5, ?_⟩
        refine ev_tup (K := K) (ea_cons (ev_or (a := x0.1) (ev_var rfl) (ev_shl (p := p) (ev_var rfl) (by omega))) (ea_cons (ev_call (n, lots, bits, x0.2, p) (ea_cons (ev_var rfl) (ea_cons (ev_var rfl) (ea_cons (ev_var rfl) (ea_cons (ev_var rfl) ea_nil)))) ⟨by show lots.length ≤ 1000; omega, by show p ≤ 1000; omega⟩) ea_nil)) (by simp) (σ4.set 8 (some v5)) G5 H5 s5 b5.ok.gh _ fun u G6 H6 k6 r6 => ?_
        have b7 := b5.step k6
        cases r6 with
        | tup t1 t2 =>
          obtain ⟨u1, u2, rfl, q1, q2⟩ := two_rp t2
          cases q1; cases q2
          have hy : (outs n (canTT lots S) (LM.masksOf lots) bits x0)[j]? = some (x0.1 ||| 2 ^ p, insStep (LM.masksOf lots) bits x0.2 p) := by unfold outs; rw [List.getElem?_map, hp]; rfl
          have hl5 : ∀ y, y ∈ insK lks (x0.1 ||| 2 ^ p, insStep (LM.masksOf lots) bits x0.2 p) ↔ y ∈ (ks.take i).flatMap (outs n (canTT lots S) (LM.masksOf lots) bits) ++ (outs n (canTT lots S) (LM.masksOf lots) bits x0).take (j + 1) := fun y => by
            rw [mem_insK, hl4, List.take_add_one, hy]; simp [or_assoc]
          have hlen : lks.length ≤ 409600 := big (t + 1) lks b4.nd fun y hy => by
            refine (rc_step n (canTT lots S) (LM.masksOf lots) bits lev y).mp ?_
            have := (hl4 y).mp hy
            rw [List.mem_flatMap]
            rcases List.mem_append.mp this with z | z
            · obtain ⟨x, hx, hxy⟩ := List.mem_flatMap.mp z
              exact ⟨x, List.mem_of_mem_take hx, hxy⟩
            · exact ⟨x0, List.mem_of_getElem? hx0, List.mem_of_mem_take z⟩
          refine ⟨e, _, rfl, DPut.t (k := k2 (x0.1 ||| 2 ^ p, insStep (LM.masksOf lots) bits x0.2 p)) b7.he (k6.gh _ _ t1) (Nat.lt_of_le_of_lt (by unfold kvsOf; rw [List.length_map]; exact hlen) (by decide)), hD5 _ _ ⟨G6, k6.gg, insK lks (x0.1 ||| 2 ^ p, insStep (LM.masksOf lots) bits x0.2 p), (g4.trans k5.gg).trans k6.gg, ?_, ?_, hl5⟩⟩
          · rw [putK_of]
            exact ⟨b7.ok.upd b7.ge b7.h0e, b7.sl, b7.s3, b7.s5, by rw [upd_ne b7.de]; exact b7.hd, b7.gd, b7.h0, upd_same, b7.ge, b7.h0e, b7.de, insK_nd b7.nd⟩
          · exact (s4.mono (k5.gg.trans k6.gg)).forget 8 _
      · have et : (outs n (canTT lots S) (LM.masksOf lots) bits x0).take ((canF n (canTT lots S) x0.1).map dn).length = outs n (canTT lots S) (LM.masksOf lots) bits x0 := List.take_of_length_le (by unfold outs; rw [List.length_map, List.length_map]; exact Nat.le_refl _)
        rw [hl4, et, etk, List.flatMap_append]
        simp
    · have ei : i = ks.length := by omega
      refine .inl ⟨⟨b.hd, by unfold kvsOf; rw [List.length_map]; omega⟩, b.hd, _, b.s5, hD' _ _ ⟨G3, g3, e, lks, ⟨b.ok.upd b.gd b.h0, es9_weak (b.sl.forget 3 _) rfl rfl rfl rfl, List.getElem?_set_self (by rw [b.sl.len]; show 3 < 9; decide), by rw [upd_ne (Ne.symm b.de)]; exact b.he, b.ge, b.h0e, b.nd⟩, fun y => ?_⟩⟩
      rw [hl, ei, List.take_length]
      exact rc_step n (canTT lots S) (LM.masksOf lots) bits lev y
  · -- the end
    have hklen := big (rngD 0 n).length ks a.nd fun x hx => (lev x).mp hx
    rw [rngD_len] at lev
    refine ⟨d, .dT (kvsOf ks), a.hd, trivial, fun od => ?_⟩
    refine ⟨_, a.s3, d, od, rfl, .inr ⟨kvsOf ks, upd_same, fun D hD => ?_⟩⟩
    have Dd : D ≠ d := fun z => by rw [z, upd_same] at hD; cases hD
    refine ⟨fun i m H3 => m = ks.length - i ∧ i ≤ ks.length ∧ ∃ fs, H3 = L2.upd (L2.upd H' d (.frz od (.dT (kvsOf ks)))) D (.dK (kv1 fs)) ∧ fs.length ≤ i ∧ fs.Nodup ∧ ∀ f, f ∈ fs ↔ ∃ x ∈ ks.take i, x.2 = f, ⟨_, rfl, Nat.zero_le _, [], rfl, Nat.le_refl _, List.nodup_nil, by simp⟩, ?_⟩
    rintro i m H3 ⟨rfl, hile, fs, rfl, hfl, fnd, hfs⟩
    by_cases hlt : i < ks.length
    · refine .inr ⟨⟨by rw [upd_ne (Ne.symm Dd), upd_same], by unfold kvsOf; rw [List.length_map]; exact hlt⟩, fun H4 => i + 1 ≤ ks.length ∧ ∃ fs, H4 = L2.upd (L2.upd H' d (.frz od (.dT (kvsOf ks)))) D (.dK (kv1 fs)) ∧ fs.length ≤ i + 1 ∧ fs.Nodup ∧ ∀ f, f ∈ fs ↔ ∃ x ∈ ks.take (i + 1), x.2 = f, fun H4 z => ⟨ks.length - (i + 1), by omega, rfl, z.1, z.2⟩, fun x H5 ⟨e5, kk, vv, qq, hk, ex, hq⟩ => ?_⟩
      subst e5 ex
      obtain ⟨x0, hx0, rfl⟩ := kvsOf_at hk
      have etk : ks.take (i + 1) = ks.take i ++ [x0] := by rw [List.take_add_one, hx0]; rfl
      refine ⟨qq, _, rfl, .inl (.inl hq), rfl, ⟨_, _, rfl, ⟨_, _, rfl, ⟨rfl, ?_⟩⟩⟩⟩
      refine ⟨wipe_eq (is := [6, 7]) ⟨by simp, fun j hj => ?_⟩ (by simp), ?_⟩
      · rw [List.getElem?_set_ne (fun z => hj (by simp [← z])), List.getElem?_set_ne (fun z => hj (by simp [← z]))]
      unfold tYes
      dsimp only
      rw [if_pos rfl]
      refine ⟨_, List.getElem?_set_self (by rw [List.length_set, wipe_length, a.sl.len]; show 7 < 9; decide), ?_⟩
      refine ⟨kv1 fs, .inl (x0.2 : Int), rfl, upd_same, Nat.lt_of_le_of_lt (by unfold kv1; rw [List.length_map]; exact Nat.le_trans hfl (Nat.le_trans hile hklen)) (by decide), hlt, insN fs x0.2, ?_, Nat.le_trans (insN_len fs x0.2) (by omega), insN_nd fnd, fun f => ?_⟩
      · rw [putK_of1, upd_upd]
      · rw [mem_insN, hfs, etk]
        simp only [List.mem_append, List.mem_singleton]
        constructor
        · rintro (⟨x, h1, h2⟩ | h)
          · exact ⟨x, .inl h1, h2⟩
          · exact ⟨x0, .inr rfl, h.symm⟩
        · rintro ⟨x, h1 | h1, h2⟩
          · exact .inl ⟨x, h1, h2⟩
          · exact .inr (by rw [← h2, h1])
    · have ei : i = ks.length := by omega
      subst ei
      rw [List.take_length] at hfs
      have hD' : H' D = none := by rw [upd_ne Dd] at hD; exact hD
      refine .inl ⟨⟨by rw [upd_ne (Ne.symm Dd), upd_same], by unfold kvsOf; rw [List.length_map]; exact Nat.le_refl _⟩, by rw [upd_ne (Ne.symm Dd), upd_same], ?_⟩
      have kE : Ok G H G' (L2.upd (L2.upd (L2.upd H' d (.frz od (.dT (kvsOf ks)))) D (.dK (kv1 fs))) d (.dT (kvsOf ks))) := ((a.ok.upd a.gd a.h0).upd (none_of a.ok.gh hD') (none_of a.ok.hh hD')).upd a.gd a.h0
      refine ⟨D, kv1 fs, rfl, by rw [upd_ne Dd, upd_same], fun l hl => ⟨l, zi fs, rfl, SqL.of (by rw [upd_same]; congr 2; unfold kv1 zi; rw [List.map_map, List.map_map]; rfl), fun ns p hp hsrt hpn => ?_⟩⟩
      have kF := kE.upd (o := .lst ((kv1 fs).map fun kv => kV kv.1)) (none_of kE.gh hl) (none_of kE.hh hl)
      have hpG : G' p = none := none_of kF.gh hpn
      have hpH : H p = none := none_of kF.hh hpn
      have kG := (kF.upd (o := .lst (ns.map V.int)) hpG hpH).know hpH upd_same hpG
      have ens : ns = zi (ns.map Int.toNat) := by
        unfold zi
        rw [List.map_map]
        have : ∀ x ∈ ns, (fun n : Nat => (n : Int)) (Int.toNat x) = x := fun x hx => by
          obtain ⟨f, _, rfl⟩ := List.mem_map.mp (hp.mem_iff.mp hx)
          simp
        exact (List.map_id ns).symm.trans (List.map_congr_left fun x hx => (this x hx).symm)
      refine q _ _ _ (ldN (ns.map Int.toNat)) ⟨ns.map Int.toNat, rfl, ?_, fun f => ?_⟩ (.of trivial kG) (.lst upd_same ?_)
      · rw [List.length_map, hp.length_eq]
        unfold zi
        rw [List.length_map]
        refine Nat.le_trans (nd_len fs vals fnd fun f hf => ?_) (by omega)
        obtain ⟨x, h1, rfl⟩ := (hfs f).mp hf
        obtain ⟨o, _, _, _, _, ox⟩ := (lev x).mp h1
        rw [ox]; exact hvals o
      · have e1 : f ∈ ns.map Int.toNat ↔ f ∈ fs := by
          rw [← mem_zi, ← ens, hp.mem_iff, mem_zi]
        rw [e1, hfs]
        constructor
        · rintro ⟨x, h1, rfl⟩
          exact ⟨x.1, (lev x).mp h1⟩
        · rintro ⟨t, h1⟩
          exact ⟨(t, f), (lev _).mpr h1, rfl⟩
      · rw [dn_zi, ← ens]
        exact ints_rp ns
end
end DL
end
section
set_option Elab.async false
set_option linter.all false
set_option maxRecDepth 100000
set_option maxHeartbeats 0
/-! D7: verdicts -/
namespace DL
open PySem L2
section
variable {K : PySem.W.Frag}
abbrev kvD (ks : List (Int × Str)) : List (Key × V) := ks.map fun x => ((.inl x.1 : Key), V.str x.2)
theorem putK_new {ks : List (Int × Str)} {k : Int} {x : Str} (h : k ∉ ks.map Prod.fst) : putK (kvD ks) (.inl k) (V.str x) = kvD (ks ++ [(k, x)]) := by
  unfold putK
  have e : ((kvD ks).any fun kv => decide (kv.1 = (.inl k : Key))) = false := by
    rw [List.any_map, List.any_eq_false]
    intro y hy
    have : y.1 ≠ k := fun z => h (List.mem_map.mpr ⟨y, hy, z⟩)
    simpa using this
  rw [e, if_neg (by simp)]
  unfold kvD
  simp
theorem ev_dc {α : Type} (ys : List α) (enc : α → Dt) (kf : α → Int) (wf : α → Str) {wi : TI} {g : TG} {tk tv : TE} {vs is : List Nat} {es : Es} (hw : WkD K wi es (ys.map enc)) (hi : ∀ i ∈ is, i ∈ vs) (hz : ys.length ≤ 1000) (hinj : (ys.map kf).Nodup)
    (ht : ∀ y ∈ ys, TgD K g is (enc y) (wipeE es vs) fun es' => EvD K tk es' (.int (kf y)) ∧ EvD K tv es' (.str (wf y))) : EvD K (tDc wi g tYes tk tv vs) es (.dct (ys.map fun y => (kf y, wf y))) := fun σ G H he hs Q q => by
  refine hw σ G H he hs _ fun J G1 H1 k1 wj D hD => ?_
  refine ⟨fun i m Hc => m = ys.length - i ∧ i ≤ ys.length ∧ ∃ Gc, Ok G1 H1 Gc Hc ∧ Gc D = none ∧ Hc D = some (.dK (kvD ((ys.take i).map fun y => (kf y, wf y)))),
    ⟨_, rfl, Nat.zero_le _, G1, Ok.more k1.gh (same_upd hD), none_of k1.gh hD, upd_same⟩, ?_⟩
  rintro i m Hc ⟨rfl, hile, Gc, kc, gD, hDx⟩
  have w := wj Hc (kc.gg.trans kc.gh)
  rw [List.length_map] at w
  by_cases hlt : i < ys.length
  · refine .inr ⟨w.1 i hlt, fun H' => i + 1 ≤ ys.length ∧ ∃ Gc, Ok G1 H1 Gc H' ∧ Gc D = none ∧ H' D = some (.dK (kvD ((ys.take (i + 1)).map fun y => (kf y, wf y)))), fun H' z => ⟨ys.length - (i + 1), by omega, rfl, z.1, z.2⟩, fun v H' hy => ?_⟩
    have hyi : ys[i]? = some ys[i] := List.getElem?_eq_getElem hlt
    have etk : ys.take (i + 1) = ys.take i ++ [ys[i]] := by rw [List.take_add_one, hyi]; rfl
    obtain ⟨Gd, kd, rv⟩ := w.2.2 i v H' (enc ys[i]) (by rw [List.getElem?_map, hyi]; rfl) hy Gc kc.gg kc.gh
    obtain ⟨gdD, hDx'⟩ := kd.stayN gD hDx
    refine ht ys[i] (List.getElem_mem hlt) v (L2.wipe σ vs) Gd H' (((he.mono k1.gg).mono kc.gg).mono kd.gg |>.wipe vs) kd.gh rv _ fun σ2 es2 ⟨h1, h2⟩ e2 o2 => ⟨wipe_eq o2 hi, ?_⟩
    unfold tYes
    dsimp only
    rw [if_pos rfl]
    refine h1 σ2 Gd H' e2 kd.gh _ fun u G3 H3 k3 r3 => h2 σ2 G3 H3 (e2.mono k3.gg) k3.gh _ fun u' G4 H4 k4 r4 => ?_
    obtain ⟨g3, h3⟩ := k3.stayN gdD hDx'
    obtain ⟨g4, h4⟩ := k4.stayN g3 h3
    cases r3; cases r4
    refine ⟨_, .inl (kf ys[i]), rfl, h4, ?_, hlt, G4, ?_, g4, ?_⟩
    · refine small' ?_
      rw [List.length_map, List.length_map, List.length_take]; omega
    · exact (kc.trans (kd.trans (k3.trans k4))).upd g4 hD
    · rw [upd_same, putK_new, etk, List.map_append]; · rfl
      intro z
      rw [List.map_map] at z
      obtain ⟨y, hy1, hy2⟩ := List.mem_map.mp z
      obtain ⟨j, hj⟩ := List.getElem?_of_mem hy1
      rw [List.getElem?_take] at hj
      split at hj
      · rename_i hji
        have a1 : (ys.map kf)[j]? = some (kf ys[i]) := by rw [List.getElem?_map, hj]; exact congrArg some hy2
        have a2 : (ys.map kf)[i]? = some (kf ys[i]) := by rw [List.getElem?_map, hyi]; rfl
        obtain ⟨b1, c1⟩ := List.getElem?_eq_some_iff.mp a1
        obtain ⟨b2, c2⟩ := List.getElem?_eq_some_iff.mp a2
        have := (List.getElem_inj hinj).mp (c1.trans c2.symm)
        omega
      · cases hj
  · have e : i = ys.length := by omega
    subst e
    rw [List.take_length] at hDx
    exact .inl ⟨w.2.1, q _ _ _ (k1.trans (kc.know hD hDx gD)) (.dct upd_same)⟩
/-- {k: v, l: w} -/
theorem ev_disp2 {t1 t2 t3 t4 : TE} {es : Es} {a b : Int} {x y : Str} (h1 : EvD K t1 es (.int a)) (h2 : EvD K t2 es (.str x)) (h3 : EvD K t3 es (.int b)) (h4 : EvD K t4 es (.str y)) (hab : a ≠ b) : EvD K (tDisp [(t1, t2), (t3, t4)]) es (.dct [(a, x), (b, y)]) := fun σ G H he hs Q q p hp => by
  have k0 := (Ok.refl hs).upd (o := .dK []) (none_of hs hp) hp
  refine h1 σ G _ he k0.gh _ fun v1 G1 H1 k1 r1 => h2 σ G1 H1 (he.mono k1.gg) k1.gh _ fun v2 G2 H2 k2 r2 => h3 σ G2 H2 ((he.mono k1.gg).mono k2.gg) k2.gh _ fun v3 G3 H3 k3 r3 => h4 σ G3 H3 (((he.mono k1.gg).mono k2.gg).mono k3.gg) k3.gh _ fun v4 G4 H4 k4 r4 => ?_
  cases r1; cases r2; cases r3; cases r4
  have kk := k1.trans (k2.trans (k3.trans k4))
  obtain ⟨gp, hp4⟩ := kk.stayN (none_of hs hp) upd_same
  refine ⟨hp4, [(.inl a, .str x), (.inl b, .str y)], rfl, by simp, ?_⟩
  have e : mergeK [] [((.inl a : Key), V.str x), (.inl b, .str y)] = kvD [(a, x), (b, y)] := by
    show putK (putK (kvD []) (.inl a) (V.str x)) (.inl b) (V.str y) = _
    rw [putK_new (by simp), putK_new (by simpa using fun z => hab z.symm)]; rfl
  rw [e]
  have k5 := (k0.trans kk).upd (o := .dK (kvD [(a, x), (b, y)])) gp hp
  exact q _ _ _ (k5.know hp upd_same gp) (.dct upd_same)
theorem valV_kvD {ks : List (Int × Str)} (hn : (ks.map Prod.fst).Nodup) {p : Int × Str} (h : p ∈ ks) : valV (kvD ks) (.inl p.1) = some (V.str p.2) := by
  induction ks with
  | nil => cases h
  | cons q ks ih =>
    obtain ⟨n1, n2⟩ := List.nodup_cons.mp hn
    rcases List.mem_cons.mp h with e | h
    · subst e; exact valV_pos rfl
    · rw [show kvD (q :: ks) = ((.inl q.1 : Key), V.str q.2) :: kvD ks from rfl, valV_neg (fun z => n1 (by
        have : q.1 = p.1 := Sum.inl.inj z
        rw [this]; exact List.mem_map.mpr ⟨p, h, rfl⟩))]
      exact ih n2 h
theorem rd_eqDct {ks ls : List (Int × Str)} (hn : (ls.map Prod.fst).Nodup) (hl : ks.length = ls.length) (hp : ∀ p ∈ ks, p ∈ ls) : RD K rEqDA (.dct ks) (.dct ls) (.bl true) := fun u v G H hs h1 h2 Q q => by
  cases h1 with
  | dct h3 =>
    cases h2 with
    | dct h4 =>
      refine ⟨_, _, _, _, rfl, rfl, hs _ _ h3, hs _ _ h4, by rw [List.length_map, List.length_map]; exact hl, fun p hpk => ?_, q _ G H (.refl hs) (.bl _)⟩
      obtain ⟨x, hx, rfl⟩ := List.mem_map.mp hpk
      exact ⟨valV_kvD hn (hp x hx), rfl⟩
end
section
variable {P : Program} {w : World} {K : PySem.W.Frag} {mg : Str → Option Value} {base : Heap}
theorem sc_verdicts : FnScope ["book", "sightings", "crowd", "found", "person"] ["book", "sightings", "crowd"] (defScope Hd.s_verdicts) := ⟨rfl, rfl, rfl, by decide +kernel, rfl, by decide +kernel, by decide +kernel⟩
def sp_verdicts (K : PySem.W.Frag) : Sp := spM K (fun _ => Mo.pure) (fun x : Nat × LM.Lots × Bool × LM.Sgt × List Nat => [bkD x.1 x.2.1, sgsD x.2.2.1 x.2.2.2.1, crD x.2.2.2.2])
  (fun x => Fit x.1 x.2.1 x.2.2.2.1 ∧ CrOk x.1 x.2.2.2.2 ∧ x.2.2.2.2.length ≤ 8 ∧ ∃ vals : List Nat, vals.length ≤ 100 ∧ ∀ o, insF (LM.masksOf x.2.1) (LM.bitsOf x.2.2.2.2) o ∈ vals)
  (fun x d => ∃ found : List Nat, d = .dct (x.2.2.2.2.map fun (p : Nat) => ((p : Int), wordOf found p)) ∧ ∀ i, i ∈ found ↔ ∃ t, Rc x.1 (canTT x.2.1 x.2.2.2.1) (LM.masksOf x.2.1) (LM.bitsOf x.2.2.2.2) x.1 (t, i))
theorem cal_verdicts (T : Txt K mg) : C8.Cal P w K mg base 7 "verdicts" (sp_verdicts K) [] := by
  have c_check_sightings := cal_check_sightings (P := P) (w := w) (base := base) T
  have c_check_crowd := cal_check_crowd (P := P) (w := w) (base := base) T
  have c_check_fitting := cal_check_fitting (P := P) (w := w) (base := base) T
  have c_check_many := cal_check_many (P := P) (w := w) (base := base) T
  have c_all_let_in := cal_all_let_in (P := P) (w := w) (base := base) T
  have c_needs := cal_needs (P := P) (w := w) (base := base) T
  have c_bits_of := cal_bits_of (P := P) (w := w) (base := base) T
  have c_word_for := cal_word_for (P := P) (w := w) (base := base) T
  obtain ⟨fd, F⟩ := T.f_verdicts
  have nd := sc_verdicts.nd
  refine mkM F sc_verdicts (fun _ => rfl) (fun us hl _ _ _ _ _ _ => match us, hl with | [_, _, _], _ => rfl) T.m_verdicts fun cdv A outer s H E hr => ⟨_,
      (pss_cons (ps_expr (C8.pe_c c_check_sightings hr (by decide) (by rfl) (pa_cons (pv 0) (pa_cons (pv 1) pa_nil))))
      (pss_cons (ps_expr (C8.pe_c c_check_crowd hr (by decide) (by rfl) (pa_cons (kFld K rfl (pv 0)) (pa_cons (pv 2) pa_nil))))
      (pss_cons (ps_expr (C8.pe_c c_check_fitting hr (by decide) (by rfl) (pa_cons (pv 0) (pa_cons (pv 1) pa_nil))))
      (pss_cons (ps_expr (C8.pe_c c_check_many hr (by decide) (by rfl) (pa_cons (pe_callB (kLen K) (by rfl) T.len (by decide +kernel) (pa_cons (pv 2) pa_nil)) (pa_cons (C8.pe_gc (by rfl) T.MOST_JUDGED) pa_nil))))
      (pss_cons (ps_set (i := 3) nd rfl (by first | exact Or.inl rfl | exact Or.inr rfl) (C8.pe_c c_all_let_in hr (by decide) (by rfl) (pa_cons (pv 0) (pa_cons (C8.pe_c c_needs hr (by decide) (by rfl) (pa_cons (pv 0) (pa_cons (pv 1) pa_nil))) (pa_cons (C8.pe_c c_bits_of hr (by decide) (by rfl) (pa_cons (pv 2) pa_nil)) pa_nil)))))
      (pss_one (ps_ret (pe_dc (own := [("person", 4)]) (g := (gName 4)) rfl nd (kTupW K rfl (pv 2)) (blkOk_by (by show blkC ["book", "sightings", "crowd", "found", "person"] (defScope Hd.s_verdicts) _ _ = true; decide +kernel)) (fun _ _ _ _ _ => (pg_name (i := 4) nd rfl (by first | exact Or.inl rfl | exact Or.inr rfl))) (fun _ _ _ _ _ => pts_nil) (fun _ _ _ _ _ => (pv 4)) (fun _ _ _ _ _ => (C8.pe_c c_word_for hr (by decide) (by rfl) (pa_cons (pv 3) (pa_cons (pv 4) pa_nil)))))))))))), ?_⟩
  rintro ⟨n, lots, t, S, c⟩ ⟨ok, hc, h8, vals, hv1, hv2⟩
  simp only at ok hc h8 hv2
  have h12 := ok.n12
  have hcl := hc.len
  refine x_seq (x_drop (ev_call (n, lots, t, S) (ea_cons (ev_var rfl) (ea_cons (ev_var rfl) ea_nil)) ⟨ok.n12, ok.sg⟩) (x_seq (x_drop (ev_call (n, c) (ea_cons (ev_people (ev_var rfl)) (ea_cons (ev_var rfl) ea_nil)) ⟨hc, by show c.length ≤ 1000; omega⟩) (x_seq (x_drop (ev_call (n, lots, t, S) (ea_cons (ev_var rfl) (ea_cons (ev_var rfl) ea_nil)) ok)
    (x_seq (x_drop (ev_call (((c.map dn).length : Int), 8) (ea_cons (ev_cb (ea_cons (ev_var rfl) ea_nil) rc_lenT) (ea_cons ev_int ea_nil)) (by show ((c.map dn).length : Int) ≤ 8; rw [List.length_map]; omega)) ?_)))))))
  refine x_seq (x_asgM (em_call (ema_of (ea_cons (ev_var rfl) (ea_cons (ev_call (n, lots, t, S) (ea_cons (ev_var rfl) (ea_cons (ev_var rfl) ea_nil)) ⟨ok.n12, ok.l60, ok.sg⟩) (ea_cons (ev_call c (ea_cons (ev_var rfl) ea_nil) ⟨fun p hp => by have := hc.lt p hp; omega, by omega⟩) ea_nil)))) fun ds e => ⟨(n, lots, S, LM.bitsOf c), rfl, e, ⟨ok.n12, ok.l60, ok.sg.len, vals, hv1, hv2⟩, fun d h => h⟩) ?_)
  rintro d ⟨found, rfl, hfl, hf⟩
  refine x_ret (ev_dc c dn (fun (p : Nat) => (p : Int)) (fun p => wordOf found p) (is := [4]) (wk_tup (ev_var rfl)) (by simp) (by omega) ?_ fun p hp => tg_name ⟨ev_var rfl, ev_call (found, p) (ea_cons (ev_var rfl) (ea_cons (ev_var rfl) ea_nil)) hfl⟩) ⟨found, rfl, hf⟩
  refine List.Pairwise.map _ (fun a b (h : a ≠ b) => ?_) hc.nd
  show ((a : Int) ≠ (b : Int))
  omega
end
end DL
end
section
set_option Elab.async false
set_option linter.all false
set_option maxRecDepth 100000
set_option maxHeartbeats 0
/-! L1: the hand, a draw -/
namespace DL
open PySem L2
/-- the table of the def that makes a lambda -/
def tbP (K : PySem.W.Frag) : Addr := (He.cT K ("_law_crowds", none)).2
def lamQ : Str := "_law_crowds" ++ ".<locals>." ++ "<lambda>"
structure TabK (K : PySem.W.Frag) (h : Addr) (G H : Hp) : Prop where
  ne : h ≠ tbP K
  gn : G (tbP K) = none
  tb : ∃ ps : Array Value, H (tbP K) = some (.tbl ps) ∧ TriplesOk ps.toList ∧ ∀ (pos : Pos) (cv : Value), codeAmong pos ps.toList = some cv → ∃ c, cv = .ref c ∧ G c = some (LamX.CodeO c lamQ)
theorem TabK.step {K : PySem.W.Frag} {h : Addr} {G H G' H' : Hp} (t : TabK K h G H) (s : Same G G') (g : G' (tbP K) = none) (k : ∀ o, H (tbP K) = some o → H' (tbP K) = some o) : TabK K h G' H' := ⟨t.ne, g, by
  obtain ⟨ps, a, b, c⟩ := t.tb
  exact ⟨ps, k _ a, b, fun pos cv e => by
    obtain ⟨c', e1, e2⟩ := c pos cv e
    exact ⟨c', e1, s _ _ e2⟩⟩⟩
/-- what a hand is: at h a list of the cells and four numbers -/
def handOk (K : PySem.W.Frag) (h : Addr) (G H : Hp) : Prop := TabK K h G H ∧ G h = none ∧ ∃ (c : Addr) (ns : List Int) (i1 i2 i3 i4 : Int), H h = some (.lst (.ref c :: [i1, i2, i3, i4].map V.int)) ∧ G c = some (.lst (ns.map V.int)) ∧ (∀ n ∈ ns, 0 ≤ n) ∧ 0 ≤ i1 ∧ 0 ≤ i2 ∧ 0 ≤ i3 ∧ 0 ≤ i4
def moH (K : PySem.W.Frag) (h : Addr) : Mo := ⟨fun a => a = h ∨ a = tbP K, handOk K h, fun {G H a} m e => by
  obtain ⟨t, _, c, ns, i1, i2, i3, i4, hh, _⟩ := m
  rcases e with e | e
  · rw [e, hh]; simp
  · obtain ⟨ps, a, _⟩ := t.tb
    rw [e, a]; simp, fun {G H G' H'} m s n k => by
  obtain ⟨t, g, c, ns, i1, i2, i3, i4, hh, gc, r⟩ := m
  refine ⟨t.step s ?_ (fun o e => k _ o (.inr rfl) e), ?_, c, ns, i1, i2, i3, i4, k h _ (.inl rfl) hh, s _ _ gc, r⟩
  · cases e : G' (tbP K) with
    | none => rfl
    | some o => exact (n _ o e t.gn (.inr rfl)).elim
  · cases e : G' h with
    | none => rfl
    | some o => exact (n h o e g (.inl rfl)).elim⟩
abbrev handD (ns st : List Int) : Dt := .lst (.lst (ns.map Dt.int) :: st.map Dt.int)
section
variable {K : PySem.W.Frag} {h c : Addr} {ns : List Int} {G0 H0 : Hp}
def HC (K : PySem.W.Frag) (h c : Addr) (ns : List Int) (G0 H0 : Hp) (st : List Int) (es : Es) (σ : L2.St) (H : Hp) : Prop :=
  ∃ G, OkM (moH K h) G0 H0 G H ∧ TabK K h G H ∧ G h = none ∧ H h = some (.lst (.ref c :: st.map V.int)) ∧ G c = some (.lst (ns.map V.int)) ∧ SlE K G σ (some (.adr h) :: es)
def Hx (K : PySem.W.Frag) (h c : Addr) (ns : List Int) (G0 H0 : Hp) (t : TS) (st : List Int) (es : Es) (N : List Int → Es → Prop) (Pr : Int → List Int → Prop) : Prop := ∀ σ H (D : Ends), HC K h c ns G0 H0 st es σ H →
  (∀ st' es' σ' H', N st' es' → HC K h c ns G0 H0 st' es' σ' H' → D.nx σ' H') → (∀ i st' es' σ' H', Pr i st' → HC K h c ns G0 H0 st' es' σ' H' → D.rt (.int i) H') → t D σ H
theorem hc_know {st : List Int} {es : Es} {σ : L2.St} {G H : Hp} (hg : G h = none) (gh : Same G H) (hh : H h = some (.lst (.ref c :: st.map V.int))) (gc : G c = some (.lst (ns.map V.int))) (sl : SlE K G σ (some (.adr h) :: es)) :
    Same G (upd G h (.lst (.ref c :: st.map V.int))) ∧ Same (upd G h (.lst (.ref c :: st.map V.int))) H ∧ SlE K (upd G h (.lst (.ref c :: st.map V.int))) σ (some (handD ns st) :: es) := by
  have s1 : Same G (upd G h (.lst (.ref c :: st.map V.int))) := same_upd hg
  refine ⟨s1, fun a o z => ?_, sl.len, fun i d q => ?_⟩
  · by_cases e : a = h
    · subst e; rw [upd_same] at z; cases z; exact hh
    · rw [upd_ne e] at z; exact gh _ _ z
  · cases i with
    | zero =>
      cases q
      obtain ⟨v, e, r⟩ := sl.at_ 0 _ rfl
      cases r
      exact ⟨_, e, .lst upd_same (.cons (.lst (s1 _ _ gc) (ints_rp ns)) (ints_rp st))⟩
    | succ i =>
      obtain ⟨v, e, r⟩ := sl.at_ (i + 1) d q
      exact ⟨v, e, r.mono s1⟩
variable {st : List Int} {es : Es} {N : List Int → Es → Prop} {Pr : Int → List Int → Prop}
theorem OkM.same {M : Mo} {H1 G H : Hp} (k : OkM M G0 H0 G H) (s : Same H H1) : OkM M G0 H0 G H1 := k.trans (.of (.more k.gh s))
theorem hx_seq {t u : TS} (a : Hx K h c ns G0 H0 t st es (fun st' es' => Hx K h c ns G0 H0 u st' es' N Pr) Pr) : Hx K h c ns G0 H0 (tSeq t u) st es N Pr := fun σ H D hc hn hr =>
  a σ H _ hc (fun st' es' σ' H' x c' => x σ' H' D c' hn hr) hr
theorem Hx.imp {t : TS} {N' : List Int → Es → Prop} (a : Hx K h c ns G0 H0 t st es N Pr) (i : ∀ st es, N st es → N' st es) : Hx K h c ns G0 H0 t st es N' Pr := fun σ H D hc hn hr => a σ H D hc (fun st' es' σ' H' x c' => hn st' es' σ' H' (i _ _ x) c') hr
theorem hx_run {t : TS} {σ : L2.St} {H : Hp} {D : Ends} (hc : HC K h c ns G0 H0 st es σ H) (x : Hx K h c ns G0 H0 t st es (fun _ _ => False) Pr) (hr : ∀ i st' es' σ' H', Pr i st' → HC K h c ns G0 H0 st' es' σ' H' → D.rt (.int i) H') : t D σ H := x σ H D hc (fun _ _ _ _ z => z.elim) hr
theorem hx_next (q : N st es) : Hx K h c ns G0 H0 tNext st es N Pr := fun σ H D hc hn hr => hn st es σ H q hc
theorem hx_if {tt : TT} {t u : TS} {b : Bool} (a : EvT K tt (some (handD ns st) :: es) b) (h1 : b = true → Hx K h c ns G0 H0 t st es N Pr) (h2 : b = false → Hx K h c ns G0 H0 u st es N Pr) : Hx K h c ns G0 H0 (tIfS tt t u) st es N Pr := fun σ H D ⟨G, k, tk, hg, hh, gc, sl⟩ hn hr => by
  obtain ⟨s1, s2, sl2⟩ := hc_know hg k.gh hh gc sl
  refine a σ _ H sl2 s2 _ fun H1 s3 => ?_
  have cf : HC K h c ns G0 H0 st es σ H1 := ⟨G, k.same s3, tk.step (Same.refl G) tk.gn fun o e => s3 _ _ e, hg, s3 _ _ hh, gc, sl⟩
  cases b with
  | true =>
    show t D σ H1
    exact h1 rfl σ H1 D cf hn hr
  | false =>
    show u D σ H1
    exact h2 rfl σ H1 D cf hn hr
theorem hx_asg {te : TE} {i : Nat} {v : Int} (a : EvD K te (some (handD ns st) :: es) (.int v)) (q : N st (es.set i (some (.int v)))) : Hx K h c ns G0 H0 (tAsg te (gName (i + 1))) st es N Pr := fun σ H D ⟨G, k, tk, hg, hh, gc, sl⟩ hn hr => by
  obtain ⟨s1, s2, sl2⟩ := hc_know hg k.gh hh gc sl
  refine a σ _ H sl2 s2 _ fun u G1 H1 k1 r1 => ?_
  cases r1
  exact hn _ _ _ _ q ⟨G, k.same k1.hh, tk.step (Same.refl G) tk.gn fun o e => k1.hh _ _ e, hg, k1.hh _ _ hh, gc, sl.set (i := i + 1) (.int v)⟩
theorem hx_ret {te : TE} {v : Int} (a : EvD K te (some (handD ns st) :: es) (.int v)) (q : Pr v st) : Hx K h c ns G0 H0 (tRet te) st es N Pr := fun σ H D ⟨G, k, tk, hg, hh, gc, sl⟩ hn hr => by
  obtain ⟨s1, s2, sl2⟩ := hc_know hg k.gh hh gc sl
  refine a σ _ H sl2 s2 _ fun u G1 H1 k1 r1 => ?_
  cases r1
  exact hr _ _ _ _ _ q ⟨G, k.same k1.hh, tk.step (Same.refl G) tk.gn fun o e => k1.hh _ _ e, hg, k1.hh _ _ hh, gc, sl⟩
theorem hx_set {te : TE} (j : Nat) {v : Int} (hj : j < st.length) (a : EvD K te (some (handD ns st) :: es) (.int v)) (q : N (st.set j v) es) : Hx K h c ns G0 H0 (tAsg te (gSub (tVar 0) (tC (.int ((j + 1 : Nat) : Int))) rSetL)) st es N Pr := fun σ H D ⟨G, k, tk, hg, hh, gc, sl⟩ hn hr => by
  obtain ⟨s1, s2, sl2⟩ := hc_know hg k.gh hh gc sl
  refine a σ _ H sl2 s2 _ fun u G1 H1 k1 r1 => ?_
  cases r1
  obtain ⟨w, e, r⟩ := sl.at_ 0 _ rfl
  cases r
  refine ⟨_, e, h, _, ((j + 1 : Nat) : Int), j + 1, rfl, rfl, k1.hh _ _ hh, ?_, ?_⟩
  · unfold ixN
    have hl : (V.ref c :: st.map V.int).length = st.length + 1 := by simp
    rw [hl, if_pos (by omega), if_pos (by omega)]; rfl
  · have k2 := k.same k1.hh
    refine hn _ _ _ _ q ⟨G, ⟨k2.gg, fun a o z => ?_, fun a o n z => ?_, fun a z => ?_, k2.fr⟩, tk.step (Same.refl G) tk.gn fun o e => by rw [upd_ne (Ne.symm tk.ne)]; exact k1.hh _ _ e, hg, ?_, gc, sl⟩
    · rw [upd_ne (fun e => by rw [e, hg] at z; cases z)]; exact k2.gh _ _ z
    · rw [upd_ne (fun e => n (.inl e))]; exact k2.hh _ _ n z
    · by_cases e : a = h
      · rw [e, upd_same] at z; cases z
      · rw [upd_ne e] at z; exact k2.nn _ z
    · rw [upd_same]
      congr 2
      rw [List.map_set]
      rfl
end
section
variable {P : Program} {w : World} {K : PySem.W.Frag} {mg : Str → Option Value} {base : Heap}
theorem rc_int {i : Int} : RC K (fun xs H Q => (∃ i, xs = [.int i] ∧ Q (.int i) H) ∨ ∃ k, xs = [.bl k] ∧ Q (.int (if k then 1 else 0)) H) [.int i] (.int i) := fun vs G H hs h Q q => by
  obtain ⟨v, rfl, r⟩ := one_rp h
  cases r
  exact .inl ⟨i, rfl, q _ G H (.refl hs) (.int _)⟩
theorem ev_i1 {ta : TE} {es : Es} {i : Int} (h : EvD K ta es (.int i)) : EvD K (tCB (fun xs H Q => (∃ i, xs = [.int i] ∧ Q (.int i) H) ∨ ∃ k, xs = [.bl k] ∧ Q (.int (if k then 1 else 0)) H) (tCons ta tNil)) es (.int i) := ev_cb (ea_cons h ea_nil) rc_int
theorem ev_mul {ta tb : TE} {es : Es} {i j : Int} (h : EvD K ta es (.int i)) (h' : EvD K tb es (.int j)) (hc : CMul i j) : EvD K (tOp (rI CMul fun i j => .int (i * j)) ta tb) es (.int (i * j)) := ev_op h h' (rd_ic hc)
theorem ev_add {ta tb : TE} {es : Es} {i j : Int} (h : EvD K ta es (.int i)) (h' : EvD K tb es (.int j)) : EvD K (tOp (rI0 fun i j => .int (i + j)) ta tb) es (.int (i + j)) := ev_op h h' rd_i0
theorem ev_mod {ta tb : TE} {es : Es} {i j : Int} (h : EvD K ta es (.int i)) (h' : EvD K tb es (.int j)) (hc : 0 < j) : EvD K (tOp (rI (fun _ j => 0 < j) fun i j => .int (i % j)) ta tb) es (.int (i % j)) := ev_op h h' (rd_ic hc)
theorem ev_div {ta tb : TE} {es : Es} {i j : Int} (h : EvD K ta es (.int i)) (h' : EvD K tb es (.int j)) (hc : CDiv i j) : EvD K (tOp (rI CDiv fun i j => .int (i / j)) ta tb) es (.int (i / j)) := ev_op h h' (rd_ic hc)
theorem ev_h1 {ns : List Int} {i1 i2 i3 i4 : Int} {es : Es} : EvD K (tOp (rIxL K) (tVar 0) (tC (.int 1))) (some (handD ns [i1, i2, i3, i4]) :: es) (.int i1) := ev_op (ev_var rfl) ev_int (rd_ixL rfl)
theorem ev_h2 {ns : List Int} {i1 i2 i3 i4 : Int} {es : Es} : EvD K (tOp (rIxL K) (tVar 0) (tC (.int 2))) (some (handD ns [i1, i2, i3, i4]) :: es) (.int i2) := ev_op (ev_var rfl) ev_int (rd_ixL rfl)
theorem ev_h3 {ns : List Int} {i1 i2 i3 i4 : Int} {es : Es} : EvD K (tOp (rIxL K) (tVar 0) (tC (.int 3))) (some (handD ns [i1, i2, i3, i4]) :: es) (.int i3) := ev_op (ev_var rfl) ev_int (rd_ixL rfl)
theorem ev_h4 {ns : List Int} {i1 i2 i3 i4 : Int} {es : Es} : EvD K (tOp (rIxL K) (tVar 0) (tC (.int 4))) (some (handD ns [i1, i2, i3, i4]) :: es) (.int i4) := ev_op (ev_var rfl) ev_int (rd_ixL rfl)
theorem ev_h0 {ns : List Int} {i1 i2 i3 i4 : Int} {es : Es} : EvD K (tOp (rIxL K) (tVar 0) (tC (.int 0))) (some (handD ns [i1, i2, i3, i4]) :: es) (.lst (ns.map .int)) := ev_op (ev_var rfl) ev_int (rd_ixL rfl)
theorem sc_law_draw : FnScope ["_law_hand_here", "_law_many", "_law_cell", "_law_digit", "_law_number"] ["_law_hand_here", "_law_many"] (defScope Hd.s_law_draw) := ⟨rfl, rfl, rfl, by decide +kernel, rfl, by decide +kernel, by decide +kernel⟩
def sp_law_draw (K : PySem.W.Frag) : Sp := spM K (fun x : Addr × Int => moH K x.1) (fun x => [.adr x.1, .int x.2]) (fun x => 1 ≤ x.2 ∧ x.2 < 1000000) (fun x d => ∃ n : Nat, (n : Int) < x.2 ∧ d = dn n)
theorem cal_law_draw (T : Txt K mg) : C8.Cal P w K mg base 1 "_law_draw" (sp_law_draw K) [] := by
  obtain ⟨fd, F⟩ := T.f_law_draw
  have nd := sc_law_draw.nd
  refine ⟨_, fd, ["_law_hand_here", "_law_many"], [], F.ok sc_law_draw (fun vs H Q E h => ?_) (fun cdv A outer s H vs Q E hr h => ?_), T.m_law_draw, F.kp, F.bindsN fun kV doc pm an cdv ct us hu => (match us, hu with | [_, _], _ => rfl), .nil⟩
  · obtain ⟨y, G, _, r, _⟩ := h
    rw [r.length]; rfl
  obtain ⟨⟨h, many⟩, G, hs, r, mo, ⟨h1, h2⟩, q⟩ := h
  simp only at h1 h2 q mo
  refine ⟨_, PSs.nox
(pss_cons (ps_if (PW.pt (pw_and (pt_cmpR op_eq (pe_ix (kIxL K) (pv 0) pe_int (fun _ _ => rfl)) pe_int (nomark _)) (pw_and1 (pt_cmpR op_lt (pe_ix (kIxL K) (pv 0) pe_int (fun _ _ => rfl)) (pe_callB (kLen K) (by rfl) T.len (by decide +kernel) (pa_cons (pe_ix (kIxL K) (pv 0) pe_int (fun _ _ => rfl)) pa_nil)) (nomark _))))) (pss_cons (ps_set (i := 2) nd rfl (by first | exact Or.inl rfl | exact Or.inr rfl) (pe_ix (kIxL K) (pe_ix (kIxL K) (pv 0) pe_int (fun _ _ => rfl)) (pe_ix (kIxL K) (pv 0) pe_int (fun _ _ => rfl)) (fun _ _ => rfl)))
      (pss_cons (ps_asg (pe_op op_add (pe_ix (kIxL K) (pv 0) pe_int (fun _ _ => rfl)) pe_int) (pg_sub (pv 0) pe_int set_list))
      (pss_cons (ps_asg (pe_op op_mod (pe_callTy call_int1 (by rfl) T.int (by decide +kernel) (pa_cons (pe_op op_add (pe_op op_add (pe_op op_mul (pe_ix (kIxL K) (pv 0) pe_int (fun _ _ => rfl)) pe_int) (pv 2)) pe_int) pa_nil)) pe_int) (pg_sub (pv 0) pe_int set_list))
      (pss_one (ps_if (pt_cmpR op_ge (pv 2) (pe_op op_pow pe_int pe_int) (nomark _)) (pss_one (ps_asg (pv 2) (pg_sub (pv 0) pe_int set_list))) pss_nil))))) pss_nil)
      (pss_cons (ps_if (pt_cmpR op_gt (pe_ix (kIxL K) (pv 0) pe_int (fun _ _ => rfl)) pe_int (nomark _)) (pss_cons (ps_set (i := 3) nd rfl (by first | exact Or.inl rfl | exact Or.inr rfl) (pe_op op_mod (pe_callTy call_int1 (by rfl) T.int (by decide +kernel) (pa_cons (pe_ix (kIxL K) (pv 0) pe_int (fun _ _ => rfl)) pa_nil)) (pv 1)))
      (pss_cons (ps_asg (pe_op op_fdiv (pe_ix (kIxL K) (pv 0) pe_int (fun _ _ => rfl)) (pv 1)) (pg_sub (pv 0) pe_int set_list))
      (pss_one (ps_ret (pv 3))))) pss_nil)
      (pss_cons (ps_asg (pe_op op_add (pe_ix (kIxL K) (pv 0) pe_int (fun _ _ => rfl)) pe_int) (pg_sub (pv 0) pe_int set_list))
      (pss_cons (ps_set (i := 4) nd rfl (by first | exact Or.inl rfl | exact Or.inr rfl) (pe_op op_mod (pe_callTy call_int1 (by rfl) T.int (by decide +kernel) (pa_cons (pe_op op_mul (pe_callTy call_int1 (by rfl) T.int (by decide +kernel) (pa_cons (pe_op op_add (pe_ix (kIxL K) (pv 0) pe_int (fun _ _ => rfl)) (pe_op op_mul pe_int (pe_ix (kIxL K) (pv 0) pe_int (fun _ _ => rfl)))) pa_nil)) pe_int) pa_nil)) pe_int))
      (pss_cons (ps_set (i := 4) nd rfl (by first | exact Or.inl rfl | exact Or.inr rfl) (pe_op op_mod (pe_callTy call_int1 (by rfl) T.int (by decide +kernel) (pa_cons (pe_op op_mul (pv 4) (pe_op op_add (pe_op op_fdiv (pv 4) pe_int) pe_int)) pa_nil)) pe_int))
      (pss_cons (ps_set (i := 4) nd rfl (by first | exact Or.inl rfl | exact Or.inr rfl) (pe_op op_mod (pe_callTy call_int1 (by rfl) T.int (by decide +kernel) (pa_cons (pe_op op_mul (pv 4) (pe_op op_add (pe_op op_fdiv (pv 4) pe_int) pe_int)) pa_nil)) pe_int))
      (pss_one (ps_ret (pe_op op_mod (pe_callTy call_int1 (by rfl) T.int (by decide +kernel) (pa_cons (pe_op op_fdiv (pv 4) pe_int) pa_nil)) (pv 1))))))))))
    , ?_⟩
  obtain ⟨tk, hg, c, ns, i1, i2, i3, i4, hh, gc, p0, p1, p2, p3, p4⟩ := mo
  have se : SlE K G (start ["_law_hand_here", "_law_many", "_law_cell", "_law_digit", "_law_number"] vs) [some (.adr h), some (.int many), none, none, none] := SlE.start (N := ["_law_hand_here", "_law_many", "_law_cell", "_law_digit", "_law_number"]) (ds := [.adr h, .int many]) r
  have hc0 : HC K h c ns G H [i1, i2, i3, i4] [some (.int many), none, none, none] (start ["_law_hand_here", "_law_many", "_law_cell", "_law_digit", "_law_number"] vs) H := ⟨G, .of (.refl hs), tk, hg, hh, gc, se⟩
  refine hx_run (Pr := fun i st => 0 ≤ i ∧ i < many ∧ ∃ i1 i2 i3 i4 : Int, st = [i1, i2, i3, i4] ∧ 0 ≤ i1 ∧ 0 ≤ i2 ∧ 0 ≤ i3 ∧ 0 ≤ i4) hc0 ?_ fun i st' es' σ' H' ⟨a1, a2, j1, j2, j3, j4, est, b1, b2, b3, b4⟩ ⟨G', k, tk', g', hh', gc', sl'⟩ => ?_
  · refine hx_seq (Hx.imp (N := fun st es => ∃ j1 j2 j3 j4 : Int, ∃ o, st = [j1, j2, j3, j4] ∧ es = [some (.int many), o, none, none] ∧ 0 ≤ j1 ∧ 0 ≤ j2 ∧ 0 ≤ j3 ∧ 0 ≤ j4) ?_ ?_)
    · refine hx_if (et_and (a := decide (i2 = 0)) (et_test (ev_op ev_h2 ev_int rd_eqI)) fun _ => et_test (ev_op ev_h1 (ev_cb (ea_cons ev_h0 ea_nil) rc_lenL) rd_b0)) (fun hb => ?_) fun _ => hx_next ⟨i1, i2, i3, i4, none, rfl, rfl, p1, p2, p3, p4⟩
      rw [Bool.and_eq_true, decide_eq_true_eq, decide_eq_true_eq, List.length_map] at hb
      obtain ⟨j, rfl⟩ : ∃ j : Nat, i1 = (j : Int) := ⟨i1.toNat, by omega⟩
      have hj : j < ns.length := by omega
      have hnj : 0 ≤ ns[j] := p0 _ (List.getElem_mem hj)
      have hat : (ns.map Dt.int)[j]? = some (.int ns[j]) := by rw [List.getElem?_map, List.getElem?_eq_getElem hj]; rfl
      refine hx_seq (hx_asg (ev_op ev_h0 ev_h1 (rd_ixL (atI_nat hat))) (hx_seq (hx_set 0 (by simp) (ev_add ev_h1 ev_int) (hx_seq (hx_set 2 (by simp) (ev_mod (ev_i1 (ev_add (ev_add (ev_mul ev_h3 ev_int (.inr ⟨by decide, by decide⟩)) (ev_var rfl)) ev_int)) ev_int (by decide)) ?_)))))
      have m3 : 0 ≤ (i3 * 69621 + ns[j] + 11) % 2147483629 := Int.emod_nonneg _ (by decide)
      refine hx_if (et_test (ev_op (ev_var rfl) (ev_op ev_int ev_int (rd_ic (C := CPow) (f := fun i j => i ^ j.toNat) ⟨by decide, by decide, by decide⟩)) rd_b0)) (fun _ => hx_set 1 (by simp) (ev_var rfl) ⟨_, _, _, _, _, rfl, rfl, by omega, hnj, m3, p4⟩) fun _ => hx_next ⟨_, _, _, _, _, rfl, rfl, by omega, p2, m3, p4⟩
    · rintro st es ⟨j1, j2, j3, j4, o, rfl, rfl, b1, b2, b3, b4⟩
      refine hx_seq (hx_if (et_test (ev_op ev_h2 ev_int rd_b0)) (fun _ => ?_) fun _ => hx_next ?_)
      · refine hx_seq (hx_asg (i := 2) (ev_mod (ev_i1 ev_h2) (ev_var rfl) (by omega)) (hx_seq (hx_set 1 (by simp) (ev_div ev_h2 (ev_var rfl) ⟨by omega, by omega⟩) (hx_ret (ev_var rfl) ⟨Int.emod_nonneg _ (by omega), Int.emod_lt_of_pos _ (by omega), _, _, _, _, rfl, b1, Int.ediv_nonneg b2 (by omega), b3, b4⟩))))
      · have k1 : ∀ x : Int, 0 ≤ x % 2147483647 ∧ x % 2147483647 < 2147483647 := fun x => ⟨Int.emod_nonneg _ (by decide), Int.emod_lt_of_pos _ (by decide)⟩
        refine hx_seq (hx_set 3 (by simp) (ev_add ev_h4 ev_int) (hx_seq (hx_asg (i := 3) (ev_mod (ev_i1 (ev_mul (ev_i1 (ev_add ev_h3 (ev_mul ev_int ev_h4 (.inl ⟨by decide, by decide⟩)))) ev_int (.inr ⟨by decide, by decide⟩))) ev_int (by decide)) ?_)))
        have q1 := k1 ((j3 + 7919 * (j4 + 1)) * 48271)
        generalize (j3 + 7919 * (j4 + 1)) * 48271 % 2147483647 = x1 at q1
        refine hx_seq (hx_asg (i := 3) (ev_mod (ev_i1 (ev_mul (ev_var rfl) (ev_add (ev_div (ev_var rfl) ev_int ⟨by decide, by decide⟩) ev_int) (.inl ⟨by omega, by omega⟩))) ev_int (by decide)) ?_)
        have q2 := k1 (x1 * (x1 / 1009 + 69621))
        generalize x1 * (x1 / 1009 + 69621) % 2147483647 = x2 at q2
        refine hx_seq (hx_asg (i := 3) (ev_mod (ev_i1 (ev_mul (ev_var rfl) (ev_add (ev_div (ev_var rfl) ev_int ⟨by decide, by decide⟩) ev_int) (.inl ⟨by omega, by omega⟩))) ev_int (by decide)) ?_)
        exact hx_ret (ev_mod (ev_i1 (ev_div (ev_var rfl) ev_int ⟨by decide, by decide⟩)) (ev_var rfl) (by omega)) ⟨Int.emod_nonneg _ (by omega), Int.emod_lt_of_pos _ (by omega), _, _, _, _, rfl, b1, b2, b3, by omega⟩
  · subst est
    exact q _ G' H' (dn i.toNat) ⟨i.toNat, by omega, rfl⟩ ⟨k, tk', g', c, ns, j1, j2, j3, j4, hh', gc', p0, b1, b2, b3, b4⟩ (by rw [show dn i.toNat = Dt.int i by show Dt.int _ = _; congr 1; omega]; exact .int _)
end
end DL
end
section
set_option Elab.async false
set_option linter.all false
set_option maxRecDepth 100000
set_option maxHeartbeats 0
/-! SpLam: sorted by the key (len(c), c) -/
namespace DL
open PySem L2 PyProof.Rows
theorem reads_ints {h : Heap} : ∀ {vs : List Value} {ns : List Int}, IntsAre vs ns → ReadsAll h vs (ns.map PyData.int) []
  | _, _, .nil => .nil
  | _, _, .cons k t r => .cons (.int k t) (reads_ints r)
section
variable {prog : Program} {w : World} {A : Around} {s : Shared}
def lamB (x : Str) (p1 p2 p3 p4 p5 : Pos) (k : Nat) : Expr := .Tuple [.Call (.Name "len" p1) [.Name x p2] [] p3, .Name x p4] k p5
theorem lam_key {f a : Addr} {name qual x : Str} {params : Arguments} {scope : Scope} {cl : List (Str × Addr)} {pm ctv : Value} {c' : Addr} {p1 p2 p3 p4 p5 : Pos} {k : Nat} {mg : Str → Option Value} {its : List Value} {ns : List Int}
    (ho : s.heap.get? f = some (PySem.W.kla_obj name qual params (lamB x p1 p2 p3 p4 p5 k) scope cl pm c' ctv)) (hcd : s.heap.CodeRec (.ref c') qual) (nl : s.heap.NoLimit) (glob : s.heap.Ns mainGlobals mg) (hlen : mg "len" = none) (bl : ∃ mb, s.heap.Ns builtinsNs mb ∧ ∀ x : Str, x ≠ "__name__" → mb x = bootBuiltins x)
    (hk : scope.kind = .function) (hco : scope.isCoroutine = false) (hgen : scope.isGenerator = false) (hcell : ∀ x ∈ scope.names, x.2 ≠ .cell) (hx : scope.names.lookup x = some .local) (hl : scope.names.lookup ("len" : Str) = some .globalImplicit) (hd : (x == ("__debug__" : Str)) = false)
    (hbind : ∀ v, bindArgs (PySem.W.kla_fn name qual params (lamB x p1 p2 p3 p4 p5 k) scope cl pm (.ref c') ctv) ⟨[v], []⟩ = pure [(x, v)]) (hroom : A.depth < recursionLimit) (ht : IsTup s.heap a its.toArray) (hi : IntsAre its ns) (hn : ns.length < 1000) :
    wpAny (model prog w) A (call (.ref f) [.ref a]) (PySem.W.KeyPure (.tuple [.int ns.length, .tuple (ns.map .int)]) s) (fun _ _ => False) s := by
  refine wpAny_call (PySem.W.kla_callFunE hroom ho rfl hco hgen rfl hcd ?_)
  rw [hbind]
  refine wpAny_pure (wpAny_newFunctionEnv hcell (fun y hy => by rw [List.mem_singleton.mp hy]; exact hx) (fun h₁ hns hsb => ⟨nl.fresh _ hsb, PySem.W.kla_codeExpr ?_⟩) hk)
  have kp : ∀ b o, s.heap.get? b = some o → h₁.get? b = some o := fun b o e => hsb.extBut b o (Nat.ne_of_lt (Heap.lt_size e)) (Heap.get?_push_of_some _ e)
  have hll : ∀ (Q : Value → Shared → Prop) (E : Value → Shared → Prop) (tk : Nat) (h2 : Heap) (A' : Around) (p : Pos), (∀ b o, h₁.get? b = some o → h2.get? b = some o) → Q (.ref a) { s with heap := h2, toks := tk } →
      wpAny (model prog w) A' (eval (.Name x p) (newEnv scope s.heap.objs.size mainGlobals cl (qual ++ ".<locals>.") (some f) (.ref c') none builtinsNs)) Q E { s with heap := h2, toks := tk } := fun Q E tk h2 A' p k2 q =>
    wpAny_Name (wpAny_loadName_local hk hx (hns.keeps k2) (show List.lookup x [(x, Value.ref a)] = some (Value.ref a) from List.lookup_cons_self) q) hd
  have sz := its.length
  have ht1 : IsTup h₁ a its.toArray := by
    obtain ⟨o, e, r⟩ := ht
    exact ⟨o, kp _ _ e, r⟩
  have hsz : its.toArray.size = ns.length := by rw [List.size_toArray]; exact hi.length
  have fin : ∀ (hh : Heap) (T : Addr) (u : Tok), (∀ b o, h₁.get? b = some o → hh.get? b = some o) → hh.get? T = some { cls := .type "tuple", data := .seq [Value.int its.toArray.size u, Value.ref a].toArray } → Reads hh (.ref T) (.tuple [.int ns.length, .tuple (ns.map .int)]) [] := fun hh T u kk e => by
    obtain ⟨o, e1, hc, n, hd'⟩ := ht1
    refine .tuple (as := []) e rfl rfl ?_
    refine .cons (as := []) (bs := []) ?_ (.cons (as := []) (bs := []) (.tuple (kk _ _ e1) hc hd' (by simpa using reads_ints hi)) .nil)
    rw [hsz]
    exact .int _ _
  refine wpAny_Tuple (args_cons ?_ rfl)
  obtain ⟨mb, hb1, hb2⟩ := bl
  refine wpAny_Call_Name_kw (Calls.Name_function_global hk hl (Calls.loadGlobal_builtin (s := { s with heap := h₁, toks := _ }) (glob.keeps kp) hlen (hb1.keeps kp) ((hb2 "len" (by decide)).trans PySem.boot_len) ?_) (by decide))
  refine callWith_builtin1 (args_cons (hll _ _ _ h₁ _ _ (fun _ _ e => e) ?_) rfl)
  refine args_nil ?_
  refine len_tuple (s := { s with heap := h₁, toks := _ }) ht1 (by rw [hsz]; omega) ?_
  refine args_cons (hll _ _ _ h₁ _ _ (fun _ _ e => e) ?_) rfl
  refine args_nil ⟨by show 2 ≤ sizeLine; decide, ?_⟩
  exact ⟨_, _, rfl, fun b o e => Heap.get?_push_of_some _ (kp b o e), fin _ _ _ (fun b o e => Heap.get?_push_of_some _ e) (Heap.get?_push_size _ rfl)⟩
end
end DL
end
section
set_option Elab.async false
set_option linter.all false
set_option maxRecDepth 100000
set_option maxHeartbeats 0
/-! SpSort: sorted lists of tuples of ints, of any lengths -/
namespace DL
open PySem L2 PyProof.Rows
abbrev TB := V × List Int
def RTv (h : Heap) (v : Value) (b : TB) : Prop := RelV b.1 v ∧ ∃ (t : Addr) (its : List Value), v = .ref t ∧ IsTup h t its.toArray ∧ IntsAre its b.2
theorem rtv_keep {h h' : Heap} (k : ∀ b o, h.get? b = some o → h'.get? b = some o) {v : Value} {b : TB} (r : RTv h v b) : RTv h' v b := by
  obtain ⟨r1, t, its, e, ⟨o, e1, q⟩, i⟩ := r
  exact ⟨r1, t, its, e, ⟨o, k _ _ e1, q⟩, i⟩
section
variable {X : Cx} {pins : List (Addr × Obj)} {σ : L2.St} {H : Hp} {s : Shared}
theorem each_of (I : Inv X pins σ H s) : ∀ {bs : List TB} {us : List Value}, Vals (bs.map Prod.fst) us → (∀ b ∈ bs, ∃ t, b.1 = .ref t ∧ SqT X.K H t (b.2.map V.int)) → PySem.W.EachIs (RTv s.heap) us bs
  | [], _, .nil, _ => .nil
  | b :: bs, _, .cons r t, h => by
    refine .cons ⟨r, ?_⟩ (each_of I t fun b hb => h b (by simp [hb]))
    obtain ⟨t, e, hq⟩ := h b (by simp)
    obtain ⟨its, rv, raw, _⟩ := I.tuple hq
    rw [e] at r
    exact ⟨t, its, r, raw, rv.ints⟩
theorem vals_each {h : Heap} : ∀ {bs : List TB} {us : List Value}, PySem.W.EachIs (RTv h) us bs → Vals (bs.map Prod.fst) us
  | _, _, .nil => .nil
  | _, _, .cons r t => .cons r.1 (vals_each t)
theorem reads_tup {h : Heap} {v : Value} {b : TB} (r : RTv h v b) : ∃ as, Reads h v (.tuple (b.2.map .int)) as := by
  obtain ⟨_, t, its, rfl, ⟨o, e, hc, n, hd⟩, hi⟩ := r
  exact ⟨[], .tuple (as := []) e hc hd (by simpa using reads_ints hi)⟩
theorem alike_tups (xs ys : List Int) : PySem.W.alike (.tuple (xs.map .int)) (.tuple (ys.map .int)) = true := by
  simp only [PySem.W.alike]
  exact PySem.W.alike_ints xs ys
theorem depth_tup (xs : List Int) : PyData.depth (.tuple (xs.map .int)) = 1 := by
  simp only [PyData.depth, PySem.W.depth_ints]
def leI (a b : TB) : Bool := decide (a.2 ≤ b.2)
theorem leI_eq : PySem.W.dataLe false (fun b : TB => PyData.tuple (b.2.map .int)) = leI := by
  funext p q
  show (!PySem.W.dataLt (.tuple (q.2.map .int)) (.tuple (p.2.map .int))) = decide (p.2 ≤ q.2)
  rw [PySem.W.dataLt_tuple]
  show (!PySem.W.rowLt (q.2.map .int) (p.2.map .int)) = _
  rw [PySem.W.dataLt_ints]
  by_cases h : q.2 < p.2
  · have : ¬ p.2 ≤ q.2 := fun z => List.not_lt.mpr z h
    simp [h, this]
  · have : p.2 ≤ q.2 := List.not_lt.mp h
    simp [h, this]
/-- a list of tuples of ints, sorted -/
def rSortedN (K : PySem.W.Frag) : List V → Hp → VK → Prop := fun vs H Q => ∃ (a : Addr) (bs : List TB), vs = [V.ref a] ∧ SqL K H a (bs.map Prod.fst) ∧ (∀ b ∈ bs, b.2 ≠ [] ∧ ∃ t, b.1 = .ref t ∧ SqT K H t (b.2.map V.int)) ∧
  ∀ p, H p = none → Q (.ref p) (upd H p (.lst ((bs.mergeSort leI).map Prod.fst)))
theorem cr_sortedN (hu : X.A.units + 64 < cLine) : CallR X (.builtin "sorted") (rSortedN X.K) := by
  intro pins s σ H vs us Q I r h
  obtain ⟨a, bs, rfl, hs, hb, q⟩ := h
  obtain ⟨its, rv, hl, hz⟩ := I.list hs
  rw [Vals.ref1 r]
  have e := each_of I rv fun b hb' => (hb b hb').2
  have hlen : its.length = bs.length := by rw [← rv.length, List.length_map]
  refine PySem.W.sorted_data (enc := fun b : TB => PyData.tuple (b.2.map .int)) hl.isList e (e.mono fun _ _ r => reads_tup r) (PySem.W.AllAlike.of fun b b' => alike_tups b.2 b'.2) (.inl fun d hd => ?_) (by rw [List.length_map] at hz; exact hz) (fun b _ => by rw [depth_tup]; omega) fun out ho eo => ?_
  · obtain ⟨b, hb', rfl⟩ := List.mem_map.mp hd
    have hn := (hb b hb').1
    cases e2 : b.2 with
    | nil => exact (hn e2).elim
    | cons x r => exact ⟨_, _, rfl⟩
  · rw [leI_eq] at eo
    obtain ⟨ep, he'⟩ := PyProof.Rows.sortedAll_at s.heap its out.toArray
    have hl2 : ((bs.mergeSort leI).map Prod.fst).length ≤ sizeLine := by rw [List.length_map, List.length_mergeSort]; rw [List.length_map] at hz; exact hz
    exact ⟨.ref _, upd H (s.heap.objs.size + 1) (.lst ((bs.mergeSort leI).map Prod.fst)), I.laid (t' := s.toks) (fun _ _ => PyProof.Rows.sortedAll_old) (Nat.le_succ _) ⟨hl2, out, ep, vals_each eo, he'⟩, rfl, q _ (I.hok.fresh (Nat.le_succ _))⟩
end
theorem kSortN {X : Cx} (K : PySem.W.Frag) (hK : X.K = K) (hu : X.A.units + 64 < cLine) : CallR X (.builtin "sorted") (rSortedN K) := hK ▸ cr_sortedN hu
/-! ### by data -/
section
variable {K : PySem.W.Frag}
theorem rp_crs {G : Hp} : ∀ {bs : List TB}, (∀ b ∈ bs, Rp K G b.1 (.tup (b.2.map .int))) → RpAll K G (bs.map Prod.fst) (bs.map fun b => Dt.tup (b.2.map .int))
  | [], _ => .nil
  | b :: bs, h => .cons (h b (by simp)) (rp_crs fun b hb => h b (by simp [hb]))
theorem zip_crs {G : Hp} : ∀ {xs : List V} {cs : List (List Nat)}, RpAll K G xs (cs.map crD) → (xs.zip (cs.map zi)).map Prod.fst = xs ∧ ∀ b ∈ xs.zip (cs.map zi), Rp K G b.1 (.tup (b.2.map .int)) ∧ b.2 ∈ cs.map zi
  | _, [], .nil => ⟨rfl, fun b hb => by simp at hb⟩
  | x :: xs, c :: cs, .cons r t => by
    obtain ⟨h1, h2⟩ := zip_crs t
    refine ⟨by simp only [List.map_cons, List.zip_cons_cons, h1], fun b hb => ?_⟩
    simp only [List.map_cons, List.zip_cons_cons, List.mem_cons] at hb
    rcases hb with e | hb
    · subst e
      exact ⟨by rw [← dn_zi]; exact r, by simp⟩
    · obtain ⟨q1, q2⟩ := h2 b hb
      exact ⟨q1, by simp only [List.map_cons, List.mem_cons]; exact .inr q2⟩
theorem zip_snd {xs : List V} {cs : List (List Nat)} (h : xs.length = cs.length) : (xs.zip (cs.map zi)).map Prod.snd = cs.map zi := by
  rw [List.map_snd_zip]; simp [h]
theorem rp_tup_sq {G H : Hp} (hs : Same G H) {v : V} {ns : List Int} (r : Rp K G v (.tup (ns.map .int))) : ∃ t, v = .ref t ∧ SqT K H t (ns.map V.int) := by
  cases r with
  | tup h1 h2 => exact ⟨_, rfl, by rw [← rp_ints h2]; exact SqT.of (hs _ _ h1)⟩
/-- the sorted pairs' data -/
theorem sorted_data_eq {le : TB → TB → Bool} {leL : List Int → List Int → Prop} (hle : ∀ a b, le a b = true ↔ leL a.2 b.2) (tr : ∀ a b c, leL a b → leL b c → leL a c) (tot : ∀ a b, leL a b ∨ leL b a) (anti : ∀ a b, leL a b → leL b a → a = b)
    {bs : List TB} {cs ms : List (List Nat)} (e : bs.map Prod.snd = cs.map zi) (hp : ms.Perm cs) (hs : ms.Pairwise fun a b => leL (zi a) (zi b)) : (bs.mergeSort le).map Prod.snd = ms.map zi := by
  have p1 : ((bs.mergeSort le).map Prod.snd).Perm (ms.map zi) := ((List.mergeSort_perm bs le).map Prod.snd).trans (by rw [e]; exact (hp.map zi).symm)
  have p2 : (bs.mergeSort le).Pairwise fun a b => le a b = true := List.pairwise_mergeSort (fun a b c h1 h2 => (hle a c).mpr (tr _ _ _ ((hle a b).mp h1) ((hle b c).mp h2))) (fun a b => by
    rw [Bool.or_eq_true]
    exact (tot a.2 b.2).imp (hle a b).mpr (hle b a).mpr) bs
  refine p1.eq_of_pairwise (fun a b _ _ h1 h2 => anti a b h1 h2) ?_ (List.Pairwise.map zi (fun a b h => h) hs)
  exact List.Pairwise.map Prod.snd (fun a b h => (hle a b).mp h) p2
theorem rc_sortN {cs ms : List (List Nat)} (hp : ms.Perm cs) (hs : ms.Pairwise fun a b => zi a ≤ zi b) (hne : ∀ c ∈ cs, c ≠ []) : RCL K (rSortedN K) [.lst (cs.map crD)] (ms.map crD) := fun vs G H hsame h Q q => by
  obtain ⟨v, rfl, r⟩ := one_rp h
  cases r with
  | lst h1 h2 =>
    rename_i a xs
    obtain ⟨z1, z2⟩ := zip_crs h2
    have hl : xs.length = cs.length := by rw [h2.length, List.length_map]
    refine ⟨a, xs.zip (cs.map zi), rfl, by rw [z1]; exact SqL.of (hsame _ _ h1), fun b hb => ?_, fun p hpn => ?_⟩
    · obtain ⟨q1, q2⟩ := z2 b hb
      refine ⟨fun e => ?_, rp_tup_sq hsame q1⟩
      obtain ⟨c, hc, e2⟩ := List.mem_map.mp q2
      have : zi c = [] := by rw [e2, e]
      exact hne c hc (by unfold zi at this; exact List.map_eq_nil_iff.mp this)
    · refine q p _ G _ (Ok.more hsame (same_upd hpn)) hpn (none_of hsame hpn) upd_same ?_
      have e := sorted_data_eq (le := leI) (leL := fun a b => a ≤ b) (fun a b => by unfold leI; exact decide_eq_true_iff) (fun a b c h1 h2 => List.le_trans h1 h2) (fun a b => List.le_total a b) (fun a b h1 h2 => List.le_antisymm h1 h2) (zip_snd hl) hp hs
      have r := rp_crs (K := K) (G := G) (bs := (xs.zip (cs.map zi)).mergeSort leI) fun b hb => (z2 b ((List.mergeSort_perm _ _).mem_iff.mp hb)).1
      have e2 : (((xs.zip (cs.map zi)).mergeSort leI).map fun b => Dt.tup (b.2.map .int)) = ms.map crD := by
        have : (fun b : TB => Dt.tup (b.2.map .int)) = (fun n : List Int => Dt.tup (n.map .int)) ∘ Prod.snd := rfl
        rw [this, ← List.map_map, e, List.map_map]
        apply List.map_congr_left
        intro c _
        show Dt.tup ((zi c).map .int) = crD c
        rw [← dn_zi]
      rw [e2] at r
      exact r
end
end DL
end
section
set_option Elab.async false
set_option linter.all false
set_option maxRecDepth 100000
set_option maxHeartbeats 0
/-! SpSet: sets of ints from lists; sets of tuples sorted -/
namespace L2
open PySem PySem.Spec PyProof.Rows
def bornS (w : World) : Obj := { cls := .type "set", dict := none, data := .set #[] 0 (.fresh 0 0 (!w.params.followText "set-order")) }
section
variable {P : Program} {w : World} {A : Around} {E : Value → Shared → Prop} {s : Shared}
theorem int_of_at {vs : List Value} {ns : List Int} (h : IntsAre vs ns) {i : Nat} {v : Value} (e : vs[i]? = some v) : ∃ k t, ns[i]? = some k ∧ v = .int k t := by
  induction h generalizing i with
  | nil => simp at e
  | cons k t _ ih =>
    cases i with
    | zero => cases e; exact ⟨k, t, rfl, rfl⟩
    | succ i => exact ih (by simpa using e)
set_option maxHeartbeats 0
theorem set_of_list {l : Addr} {items : Array Value} (ns : List Int) {Q : Value → Shared → Prop} (hh : A.handled = none) (hl : s.heap.IsList l items) (hit : IntsAre items.toList ns) (hb : ns.length + 1 < scanBound)
    (h : ∀ (h' : Heap) (tk c : Nat), SetR w h' s.heap.objs.size (fun j => decide (j ∈ ns)) c → c ≤ ns.length → (∀ b o, s.heap.get? b = some o → h'.get? b = some o) → Q (.ref s.heap.objs.size) { s with heap := h', toks := tk }) : wpAny (model P w) A (call (.type "set") [.ref l]) Q E s := by
  have hz : items.size = ns.length := by rw [← Array.length_toList]; exact IntsAre.length hit
  obtain ⟨_, _, k1⟩ := F.called_set.mro
  have k2 := F.called_set.made
  have k3 := F.called_set.sub
  refine wpAny_call (codeAny_of_tree (show wpAny _ _ (callAny (.type "set") _) _ _ _ from wpAny_pure ⟨Code.quiet_builtin _ (by decide +kernel), codeAny_builtin F.entry_type_call ?_⟩))
  rw [Around.under_plain (weight_type_call_type "set" [.ref l] []) rfl]
  have k4 := F.called_set.notType
  have k5 := F.called_set.canCreate
  have k6 := F.typeCall_set_1 (.ref l)
  repeat (any_goals (first | assumption | wp_step))
  refine codeAny_mono (code_set_led1 (.ref l) (E := E) (Q₁ := fun obj t => obj = .ref s.heap.objs.size ∧ t = { s with heap := s.heap.push (bornS w) }) ⟨rfl, rfl⟩) fun r t hr => ?_
  match r, hr with
  | .error _, hr => exact hr
  | .ok (.ret obj), hr =>
    obtain ⟨rfl, rfl⟩ := hr
    have born : (s.heap.push (bornS w)).get? s.heap.objs.size = some (bornS w) := Heap.get?_push_size _ rfl
    have isS : Shared.TypeIs { s with heap := s.heap.push (bornS w) } (.ref s.heap.objs.size) "set" := ⟨_, born, rfl⟩
    have k7 := F.called_set.init.lookup
    have k8 := F.called_set.init.bind (.ref s.heap.objs.size)
    repeat (any_goals (first | assumption | wp_step))
    refine codeAny_mono (codeAny_call_builtin (R := wants (fun r t => r = .none ∧ ∃ h' tk c, t = { s with heap := h', toks := tk } ∧ SetR w h' s.heap.objs.size (fun j => decide (j ∈ ns)) c ∧ c ≤ ns.length ∧ ∀ b o, s.heap.get? b = some o → h'.get? b = some o) E) F.called_set.init.plain F.entry_set_init (check_set_init_1 isS ?_)) fun r2 t2 hr2 => ?_
    · obtain ⟨⟨oc, od, odt, osl⟩, hol, hcl, nl, hdl⟩ := hl
      simp only at hcl hdl
      subst hcl hdl
      have ll : (s.heap.push (bornS w)).IsList l items := ⟨_, Heap.get?_push_of_some _ hol, rfl, nl, rfl⟩
      have hol2 : (s.heap.push (bornS w)).get? l = some { cls := .type "list", dict := od, data := .seq items nl, slots := osl } := Heap.get?_push_of_some _ hol
      have q1 := F.sub_list_set
      have q2 := F.sub_list_frozenset
      have q3 : (Value.type "list" == Value.type "dict") = false := by decide
      have lS : l < s.heap.objs.size := Heap.lt_size hol
      unfold Builtin.«set.__init__» noKeywords Builtin.Frozenset.updateFrom
      generalize hPI : pyIter = PI
      wp_walk
      subst hPI
      refine wpAny_pyIter_list ll (wpAny_bind (wpAny_runValue ?_))
      have sI : (s.heap.push (bornS w)).objs.size = s.heap.objs.size + 1 := Heap.size_push ..
      have lI : l ≠ (s.heap.push (bornS w)).objs.size := by rw [sI]; exact Nat.ne_of_lt (Nat.lt_succ_of_lt lS)
      refine set_update_ints ((Walks.list (show A.in1.in1.in1.handled = none by simp [hh]) _ l lI items).toS) s.heap.objs.size (by rw [sI]; simp; exact Nat.ne_of_gt lS) ns hz hb (fun i v hv => int_of_at hit (by rw [Array.getElem?_toList]; exact hv)) items.size 0 _ (by omega) (Nat.zero_le _)
        ⟨⟨_, Heap.get?_push_size _ rfl, rfl, rfl⟩, ll.push _⟩ ⟨0, Nat.le_refl 0, setR_new_at (Heap.get?_push_of_some _ born)⟩ fun t c hm hc hS => ?_
      obtain ⟨h', g2, d2, tk2, o2⟩ := t
      obtain rfl : g2 = s.gens := hm.gens
      obtain rfl : d2 = s.drawn := hm.drawn
      obtain rfl : o2 = s.os := hm.os
      refine (show wpAny _ _ _ _ _ _ from wpAny_pure (show wpAny _ _ (ret Value.none) _ _ _ from wpAny_pure ⟨rfl, h', tk2, c, rfl, hS, by rw [← hz]; exact hc, fun b o e => ?_⟩))
      have lb : b < s.heap.objs.size := Heap.lt_size e
      refine hm.heap b o ?_ (Heap.get?_push_of_some _ (Heap.get?_push_of_some _ e))
      rw [sI]
      simp
      exact ⟨Nat.ne_of_lt lb, Nat.ne_of_lt (Nat.lt_succ_of_lt lb)⟩
    · match r2, hr2 with
      | .error _, hr2 => exact hr2
      | .ok (.ret _), hr2 =>
        obtain ⟨rfl, h', tk, c, rfl, a1, a2, a3⟩ := hr2
        repeat (any_goals (first | assumption | wp_step))
        exact h _ _ _ a1 a2 a3
end
end L2
end
section
set_option Elab.async false
set_option linter.all false
set_option maxRecDepth 100000
set_option maxHeartbeats 0
/-! SpSetNe: set != set -/
namespace L2
open PySem PySem.Spec PyProof.Rows
theorem entry_set_neq : entryFor table "set.__ne__" = some Builtin.«frozenset.__ne__» := entryFor_alias (id' := "frozenset.__ne__") (by kernel_rfl) rfl (by decide +kernel) (by kernel_rfl)
section
variable {P : Program} {w : World} {A : Around} {E : Value → Shared → Prop} {s : Shared} {a b : Addr} {S S' : Int → Bool} {n n' : Nat}
theorem isset_yes {Q : Bool → Shared → Prop} (h : s.TypeIs (.ref b) "set") (q : Q true s) : wpAny (model P w) A (Builtin.Frozenset.isAnySet (.ref b)) Q E s := by
  unfold Builtin.Frozenset.isAnySet orM isInstance
  refine wpAny_bind (wpAny_bind (wpAny_typeOf h ?_))
  rw [F.sub_set_set]
  exact wpAny_pure (wpAny_pure q)
structure Is (w : World) (s : Shared) (a : Addr) (es : Array (Int × Value)) (ep : Nat) (t : SetTable) (o : Obj) : Prop where
  ho : s.heap.get? a = some o
  hd : o.data = .set es ep t
  hf : t.fits es.size = true
variable {es es2 : Array (Int × Value)} {ep ep2 : Nat} {t t2 : SetTable} {o o2 : Obj}
theorem is_entries {Q : Array (Int × Value) → Shared → Prop} (h : Is w s a es ep t o) (q : Q es s) : wpAny (model P w) A (setEntries a) Q E s := by
  unfold setEntries
  exact wpAny_bind (wpAny_setState_of h.ho h.hd h.hf (wpAny_pure q))
theorem is_epoch {Q : Nat → Shared → Prop} (h : Is w s a es ep t o) (q : Q ep s) : wpAny (model P w) A (setEpoch a) Q E s := by
  unfold setEpoch
  exact wpAny_bind (wpAny_setState_of h.ho h.hd h.hf (wpAny_pure q))
theorem is_size {Q : Nat → Shared → Prop} (h : Is w s a es ep t o) (q : Q es.size s) : wpAny (model P w) A (Builtin.Frozenset.sizeOf a) Q E s := by
  unfold Builtin.Frozenset.sizeOf
  exact wpAny_bind (is_entries h (wpAny_pure q))
theorem quiet_int {k : Int} {u : Tok} {Q : Bool → Shared → Prop} (q : Q true s) : wpAny (model P w) A (Builtin.Frozenset.quietEq (.int k u)) Q E s := by
  unfold Builtin.Frozenset.quietEq
  exact wpAny_pure q
def IntE (e : Int × Value) : Prop := ∃ k u, e.2 = Value.int k u ∧ e.1 = hashInt k
theorem walk_unseen {Q : List (Int × Value) → Shared → Prop} (h1 : Is w s a es ep t o) (h2 : Is w s b es2 ep2 t2 o2) (g1 : ∀ e ∈ es.toList, IntE e) (g2 : ∀ e ∈ es2.toList, IntE e) (q : Q es.toList s) : wpAny (model P w) A (Builtin.Frozenset.walkUnseen a b) Q E s := by
  unfold Builtin.Frozenset.walkUnseen
  refine wpAny_bind (is_entries h1 (wpAny_bind (is_entries h2 ?_)))
  refine wpAny_bind (wpAny_forIn_list _ (fun l r s' => s' = s ∧ r.1 = none ∧ ∀ e ∈ l, IntE e) _ (fun x rest r s' ⟨es', er, hl⟩ => ?_) (fun r s' ⟨es', er, _⟩ => ?_) _ _ ⟨rfl, rfl, fun e he => (List.mem_append.mp he).elim (g1 e) (g2 e)⟩)
  · subst es'
    obtain ⟨hx, xv⟩ := x
    obtain ⟨k, u, e1, _⟩ := hl (hx, xv) (by simp)
    have e1 : xv = Value.int k u := e1
    subst e1
    refine wpAny_bind (quiet_int ?_)
    exact wpAny_pure ⟨rfl, rfl, fun e he => hl e (by simp [he])⟩
  · subst es'
    obtain ⟨r1, r2⟩ := r
    cases er
    exact wpAny_pure q
theorem subset_of {id : String} {Q : Bool → Shared → Prop} {e : Bool} (h1 : Is w s a es ep t o) (h2 : Is w s b es2 ep2 t2 o2) (g1 : ∀ e ∈ es.toList, IntE e) (g2 : ∀ e ∈ es2.toList, IntE e) (hS : s.heap.SetOf (intKind P w) b S' n') (hz : es.size ≤ es2.size)
    (hE : e = true ↔ ∀ x ∈ es.toList, ∀ k u, x.2 = Value.int k u → S' k = true) (q : Q e s) : wpAny (model P w) A (Builtin.Frozenset.subsetOf id a b) Q E s := by
  unfold Builtin.Frozenset.subsetOf
  refine wpAny_bind (is_size h1 (wpAny_bind (is_size h2 ?_)))
  rw [if_neg (by omega)]
  refine wpAny_bind (is_epoch h1 (wpAny_bind (walk_unseen h1 h2 g1 g2 ?_)))
  refine wpAny_bind (wpAny_forIn_list _ (fun l r s' => s' = s ∧ r.1 = none ∧ (∀ x ∈ l, IntE x) ∧ (e = true ↔ ∀ x ∈ l, ∀ k u, x.2 = Value.int k u → S' k = true)) _ (fun x rest r s' ⟨es', er, hl, hE'⟩ => ?_) (fun r s' ⟨es', er, _, hE'⟩ => ?_) _ _ ⟨rfl, rfl, g1, hE⟩)
  · subst es'
    obtain ⟨hx, xv⟩ := x
    obtain ⟨k, u, e1, e2⟩ := hl (hx, xv) (by simp)
    have e1 : xv = Value.int k u := e1
    have e2 : hx = hashInt k := e2
    subst e1 e2
    refine wpAny_bind (wpAny_holding (wpAny_setFind_of (knd := intKind P w) (k := k) (intKind_is P w k u) rfl hS fun r hr => ?_))
    cases r with
    | none =>
      have hk : S' k = false := hr.symm
      have : e = false := by
        cases e with
        | false => rfl
        | true =>
          have := (hE'.mp rfl) (hashInt k, Value.int k u) (by simp) k u rfl
          rw [hk] at this; cases this
      subst this
      exact wpAny_pure (wpAny_pure q)
    | some r =>
      have hk : S' k = true := hr.symm
      show wpAny _ _ _ _ _ _
      refine wpAny_bind ?_
      unfold Builtin.Frozenset.unchanged
      refine wpAny_bind (is_epoch h1 ?_)
      rw [if_neg (by simp)]
      refine wpAny_pure (wpAny_pure ⟨rfl, rfl, fun x hx => hl x (by simp [hx]), hE'.trans ⟨fun z x hx => z x (by simp [hx]), fun z x hx => ?_⟩⟩)
      rcases List.mem_cons.mp hx with y | y
      · subst y
        intro k' u' e'
        cases e'
        exact hk
      · exact z x y
  · subst es'
    obtain ⟨r1, r2⟩ := r
    cases er
    have : e = true := hE'.mpr fun x hx => by cases hx
    subst this
    exact wpAny_pure q
theorem ne_sets {Q : Value → Shared → Prop} (h1 : s.heap.SetOf (intKind P w) a S n) (h2 : s.heap.SetOf (intKind P w) b S' n') (g1 : ∀ o es ep t, s.heap.get? a = some o → o.data = .set es ep t → ∀ e ∈ es.toList, IntE e) (g2 : ∀ o es ep t, s.heap.get? b = some o → o.data = .set es ep t → ∀ e ∈ es.toList, IntE e) (hu : A.units < cLine) {e : Bool} (hE : e = true ↔ (n = n' ∧ ∀ k, S k = true → S' k = true)) (q : Q (.bool (!e)) s) : wpAny (model P w) A (compareOp .NotEq (.ref a) (.ref b)) Q E s := by
  obtain ⟨o, es, ep, t, ho, hx, hd, he, hm, hs, hf, hn⟩ := h1
  obtain ⟨o2, es2, ep2, t2, ho2, hx2, hd2, he2, hm2, hs2, hf2, hn2⟩ := id h2
  have T1 : s.TypeIs (.ref a) "set" := ⟨o, ho, hx.1⟩
  have T2 : s.TypeIs (.ref b) "set" := ⟨o2, ho2, hx2.1⟩
  have i1 : Is w s a es ep t o := ⟨ho, hd, hf⟩
  have i2 : Is w s b es2 ep2 t2 o2 := ⟨ho2, hd2, hf2⟩
  have ge1 := g1 o es ep t ho hd
  have ge2 := g2 o2 es2 ep2 t2 ho2 hd2
  refine (show wpAny (model P w) A (richCompare .NotEq (.ref a) (.ref b)) Q E s from wpAny_richCompare_same_room T1 T2 F.slot_set_ne (wpAny_call_entry F.slot_set_ne T1 entry_set_neq ?_ (F.args_set_ne_2 _ _)) hu)
  unfold Builtin.«frozenset.__ne__»
  refine wpAny_bind (wpAny_pure ?_)
  refine wpAny_bind (isset_yes T2 ?_)
  rw [if_neg (by simp)]
  refine wpAny_bind (m := Builtin.Frozenset.addrOf _) (wpAny_pure (wpAny_bind (m := Builtin.Frozenset.addrOf _) (wpAny_pure ?_)))
  refine wpAny_bind (is_size i1 (wpAny_bind (is_size i2 ?_)))
  refine wpAny_bind ?_
  by_cases hne : es.size = es2.size
  · rw [if_neg (by simp [hne])]
    have no : ∀ {Q : Bool → Shared → Prop} {E : Value → Shared → Prop}, Q false s → wpAny (model P w) A.in1 (isInstance (.ref a) (.type "frozenset") <&&> isInstance (.ref b) (.type "frozenset")) Q E s := fun {Q} {E} q => by
      unfold andM isInstance
      refine wpAny_bind (wpAny_bind (wpAny_typeOf T1 ?_))
      rw [show isSubtype (.type "set") (.type "frozenset") = pure false by rw [isSubtype_type]; kernel_rfl]
      exact wpAny_pure (wpAny_pure q)
    refine wpAny_bind (no ?_)
    rw [if_neg (by simp)]
    refine subset_of i1 i2 ge1 ge2 h2 (Nat.le_of_eq hne) (e := e) ?_ ?_
    · rw [hE, ← hn, ← hn2]
      constructor
      · rintro ⟨_, h⟩ x hx k u e1
        exact h k ((hm k).mpr ⟨x, hx, by rw [e1]; exact intKind_is P w k u⟩)
      · intro h
        refine ⟨hne, fun k hk => ?_⟩
        obtain ⟨x, hx, hk2⟩ := (hm k).mp hk
        obtain ⟨k', u, e1, _⟩ := ge1 x hx
        rw [e1] at hk2
        have e2 : k' = k := beq_iff_eq.mp (show (k' == k) = true from hk2)
        rw [← e2]
        exact h x hx k' u e1
    · exact wpAny_pure ⟨_, rfl, (fun z => nomatch z), q⟩
  · rw [if_pos (by simp [hne])]
    have : e = false := by
      cases e with
      | false => rfl
      | true => exact (hne (by rw [hn, hn2]; exact (hE.mp rfl).1)).elim
    subst this
    exact wpAny_pure (wpAny_pure ⟨_, rfl, (fun z => nomatch z), q⟩)
end
end L2
end
section
set_option Elab.async false
set_option linter.all false
set_option maxRecDepth 100000
set_option maxHeartbeats 0
/-! SpSet2: sets as values of the layer; by data -/
namespace DL
open PySem L2 PyProof.Rows
def SetV (w : World) (p : Addr) (ns : List Int) : HO := .ext fun h => ∃ n, n < 64 ∧ SetR w h p (fun j => decide (j ∈ ns)) n
theorem setV_new {P : Program} {w : World} {H : Hp} {h : Heap} {p : Addr} {ns : List Int} {n : Nat} (hn : n < 64) (R : SetR w h p (fun j => decide (j ∈ ns)) n) : ObjOk P w H h p (SetV w p ns) := by
  have ⟨o, es, ep, t, ho, _⟩ := R
  exact ⟨⟨n, hn, R⟩, ⟨o, ho⟩, fun h1 h2 ⟨m, hm, R1⟩ k => ⟨m, hm, R1.at k⟩⟩
def rSetI (K : PySem.W.Frag) (w : World) : List V → Hp → VK → Prop := fun xs H Q => ∃ (l : Addr) (ns : List Int), xs = [.ref l] ∧ SqL K H l (ns.map V.int) ∧ ns.length < 64 ∧ ∀ p, H p = none → Q (.ref p) (upd H p (SetV w p ns))
def rNeSet (w : World) : R2 := fun x y H Q => ∃ (a b : Addr) (ns ms : List Int) (e : Bool), x = .ref a ∧ y = .ref b ∧ H a = some (SetV w a ns) ∧ H b = some (SetV w b ms) ∧ ns.Nodup ∧ ms.Nodup ∧ (e = true ↔ ns.length = ms.length ∧ ∀ k ∈ ns, k ∈ ms) ∧ Q (.bl (!e)) H
def rSortS (w : World) : List V → Hp → VK → Prop := fun xs H Q => ∃ (a : Addr) (ns : List Int), xs = [.ref a] ∧ H a = some (SetV w a ns) ∧ ∀ p (ms : List Int), ms.Pairwise (· < ·) → (∀ k, k ∈ ms ↔ k ∈ ns) → H p = none → Q (.ref p) (upd H p (.lst (ms.map V.int)))
section
variable {X : Cx}
theorem cr_setI (hc : X.calm = true) : CallR X (.type "set") (rSetI X.K X.w) := by
  intro pins s σ H xs us Q I r h
  obtain ⟨l, ns, rfl, hl, hf, q⟩ := h
  rw [Vals.ref1 r]
  obtain ⟨its, rv, pl, hz⟩ := I.list hl
  refine set_of_list ns (I.ok.hd hc) pl.isList (by simpa using rv.ints) (Nat.lt_of_lt_of_le (by omega : ns.length + 1 < 66) (by decide)) fun h' tk c R hc' k => ?_
  exact ⟨.ref s.heap.objs.size, upd H s.heap.objs.size (SetV X.w s.heap.objs.size ns), I.laid (t' := tk) k (Nat.le_refl _) (setV_new (by omega) R), rfl, q _ (I.hok.fresh (Nat.le_refl _))⟩
theorem setR_card {w : World} {h : Heap} {p : Addr} {ns : List Int} {n : Nat} (R : SetR w h p (fun j => decide (j ∈ ns)) n) (nd : ns.Nodup) : n = ns.length := by
  obtain ⟨o, es, ep, t, ho, hx, hd, g, hnd, hm, hb, hf, hn, _⟩ := R
  have pm : (es.toList.map keyOf).Perm ns := (List.perm_ext_iff_of_nodup hnd nd).mpr fun k => by rw [← hm k]; exact decide_eq_true_iff
  rw [← pm.length_eq, List.length_map, Array.length_toList, hn]
theorem setR_ints {w : World} {h : Heap} {p : Addr} {S : Int → Bool} {n : Nat} (R : SetR w h p S n) : ∀ o es ep t, h.get? p = some o → o.data = .set es ep t → ∀ e ∈ es.toList, IntE e := fun o es ep t ho hd e he => by
  obtain ⟨o', es', ep', t', ho', hx, hd', g, _⟩ := R
  rw [ho] at ho'
  cases ho'
  rw [hd] at hd'
  cases hd'
  exact g e he
theorem op_neSet (hu : X.A.units < cLine) : OpR X (compareOp .NotEq) (rNeSet X.w) := by
  intro pins s σ H x y v u Q I rx ry h
  obtain ⟨a, b, ns, ms, e, rfl, rfl, ha, hb, na, nb, he, q⟩ := h
  cases rx
  cases ry
  obtain ⟨n, _, R1⟩ := (I.hok a _ ha).1
  obtain ⟨m, _, R2⟩ := (I.hok b _ hb).1
  refine ne_sets (P := X.prog) R1.setOf R2.setOf (setR_ints R1) (setR_ints R2) hu (e := e) ?_ ⟨.bl (!e), H, I, rfl, q⟩
  rw [he, setR_card R1 na, setR_card R2 nb]
  simp
theorem cr_sortS (hc : X.calm = true) : CallR X (.builtin "sorted") (rSortS X.w) := by
  intro pins s σ H xs us Q I r h
  obtain ⟨a, ns, rfl, ha, q⟩ := h
  rw [Vals.ref1 r]
  obtain ⟨n, hn, R⟩ := (I.hok a _ ha).1
  refine sorted_set (P := X.prog) R (I.ok.hd hc) hn fun s' p out c ms k g o hp hg hi hs hm hl => ?_
  have hnp : H p = none := I.hok.fresh hp
  have hlen : (ms.map V.int).length ≤ sizeLine := by rw [List.length_map]; exact small (by omega)
  have J : Inv X pins σ (upd H p (.lst (ms.map V.int))) { s with heap := s'.heap, gens := s'.gens, drawn := s'.drawn, toks := s'.toks } :=
    I.call (ch := []) (Un.laid k hp hnp) (I.hok.laid k hp ⟨hlen, out.toList, c, vals_of_ints hi, hg⟩) (by rw [g]; exact I.bare) (fun _ z => nomatch z)
  have e : s' = { s with heap := s'.heap, gens := s'.gens, drawn := s'.drawn, toks := s'.toks } := by
    cases s'; cases s; cases o; rfl
  rw [e]
  exact ⟨.ref p, _, J, rfl, q p ms hs (fun k => (hm k).trans decide_eq_true_iff) hnp⟩
end
/-! ### sets of tuples, sorted -/
def rSortTN (K : PySem.W.Frag) (P : Program) (w : World) : List V → Hp → VK → Prop := fun vs H Q => ∃ (a : Addr) (L : List (Addr × List Int)), vs = [V.ref a] ∧ H a = some (SetTO P w a L) ∧ (∀ p ∈ L, p.2 ≠ [] ∧ SqT K H p.1 (p.2.map V.int)) ∧
  ∀ (L' : List TB) (p : Addr), L'.Perm (L.map fun q => (V.ref q.1, q.2)) → (L'.map (·.2)).Nodup → L'.Pairwise (fun q r => q.2 ≤ r.2) → H p = none → Q (.ref p) (upd H p (.lst (L'.map Prod.fst)))
theorem perm_map_ex {α β : Type} {f : α → β} {vs ws : List β} (h : vs.Perm ws) : ∀ L : List α, ws = L.map f → ∃ L1 : List α, L1.Perm L ∧ vs = L1.map f := by
  induction h with
  | nil => intro L e; exact ⟨[], by rw [List.map_eq_nil_iff.mp e.symm], rfl⟩
  | cons x _ ih =>
    intro L e
    cases L with
    | nil => cases e
    | cons y L =>
      simp only [List.map_cons, List.cons.injEq] at e
      obtain ⟨L1, p1, e1⟩ := ih L e.2
      exact ⟨y :: L1, p1.cons y, by rw [List.map_cons, e1, e.1]⟩
  | swap x y l =>
    intro L e
    match L, e with
    | a :: b :: L, e =>
      simp only [List.map_cons, List.cons.injEq] at e
      exact ⟨b :: a :: L, .swap a b L, by rw [List.map_cons, List.map_cons, e.1, e.2.1, e.2.2]⟩
  | trans _ _ ih1 ih2 =>
    intro L e
    obtain ⟨L2, p2, e2⟩ := ih2 L e
    obtain ⟨L1, p1, e1⟩ := ih1 L2 e2
    exact ⟨L1, p1.trans p2, e1⟩
section
variable {X : Cx}
theorem cr_sortTN (hc : X.calm = true) (hu : X.A.units + 64 < cLine) : CallR X (.builtin "sorted") (rSortTN X.K X.prog X.w) := by
  intro pins s σ H vs0 us Q I r h
  obtain ⟨a, L, rfl, ha, hk, q⟩ := h
  have R0 : SetT0 X.prog X.w s.heap a L := (I.hok a _ ha).1
  obtain ⟨es, ep, t, R⟩ := R0.full fun p hp => I.isT (hk p hp).2
  rw [Vals.ref1 r]
  obtain ⟨o, ho, hex, hd⟩ := R.ob
  have h1 := R.size
  have h2 := R.few
  refine Calls.call_function_entry kind_sorted plain_sorted entry_sorted (args_sorted1 (.ref a)) (show wpAny _ _ _ _ _ _ from ?_)
  unfold Builtin.«sorted»
  refine wpAny_bind (m := checkCount "sorted" 1 1 _) (wpAny_pure (wpAny_bind (collect_set (A := X.A.in1) (I.ok.hd hc) ⟨o, ho, hex.1, hd⟩ R.fits (by unfold scanBound; omega) R.tab.ris R.led fun s1 vs k1 hz g1 o1 pm => ?_)))
  have hes : es.toList.map (·.2) = L.map fun q => Value.ref q.1 := by
    rw [R.rows]; unfold rowsOf; rw [List.map_map]; rfl
  rw [hes] at pm
  obtain ⟨L1, p1, rfl⟩ := perm_map_ex pm L rfl
  have hl1 : L1.length < 64 := by rw [p1.length_eq]; exact h2
  refine wpAny_bind (wpAny_newList ?_ (by rw [List.length_map]; exact small (by omega)))
  generalize hhp : s1.heap.push { cls := .type "list", data := .seq (L1.map fun q => Value.ref q.1).toArray } = hp
  have kp : ∀ b u, s.heap.get? b = some u → hp.get? b = some u := fun b u e => by rw [← hhp]; exact Heap.get?_push_of_some _ (k1 b u e)
  have hoL : hp.get? s1.heap.objs.size = some (seqObj "list" (L1.map fun q => Value.ref q.1).toArray 0) := by rw [← hhp]; exact Heap.get?_push_size _ rfl
  have each : ∀ M : List (Addr × List Int), (∀ p ∈ M, p ∈ L) → PySem.W.EachIs (RTv hp) (M.map fun q => Value.ref q.1) (M.map fun q => (V.ref q.1, q.2)) := by
    intro M
    induction M with
    | nil => intro _; exact .nil
    | cons p M ih =>
      intro hM
      refine .cons ?_ (ih fun p hp => hM p (by simp [hp]))
      obtain ⟨its, rv, raw, _⟩ := I.tuple (hk p (hM p (by simp))).2
      exact rtv_keep kp ⟨rfl, p.1, its, rfl, raw, rv.ints⟩
  have e := each L1 fun p hp => p1.mem_iff.mp hp
  refine wpAny_bind (wpAny_holding (PySem.W.list_sort_data (s := { s1 with heap := hp }) (enc := fun b : TB => PyData.tuple (b.2.map .int)) (bs := L1.map fun q => (V.ref q.1, q.2)) hoL e (e.mono fun v b rr => ?_) (PySem.W.AllAlike.of fun b b' => alike_tups b.2 b'.2) (.inl fun d hd => ?_) (by rw [List.length_map]; exact small (by omega)) (fun b _ => ?_) fun out hout eo => ?_))
  · obtain ⟨_, t, its, rfl, ⟨o, e, hc, n, hd⟩, hi⟩ := rr
    exact ⟨[], .tuple (as := []) e hc hd (by simpa using reads_ints hi), by simp⟩
  · obtain ⟨b, hb, rfl⟩ := List.mem_map.mp hd
    obtain ⟨p, hp', rfl⟩ := List.mem_map.mp hb
    have hn := (hk p (p1.mem_iff.mp hp')).1
    show ∃ x r, PyData.tuple (p.2.map .int) = _
    cases e2 : p.2 with
    | nil => exact (hn e2).elim
    | cons x r => exact ⟨_, _, rfl⟩
  · rw [depth_tup]
    show X.A.units + 1 + 1 + 1 < cLine
    omega
  · rw [leI_eq] at eo
    obtain ⟨c, hc'⟩ := sortedHeap_at (vs := L1.map fun q => Value.ref q.1) (out := out.toArray) hoL
    have k2 : ∀ b u, s.heap.get? b = some u → (sortedHeap hp s1.heap.objs.size (L1.map fun q => Value.ref q.1) out.toArray).get? b = some u := fun b u e => by
      have lt : b < s1.heap.objs.size := Heap.lt_size (k1 b u e)
      rw [sortedHeap_old (Nat.ne_of_lt lt) (by rw [← hhp, Heap.size_push]; exact Nat.lt_succ_of_lt lt)]
      exact kp b u e
    have hnp : H s1.heap.objs.size = none := I.hok.fresh hz
    have pL : ((L1.map fun q => (V.ref q.1, q.2)).mergeSort leI).Perm (L.map fun q => (V.ref q.1, q.2)) := (List.mergeSort_perm _ _).trans (p1.map _)
    have hlen : (((L1.map fun q => (V.ref q.1, q.2)).mergeSort leI).map Prod.fst).length ≤ sizeLine := by rw [List.length_map, List.length_mergeSort, List.length_map]; exact small (by omega)
    have J : Inv X pins σ (upd H s1.heap.objs.size (.lst (((L1.map fun q => (V.ref q.1, q.2)).mergeSort leI).map Prod.fst))) { s with heap := sortedHeap hp s1.heap.objs.size (L1.map fun q => Value.ref q.1) out.toArray, gens := s1.gens, drawn := s1.drawn, toks := s1.toks } :=
      I.call (ch := []) (Un.laid k2 hz hnp) (I.hok.laid k2 hz ⟨hlen, out, c, vals_each eo, hc'⟩) (by rw [g1]; exact I.bare) (fun _ z => nomatch z)
    have e5 : ({ s1 with heap := sortedHeap hp s1.heap.objs.size (L1.map fun q => Value.ref q.1) out.toArray } : Shared) = { s with heap := sortedHeap hp s1.heap.objs.size (L1.map fun q => Value.ref q.1) out.toArray, gens := s1.gens, drawn := s1.drawn, toks := s1.toks } := by
      cases s1; cases s; cases o1; rfl
    refine wpAny_pure ⟨_, rfl, ?_⟩
    show EP X pins σ Q (.ref s1.heap.objs.size) ({ s1 with heap := sortedHeap hp s1.heap.objs.size (L1.map fun q => Value.ref q.1) out.toArray } : Shared)
    rw [e5]
    refine ⟨.ref s1.heap.objs.size, _, J, rfl, q _ _ pL ?_ ?_ hnp⟩
    · have : ((L.map fun q => (V.ref q.1, q.2)).map (·.2)).Nodup := by
        rw [List.map_map]
        exact R.nd
      exact ((pL.map (·.2)).nodup_iff).mpr this
    · have := List.pairwise_mergeSort (le := leI) (fun a b c h1 h2 => ?_) (fun a b => ?_) (L1.map fun q => (V.ref q.1, q.2))
      · exact this.imp fun h => of_decide_eq_true h
      · unfold leI at h1 h2 ⊢
        exact decide_eq_true (List.le_trans (of_decide_eq_true h1) (of_decide_eq_true h2))
      · unfold leI
        rw [Bool.or_eq_true]
        exact (List.le_total a.2 b.2).imp decide_eq_true decide_eq_true
end
end DL
end
section
set_option Elab.async false
set_option linter.all false
set_option maxRecDepth 100000
set_option maxHeartbeats 0
/-! SpMisc: bare tuples, their index; sorted of a tuple; is True of a bool or None -/
namespace DL
open PySem L2 PyProof.Rows
/-- a new tuple, known to be bare -/
def Bare (H : Hp) (p : Addr) (xs : List V) (Q : Hp → Prop) : Prop := ∀ o : Obj, o.dict = none → Q (upd H p (.frz o (.tup xs)))
def tTupB (t : TA) : TE := fun σ H Q => t σ H fun xs H1 => xs.length ≤ sizeLine ∧ ∀ p, H1 p = none → Bare H1 p xs fun H2 => Q (.ref p) H2
def rCatB (K : PySem.W.Frag) : R2 := fun x y H Q => ∃ a b xs ys, x = .ref a ∧ y = .ref b ∧ SqT K H a xs ∧ SqT K H b ys ∧ ys ≠ [] ∧ xs.length + ys.length ≤ sizeLine ∧ (xs = [] → Q (.ref b) H) ∧ (xs ≠ [] → ∀ p, H p = none → Bare H p (xs ++ ys) fun H2 => Q (.ref p) H2)
def tTIdx (to : TE) (t : TA) : TE := fun σ H Q => to σ H fun x H1 => (∃ a o xs, x = .ref a ∧ H1 a = some (.frz o (.tup xs)) ∧ o.dict = none) ∧ t σ H1 fun ys H2 => ∃ (a : Addr) (o : Obj) (ns : List Int) (z : Int) (j : Nat), x = .ref a ∧ H2 a = some (.frz o (.tup (ns.map V.int))) ∧ ys = [.int z] ∧ ns[j]? = some z ∧ (∀ m, m < j → ns[m]? ≠ some z) ∧ Q (.int (j : Nat)) H2
def rIsTB : R2 := fun x y H Q => ∃ b : Bool, y = .bl b ∧ (x = .non ∨ ∃ a, x = .bl a) ∧ Q (.bl (decide (x = .bl b))) H
def rSortedTI (K : PySem.W.Frag) : List V → Hp → VK → Prop := fun vs H Q => ∃ (a : Addr) (ns : List Int), vs = [V.ref a] ∧ SqT K H a (ns.map V.int) ∧ ns.length < 64 ∧ ∀ (ms : List Int) (p : Addr), ms.Perm ns → ms.Pairwise (· ≤ ·) → H p = none → Q (.ref p) (upd H p (.lst (ms.map V.int)))
section
variable {X : Cx}
theorem pe_tupB {es : List Expr} {x1 : Nat} {pos : Pos} {t : TA} (h : PA X es t) : PE X (.Tuple es x1 pos) (tTupB t) := by
  refine ⟨fun pins s σ H Q I hq => wpAny_Tuple_spliced (thn (h.run pos pins s σ H _ I hq) fun us s1 ⟨xs, H1, I1, r, z, q⟩ => ⟨by rw [← r.length]; exact z, ?_⟩)⟩
  have hf : H1 s1.heap.objs.size = none := I1.hok.fresh (Nat.le_refl _)
  exact ⟨.ref s1.heap.objs.size, _, I1.laid (t' := s1.toks) (o := .frz { cls := .type "tuple", data := .seq us.toArray } (.tup xs)) (fun b u e => Heap.get?_push_of_some _ e) (Nat.le_refl _) ⟨Heap.get?_push_size _ rfl, z, us, r, ⟨_, Heap.get?_push_size _ rfl, rfl, _, rfl⟩⟩, rfl, q _ hf _ rfl⟩
theorem op_catB : OpR X (binaryOp .Add) (rCatB X.K) := by
  intro pins s σ H x y v u Q I rx ry h
  obtain ⟨a, b, xs, ys, rfl, rfl, ha, hb, hy, hz, q1, q2⟩ := h
  by_cases hx : xs = []
  · exact op_catA pins s σ H _ _ v u Q I rx ry ⟨a, b, xs, ys, rfl, rfl, ha, hb, hz, q1, fun z => (z hx).elim, fun z => (z hx).elim⟩
  · cases rx
    cases ry
    obtain ⟨its, r1, p1, _⟩ := I.tuple ha
    obtain ⟨its2, r2, p2, _⟩ := I.tuple hb
    refine HT.cat_tup p1 p2 (fun z => hx (r1.nil_iff.mp z)) (fun z => (hy (r2.nil_iff.mp z)).elim) (fun z => ?_) (by rw [← r1.length, ← r2.length]; exact hz)
    exact ⟨.ref s.heap.objs.size, _, I.laid (t' := s.toks) (o := .frz { cls := .type "tuple", data := .seq (its ++ its2).toArray } (.tup (xs ++ ys))) (fun b ob q => Heap.get?_push_of_some _ q) (Nat.le_refl _) ⟨by simpa using Heap.get?_push_size _ rfl, by rw [List.length_append]; exact hz, _, r1.append r2, by simpa using IsTup.new _ _⟩, rfl, q2 hx _ (I.hok.fresh (Nat.le_refl _)) _ rfl⟩
theorem op_isTB : OpR X (compareOp .Is) rIsTB := by
  intro pins s σ H x y v u Q I rx ry h
  obtain ⟨b, rfl, hx, q⟩ := h
  cases (show u = Value.bool b from ry)
  rcases hx with rfl | ⟨a, rfl⟩
  · cases (show v = Value.none from rx)
    exact wpAny_is_other rfl (fun z => nomatch z) ⟨.bl false, H, I, rfl, by simpa using q⟩
  · exact op_isBl pins s σ H (.bl a) (.bl b) v _ Q I rx rfl ⟨a, b, rfl, rfl, by simpa using q⟩
theorem pe_tidx {o e : Expr} {to te : TE} {apos cpos : Pos} (ho : PE X o to) (he : PE X e te)
    (hbase : attributeBase o "index" X.env (eval o X.env) = eval o X.env := by rfl)
    (hfew : ((backTo cpos (starEach [e] X.env)).all (fun x => !x.1) && (backToKw cpos (keywordEach [] X.env)).all (fun x => x.1.isSome) && decide (([e] : List Expr).length + ([] : List Keyword).length + (if ([] : List Keyword).isEmpty then 0 else 1) < 30)) = true := by rfl)
    (hline : (apos.endLine == cpos.line) = true := by rfl) (hs : starEach [e] X.env = (false, eval e X.env) :: starEach [] X.env := by rfl) (hplain : (backTo cpos (starEach [] X.env)).any (·.1) = false := by rfl) :
    PE X (.Call (.Attribute o "index" apos) [e] [] cpos) (tTIdx to (tCons te tNil)) := by
  refine ⟨fun pins s σ H Q I h => wpAny_Call_method_late hbase hfew hline rfl (thn (ho.run pins s σ H _ I h) fun v s1 ⟨x, H1, I1, r1, ⟨a, ob, xs, ex, hH, hn⟩, q1⟩ => ?_)⟩
  subst ex
  cases r1
  obtain ⟨hget, hz, its0, rv0, ⟨o0, e0, c0, n0, d0⟩⟩ := (show ObjOk X.prog X.w H1 s1.heap a (.frz ob (.tup xs)) from I1.hok a _ hH)
  rw [hget] at e0
  cases e0
  refine ⟨"tuple", "tuple.index", PySem.F.plainAttrs_tuple, PySem.F.slot_tuple_index, PySem.F.type_tuple_index, ⟨ob, hget, c0⟩, (fun b eb => by cases eb; exact ⟨ob, hget, hn⟩), ?_⟩
  have hA := (pa_cons he pa_nil (hs := hs)).run cpos pins s1 σ H1 _ I1 q1
  rw [hs] at hA ⊢
  refine Calls.callWith_builtin (by show (false || (backTo cpos (starEach [] X.env)).any (·.1)) = false; rw [hplain]; rfl) (Calls.evalArgs_plain (thn hA fun us s2 ⟨vs, H2, I2, r2, q2⟩ => ?_))
  obtain ⟨a', o', ns, z, j, e1, hH2, rfl, hz1, hno, q3⟩ := q2
  cases e1
  obtain ⟨u, rfl, tk, rfl⟩ := vals1 r2
  obtain ⟨hg2, hz2, its, rv, ⟨o2, e2, c2, n2, d2⟩⟩ := (show ObjOk X.prog X.w H2 s2.heap a (.frz o' (.tup (ns.map V.int))) from I2.hok a _ hH2)
  obtain ⟨cls, dd, dt, sl⟩ := o2
  simp only at c2 d2
  subst c2 d2
  have len : its.length = ns.length := by rw [← rv.length, List.length_map]
  have hj : j < its.toArray.size := by rw [List.size_toArray, len]; exact (List.getElem?_eq_some_iff.mp hz1).1
  have at_ : ∀ m (hm : m < its.toArray.size), eqU (.int z) its.toArray[m] = decide (ns[m]? = some z) := fun m hm => by
    have hm' : m < ns.length := by rw [← len]; simpa using hm
    obtain ⟨y, hy, ry⟩ := rv.get (i := m) (x := .int ns[m]) (by simp [hm'])
    have e3 : its.toArray[m] = y := by
      have := (List.getElem?_eq_some_iff.mp hy).2
      simpa using this
    rw [e3, eqU_of ry rfl, List.getElem?_eq_getElem hm']
    show (ns[m] == z) = _
    by_cases h : ns[m] = z <;> simp [h]
  refine call_meets PySem.F.slot_tuple_index ⟨_, e2, rfl⟩ PySem.F.entry_tuple_index (PySem.F.args_tuple_index_2 _ _) (TI.tuple_indexAt a its.toArray n2 dd sl (.int z tk) (eqU (.int z)) j hj (by rw [at_ j hj, hz1]; simp) fun m hm hmj => by rw [at_ m hm]; exact decide_eq_false (hno m hmj))
    ⟨e2, fun y hy => mem_eqAt (x := .int z) ⟨tk, rfl⟩ rfl rv (flat_ints ns) y (by simpa using hy), .int (j : Nat), H2, I2.tok _, ⟨_, rfl⟩, q3⟩
theorem cr_sortedTI : CallR X (.builtin "sorted") (rSortedTI X.K) := by
  intro pins s σ H vs us Q I r h
  obtain ⟨a, ns, rfl, hs, hl, q⟩ := h
  obtain ⟨its, rv, ⟨o, ho, hc, n, hd⟩, hz⟩ := I.tuple hs
  rw [Vals.ref1 r]
  have hi := rv.ints
  have hlen : its.length = ns.length := hi.length
  refine Calls.call_function_entry kind_sorted plain_sorted entry_sorted (args_sorted1 (.ref a)) (show wpAny _ _ _ _ _ _ from ?_)
  unfold Builtin.«sorted»
  refine wpAny_bind (m := checkCount "sorted" 1 1 _) (wpAny_pure (wpAny_bind ?_))
  have coll : ∀ {R : List Value → Shared → Prop} {E : Value → Shared → Prop}, R its { s with heap := (s.heap.push (seqObj "list" #[] 0)).update s.heap.objs.size (Obj.mapSeq (· ++ its.toArray)) } → wpAny (model X.prog X.w) X.A.in1 (collect (.ref a)) R E s := fun {R E} h => by
    unfold collect
    refine wpAny_bind (wpAny_runValue (codeAny_builtin entry_proto_collect' (show wpAny _ _ (do again (.builtin "list.__iadd__" ⟨[← newList [], .ref a], []⟩)) _ _ s from wpAny_bind (wpAny_newList (wpAny_pure ⟨Code.quiet_builtin _ (by decide +kernel), codeAny_builtin entry_list_iadd' (show wpAny _ _ (Builtin.List.listExtendWith (.ref s.heap.objs.size) (.ref a) (.ref s.heap.objs.size)) _ _ { s with heap := s.heap.push (seqObj "list" #[] 0) } from ?_)⟩)))))
    unfold Builtin.List.listExtendWith
    have ho' : (s.heap.push (seqObj "list" #[] 0)).get? a = some o := Heap.get?_push_of_some _ ho
    refine wpAny_bind (wpAny_typeOf (T := "tuple") ⟨o, ho', hc⟩ ?_)
    rw [if_pos (by rw [show (Value.type "tuple" == Value.type "tuple") = true from rfl]; simp)]
    refine wpAny_bind (listItems_at ho' hd (wpAny_bind (listItems_at (xs := #[]) (n := 0) (Heap.get?_push_size _ rfl) rfl ?_)))
    rw [if_neg (by simp)]
    refine wpAny_bind (listUpdate_at (xs := #[]) (n := 0) (Heap.get?_push_size _ rfl) rfl (wpAny_pure ?_) (Nat.zero_le _) (by show (#[] ++ its.toArray).size ≤ sizeLine + 1; simp only [Array.size_append, List.size_toArray, List.length_nil]; have := small (n := 100) (by decide); omega))
    refine wpAny_bind (wpAny_load (get?_update_seq (Heap.get?_push_size _ rfl) _) (show wpAny _ _ (pure ((#[] : Array Value) ++ its.toArray).toList) R E _ from ?_))
    rw [show ((#[] : Array Value) ++ its.toArray).toList = its by simp]
    exact wpAny_pure h
  refine coll (wpAny_bind (wpAny_newList ?_ (by have := small (n := 100) (by decide); omega)))
  have sz : ((s.heap.push (seqObj "list" #[] 0)).update s.heap.objs.size (Obj.mapSeq (· ++ its.toArray))).objs.size = s.heap.objs.size + 1 := by rw [Heap.size_update, size_push']
  have at1 : (((s.heap.push (seqObj "list" #[] 0)).update s.heap.objs.size (Obj.mapSeq (· ++ its.toArray))).push (seqObj "list" its.toArray 0)).get? (s.heap.objs.size + 1) = some (seqObj "list" its.toArray 0) := by rw [← sz]; exact Heap.get?_push_size _ rfl
  show wpAny _ _ _ _ _ { s with heap := ((s.heap.push (seqObj "list" #[] 0)).update s.heap.objs.size (Obj.mapSeq (· ++ its.toArray))).push (seqObj "list" its.toArray 0) }
  rw [sz]
  refine wpAny_bind (wpAny_holding (wpAny_call_entry slot_list_sort ⟨_, at1, rfl⟩ entry_list_sort (list_sort_tree at1 hi (by omega) fun out ms a1 a2 a3 => ⟨_, rfl, wpAny_pure ⟨_, rfl, ?_⟩⟩) (args_list_sort _)))
  obtain ⟨ep, he'⟩ := sortedAll_at s.heap its out
  have hl2 : (ms.map V.int).length ≤ sizeLine := by rw [List.length_map, a2.length_eq]; exact small (by omega)
  exact ⟨.ref _, upd H (s.heap.objs.size + 1) (.lst (ms.map V.int)), I.laid (t' := s.toks) (fun _ _ => sortedAll_old) (Nat.le_succ _) ⟨hl2, out.toList, ep, vals_of_ints a1, he'⟩, rfl, q _ _ a2 a3 (I.hok.fresh (Nat.le_succ _))⟩
end
end DL
end
section
set_option Elab.async false
set_option linter.all false
set_option maxRecDepth 100000
set_option maxHeartbeats 0
/-! SpLam2: sorted(xs, key=lambda c: (len(c), c)) as a reading -/
namespace DL
open PySem L2 PyProof.Rows
def keyLe (p q : List Int) : Bool := !(if q.length = p.length then decide (q < p) else decide (q.length < p.length))
def leK (a b : TB) : Bool := keyLe a.2 b.2
theorem eqv_ints : ∀ xs ys : List Int, PyData.eqvAll (xs.map .int) (ys.map .int) = decide (xs = ys)
  | [], [] => by simp [PyData.eqvAll]
  | [], _ :: _ => by simp [PyData.eqvAll]
  | _ :: _, [] => by simp [PyData.eqvAll]
  | x :: xs, y :: ys => by
    have := eqv_ints xs ys
    simp only [List.map_cons, PyData.eqvAll, PyData.eqv, this]
    by_cases h : x = y <;> by_cases h2 : xs = ys <;> simp [h, h2]
abbrev keyD (b : TB) : PyData := .tuple [.int b.2.length, .tuple (b.2.map .int)]
theorem leK_eq : PySem.W.dataLe false keyD = leK := by
  funext p q
  show (!PySem.W.dataLt (keyD q) (keyD p)) = leK p q
  unfold leK keyLe
  rw [PySem.W.dataLt_pair (by simp [PySem.W.alike]) (alike_tups q.2 p.2)]
  congr 1
  simp only [PyData.eqv, eqv_ints, PySem.W.dataLt_int, decide_eq_true_eq, beq_iff_eq]
  by_cases h : (q.2.length : Int) = (p.2.length : Int)
  · have h' : q.2.length = p.2.length := by omega
    rw [if_pos h, if_pos h', PySem.W.dataLt_tuple]
    show (if q.2 = p.2 then false else PySem.W.rowLt (q.2.map .int) (p.2.map .int)) = _
    rw [PySem.W.dataLt_ints]
    by_cases e : q.2 = p.2
    · rw [if_pos e, e]
      exact (decide_eq_false (List.lt_irrefl p.2)).symm
    · rw [if_neg e]
  · have h' : ¬ q.2.length = p.2.length := by omega
    rw [if_neg h, if_neg h']
    by_cases h2 : q.2.length < p.2.length
    · rw [decide_eq_true (by omega), decide_eq_true h2]
    · rw [decide_eq_false (by omega), decide_eq_false h2]
def tSortLam (K : PySem.W.Frag) (P : Addr) (t : TA) : TE := fun σ H Q => t σ H fun us H1 => ∃ (a : Addr) (bs : List TB) (ps : Array Value) (Kn : Addr → Prop), us = [.ref a] ∧ SqL K H1 a (bs.map Prod.fst) ∧ (∀ b ∈ bs, b.2.length < 1000 ∧ ∃ t, b.1 = .ref t ∧ SqT K H1 t (b.2.map V.int)) ∧
  H1 P = some (.tbl ps) ∧ TriplesOk ps.toList ∧ (∀ (pos : Pos) (cv : Value), codeAmong pos ps.toList = some cv → ∃ c, cv = .ref c ∧ Kn c ∧ H1 c = some (LamX.CodeO c lamQ)) ∧
  ∀ H2, (H2 = H1 ∨ ∃ (c' : Addr) (ps' : Array Value), H1 c' = none ∧ H2 = upd (upd H1 P (.tbl ps')) c' (LamX.CodeO c' lamQ) ∧ TriplesOk ps'.toList ∧ ∀ (pos : Pos) (cv : Value), codeAmong pos ps'.toList = some cv → ∃ c, cv = .ref c ∧ (c = c' ∨ Kn c)) →
    ∀ p, H2 p = none → Q (.ref p) (upd H2 p (.lst ((bs.mergeSort leK).map Prod.fst)))
section
variable {X : Cx}
theorem pe_sortLam {j : Nat} {e : Expr} {ta : TE} {c P : Addr} {params : Arguments} {scope : Scope} {x : Str} {p1 p2 p3 p4 p5 lp kp p pos : Pos} {k : Nat} (he : PE X e ta) (hr : Room j X.A) (TB0 : LamX.TabB X.base X.mg c P) (hcode : X.env.code = .ref c) (hq : X.env.qual ++ "<lambda>" = lamQ)
    (hgs : Gl X "sorted") (hms : X.mg "sorted" = none) (hlen : X.mg "len" = none) (hdef : defaultsOf params X.env = ([], [])) (hfr : ∀ y ∈ scope.names, y.2 ≠ .free)
    (hk : scope.kind = .function) (hco : scope.isCoroutine = false) (hgen : scope.isGenerator = false) (hcell : ∀ x ∈ scope.names, x.2 ≠ .cell) (hx : scope.names.lookup x = some .local) (hl : scope.names.lookup ("len" : Str) = some .globalImplicit) (hd : (x == ("__debug__" : Str)) = false)
    (hbind : ∀ (cl : List (Str × Addr)) (pm cd ct v : Value), bindArgs (PySem.W.kla_fn "<lambda>" lamQ params (lamB x p1 p2 p3 p4 p5 k) scope cl pm cd ct) ⟨[v], []⟩ = pure [(x, v)])
    (hs : backTo pos (starEach [e] X.env) = (false, eval e X.env) :: backTo pos (starEach [] X.env) := by rfl) (hpl : (backTo pos (starEach [e] X.env)).any (·.1) = false := by rfl) (hse : starEach [e] X.env = (false, eval e X.env) :: starEach [] X.env := by rfl) :
    PE X (.Call (.Name "sorted" p) [e] [⟨some "key", .Lambda params (lamB x p1 p2 p3 p4 p5 k) scope lp, kp⟩] pos) (tSortLam X.K P (tCons ta tNil)) := by
  refine ⟨fun pins s σ H Q I h => wpAny_Call_Name_kw (ld_blt I hgs hms (by decide +kernel : bootBuiltins "sorted" = some (.builtin "sorted")) (callWith_kw (thn ((pa_cons he pa_nil (hs := hse)).run pos pins s σ H _ I h) fun us s1 ⟨vs, H1, I1, r1, a, bs, ps, Kn, ev, hL, hb, hP, ht, ha, q⟩ => ?_) hs hpl rfl rfl))⟩
  subst ev
  rw [Vals.ref1 r1]
  show wpAny _ _ (evalAll [do let v ← eval (.Lambda params (lamB x p1 p2 p3 p4 p5 k) scope lp) X.env; standAt pos; pure v]) _ _ s1
  refine wpAny_evalAll_cons (wpAny_bind ?_)
  have hT : s1.heap.get? P = some { cls := .none, data := .fields ps } := I1.hok P _ hP
  have bP : s1.heap.BuiltinsAt X.mg P := TB0.bm.keeps I1.bk
  have hfree : ∀ y ∈ scope.names, y.2 = .free → ∃ c, X.env.cells.lookup y.1 = some c := fun y hy e => (hfr y hy e).elim
  -- what follows, from a heap in which the lambda stands
  have go : ∀ (f c' : Addr) (pm ctv : Value) (H2 : Hp) (s2 : Shared), Inv X pins σ H2 s2 → (H2 = H1 ∨ ∃ (c' : Addr) (ps' : Array Value), H1 c' = none ∧ H2 = upd (upd H1 P (.tbl ps')) c' (LamX.CodeO c' lamQ) ∧ TriplesOk ps'.toList ∧ ∀ (pos : Pos) (cv : Value), codeAmong pos ps'.toList = some cv → ∃ c, cv = .ref c ∧ (c = c' ∨ Kn c)) →
      s2.heap.get? f = some (PySem.W.kla_obj "<lambda>" lamQ params (lamB x p1 p2 p3 p4 p5 k) scope (cloFrom X.env.cells scope.names []) pm c' ctv) → H2 c' = some (LamX.CodeO c' lamQ) → wpAny (model X.prog X.w) X.A (call (.builtin "sorted") [.ref a] [(Str.ofString "key", .ref f)]) (EP X pins σ Q) X.xe s2 := by
    intro f c' pm ctv H2 s2 I2 hH2 hf hc'
    have same : ∀ b o, H1 b = some o → (∀ ps, o ≠ .tbl ps) → H2 b = some o := fun b o e n => by
      rcases hH2 with e2 | ⟨c2, ps', n2, e2, _⟩
      · rw [e2]; exact e
      · rw [e2, upd_ne (ne_of_none e n2), upd_ne (fun z => n ps (Option.some.inj (e.symm.trans (by rw [z]; exact hP))))]; exact e
    have sqT : ∀ t ys, SqT X.K H1 t ys → SqT X.K H2 t ys := fun t ys h => by
      rcases h with (h | ⟨o, h⟩) | h
      · exact .inl (.inl (same _ _ h fun _ z => nomatch z))
      · exact .inl (.inr ⟨o, same _ _ h fun _ z => nomatch z⟩)
      · exact .inr h
    have sqL : SqL X.K H2 a (bs.map Prod.fst) := by
      rcases hL with (h | ⟨o, h⟩) | h
      · exact .inl (.inl (same _ _ h fun _ z => nomatch z))
      · exact .inl (.inr ⟨o, same _ _ h fun _ z => nomatch z⟩)
      · exact .inr h
    obtain ⟨its, rv, pl, hz⟩ := I2.list sqL
    have eo := each_of I2 rv fun b hb' => let ⟨t, e1, e2⟩ := (hb b hb').2; ⟨t, e1, sqT _ _ e2⟩
    obtain ⟨oc, vs, tk, hoc, hocd, hv1⟩ := (I2.hok c' _ hc').1
    obtain ⟨mb, hb1, hb2⟩ := I2.mod.blt
    have un := hr.un
    have dp := hr.dp
    refine PySem.W.sorted_key_data (b := false) keyD pl.isList eo (PySem.W.AllAlike.of fun b b' => ?_) (PySem.W.Sortable.tuples fun b => ⟨_, _, rfl⟩) (by rw [List.length_map] at hz; exact hz) (fun b _ => ?_) (ksk_s1 _ _) (fun _ => ksk_l1 _ _) (fun y => ksk_t1 f y) (fun v b hR hb' h tk2 kk => ?_) fun out c3 h' tk2 kk fresh hnew hol hout => ?_
    · simp only [PySem.W.alike, PySem.W.alikeAll]
      rw [PySem.W.alike_ints]; rfl
    · have := depth_tup b.2
      simp only [PyData.depth, PyData.depthAll, PySem.W.depth_ints] at this ⊢
      omega
    · obtain ⟨r1, t, its2, rfl, ⟨o, e1, r2⟩, hi⟩ := hR
      exact lam_key (s := { s2 with heap := h, toks := tk2 }) (mg := X.mg) (kk _ _ hf) ⟨c', oc, vs, tk, rfl, kk _ _ hoc, hocd, hv1⟩ (I2.nolimit.keeps kk) ((I2.mod.glob.keeps I2.bk).keeps kk) hlen ⟨mb, (hb1.keeps I2.bk).keeps kk, hb2⟩ hk hco hgen hcell hx hl hd (fun v => hbind _ _ _ _ v) (by show X.A.depth < _; omega) ⟨o, kk _ _ e1, r2⟩ hi (hb b hb').1
    · rw [leK_eq] at hout
      have hn : H2 (s2.heap.objs.size + 1) = none := I2.hok.fresh (Nat.le_succ _)
      have hl2 : ((bs.mergeSort leK).map Prod.fst).length ≤ sizeLine := by rw [List.length_map, List.length_mergeSort]; rw [List.length_map] at hz; exact hz
      exact ⟨.ref _, _, I2.laid (t' := tk2) (o := .lst ((bs.mergeSort leK).map Prod.fst)) kk (Nat.le_succ _) ⟨hl2, out, c3, vals_each hout, hnew⟩, rfl, q H2 hH2 _ hn⟩
  refine PySem.W.kla_eval hdef ?_
  rw [hq]
  cases hc : codeAmong lp ps.toList with
  | none =>
    refine PySem.W.kla_makeFunction (mg := X.mg) (c := c) (P := P) (ps := ps) (closure_ok hfree) I1.ok.glob (I1.mod.glob.keeps I1.bk) hcode (TB0.code.keeps I1.bk) hT ht hc TB0.gP bP fun c' ctv h' tk hx' hge hlt hrec htb => wpAny_bind (wpAny_standAt (wpAny_pure (wpAny_evalAll_nil ?_)))
    obtain ⟨c2, oc, vs, t, e2, hoc, hd2, hv⟩ := hrec
    cases e2
    have nC : H1 c' = none := I1.hok.fresh hge
    have eL : (ps ++ #[rawInt lp.line, rawInt lp.col, .ref c']).toList = ps.toList ++ [rawInt lp.line, rawInt lp.col, .ref c'] := by simp
    refine go _ c' _ ctv _ _ (LamX.inv_table (t' := tk) (more := #[rawInt lp.line, rawInt lp.col, .ref c']) I1 hP (fun b o hb e => Heap.get?_push_of_some _ (hx' b o hb e)) (Heap.get?_push_of_some _ htb) hge ⟨oc, vs, t, Heap.get?_push_of_some _ hoc, hd2, hv⟩) (.inr ⟨c', _, nC, rfl, by rw [eL]; exact PySem.TriplesOk_snoc _ _ _ _ ht, fun p' cv hcv => ?_⟩) (Heap.get?_push_size _ rfl) upd_same
    rw [eL] at hcv
    rcases LamX.among_app _ ht hcv with z | z
    · obtain ⟨c0, e1, e2, _⟩ := ha p' cv z
      exact ⟨c0, e1, .inr e2⟩
    · exact ⟨c', z, .inl rfl⟩
  | some cv =>
    obtain ⟨c', e, _, hco'⟩ := ha lp cv hc
    subst e
    exact PySem.W.kla_makeFunctionHit (mg := X.mg) (c := c) (P := P) (ps := ps) (closure_ok hfree) I1.ok.glob (I1.mod.glob.keeps I1.bk) hcode (TB0.code.keeps I1.bk) hT ht hc bP fun ctv h' tk hx' hsz => wpAny_bind (wpAny_standAt (wpAny_pure (wpAny_evalAll_nil (go _ c' _ ctv H1 _ (I1.kept (t' := tk) fun b o e => Heap.get?_push_of_some _ (hx' b o e)) (.inl rfl) (Heap.get?_push_size _ rfl) hco'))))
end
end DL
end
section
set_option Elab.async false
set_option linter.all false
set_option maxRecDepth 100000
set_option maxHeartbeats 0
/-! DLh: the special readings by data -/
namespace DL
open PySem L2
section
variable {K : PySem.W.Frag} {w : World} {P : Program} {es : Es} {M : Mo}
/-- a draw -/
theorem em_draw {h : Addr} {i : Nat} {te : TE} {m : Nat} (hi : es[i]? = some (some (.adr h))) (ht : EvD K te es (dn m)) (h1 : 1 ≤ m) (h2 : m < 1000000) : EvM K (moH K h) (tCall (sp_law_draw K) [] C8.E0 (tCons (tVar i) (tCons te tNil))) es (fun d => ∃ n : Nat, n < m ∧ d = dn n) :=
  em_call (ema_of (ea_cons (ev_var hi) (ea_cons ht ea_nil))) fun ds e => ⟨(h, (m : Int)), rfl, e, ⟨by show (1 : Int) ≤ m; omega, by show (m : Int) < 1000000; omega⟩, fun d ⟨n, hn, hd⟩ => ⟨n, by simp only at hn; omega, hd⟩⟩
/-- .. of a datum that is told by a property -/
theorem em_drawM {h : Addr} {i : Nat} {te : TE} {Pm : Nat → Prop} (hi : es[i]? = some (some (.adr h))) (ht : EvM K (moH K h) te es (fun d => ∃ m : Nat, Pm m ∧ d = dn m)) (hp : ∀ m, Pm m → 1 ≤ m ∧ m < 1000000) : EvM K (moH K h) (tCall (sp_law_draw K) [] C8.E0 (tCons (tVar i) (tCons te tNil))) es (fun d => ∃ m n : Nat, Pm m ∧ n < m ∧ d = dn n) :=
  em_call (ema_cons (em_of (ev_var hi)) fun _ _ => ema_cons ht fun _ _ => ema_nil) fun ds ⟨d, ds', e1, ⟨d2, ds2, ⟨m, pm, e2⟩, e3, e4⟩, e5⟩ => ⟨(h, (m : Int)), rfl, by subst e1 e2 e3; rw [e5, e4], ⟨by have := (hp m pm).1; show (1 : Int) ≤ m; omega, by have := (hp m pm).2; show (m : Int) < 1000000; omega⟩, fun d ⟨n, hn, hd⟩ => ⟨m, n, pm, by simp only at hn; omega, hd⟩⟩
/-! ### sets -/
theorem ev_neSets {ta tb : TE} {ns ms : List Nat} {e : Bool} (ha : EvD K ta es (ldN ns)) (hb : EvD K tb es (ldN ms)) (n1 : ns.Nodup) (n2 : ms.Nodup) (l1 : ns.length < 64) (l2 : ms.length < 64) (he : e = true ↔ ns.length = ms.length ∧ ∀ k ∈ ns, k ∈ ms) :
    EvD K (tOp (rNeSet w) (tCB (rSetI K w) (tCons ta tNil)) (tCB (rSetI K w) (tCons tb tNil))) es (.bl (!e)) := fun σ G H hs0 hs Q q => by
  refine ha σ G H hs0 hs _ fun u G1 H1 k1 r1 => ?_
  cases r1 with
  | lst h1 h2 =>
    rw [dn_zi] at h2
    refine ⟨_, zi ns, rfl, SqL.of (by rw [← rp_ints h2]; exact k1.gh _ _ h1), by unfold zi; rw [List.length_map]; exact l1, fun p hp => ?_⟩
    have k2 : Ok G H G1 (upd H1 p (SetV w p (zi ns))) := k1.trans (.more k1.gh (same_upd hp))
    refine hb σ G1 _ (hs0.mono k1.gg) k2.gh _ fun u2 G2 H2 k3 r2 => ?_
    cases r2 with
    | lst h3 h4 =>
      rw [dn_zi] at h4
      refine ⟨_, zi ms, rfl, SqL.of (by rw [← rp_ints h4]; exact k3.gh _ _ h3), by unfold zi; rw [List.length_map]; exact l2, fun p2 hp2 => ?_⟩
      have ndz : ∀ l : List Nat, l.Nodup → (zi l).Nodup := fun l h => List.Pairwise.map _ (fun a b (h : a ≠ b) => by show (a : Int) ≠ b; omega) h
      refine ⟨p, p2, zi ns, zi ms, e, rfl, rfl, ?_, upd_same, ndz _ n1, ndz _ n2, ?_, q _ G2 _ (k2.trans (k3.trans (.more k3.gh (same_upd hp2)))) (.bl _)⟩
      · have := k3.hh _ _ (upd_same (H := H1) (a := p) (o := SetV w p (zi ns)))
        rw [upd_ne (ne_of_none this hp2)]; exact this
      · rw [he]
        constructor
        · rintro ⟨a, b⟩
          refine ⟨by unfold zi; simpa using a, fun k hk => ?_⟩
          obtain ⟨n, hn, rfl⟩ := List.mem_map.mp hk
          exact mem_zi.mpr (b n hn)
        · rintro ⟨a, b⟩
          exact ⟨by unfold zi at a; simpa using a, fun k hk => mem_zi.mp (b _ (mem_zi.mpr hk))⟩
/-- sorted(set(list of ints)) -/
theorem eml_sortS {ta : TA} {Pn : List Nat → Prop} (h : EvMA K M ta es fun l => ∃ ns, Pn ns ∧ l = [ldN ns]) (hl : ∀ ns, Pn ns → ns.length < 64) :
    EvML K M (tCB (rSortS w) (tCons (tCB (rSetI K w) ta) tNil)) es (fun ds => ∃ (ns ms : List Nat), Pn ns ∧ ms.Pairwise (· < ·) ∧ (∀ k, k ∈ ms ↔ k ∈ ns) ∧ ds = ms.map dn) := fun σ G H he hs m Q q => by
  refine h σ G H he hs m _ fun vs G1 H1 ds ⟨ns, pn, ed⟩ k1 r1 => ?_
  subst ed
  obtain ⟨v, rfl, r⟩ := one_rp r1
  cases r with
  | lst h1 h2 =>
    rw [dn_zi] at h2
    refine ⟨_, zi ns, rfl, SqL.of (by rw [← rp_ints h2]; exact k1.gh _ _ h1), by unfold zi; rw [List.length_map]; exact hl ns pn, fun p hp => ⟨p, zi ns, rfl, upd_same, fun p2 ms hsrt hmem hp2 => ?_⟩⟩
    have e : ms = zi (ms.map Int.toNat) := by
      unfold zi
      rw [List.map_map]
      refine (List.map_id ms).symm.trans (List.map_congr_left fun x hx => ?_)
      obtain ⟨n, _, rfl⟩ := List.mem_map.mp ((hmem x).mp hx)
      simp
    have s1 := same_upd (H := H1) (o := SetV w p (zi ns)) hp
    have hp2' : H1 p2 = none := none_of s1 hp2
    refine q p2 _ G1 _ _ ⟨ns, ms.map Int.toNat, pn, ?_, fun k => ?_, rfl⟩ (k1.trans (.of k1.ok (.more k1.gh (s1.trans (same_upd hp2))))) (k1.k.nn _ hp2') (none_of k1.gh hp2') (fun n => M.there k1.ok n hp2') upd_same ?_
    · rw [e] at hsrt
      unfold zi at hsrt
      exact (List.pairwise_map.mp hsrt).imp fun h => by omega
    · rw [← mem_zi, ← e, hmem, mem_zi]
    · rw [dn_zi, ← e]; exact ints_rp ms
/-- sorted(set(list of crowds)) -/
theorem eml_sortT {ta : TA} {Pn : List (List Nat) → Prop} (h : EvMA K M ta es fun l => ∃ cs, Pn cs ∧ l = [.lst (cs.map crD)]) (hl : ∀ cs, Pn cs → cs.length < 64 ∧ ∀ c ∈ cs, c ≠ []) :
    EvML K M (tCB (rSortTN K P w) (tCons (tCB (rSetOfT K P w) ta) tNil)) es (fun ds => ∃ (cs ms : List (List Nat)), Pn cs ∧ ms.Nodup ∧ ms.Pairwise (fun a b => zi a ≤ zi b) ∧ (∀ c, c ∈ ms ↔ c ∈ cs) ∧ ds = ms.map crD) := fun σ G H he hs m Q q => by
  refine h σ G H he hs m _ fun vs G1 H1 ds ⟨cs, pn, ed⟩ k1 r1 => ?_
  subst ed
  obtain ⟨v, rfl, r⟩ := one_rp r1
  obtain ⟨hlt, hne⟩ := hl cs pn
  cases r with
  | lst h1 h2 =>
    rename_i a xs
    obtain ⟨z1, z2⟩ := zip_crs h2
    have hxl : xs.length = cs.length := by rw [h2.length, List.length_map]
    -- the items' addresses
    have ad : ∃ ks : List (Addr × List Int), xs.zip (cs.map zi) = ks.map fun p => (V.ref p.1, p.2) := by
      have : ∀ l : List TB, (∀ b ∈ l, ∃ t, b.1 = V.ref t) → ∃ ks : List (Addr × List Int), l = ks.map fun p => (V.ref p.1, p.2) := fun l => by
        induction l with
        | nil => exact fun _ => ⟨[], rfl⟩
        | cons b l ih =>
          intro h
          obtain ⟨t, e⟩ := h b (by simp)
          obtain ⟨ks, e2⟩ := ih fun b hb => h b (by simp [hb])
          exact ⟨(t, b.2) :: ks, by rw [List.map_cons, ← e2, ← e]⟩
      exact this _ fun b hb => let ⟨t, e, _⟩ := rp_tup_sq k1.gh (z2 b hb).1; ⟨t, e⟩
    obtain ⟨ks, eks⟩ := ad
    have exs : xs = ks.map fun p => V.ref p.1 := by rw [← z1, eks, List.map_map]; rfl
    have esn : ks.map (·.2) = cs.map zi := by
      rw [← zip_snd hxl, eks, List.map_map]; rfl
    have kfact : ∀ p ∈ ks, Rp K G1 (.ref p.1) (.tup (p.2.map .int)) ∧ p.2 ∈ cs.map zi := fun p hp => z2 (V.ref p.1, p.2) (by rw [eks]; exact List.mem_map.mpr ⟨p, hp, rfl⟩)
    have ksq : ∀ {H' : Hp}, Same G1 H' → ∀ p ∈ ks, SqT K H' p.1 (p.2.map V.int) := fun {H'} sm p hp => by
      obtain ⟨t, e, hq⟩ := rp_tup_sq sm (kfact p hp).1
      cases e; exact hq
    have kne : ∀ p ∈ ks, p.2 ≠ [] := fun p hp e => by
      obtain ⟨c, hc, e2⟩ := List.mem_map.mp (kfact p hp).2
      have : zi c = [] := by rw [e2, e]
      exact hne c hc (by unfold zi at this; exact List.map_eq_nil_iff.mp this)
    have kl : ks.length < 64 := by have := congrArg List.length esn; rw [List.length_map, List.length_map] at this; omega
    refine ⟨a, ks, rfl, by rw [← exs]; exact SqL.of (k1.gh _ _ h1), ksq k1.gh, kl, fun p L hp hL1 hL2 => ?_⟩
    have s1 := same_upd (H := H1) (o := SetTO P w p L) hp
    refine ⟨p, L, rfl, upd_same, fun x hx => ⟨kne x (hL1 x hx), ksq (k1.gh.trans s1) x (hL1 x hx)⟩, fun L' p2 hperm hnd hsrt hp2 => ?_⟩
    have hp2' : H1 p2 = none := none_of s1 hp2
    have mem' : ∀ b ∈ L', ∃ x ∈ ks, b = (V.ref x.1, x.2) := fun b hb => by
      obtain ⟨x, hx, e⟩ := List.mem_map.mp (hperm.mem_iff.mp hb)
      exact ⟨x, hL1 x hx, e.symm⟩
    have ez : ∀ b ∈ L', b.2 = zi (b.2.map Int.toNat) := fun b hb => by
      obtain ⟨x, hx, rfl⟩ := mem' b hb
      obtain ⟨c, _, e2⟩ := List.mem_map.mp (kfact x hx).2
      show x.2 = _
      rw [← e2]
      have : (zi c).map Int.toNat = c := by
        unfold zi; rw [List.map_map]
        exact (List.map_congr_left fun n _ => by simp).trans (List.map_id c)
      rw [this]
    have emap : (L'.map fun b => b.2.map Int.toNat).map zi = L'.map (·.2) := by
      rw [List.map_map]
      exact List.map_congr_left fun b hb => (ez b hb).symm
    refine q p2 _ G1 _ _ ⟨cs, L'.map fun b => b.2.map Int.toNat, pn, ?_, ?_, fun c => ?_, rfl⟩ (k1.trans (.of k1.ok (.more k1.gh (s1.trans (same_upd hp2))))) (k1.k.nn _ hp2') (none_of k1.gh hp2') (fun n => M.there k1.ok n hp2') upd_same ?_
    · have : ((L'.map fun b => b.2.map Int.toNat).map zi).Nodup := by rw [emap]; exact hnd
      exact (List.pairwise_map.mp this).imp fun h e => h (by rw [e])
    · refine List.Pairwise.map _ (fun a b (h : a.2 = zi (a.2.map Int.toNat) ∧ b.2 = zi (b.2.map Int.toNat) ∧ a.2 ≤ b.2) => by rw [← h.1, ← h.2.1]; exact h.2.2) (hsrt.imp_of_mem fun ha hb h => ⟨ez _ ha, ez _ hb, h⟩)
    · have m1 : zi c ∈ L'.map (·.2) ↔ zi c ∈ cs.map zi := by
        rw [(hperm.map (·.2)).mem_iff, List.map_map, ← esn]
        constructor
        · intro h
          obtain ⟨x, hx, e⟩ := List.mem_map.mp h
          exact List.mem_map.mpr ⟨x, hL1 x hx, e⟩
        · intro h
          obtain ⟨x, hx, e⟩ := List.mem_map.mp h
          obtain ⟨y, hy, e2⟩ := List.mem_map.mp (hL2 x hx)
          exact List.mem_map.mpr ⟨y, hy, e2.trans e⟩
      have inj : ∀ l : List (List Nat), zi c ∈ l.map zi ↔ c ∈ l := fun l => ⟨fun h => by
        obtain ⟨d, hd, e⟩ := List.mem_map.mp h
        rw [← zi_inj e]; exact hd, fun h => List.mem_map.mpr ⟨c, h, rfl⟩⟩
      rw [← inj, emap, m1, inj]
    · have r := rp_crs (K := K) (G := G1) (bs := L') fun b hb => by
        obtain ⟨x, hx, rfl⟩ := mem' b hb
        exact (kfact x hx).1
      have e2 : (L'.map fun b => Dt.tup (b.2.map .int)) = (L'.map fun b => b.2.map Int.toNat).map crD := by
        rw [List.map_map]
        refine List.map_congr_left fun b hb => ?_
        show _ = crD (b.2.map Int.toNat)
        unfold crD
        rw [dn_zi, ← ez b hb]
      rw [← e2]; exact r
/-! ### bare tuples -/
abbrev tbD (c : List Nat) : Dt := .tupb (c.map dn)
theorem ev_tupB {ta : TA} {ds : List Dt} (h : EvA K ta es ds) (hl : ds.length ≤ 100000) : EvD K (tTupB ta) es (.tupb ds) := fun σ G H he hs Q q =>
  h σ G H he hs _ fun vs G1 H1 k1 r1 => ⟨small (by rw [r1.length]; exact hl), fun p hp o ho => q _ _ _ (k1.trans (Ok.new k1.gh hp)) (.tupb upd_same ho (RpAll.mono (same_upd (none_of k1.gh hp)) _ r1))⟩
theorem rd_catB {xs : List Dt} {y : Dt} (hz : xs.length + 1 ≤ 100000) : RD K (rCatB K) (.tupb xs) (.tupb [y]) (.tupb (xs ++ [y])) := fun u v G H hs h1 h2 Q q => by
  cases h1 with
  | tupb g1 g2 g3 =>
    cases h2 with
    | tupb g4 g5 g6 =>
      refine ⟨_, _, _, _, rfl, rfl, .inl (.inr ⟨_, hs _ _ g1⟩), .inl (.inr ⟨_, hs _ _ g4⟩), fun e => ?_, ?_, fun e => ?_, fun _ p hp o ho => ?_⟩
      · subst e; have := g6.length; simp at this
      · rw [g3.length, g6.length]; exact small (by simpa using hz)
      · subst e
        cases g3
        exact q _ G H (.refl hs) (.tupb g4 g5 g6)
      · exact q _ _ _ (Ok.new hs hp) (.tupb upd_same ho (RpAll.mono (same_upd (none_of hs hp)) _ (g3.append g6)))
theorem rd_niB {p : Nat} {s : List Nat} : RD K (rIn K true) (dn p) (tbD s) (.bl (!decide (p ∈ s))) := fun u v G H hs h1 h2 Q q => by
  cases h1
  cases h2 with
  | tupb g1 _ g2 =>
    rw [dn_zi] at g2
    rw [rp_ints g2] at g1
    refine ⟨_, _, rfl, .inr (.inl (.inr ⟨_, hs _ _ g1⟩)), rfl, flat_ints _, ?_⟩
    show Q (.bl (!inV (.int p) ((zi s).map V.int))) H
    rw [inV_ints]
    have e : decide ((p : Int) ∈ zi s) = decide (p ∈ s) := by by_cases h : p ∈ s <;> simp [h, mem_zi]
    rw [e]
    exact q _ G H (.refl hs) (.bl _)
theorem wk_tupb {te : TE} {xs : List Dt} (h : EvD K te es (.tupb xs)) : WkD K (iTup K te) es xs := fun σ G H he hs R q => h σ G H he hs _ fun v G1 H1 k1 r1 => by
  cases r1 with
  | tupb h1 _ h2 => exact ⟨_, rfl, ⟨_, .inl (.inr ⟨_, k1.gh _ _ h1⟩)⟩, q _ G1 H1 k1 (wkj_tup (.inl (.inr ⟨_, h1⟩)) h2)⟩
theorem ev_tidx {to te : TE} {o : List Nat} {z : Nat} (ho : EvD K to es (tbD o)) (ht : EvD K te es (dn z)) (hz : z ∈ o) : EvD K (tTIdx to (tCons te tNil)) es (dn (o.idxOf z)) := fun σ G H he hs Q q =>
  ho σ G H he hs _ fun v G1 H1 k1 r1 => by
    cases r1 with
    | tupb h1 h2 h3 =>
      rw [dn_zi] at h3
      rw [rp_ints h3] at h1
      refine ⟨⟨_, _, _, rfl, k1.gh _ _ h1, h2⟩, ht σ G1 H1 (he.mono k1.gg) k1.gh _ fun u G2 H2 k2 r2 => ?_⟩
      cases r2
      have hl := List.idxOf_lt_length_of_mem hz
      refine ⟨_, _, zi o, z, o.idxOf z, rfl, k2.hh _ _ (k1.gh _ _ h1), rfl, ?_, fun m hm e => ?_, q _ G2 H2 (k1.trans k2) (.int _)⟩
      · unfold zi
        rw [List.getElem?_map, List.getElem?_eq_getElem hl, List.getElem_idxOf hl]; rfl
      · unfold zi at e
        rw [List.getElem?_map] at e
        cases e2 : o[m]? with
        | none => rw [e2] at e; cases e
        | some y =>
          rw [e2] at e
          have : ((y : Nat) : Int) = (z : Int) := by simpa using e
          have hy : y = z := by omega
          obtain ⟨b1, b2⟩ := List.getElem?_eq_some_iff.mp e2
          have := List.not_of_lt_findIdx hm
          rw [b2, hy] at this
          simp at this
/-! ### flags, equality -/
def flD : Option Bool → Dt
  | none => .non
  | some b => .bl b
theorem rd_isTB {f : Option Bool} {b : Bool} : RD K rIsTB (flD f) (.bl b) (.bl (decide (f = some b))) := fun u v G H hs h1 h2 Q q => by
  cases h2
  cases f with
  | none =>
    cases h1
    exact ⟨b, rfl, .inl rfl, q _ G H (.refl hs) (.bl _)⟩
  | some a =>
    cases h1
    refine ⟨b, rfl, .inr ⟨a, rfl⟩, ?_⟩
    have e : decide (V.bl a = V.bl b) = decide (some a = some b) := by by_cases h : a = b <;> simp [h]
    rw [e]
    exact q _ G H (.refl hs) (.bl _)
theorem dp_ints {H : Hp} : ∀ ns : List Int, DpAll K H (ns.map V.int) (ns.map PyData.int)
  | [] => .nil
  | n :: ns => .cons (.int n) (dp_ints ns)
theorem dp_tup {G H : Hp} (hs : Same G H) {v : V} {c : List Nat} (r : Rp K G v (crD c)) : Dp K H v (.tuple ((zi c).map .int)) := by
  unfold crD at r
  rw [dn_zi] at r
  obtain ⟨t, rfl, hq⟩ := rp_tup_sq hs r
  exact .tup hq (dp_ints _)
theorem lay_ints : ∀ ns : List Int, PyData.canLayAll0 (ns.map .int) = true
  | [] => by simp [PyData.canLayAll0]
  | n :: ns => by simp [PyData.canLayAll0, PyData.canLay0, lay_ints ns]
theorem shaped_tup (ns : List Int) : SeqAt.shaped (.tuple (ns.map .int)) = true := by
  have h := depth_tup ns
  show (PyData.canLay0 (.tuple (ns.map .int)) && decide (PyData.depth (.tuple (ns.map .int)) ≤ 64)) = true
  rw [Bool.and_eq_true, h]
  exact ⟨by simp only [PyData.canLay0]; exact lay_ints ns, by decide⟩
theorem eqv_crs (a b : List Nat) : PyData.eqv (.tuple ((zi a).map .int)) (.tuple ((zi b).map .int)) = decide (a = b) := by
  simp only [PyData.eqv, eqv_ints]
  by_cases h : a = b
  · simp [h]
  · have : zi a ≠ zi b := fun e => h (zi_inj e)
    simp [h, this]
theorem rd_eqN {a b : List Nat} : RD K (rEqD K) (crD a) (crD b) (.bl (decide (a = b))) := fun u v G H hs h1 h2 Q q => by
  refine ⟨_, _, dp_tup hs h1, dp_tup hs h2, shaped_tup _, shaped_tup _, ?_⟩
  rw [eqv_crs]
  exact q _ G H (.refl hs) (.bl _)
theorem rd_niP {x : Nat × Nat} {prs : List (Nat × Nat)} : RD K (rNotInD K) (prD x) (.lst (prs.map prD)) (.bl (!decide (x ∈ prs))) := fun u v G H hs h1 h2 Q q => by
  have pc : ∀ y : Nat × Nat, prD y = crD [y.1, y.2] := fun y => rfl
  cases h2 with
  | lst g1 g2 =>
    have all : ∀ {vs : List V} {l : List (Nat × Nat)}, RpAll K G vs (l.map prD) → DpAll K H vs (l.map fun y => PyData.tuple ((zi [y.1, y.2]).map .int)) := fun {vs l} r => by
      induction l generalizing vs with
      | nil => cases r; exact .nil
      | cons y l ih =>
        cases r with
        | cons a b => exact .cons (dp_tup hs (c := [y.1, y.2]) a) (ih b)
    have shp : SeqAt.shaped (.list (prs.map fun y => PyData.tuple ((zi [y.1, y.2]).map .int))) = true := by
      have l1 : ∀ (g : Nat × Nat → List Int) (l : List (Nat × Nat)), PyData.canLayAll0 (l.map fun y => PyData.tuple ((g y).map .int)) = true ∧ PyData.depthAll (l.map fun y => PyData.tuple ((g y).map .int)) ≤ 1 := fun g l => by
        induction l with
        | nil => simp [PyData.canLayAll0, PyData.depthAll]
        | cons y l ih =>
          have d := depth_tup (g y)
          have hl := lay_ints (g y)
          rw [List.map_cons]
          simp only [PyData.canLayAll0, PyData.depthAll, PyData.canLay0, Bool.and_eq_true]
          exact ⟨⟨hl, ih.1⟩, by have := ih.2; omega⟩
      show (PyData.canLay0 (.list _) && decide (PyData.depth (.list _) ≤ 64)) = true
      rw [Bool.and_eq_true]
      have := (l1 (fun y => zi [y.1, y.2]) prs).2
      exact ⟨by simp only [PyData.canLay0]; exact (l1 (fun y => zi [y.1, y.2]) prs).1, decide_eq_true (by simp only [PyData.depth]; omega)⟩
    refine ⟨_, _, dp_tup hs (c := [x.1, x.2]) h1, .lst (SqL.of (hs _ _ g1)) (all g2), shaped_tup _, shp, ?_⟩
    have e : ((prs.map fun y => PyData.tuple ((zi [y.1, y.2]).map .int)).any fun z => PyData.eqv z (.tuple ((zi [x.1, x.2]).map .int))) = decide (x ∈ prs) := by
      rw [List.any_map]
      by_cases h : x ∈ prs
      · rw [decide_eq_true h, List.any_eq_true]
        exact ⟨x, h, by show PyData.eqv _ _ = true; rw [eqv_crs]; simp⟩
      · rw [decide_eq_false h, List.any_eq_false]
        intro y hy
        show ¬ PyData.eqv _ _ = true
        rw [eqv_crs]
        have : y ≠ x := fun e => h (e ▸ hy)
        intro z
        have := of_decide_eq_true z
        simp only [List.cons.injEq, and_true] at this
        exact ‹y ≠ x› (Prod.ext this.1 this.2)
    rw [e]
    exact q _ G H (.refl hs) (.bl _)
/-- sorted of a tuple of ints -/
theorem rc_sortTI {ns ms : List Nat} (hp : ms.Perm ns) (hs' : ms.Pairwise (· ≤ ·)) (hl : ns.length < 64) : RCL K (rSortedTI K) [crD ns] (ms.map dn) := fun vs G H hs h Q q => by
  obtain ⟨v, rfl, r⟩ := one_rp h
  unfold crD at r
  rw [dn_zi] at r
  obtain ⟨t, rfl, hq⟩ := rp_tup_sq hs r
  refine ⟨t, zi ns, rfl, hq, by unfold zi; rw [List.length_map]; exact hl, fun ks p p1 p2 hp0 => ?_⟩
  have e : ks = zi ms := (p1.trans (hp.map _).symm).eq_of_pairwise (fun a b _ _ h1 h2 => Int.le_antisymm h1 h2) p2 (List.Pairwise.map _ (fun a b h => by show (a : Int) ≤ b; omega) hs')
  subst e
  refine q p _ G _ (Ok.more hs (same_upd hp0)) hp0 (none_of hs hp0) upd_same ?_
  rw [dn_zi]; exact ints_rp _
theorem rc_sortL {ns ms : List Nat} (hp : ms.Perm ns) (hs' : ms.Pairwise (· ≤ ·)) : RCL K (rSortedI K) [ldN ns] (ms.map dn) := by
  unfold ldN
  rw [dn_zi, dn_zi]
  exact rc_sortI (hp.map _) (List.Pairwise.map _ (fun a b h => by show (a : Int) ≤ b; omega) hs')
/-- list + list -/
theorem el_cat {ta tb : TE} {xs ys : List Dt} (ha : EvD K ta es (.lst xs)) (hb : EvD K tb es (.lst ys)) (hz : xs.length + ys.length ≤ 100000) : EvL K (tOp rCat ta tb) es (xs ++ ys) := fun σ G H he hs Q q =>
  ha σ G H he hs _ fun u G1 H1 k1 r1 => hb σ G1 H1 (he.mono k1.gg) k1.gh _ fun v G2 H2 k2 r2 => by
    cases r1 with
    | lst a1 a2 =>
      cases r2 with
      | lst b1 b2 =>
        have a3 := RpAll.mono k2.gg _ a2
        refine ⟨_, _, _, _, rfl, rfl, k2.gh _ _ (k2.gg _ _ a1), k2.gh _ _ b1, by rw [a2.length, b2.length]; exact small hz, fun p hp => ?_⟩
        exact q p _ G2 _ ((k1.trans k2).trans (.more k2.gh (same_upd hp))) (none_of k1.hh (none_of k2.hh hp)) (none_of k2.gh hp) upd_same (a3.append b2)
end
end DL
end
section
set_option Elab.async false
set_option linter.all false
set_option maxRecDepth 100000
set_option maxHeartbeats 0
/-! E1: the law's smaller defs -/
namespace DL
open PySem L2
section
variable {K : PySem.W.Frag} {M : Mo} {es : Es} {mu : Mu} {N : Es → Mu → Prop} {R : RT}
/-- xs.extend(new list) -/
theorem x_ext {to te : TE} (j : Nat) {l : Addr} {ds zs : List Dt} (ho : EvD K to es (.adr l)) (h : EvL K te es zs) (hj : mu[j]? = some (l, ds)) (hz : ds.length + zs.length < 100000) (q : N es (mu.set j (l, ds ++ zs))) :
    Xs K M (tDrop (tBM K "list" rExtend to (tCons te tNil))) es mu N R := fun B G0 H0 σ H D ⟨G, b, k, m, e, u⟩ hn hr =>
  ho σ G H e k.gh _ fun v G1 H1 k1 r1 => by
    cases r1
    obtain ⟨b1, k1', m1, e1, u1⟩ := Cfg.step b k m e u k1
    obtain ⟨na, h0, hg, xs, hx, rx⟩ := u1.at_ _ (List.mem_of_getElem? hj)
    refine ⟨.inl ⟨rfl, _, .inl (.inl hx)⟩, h σ G1 H1 e1 k1.gh _ fun p ys G2 H2 k2 hp hgp hy ry => ?_⟩
    obtain ⟨b2, k2', m2, e2, u2⟩ := Cfg.step b1 k1' m1 e1 u1 k2
    have hx2 := k2.hh _ _ hx
    have rx2 := RpAll.mono k2.gg _ rx
    have e5 : xs.length = ds.length := rx.length
    exact ⟨l, p, xs, ys, rfl, rfl, hx2, hy, small (by rw [ry.length]; omega), hn _ _ _ _ q (Cfg.put b2 k2' m2 e2 u2 hj (rx2.append ry))⟩
theorem el_listRg {ta : TE} {n : Nat} (h : EvD K ta es (dn n)) (hn : n ≤ 1000) : EvL K (tLstRg (tRg1 ta)) es ((List.range n).map dn) := fun σ G H he hs Q q =>
  h σ G H he hs _ fun v G1 H1 k1 r1 => by
    cases r1
    refine ⟨(n : Int), rfl, .of_le (by omega) (by omega) (by omega) (by omega), fun p hp => ?_⟩
    refine q p _ G1 _ (k1.trans (.more k1.gh (same_upd hp))) (none_of k1.hh hp) (none_of k1.gh hp) upd_same ?_
    have e : rgV 0 (n : Int) = (zi (List.range n)).map V.int := by
      unfold rgV zi
      rw [List.map_map, show ((n : Int) - 0).toNat = n by omega]
      exact List.map_congr_left fun i _ => by show V.int (0 + (i : Int)) = V.int (i : Int); rw [Int.zero_add]
    rw [e, dn_zi]; exact ints_rp _
/-- a draw below the length of a list that is being changed -/
def tDrawLen (K : PySem.W.Frag) (i j : Nat) : TE := tCall (sp_law_draw K) [] C8.E0 (tCons (tVar i) (tCons (tCB (rLenQ K) (tCons (tVar j) tNil)) tNil))
theorem draw_len {h l : Addr} {i j : Nat} {σ : L2.St} {G H : Hp} {xs : List V} (hi : es[i]? = some (some (.adr h))) (hj : es[j]? = some (some (.adr l))) (he : SlE K G σ es) (hs : Same G H) (m : (moH K h).ok G H) (hx : H l = some (.lst xs)) (h1 : 1 ≤ xs.length) (h2 : xs.length < 1000000) (Q : VK)
    (q : ∀ (n : Nat) G' H', n < xs.length → OkS (moH K h) G H G' H' → Q (.int n) H') : tDrawLen K i j σ H Q := by
  obtain ⟨v, e1, r1⟩ := he.at_ i _ hi
  obtain ⟨v2, e2, r2⟩ := he.at_ j _ hj
  cases r1; cases r2
  refine ⟨_, e1, _, e2, l, xs, rfl, .inl (SqL.of hx), ?_⟩
  refine ⟨(h, (xs.length : Int)), G, hs, .cons (.adr h) (.cons (.int _) .nil), m, ⟨by show (1 : Int) ≤ (xs.length : Int); omega, by show (xs.length : Int) < 1000000; omega⟩, fun v G' H' d ⟨n, hn, hd⟩ k r => ?_⟩
  subst hd
  cases r
  exact q n G' H' (by simp only at hn; omega) k
theorem put5 {B G0 H0 G H : Hp} {σ : L2.St} {j : Nat} {l : Addr} {ds ds' : List Dt} {ys : List V} (b : Same B G) (k : OkM M G0 H0 G H) (m : M.ok G H) (e : SlE K G σ es) (u : MuOk K M H0 G H mu) (hj : mu[j]? = some (l, ds)) (r : RpAll K G ys ds') :
    Same B G ∧ OkM M G0 H0 G (upd H l (.lst ys)) ∧ M.ok G (upd H l (.lst ys)) ∧ SlE K G σ es ∧ MuOk K M H0 G (upd H l (.lst ys)) (mu.set j (l, ds')) := by
  obtain ⟨na, h0, hg, xs, hx, _⟩ := u.at_ _ (List.mem_of_getElem? hj)
  refine ⟨b, ⟨k.gg, fun a o z => ?_, fun a o n z => ?_, fun a z => ?_, k.fr⟩, M.keep m (Same.refl G) (fun a o h1 h2 _ => by rw [h1] at h2; cases h2) fun a o n z => ?_, e, u.put hj r⟩
  · rw [upd_ne (fun q => by rw [q, hg] at z; cases z)]; exact k.gh _ _ z
  · rw [upd_ne (fun q => by rw [q, h0] at z; cases z)]; exact k.hh _ _ n z
  · by_cases q : a = l
    · rw [q]; exact h0
    · rw [upd_ne q] at z; exact k.nn _ z
  · rw [upd_ne (fun q => na (by rw [← q]; exact n))]; exact z
/-- found.append(left.pop(draw)) -/
theorem x_appPop {h l f : Addr} {ih il jf : Nat} {xs fs : List Dt} (ehi : es[ih]? = some (some (.adr h))) (el : es[il]? = some (some (.adr l))) (ef : es[jf]? = some (some (.adr f))) (hmu : mu = [(f, fs), (l, xs)]) (h1 : 1 ≤ xs.length) (h2 : xs.length ≤ 1000) (h3 : fs.length ≤ 1000)
    (q : ∀ (n : Nat) (x : Dt), xs[n]? = some x → N es [(f, fs ++ [x]), (l, xs.eraseIdx n)]) :
    Xs K (moH K h) (tDrop (tBM K "list" rAppend (tVar jf) (tCons (tBM K "list" rPopAt (tVar il) (tCons (tDrawLen K ih il) tNil)) tNil))) es mu N R := fun B G0 H0 σ H D ⟨G, b, k, m, e, u⟩ hn hr => by
  subst hmu
  obtain ⟨v, e1, r1⟩ := e.at_ jf _ ef
  obtain ⟨v2, e2, r2⟩ := e.at_ il _ el
  cases r1; cases r2
  obtain ⟨naf, h0f, hgf, vf, hxf, rf⟩ := u.at_ (f, fs) (by simp)
  obtain ⟨nal, h0l, hgl, vl, hxl, rl⟩ := u.at_ (l, xs) (by simp)
  have hvl : vl.length = xs.length := rl.length
  have hvf : vf.length = fs.length := rf.length
  refine ⟨_, e1, .inl ⟨rfl, _, .inl (.inl hxf)⟩, _, e2, .inl ⟨rfl, _, .inl (.inl hxl)⟩, ?_⟩
  refine draw_len ehi el e k.gh m hxl (by omega) (by omega) _ fun n G1 H1 hnn k1 => ?_
  obtain ⟨b1, k1', m1, e1', u1⟩ := Cfg.stepM b k e u k1
  have hxl1 := k1.k.hh _ _ nal hxl
  have hxf1 := k1.k.hh _ _ naf hxf
  obtain ⟨x, hx⟩ : ∃ x, xs[n]? = some x := ⟨xs[n]'(by omega), List.getElem?_eq_getElem (by omega)⟩
  obtain ⟨y, hy, ry⟩ := rl.get hx
  have hfl : f ≠ l := fun z => by
    have := u.nd
    simp [z] at this
  refine ⟨l, vl, (n : Int), n, y, rfl, rfl, hxl1, by omega, by omega, ?_, hy, ?_⟩
  · have := ixN_seq (n := vl.length) (i := (n : Int)) (j := n) (by unfold ixN; rw [if_pos (by omega), if_pos (by omega)]; rfl)
    exact this.1
  · obtain ⟨b2, k2, m2, e2', u2⟩ := put5 b1 k1' m1 e1' u1 (j := 1) (l := l) (ds := xs) rfl ((RpAll.mono k1.gg _ rl).eraseIdx n)
    obtain ⟨naf2, h0f2, hgf2, vf2, hxf2, rf2⟩ := u2.at_ (f, fs) (by simp)
    have e7 : vf2.length = fs.length := rf2.length
    exact ⟨f, vf2, y, rfl, rfl, hxf2, small' (by omega), hn _ _ _ _ (q n x hx) ⟨_, put5 b2 k2 m2 e2' u2 (j := 0) (l := f) (ds := fs) rfl (rf2.snoc (ry.mono k1.gg))⟩⟩
/-- found.pop(draw) -/
theorem x_popDraw {h f : Addr} {ih jf : Nat} {fs : List Dt} (ehi : es[ih]? = some (some (.adr h))) (ef : es[jf]? = some (some (.adr f))) (hmu : mu = [(f, fs)]) (h1 : 1 ≤ fs.length) (h2 : fs.length ≤ 1000)
    (q : ∀ n : Nat, N es [(f, fs.eraseIdx n)]) : Xs K (moH K h) (tDrop (tBM K "list" rPopAt (tVar jf) (tCons (tDrawLen K ih jf) tNil))) es mu N R := fun B G0 H0 σ H D ⟨G, b, k, m, e, u⟩ hn hr => by
  subst hmu
  obtain ⟨v, e1, r1⟩ := e.at_ jf _ ef
  cases r1
  obtain ⟨naf, h0f, hgf, vf, hxf, rf⟩ := u.at_ (f, fs) (by simp)
  have hvf : vf.length = fs.length := rf.length
  refine ⟨_, e1, .inl ⟨rfl, _, .inl (.inl hxf)⟩, ?_⟩
  refine draw_len ehi ef e k.gh m hxf (by omega) (by omega) _ fun n G1 H1 hnn k1 => ?_
  obtain ⟨b1, k1', m1, e1', u1⟩ := Cfg.stepM b k e u k1
  have hxf1 := k1.k.hh _ _ naf hxf
  have hx : fs[n]? = some fs[n] := List.getElem?_eq_getElem (by omega)
  obtain ⟨y, hy, ry⟩ := rf.get hx
  refine ⟨f, vf, (n : Int), n, y, rfl, rfl, hxf1, by omega, by omega, ?_, hy, ?_⟩
  · have := ixN_seq (n := vf.length) (i := (n : Int)) (j := n) (by unfold ixN; rw [if_pos (by omega), if_pos (by omega)]; rfl)
    exact this.1
  · exact hn _ _ _ _ (q n) ⟨_, put5 b1 k1' m1 e1' u1 (j := 0) (l := f) (ds := fs) rfl ((RpAll.mono k1.gg _ rf).eraseIdx n)⟩
end
section
variable {P : Program} {w : World} {K : PySem.W.Frag} {mg : Str → Option Value} {base : Heap}
theorem kM {X : Cx} (K : PySem.W.Frag) (hK : X.K = K) {e : Expr} {T : String} {r : V → List V → Hp → VK → Prop} {to : TE} {t : TA} (h : PE X e (tBM X.K T r to t)) : PE X e (tBM K T r to t) := hK ▸ h
theorem sc_law_part : FnScope ["_law_hand_here", "_law_people", "_law_share", "_law_person"] ["_law_hand_here", "_law_people", "_law_share"] (defScope Hd.s_law_part) := ⟨rfl, rfl, rfl, by decide +kernel, rfl, by decide +kernel, by decide +kernel⟩
def sp_law_part (K : PySem.W.Frag) : Sp := spM K (fun x : Addr × Nat × Nat => moH K x.1) (fun x => [.adr x.1, dn x.2.1, dn x.2.2]) (fun x => x.2.1 ≤ 12) (fun x d => ∃ c, CrOk x.2.1 c ∧ d = crD c)
theorem cal_law_part (T : Txt K mg) : C8.Cal P w K mg base 2 "_law_part" (sp_law_part K) [] := by
  have c_law_draw := cal_law_draw (P := P) (w := w) (base := base) T
  obtain ⟨fd, F⟩ := T.f_law_part
  have nd := sc_law_part.nd
  refine mkM F sc_law_part (fun _ => rfl) (fun us hl _ _ _ _ _ _ => match us, hl with | [_, _, _], _ => rfl) T.m_law_part fun cdv A outer s H E hr => ⟨_,
      (pss_one (ps_ret (pe_callTy (kTup K) (by rfl) T.tuple (by decide +kernel) (pa_cons (pe_lc (own := [("_law_person", 3)]) (g := (gName 3)) rfl nd (pi_range1 (by rfl) T.range (pa_cons (pv 1) pa_nil)) (blkOk_by (by show blkC ["_law_hand_here", "_law_people", "_law_share", "_law_person"] (defScope Hd.s_law_part) _ _ = true; decide +kernel)) (fun _ _ _ _ _ => (pg_name (i := 3) nd rfl (by first | exact Or.inl rfl | exact Or.inr rfl))) (fun _ _ _ _ _ => (pts_one (pt_cmpR op_lt (C8.pe_c c_law_draw hr (by decide) (by rfl) (pa_cons (pv 0) (pa_cons pe_int pa_nil))) (pv 2) (nomark _)))) (fun _ _ _ _ _ => (pv 3))) pa_nil)))), ?_⟩
  rintro ⟨h, n, sh⟩ h12
  simp only at h12
  refine x_retM (em_cb (ema_cons (EvML.d (eml_lc (List.range n) dn (fun y d => d = dn y) (is := [3]) (wk_is (wk_range1 (n := (n : Int)) (ea_cons (ev_var rfl) ea_nil) (by omega) (by omega)) (by rw [Int.toNat_natCast, rng0])) (by simp) (by rw [List.length_range]; omega) fun p hp => tg_name ⟨emt_test (em_opL (Pz := fun d => ∃ b : Bool, True ∧ d = .bl b) (em_draw (m := 6) rfl ev_int (by omega) (by omega)) (ev_var rfl) fun d ⟨i, _, e⟩ => ⟨.bl (decide ((i : Int) < sh)), ⟨_, trivial, rfl⟩, by rw [e]; exact rd_b0⟩), em_of (ev_var rfl)⟩)) fun _ _ => ema_nil) ?_)
  rintro ds ⟨d, ds', ⟨l, ⟨zs, sub, hl, hz⟩, rfl⟩, rfl, rfl⟩
  have e : l = zs.map dn := by
    apply List.ext_getElem?
    intro i
    by_cases hi : i < zs.length
    · rw [List.getElem?_map, List.getElem?_eq_getElem hi, List.getElem?_eq_getElem (by omega)]
      exact congrArg some (hz i _ _ (List.getElem?_eq_getElem hi) (List.getElem?_eq_getElem (by omega)))
    · rw [List.getElem?_eq_none (by omega), List.getElem?_eq_none (by rw [List.length_map]; omega)]
  subst e
  exact ⟨crD zs, ⟨zs, ⟨List.pairwise_lt_range.sublist sub, fun p hp => List.mem_range.mp (sub.subset hp)⟩, rfl⟩, rc_tupL⟩
theorem sc_law_order : FnScope ["_law_hand_here", "_law_people", "_law_left", "_law_found", "_law_turn"] ["_law_hand_here", "_law_people"] (defScope Hd.s_law_order) := ⟨rfl, rfl, rfl, by decide +kernel, rfl, by decide +kernel, by decide +kernel⟩
def sp_law_order (K : PySem.W.Frag) : Sp := spM K (fun x : Addr × Nat => moH K x.1) (fun x => [.adr x.1, dn x.2]) (fun x => x.2 ≤ 12) (fun x d => ∃ o, LM.IsOrder x.2 o ∧ d = crD o)
theorem map_erase {α β : Type} (f : α → β) : ∀ (xs : List α) (n : Nat), (xs.map f).eraseIdx n = (xs.eraseIdx n).map f
  | [], _ => rfl
  | _ :: _, 0 => rfl
  | _ :: xs, n + 1 => congrArg (_ :: ·) (map_erase f xs n)
theorem perm_pop {xs : List Nat} {n x : Nat} (h : xs[n]? = some x) : xs.Perm (x :: xs.eraseIdx n) := by
  induction xs generalizing n with
  | nil => simp at h
  | cons a xs ih =>
    cases n with
    | zero => simp at h; subst h; exact .refl _
    | succ n => exact ((ih (by simpa using h)).cons a).trans (.swap _ _ _)
theorem cal_law_order (T : Txt K mg) : C8.Cal P w K mg base 2 "_law_order" (sp_law_order K) [] := by
  have c_law_draw := cal_law_draw (P := P) (w := w) (base := base) T
  obtain ⟨fd, F⟩ := T.f_law_order
  have nd := sc_law_order.nd
  refine mkM F sc_law_order (fun _ => rfl) (fun us hl _ _ _ _ _ _ => match us, hl with | [_, _], _ => rfl) T.m_law_order fun cdv A outer s H E hr => ⟨_,
      (pss_cons (ps_set (i := 2) nd rfl (by first | exact Or.inl rfl | exact Or.inr rfl) (pe_listRg rfl (by rfl) T.list (prg_1 (by rfl) T.range (pv 1))))
      (pss_cons (ps_set (i := 3) nd rfl (by first | exact Or.inl rfl | exact Or.inr rfl) (pe_lst pa_nil))
      (pss_cons (ps_for PassesOwn.never rfl (pi_range1 (by rfl) T.range (pa_cons (pv 1) pa_nil)) (pg_name (i := 4) nd rfl (by first | exact Or.inl rfl | exact Or.inr rfl)) (pss_one (kAppend K (st := ps_expr (pe_bm PySem.F.plainAttrs_list PySem.F.slot_list_append PySem.F.type_list_append mt_append (pv 3) (pa_cons (pe_bm PySem.F.plainAttrs_list PySem.F.slot_list_pop PySem.F.type_list_pop mt_popAt (pv 2) (pa_cons (C8.pe_c c_law_draw hr (by decide) (by rfl) (pa_cons (pv 0) (pa_cons (pe_callB (kLen K) (by rfl) T.len (by decide +kernel) (pa_cons (pv 2) pa_nil)) pa_nil))) pa_nil)) pa_nil))))))
      (pss_one (ps_ret (pe_callTy (kTup K) (by rfl) T.tuple (by decide +kernel) (pa_cons (pv 3) pa_nil))))))), ?_⟩
  rintro ⟨h, n⟩ h12
  simp only at h12
  refine x_seq (x_new (el_listRg (ev_var rfl) (by omega)) fun l => x_seq (x_new (el_lst ea_nil (by decide)) fun f => x_seq (x_for (is := [4]) (xs := rngD 0 n)
    (fun i es mu => ∃ o ls fs, es = [some (.adr h), some (dn n), some (.adr l), some (.adr f), o] ∧ mu = [(f, (fs : List Nat).map dn), (l, (ls : List Nat).map dn)] ∧ (fs ++ ls).Perm (List.range n) ∧ fs.length = i)
    (wk_is (wk_range1 (n := (n : Int)) (ea_cons (ev_var rfl) ea_nil) (by omega) (by omega)) (by rw [Int.toNat_natCast])) ⟨_, List.range n, [], rfl, rfl, .refl _, rfl⟩ ?_ ?_)))
  · rintro i y es mu hy ⟨o, ls, fs, rfl, rfl, hp, hl⟩
    have hi := (rngD_at hy).1
    have hlen := hp.length_eq
    rw [List.length_append, List.length_range] at hlen
    refine tg_name (x_appPop (h := h) (l := l) (f := f) rfl rfl rfl rfl (by rw [List.length_map]; omega) (by rw [List.length_map]; omega) (by rw [List.length_map]; omega) fun k x hx => ?_)
    obtain ⟨z, hz, rfl⟩ := map_at hx
    refine ⟨_, ls.eraseIdx k, fs ++ [z], rfl, ?_, ?_, by rw [List.length_append]; simp [hl]⟩
    · rw [List.map_append, map_erase]; rfl
    · refine .trans ?_ hp
      rw [List.append_assoc]
      exact (perm_pop hz).symm.append_left fs
  · rintro es mu ⟨o, ls, fs, rfl, rfl, hp, hl⟩
    rw [rngD_len] at hl
    have hlen := hp.length_eq
    rw [List.length_append, List.length_range] at hlen
    have e : ls = [] := List.length_eq_zero_iff.mp (by omega)
    subst e
    rw [List.append_nil] at hp
    refine x_thaw (x_ret (ev_cb (ea_cons (ev_var (thaw_at rfl)) ea_nil) rc_tupL) ⟨fs, ⟨hp.nodup_iff.mpr List.nodup_range, fun p => by rw [hp.mem_iff, List.mem_range]⟩, rfl⟩)
end
end DL
end
section
set_option Elab.async false
set_option linter.all false
set_option maxRecDepth 100000
set_option maxHeartbeats 0
/-! E2: who gets in, lists, sightings, equal data -/
namespace DL
open PySem L2
section
variable {K : PySem.W.Frag}
theorem rd_inN {p : Nat} {s : List Nat} : RD K (rIn K false) (dn p) (crD s) (.bl (decide (p ∈ s))) := by
  have := rd_inT (K := K) (i := (p : Int)) (ns := zi s)
  rw [← dn_zi] at this
  have e : decide ((p : Int) ∈ zi s) = decide (p ∈ s) := by by_cases h : p ∈ s <;> simp [h, mem_zi]
  rw [e] at this
  exact this
theorem rd_inLN {p : Nat} {s : List Nat} : RD K (rIn K false) (dn p) (ldN s) (.bl (decide (p ∈ s))) := by
  have := rd_inL (K := K) (i := (p : Int)) (ns := zi s)
  rw [← dn_zi] at this
  have e : decide ((p : Int) ∈ zi s) = decide (p ∈ s) := by by_cases h : p ∈ s <;> simp [h, mem_zi]
  rw [e] at this
  exact this
theorem rd_eqNN {a b : Nat} : RD K rEq (dn a) (dn b) (.bl (decide (a = b))) := by
  have := rd_eqI (K := K) (i := (a : Int)) (j := (b : Int))
  have e : decide ((a : Int) = b) = decide (a = b) := by by_cases h : a = b <;> simp [h] <;> omega
  rw [e] at this
  exact this
end
/-- an order: a bare tuple or any -/
def ordD (t : Bool) (o : List Nat) : Dt := match t with
  | true => tbD o
  | false => crD o
theorem wk_ord {K : PySem.W.Frag} (t : Bool) {te : TE} {es : Es} {o : List Nat} (h : EvD K te es (ordD t o)) : WkD K (iTup K te) es (o.map dn) := by
  cases t with
  | true => exact wk_tupb h
  | false => exact wk_tup h
theorem inF_nd {lots : LM.Lots} {crowd : List Nat} : ∀ (k : Nat) (a : List Nat), a.length = k → a.Nodup → (LM.inF lots a crowd).Nodup
  | 0, a, hk, _ => by
    have : a = [] := List.length_eq_zero_iff.mp hk
    subst this
    exact List.nodup_nil
  | k + 1, a, hk, nd => by
    rcases List.eq_nil_or_concat a with e | ⟨b, p, e⟩
    · subst e; cases hk
    · rw [List.concat_eq_append] at e
      subst e
      have nb := (List.nodup_append.mp nd).1
      have ih := inF_nd (lots := lots) (crowd := crowd) k b (by simpa using hk) nb
      rw [LM.inF_snoc]
      unfold LM.inStep
      split
      · split
        · exact ih
        · exact LM.nodup_snoc ih fun z => (List.nodup_append.mp nd).2.2 p (LM.inF_sub _ b rfl p z).1 p (by simp) rfl
      · exact ih
theorem lawIn_perm {n : Nat} {lots : LM.Lots} {order crowd : List Nat} (nd : order.Nodup) (hl : ∀ p ∈ order, p < n) : (LM.lawIn n lots order crowd).Perm (LM.inF lots order crowd) := by
  refine (List.perm_ext_iff_of_nodup ((LM.asc_sorted n _).imp fun h => Nat.ne_of_lt h) (inF_nd _ _ rfl nd)).mpr fun p => ?_
  show p ∈ LM.asc n _ ↔ _
  rw [LM.mem_asc]
  exact ⟨fun h => h.2, fun h => ⟨hl p (LM.inF_sub _ order rfl p h).1, h⟩⟩
theorem nd_le {n : Nat} {o : List Nat} (nd : o.Nodup) (hl : ∀ p ∈ o, p < n) : o.length ≤ n := by
  have := nd_len o (List.range n) nd fun p hp => List.mem_range.mpr (hl p hp)
  rwa [List.length_range] at this
section
variable {P : Program} {w : World} {K : PySem.W.Frag} {mg : Str → Option Value} {base : Heap}
theorem sc_law_in : FnScope ["_law_lots_here", "_law_order_here", "_law_crowd", "_law_found", "_law_person", "_law_barred", "_law_lot", "_law_k"] ["_law_lots_here", "_law_order_here", "_law_crowd"] (defScope Hd.s_law_in) := ⟨rfl, rfl, rfl, by decide +kernel, rfl, by decide +kernel, by decide +kernel⟩
def sp_law_in (K : PySem.W.Frag) : Sp := spD K (fun x : Bool × Nat × LM.Lots × List Nat × List Nat => [lotsD x.2.2.1, ordD x.1 x.2.2.2.1, crD x.2.2.2.2]) (fun x => x.2.1 ≤ 12 ∧ x.2.2.1.length ≤ 60 ∧ (∀ l ∈ x.2.2.1, l.length ≤ 1000) ∧ x.2.2.2.1.Nodup ∧ ∀ p ∈ x.2.2.2.1, p < x.2.1) (fun x => crD (LM.lawIn x.2.1 x.2.2.1 x.2.2.2.1 x.2.2.2.2))
theorem cal_law_in (T : Txt K mg) : C8.Cal P w K mg base 1 "_law_in" (sp_law_in K) [] := by
  obtain ⟨fd, F⟩ := T.f_law_in
  have nd := sc_law_in.nd
  refine mkD F sc_law_in (fun _ => rfl) (fun us hl _ _ _ _ _ _ => match us, hl with | [_, _, _], _ => rfl) T.m_law_in fun cdv A outer s H E hr => ⟨_,
      (pss_cons (ps_set (i := 3) nd rfl (by first | exact Or.inl rfl | exact Or.inr rfl) (pe_lst pa_nil))
      (pss_cons (ps_for PassesOwn.never rfl (kTupW K rfl (pv 1)) (pg_name (i := 4) nd rfl (by first | exact Or.inl rfl | exact Or.inr rfl)) (pss_one (ps_if (pt_cmpR (kIn K) (pv 4) (pv 2) (by rfl)) (pss_cons (ps_setLc (i := 5) (own := [("_law_lot", 6)]) (g := (gName 6)) rfl nd rfl rfl (sw_true rfl rfl rfl (by decide +kernel)) (kTupW K rfl (pv 0)) (blkOk_by (by show blkC ["_law_lots_here", "_law_order_here", "_law_crowd", "_law_found", "_law_person", "_law_barred", "_law_lot", "_law_k"] (defScope Hd.s_law_in) _ _ = true; decide +kernel)) (fun _ _ _ _ _ => (pg_name (i := 6) nd rfl (by first | exact Or.inl rfl | exact Or.inr rfl))) (fun _ _ _ _ _ => (pts_one (PW.pt (pw_and (pt_cmpR (kIn K) (pv 4) (pv 6) (by rfl)) (pw_and1 (pt_val (pe_callB (kAll K) (by rfl) T.all (by decide +kernel) (pa_cons (pe_lc (own := [("_law_k", 7)]) (g := (gName 7)) rfl nd (kTupW K rfl (pv 6)) (blkOk_by (by show blkC ["_law_lots_here", "_law_order_here", "_law_crowd", "_law_found", "_law_person", "_law_barred", "_law_lot", "_law_k"] (relS _ (defScope Hd.s_law_in)) _ _ = true; decide +kernel)) (fun _ _ _ _ _ => (pg_name (i := 7) nd rfl (by first | exact Or.inl rfl | exact Or.inr rfl))) (fun _ _ _ _ _ => pts_nil) (fun _ _ _ _ _ => (pe_or (pe_cmpR (kIn K) (pv 7) (pv 3) (by rfl)) (pe_one (pe_cmpR op_eq (pv 7) (pv 4) (nomark _)))))) pa_nil)))))))) (fun _ _ _ _ _ => (pv 6)))
      (pss_one (ps_if (pt_cmpR op_eq (pe_callB (kLen K) (by rfl) T.len (by decide +kernel) (pa_cons (pv 5) pa_nil)) pe_int (nomark _)) (pss_one (kAppend K (st := ps_expr (pe_bm PySem.F.plainAttrs_list PySem.F.slot_list_append PySem.F.type_list_append mt_append (pv 3) (pa_cons (pv 4) pa_nil))))) pss_nil))) pss_nil)))
      (pss_one (ps_ret (pe_callTy (kTup K) (by rfl) T.tuple (by decide +kernel) (pa_cons (pe_callB (kSortI K) (by rfl) T.sorted (by decide +kernel) (pa_cons (pv 3) pa_nil)) pa_nil)))))), ?_⟩
  rintro ⟨t, n, lots, order, crowd⟩ ⟨h12, h60, hlen, nd, hlt⟩
  simp only at h12 h60 hlen nd hlt
  have ho := nd_le nd hlt
  refine x_seq (x_new (el_lst ea_nil (by decide)) fun l => x_seq (x_for (is := [4]) (xs := order.map dn)
    (fun i es mu => ∃ o4 o5, es = [some (lotsD lots), some (ordD t order), some (crD crowd), some (.adr l), o4, o5, none, none] ∧ mu = [(l, (LM.inF lots (order.take i) crowd).map dn)])
    (wk_ord t (ev_var rfl)) ⟨_, _, rfl, rfl⟩ ?_ ?_))
  · rintro i y es mu hy ⟨o4, o5, rfl, rfl⟩
    obtain ⟨p, hp, rfl⟩ := map_at hy
    have hil := (List.getElem?_eq_some_iff.mp hp).1
    have etk : order.take (i + 1) = order.take i ++ [p] := by rw [List.take_add_one, hp]; rfl
    have flen : (LM.inF lots (order.take i) crowd).length ≤ n := nd_le (inF_nd _ _ rfl (nd.sublist (List.take_sublist _ _))) fun q hq => hlt q (List.mem_of_mem_take (LM.inF_sub _ _ rfl q hq).1)
    generalize hF : LM.inF lots (order.take i) crowd = F at flen
    have step : LM.inF lots (order.take (i + 1)) crowd = LM.inStep lots crowd F p := by rw [etk, LM.inF_snoc, hF]
    refine tg_name (x_if (et_test (ev_op (ev_var rfl) (ev_var rfl) rd_inN)) (fun hb => ?_) fun hb => x_next ⟨_, _, rfl, ?_⟩)
    · have hpc : p ∈ crowd := of_decide_eq_true hb
      refine x_seq (x_asgFL (el_lc lots crD (fun lot => decide (p ∈ lot) && lot.all fun k => decide (k ∈ F) || decide (k = p)) crD (is := [6]) (wk_tup (ev_var rfl)) (by simp) (by omega) fun lot hlot => tg_name ⟨et_and (et_test (ev_op (ev_var rfl) (ev_var rfl) rd_inN)) fun _ => et_test (ev_cb (ea_cons (EvL.d (el_lc lot dn (fun _ => true) (fun k => .bl (decide (k ∈ F) || decide (k = p))) (is := [7]) (wk_tup (ev_var rfl)) (by simp) (by have := hlen lot hlot; omega)
          fun k hk => tg_name ⟨et_yes, fun _ => ev_orV (ev_op (ev_var rfl) (ev_var (i := 3) (d := ldN F) (by simp [thaw, wipeE])) rd_inLN) fun _ => ev_op (ev_var rfl) (ev_var rfl) rd_eqNN⟩)) ea_nil) (by rw [filter_yes]; exact rc_allF _ _)), fun _ => ev_var rfl⟩) ?_)
      refine x_if (et_test (ev_op (ev_cb (ea_cons (ev_var rfl) ea_nil) rc_lenL) ev_int rd_eqI)) (fun hc => ?_) fun hc => x_next ⟨_, _, rfl, ?_⟩
      · refine x_app 0 (ev_var rfl) (ev_var rfl) rfl (by rw [List.length_map]; omega) ⟨_, _, rfl, ?_⟩
        have : LM.barred lots F p = false := by
          have hz := of_decide_eq_true hc
          rw [List.length_map, List.length_map] at hz
          have hz2 : (lots.filter fun lot => decide (p ∈ lot) && lot.all fun k => decide (k ∈ F) || decide (k = p)) = [] := List.length_eq_zero_iff.mp (by omega)
          unfold LM.barred
          rw [List.any_eq_false]
          intro lot hl
          have := (List.filter_eq_nil_iff.mp hz2) lot hl
          simpa using this
        rw [step]
        unfold LM.inStep
        rw [if_pos hpc, if_neg (by rw [this]; simp), List.map_append]; rfl
      · have : LM.barred lots F p = true := by
          have hz := of_decide_eq_false hc
          rw [List.length_map, List.length_map] at hz
          unfold LM.barred
          rw [List.any_eq_true]
          cases e : lots.filter fun lot => decide (p ∈ lot) && lot.all fun k => decide (k ∈ F) || decide (k = p) with
          | nil => rw [e] at hz; simp at hz
          | cons lot r =>
            have := List.mem_filter.mp (show lot ∈ lots.filter _ by rw [e]; simp)
            exact ⟨lot, this.1, this.2⟩
        rw [step]
        unfold LM.inStep
        rw [if_pos hpc, if_pos this]
    · have hpc : p ∉ crowd := of_decide_eq_false hb
      rw [step]
      unfold LM.inStep
      rw [if_neg hpc]
  · rintro es mu ⟨o4, o5, rfl, rfl⟩
    rw [List.length_map, List.take_length]
    exact x_thaw (x_ret (ev_cb (ea_cons (EvL.d (el_cb (ea_cons (ev_var (thaw_at rfl)) ea_nil) (rc_sortL (lawIn_perm nd hlt) ((LM.asc_sorted n _).imp fun h => Nat.le_of_lt h)))) ea_nil) rc_tupL) rfl)
theorem sc_law_fits : FnScope ["_law_lots_here", "_law_order_here", "_law_sightings", "_law_crowd", "_law_seen_here"] ["_law_lots_here", "_law_order_here", "_law_sightings"] (defScope Hd.s_law_fits) := ⟨rfl, rfl, rfl, by decide +kernel, rfl, by decide +kernel, by decide +kernel⟩
def sp_law_fits (K : PySem.W.Frag) : Sp := spD K (fun x : Bool × Nat × LM.Lots × List Nat × LM.Sgt => [lotsD x.2.2.1, ordD x.1 x.2.2.2.1, .lst (x.2.2.2.2.map sgD)]) (fun x => x.2.1 ≤ 12 ∧ x.2.2.1.length ≤ 60 ∧ (∀ l ∈ x.2.2.1, l.length ≤ 1000) ∧ x.2.2.2.1.Nodup ∧ (∀ p ∈ x.2.2.2.1, p < x.2.1) ∧ x.2.2.2.2.length ≤ 20) (fun x => .bl (LM.fits x.2.1 x.2.2.1 x.2.2.2.2 x.2.2.2.1))
theorem cal_law_fits (T : Txt K mg) : C8.Cal P w K mg base 2 "_law_fits" (sp_law_fits K) [] := by
  have c_law_in := cal_law_in (P := P) (w := w) (base := base) T
  obtain ⟨fd, F⟩ := T.f_law_fits
  have nd := sc_law_fits.nd
  refine mkD F sc_law_fits (fun _ => rfl) (fun us hl _ _ _ _ _ _ => match us, hl with | [_, _, _], _ => rfl) T.m_law_fits fun cdv A outer s H E hr => ⟨_,
      (pss_one (ps_ret (pe_callB (kAll K) (by rfl) T.all (by decide +kernel) (pa_cons (pe_lc (own := [("_law_crowd", 3), ("_law_seen_here", 4)]) (g := (gTup K 2 (gCons (gName 3) (gCons (gName 4) gNil)))) rfl nd (kList K rfl (pv 2)) (blkOk_by (by show blkC ["_law_lots_here", "_law_order_here", "_law_sightings", "_law_crowd", "_law_seen_here"] (defScope Hd.s_law_fits) _ _ = true; decide +kernel)) (fun _ _ _ _ _ => (pg_tup rfl (pgs_cons (pg_name (i := 3) nd rfl (by first | exact Or.inl rfl | exact Or.inr rfl)) (pgs_cons (pg_name (i := 4) nd rfl (by first | exact Or.inl rfl | exact Or.inr rfl)) pgs_nil)))) (fun _ _ _ _ _ => pts_nil) (fun _ _ _ _ _ => (pe_cmpR (kEqD K rfl hr.units) (C8.pe_c c_law_in hr (by decide) (by rfl) (pa_cons (pv 0) (pa_cons (pv 1) (pa_cons (pv 3) pa_nil)))) (pv 4) (nomark _)))) pa_nil)))), ?_⟩
  rintro ⟨t, n, lots, order, S⟩ ⟨h12, h60, hlen, nd, hlt, h20⟩
  simp only at h12 h60 hlen nd hlt h20
  refine x_ret (ev_cb (ea_cons (EvL.d (el_lc S sgD (fun _ => true) (fun cs => .bl (decide (LM.lawIn n lots order cs.1 = cs.2))) (is := [3, 4]) (wk_list (ev_var rfl)) (by simp) (by omega) fun cs hcs => tg_tup rfl (tgs_cons (tg_name (tgs_cons (tg_name (tgs_nil ⟨et_yes, fun _ =>
    ev_op (ev_call (t, n, lots, order, cs.1) (ea_cons (ev_var rfl) (ea_cons (ev_var rfl) (ea_cons (ev_var rfl) ea_nil))) ⟨h12, h60, hlen, nd, hlt⟩) (ev_var rfl) rd_eqN⟩))))))) ea_nil) (by rw [filter_yes]; exact rc_allF _ _)) ?_
  show Dt.bl _ = Dt.bl (LM.fits n lots S order)
  refine congrArg Dt.bl (congrArg S.all (funext fun cs => ?_))
  rw [Bool.eq_iff_iff]
  simp
theorem sc_law_seen : FnScope ["_law_hand_here", "_law_people", "_law_lots_here", "_law_order_here", "_law_most", "_law_found", "_law_turn", "_law_crowd"] ["_law_hand_here", "_law_people", "_law_lots_here", "_law_order_here", "_law_most"] (defScope Hd.s_law_seen) := ⟨rfl, rfl, rfl, by decide +kernel, rfl, by decide +kernel, by decide +kernel⟩
def sp_law_seen (K : PySem.W.Frag) : Sp := spM K (fun x : Addr × Nat × LM.Lots × List Nat × Nat => moH K x.1) (fun x => [.adr x.1, dn x.2.1, lotsD x.2.2.1, crD x.2.2.2.1, dn x.2.2.2.2]) (fun x => x.2.1 ≤ 12 ∧ x.2.2.1.length ≤ 60 ∧ (∀ l ∈ x.2.2.1, l.length ≤ 1000) ∧ x.2.2.2.1.Nodup ∧ (∀ p ∈ x.2.2.2.1, p < x.2.1) ∧ x.2.2.2.2 ≤ 20)
  (fun x d => ∃ cs : List (List Nat), cs.length ≤ x.2.2.2.2 ∧ (∀ c ∈ cs, CrOk x.2.1 c) ∧ d = .lst ((LM.seenBy x.2.1 x.2.2.1 x.2.2.2.1 cs).map sgD))
theorem cal_law_seen (T : Txt K mg) : C8.Cal P w K mg base 3 "_law_seen" (sp_law_seen K) [] := by
  have c_law_draw := cal_law_draw (P := P) (w := w) (base := base) T
  have c_law_part := cal_law_part (P := P) (w := w) (base := base) T
  have c_law_in := cal_law_in (P := P) (w := w) (base := base) T
  obtain ⟨fd, F⟩ := T.f_law_seen
  have nd := sc_law_seen.nd
  refine mkM F sc_law_seen (fun _ => rfl) (fun us hl _ _ _ _ _ _ => match us, hl with | [_, _, _, _, _], _ => rfl) T.m_law_seen fun cdv A outer s H E hr => ⟨_,
      (pss_cons (ps_set (i := 5) nd rfl (by first | exact Or.inl rfl | exact Or.inr rfl) (pe_lst pa_nil))
      (pss_cons (ps_for PassesOwn.never rfl (pi_range1 (by rfl) T.range (pa_cons (C8.pe_c c_law_draw hr (by decide) (by rfl) (pa_cons (pv 0) (pa_cons (pe_op op_add (pv 4) pe_int) pa_nil))) pa_nil)) (pg_name (i := 6) nd rfl (by first | exact Or.inl rfl | exact Or.inr rfl)) (pss_cons (ps_set (i := 7) nd rfl (by first | exact Or.inl rfl | exact Or.inr rfl) (C8.pe_c c_law_part hr (by decide) (by rfl) (pa_cons (pv 0) (pa_cons (pv 1) (pa_cons pe_int pa_nil)))))
      (pss_one (kAppend K (st := ps_expr (pe_bm PySem.F.plainAttrs_list PySem.F.slot_list_append PySem.F.type_list_append mt_append (pv 5) (pa_cons (pe_tup (pa_cons (pv 7) (pa_cons (C8.pe_c c_law_in hr (by decide) (by rfl) (pa_cons (pv 2) (pa_cons (pv 3) (pa_cons (pv 7) pa_nil)))) pa_nil))) pa_nil)))))))
      (pss_one (ps_ret (pv 5))))), ?_⟩
  rintro ⟨h, n, lots, order, most⟩ ⟨h12, h60, hlen, nd, hlt, h20⟩
  simp only at h12 h60 hlen nd hlt h20
  refine x_seq (x_new (el_lst ea_nil (by decide)) fun l => x_seq (x_forM (is := [6]) (P := fun xs => ∃ k, k < most + 1 ∧ xs = rngD 0 k)
    (fun xs i es mu => ∃ cs o6 o7, es = [some (.adr h), some (dn n), some (lotsD lots), some (crD order), some (dn most), some (.adr l), o6, o7] ∧ mu = [(l, (LM.seenBy n lots order cs).map sgD)] ∧ cs.length = i ∧ ∀ c ∈ cs, CrOk n c)
    (wm_range1 (P := fun k => k < most + 1) (ema_imp (ema_cons (em_draw (m := most + 1) rfl (ev_is (ev_op (ev_var rfl) ev_int rd_i0) (by show Dt.int ((most : Int) + 1) = Dt.int ((most + 1 : Nat) : Int); congr 1)) (by omega) (by omega)) fun _ _ => ema_nil) fun l ⟨d, ds, ⟨k, hk, e1⟩, e2, e3⟩ => ⟨k, hk, by rw [e3, e1, e2]⟩) fun k hk => by omega)
    (fun xs _ => ⟨[], _, _, rfl, rfl, rfl, by simp⟩) ?_ ?_))
  · rintro i xs y es mu ⟨k, hk, rfl⟩ hy ⟨cs, o6, o7, rfl, rfl, hl, hcs⟩
    have hi := (rngD_at hy).1
    refine tg_name (x_seq (x_asgM (em_call (ema_of (ea_cons (ev_var rfl) (ea_cons (ev_var rfl) (ea_cons (ev_int (i := 5)) ea_nil)))) fun ds e => ⟨(h, n, 5), rfl, e, h12, fun d hd => hd⟩) ?_))
    rintro d ⟨c, hc, rfl⟩
    refine x_app 0 (ev_var rfl) (ev_tup (ea_cons (ev_var rfl) (ea_cons (ev_call (false, n, lots, order, c) (ea_cons (ev_var rfl) (ea_cons (ev_var rfl) (ea_cons (ev_var rfl) ea_nil))) ⟨h12, h60, hlen, nd, hlt⟩) ea_nil)) (by simp)) rfl (by unfold LM.seenBy; rw [List.length_map, List.length_map]; omega) ⟨cs ++ [c], _, _, rfl, ?_, by simp [hl], fun c' hc' => ?_⟩
    · unfold LM.seenBy
      rw [List.map_append, List.map_append]; rfl
    · rcases List.mem_append.mp hc' with z | z
      · exact hcs c' z
      · rw [List.mem_singleton] at z; subst z; exact hc
  · rintro xs es mu ⟨k, hk, rfl⟩ ⟨cs, o6, o7, rfl, rfl, hl, hcs⟩
    rw [rngD_len] at hl
    exact x_thaw (x_ret (ev_var (thaw_at rfl)) ⟨cs, by simp only; omega, hcs, rfl⟩)
end
end DL
end
section
set_option Elab.async false
set_option linter.all false
set_option maxRecDepth 100000
set_option maxHeartbeats 0
/-! E3: lists, equal data, a chain's sightings -/
namespace DL
open PySem L2
section
variable {X : Cx}
theorem kSortTI (K : PySem.W.Frag) (hK : X.K = K := by rfl) : CallR X (.builtin "sorted") (rSortedTI K) := hK ▸ cr_sortedTI
theorem kCatB (K : PySem.W.Frag) (hK : X.K = K := by rfl) : OpR X (binaryOp .Add) (rCatB K) := hK ▸ op_catB
end
/-! #### rows of unlike persons -/
def extR (n : Nat) (r : List Nat) : List (List Nat) := ((List.range n).filter fun p => !decide (p ∈ r)).map fun p => r ++ [p]
def listsI (n : Nat) : Nat → List (List Nat)
  | 0 => [[]]
  | i + 1 => (listsI n i).flatMap (extR n)
theorem extR_len (n : Nat) (r : List Nat) : (extR n r).length ≤ n := by
  unfold extR
  rw [List.length_map]
  exact Nat.le_trans (List.length_filter_le ..) (by rw [List.length_range]; exact Nat.le_refl _)
theorem flat_len {α β : Type} (f : α → List β) (n : Nat) (hf : ∀ a, (f a).length ≤ n) : ∀ xs : List α, (xs.flatMap f).length ≤ xs.length * n
  | [] => by simp
  | x :: xs => by
    rw [List.flatMap_cons, List.length_append, List.length_cons, Nat.succ_mul]
    have := flat_len f n hf xs
    have := hf x
    omega
theorem listsI_len (n : Nat) : ∀ i, (listsI n i).length ≤ n ^ i
  | 0 => by simp [listsI]
  | i + 1 => Nat.le_trans (flat_len (extR n) n (extR_len n) _) (Nat.mul_le_mul_right n (listsI_len n i))
theorem mem_listsI {n : Nat} : ∀ (i : Nat) (r : List Nat), r ∈ listsI n i ↔ r.length = i ∧ r.Nodup ∧ ∀ p ∈ r, p < n
  | 0, r => by
    unfold listsI
    rw [List.mem_singleton]
    constructor
    · rintro rfl; simp
    · exact fun h => List.length_eq_zero_iff.mp h.1
  | i + 1, r => by
    show r ∈ (listsI n i).flatMap (extR n) ↔ _
    rw [List.mem_flatMap]
    constructor
    · rintro ⟨a, ha, hr⟩
      obtain ⟨h1, h2, h3⟩ := (mem_listsI i a).mp ha
      unfold extR at hr
      obtain ⟨p, hp, rfl⟩ := List.mem_map.mp hr
      obtain ⟨g1, g2⟩ := List.mem_filter.mp hp
      have g3 : p ∉ a := by simpa using g2
      refine ⟨by simp [h1], LM.nodup_snoc h2 g3, fun q hq => ?_⟩
      rcases List.mem_append.mp hq with z | z
      · exact h3 q z
      · rw [List.mem_singleton] at z; subst z; exact List.mem_range.mp g1
    · rintro ⟨h1, h2, h3⟩
      rcases List.eq_nil_or_concat r with e | ⟨b, p, e⟩
      · subst e; cases h1
      · rw [List.concat_eq_append] at e
        subst e
        have nb := (List.nodup_append.mp h2).1
        have np : p ∉ b := fun z => (List.nodup_append.mp h2).2.2 p z p (by simp) rfl
        refine ⟨b, (mem_listsI i b).mpr ⟨by simpa using h1, nb, fun q hq => h3 q (by simp [hq])⟩, ?_⟩
        unfold extR
        exact List.mem_map.mpr ⟨p, List.mem_filter.mpr ⟨List.mem_range.mpr (h3 p (by simp)), by simpa using np⟩, rfl⟩
def listsOf (n : Nat) : List (List Nat) := listsI n n
theorem listsOf_len {n : Nat} (h : n ≤ 6) : (listsOf n).length ≤ 46656 := by
  have := listsI_len n n
  have h2 : n ^ n ≤ 6 ^ 6 := Nat.le_trans (Nat.pow_le_pow_left h n) (Nat.pow_le_pow_right (by decide) h)
  show (listsI n n).length ≤ 46656
  omega
theorem mem_listsOf {n : Nat} {r : List Nat} : r ∈ listsOf n ↔ LM.IsOrder n r := by
  unfold listsOf
  rw [mem_listsI]
  constructor
  · rintro ⟨h1, h2, h3⟩
    refine ⟨h2, fun p => ⟨h3 p, fun hp => ?_⟩⟩
    refine Classical.byContradiction fun hn => ?_
    have := nd_len (r ++ [p]) (List.range n) (LM.nodup_snoc h2 hn) fun q hq => by
      rcases List.mem_append.mp hq with z | z
      · exact List.mem_range.mpr (h3 q z)
      · rw [List.mem_singleton] at z; subst z; exact List.mem_range.mpr hp
    rw [List.length_append, List.length_range] at this
    simp at this
    omega
  · intro h
    exact ⟨h.len, h.nd, fun p hp => (h.mem p).mp hp⟩
section
variable {P : Program} {w : World} {K : PySem.W.Frag} {mg : Str → Option Value} {base : Heap}
theorem sc_law_lists : FnScope ["_law_people", "_law_found", "_law_turn", "_law_later", "_law_row", "_law_person"] ["_law_people"] (defScope Hd.s_law_lists) := ⟨rfl, rfl, rfl, by decide +kernel, rfl, by decide +kernel, by decide +kernel⟩
def sp_law_lists (K : PySem.W.Frag) : Sp := spD K (fun n : Nat => [dn n]) (fun n => n ≤ 6) (fun n => .lst ((listsOf n).map tbD))
theorem cal_law_lists (T : Txt K mg) : C8.Cal P w K mg base 1 "_law_lists" (sp_law_lists K) [] := by
  obtain ⟨fd, F⟩ := T.f_law_lists
  have nd := sc_law_lists.nd
  refine mkD F sc_law_lists (fun _ => rfl) (fun us hl _ _ _ _ _ _ => match us, hl with | [_], _ => rfl) T.m_law_lists fun cdv A outer s H E hr => ⟨_,
      (pss_cons (ps_set (i := 1) nd rfl (by first | exact Or.inl rfl | exact Or.inr rfl) (pe_lst (pa_cons (pe_tupB pa_nil) pa_nil)))
      (pss_cons (ps_for PassesOwn.never rfl (pi_range1 (by rfl) T.range (pa_cons (pv 0) pa_nil)) (pg_name (i := 2) nd rfl (by first | exact Or.inl rfl | exact Or.inr rfl)) (pss_cons (ps_set (i := 3) nd rfl (by first | exact Or.inl rfl | exact Or.inr rfl) (pe_lst pa_nil))
      (pss_cons (ps_for PassesOwn.never rfl (kList K rfl (pv 1)) (pg_name (i := 4) nd rfl (by first | exact Or.inl rfl | exact Or.inr rfl)) (pss_one (ps_expr (kM K rfl (pe_bm PySem.F.plainAttrs_list PySem.F.slot_list_extend PySem.F.type_list_extend mt_extend (pv 3) (pa_cons (pe_lc (own := [("_law_person", 5)]) (g := (gName 5)) rfl nd (pi_range1 (by rfl) T.range (pa_cons (pv 0) pa_nil)) (blkOk_by (by show blkC ["_law_people", "_law_found", "_law_turn", "_law_later", "_law_row", "_law_person"] (defScope Hd.s_law_lists) _ _ = true; decide +kernel)) (fun _ _ _ _ _ => (pg_name (i := 5) nd rfl (by first | exact Or.inl rfl | exact Or.inr rfl))) (fun _ _ _ _ _ => (pts_one (pt_cmpR (kNotIn K) (pv 5) (pv 4) (by rfl)))) (fun _ _ _ _ _ => (pe_op (kCatB K) (pv 4) (pe_tupB (pa_cons (pv 5) pa_nil))))) pa_nil))))))
      (pss_one (ps_set (i := 1) nd rfl (by first | exact Or.inl rfl | exact Or.inr rfl) (pv 3))))))
      (pss_one (ps_ret (pv 1))))), ?_⟩
  rintro n h6
  have h46 : ∀ i, i ≤ n → (listsI n i).length ≤ 46656 := fun i hi => by
    have h1 := listsI_len n i
    have h2 : n ^ i ≤ 6 ^ 6 := Nat.le_trans (Nat.pow_le_pow_left h6 i) (Nat.pow_le_pow_right (by decide) (by omega))
    omega
  refine x_seq (x_asg (EvL.d (el_lst (ea_cons (ev_tupB ea_nil (by decide)) ea_nil) (by decide))) (x_seq (x_for (is := [2]) (xs := rngD 0 n)
    (fun i es mu => ∃ o2 o3 o4, es = [some (dn n), some (.lst ((listsI n i).map tbD)), o2, o3, o4, none] ∧ mu = [])
    (wk_is (wk_range1 (n := (n : Int)) (ea_cons (ev_var rfl) ea_nil) (by omega) (by omega)) (by rw [Int.toNat_natCast])) ⟨_, _, _, rfl, rfl⟩ ?_ ?_)))
  · rintro i y es mu hy ⟨o2, o3, o4, rfl, rfl⟩
    have hi := (rngD_at hy).1
    refine tg_name (x_seq (x_new (el_lst ea_nil (by decide)) fun l => x_seq (x_for (is := [4]) (xs := (listsI n i).map tbD)
      (fun j es mu => ∃ o2 o4, es = [some (dn n), some (.lst ((listsI n i).map tbD)), o2, some (.adr l), o4, none] ∧ mu = [(l, (((listsI n i).take j).flatMap (extR n)).map tbD)])
      (wk_list (ev_var rfl)) ⟨_, _, rfl, rfl⟩ ?_ ?_)))
    · rintro j y es mu hy ⟨o2, o4, rfl, rfl⟩
      obtain ⟨r, hr, rfl⟩ := map_at hy
      have hj := (List.getElem?_eq_some_iff.mp hr).1
      have hm := List.mem_of_getElem? hr
      have hrl := ((mem_listsI i r).mp hm).1
      refine tg_name (x_ext 0 (ev_var rfl) (el_lc (List.range n) dn (fun p => !decide (p ∈ r)) (fun p => tbD (r ++ [p])) (is := [5]) (wk_is (wk_range1 (n := (n : Int)) (ea_cons (ev_var rfl) ea_nil) (by omega) (by omega)) (by rw [Int.toNat_natCast, rng0])) (by simp) (by rw [List.length_range]; omega)
        fun p hp => tg_name ⟨et_test (ev_op (ev_var rfl) (ev_var rfl) rd_niB), fun _ => ev_is (ev_op (ev_var rfl) (ev_tupB (ea_cons (ev_var rfl) ea_nil) (by simp)) (rd_catB (by rw [List.length_map]; omega))) (by show Dt.tupb (r.map dn ++ [dn p]) = Dt.tupb ((r ++ [p]).map dn); rw [List.map_append]; rfl)⟩) rfl ?_ ⟨_, _, rfl, ?_⟩)
      · have e1 := flat_len (extR n) n (extR_len n) ((listsI n i).take j)
        have e2 := h46 i (by omega)
        have e3 : ((listsI n i).take j).length ≤ 46656 := by rw [List.length_take]; omega
        rw [List.length_map, List.length_map]
        have e4 := extR_len n r
        have e5 : (((List.range n).filter fun p => !decide (p ∈ r))).length ≤ n := Nat.le_trans (List.length_filter_le ..) (by rw [List.length_range]; exact Nat.le_refl _)
        have e6 := h46 (i + 1) (by omega)
        have e7 : (((listsI n i).take j).flatMap (extR n)).length ≤ (listsI n (i + 1)).length := by
          show _ ≤ ((listsI n i).flatMap (extR n)).length
          conv => rhs; rw [← List.take_append_drop j (listsI n i), List.flatMap_append, List.length_append]
          omega
        omega
      · show [(l, _)] = [(l, _)]
        rw [List.take_add_one, hr]
        show _ = [(l, (List.flatMap (extR n) ((listsI n i).take j ++ [r])).map tbD)]
        rw [List.flatMap_append, List.map_append]
        unfold extR
        simp
    · rintro es mu ⟨o2, o4, rfl, rfl⟩
      rw [List.length_map, List.take_length]
      exact x_thaw (x_asg (ev_var (thaw_at rfl)) ⟨_, _, _, rfl, rfl⟩)
  · rintro es mu ⟨o2, o3, o4, rfl, rfl⟩
    rw [rngD_len]
    exact x_ret (ev_var rfl) rfl
end
/-! #### equal data -/
section
variable {P : Program} {w : World} {K : PySem.W.Frag} {mg : Str → Option Value} {base : Heap}
theorem ev_isi {es : Es} {i : Nat} {d : Dt} {n : String} {b : Bool} (t : String) (hv : es[i]? = some (some d)) (ht : tyD d = t) (h : (t == "") = false) (hk : kitB t n = some b) : EvD K (tCB (rIsi K) (tCons (tVar i) (tCons (tC (.ty n)) tNil))) es (.bl b) := by
  subst ht
  exact ev_cb (ea_cons (ev_var hv) (ea_cons ev_ty ea_nil)) (rc_isi h hk)
theorem ev_isiT {es : Es} {i : Nat} {d : Dt} {m n : String} {b c : Bool} (t : String) (hv : es[i]? = some (some d)) (ht : tyD d = t) (h : (t == "") = false) (hk : kitB t m = some b) (hk2 : kitB t n = some c) : EvD K (tCB (rIsiT K) (tCons (tVar i) (tCons (tTup (tCons (tC (.ty m)) (tCons (tC (.ty n)) tNil))) tNil))) es (.bl (b || c)) := by
  subst ht
  exact ev_cb (ea_cons (ev_var hv) (ea_cons (ev_tup (ea_cons ev_ty (ea_cons ev_ty ea_nil)) (by simp)) ea_nil)) (rc_isiT h hk hk2)
theorem sc_law_is : FnScope ["_law_told", "_law_due", "_law_one", "_law_two"] ["_law_told", "_law_due"] (defScope Hd.s_law_is) := ⟨rfl, rfl, rfl, by decide +kernel, rfl, by decide +kernel, by decide +kernel⟩
theorem cal_law_is0 (T : Txt K mg) : C8.Cal P w K mg base 0 "_law_is" (fun _ _ _ _ => False) [] := by
  obtain ⟨fd, F⟩ := T.f_law_is
  exact ⟨_, fd, ["_law_told", "_law_due"], [], ⟨fun _ _ _ _ h => h.elim, fun _ _ _ _ _ _ _ _ _ _ _ _ _ h => h.elim⟩, T.m_law_is, F.kp, F.bindsN fun kV doc pm an cdv ct us hu => match us, hu with | [_, _], _ => rfl, .nil⟩
def sp_law_isI (K : PySem.W.Frag) : Sp := spD K (fun n : Nat => [dn n, dn n]) (fun _ => True) (fun _ => .bl true)
theorem cal_law_isI (T : Txt K mg) : C8.Cal P w K mg base 1 "_law_is" (sp_law_isI K) [] := by
  have c_law_is := cal_law_is0 (P := P) (w := w) (base := base) T
  obtain ⟨fd, F⟩ := T.f_law_is
  have nd := sc_law_is.nd
  refine mkD F sc_law_is (fun _ => rfl) (fun us hl _ _ _ _ _ _ => match us, hl with | [_, _], _ => rfl) T.m_law_is fun cdv A outer s H E hr => ⟨_,
      (pss_cons (ps_if (pt_val (pe_callB (kIsiT K) (by rfl) T.isinstance (by decide +kernel) (pa_cons (pv 1) (pa_cons (pe_tup (pa_cons (pe_bltn (v := .ty "tuple") (by rfl) T.tuple (by decide +kernel) rfl) (pa_cons (pe_bltn (v := .ty "list") (by rfl) T.list (by decide +kernel) rfl) pa_nil))) pa_nil)))) (pss_cons (ps_if (PW.pt (pw_or (pt_cmpR op_ne (pe_callB (kIsi K) (by rfl) T.isinstance (by decide +kernel) (pa_cons (pv 0) (pa_cons (pe_bltn (v := .ty "tuple") (by rfl) T.tuple (by decide +kernel) rfl) pa_nil))) (pe_callB (kIsi K) (by rfl) T.isinstance (by decide +kernel) (pa_cons (pv 1) (pa_cons (pe_bltn (v := .ty "tuple") (by rfl) T.tuple (by decide +kernel) rfl) pa_nil))) (nomark _)) (pw_or1 (pt_not (pt_val (pe_callB (kIsiT K) (by rfl) T.isinstance (by decide +kernel) (pa_cons (pv 0) (pa_cons (pe_tup (pa_cons (pe_bltn (v := .ty "tuple") (by rfl) T.tuple (by decide +kernel) rfl) (pa_cons (pe_bltn (v := .ty "list") (by rfl) T.list (by decide +kernel) rfl) pa_nil))) pa_nil)))))))) (pss_one (ps_ret pe_bl)) pss_nil)
      (pss_one (ps_ret (pe_and (pe_cmpR op_eq (pe_callB (kLen K) (by rfl) T.len (by decide +kernel) (pa_cons (pv 0) pa_nil)) (pe_callB (kLen K) (by rfl) T.len (by decide +kernel) (pa_cons (pv 1) pa_nil)) (nomark _)) (pe_one (pe_callB (kAll K) (by rfl) T.all (by decide +kernel) (pa_cons (pe_lc (own := [("_law_one", 2), ("_law_two", 3)]) (g := (gTup K 2 (gCons (gName 2) (gCons (gName 3) gNil)))) rfl nd (kZip K rfl (by rfl) T.zip (pa_cons (pv 0) (pa_cons (pv 1) pa_nil))) (blkOk_by (by show blkC ["_law_told", "_law_due", "_law_one", "_law_two"] (defScope Hd.s_law_is) _ _ = true; decide +kernel)) (fun _ _ _ _ _ => (pg_tup rfl (pgs_cons (pg_name (i := 2) nd rfl (by first | exact Or.inl rfl | exact Or.inr rfl)) (pgs_cons (pg_name (i := 3) nd rfl (by first | exact Or.inl rfl | exact Or.inr rfl)) pgs_nil)))) (fun _ _ _ _ _ => pts_nil) (fun _ _ _ _ _ => (C8.pe_c c_law_is hr (by decide) (by rfl) (pa_cons (pv 2) (pa_cons (pv 3) pa_nil))))) pa_nil))))))) pss_nil)
      (pss_one (ps_ret (pe_and (pe_cmpR op_eq (pe_callB (kIsi K) (by rfl) T.isinstance (by decide +kernel) (pa_cons (pv 0) (pa_cons (pe_bltn (v := .ty "bool") (by rfl) T.bool (by decide +kernel) rfl) pa_nil))) (pe_callB (kIsi K) (by rfl) T.isinstance (by decide +kernel) (pa_cons (pv 1) (pa_cons (pe_bltn (v := .ty "bool") (by rfl) T.bool (by decide +kernel) rfl) pa_nil))) (nomark _)) (pe_one (pe_cmpR op_eq (pv 0) (pv 1) (nomark _))))))), ?_⟩
  rintro n _
  refine x_seq (x_if (b := false) (et_test (ev_isiT "int" (d := dn n) (b := false) (c := false) rfl rfl rfl (by decide +kernel) (by decide +kernel))) (fun z => by cases z) fun _ => x_next ?_)
  exact x_ret (ev_is (ev_andV (ev_op (ev_isi "int" (d := dn n) (b := false) rfl rfl rfl (by decide +kernel)) (ev_isi "int" (d := dn n) (b := false) rfl rfl rfl (by decide +kernel)) rd_eqB) fun _ => ev_op (ev_var rfl) (ev_var rfl) rd_eqNN) (by simp)) rfl
def sp_law_isP (K : PySem.W.Frag) : Sp := spD K (fun x : Nat × Nat => [prD x, prD x]) (fun _ => True) (fun _ => .bl true)
theorem cal_law_isP (T : Txt K mg) : C8.Cal P w K mg base 2 "_law_is" (sp_law_isP K) [] := by
  have c_law_is := cal_law_isI (P := P) (w := w) (base := base) T
  obtain ⟨fd, F⟩ := T.f_law_is
  have nd := sc_law_is.nd
  refine mkD F sc_law_is (fun _ => rfl) (fun us hl _ _ _ _ _ _ => match us, hl with | [_, _], _ => rfl) T.m_law_is fun cdv A outer s H E hr => ⟨_,
      (pss_cons (ps_if (pt_val (pe_callB (kIsiT K) (by rfl) T.isinstance (by decide +kernel) (pa_cons (pv 1) (pa_cons (pe_tup (pa_cons (pe_bltn (v := .ty "tuple") (by rfl) T.tuple (by decide +kernel) rfl) (pa_cons (pe_bltn (v := .ty "list") (by rfl) T.list (by decide +kernel) rfl) pa_nil))) pa_nil)))) (pss_cons (ps_if (PW.pt (pw_or (pt_cmpR op_ne (pe_callB (kIsi K) (by rfl) T.isinstance (by decide +kernel) (pa_cons (pv 0) (pa_cons (pe_bltn (v := .ty "tuple") (by rfl) T.tuple (by decide +kernel) rfl) pa_nil))) (pe_callB (kIsi K) (by rfl) T.isinstance (by decide +kernel) (pa_cons (pv 1) (pa_cons (pe_bltn (v := .ty "tuple") (by rfl) T.tuple (by decide +kernel) rfl) pa_nil))) (nomark _)) (pw_or1 (pt_not (pt_val (pe_callB (kIsiT K) (by rfl) T.isinstance (by decide +kernel) (pa_cons (pv 0) (pa_cons (pe_tup (pa_cons (pe_bltn (v := .ty "tuple") (by rfl) T.tuple (by decide +kernel) rfl) (pa_cons (pe_bltn (v := .ty "list") (by rfl) T.list (by decide +kernel) rfl) pa_nil))) pa_nil)))))))) (pss_one (ps_ret pe_bl)) pss_nil)
      (pss_one (ps_ret (pe_and (pe_cmpR op_eq (pe_callB (kLen K) (by rfl) T.len (by decide +kernel) (pa_cons (pv 0) pa_nil)) (pe_callB (kLen K) (by rfl) T.len (by decide +kernel) (pa_cons (pv 1) pa_nil)) (nomark _)) (pe_one (pe_callB (kAll K) (by rfl) T.all (by decide +kernel) (pa_cons (pe_lc (own := [("_law_one", 2), ("_law_two", 3)]) (g := (gTup K 2 (gCons (gName 2) (gCons (gName 3) gNil)))) rfl nd (kZip K rfl (by rfl) T.zip (pa_cons (pv 0) (pa_cons (pv 1) pa_nil))) (blkOk_by (by show blkC ["_law_told", "_law_due", "_law_one", "_law_two"] (defScope Hd.s_law_is) _ _ = true; decide +kernel)) (fun _ _ _ _ _ => (pg_tup rfl (pgs_cons (pg_name (i := 2) nd rfl (by first | exact Or.inl rfl | exact Or.inr rfl)) (pgs_cons (pg_name (i := 3) nd rfl (by first | exact Or.inl rfl | exact Or.inr rfl)) pgs_nil)))) (fun _ _ _ _ _ => pts_nil) (fun _ _ _ _ _ => (C8.pe_c c_law_is hr (by decide) (by rfl) (pa_cons (pv 2) (pa_cons (pv 3) pa_nil))))) pa_nil))))))) pss_nil)
      (pss_one (ps_ret (pe_and (pe_cmpR op_eq (pe_callB (kIsi K) (by rfl) T.isinstance (by decide +kernel) (pa_cons (pv 0) (pa_cons (pe_bltn (v := .ty "bool") (by rfl) T.bool (by decide +kernel) rfl) pa_nil))) (pe_callB (kIsi K) (by rfl) T.isinstance (by decide +kernel) (pa_cons (pv 1) (pa_cons (pe_bltn (v := .ty "bool") (by rfl) T.bool (by decide +kernel) rfl) pa_nil))) (nomark _)) (pe_one (pe_cmpR op_eq (pv 0) (pv 1) (nomark _))))))), ?_⟩
  rintro ⟨a, b⟩ _
  refine x_seq (x_if (b := true) (et_test (ev_isiT "tuple" (d := prD (a, b)) (b := true) (c := false) rfl rfl rfl (by decide +kernel) (by decide +kernel))) (fun _ => ?_) fun z => by cases z)
  refine x_seq (x_if (b := false) (et_is (et_or (et_test (ev_op (ev_isi "tuple" (d := prD (a, b)) (b := true) rfl rfl rfl (by decide +kernel)) (ev_isi "tuple" (d := prD (a, b)) (b := true) rfl rfl rfl (by decide +kernel)) rd_neB)) fun _ => et_not (et_test (ev_isiT "tuple" (d := prD (a, b)) (b := true) (c := false) rfl rfl rfl (by decide +kernel) (by decide +kernel)))) (by simp)) (fun z => by cases z) fun _ => x_next ?_)
  exact x_ret (ev_is (ev_andV (ev_op (ev_cb (ea_cons (ev_var rfl) ea_nil) (rc_lenT (xs := [dn a, dn b]))) (ev_cb (ea_cons (ev_var rfl) ea_nil) (rc_lenT (xs := [dn a, dn b]))) rd_eqI) fun _ => ev_cb (ea_cons (EvL.d (el_lc [a, b] (fun z => Dt.tup [dn z, dn z]) (fun _ => true) (fun _ => .bl true) (is := [2, 3]) (wk_zip true true (xs := [dn a, dn b]) (ys := [dn a, dn b]) (ea_cons (ev_var rfl) (ea_cons (ev_var rfl) ea_nil)) rfl) (by simp) (by simp)
    fun z hz => tg_tup rfl (tgs_cons (tg_name (tgs_cons (tg_name (tgs_nil ⟨et_yes, fun _ => ev_call z (ea_cons (ev_var rfl) (ea_cons (ev_var rfl) ea_nil)) trivial⟩))))))) ea_nil) (by rw [filter_yes]; exact rc_allF _ _)) (by simp)) rfl
def sp_law_is (K : PySem.W.Frag) : Sp := spD K (fun x : List (Nat × Nat) => [.lst (x.map prD), .lst (x.map prD)]) (fun x => x.length ≤ 1000) (fun _ => .bl true)
theorem cal_law_is (T : Txt K mg) : C8.Cal P w K mg base 3 "_law_is" (sp_law_is K) [] := by
  have c_law_is := cal_law_isP (P := P) (w := w) (base := base) T
  obtain ⟨fd, F⟩ := T.f_law_is
  have nd := sc_law_is.nd
  refine mkD F sc_law_is (fun _ => rfl) (fun us hl _ _ _ _ _ _ => match us, hl with | [_, _], _ => rfl) T.m_law_is fun cdv A outer s H E hr => ⟨_,
      (pss_cons (ps_if (pt_val (pe_callB (kIsiT K) (by rfl) T.isinstance (by decide +kernel) (pa_cons (pv 1) (pa_cons (pe_tup (pa_cons (pe_bltn (v := .ty "tuple") (by rfl) T.tuple (by decide +kernel) rfl) (pa_cons (pe_bltn (v := .ty "list") (by rfl) T.list (by decide +kernel) rfl) pa_nil))) pa_nil)))) (pss_cons (ps_if (PW.pt (pw_or (pt_cmpR op_ne (pe_callB (kIsi K) (by rfl) T.isinstance (by decide +kernel) (pa_cons (pv 0) (pa_cons (pe_bltn (v := .ty "tuple") (by rfl) T.tuple (by decide +kernel) rfl) pa_nil))) (pe_callB (kIsi K) (by rfl) T.isinstance (by decide +kernel) (pa_cons (pv 1) (pa_cons (pe_bltn (v := .ty "tuple") (by rfl) T.tuple (by decide +kernel) rfl) pa_nil))) (nomark _)) (pw_or1 (pt_not (pt_val (pe_callB (kIsiT K) (by rfl) T.isinstance (by decide +kernel) (pa_cons (pv 0) (pa_cons (pe_tup (pa_cons (pe_bltn (v := .ty "tuple") (by rfl) T.tuple (by decide +kernel) rfl) (pa_cons (pe_bltn (v := .ty "list") (by rfl) T.list (by decide +kernel) rfl) pa_nil))) pa_nil)))))))) (pss_one (ps_ret pe_bl)) pss_nil)
      (pss_one (ps_ret (pe_and (pe_cmpR op_eq (pe_callB (kLen K) (by rfl) T.len (by decide +kernel) (pa_cons (pv 0) pa_nil)) (pe_callB (kLen K) (by rfl) T.len (by decide +kernel) (pa_cons (pv 1) pa_nil)) (nomark _)) (pe_one (pe_callB (kAll K) (by rfl) T.all (by decide +kernel) (pa_cons (pe_lc (own := [("_law_one", 2), ("_law_two", 3)]) (g := (gTup K 2 (gCons (gName 2) (gCons (gName 3) gNil)))) rfl nd (kZip K rfl (by rfl) T.zip (pa_cons (pv 0) (pa_cons (pv 1) pa_nil))) (blkOk_by (by show blkC ["_law_told", "_law_due", "_law_one", "_law_two"] (defScope Hd.s_law_is) _ _ = true; decide +kernel)) (fun _ _ _ _ _ => (pg_tup rfl (pgs_cons (pg_name (i := 2) nd rfl (by first | exact Or.inl rfl | exact Or.inr rfl)) (pgs_cons (pg_name (i := 3) nd rfl (by first | exact Or.inl rfl | exact Or.inr rfl)) pgs_nil)))) (fun _ _ _ _ _ => pts_nil) (fun _ _ _ _ _ => (C8.pe_c c_law_is hr (by decide) (by rfl) (pa_cons (pv 2) (pa_cons (pv 3) pa_nil))))) pa_nil))))))) pss_nil)
      (pss_one (ps_ret (pe_and (pe_cmpR op_eq (pe_callB (kIsi K) (by rfl) T.isinstance (by decide +kernel) (pa_cons (pv 0) (pa_cons (pe_bltn (v := .ty "bool") (by rfl) T.bool (by decide +kernel) rfl) pa_nil))) (pe_callB (kIsi K) (by rfl) T.isinstance (by decide +kernel) (pa_cons (pv 1) (pa_cons (pe_bltn (v := .ty "bool") (by rfl) T.bool (by decide +kernel) rfl) pa_nil))) (nomark _)) (pe_one (pe_cmpR op_eq (pv 0) (pv 1) (nomark _))))))), ?_⟩
  rintro x h10
  refine x_seq (x_if (b := true) (et_test (ev_isiT "list" (d := .lst (x.map prD)) (b := false) (c := true) rfl rfl rfl (by decide +kernel) (by decide +kernel))) (fun _ => ?_) fun z => by cases z)
  refine x_seq (x_if (b := false) (et_is (et_or (et_test (ev_op (ev_isi "list" (d := .lst (x.map prD)) (b := false) rfl rfl rfl (by decide +kernel)) (ev_isi "list" (d := .lst (x.map prD)) (b := false) rfl rfl rfl (by decide +kernel)) rd_neB)) fun _ => et_not (et_test (ev_isiT "list" (d := .lst (x.map prD)) (b := false) (c := true) rfl rfl rfl (by decide +kernel) (by decide +kernel)))) (by simp)) (fun z => by cases z) fun _ => x_next ?_)
  exact x_ret (ev_is (ev_andV (ev_op (ev_cb (ea_cons (ev_var rfl) ea_nil) (rc_lenL (xs := x.map prD))) (ev_cb (ea_cons (ev_var rfl) ea_nil) (rc_lenL (xs := x.map prD))) rd_eqI) fun _ => ev_cb (ea_cons (EvL.d (el_lc x (fun z => Dt.tup [prD z, prD z]) (fun _ => true) (fun _ => .bl true) (is := [2, 3]) (wk_is (wk_zip false false (xs := x.map prD) (ys := x.map prD) (ea_cons (ev_var rfl) (ea_cons (ev_var rfl) ea_nil)) rfl) (by unfold ziD; rw [List.zip_map', List.map_map]; rfl)) (by simp) (by omega)
    fun z hz => tg_tup rfl (tgs_cons (tg_name (tgs_cons (tg_name (tgs_nil ⟨et_yes, fun _ => ev_call z (ea_cons (ev_var rfl) (ea_cons (ev_var rfl) ea_nil)) trivial⟩))))))) ea_nil) (by rw [filter_yes]; exact rc_allF _ _)) (by simp)) rfl
end
end DL
end
section
set_option Elab.async false
set_option linter.all false
set_option maxRecDepth 100000
set_option maxHeartbeats 0
/-! M1: rows of lots that make a book (plain) -/
namespace DL
open PySem
theorem lexLt_iff : ∀ a b : List Int, HT.lexLt a b = decide (a < b)
  | [], [] => by simp [HT.lexLt]
  | [], _ :: _ => by simp [HT.lexLt]
  | _ :: _, [] => by simp [HT.lexLt]
  | x :: xs, y :: ys => by
    rw [HT.lexLt_cons]
    by_cases h : x = y
    · subst h
      rw [if_pos rfl, lexLt_iff xs ys]
      simp [List.cons_lt_cons_iff]
    · rw [if_neg h]
      simp [List.cons_lt_cons_iff, h]
theorem bookOk_of {n : Nat} {ms : List (List Nat)} (h1 : 1 ≤ n) (h12 : n ≤ 12) (len : ms.length ≤ 60) (cr : ∀ l ∈ ms, CrOk n l) (two : ∀ l ∈ ms, 2 ≤ l.length) (nd : ms.Nodup) (pw : ms.Pairwise fun a b => zi a ≤ zi b)
    (anti : ∀ a ∈ ms, ∀ b ∈ ms, (∀ p ∈ a, p ∈ b) → a = b) : BookOk n ms := by
  have hh : ∀ a ∈ ms, ∀ b ∈ ms, a ≠ b → LM.holds (LM.bitsOf b) (LM.bitsOf a) = false := fun a ha b hb ne => by
    cases e : LM.holds (LM.bitsOf b) (LM.bitsOf a) with
    | false => rfl
    | true =>
      refine absurd (anti a ha b hb fun p hp => ?_) ne
      have := LM.holds_iff.mp e p
      rw [LM.tb_bitsOf ((cr a ha).inc.imp fun h => Nat.ne_of_lt h), LM.tb_bitsOf ((cr b hb).inc.imp fun h => Nat.ne_of_lt h)] at this
      simpa using this (by simpa using hp)
  refine ⟨h1, h12, len, cr, two, fun i l m hl hm => ?_, ?_⟩
  · have hne : l ≠ m := fun e => by
      obtain ⟨g1, e1⟩ := List.getElem?_eq_some_iff.mp hl
      obtain ⟨g2, e2⟩ := List.getElem?_eq_some_iff.mp hm
      have := (List.getElem_inj nd).mp (show ms[i] = ms[i + 1] by rw [e1, e2, e])
      omega
    obtain ⟨g1, e1⟩ := List.getElem?_eq_some_iff.mp hl
    obtain ⟨g2, e2⟩ := List.getElem?_eq_some_iff.mp hm
    have := List.pairwise_iff_getElem.mp pw i (i + 1) g1 g2 (by omega)
    rw [e1, e2] at this
    rw [lexLt_iff, decide_eq_true_eq]
    refine Classical.byContradiction fun hn => hne ?_
    exact zi_inj (List.le_antisymm this (List.not_lt.mp hn))
  · refine List.pairwise_iff_getElem.mpr fun i j hi hj hij => ?_
    have hne : ms[i] ≠ ms[j] := fun e => by
      have := (List.getElem_inj nd).mp e
      omega
    exact ⟨hh _ (List.getElem_mem hi) _ (List.getElem_mem hj) hne, hh _ (List.getElem_mem hj) _ (List.getElem_mem hi) (Ne.symm hne)⟩
/-- strictly ascending rows with the same members -/
theorem crs_eq {n : Nat} {a b : List Nat} (ha : CrOk n a) (hb : CrOk n b) (h : ∀ p, p ∈ a ↔ p ∈ b) : a = b := by
  rw [← LM.asc_self ha.inc ha.lt, ← LM.asc_self hb.inc hb.lt]
  exact LM.asc_congr fun p _ => h p
theorem crs_sub {n : Nat} {a b : List Nat} (ha : CrOk n a) (hb : CrOk n b) (h : ∀ p ∈ a, p ∈ b) (hl : b.length ≤ a.length) : a = b := by
  refine crs_eq ha hb fun p => ⟨h p, fun hp => Classical.byContradiction fun hn => ?_⟩
  have := nd_len (p :: a) b (List.nodup_cons.mpr ⟨hn, ha.inc.imp fun h => Nat.ne_of_lt h⟩) fun q hq => by
    rcases List.mem_cons.mp hq with z | z
    · subst z; exact hp
    · exact h q z
  simp at this
  omega
/-- no other heap lies in it -/
def isLeast (hs : List (List Nat)) (h : List Nat) : Bool := !(hs.any fun o => !decide (o = h) && o.all fun p => decide (p ∈ h))
theorem isLeast_iff {hs : List (List Nat)} {h : List Nat} : isLeast hs h = true ↔ ∀ o ∈ hs, (∀ p ∈ o, p ∈ h) → o = h := by
  unfold isLeast
  rw [Bool.not_eq_true', List.any_eq_false]
  constructor
  · intro g o ho hp
    have := g o ho
    refine Classical.byContradiction fun ne => this ?_
    simp [ne]
    exact hp
  · intro g o ho z
    rw [Bool.and_eq_true] at z
    obtain ⟨z1, z2⟩ := z
    have := g o ho (by simpa using z2)
    simp [this] at z1
theorem least_ok {n : Nat} {hs ms : List (List Nat)} (h1 : 1 ≤ n) (h12 : n ≤ 12) (hh : ∀ x ∈ hs, CrOk n x ∧ 2 ≤ x.length) (hl : hs.length ≤ 60) (nd : ms.Nodup) (pw : ms.Pairwise fun a b => zi a ≤ zi b) (mem : ∀ c, c ∈ ms ↔ c ∈ hs.filter (isLeast hs)) : BookOk n ms := by
  have g : ∀ c ∈ ms, c ∈ hs ∧ isLeast hs c = true := fun c hc => List.mem_filter.mp ((mem c).mp hc)
  refine bookOk_of h1 h12 (Nat.le_trans (nd_len ms hs nd fun c hc => (g c hc).1) hl) (fun l hm => (hh l (g l hm).1).1) (fun l hm => (hh l (g l hm).1).2) nd pw fun a ha b hb hs' => ?_
  exact isLeast_iff.mp (g b hb).2 a (g a ha).1 hs'
end DL
end
section
set_option Elab.async false
set_option linter.all false
set_option maxRecDepth 100000
set_option maxHeartbeats 0
/-! E4: the hand, a chain's sightings, lots -/
namespace DL
open PySem L2
section
variable {X : Cx}
theorem kSetI (K : PySem.W.Frag) (w : World) (hK : X.K = K := by rfl) (hw : X.w = w := by rfl) (hc : X.calm = true := by rfl) : CallR X (.type "set") (rSetI K w) := hw ▸ hK ▸ cr_setI hc
theorem kNeSet (w : World) (hu : X.A.units < cLine) (hw : X.w = w := by rfl) : OpR X (compareOp .NotEq) (rNeSet w) := hw ▸ op_neSet hu
theorem kSortS (w : World) (hw : X.w = w := by rfl) (hc : X.calm = true := by rfl) : CallR X (.builtin "sorted") (rSortS w) := hw ▸ cr_sortS hc
theorem kSetT (K : PySem.W.Frag) (P : Program) (w : World) (hu : X.A.units + 64 < cLine) (hK : X.K = K := by rfl) (hp : X.prog = P := by rfl) (hw : X.w = w := by rfl) (hc : X.calm = true := by rfl) : CallR X (.type "set") (rSetOfT K P w) := hp ▸ hw ▸ hK ▸ cr_setOfT hc hu
theorem kSortST (K : PySem.W.Frag) (P : Program) (w : World) (hu : X.A.units + 64 < cLine) (hK : X.K = K := by rfl) (hp : X.prog = P := by rfl) (hw : X.w = w := by rfl) (hc : X.calm = true := by rfl) : CallR X (.builtin "sorted") (rSortTN K P w) := hp ▸ hw ▸ hK ▸ cr_sortTN hc hu
end
section
variable {K : PySem.W.Frag}
theorem rc_intB {b : Bool} : RC K (fun xs H Q => (∃ i, xs = [.int i] ∧ Q (.int i) H) ∨ ∃ k, xs = [.bl k] ∧ Q (.int (if k then 1 else 0)) H) [.bl b] (.int (if b then 1 else 0)) := fun vs G H hs h Q q => by
  obtain ⟨v, rfl, r⟩ := one_rp h
  cases r
  exact .inr ⟨b, rfl, q _ G H (.refl hs) (.int _)⟩
theorem emt_yes {M : Mo} {es : Es} : EvMT K M tYes es (fun _ => True) := fun σ G H he hs m Q q => emt_of et_yes σ G H he hs m Q fun b G' H' _ k => q b G' H' trivial k
theorem x_thawN {M : Mo} {es : Es} {mu : Mu} {N : Es → Mu → Prop} {R : RT} {t : TS} {l : Addr} {ds : List Dt} (h : ¬ M.ad l → Xs K M t (DL.thaw l ds es) mu N R) : Xs K M t es ((l, ds) :: mu) N R := fun B G0 H0 σ H D c hn hr => by
  have c' := c
  obtain ⟨G, b, k, m, e, u⟩ := c'
  exact h u.know.1 B G0 H0 σ H D c.thaw hn hr
def thaw1 (l : Addr) (ds : List Dt) (o : Option Dt) : Option Dt := match o with
  | some (.adr a) => if a = l then some (.lst ds) else some (.adr a)
  | o => o
theorem thaw_nil {l : Addr} {ds : List Dt} : DL.thaw l ds [] = [] := rfl
theorem thaw_cons {l : Addr} {ds : List Dt} {o : Option Dt} {es : Es} : DL.thaw l ds (o :: es) = thaw1 l ds o :: DL.thaw l ds es := rfl
theorem thaw1_self {l : Addr} {ds : List Dt} : thaw1 l ds (some (.adr l)) = some (.lst ds) := if_pos rfl
theorem thaw1_ne {l a : Addr} {ds : List Dt} (h : a ≠ l) : thaw1 l ds (some (.adr a)) = some (.adr a) := if_neg h
theorem rc_absN {i : Int} : RC K (fun xs H Q => ∃ i, xs = [.int i] ∧ Q (.int (if i < 0 then -i else i)) H) [.int i] (.int (if i < 0 then -i else i)) := fun vs G H hs h Q q => by
  obtain ⟨v, rfl, r⟩ := one_rp h
  cases r
  exact ⟨i, rfl, q _ G H (.refl hs) (.int _)⟩
theorem cut2 {xs : List Dt} {i : Nat} {x y : Dt} (h1 : xs[i]? = some x) (h2 : xs[i + 1]? = some y) : cutD xs (some (i : Int)) (some ((i : Int) + 2)) = [x, y] := by
  obtain ⟨g1, e1⟩ := List.getElem?_eq_some_iff.mp h1
  obtain ⟨g2, e2⟩ := List.getElem?_eq_some_iff.mp h2
  unfold cutD
  rw [show (i : Int) + 2 = ((i + 2 : Nat) : Int) by omega, HT.sIx_nat, HT.sIx_nat, Nat.min_eq_left (by omega), Nat.min_eq_left (by omega), show i + 2 - i = 2 by omega, List.drop_eq_getElem_cons g1, List.drop_eq_getElem_cons g2, e1, e2]
  rfl
theorem cutTo {xs : List Dt} {k : Nat} : cutD xs none (some (k : Int)) = xs.take k := by
  unfold cutD
  rw [HT.sIx_nat, HT.sIx_none, List.drop_zero, Nat.sub_zero]
  by_cases h : k ≤ xs.length
  · rw [Nat.min_eq_left h]
  · rw [Nat.min_eq_right (by omega), List.take_of_length_le (Nat.le_refl _), List.take_of_length_le (by omega)]
theorem pair_perm (p q : Nat) : (LM.pair p q).Perm [p, q] := by
  unfold LM.pair
  split
  · exact .refl _
  · exact .swap _ _ _
theorem pair_le (p q : Nat) : (LM.pair p q).Pairwise (· ≤ ·) := by
  unfold LM.pair
  split <;> (simp; omega)
/-- tuple(sorted(names[i:i + 2])) -/
theorem ev_pair {ta : TE} {es : Es} {p q : Nat} (h : EvD K ta es (.tup [dn p, dn q])) : EvD K (tCB (rTupQ K) (tCons (tCB (rSortedTI K) (tCons ta tNil)) tNil)) es (crD (LM.pair p q)) :=
  ev_cb (ea_cons (EvL.d (el_cb (ea_cons h ea_nil) (rc_sortTI (ns := [p, q]) (pair_perm p q) (pair_le p q) (by simp)))) ea_nil) rc_tupL
end
/-! #### a chain's sightings -/
def chAt (names : List Nat) (fl : LM.Fl) (i : Nat) : Option (List Nat × List Nat) := match fl[i]? with
  | some (some b) => some (LM.pair (names.getD i 0) (names.getD (i + 1) 0), [if b = true then names.getD i 0 else names.getD (i + 1) 0])
  | _ => none
def chS (names : List Nat) (fl : LM.Fl) (k : Nat) : LM.Sgt := (List.range k).filterMap (chAt names fl)
theorem chS_succ (names : List Nat) (fl : LM.Fl) (k : Nat) : chS names fl (k + 1) = chS names fl k ++ (chAt names fl k).toList := by
  unfold chS
  rw [List.range_succ, List.filterMap_append]
  show _ ++ List.filterMap (chAt names fl) [k] = _
  rw [List.filterMap_cons]
  cases h : chAt names fl k <;> rfl
theorem range_at {m i x : Nat} (h : (List.range m)[i]? = some x) : i < m ∧ x = i := by
  obtain ⟨g, e⟩ := List.getElem?_eq_some_iff.mp h
  rw [List.length_range] at g
  exact ⟨g, by rw [← e, List.getElem_range]⟩
section
variable {P : Program} {w : World} {K : PySem.W.Frag} {mg : Str → Option Value} {base : Heap}
theorem sc_law_chain_seen : FnScope ["_law_names", "_law_seen_here", "_law_found", "_law_at", "_law_ahead"] ["_law_names", "_law_seen_here"] (defScope Hd.s_law_chain_seen) := ⟨rfl, rfl, rfl, by decide +kernel, rfl, by decide +kernel, by decide +kernel⟩
def sp_law_chain_seen (K : PySem.W.Frag) : Sp := spD K (fun x : List Nat × LM.Fl => [crD x.1, .lst (x.2.map flD)]) (fun x => x.2.length + 1 = x.1.length ∧ x.2.length ≤ 12) (fun x => .lst ((chS x.1 x.2 x.2.length).map sgD))
theorem cal_law_chain_seen (T : Txt K mg) : C8.Cal P w K mg base 1 "_law_chain_seen" (sp_law_chain_seen K) [] := by
  obtain ⟨fd, F⟩ := T.f_law_chain_seen
  have nd := sc_law_chain_seen.nd
  refine mkD F sc_law_chain_seen (fun _ => rfl) (fun us hl _ _ _ _ _ _ => match us, hl with | [_, _], _ => rfl) T.m_law_chain_seen fun cdv A outer s H E hr => ⟨_,
      (pss_cons (ps_set (i := 2) nd rfl (by first | exact Or.inl rfl | exact Or.inr rfl) (pe_lst pa_nil))
      (pss_cons (ps_for PassesOwn.never rfl (pi_range1 (by rfl) T.range (pa_cons (pe_callB (kLen K) (by rfl) T.len (by decide +kernel) (pa_cons (pv 1) pa_nil)) pa_nil)) (pg_name (i := 3) nd rfl (by first | exact Or.inl rfl | exact Or.inr rfl)) (pss_one (ps_if (pt_cmpR op_notN (pe_ix (kIxL K) (pv 1) (pv 3) (fun _ _ => rfl)) pe_non (nomark _)) (pss_cons (ps_set (i := 4) nd rfl (by first | exact Or.inl rfl | exact Or.inr rfl) (pe_ix (kIxT K) (pv 0) (pe_op op_sub (pe_op op_add (pv 3) pe_int) (pe_callTy call_int1 (by rfl) T.int (by decide +kernel) (pa_cons (pe_ix (kIxL K) (pv 1) (pv 3) (fun _ _ => rfl)) pa_nil))) (fun _ _ => rfl)))
      (pss_one (kAppend K (st := ps_expr (pe_bm PySem.F.plainAttrs_list PySem.F.slot_list_append PySem.F.type_list_append mt_append (pv 2) (pa_cons (pe_tup (pa_cons (pe_callTy (kTup K) (by rfl) T.tuple (by decide +kernel) (pa_cons (pe_callB (kSortTI K) (by rfl) T.sorted (by decide +kernel) (pa_cons (pe_slice (kSlT K) (pv 0) (po_some (pv 3)) (po_some (pe_op op_add (pv 3) pe_int))) pa_nil)) pa_nil)) (pa_cons (pe_tup (pa_cons (pv 4) pa_nil)) pa_nil))) pa_nil)))))) pss_nil)))
      (pss_one (ps_ret (pv 2))))), ?_⟩
  rintro ⟨names, fl⟩ ⟨hl, h12⟩
  simp only at hl h12
  refine x_seq (x_new (el_lst ea_nil (by decide)) fun l => x_seq (x_for (is := [3]) (xs := (List.range fl.length).map dn)
    (fun i es mu => ∃ o3 o4, es = [some (crD names), some (.lst (fl.map flD)), some (.adr l), o3, o4] ∧ mu = [(l, (chS names fl i).map sgD)] ∧ (chS names fl i).length ≤ i)
    (wk_is (wk_range1 (n := (fl.length : Int)) (ea_cons (ev_is (ev_cb (ea_cons (ev_var rfl) ea_nil) rc_lenL) (by rw [List.length_map])) ea_nil) (by omega) (by omega)) (by rw [Int.toNat_natCast, rng0])) ⟨_, _, rfl, rfl, Nat.le_refl _⟩ ?_ ?_))
  · rintro i y es mu hy ⟨o3, o4, rfl, rfl, hlen⟩
    obtain ⟨x, hx, rfl⟩ := map_at hy
    obtain ⟨hi, rfl⟩ := range_at hx
    obtain ⟨f, hf⟩ : ∃ f, fl[x]? = some f := ⟨_, List.getElem?_eq_getElem hi⟩
    have hfD : (fl.map flD)[x]? = some (flD f) := by rw [List.getElem?_map, hf]; rfl
    have hp : names[x]? = some (names.getD x 0) := by rw [List.getD_eq_getElem?_getD, List.getElem?_eq_getElem (by omega)]; rfl
    have hq : names[x + 1]? = some (names.getD (x + 1) 0) := by rw [List.getD_eq_getElem?_getD, List.getElem?_eq_getElem (by omega)]; rfl
    generalize names.getD x 0 = p at hp
    generalize names.getD (x + 1) 0 = q at hq
    have hpD : (names.map dn)[x]? = some (dn p) := by rw [List.getElem?_map, hp]; rfl
    have hqD : (names.map dn)[x + 1]? = some (dn q) := by rw [List.getElem?_map, hq]; rfl
    have hgp : names.getD x 0 = p := by rw [List.getD_eq_getElem?_getD, hp]; rfl
    have hgq : names.getD (x + 1) 0 = q := by rw [List.getD_eq_getElem?_getD, hq]; rfl
    refine tg_name ?_
    cases f with
    | none =>
      refine x_if (b := false) (et_test (ev_op (ev_op (ev_var rfl) (ev_var rfl) (rd_ixL (atI_nat hfD))) ev_non (rd_notN (d := .non) true rfl rfl))) (fun z => by cases z) fun _ => x_next ⟨_, _, rfl, ?_, ?_⟩
      · rw [chS_succ]; unfold chAt; rw [hf]; simp
      · rw [chS_succ]; unfold chAt; rw [hf]; simp; omega
    | some b =>
      refine x_if (b := true) (et_test (ev_op (ev_op (ev_var rfl) (ev_var rfl) (rd_ixL (atI_nat hfD))) ev_non (rd_notN (d := .bl b) false rfl rfl))) (fun _ => ?_) fun z => by cases z
      have e : chS names fl (x + 1) = chS names fl x ++ [(LM.pair p q, [if b = true then p else q])] := by
        rw [chS_succ]; unfold chAt; rw [hf, hgp, hgq]; rfl
      refine x_seq (x_asg (ev_op (z := dn (if b = true then p else q)) (ev_var rfl) (ev_op (z := .int (((if b = true then x else x + 1) : Nat) : Int)) (ev_op (ev_var rfl) ev_int rd_i0) (ev_cb (ea_cons (ev_op (ev_var rfl) (ev_var rfl) (rd_ixL (d := .bl b) (atI_nat hfD))) ea_nil) rc_intB) ?_) (rd_ixT (atI_nat ?_))) ?_)
      · have := rd_i0 (K := K) (f := fun i j => i - j) (i := (x : Int) + 1) (j := if b = true then 1 else 0)
        have e2 : ((x : Int) + 1 - (if b = true then 1 else 0)) = (((if b = true then x else x + 1) : Nat) : Int) := by cases b <;> simp <;> omega
        rw [e2] at this
        exact this
      · cases b
        · exact hqD
        · exact hpD
      · refine x_app 0 (ev_var rfl) (ev_tup (ea_cons (ev_pair (p := p) (q := q) (ev_is (ev_slT (ev_var rfl) (eo_some (ev_var rfl)) (eo_some (ev_op (ev_var rfl) ev_int rd_i0))) (by rw [cut2 hpD hqD]))) (ea_cons (ev_tup (ea_cons (ev_var rfl) ea_nil) (by simp)) ea_nil)) (by simp)) rfl (by rw [List.length_map]; omega) ⟨_, _, rfl, ?_, ?_⟩
        · rw [e, List.map_append]; rfl
        · rw [e, List.length_append]; simp; omega
  · rintro es mu ⟨o3, o4, rfl, rfl, hlen⟩
    rw [List.length_map, List.length_range]
    exact x_thaw (x_ret (ev_var (thaw_at rfl)) rfl)
theorem sc_law_lots : FnScope ["_law_hand_here", "_law_people", "_law_most", "_law_heaps", "_law_turn", "_law_size", "_law_heap", "_law_k", "_law_least", "_law_other", "_law_person"] ["_law_hand_here", "_law_people", "_law_most"] (defScope Hd.s_law_lots) := ⟨rfl, rfl, rfl, by decide +kernel, rfl, by decide +kernel, by decide +kernel⟩
def sp_law_lots (K : PySem.W.Frag) : Sp := spM K (fun x : Addr × Nat × Nat => moH K x.1) (fun x => [.adr x.1, dn x.2.1, dn x.2.2]) (fun x => 1 ≤ x.2.1 ∧ x.2.1 ≤ 12 ∧ x.2.2 ≤ 8) (fun x d => ∃ lots, BookOk x.2.1 lots ∧ d = lotsD lots)
theorem size_at {n : Nat} (h : n < 8) : ∃ s : Nat, s ≤ 5 ∧ atI ([2, 2, 2, 3, 3, 4, 2, 5].map Dt.int) (n : Int) = some (dn s) := by
  have : n = 0 ∨ n = 1 ∨ n = 2 ∨ n = 3 ∨ n = 4 ∨ n = 5 ∨ n = 6 ∨ n = 7 := by omega
  rcases this with rfl | rfl | rfl | rfl | rfl | rfl | rfl | rfl <;> exact ⟨_, by decide, atI_nat rfl⟩
theorem cal_law_lots (T : Txt K mg) : C8.Cal P w K mg base 2 "_law_lots" (sp_law_lots K) [] := by
  have c_law_draw := cal_law_draw (P := P) (w := w) (base := base) T
  obtain ⟨fd, F⟩ := T.f_law_lots
  have nd := sc_law_lots.nd
  refine mkM F sc_law_lots (fun _ => rfl) (fun us hl _ _ _ _ _ _ => match us, hl with | [_, _, _], _ => rfl) T.m_law_lots fun cdv A outer s H E hr => ⟨_,
      (pss_cons (ps_set (i := 3) nd rfl (by first | exact Or.inl rfl | exact Or.inr rfl) (pe_lst pa_nil))
      (pss_cons (ps_for PassesOwn.never rfl (pi_range1 (by rfl) T.range (pa_cons (C8.pe_c c_law_draw hr (by decide) (by rfl) (pa_cons (pv 0) (pa_cons (pe_op op_add (pv 2) pe_int) pa_nil))) pa_nil)) (pg_name (i := 4) nd rfl (by first | exact Or.inl rfl | exact Or.inr rfl)) (pss_cons (ps_set (i := 5) nd rfl (by first | exact Or.inl rfl | exact Or.inr rfl) (pe_ix (kIxL K) (pe_lst (pa_cons pe_int (pa_cons pe_int (pa_cons pe_int (pa_cons pe_int (pa_cons pe_int (pa_cons pe_int (pa_cons pe_int (pa_cons pe_int pa_nil))))))))) (C8.pe_c c_law_draw hr (by decide) (by rfl) (pa_cons (pv 0) (pa_cons pe_int pa_nil))) (fun _ _ => rfl)))
      (pss_cons (ps_set (i := 6) nd rfl (by first | exact Or.inl rfl | exact Or.inr rfl) (pe_callB (kSortS w) (by rfl) T.sorted (by decide +kernel) (pa_cons (pe_callTy (kSetI K w) (by rfl) T.set (by decide +kernel) (pa_cons (pe_lc (own := [("_law_k", 7)]) (g := (gName 7)) rfl nd (pi_range1 (by rfl) T.range (pa_cons (pv 5) pa_nil)) (blkOk_by (by show blkC ["_law_hand_here", "_law_people", "_law_most", "_law_heaps", "_law_turn", "_law_size", "_law_heap", "_law_k", "_law_least", "_law_other", "_law_person"] (defScope Hd.s_law_lots) _ _ = true; decide +kernel)) (fun _ _ _ _ _ => (pg_name (i := 7) nd rfl (by first | exact Or.inl rfl | exact Or.inr rfl))) (fun _ _ _ _ _ => pts_nil) (fun _ _ _ _ _ => (C8.pe_c c_law_draw hr (by decide) (by rfl) (pa_cons (pv 0) (pa_cons (pv 1) pa_nil))))) pa_nil)) pa_nil)))
      (pss_one (ps_if (pt_cmpR op_gt (pe_callB (kLen K) (by rfl) T.len (by decide +kernel) (pa_cons (pv 6) pa_nil)) pe_int (nomark _)) (pss_one (kAppend K (st := ps_expr (pe_bm PySem.F.plainAttrs_list PySem.F.slot_list_append PySem.F.type_list_append mt_append (pv 3) (pa_cons (pv 6) pa_nil))))) pss_nil)))))
      (pss_cons (ps_set (i := 8) nd rfl (by first | exact Or.inl rfl | exact Or.inr rfl) (pe_lst pa_nil))
      (pss_cons (ps_for PassesOwn.never rfl (kList K rfl (pv 3)) (pg_name (i := 6) nd rfl (by first | exact Or.inl rfl | exact Or.inr rfl)) (pss_one (ps_if (pt_not (pt_val (pe_callB (kAny K) (by rfl) T.any (by decide +kernel) (pa_cons (pe_lc (own := [("_law_other", 9)]) (g := (gName 9)) rfl nd (kList K rfl (pv 3)) (blkOk_by (by show blkC ["_law_hand_here", "_law_people", "_law_most", "_law_heaps", "_law_turn", "_law_size", "_law_heap", "_law_k", "_law_least", "_law_other", "_law_person"] (defScope Hd.s_law_lots) _ _ = true; decide +kernel)) (fun _ _ _ _ _ => (pg_name (i := 9) nd rfl (by first | exact Or.inl rfl | exact Or.inr rfl))) (fun _ _ _ _ _ => pts_nil) (fun _ _ _ _ _ => (pe_and (pe_cmpR (kNeSet w hr.units0) (pe_callTy (kSetI K w) (by rfl) T.set (by decide +kernel) (pa_cons (pv 9) pa_nil)) (pe_callTy (kSetI K w) (by rfl) T.set (by decide +kernel) (pa_cons (pv 6) pa_nil)) (nomark _)) (pe_one (pe_callB (kAll K) (by rfl) T.all (by decide +kernel) (pa_cons (pe_lc (own := [("_law_person", 10)]) (g := (gName 10)) rfl nd (kList K rfl (pv 9)) (blkOk_by (by show blkC ["_law_hand_here", "_law_people", "_law_most", "_law_heaps", "_law_turn", "_law_size", "_law_heap", "_law_k", "_law_least", "_law_other", "_law_person"] (relS _ (defScope Hd.s_law_lots)) _ _ = true; decide +kernel)) (fun _ _ _ _ _ => (pg_name (i := 10) nd rfl (by first | exact Or.inl rfl | exact Or.inr rfl))) (fun _ _ _ _ _ => pts_nil) (fun _ _ _ _ _ => (pe_cmpR (kIn K) (pv 10) (pv 6) (by rfl)))) pa_nil)))))) pa_nil)))) (pss_one (kAppend K (st := ps_expr (pe_bm PySem.F.plainAttrs_list PySem.F.slot_list_append PySem.F.type_list_append mt_append (pv 8) (pa_cons (pe_callTy (kTup K) (by rfl) T.tuple (by decide +kernel) (pa_cons (pv 6) pa_nil)) pa_nil))))) pss_nil)))
      (pss_one (ps_ret (pe_callTy (kTup K) (by rfl) T.tuple (by decide +kernel) (pa_cons (pe_callB (kSortST K P w hr.units) (by rfl) T.sorted (by decide +kernel) (pa_cons (pe_callTy (kSetT K P w hr.units) (by rfl) T.set (by decide +kernel) (pa_cons (pv 8) pa_nil)) pa_nil)) pa_nil)))))))), ?_⟩
  rintro ⟨h, n, most⟩ ⟨h1, h12, h8⟩
  simp only at h1 h12 h8
  refine x_seq (x_new (el_lst ea_nil (by decide)) fun l => x_seq (x_forM (is := [4]) (P := fun xs => ∃ k, k < most + 1 ∧ xs = rngD 0 k)
    (fun xs i es mu => ∃ (hs : List (List Nat)) (o4 o5 o6 : Option Dt), es = [some (.adr h), some (dn n), some (dn most), some (.adr l), o4, o5, o6, none, none, none, none] ∧ mu = [(l, hs.map ldN)] ∧ hs.length ≤ i ∧ ∀ x ∈ hs, CrOk n x ∧ 2 ≤ x.length ∧ x.length ≤ 5)
    (wm_range1 (P := fun k => k < most + 1) (ema_imp (ema_cons (em_draw (m := most + 1) rfl (ev_is (ev_op (ev_var rfl) ev_int rd_i0) (by show Dt.int ((most : Int) + 1) = Dt.int ((most + 1 : Nat) : Int); congr 1)) (by omega) (by omega)) fun _ _ => ema_nil) fun l ⟨d, ds, ⟨k, hk, e1⟩, e2, e3⟩ => ⟨k, hk, by rw [e3, e1, e2]⟩) fun k hk => by omega)
    (fun xs _ => ⟨[], _, _, _, rfl, rfl, Nat.le_refl _, by simp⟩) ?_ ?_))
  · rintro i xs y es mu ⟨k, hk, rfl⟩ hy ⟨hs, o4, o5, o6, rfl, rfl, hl, hc⟩
    have hi := (rngD_at hy).1
    refine tg_name (x_seq (x_asgM (P := fun d => ∃ s : Nat, s ≤ 5 ∧ d = dn s) (em_opR (EvL.d (el_lst (ea_cons ev_int (ea_cons ev_int (ea_cons ev_int (ea_cons ev_int (ea_cons ev_int (ea_cons ev_int (ea_cons ev_int (ea_cons ev_int ea_nil)))))))) (by decide))) (em_draw (m := 8) rfl ev_int (by omega) (by omega)) fun d ⟨j, hj, e⟩ => ?_) ?_))
    · obtain ⟨s, hs5, ha⟩ := size_at hj
      subst e
      exact ⟨dn s, ⟨s, hs5, rfl⟩, rd_ixL ha⟩
    rintro d ⟨s, hs5, rfl⟩
    refine x_seq (x_asgM (P := fun d => ∃ ms : List Nat, CrOk n ms ∧ ms.length ≤ 5 ∧ d = ldN ms) (em_imp (EvML.d (eml_sortS (Pn := fun ns => ns.length ≤ 5 ∧ ∀ q ∈ ns, q < n) (ema_imp (ema_cons (EvML.d (eml_lc (List.range s) dn (fun _ d => ∃ q : Nat, q < n ∧ d = dn q) (is := [7]) (wk_is (wk_range1 (n := (s : Int)) (ea_cons (ev_var rfl) ea_nil) (by omega) (by omega)) (by rw [Int.toNat_natCast, rng0])) (by simp) (by rw [List.length_range]; omega)
      fun q hq => tg_name ⟨emt_yes, em_draw (m := n) rfl (ev_var rfl) (by omega) (by omega)⟩)) fun _ _ => ema_nil) ?_) fun ns hn => by omega)) ?_) ?_)
    · rintro l' ⟨d, ds, ⟨dl, ⟨zs, sub, hzl, hz⟩, rfl⟩, rfl, rfl⟩
      have hex : ∀ m (ds : List Dt), ds.length ≤ m → (∀ d ∈ ds, ∃ q : Nat, q < n ∧ d = dn q) → ∃ ns : List Nat, ns.length = ds.length ∧ (∀ q ∈ ns, q < n) ∧ ds = ns.map dn := by
        intro m ds
        induction ds generalizing m with
        | nil => exact fun _ _ => ⟨[], rfl, by simp, rfl⟩
        | cons d ds ih =>
          intro hm hd
          obtain ⟨ns, g1, g2, g3⟩ := ih m (by simp at hm; omega) fun d h => hd d (by simp [h])
          obtain ⟨q, g4, g5⟩ := hd d (by simp)
          exact ⟨q :: ns, by simp [g1], fun q' hq' => by rcases List.mem_cons.mp hq' with z | z; · subst z; exact g4
                                                         · exact g2 q' z, by rw [g5, g3]; rfl⟩
      obtain ⟨ns, g1, g2, g3⟩ := hex dl.length dl (Nat.le_refl _) fun d hd => by
        obtain ⟨i, hi, e⟩ := List.getElem_of_mem hd
        exact hz i (zs[i]'(by omega)) d (List.getElem?_eq_getElem _) (by rw [List.getElem?_eq_getElem hi, e])
      have := sub.length_le
      rw [List.length_range] at this
      exact ⟨ns, ⟨by omega, g2⟩, by rw [g3]⟩
    · rintro d ⟨ds, ⟨ns, ms, ⟨g1, g2⟩, g3, g4, rfl⟩, rfl⟩
      exact ⟨ms, ⟨g3, fun q hq => g2 q ((g4 q).mp hq)⟩, Nat.le_trans (nd_len ms ns (g3.imp fun h => Nat.ne_of_lt h) fun q hq => (g4 q).mp hq) g1, rfl⟩
    rintro d ⟨ms, hm, hm5, rfl⟩
    refine x_if (et_test (ev_op (ev_cb (ea_cons (ev_var rfl) ea_nil) rc_lenL) ev_int rd_b0)) (fun hb => ?_) fun hb => x_next ⟨hs, _, _, _, rfl, rfl, by omega, hc⟩
    refine x_app 0 (ev_var rfl) (ev_var rfl) rfl (by rw [List.length_map]; omega) ⟨hs ++ [ms], _, _, _, rfl, ?_, by simp; omega, fun x hx => ?_⟩
    · rw [List.map_append]; rfl
    · rcases List.mem_append.mp hx with z | z
      · exact hc x z
      · rw [List.mem_singleton] at z
        subst z
        have := of_decide_eq_true hb
        rw [List.length_map] at this
        exact ⟨hm, by omega, hm5⟩
  · rintro xs es mu ⟨k, hk, rfl⟩ ⟨hs, o4, o5, o6, rfl, rfl, hl, hc⟩
    rw [rngD_len] at hl
    refine x_thaw ?_
    obtain ⟨o0, p4, p5, p6, e⟩ : ∃ o0 p4 p5 p6, thaw l (hs.map ldN) [some (.adr h), some (dn n), some (dn most), some (.adr l), o4, o5, o6, none, none, none, none] = [o0, some (dn n), some (dn most), some (.lst (hs.map ldN)), p4, p5, p6, none, none, none, none] := ⟨_, _, _, _, by rw [thaw_cons, thaw_cons, thaw_cons, thaw_cons, thaw1_self]; rfl⟩
    rw [e]
    clear e
    refine x_seq (x_new (el_lst ea_nil (by decide)) fun l2 => x_seq (x_for (is := [6]) (xs := hs.map ldN)
      (fun i es mu => ∃ o6, es = [o0, some (dn n), some (dn most), some (.lst (hs.map ldN)), p4, p5, o6, none, some (.adr l2), none, none] ∧ mu = [(l2, ((hs.take i).filter (isLeast hs)).map crD)])
      (wk_list (ev_var rfl)) ⟨_, rfl, rfl⟩ ?_ ?_))
    · rintro i y es mu hy ⟨o6, rfl, rfl⟩
      obtain ⟨hp, hhp, rfl⟩ := map_at hy
      have hm := List.mem_of_getElem? hhp
      obtain ⟨c1, c2, c3⟩ := hc hp hm
      have hil := (List.getElem?_eq_some_iff.mp hhp).1
      have etk : hs.take (i + 1) = hs.take i ++ [hp] := by rw [List.take_add_one, hhp]; rfl
      refine tg_name (x_if (b := isLeast hs hp) (et_not (et_test (ev_cb (ea_cons (EvL.d (el_lc hs ldN (fun _ => true) (fun o => .bl (!decide (o = hp) && o.all fun p => decide (p ∈ hp))) (is := [9]) (wk_list (ev_var rfl)) (by simp) (by omega) fun o ho => tg_name ⟨et_yes, fun _ => ?_⟩)) ea_nil) (by rw [filter_yes]; exact rc_anyF _ _)))) (fun hb => ?_) fun hb => x_next ⟨_, rfl, ?_⟩)
      · obtain ⟨d1, d2, d3⟩ := hc o ho
        refine ev_andV (ev_neSets (ns := o) (ms := hp) (e := decide (o = hp)) (ev_var rfl) (ev_var rfl) (d1.inc.imp fun h => Nat.ne_of_lt h) (c1.inc.imp fun h => Nat.ne_of_lt h) (by omega) (by omega) ?_) fun _ => ?_
        · rw [decide_eq_true_eq]
          exact ⟨fun e => by subst e; exact ⟨rfl, fun _ h => h⟩, fun ⟨e1, e2⟩ => crs_sub d1 c1 e2 (by omega)⟩
        · exact ev_cb (ea_cons (EvL.d (el_lc o dn (fun _ => true) (fun p => .bl (decide (p ∈ hp))) (is := [10]) (wk_list (ev_var rfl)) (by simp) (by omega) fun p _ => tg_name ⟨et_yes, fun _ => ev_op (ev_var rfl) (ev_var rfl) rd_inLN⟩)) ea_nil) (by rw [filter_yes]; exact rc_allF _ _)
      · refine x_app 0 (ev_var rfl) (ev_cb (ea_cons (ev_var rfl) ea_nil) rc_tupL) rfl ?_ ⟨_, rfl, ?_⟩
        · rw [List.length_map]
          have := List.length_filter_le (isLeast hs) (hs.take i)
          rw [List.length_take] at this
          omega
        · rw [etk, List.filter_append, List.filter_cons, if_pos hb, List.map_append]; rfl
      · rw [etk, List.filter_append, List.filter_cons, if_neg (by rw [hb]; simp), List.filter_nil, List.append_nil]
    · rintro es mu ⟨o6, rfl, rfl⟩
      rw [List.length_map, List.take_length]
      refine x_thaw (x_retM (em_cb (ema_cons (EvML.d (eml_sortT (Pn := fun cs => cs = hs.filter (isLeast hs)) (ema_imp (ema_cons (em_of (ev_var (thaw_at rfl))) fun _ _ => ema_nil) ?_) ?_)) fun _ _ => ema_nil) ?_))
      · rintro l' ⟨d, ds, rfl, rfl, rfl⟩
        exact ⟨_, rfl, rfl⟩
      · rintro cs rfl
        refine ⟨by have := List.length_filter_le (isLeast hs) hs; omega, fun c hc' e => ?_⟩
        have := (hc c (List.mem_filter.mp hc').1).2.1
        rw [e] at this
        simp at this
      · rintro l' ⟨d, ds, ⟨_, ⟨cs, ms, rfl, g1, g2, g3, rfl⟩, rfl⟩, rfl, rfl⟩
        exact ⟨lotsD ms, ⟨ms, least_ok h1 h12 (fun x hx => ⟨(hc x hx).1, (hc x hx).2.1⟩) (by omega) g1 g2 g3, rfl⟩, rc_tupL⟩
end
end DL
end
section
set_option Elab.async false
set_option linter.all false
set_option maxRecDepth 100000
set_option maxHeartbeats 0
/-! M2: a chain's lots (plain) -/
namespace DL
open PySem
def sortCr (cs : List (List Nat)) : List (List Nat) := cs.mergeSort fun a b => decide (zi a ≤ zi b)
theorem sortCr_perm (cs : List (List Nat)) : (sortCr cs).Perm cs := List.mergeSort_perm ..
theorem sortCr_le (cs : List (List Nat)) : (sortCr cs).Pairwise fun a b => zi a ≤ zi b := by
  have := List.pairwise_mergeSort (le := fun a b : List Nat => decide (zi a ≤ zi b)) (fun a b c h1 h2 => by
    simp only [decide_eq_true_eq] at h1 h2 ⊢
    exact List.le_trans h1 h2) (fun a b => by
    simp only [Bool.or_eq_true, decide_eq_true_eq]
    exact List.le_total _ _) cs
  exact this.imp fun h => by simpa using h
def chPair (names : List Nat) (i : Nat) : List Nat := LM.pair (names.getD i 0) (names.getD (i + 1) 0)
def chLots (names : List Nat) (n : Nat) : List (List Nat) := sortCr ((List.range (n - 1)).map (chPair names))
theorem getD_at {names : List Nat} {i : Nat} (h : i < names.length) : names[i]? = some (names.getD i 0) := by
  rw [List.getD_eq_getElem?_getD, List.getElem?_eq_getElem h]; rfl
theorem getD_of {names : List Nat} {i p : Nat} (h : names[i]? = some p) : names.getD i 0 = p := by
  rw [List.getD_eq_getElem?_getD, h]; rfl
section
variable {n : Nat} {names : List Nat} (hn : LM.IsOrder n names)
include hn
theorem chLots_mem (l : List Nat) : l ∈ chLots names n ↔ ∃ i p q, names[i]? = some p ∧ names[i + 1]? = some q ∧ l = LM.pair p q := by
  unfold chLots
  rw [(sortCr_perm _).mem_iff, List.mem_map]
  have hl := hn.len
  constructor
  · rintro ⟨i, hi, rfl⟩
    rw [List.mem_range] at hi
    exact ⟨i, _, _, getD_at (by omega), getD_at (by omega), rfl⟩
  · rintro ⟨i, p, q, h1, h2, rfl⟩
    have := (List.getElem?_eq_some_iff.mp h2).1
    exact ⟨i, List.mem_range.mpr (by omega), by unfold chPair; rw [getD_of h1, getD_of h2]⟩
theorem ch_ne {i p q : Nat} (h1 : names[i]? = some p) (h2 : names[i + 1]? = some q) : p ≠ q := fun e => by
  subst e
  have := LM.nd_at hn.nd h1 h2
  omega
theorem ch_cr {i p q : Nat} (h1 : names[i]? = some p) (h2 : names[i + 1]? = some q) : CrOk n (LM.pair p q) := by
  refine ⟨LM.pair_sorted (ch_ne hn h1 h2), fun z hz => ?_⟩
  rcases LM.mem_pair.mp hz with e | e <;> subst e
  · exact (hn.mem _).mp (List.mem_of_getElem? h1)
  · exact (hn.mem _).mp (List.mem_of_getElem? h2)
theorem chLots_ok (h1 : 1 ≤ n) (h12 : n ≤ 12) : BookOk n (chLots names n) := by
  have hl := hn.len
  have inj : ∀ i j, i < n - 1 → j < n - 1 → chPair names i = chPair names j → i = j := fun i j hi hj e => by
    have a1 := getD_at (names := names) (i := i) (by omega)
    have a2 := getD_at (names := names) (i := i + 1) (by omega)
    have b1 := getD_at (names := names) (i := j) (by omega)
    have b2 := getD_at (names := names) (i := j + 1) (by omega)
    unfold chPair at e
    have m1 : names.getD i 0 ∈ LM.pair (names.getD j 0) (names.getD (j + 1) 0) := by rw [← e]; exact LM.mem_pair.mpr (.inl rfl)
    have m2 : names.getD (i + 1) 0 ∈ LM.pair (names.getD j 0) (names.getD (j + 1) 0) := by rw [← e]; exact LM.mem_pair.mpr (.inr rfl)
    rcases LM.mem_pair.mp m1 with g | g <;> rcases LM.mem_pair.mp m2 with g' | g'
    · rw [g] at a1; exact LM.nd_at hn.nd a1 b1
    · rw [g] at a1; exact LM.nd_at hn.nd a1 b1
    · rw [g] at a1; rw [g'] at a2
      have := LM.nd_at hn.nd a1 b2
      have := LM.nd_at hn.nd a2 b1
      omega
    · rw [g] at a1; rw [g'] at a2
      have := LM.nd_at hn.nd a1 b2
      have := LM.nd_at hn.nd a2 b2
      omega
  refine bookOk_of h1 h12 ?_ (fun l h => ?_) (fun l h => ?_) ?_ (sortCr_le _) fun a ha b hb hs => ?_
  · unfold chLots
    rw [(sortCr_perm _).length_eq, List.length_map, List.length_range]; omega
  · obtain ⟨i, p, q, g1, g2, rfl⟩ := (chLots_mem hn l).mp h
    exact ch_cr hn g1 g2
  · obtain ⟨i, p, q, g1, g2, rfl⟩ := (chLots_mem hn l).mp h
    rw [LM.pair_len]; exact Nat.le_refl _
  · refine (sortCr_perm _).nodup_iff.mpr ?_
    refine List.pairwise_map.mpr ?_
    refine List.Pairwise.imp_of_mem ?_ (List.nodup_range (n := n - 1))
    intro a b ha hb hne e
    exact hne (inj a b (List.mem_range.mp ha) (List.mem_range.mp hb) e)
  · obtain ⟨i, p, q, g1, g2, rfl⟩ := (chLots_mem hn a).mp ha
    obtain ⟨j, p', q', g3, g4, rfl⟩ := (chLots_mem hn b).mp hb
    exact crs_sub (ch_cr hn g1 g2) (ch_cr hn g3 g4) hs (by rw [LM.pair_len, LM.pair_len]; exact Nat.le_refl _)
theorem ch_chain {fl : LM.Fl} (hf : fl.length + 1 = n) : LM.Chain n names fl (chLots names n) (chS names fl fl.length) := by
  have hl := hn.len
  refine ⟨hn, hf, chLots_mem hn, fun cs => ?_⟩
  unfold chS
  rw [List.mem_filterMap]
  constructor
  · rintro ⟨i, hi, e⟩
    rw [List.mem_range] at hi
    unfold chAt at e
    split at e
    · rename_i b hb
      cases e
      exact ⟨i, _, _, b, getD_at (by omega), getD_at (by omega), hb, rfl⟩
    · cases e
  · rintro ⟨i, p, q, b, h1, h2, h3, rfl⟩
    have := (List.getElem?_eq_some_iff.mp h3).1
    refine ⟨i, List.mem_range.mpr this, ?_⟩
    unfold chAt
    rw [h3, getD_of h1, getD_of h2]
end
end DL
end
section
set_option Elab.async false
set_option linter.all false
set_option maxRecDepth 100000
set_option maxHeartbeats 0
/-! E5: a chain -/
namespace DL
open PySem L2
section
variable {P : Program} {w : World} {K : PySem.W.Frag} {mg : Str → Option Value} {base : Heap}
theorem rng_n {n : Nat} : rngD 0 n = (List.range n).map dn := rng0 n
theorem sc_law_chain : FnScope ["_law_hand_here", "_law_people", "_law_share", "_law_names", "_law_lots_here", "_law_at", "_law_seen_here"] ["_law_hand_here", "_law_people", "_law_share"] (defScope Hd.s_law_chain) := ⟨rfl, rfl, rfl, by decide +kernel, rfl, by decide +kernel, by decide +kernel⟩
def sp_law_chain (K : PySem.W.Frag) : Sp := spM K (fun x : Addr × Nat × Nat => moH K x.1) (fun x => [.adr x.1, dn x.2.1, dn x.2.2]) (fun x => 2 ≤ x.2.1 ∧ x.2.1 ≤ 12 ∧ x.2.2 ≤ 2)
  (fun x d => ∃ (names : List Nat) (fl : LM.Fl), LM.IsOrder x.2.1 names ∧ fl.length + 1 = x.2.1 ∧ d = .tup [crD names, lotsD (chLots names x.2.1), .lst (fl.map flD)])
theorem flag_at {d s : Nat} (hs : s ≤ 2) (hd : d < s + 2) : ∃ f : Option Bool, atI [Dt.non, .bl true, .bl false] (if ((d : Int) - (s : Int) + 1) > 0 then (d : Int) - (s : Int) + 1 else 0) = some (flD f) := by
  have : ((if ((d : Int) - (s : Int) + 1) > 0 then (d : Int) - (s : Int) + 1 else 0) = ((0 : Nat) : Int)) ∨ ((if ((d : Int) - (s : Int) + 1) > 0 then (d : Int) - (s : Int) + 1 else 0) = ((1 : Nat) : Int)) ∨ ((if ((d : Int) - (s : Int) + 1) > 0 then (d : Int) - (s : Int) + 1 else 0) = ((2 : Nat) : Int)) := by
    split <;> omega
  rcases this with e | e | e <;> rw [e]
  · exact ⟨none, atI_nat rfl⟩
  · exact ⟨some true, atI_nat rfl⟩
  · exact ⟨some false, atI_nat rfl⟩
theorem cal_law_chain (T : Txt K mg) : C8.Cal P w K mg base 3 "_law_chain" (sp_law_chain K) [] := by
  have c_law_draw := cal_law_draw (P := P) (w := w) (base := base) T
  have c_law_order := cal_law_order (P := P) (w := w) (base := base) T
  obtain ⟨fd, F⟩ := T.f_law_chain
  have nd := sc_law_chain.nd
  refine mkM F sc_law_chain (fun _ => rfl) (fun us hl _ _ _ _ _ _ => match us, hl with | [_, _, _], _ => rfl) T.m_law_chain fun cdv A outer s H E hr => ⟨_,
      (pss_cons (ps_set (i := 3) nd rfl (by first | exact Or.inl rfl | exact Or.inr rfl) (C8.pe_c c_law_order hr (by decide) (by rfl) (pa_cons (pv 0) (pa_cons (pv 1) pa_nil))))
      (pss_cons (ps_set (i := 4) nd rfl (by first | exact Or.inl rfl | exact Or.inr rfl) (pe_callTy (kTup K) (by rfl) T.tuple (by decide +kernel) (pa_cons (pe_callB (kSortN K rfl hr.units) (by rfl) T.sorted (by decide +kernel) (pa_cons (pe_lc (own := [("_law_at", 5)]) (g := (gName 5)) rfl nd (pi_range1 (by rfl) T.range (pa_cons (pe_op op_sub (pv 1) pe_int) pa_nil)) (blkOk_by (by show blkC ["_law_hand_here", "_law_people", "_law_share", "_law_names", "_law_lots_here", "_law_at", "_law_seen_here"] (defScope Hd.s_law_chain) _ _ = true; decide +kernel)) (fun _ _ _ _ _ => (pg_name (i := 5) nd rfl (by first | exact Or.inl rfl | exact Or.inr rfl))) (fun _ _ _ _ _ => pts_nil) (fun _ _ _ _ _ => (pe_callTy (kTup K) (by rfl) T.tuple (by decide +kernel) (pa_cons (pe_callB (kSortTI K) (by rfl) T.sorted (by decide +kernel) (pa_cons (pe_slice (kSlT K) (pv 3) (po_some (pv 5)) (po_some (pe_op op_add (pv 5) pe_int))) pa_nil)) pa_nil)))) pa_nil)) pa_nil)))
      (pss_cons (ps_set (i := 6) nd rfl (by first | exact Or.inl rfl | exact Or.inr rfl) (pe_lst pa_nil))
      (pss_cons (ps_for PassesOwn.never rfl (pi_range1 (by rfl) T.range (pa_cons (pe_op op_sub (pv 1) pe_int) pa_nil)) (pg_name (i := 5) nd rfl (by first | exact Or.inl rfl | exact Or.inr rfl)) (pss_one (kAppend K (st := ps_expr (pe_bm PySem.F.plainAttrs_list PySem.F.slot_list_append PySem.F.type_list_append mt_append (pv 6) (pa_cons (pe_ix (kIxL K) (pe_lst (pa_cons pe_non (pa_cons pe_bl (pa_cons pe_bl pa_nil)))) (pe_callB (call_max2 rfl) (by rfl) T.max (by decide +kernel) (pa_cons pe_int (pa_cons (pe_op op_add (pe_op op_sub (C8.pe_c c_law_draw hr (by decide) (by rfl) (pa_cons (pv 0) (pa_cons (pe_op op_add (pv 2) pe_int) pa_nil))) (pv 2)) pe_int) pa_nil))) (fun _ _ => rfl)) pa_nil))))))
      (pss_one (ps_ret (pe_tup (pa_cons (pv 3) (pa_cons (pv 4) (pa_cons (pv 6) pa_nil)))))))))), ?_⟩
  rintro ⟨h, n, sh⟩ ⟨h2, h12, hs2⟩
  simp only at h2 h12 hs2
  refine x_seq (x_asgM (em_call (ema_of (ea_cons (ev_var rfl) (ea_cons (ev_var rfl) ea_nil))) fun ds e => ⟨(h, n), rfl, e, h12, fun d hd => hd⟩) ?_)
  rintro d ⟨names, ho, rfl⟩
  have hl := ho.len
  refine x_seq (x_asg (d := lotsD (chLots names n)) (ev_cb (ea_cons (EvL.d (el_cb (ea_cons (EvL.d (el_lc (List.range (n - 1)) dn (fun _ => true) (fun i => crD (chPair names i)) (is := [5]) (wk_is (wk_range1 (n := ((n - 1 : Nat) : Int)) (ea_cons (ev_is (ev_op (ev_var rfl) ev_int rd_i0) (by show Dt.int ((n : Int) - 1) = _; congr 1; omega)) ea_nil) (by omega) (by omega)) (by rw [Int.toNat_natCast, rng0])) (by simp) (by rw [List.length_range]; omega)
    fun i hi => tg_name ⟨et_yes, fun _ => ?_⟩)) ea_nil) ?_)) ea_nil) rc_tupL) ?_)
  · rw [List.mem_range] at hi
    have a1 : (names.map dn)[i]? = some (dn (names.getD i 0)) := by rw [List.getElem?_map, getD_at (by omega)]; rfl
    have a2 : (names.map dn)[i + 1]? = some (dn (names.getD (i + 1) 0)) := by rw [List.getElem?_map, getD_at (by omega)]; rfl
    exact ev_pair (ev_is (ev_slT (ev_var rfl) (eo_some (ev_var rfl)) (eo_some (ev_op (ev_var rfl) ev_int rd_i0))) (by rw [cut2 a1 a2]))
  · rw [filter_yes, show (List.range (n - 1)).map (fun i => crD (chPair names i)) = ((List.range (n - 1)).map (chPair names)).map crD by rw [List.map_map]; rfl]
    refine rc_sortN (sortCr_perm _) (sortCr_le _) fun c hc e => ?_
    obtain ⟨i, _, rfl⟩ := List.mem_map.mp hc
    have := LM.pair_len (p := names.getD i 0) (q := names.getD (i + 1) 0)
    unfold chPair at e
    rw [e] at this
    cases this
  refine x_seq (x_new (el_lst ea_nil (by decide)) fun l => x_seq (x_for (is := [5]) (xs := rngD 0 (n - 1))
    (fun i es mu => ∃ (fl : LM.Fl) (o5 : Option Dt), es = [some (.adr h), some (dn n), some (dn sh), some (crD names), some (lotsD (chLots names n)), o5, some (.adr l)] ∧ mu = [(l, fl.map flD)] ∧ fl.length = i)
    (wk_is (wk_range1 (n := ((n - 1 : Nat) : Int)) (ea_cons (ev_is (ev_op (ev_var rfl) ev_int rd_i0) (by show Dt.int ((n : Int) - 1) = _; congr 1; omega)) ea_nil) (by omega) (by omega)) (by rw [Int.toNat_natCast])) ⟨[], _, rfl, rfl, rfl⟩ ?_ ?_))
  · rintro i y es mu hy ⟨fl, o5, rfl, rfl, hfl⟩
    have hi := (rngD_at hy).1
    refine tg_name (x_appM 0 (P := fun d => ∃ f : Option Bool, d = flD f) (ev_var rfl) (em_opR (EvL.d (el_lst (ea_cons ev_non (ea_cons ev_bl (ea_cons ev_bl ea_nil))) (by simp))) (em_cb (Pz := fun d => ∃ v : Nat, v < sh + 2 ∧ d = .int (if ((v : Int) - (sh : Int) + 1) > 0 then (v : Int) - (sh : Int) + 1 else 0)) (ema_cons (em_of ev_int) fun _ _ => ema_cons (em_opL (Pz := fun d => ∃ v : Nat, v < sh + 2 ∧ d = .int ((v : Int) - (sh : Int) + 1)) (em_opL (Pz := fun d => ∃ v : Nat, v < sh + 2 ∧ d = .int ((v : Int) - (sh : Int))) (em_draw (m := sh + 2) rfl (ev_is (ev_op (ev_var rfl) ev_int rd_i0) (by show Dt.int ((sh : Int) + 2) = Dt.int ((sh + 2 : Nat) : Int); congr 1)) (by omega) (by omega)) (ev_var rfl) fun d ⟨v, hv, e⟩ => ⟨_, ⟨v, hv, rfl⟩, by rw [e]; exact rd_i0⟩) ev_int fun d ⟨v, hv, e⟩ => ⟨_, ⟨v, hv, rfl⟩, by rw [e]; exact rd_i0⟩) fun _ _ => ema_nil) ?_) fun d ⟨v, hv, e⟩ => ?_) rfl (by rw [List.length_map]; omega) ?_)
    · rintro ds ⟨d, ds', rfl, ⟨d2, ds2, ⟨v, hv, rfl⟩, rfl, rfl⟩, rfl⟩
      exact ⟨_, ⟨v, hv, rfl⟩, rc_max2⟩
    · subst e
      obtain ⟨f, hf⟩ := flag_at hs2 hv
      exact ⟨flD f, ⟨f, rfl⟩, rd_ixL hf⟩
    · rintro d ⟨f, rfl⟩
      refine ⟨fl ++ [f], _, rfl, ?_, by simp [hfl]⟩
      rw [List.map_append]; rfl
  · rintro es mu ⟨fl, o5, rfl, rfl, hfl⟩
    rw [rngD_len] at hfl
    refine x_thaw ?_
    exact x_ret (ev_tup (ea_cons (ev_var rfl) (ea_cons (ev_var rfl) (ea_cons (ev_var (thaw_at rfl)) ea_nil))) (by simp)) ⟨names, fl, ho, by simp only; omega, rfl⟩
end
end DL
end
section
set_option Elab.async false
set_option linter.all false
set_option maxRecDepth 100000
set_option maxHeartbeats 0
/-! E6: all crowds, sorted by a lambda -/
namespace DL
open PySem L2 PyProof.Rows
/-! #### the order by length, then by data -/
theorem keyLe_iff {p q : List Int} : keyLe p q = true ↔ p.length < q.length ∨ (p.length = q.length ∧ p ≤ q) := by
  unfold keyLe
  by_cases h : q.length = p.length
  · rw [if_pos h]
    simp [h]
  · rw [if_neg h]
    simp only [Bool.not_eq_true', decide_eq_false_iff_not]
    constructor
    · intro z; exact .inl (by omega)
    · rintro (z | ⟨z, _⟩) <;> omega
theorem keyLe_trans {p q r : List Int} (h1 : keyLe p q = true) (h2 : keyLe q r = true) : keyLe p r = true := by
  rw [keyLe_iff] at *
  rcases h1 with h1 | ⟨h1, g1⟩ <;> rcases h2 with h2 | ⟨h2, g2⟩
  · exact .inl (by omega)
  · exact .inl (by omega)
  · exact .inl (by omega)
  · exact .inr ⟨by omega, List.le_trans g1 g2⟩
theorem keyLe_total (p q : List Int) : keyLe p q = true ∨ keyLe q p = true := by
  rw [keyLe_iff, keyLe_iff]
  by_cases h : p.length < q.length
  · exact .inl (.inl h)
  · by_cases h2 : q.length < p.length
    · exact .inr (.inl h2)
    · rcases List.le_total p q with g | g
      · exact .inl (.inr ⟨by omega, g⟩)
      · exact .inr (.inr ⟨by omega, g⟩)
def un (ns : List Int) : List Nat := ns.map Int.toNat
theorem un_zi (c : List Nat) : un (zi c) = c := by
  unfold un zi
  rw [List.map_map]
  conv => rhs; rw [← List.map_id c]
  exact List.map_congr_left fun n _ => by simp
section
variable {K : PySem.W.Frag}
theorem tb_crs {G : Hp} : ∀ (l : List TB), (∀ b ∈ l, ∃ c, b.2 = zi c ∧ Rp K G b.1 (crD c)) → RpAll K G (l.map Prod.fst) ((l.map fun b => un b.2).map crD) ∧ (l.map fun b => un b.2).map zi = l.map Prod.snd
  | [], _ => ⟨.nil, rfl⟩
  | b :: l, h => by
    obtain ⟨h1, h2⟩ := tb_crs l fun b hb => h b (by simp [hb])
    obtain ⟨c, e, r⟩ := h b (by simp)
    rw [List.map_cons, List.map_cons, List.map_cons, List.map_cons, List.map_cons, e, un_zi, h2]
    exact ⟨.cons r h1, rfl⟩
theorem retSort_ok {h : Addr} {G H H2 : Hp} {c' : Addr} {ps' : Array Value} (m : (moH K h).ok G H) (hs : Same G H) (nc : H c' = none) (e2 : H2 = upd (upd H (tbP K) (.tbl ps')) c' (LamX.CodeO c' lamQ)) (t : TriplesOk ps'.toList)
    (ha : ∀ (pos : Pos) (cv : Value), codeAmong pos ps'.toList = some cv → ∃ c, cv = .ref c ∧ (c = c' ∨ G c = some (LamX.CodeO c lamQ))) : OkS (moH K h) G H (upd G c' (LamX.CodeO c' lamQ)) H2 := by
  subst e2
  obtain ⟨⟨ne, gn, ps, hP, _, _⟩, gh0, c, ns, i1, i2, i3, i4, hh, gc, r⟩ := m
  have hPc : tbP K ≠ c' := ne_of_none hP nc
  have hhc : h ≠ c' := ne_of_none hh nc
  have gc' : G c' = none := none_of hs nc
  have sm : Same G (upd G c' (LamX.CodeO c' lamQ)) := same_upd gc'
  refine ⟨⟨sm, fun a o e => ?_, fun a o n e => ?_, fun a e => ?_, fun a o e1 e2 => ?_⟩, ⟨ne, by rw [upd_ne hPc]; exact gn, ps', by rw [upd_ne hPc, upd_same], t, fun pos cv e => ?_⟩, by rw [upd_ne hhc]; exact gh0, c, ns, i1, i2, i3, i4, by rw [upd_ne hhc, upd_ne ne]; exact hh, sm _ _ gc, r⟩
  · by_cases z : a = c'
    · subst z
      rw [upd_same] at e ⊢
      exact e
    · rw [upd_ne z] at e ⊢
      by_cases z2 : a = tbP K
      · subst z2; rw [gn] at e; cases e
      · rw [upd_ne z2]; exact hs _ _ e
  · rw [upd_ne (fun z => by rw [z, nc] at e; cases e), upd_ne (fun z => n (.inr z))]; exact e
  · by_cases z : a = c'
    · subst z; exact nc
    · rw [upd_ne z] at e
      by_cases z2 : a = tbP K
      · subst z2; rw [upd_same] at e; cases e
      · rw [upd_ne z2] at e; exact e
  · by_cases z : a = c'
    · subst z; exact nc
    · rw [upd_ne z, e2] at e1; cases e1
  · obtain ⟨c0, e1, e2⟩ := ha pos cv e
    refine ⟨c0, e1, ?_⟩
    rcases e2 with e2 | e2
    · subst e2; exact upd_same
    · exact sm _ _ e2
theorem x_retSort {h : Addr} {i : Nat} {cs : List (List Nat)} {es : Es} {mu : Mu} {N : Es → Mu → Prop} {Pd : Dt → Prop} (hi : es[i]? = some (some (.lst (cs.map crD)))) (hl : ∀ c ∈ cs, c.length < 1000)
    (q : ∀ L : List (List Nat), L.Perm cs → L.Pairwise (fun a b => keyLe (zi a) (zi b) = true) → Pd (.lst (L.map crD))) : Xs K (moH K h) (tRet (tSortLam K (tbP K) (tCons (tVar i) tNil))) es mu N (RD1 K Pd) := fun B G0 H0 σ H D ⟨G, b, k, m, e, u⟩ hn hr => by
  obtain ⟨v, e1, r1⟩ := e.at_ i _ hi
  cases r1 with
  | lst h1 h2 =>
    rename_i a xs
    obtain ⟨z1, z2⟩ := zip_crs h2
    have m' := m
    obtain ⟨⟨ne, gn, ps, hP, ht, ha⟩, _⟩ := m'
    refine ⟨_, e1, a, xs.zip (cs.map zi), ps, fun c => G c = some (LamX.CodeO c lamQ), rfl, by rw [z1]; exact .inl (.inl (k.gh _ _ h1)), fun b hb => ?_, hP, ht, fun pos cv hc => ?_, fun H2 hH2 p hp => ?_⟩
    · obtain ⟨bv, bi⟩ := b
      obtain ⟨r, hm⟩ := z2 _ hb
      simp only at r hm
      obtain ⟨c, hc, e⟩ := List.mem_map.mp hm
      refine ⟨by show bi.length < 1000; rw [← e, List.length_map]; exact hl c hc, ?_⟩
      show ∃ t, bv = .ref t ∧ SqT K H t (bi.map V.int)
      generalize hd : Dt.tup (bi.map .int) = d at r
      cases r with
      | tup g1 g2 =>
        cases hd
        rename_i t vs
        exact ⟨t, rfl, by rw [rp_ints g2] at g1; exact .inl (.inl (k.gh _ _ g1))⟩
      | _ => cases hd
    · obtain ⟨c, g1, g2⟩ := ha pos cv hc
      exact ⟨c, g1, g2, k.gh _ _ g2⟩
    · have key : ∃ G2, OkS (moH K h) G H G2 H2 := by
        rcases hH2 with rfl | ⟨c', ps', nc, e2, t2, a2⟩
        · exact ⟨G, .refl k.gh m⟩
        · exact ⟨_, retSort_ok m k.gh nc e2 t2 a2⟩
      obtain ⟨G2, k2⟩ := key
      have k3 := k2.trans (OkS.of k2.ok (Ok.new (p := p) (o := .lst (((xs.zip (cs.map zi)).mergeSort leK).map Prod.fst)) k2.gh hp))
      have mem : ∀ b ∈ (xs.zip (cs.map zi)).mergeSort leK, ∃ c, b.2 = zi c ∧ Rp K G b.1 (crD c) := fun b hb => by
        obtain ⟨r, hm⟩ := z2 b ((List.mergeSort_perm _ _).mem_iff.mp hb)
        obtain ⟨c, hc, e⟩ := List.mem_map.mp hm
        refine ⟨c, e.symm, ?_⟩
        rw [← e, ← dn_zi] at r
        exact r
      obtain ⟨y1, y2⟩ := tb_crs _ mem
      have hsnd : (xs.zip (cs.map zi)).map Prod.snd = cs.map zi := by
        have := h2.length
        rw [List.length_map] at this
        rw [List.map_snd_zip]
        rw [List.length_map]; omega
      refine hr _ _ _ (k.trans k3.k) k3.ok ⟨_, q (((xs.zip (cs.map zi)).mergeSort leK).map fun b => un b.2) ?_ ?_, .lst upd_same (RpAll.mono (k2.gg.trans (same_upd (none_of k2.gh hp))) _ y1)⟩
      · have e3 : ((xs.zip (cs.map zi)).mergeSort leK).map (fun b => un b.2) = (((xs.zip (cs.map zi)).mergeSort leK).map Prod.snd).map un := by rw [List.map_map]; rfl
        have e4 : (cs.map zi).map un = cs := by
          rw [List.map_map]
          conv => rhs; rw [← List.map_id cs]
          exact List.map_congr_left fun c _ => un_zi c
        rw [e3]
        have := (((List.mergeSort_perm (xs.zip (cs.map zi)) leK).map Prod.snd).map un)
        rw [hsnd, e4] at this
        exact this
      · have pw := List.pairwise_mergeSort (le := leK) (fun a b c h1 h2 => keyLe_trans h1 h2) (fun a b => by
          rw [Bool.or_eq_true]
          exact keyLe_total _ _) (xs.zip (cs.map zi))
        have : (((xs.zip (cs.map zi)).mergeSort leK).map Prod.snd).Pairwise fun a b => keyLe a b = true := List.pairwise_map.mpr pw
        rw [← y2] at this
        exact List.pairwise_map.mp this
end
end DL
end
section
set_option Elab.async false
set_option linter.all false
set_option maxRecDepth 100000
set_option maxHeartbeats 0
/-! E7: _law_crowds, _law_packed -/
namespace DL
open PySem L2 PyProof.Rows
section
variable {X : Cx}
theorem kSortLam (K : PySem.W.Frag) (hK : X.K = K) {e : Expr} {P : Addr} {l pos : Pos} {x : Str} {ks : List Keyword} {p : Pos} {ta : TA} (h : PE X (.Call (.Name x p) [e] ks pos) (tSortLam X.K P ta)) : PE X (.Call (.Name x p) [e] ks pos) (tSortLam K P ta) := hK ▸ h
end
def subsI : Nat → List (List Nat)
  | 0 => [[]]
  | i + 1 => subsI i ++ (subsI i).map fun c => c ++ [i]
theorem subsI_len : ∀ i, (subsI i).length = 2 ^ i
  | 0 => rfl
  | i + 1 => by
    show (subsI i ++ (subsI i).map fun c => c ++ [i]).length = _
    rw [List.length_append, List.length_map, subsI_len i, Nat.pow_succ]
    omega
theorem subsI_short : ∀ (i : Nat) (c : List Nat), c ∈ subsI i → c.length ≤ i
  | 0, c, h => by
    rw [show subsI 0 = [[]] from rfl, List.mem_singleton] at h
    subst h; exact Nat.le_refl _
  | i + 1, c, h => by
    rcases List.mem_append.mp (show c ∈ subsI i ++ (subsI i).map fun c => c ++ [i] from h) with z | z
    · have := subsI_short i c z; omega
    · obtain ⟨c', hc, rfl⟩ := List.mem_map.mp z
      have := subsI_short i c' hc
      simp; omega
section
variable {P : Program} {w : World} {K : PySem.W.Frag} {mg : Str → Option Value} {base : Heap}
/-- mkM where the def's code object is named -/
theorem mkMC {α : Type} {x qual : Str} {params : Arguments} {body : List Stmt} {scope : Scope} {fd : FuncData} {N ps : List Str} {k : Nat} {Mf : α → Mo} {inp : α → List Dt} {pre : α → Prop} {Pd : α → Dt → Prop}
    (F : FunD K x qual params body scope [] [] (He.ga K x) fd) (S : FnScope N ps scope) (hl : ∀ x, (inp x).length = ps.length)
    (hb : ∀ us : List Value, us.length = ps.length → ∀ (kV doc pm : Value) (an : Option Addr) (cdv ct : Value), bindArgs (PySem.W.fnOf x qual params body scope .none kV doc pm an cdv ct) ⟨us, []⟩ = pure (ps.zip us)) (hm : mg x = some (.ref (He.ga K x)))
    (hbody : ∀ (A : Around) (outer : List Env) (s : Shared) (H : Hp) (E : XK), Room k (A.deeper (PyProof.Rows.envOfC qual scope s.heap.objs.size (He.ga K x) (.ref (He.codeOf K (x, none))))) →
      ∃ t, PSs (cxOf CX0 P w K mg base N qual scope (He.ga K x) (.ref (He.codeOf K (x, none))) A outer s H E).nox body t ∧ ∀ x, pre x → Xs K (Mf x) t ((inp x).map some ++ List.replicate (N.length - (inp x).length) none) [] (fun _ _ => False) (RD1 K (Pd x))) :
    C8.Cal P w K mg base (k + 1) x (spM K Mf inp pre Pd) [] := by
  have b := F.bindsN fun kV doc pm an cdv ct us hu => hb us hu kV doc pm an cdv ct
  have kp := F.kp
  obtain ⟨oc, od, dV, kV, doc, pm, an, cdv, ct, osl, rfl, lk, hcd, _, _⟩ := F.ex
  obtain ⟨c, rfl⟩ : ∃ c, cdv = .ref c := by
    cases cdv <;> first | exact ⟨_, rfl⟩ | exact absurd hcd (by simp [PySem.W.codeIn])
  have hc : He.codeOf K (x, none) = c := He.codeOf_eq (p := (x, none)) lk rfl
  subst hc
  refine ⟨He.ga K x, _, ps, [], fn_of lk hcd S (fun vs H Q E h => ?_) (fun A outer s H vs Q E hr h => ?_), hm, kp, b, .nil⟩
  · obtain ⟨y, G, _, r, _⟩ := h
    rw [r.length, hl]
  · obtain ⟨y, G, hs, r, mo, hp, q⟩ := h
    obtain ⟨t, ht, hx⟩ := hbody A outer s H E hr
    refine ⟨t, ht.nox, hx y hp G G H _ H _ ⟨G, Same.refl _, .of (.refl hs), mo, SlE.start r, List.nodup_nil, fun p hp => by cases hp⟩ (fun es' mu' σ' H' e c => e.elim) fun v G' H' k' m' ⟨d, pd, rv⟩ => q v G' H' d pd ⟨k', m'⟩ rv⟩
theorem sc_law_crowds : FnScope ["_law_people", "_law_found", "_law_person", "_law_crowd"] ["_law_people"] (defScope Hd.s_law_crowds) := ⟨rfl, rfl, rfl, by decide +kernel, rfl, by decide +kernel, by decide +kernel⟩
def sp_law_crowds (K : PySem.W.Frag) : Sp := spM K (fun x : Addr × Nat => moH K x.1) (fun x => [dn x.2]) (fun x => x.2 ≤ 6) (fun x d => ∃ L : List (List Nat), L.Perm (subsI x.2) ∧ L.Pairwise (fun a b => keyLe (zi a) (zi b) = true) ∧ d = .lst (L.map crD))
abbrev TabL (K : PySem.W.Frag) (mg : Str → Option Value) (base : Heap) : Prop := LamX.TabB base mg (He.cT K ("_law_crowds", none)).1 (tbP K)
theorem cal_law_crowds (T : Txt K mg) (TB : TabL K mg base) : C8.Cal P w K mg base 1 "_law_crowds" (sp_law_crowds K) [] := by
  obtain ⟨fd, F⟩ := T.f_law_crowds
  have nd := sc_law_crowds.nd
  refine mkMC F sc_law_crowds (fun _ => rfl) (fun us hl _ _ _ _ _ _ => match us, hl with | [_], _ => rfl) T.m_law_crowds fun A outer s H E hr => ⟨_,
      (pss_cons (ps_set (i := 1) nd rfl (by first | exact Or.inl rfl | exact Or.inr rfl) (pe_lst (pa_cons (pe_tup pa_nil) pa_nil)))
      (pss_cons (ps_for PassesOwn.never rfl (pi_range1 (by rfl) T.range (pa_cons (pv 0) pa_nil)) (pg_name (i := 2) nd rfl (by first | exact Or.inl rfl | exact Or.inr rfl)) (pss_one (ps_set (i := 1) nd rfl (by first | exact Or.inl rfl | exact Or.inr rfl) (pe_op op_cat (pv 1) (pe_lc (own := [("_law_crowd", 3)]) (g := (gName 3)) rfl nd (kList K rfl (pv 1)) (blkOk_by (by show blkC ["_law_people", "_law_found", "_law_person", "_law_crowd"] (defScope Hd.s_law_crowds) _ _ = true; decide +kernel)) (fun _ _ _ _ _ => (pg_name (i := 3) nd rfl (by first | exact Or.inl rfl | exact Or.inr rfl))) (fun _ _ _ _ _ => pts_nil) (fun _ _ _ _ _ => (pe_op (kCatT K) (pv 3) (pe_tup (pa_cons (pv 2) pa_nil)))))))))
      (pss_one (ps_ret (kSortLam K rfl (l := default) (pe_sortLam (pv 1) hr TB rfl rfl (by rfl) T.sorted T.len rfl (by decide) rfl rfl rfl (by decide) rfl rfl rfl (fun _ _ _ _ _ => rfl))))))), ?_⟩
  rintro ⟨h, n⟩ h6
  simp only at h6
  have hlen : ∀ i, i ≤ n → (subsI i).length ≤ 64 := fun i hi => by
    rw [subsI_len]
    exact Nat.le_trans (Nat.pow_le_pow_right (by decide) (by omega : i ≤ 6)) (by decide)
  refine x_seq (x_asg (EvL.d (el_lst (ea_cons (ev_tup ea_nil (by decide)) ea_nil) (by decide))) (x_seq (x_for (is := [2]) (xs := rngD 0 n)
    (fun i es mu => ∃ o2, es = [some (dn n), some (.lst ((subsI i).map crD)), o2, none] ∧ mu = [])
    (wk_is (wk_range1 (n := (n : Int)) (ea_cons (ev_var rfl) ea_nil) (by omega) (by omega)) (by rw [Int.toNat_natCast])) ⟨_, rfl, rfl⟩ ?_ ?_)))
  · rintro i y es mu hy ⟨o2, rfl, rfl⟩
    obtain ⟨hi, rfl⟩ := rngD_at hy
    have h64 := hlen i (by omega)
    refine tg_name (x_asg (d := .lst ((subsI (i + 1)).map crD)) (ev_is (EvL.d (el_cat (ev_var rfl) (EvL.d (el_lc (subsI i) crD (fun _ => true) (fun c => crD (c ++ [i])) (is := [3]) (wk_list (ev_var rfl)) (by simp) (by omega)
      fun c hc => tg_name ⟨et_yes, fun _ => ev_is (ev_op (ev_var rfl) (ev_tup (ea_cons (ev_var rfl) ea_nil) (by simp)) (rd_catT (by have := subsI_short i c hc; rw [List.length_map]; simp; omega))) ?_⟩)) (by rw [filter_yes, List.length_map, List.length_map]; omega))) ?_) ⟨_, rfl, rfl⟩)
    · show Dt.tup (c.map dn ++ [.int (0 + (i : Int))]) = Dt.tup ((c ++ [i]).map dn)
      rw [List.map_append, Int.zero_add]; rfl
    · rw [filter_yes]
      show Dt.lst _ = Dt.lst ((subsI i ++ (subsI i).map fun c => c ++ [i]).map crD)
      rw [List.map_append, List.map_map]; rfl
  · rintro es mu ⟨o2, rfl, rfl⟩
    rw [rngD_len]
    exact x_retSort rfl (fun c hc => by have := subsI_short n c hc; omega) fun L h1 h2 => ⟨L, h1, h2, rfl⟩
end
end DL
end
section
set_option Elab.async false
set_option linter.all false
set_option maxRecDepth 100000
set_option maxHeartbeats 0
/-! E8: _law_packed -/
namespace DL
open PySem L2 PyProof.Rows
section
variable {K : PySem.W.Frag} {M : Mo} {es : Es}
/-- a comprehension over what a call that changes the state hands back -/
theorem eml_lcM {α : Type} (Py : List α → Prop) (enc : α → Dt) (b : α → Bool) (f : α → Dt) {wi : TI} {g : TG} {tt : TT} {te : TE} {vs is : List Nat} (hw : WkM K M wi es (fun xs => ∃ ys, Py ys ∧ xs = ys.map enc)) (hi : ∀ i ∈ is, i ∈ vs) (hz : ∀ ys, Py ys → ys.length ≤ 100000)
    (ht : ∀ ys, Py ys → ∀ y ∈ ys, TgD K g is (enc y) (wipeE es vs) fun es' => EvT K tt es' (b y) ∧ (b y = true → EvD K te es' (f y))) : EvML K M (tLc wi g tt te vs) es fun ds => ∃ ys, Py ys ∧ ds = (ys.filter b).map f := fun σ G H he hs m0 Q q => by
  refine hw σ G H he hs m0 _ fun J G1 H1 xs ⟨ys, py, exs⟩ k1 wj D hD => ?_
  subst exs
  have hz := hz ys py
  have ht := ht ys py
  refine ⟨fun i m Hc => m = ys.length - i ∧ i ≤ ys.length ∧ ∃ Gc xs, Ok G1 H1 Gc Hc ∧ Gc D = none ∧ Hc D = some (.lst xs) ∧ RpAll K Gc xs (((ys.take i).filter b).map f),
    ⟨_, rfl, Nat.zero_le _, G1, [], Ok.more k1.gh (same_upd hD), none_of k1.gh hD, upd_same, .nil⟩, ?_⟩
  rintro i m Hc ⟨rfl, hile, Gc, xs, kc, gD, hDx, rx⟩
  have w := wj Hc (kc.gg.trans kc.gh)
  rw [List.length_map] at w
  by_cases hlt : i < ys.length
  · refine .inr ⟨w.1 i hlt, fun H' => i + 1 ≤ ys.length ∧ ∃ Gc xs, Ok G1 H1 Gc H' ∧ Gc D = none ∧ H' D = some (.lst xs) ∧ RpAll K Gc xs (((ys.take (i + 1)).filter b).map f), fun H' z => ⟨ys.length - (i + 1), by omega, rfl, z.1, z.2⟩, fun v H' hy => ?_⟩
    have hyi : ys[i]? = some ys[i] := List.getElem?_eq_getElem hlt
    obtain ⟨Gd, kd, rv⟩ := w.2.2 i v H' (enc ys[i]) (by rw [List.getElem?_map, hyi]; rfl) hy Gc kc.gg kc.gh
    have gdD : Gd D = none := by
      cases e : Gd D with
      | none => rfl
      | some o =>
        have := kd.fr D o e gD
        rw [hDx] at this; cases this
    have hDx' := kd.hh _ _ hDx
    refine ht ys[i] (List.getElem_mem hlt) v (L2.wipe σ vs) Gd H' (((he.mono k1.gg).mono kc.gg).mono kd.gg |>.wipe vs) kd.gh rv _ fun σ2 es2 ⟨h1, h2⟩ e2 o2 => ⟨wipe_eq o2 hi, ?_⟩
    refine h1 σ2 Gd H' e2 kd.gh _ fun H3 s3 => ?_
    have etk : ys.take (i + 1) = ys.take i ++ [ys[i]] := by rw [List.take_add_one, hyi]; rfl
    cases hb : b ys[i] with
    | false =>
      refine ⟨hlt, Gd, xs, kc.trans (kd.trans (Ok.more kd.gh s3)), gdD, s3 _ _ hDx', ?_⟩
      rw [etk, List.filter_append]
      have : [ys[i]].filter b = [] := by simp [hb]
      rw [this, List.append_nil]
      exact RpAll.mono kd.gg _ rx
    | true =>
      refine h2 hb σ2 Gd H3 e2 (kd.gh.trans s3) _ fun u G4 H4 k4 r4 => ⟨xs, k4.hh _ _ (s3 _ _ hDx'), ?_, ?_⟩
      · have l1 := rx.length
        have l2 : (((ys.take i).filter b).map f).length ≤ i := by
          rw [List.length_map]
          exact Nat.le_trans (List.length_filter_le _ _) (by rw [List.length_take]; omega)
        exact small' (by omega)
      · have g4D : G4 D = none := by
          cases e : G4 D with
          | none => rfl
          | some o =>
            have := k4.fr D o e gdD
            rw [s3 _ _ hDx'] at this; cases this
        have kk : Ok G1 H1 G4 H4 := kc.trans (kd.trans ((Ok.more kd.gh s3).trans k4))
        refine ⟨hlt, G4, xs ++ [u], ⟨kk.gg, fun a o e => ?_, fun a o e => ?_, kk.fr⟩, g4D, upd_same, ?_⟩
        · rw [upd_ne (fun z => by rw [z, g4D] at e; cases e)]; exact kk.gh _ _ e
        · rw [upd_ne (fun z => by rw [z, hD] at e; cases e)]; exact kk.hh _ _ e
        · rw [etk, List.filter_append]
          have : [ys[i]].filter b = [ys[i]] := by simp [hb]
          rw [this, List.map_append]
          exact RpAll.snoc (RpAll.mono (kd.gg.trans k4.gg) _ rx) r4
  · have e : i = ys.length := by omega
    subst e
    refine .inl ⟨w.2.1, ?_⟩
    rw [List.take_length] at rx
    have s2 := OkS.of k1.ok kc
    refine q D xs Gc Hc _ ⟨ys, py, rfl⟩ (k1.trans s2) (k1.k.nn _ hD) gD (fun n => M.there k1.ok n hD) hDx rx
theorem wm_listM {te : TE} {P : List Dt → Prop} (h : EvM K M te es (fun d => ∃ xs, P xs ∧ d = .lst xs)) : WkM K M (iList K te) es P := fun σ G H he hs m R q => h σ G H he hs m _ fun v G1 H1 d ⟨xs, px, e⟩ k1 r1 => by
  subst e
  cases r1 with
  | lst h1 h2 => exact ⟨_, rfl, ⟨_, .inl (.inl (k1.gh _ _ h1))⟩, q _ G1 H1 xs px k1 (wkj_list (.inl (.inl h1)) h2)⟩
end
theorem subs6 : ∀ c ∈ subsI 6, c.Pairwise (· < ·) ∧ ∀ p ∈ c, p < 6 := by decide +kernel
theorem subs6_nd : (subsI 6).Nodup := by decide +kernel
theorem packed_ok {L ls : List (List Nat)} {s : Nat} (hp : L.Perm (subsI 6)) (pw : L.Pairwise fun a b => keyLe (zi a) (zi b) = true) (hs : s = 2 ∨ s = 3) (sub : ls.Sublist (L.filter fun c => decide (c.length = s))) : BookOk 6 ls := by
  have mem : ∀ c ∈ ls, c ∈ subsI 6 ∧ c.length = s := fun c hc => by
    obtain ⟨h1, h2⟩ := List.mem_filter.mp (sub.subset hc)
    exact ⟨hp.mem_iff.mp h1, of_decide_eq_true h2⟩
  have cr : ∀ c ∈ ls, CrOk 6 c := fun c hc => ⟨(subs6 c (mem c hc).1).1, (subs6 c (mem c hc).1).2⟩
  have hlen : (L.filter fun c => decide (c.length = s)).length ≤ 60 := by
    rw [(hp.filter _).length_eq]
    rcases hs with rfl | rfl <;> decide +kernel
  refine bookOk_of (by decide) (by decide) (Nat.le_trans sub.length_le hlen) cr (fun l hl => by have := (mem l hl).2; omega) ?_ ?_ fun a ha b hb h => ?_
  · exact (((hp.filter _).nodup_iff.mpr (subs6_nd.filter _))).sublist sub
  · refine List.Pairwise.imp_of_mem ?_ ((pw.filter _).sublist sub)
    intro a b ha hb h
    have := keyLe_iff.mp h
    rw [List.length_map, List.length_map, (mem a ha).2, (mem b hb).2] at this
    rcases this with z | z
    · omega
    · exact z.2
  · exact crs_sub (cr a ha) (cr b hb) h (by rw [(mem a ha).2, (mem b hb).2]; exact Nat.le_refl _)
section
variable {P : Program} {w : World} {K : PySem.W.Frag} {mg : Str → Option Value} {base : Heap}
theorem sc_law_packed : FnScope ["_law_hand_here", "_law_size", "_law_found", "_law_crowd", "_law_turn"] ["_law_hand_here"] (defScope Hd.s_law_packed) := ⟨rfl, rfl, rfl, by decide +kernel, rfl, by decide +kernel, by decide +kernel⟩
def sp_law_packed (K : PySem.W.Frag) : Sp := spM K (fun h : Addr => moH K h) (fun h => [.adr h]) (fun _ => True) (fun _ d => ∃ lots, BookOk 6 lots ∧ d = lotsD lots)
theorem cal_law_packed (T : Txt K mg) (TB : TabL K mg base) : C8.Cal P w K mg base 2 "_law_packed" (sp_law_packed K) [] := by
  have c_law_draw := cal_law_draw (P := P) (w := w) (base := base) T
  have c_law_crowds := cal_law_crowds (P := P) (w := w) (base := base) T TB
  obtain ⟨fd, F⟩ := T.f_law_packed
  have nd := sc_law_packed.nd
  refine mkM F sc_law_packed (fun _ => rfl) (fun us hl _ _ _ _ _ _ => match us, hl with | [_], _ => rfl) T.m_law_packed fun cdv A outer s H E hr => ⟨_,
      (pss_cons (ps_set (i := 1) nd rfl (by first | exact Or.inl rfl | exact Or.inr rfl) (pe_op op_add pe_int (C8.pe_c c_law_draw hr (by decide) (by rfl) (pa_cons (pv 0) (pa_cons pe_int pa_nil)))))
      (pss_cons (ps_setLc (i := 2) (own := [("_law_crowd", 3)]) (g := (gName 3)) rfl nd rfl rfl (sw_true rfl rfl rfl (by decide +kernel)) (kList K rfl (C8.pe_c c_law_crowds hr (by decide) (by rfl) (pa_cons pe_int pa_nil))) (blkOk_by (by show blkC ["_law_hand_here", "_law_size", "_law_found", "_law_crowd", "_law_turn"] (defScope Hd.s_law_packed) _ _ = true; decide +kernel)) (fun _ _ _ _ _ => (pg_name (i := 3) nd rfl (by first | exact Or.inl rfl | exact Or.inr rfl))) (fun _ _ _ _ _ => (pts_one (pt_cmpR op_eq (pe_callB (kLen K) (by rfl) T.len (by decide +kernel) (pa_cons (pv 3) pa_nil)) (pv 1) (nomark _)))) (fun _ _ _ _ _ => (pv 3)))
      (pss_cons (ps_for PassesOwn.never rfl (pi_range1 (by rfl) T.range (pa_cons (C8.pe_c c_law_draw hr (by decide) (by rfl) (pa_cons (pv 0) (pa_cons pe_int pa_nil))) pa_nil)) (pg_name (i := 4) nd rfl (by first | exact Or.inl rfl | exact Or.inr rfl)) (pss_one (ps_expr (kM K rfl (pe_bm PySem.F.plainAttrs_list PySem.F.slot_list_pop PySem.F.type_list_pop mt_popAt (pv 2) (pa_cons (C8.pe_c c_law_draw hr (by decide) (by rfl) (pa_cons (pv 0) (pa_cons (pe_callB (kLen K) (by rfl) T.len (by decide +kernel) (pa_cons (pv 2) pa_nil)) pa_nil))) pa_nil))))))
      (pss_one (ps_ret (pe_callTy (kTup K) (by rfl) T.tuple (by decide +kernel) (pa_cons (pv 2) pa_nil))))))), ?_⟩
  rintro h _
  refine x_seq (x_asgM (P := fun d => ∃ s : Nat, (s = 2 ∨ s = 3) ∧ d = dn s) (em_opR ev_int (em_draw (m := 2) rfl ev_int (by omega) (by omega)) fun d ⟨v, hv, e⟩ => ⟨dn (2 + v), ⟨2 + v, by omega, rfl⟩, by rw [e]; exact rd_i0 (f := fun i j => i + j) (i := 2) (j := (v : Int))⟩) ?_)
  rintro d ⟨s, hs, rfl⟩
  refine x_seq (x_newM (eml_lcM (fun L : List (List Nat) => L.Perm (subsI 6) ∧ L.Pairwise (fun a b => keyLe (zi a) (zi b) = true)) crD (fun c => decide (c.length = s)) crD (is := [3]) (wm_listM (em_imp (em_call (Pz := fun d => ∃ L : List (List Nat), L.Perm (subsI 6) ∧ L.Pairwise (fun a b => keyLe (zi a) (zi b) = true) ∧ d = .lst (L.map crD)) (ema_of (ea_cons (ev_int (i := 6)) ea_nil)) fun ds e => ⟨(h, 6), rfl, e, Nat.le_refl 6, fun d hd => hd⟩) fun d ⟨L, h1, h2, h3⟩ => ⟨_, ⟨L, ⟨h1, h2⟩, rfl⟩, h3⟩)) (by simp)
    (fun L ⟨h1, _⟩ => by rw [h1.length_eq, subsI_len]; decide) fun L ⟨h1, _⟩ c hc => tg_name ⟨et_test (ev_is (ev_op (ev_cb (ea_cons (ev_var rfl) ea_nil) rc_lenT) (ev_var rfl) rd_eqI) (by rw [List.length_map]; congr 1; by_cases z : c.length = s <;> simp [z] <;> omega)), fun _ => ev_var rfl⟩) ?_)
  rintro l ds ⟨L, ⟨hp, pw⟩, rfl⟩
  have hlen : 15 ≤ (L.filter fun c => decide (c.length = s)).length ∧ (L.filter fun c => decide (c.length = s)).length ≤ 60 := by
    rw [(hp.filter _).length_eq]
    rcases hs with rfl | rfl <;> decide +kernel
  refine x_seq (x_forM (is := [4]) (P := fun xs => ∃ k, k < 7 ∧ xs = rngD 0 k)
    (fun xs i es mu => ∃ (ls : List (List Nat)) (o4 : Option Dt), es = [some (.adr h), some (dn s), some (.adr l), none, o4] ∧ mu = [(l, ls.map crD)] ∧ ls.Sublist (L.filter fun c => decide (c.length = s)) ∧ 15 ≤ ls.length + i)
    (wm_range1 (P := fun k => k < 7) (ema_imp (ema_cons (em_draw (m := 7) rfl ev_int (by omega) (by omega)) fun _ _ => ema_nil) fun l ⟨d, ds, ⟨k, hk, e1⟩, e2, e3⟩ => ⟨k, hk, by rw [e3, e1, e2]⟩) fun k hk => by omega)
    (fun xs _ => ⟨_, _, rfl, rfl, List.Sublist.refl _, by omega⟩) ?_ ?_)
  · rintro i xs y es mu ⟨k, hk, rfl⟩ hy ⟨ls, o4, rfl, rfl, sub, hl⟩
    have hi := (rngD_at hy).1
    have := sub.length_le
    refine tg_name (x_popDraw (h := h) (f := l) rfl rfl rfl (by rw [List.length_map]; omega) (by rw [List.length_map]; omega) fun n => ⟨ls.eraseIdx n, _, rfl, by rw [map_erase], (List.eraseIdx_sublist ls n).trans sub, ?_⟩)
    rw [List.length_eraseIdx]
    split <;> omega
  · rintro xs es mu ⟨k, hk, rfl⟩ ⟨ls, o4, rfl, rfl, sub, hl⟩
    exact x_thaw (x_ret (ev_cb (ea_cons (ev_var (thaw_at rfl)) ea_nil) rc_tupL) ⟨ls, packed_ok hp pw hs sub, rfl⟩)
end
end DL
end
section
set_option Elab.async false
set_option linter.all false
set_option maxRecDepth 100000
set_option maxHeartbeats 0
/-! M3: what surely_ahead says, by the orders that fit (plain) -/
namespace DL
open PySem
theorem placed_one (n a : Nat) (C : LM.CanT) : LM.Placed C n (fun q => decide (q = a)) (placeBy n C (2 ^ a)) := by
  have := placeBy_ok n C (2 ^ a)
  have e : (fun q => (2 ^ a).testBit q) = fun q => decide (q = a) := by
    funext q
    rw [Nat.testBit_two_pow]
    by_cases h : a = q
    · subst h; simp
    · simp [h, Ne.symm h]
  rw [e] at this
  exact this
theorem placed_all (n : Nat) (C : LM.CanT) : LM.Placed C n (fun _ => false) (placeBy n C 0) := by
  have := placeBy_ok n C 0
  have e : (fun q => (0 : Nat).testBit q) = fun _ => false := by funext q; simp
  rw [e] at this
  exact this
theorem mem_pairsOf {n : Nat} {C : LM.CanT} {a b : Nat} : (a, b) ∈ pairsOf n C ↔ a < n ∧ b < n ∧ b ∉ placeBy n C (2 ^ a) ∧ b ≠ a := by
  unfold pairsOf behind
  simp only [List.mem_flatMap, List.mem_range, List.mem_map, List.mem_filter, Prod.mk.injEq, Bool.and_eq_true, Bool.not_eq_true', decide_eq_false_iff_not]
  constructor
  · rintro ⟨a', h1, b', ⟨h2, h3, h4⟩, rfl, rfl⟩
    exact ⟨h1, h2, h3, h4⟩
  · rintro ⟨h1, h2, h3, h4⟩
    exact ⟨a, h1, b, ⟨h2, h3, h4⟩, rfl, rfl⟩
theorem BookOk.lotsOk {n : Nat} {lots : LM.Lots} (B : BookOk n lots) : LM.LotsOk n lots := ⟨fun l h => (B.cr l h).inc.imp fun h => Nat.ne_of_lt h, B.two, fun l h => (B.cr l h).lt⟩
theorem fit_of {n : Nat} {lots : LM.Lots} {S : LM.Sgt} (B : BookOk n lots) (hS : LM.SgtOk n lots S) (c1 : ∀ cs ∈ S, CrOk n cs.1) (hl : S.length ≤ 20) (full : ∀ o, LM.Placed (canTT lots S) n (fun _ => false) o → LM.IsOrder n o) : Fit n lots S := by
  have c2 : ∀ cs ∈ S, CrOk n cs.2 := fun cs h => ⟨hS.inc cs h, fun p hp => (c1 cs h).lt p (hS.sub cs h p hp)⟩
  refine ⟨B.n12, B.len, ⟨hl, c1, c2, hS.sub⟩, fun cs hcs lot hlot => ?_, (full _ (placed_all n _)).len⟩
  cases e : LM.holds (LM.bitsOf cs.2) (LM.bitsOf lot) with
  | false => rfl
  | true =>
    refine absurd (fun q hq => ?_) (hS.no cs hcs lot hlot)
    have := LM.holds_iff.mp e q
    rw [LM.tb_bitsOf ((B.cr lot hlot).inc.imp fun h => Nat.ne_of_lt h), LM.tb_bitsOf (hS.nd cs hcs)] at this
    simpa using this (by simpa using hq)
theorem fit_valid {n : Nat} {lots : LM.Lots} {S : LM.Sgt} (B : BookOk n lots) (hS : LM.SgtOk n lots S) (c1 : ∀ cs ∈ S, CrOk n cs.1) (hl : S.length ≤ 20) {L0 : List Nat} (h0 : LM.IsOrder n L0) (v0 : LM.Valid (canTT lots S) L0) : Fit n lots S :=
  fit_of B hS c1 hl fun o P => P.full (LM.canT_mono _ _) h0 v0
theorem sgtOk_sub {n : Nat} {lots : LM.Lots} {S S' : LM.Sgt} (hS : LM.SgtOk n lots S) (h : ∀ cs ∈ S', cs ∈ S) : LM.SgtOk n lots S' := ⟨fun cs hc => hS.sub cs (h cs hc), fun cs hc => hS.inc cs (h cs hc), fun cs hc => hS.lt cs (h cs hc), fun cs hc => hS.no cs (h cs hc)⟩
theorem fits_sub {n : Nat} {lots : LM.Lots} {S S' : LM.Sgt} (h : ∀ cs ∈ S', cs ∈ S) {L : List Nat} (f : LM.fits n lots S L = true) : LM.fits n lots S' L = true := by
  unfold LM.fits at *
  rw [List.all_eq_true] at *
  exact fun cs hc => f cs (h cs hc)
theorem flat_congr {α β : Type} {f g : α → List β} : ∀ {l : List α}, (∀ a ∈ l, f a = g a) → l.flatMap f = l.flatMap g
  | [], _ => rfl
  | a :: l, h => by rw [List.flatMap_cons, List.flatMap_cons, h a (by simp), flat_congr fun b hb => h b (by simp [hb])]
/-- the law's own list of the pairs -/
def duePairs (n : Nat) (good : List (List Nat)) : List (Nat × Nat) := (List.range n).flatMap fun a => ((List.range n).filter fun b => !decide (a = b) && good.all fun L => decide (L.idxOf a < L.idxOf b)).map fun b => (a, b)
section
variable {n : Nat} {lots : LM.Lots} {S : LM.Sgt} {L0 : List Nat} (B : BookOk n lots) (hS : LM.SgtOk n lots S) (h0 : LM.IsOrder n L0) (f0 : LM.fits n lots S L0 = true)
include B hS h0 f0
theorem due_eq : duePairs n ((listsOf n).filter fun L => LM.fits n lots S L) = pairsOf n (canTT lots S) := by
  unfold duePairs pairsOf behind
  refine flat_congr fun a ha => ?_
  rw [List.mem_range] at ha
  refine congrArg (List.map fun b => (a, b)) (List.filter_congr fun b hb => ?_)
  rw [List.mem_range] at hb
  by_cases hba : b = a
  · subst hba; simp
  · have := LM.pairs_iff B.lotsOk hS h0 f0 (placed_one n a _) ha hb hba
    have e : (((listsOf n).filter fun L => LM.fits n lots S L).all fun L => decide (L.idxOf a < L.idxOf b)) = !decide (b ∈ placeBy n (canTT lots S) (2 ^ a)) := by
      rw [Bool.eq_iff_iff, List.all_eq_true, Bool.not_eq_true', decide_eq_false_iff_not]
      refine Iff.trans ?_ this.symm
      constructor
      · intro h L hL hf
        have g3 : L.idxOf a < L.idxOf b := of_decide_eq_true (h L (List.mem_filter.mpr ⟨mem_listsOf.mpr hL, hf⟩))
        exact g3
      · intro h L hL
        obtain ⟨g1, g2⟩ := List.mem_filter.mp hL
        have g3 : L.idxOf a < L.idxOf b := h L (mem_listsOf.mp g1) g2
        exact decide_eq_true g3
    rw [e]
    simp [hba, Ne.symm hba]
theorem pairs_sub {S' : LM.Sgt} (h : ∀ cs ∈ S', cs ∈ S) : ∀ x ∈ pairsOf n (canTT lots S'), x ∈ pairsOf n (canTT lots S) := by
  rintro ⟨a, b⟩ hx
  obtain ⟨ha, hb, hn, hba⟩ := mem_pairsOf.mp hx
  refine mem_pairsOf.mpr ⟨ha, hb, ?_, hba⟩
  refine (LM.pairs_iff B.lotsOk hS h0 f0 (placed_one n a _) ha hb hba).mpr fun L hL hf => ?_
  exact (LM.pairs_iff B.lotsOk (sgtOk_sub hS h) h0 (fits_sub h f0) (placed_one n a _) ha hb hba).mp hn L hL (fits_sub h hf)
end
/-! #### a chain -/
section
variable {n : Nat} {names : List Nat} {fl : LM.Fl} (hn : LM.IsOrder n names) (hf : fl.length + 1 = n) (h12 : n ≤ 12)
include hn hf h12
theorem ch_fit : Fit n (chLots names n) (chS names fl fl.length) := by
  have C := ch_chain hn hf
  have h1 : 1 ≤ n := by omega
  refine fit_of (chLots_ok hn h1 h12) C.sgtOk (fun cs hcs => ?_) ?_ fun o P => C.full P
  · obtain ⟨i, p, q, b, g1, g2, g3, rfl⟩ := (C.sgt cs).mp hcs
    exact ch_cr hn g1 g2
  · unfold chS
    exact Nat.le_trans (List.length_filterMap_le ..) (by rw [List.length_range]; omega)
end
def runB (fl : LM.Fl) (b : Bool) (i j : Nat) : Bool := ((fl.drop i).take (j - i)).all fun f => decide (f = some b)
theorem runB_iff {fl : LM.Fl} {b : Bool} {i j : Nat} (h : j ≤ fl.length) : runB fl b i j = true ↔ LM.Run fl b i j := by
  unfold runB LM.Run
  rw [List.all_eq_true]
  constructor
  · intro g k hk hk2
    have : fl[k]? = some (fl[k]'(by omega)) := List.getElem?_eq_getElem (by omega)
    rw [this]
    have hm : fl[k]'(by omega) ∈ (fl.drop i).take (j - i) := by
      refine List.mem_iff_getElem.mpr ⟨k - i, by rw [List.length_take, List.length_drop]; omega, ?_⟩
      rw [List.getElem_take, List.getElem_drop]
      congr 1
      omega
    exact congrArg some (of_decide_eq_true (g _ hm))
  · intro g x hx
    obtain ⟨k, hk, rfl⟩ := List.mem_iff_getElem.mp hx
    rw [List.length_take, List.length_drop] at hk
    rw [List.getElem_take, List.getElem_drop]
    have := g (i + k) (by omega) (by omega)
    rw [List.getElem?_eq_getElem (by omega)] at this
    exact decide_eq_true (Option.some.inj this)
def dueAt (names : List Nat) (fl : LM.Fl) (i j : Nat) : List (Nat × Nat) := (if runB fl true i j = true then [(names.getD i 0, names.getD j 0)] else []) ++ (if runB fl false i j = true then [(names.getD j 0, names.getD i 0)] else [])
def dueRow (names : List Nat) (fl : LM.Fl) (n i : Nat) : List (Nat × Nat) := (List.range (n - (i + 1))).flatMap fun k => dueAt names fl i (i + 1 + k)
def dueG (names : List Nat) (fl : LM.Fl) (n : Nat) : List (Nat × Nat) := (List.range n).flatMap (dueRow names fl n)
section
variable {n : Nat} {names : List Nat} {fl : LM.Fl} (hn : LM.IsOrder n names) (hf : fl.length + 1 = n)
include hn hf
theorem mem_dueG {a b : Nat} : (a, b) ∈ dueG names fl n ↔ LM.Seg names fl a b := by
  have hl := hn.len
  unfold dueG dueRow dueAt
  simp only [List.mem_flatMap, List.mem_range, List.mem_append]
  constructor
  · rintro ⟨i, hi, k, hk, h | h⟩
    · split at h
      · rename_i r
        rw [List.mem_singleton, Prod.mk.injEq] at h
        obtain ⟨rfl, rfl⟩ := h
        exact ⟨i, i + 1 + k, by omega, .inl ⟨getD_at (by omega), getD_at (by omega), (runB_iff (by omega)).mp r⟩⟩
      · cases h
    · split at h
      · rename_i r
        rw [List.mem_singleton, Prod.mk.injEq] at h
        obtain ⟨rfl, rfl⟩ := h
        exact ⟨i, i + 1 + k, by omega, .inr ⟨getD_at (by omega), getD_at (by omega), (runB_iff (by omega)).mp r⟩⟩
      · cases h
  · rintro ⟨i, j, hij, ⟨h1, h2, r⟩ | ⟨h1, h2, r⟩⟩
    · have := (List.getElem?_eq_some_iff.mp h2).1
      refine ⟨i, by omega, j - (i + 1), by omega, .inl ?_⟩
      rw [show i + 1 + (j - (i + 1)) = j by omega, if_pos ((runB_iff (by omega)).mpr r), getD_of h1, getD_of h2]
      simp
    · have := (List.getElem?_eq_some_iff.mp h2).1
      refine ⟨i, by omega, j - (i + 1), by omega, .inr ?_⟩
      rw [show i + 1 + (j - (i + 1)) = j by omega, if_pos ((runB_iff (by omega)).mpr r), getD_of h1, getD_of h2]
      simp
end
end DL
end
section
set_option Elab.async false
set_option linter.all false
set_option maxRecDepth 100000
set_option maxHeartbeats 0
/-! M4: a chain's pairs, sorted; its words (plain) -/
namespace DL
open PySem
def pl (x : Nat × Nat) : List Nat := [x.1, x.2]
theorem pl_inj {x y : Nat × Nat} (h : pl x = pl y) : x = y := by
  unfold pl at h
  simp only [List.cons.injEq, and_true] at h
  exact Prod.ext h.1 h.2
theorem pairsOf_le (n : Nat) (C : LM.CanT) : ((pairsOf n C).map pl).Pairwise fun a b => zi a ≤ zi b := by
  refine List.pairwise_map.mpr ?_
  have : (pairsOf n C).Pairwise fun x y => x.1 < y.1 ∨ (x.1 = y.1 ∧ x.2 < y.2) := by
    unfold pairsOf
    refine List.pairwise_flatMap.mpr ⟨fun a _ => ?_, ?_⟩
    · refine List.pairwise_map.mpr ?_
      unfold behind
      exact (List.pairwise_lt_range.filter _).imp fun h => .inr ⟨rfl, h⟩
    · refine List.pairwise_lt_range.imp fun h x hx y hy => .inl ?_
      obtain ⟨_, _, rfl⟩ := List.mem_map.mp hx
      obtain ⟨_, _, rfl⟩ := List.mem_map.mp hy
      exact h
  refine this.imp fun {x y} h => ?_
  show [((x.1 : Nat) : Int), ((x.2 : Nat) : Int)] ≤ [((y.1 : Nat) : Int), ((y.2 : Nat) : Int)]
  refine List.not_lt.mp fun z => ?_
  simp only [List.cons_lt_cons_iff, List.not_lt_nil, or_false, and_false] at z
  omega
theorem pairsOf_nd (n : Nat) (C : LM.CanT) : (pairsOf n C).Nodup := by
  unfold pairsOf
  refine List.pairwise_flatMap.mpr ⟨fun a _ => ?_, ?_⟩
  · refine List.pairwise_map.mpr ?_
    unfold behind
    exact (List.pairwise_lt_range.filter _).imp fun h e => by
      have := (Prod.mk.inj e).2
      omega
  · refine List.pairwise_lt_range.imp fun h x hx y hy e => ?_
    obtain ⟨_, _, rfl⟩ := List.mem_map.mp hx
    obtain ⟨_, _, rfl⟩ := List.mem_map.mp hy
    have := (Prod.mk.inj e).1
    omega
theorem pairsOf_len (n : Nat) (C : LM.CanT) : (pairsOf n C).length ≤ n * n := by
  unfold pairsOf
  have := flat_len (fun a => (behind n C a).map fun b => (a, b)) n (fun a => by
    rw [List.length_map]
    unfold behind
    exact Nat.le_trans (List.length_filter_le ..) (by rw [List.length_range]; exact Nat.le_refl _)) (List.range n)
  rw [List.length_range] at this
  exact this
section
variable {n : Nat} {names : List Nat} {fl : LM.Fl} (hn : LM.IsOrder n names) (hf : fl.length + 1 = n) (h12 : n ≤ 12)
include hn hf
theorem ch_pairs {a b : Nat} : (a, b) ∈ pairsOf n (canTT (chLots names n) (chS names fl fl.length)) ↔ LM.Seg names fl a b := by
  have C := ch_chain hn hf
  rw [mem_pairsOf]
  constructor
  · rintro ⟨ha, hb, h, hba⟩
    exact (C.pairs (placed_one n a _) hb hba).mp h
  · intro h
    have h' := h
    obtain ⟨i, j, hij, ⟨h1, h2, r⟩ | ⟨h1, h2, r⟩⟩ := h'
    · have ha := (hn.mem a).mp (List.mem_of_getElem? h1)
      have hb := (hn.mem b).mp (List.mem_of_getElem? h2)
      have hba : b ≠ a := fun e => by
        subst e
        have := LM.nd_at hn.nd h1 h2
        omega
      exact ⟨ha, hb, (C.pairs (placed_one n a _) hb hba).mpr h, hba⟩
    · have hb := (hn.mem b).mp (List.mem_of_getElem? h1)
      have ha := (hn.mem a).mp (List.mem_of_getElem? h2)
      have hba : b ≠ a := fun e => by
        subst e
        have := LM.nd_at hn.nd h1 h2
        omega
      exact ⟨ha, hb, (C.pairs (placed_one n a _) hb hba).mpr h, hba⟩
theorem dueAt_ix {i j : Nat} (hj : j < n) (hi : i < j) {x : Nat × Nat} (h : x ∈ dueAt names fl i j) : (names[i]? = some x.1 ∧ names[j]? = some x.2) ∨ (names[i]? = some x.2 ∧ names[j]? = some x.1) := by
  have hl := hn.len
  unfold dueAt at h
  rcases List.mem_append.mp h with h | h <;> split at h
  · rw [List.mem_singleton] at h
    subst h
    exact .inl ⟨getD_at (by omega), getD_at (by omega)⟩
  · cases h
  · rw [List.mem_singleton] at h
    subst h
    exact .inr ⟨getD_at (by omega), getD_at (by omega)⟩
  · cases h
theorem dueAt_nd {i j : Nat} (hj : j < n) (hi : i < j) : (dueAt names fl i j).Nodup := by
  unfold dueAt
  by_cases h1 : runB fl true i j = true
  · have h2 : ¬ runB fl false i j = true := fun h2 => by
      have e1 := (runB_iff (by omega)).mp h1 i (Nat.le_refl _) hi
      have e2 := (runB_iff (by omega)).mp h2 i (Nat.le_refl _) hi
      rw [e1] at e2
      cases e2
    rw [if_pos h1, if_neg h2]
    simp
  · rw [if_neg h1]
    split <;> simp
theorem dueG_nd : (dueG names fl n).Nodup := by
  have same : ∀ {i j i' j' : Nat} {x : Nat × Nat}, i < j → j < n → i' < j' → j' < n → x ∈ dueAt names fl i j → x ∈ dueAt names fl i' j' → i = i' ∧ j = j' := by
    intro i j i' j' x h1 h2 h3 h4 m1 m2
    rcases dueAt_ix hn hf h2 h1 m1 with ⟨a1, a2⟩ | ⟨a1, a2⟩ <;> rcases dueAt_ix hn hf h4 h3 m2 with ⟨b1, b2⟩ | ⟨b1, b2⟩
    · exact ⟨LM.nd_at hn.nd a1 b1, LM.nd_at hn.nd a2 b2⟩
    · have := LM.nd_at hn.nd a1 b2
      have := LM.nd_at hn.nd a2 b1
      omega
    · have := LM.nd_at hn.nd a1 b2
      have := LM.nd_at hn.nd a2 b1
      omega
    · exact ⟨LM.nd_at hn.nd a1 b1, LM.nd_at hn.nd a2 b2⟩
  unfold dueG
  refine List.pairwise_flatMap.mpr ⟨fun i hi => ?_, ?_⟩
  · rw [List.mem_range] at hi
    unfold dueRow
    refine List.pairwise_flatMap.mpr ⟨fun k hk => ?_, ?_⟩
    · rw [List.mem_range] at hk
      exact dueAt_nd hn hf (by omega) (by omega)
    · refine List.Pairwise.imp_of_mem ?_ (List.pairwise_lt_range (n := n - (i + 1)))
      intro k k' hk hk' h x hx y hy e
      rw [List.mem_range] at hk hk'
      subst e
      have := (same (by omega) (by omega) (by omega) (by omega) hx hy).2
      omega
  · refine List.Pairwise.imp_of_mem ?_ (List.pairwise_lt_range (n := n))
    intro i i' hi hi' h x hx y hy e
    rw [List.mem_range] at hi hi'
    subst e
    unfold dueRow at hx hy
    obtain ⟨k, hk, hx⟩ := List.mem_flatMap.mp hx
    obtain ⟨k', hk', hy⟩ := List.mem_flatMap.mp hy
    rw [List.mem_range] at hk hk'
    have := (same (by omega) (by omega) (by omega) (by omega) hx hy).1
    omega
theorem dueG_perm : ((pairsOf n (canTT (chLots names n) (chS names fl fl.length))).map pl).Perm ((dueG names fl n).map pl) := by
  refine List.Perm.map _ ((List.perm_ext_iff_of_nodup (pairsOf_nd _ _) (dueG_nd hn hf)).mpr ?_)
  rintro ⟨a, b⟩
  rw [ch_pairs hn hf, mem_dueG hn hf]
theorem dueG_len (h12 : n ≤ 12) : (dueG names fl n).length ≤ 288 := by
  have h2 : ∀ i k, (dueAt names fl i k).length ≤ 2 := fun i k => by
    unfold dueAt
    rw [List.length_append]
    split <;> split <;> simp
  have h1 : ∀ i, (dueRow names fl n i).length ≤ 24 := fun i => by
    have := flat_len (fun k => dueAt names fl i (i + 1 + k)) 2 (fun k => h2 _ _) (List.range (n - (i + 1)))
    rw [List.length_range] at this
    unfold dueRow
    omega
  have := flat_len (dueRow names fl n) 24 h1 (List.range n)
  rw [List.length_range] at this
  unfold dueG
  omega
end
end DL
end
section
set_option Elab.async false
set_option linter.all false
set_option maxRecDepth 100000
set_option maxHeartbeats 0
/-! M5: the words about a chain's pair (plain) -/
namespace DL
open PySem
def wd1 : Option Bool → Str
  | some true => "in"
  | some false => "out"
  | none => "open"
def wd2 : Option Bool → Str
  | some true => "out"
  | some false => "in"
  | none => "open"
theorem idx_ne {x p : Nat} {r : List Nat} (h : x ≠ p) : List.idxOf p (x :: r) = r.idxOf p + 1 := by
  rw [List.idxOf_cons, show (x == p) = false from by simpa using h]; rfl
theorem find_ix {p q : Nat} (hpq : p ≠ q) : ∀ {o : List Nat}, p ∈ o → q ∈ o → o.find? (fun z => decide (z = p) || decide (z = q)) = some (if o.idxOf p < o.idxOf q then p else q)
  | [], h, _ => by simp at h
  | x :: r, hp, hq => by
    by_cases e1 : x = p
    · subst e1
      have : List.idxOf q (x :: r) = r.idxOf q + 1 := idx_ne hpq
      rw [List.find?_cons_of_pos (by simp), this, List.idxOf_cons_self]
      simp
    · by_cases e2 : x = q
      · subst e2
        have : List.idxOf p (x :: r) = r.idxOf p + 1 := idx_ne e1
        rw [List.find?_cons_of_pos (by simp), this, List.idxOf_cons_self]
        simp
      · have hp' : p ∈ r := by rcases List.mem_cons.mp hp with z | z; · exact absurd z.symm e1
                               · exact z
        have hq' : q ∈ r := by rcases List.mem_cons.mp hq with z | z; · exact absurd z.symm e2
                               · exact z
        rw [List.find?_cons_of_neg (by simp [e1, e2]), find_ix hpq hp' hq', idx_ne e1, idx_ne e2]
        simp
theorem bits_one (y : Nat) : 2 ^ y = LM.bitsOf [y] := by rw [LM.bitsOf_cons, LM.bitsOf_nil]; rfl
theorem order_of {n : Nat} {o : List Nat} (nd : o.Nodup) (hl : ∀ p ∈ o, p < n) (h : o.length = n) : LM.IsOrder n o := mem_listsOf.mp ((mem_listsI n o).mpr ⟨h, nd, hl⟩)
section
variable {n : Nat} {names : List Nat} {fl : LM.Fl} (hn : LM.IsOrder n names) (hf : fl.length + 1 = n)
include hn hf
theorem ch_ins {i p q : Nat} (h1 : names[i]? = some p) (h2 : names[i + 1]? = some q) : ∀ (k : Nat) (o : List Nat), o.length = k →
    insF (LM.masksOf (chLots names n)) (LM.bitsOf (LM.pair p q)) o = match o.find? (fun z => decide (z = p) || decide (z = q)) with | none => 0 | some z => 2 ^ z := by
  have C := ch_chain hn hf
  have ok := C.lotsOk
  have hpq := ch_ne hn h1 h2
  have ndp : (LM.pair p q).Nodup := (LM.pair_sorted hpq).imp fun h => Nat.ne_of_lt h
  have hlot : LM.pair p q ∈ chLots names n := (chLots_mem hn _).mpr ⟨i, p, q, h1, h2, rfl⟩
  have tb : ∀ z, (LM.bitsOf (LM.pair p q)).testBit z = (decide (z = p) || decide (z = q)) := fun z => by
    rw [LM.tb_bitsOf ndp, Bool.eq_iff_iff]
    simp [LM.mem_pair]
  intro k
  induction k with
  | zero =>
    intro o ho
    have : o = [] := List.length_eq_zero_iff.mp ho
    subst this; rfl
  | succ k ih =>
    intro o ho
    rcases List.eq_nil_or_concat o with e | ⟨a, z, e⟩
    · subst e; cases ho
    · rw [List.concat_eq_append] at e
      subst e
      have iha := ih a (by simpa using ho)
      rw [insF_snoc, List.find?_append, iha]
      unfold insStep
      rw [tb z]
      cases hz : (decide (z = p) || decide (z = q)) with
      | false =>
        have : [z].find? (fun z => decide (z = p) || decide (z = q)) = none := List.find?_cons_of_neg (by rw [hz]; simp)
        rw [this, Option.or_none]
        simp
      | true =>
        have e1 : [z].find? (fun z => decide (z = p) || decide (z = q)) = some z := List.find?_cons_of_pos hz
        rw [e1]
        cases hy : a.find? (fun z => decide (z = p) || decide (z = q)) with
        | none =>
          show (if (!true || decide ((0 : Int) < ((LM.othersWithin (LM.masksOf (chLots names n)) 0 z).length : Int))) = true then 0 else 0 ||| 2 ^ z) = 2 ^ z
          have : LM.othersWithin (LM.masksOf (chLots names n)) 0 z = [] := by
            refine List.eq_nil_iff_forall_not_mem.mpr fun x hx => ?_
            obtain ⟨lot, hl, hzl, hk, _⟩ := (LM.mem_others ok (s := []) List.nodup_nil).mp hx
            obtain ⟨j, p', q', g1, g2, rfl⟩ := (chLots_mem hn lot).mp hl
            have hne := ch_ne hn g1 g2
            rcases LM.mem_pair.mp hzl with e | e
            · have := hk q' (LM.mem_pair.mpr (.inr rfl)) (fun h => hne (by rw [← e, h]))
              simp at this
            · have := hk p' (LM.mem_pair.mpr (.inl rfl)) (fun h => hne (by rw [h, e]))
              simp at this
          rw [this]
          simp
        | some y =>
          have hyp : (decide (y = p) || decide (y = q)) = true := List.find?_some (p := fun z => decide (z = p) || decide (z = q)) hy
          show (if (!true || decide ((0 : Int) < ((LM.othersWithin (LM.masksOf (chLots names n)) (2 ^ y) z).length : Int))) = true then 2 ^ y else 2 ^ y ||| 2 ^ z) = 2 ^ y
          by_cases hyz : z = y
          · subst hyz
            rw [Nat.or_self]
            split <;> rfl
          · have : 0 < (LM.othersWithin (LM.masksOf (chLots names n)) (2 ^ y) z).length := by
              refine List.length_pos_of_mem (a := LM.bitsOf (LM.pair p q) ^^^ 2 ^ z) ?_
              rw [bits_one y]
              refine (LM.mem_others ok (s := [y]) (by simp)).mpr ⟨LM.pair p q, hlot, ?_, fun k hk hkz => ?_, rfl⟩
              · rw [LM.mem_pair]; simpa using hz
              · rw [List.mem_singleton]
                have a1 : z = p ∨ z = q := by simpa using hz
                have a2 : y = p ∨ y = q := by simpa using hyp
                have a3 := LM.mem_pair.mp hk
                omega
            rw [if_pos]
            simp
            omega
theorem ch_vals {i p q : Nat} (h1 : names[i]? = some p) (h2 : names[i + 1]? = some q) (o : List Nat) : insF (LM.masksOf (chLots names n)) (LM.bitsOf (LM.pair p q)) o ∈ [0, 2 ^ p, 2 ^ q] := by
  rw [ch_ins hn hf h1 h2 o.length o rfl]
  cases hy : o.find? (fun z => decide (z = p) || decide (z = q)) with
  | none => simp
  | some y =>
    have hyp : (decide (y = p) || decide (y = q)) = true := List.find?_some (p := fun z => decide (z = p) || decide (z = q)) hy
    have : y = p ∨ y = q := by simpa using hyp
    rcases this with e | e <;> subst e <;> simp
theorem ch_sure {a b : Nat} (ha : a < n) (hb : b < n) (hba : b ≠ a) : LM.Seg names fl a b ↔ ∀ L, LM.IsOrder n L → LM.Valid (canTT (chLots names n) (chS names fl fl.length)) L → LM.Ahead L a b := by
  have C := ch_chain hn hf
  have P0 := placed_all n (canTT (chLots names n) (chS names fl fl.length))
  exact (C.pairs (placed_one n a _) hb hba).symm.trans (LM.sure_iff (LM.canT_mono _ _) (C.full P0) P0.val (placed_one n a _) ha hb hba)
theorem ch_words {i p q : Nat} (h1 : names[i]? = some p) (h2 : names[i + 1]? = some q) {f : Option Bool} (hfl : fl[i]? = some f) {found : List Nat}
    (hfd : ∀ x, x ∈ found ↔ ∃ t, Rc n (canTT (chLots names n) (chS names fl fl.length)) (LM.masksOf (chLots names n)) (LM.bitsOf (LM.pair p q)) n (t, x)) : wordOf found p = wd1 f ∧ wordOf found q = wd2 f := by
  have C := ch_chain hn hf
  have P0 := placed_all n (canTT (chLots names n) (chS names fl fl.length))
  have O0 := C.full P0
  have hpq := ch_ne hn h1 h2
  have hp := (hn.mem p).mp (List.mem_of_getElem? h1)
  have hq := (hn.mem q).mp (List.mem_of_getElem? h2)
  have ins : ∀ L, LM.IsOrder n L → insF (LM.masksOf (chLots names n)) (LM.bitsOf (LM.pair p q)) L = if L.idxOf p < L.idxOf q then 2 ^ p else 2 ^ q := fun L hL => by
    rw [ch_ins hn hf h1 h2 L.length L rfl, find_ix hpq ((hL.mem p).mpr hp) ((hL.mem q).mpr hq)]
    show 2 ^ (if L.idxOf p < L.idxOf q then p else q) = _
    split <;> rfl
  have fd : ∀ x, x ∈ found ↔ ∃ L, LM.IsOrder n L ∧ LM.Valid (canTT (chLots names n) (chS names fl fl.length)) L ∧ x = if L.idxOf p < L.idxOf q then 2 ^ p else 2 ^ q := fun x => by
    rw [hfd]
    constructor
    · rintro ⟨t, o, nd, hl, hv, hlen, e⟩
      have hO := order_of nd hl hlen
      exact ⟨o, hO, hv, by rw [← ins o hO]; exact (Prod.mk.inj e).2⟩
    · rintro ⟨L, hL, hv, e⟩
      exact ⟨_, L, hL.nd, fun p hp => (hL.mem p).mp hp, hv, hL.len, by rw [e, ← ins L hL]⟩
  have t1 : ∀ a b : Nat, (2 ^ a).testBit b = decide (a = b) := fun a b => Nat.testBit_two_pow
  have ne0 : found ≠ [] := fun e => by
    have := (fd _).mpr ⟨_, O0, P0.val, rfl⟩
    rw [e] at this
    simp at this
  have w_in : ∀ a, (∀ x ∈ found, x = 2 ^ a) → wordOf found a = "in" := fun a h => by
    unfold wordOf
    rw [if_pos]
    rw [List.all_eq_true]
    intro x hx
    rw [h x hx, t1]
    simp
  have w_out : ∀ a b, a ≠ b → (∀ x ∈ found, x = 2 ^ a) → wordOf found b = "out" := fun a b hab h => by
    unfold wordOf
    have e : ∀ x ∈ found, x.testBit b = false := fun x hx => by rw [h x hx, t1]; simp [hab]
    obtain ⟨y, r, hy⟩ := List.exists_cons_of_ne_nil ne0
    have hm : y ∈ found := by rw [hy]; simp
    rw [if_neg, if_neg]
    · rw [List.any_eq_true]
      rintro ⟨x, hx, h2⟩
      rw [e x hx] at h2; cases h2
    · rw [List.all_eq_true]
      intro h2
      have := h2 y hm
      rw [e y hm] at this; cases this
  have w_open : ∀ a b, a ≠ b → 2 ^ a ∈ found → 2 ^ b ∈ found → wordOf found a = "open" := fun a b hab g1 g2 => by
    unfold wordOf
    rw [if_neg, if_pos]
    · rw [List.any_eq_true]
      exact ⟨_, g1, by rw [t1]; simp⟩
    · rw [List.all_eq_true]
      intro h
      have := h _ g2
      rw [t1] at this
      simp [Ne.symm hab] at this
  cases f with
  | some b =>
    cases b with
    | true =>
      have S1 : LM.Seg names fl p q := ⟨i, i + 1, by omega, .inl ⟨h1, h2, fun k g1 g2 => by rw [show k = i by omega]; exact hfl⟩⟩
      have all : ∀ x ∈ found, x = 2 ^ p := fun x hx => by
        obtain ⟨L, hL, hv, e⟩ := (fd x).mp hx
        have : L.idxOf p < L.idxOf q := (ch_sure hn hf hp hq (Ne.symm hpq)).mp S1 L hL hv
        rw [e, if_pos this]
      exact ⟨w_in p all, w_out p q hpq all⟩
    | false =>
      have S1 : LM.Seg names fl q p := ⟨i, i + 1, by omega, .inr ⟨h1, h2, fun k g1 g2 => by rw [show k = i by omega]; exact hfl⟩⟩
      have all : ∀ x ∈ found, x = 2 ^ q := fun x hx => by
        obtain ⟨L, hL, hv, e⟩ := (fd x).mp hx
        have : L.idxOf q < L.idxOf p := (ch_sure hn hf hq hp hpq).mp S1 L hL hv
        rw [e, if_neg (by omega)]
      exact ⟨w_out q p (Ne.symm hpq) all, w_in q all⟩
  | none =>
    have n1 : ¬ LM.Seg names fl p q := by
      rintro ⟨i', j', hij, ⟨g1, g2, r⟩ | ⟨g1, g2, r⟩⟩
      · have e1 := LM.nd_at hn.nd g1 h1
        have := r i' (Nat.le_refl _) hij
        rw [e1, hfl] at this
        cases this
      · have e1 := LM.nd_at hn.nd g1 h2
        have e2 := LM.nd_at hn.nd g2 h1
        omega
    have n2 : ¬ LM.Seg names fl q p := by
      rintro ⟨i', j', hij, ⟨g1, g2, r⟩ | ⟨g1, g2, r⟩⟩
      · have e1 := LM.nd_at hn.nd g1 h2
        have e2 := LM.nd_at hn.nd g2 h1
        omega
      · have e1 := LM.nd_at hn.nd g1 h1
        have := r i' (Nat.le_refl _) hij
        rw [e1, hfl] at this
        cases this
    have m2 : 2 ^ q ∈ found := Classical.byContradiction fun hno => n1 ((ch_sure hn hf hp hq (Ne.symm hpq)).mpr fun L hL hv => Classical.byContradiction fun ha => hno ((fd _).mpr ⟨L, hL, hv, by
      have : ¬ L.idxOf p < L.idxOf q := ha
      rw [if_neg this]⟩))
    have m1 : 2 ^ p ∈ found := Classical.byContradiction fun hno => n2 ((ch_sure hn hf hq hp hpq).mpr fun L hL hv => Classical.byContradiction fun ha => hno ((fd _).mpr ⟨L, hL, hv, by
      have h3 : ¬ L.idxOf q < L.idxOf p := ha
      have h4 : L.idxOf p ≠ L.idxOf q := fun e => by
        have a1 := List.getElem_idxOf (List.idxOf_lt_length_of_mem ((hL.mem p).mpr hp))
        have a2 := List.getElem_idxOf (List.idxOf_lt_length_of_mem ((hL.mem q).mpr hq))
        exact hpq (a1.symm.trans ((by congr 1 : L[L.idxOf p]'(List.idxOf_lt_length_of_mem ((hL.mem p).mpr hp)) = L[L.idxOf q]'(List.idxOf_lt_length_of_mem ((hL.mem q).mpr hq))).trans a2))
      rw [if_pos (by omega)]⟩))
    exact ⟨w_open p q hpq m1 m2, w_open q p (Ne.symm hpq) m2 m1⟩
end
end DL
end
section
set_option Elab.async false
set_option linter.all false
set_option maxRecDepth 100000
set_option maxHeartbeats 0
/-! E9: the great law -/
namespace DL
open PySem L2
section
variable {K : PySem.W.Frag} {M : Mo} {es : Es}
theorem Xs.imp2 {mu : Mu} {t : TS} {N N' : Es → Mu → Prop} {R : RT} (h : Xs K M t es mu N' R) (i : ∀ es mu, N' es mu → N es mu) : Xs K M t es mu N R := fun B G0 H0 σ H D c hn hr => h B G0 H0 σ H D c (fun es' mu' σ' H' n c' => hn es' mu' σ' H' (i _ _ n) c') hr
theorem em_callP {α : Type} {inp : α → List Dt} {pre : α → Prop} {P : α → Dt → Prop} {ta : TA} {Pz : Dt → Prop} (x : α) (h : EvA K ta es (inp x)) (hp : pre x) (hz : ∀ d, P x d → Pz d) : EvM K M (tCall (spM K (fun _ => Mo.pure) inp pre P) [] C8.E0 ta) es Pz := fun σ G H he hs m Q q =>
  h σ G H he hs _ fun vs G1 H1 k1 r1 => ⟨x, G1, k1.gh, by rw [List.append_nil]; exact r1, trivial, hp, fun v G2 H2 d pd k2 r2 => q v G2 H2 d (hz d pd) ((OkS.of m k1).trans (OkS.of (OkS.of m k1).ok k2.k.ok)) r2⟩
theorem cutIJ {xs : List Dt} {i j : Nat} (h1 : i ≤ j) (h2 : j ≤ xs.length) : cutD xs (some (i : Int)) (some (j : Int)) = (xs.drop i).take (j - i) := by
  unfold cutD
  rw [HT.sIx_nat, HT.sIx_nat, Nat.min_eq_left (by omega), Nat.min_eq_left (by omega)]
theorem ev_run {a0 a1 a2 a3 a5 a6 a7 o10 o11 o12 : Option Dt} {fl : LM.Fl} {b : Bool} {i j : Nat} (h1 : i ≤ j) (h2 : j ≤ fl.length) (h12 : fl.length ≤ 12) :
    EvD K (tCB (rAll K) (tCons (tLc (iList K (tSl (rSlL K) (tVar 4) (tPart (tVar 8)) (tPart (tVar 9)))) (gName 10) tYes (tOp rIsTB (tVar 10) (tC (.bl b))) [10]) tNil)) [a0, a1, a2, a3, some (.lst (fl.map flD)), a5, a6, a7, some (dn i), some (dn j), o10, o11, o12] (.bl (runB fl b i j)) :=
  ev_cb (ea_cons (EvL.d (el_lc ((fl.drop i).take (j - i)) flD (fun _ => true) (fun f => .bl (decide (f = some b))) (is := [10]) (wk_list (ev_is (EvL.d (el_sl (ev_var rfl) (eo_some (ev_var rfl)) (eo_some (ev_var rfl)))) (by rw [cutIJ h1 (by rw [List.length_map]; exact h2), ← List.map_drop, ← List.map_take]))) (by simp) (by rw [List.length_take, List.length_drop]; omega)
    fun f _ => tg_name ⟨et_yes, fun _ => ev_op (ev_var rfl) ev_bl rd_isTB⟩)) ea_nil) (by rw [filter_yes]; exact rc_allF _ _)
def ixF : Option Bool → Nat
  | some false => 0
  | some true => 1
  | none => 2
theorem ev_idxF {f : Option Bool} {te : TE} (h : EvD K te es (flD f)) : EvD K (tBM K "list" (rIndex K) (tLst (tCons (tC (.bl false)) (tCons (tC (.bl true)) (tCons (tC .non) tNil)))) (tCons te tNil)) es (dn (ixF f)) := fun σ G H he hs Q q => by
  have hl : EvL K (tLst (tCons (tC (.bl false)) (tCons (tC (.bl true)) (tCons (tC .non) tNil)))) es [.bl false, .bl true, .non] := el_lst (ea_cons ev_bl (ea_cons ev_bl (ea_cons ev_non ea_nil))) (by simp)
  refine hl.d σ G H he hs _ fun v G1 H1 k1 r1 => ?_
  cases r1 with
  | lst h1 h2 =>
    rename_i a xs
    have ex : xs = [V.bl false, .bl true, .non] := by
      cases h2 with | cons r1 t1 => cases t1 with | cons r2 t2 => cases t2 with | cons r3 t3 => cases t3; cases r1; cases r2; cases r3; rfl
    subst ex
    refine ⟨.inl ⟨rfl, _, .inl (.inl (k1.gh _ _ h1))⟩, h σ G1 H1 (he.mono k1.gg) k1.gh _ fun u G2 H2 k2 r2 => ?_⟩
    have hl2 : SqL K H2 a [V.bl false, .bl true, .non] := .inl (.inl (k2.gh _ _ (k2.gg _ _ h1)))
    have fin := fun i => q (.int i) G2 H2 (k1.trans k2)
    cases f with
    | none =>
      cases r2
      exact ⟨a, _, _, 2, _, rfl, rfl, hl2, rfl, rfl, rfl, rfl, fun m z hm hz => by
        have : m = 0 ∨ m = 1 := by omega
        rcases this with e | e <;> subst e <;> cases hz <;> rfl, fin _ (.int _)⟩
    | some b =>
      cases r2
      cases b with
      | false => exact ⟨a, _, _, 0, _, rfl, rfl, hl2, rfl, rfl, rfl, rfl, fun m z hm hz => by omega, fin _ (.int _)⟩
      | true => exact ⟨a, _, _, 1, _, rfl, rfl, hl2, rfl, rfl, rfl, rfl, fun m z hm hz => by
          have : m = 0 := by omega
          subst this; cases hz; rfl, fin _ (.int _)⟩
theorem words_at (f : Option Bool) : atI [Dt.lst [.str "out", .str "in"], .lst [.str "in", .str "out"], .lst [.str "open", .str "open"]] ((ixF f : Nat) : Int) = some (.lst [.str (wd1 f), .str (wd2 f)]) := by
  rcases f with _ | _ | _ <;> exact atI_nat rfl
end
theorem dueAt_len (names : List Nat) (fl : LM.Fl) (i k : Nat) : (dueAt names fl i k).length ≤ 2 := by
  unfold dueAt
  rw [List.length_append]
  split <;> split <;> simp
theorem dueRow_len (names : List Nat) (fl : LM.Fl) {n : Nat} (h12 : n ≤ 12) (i : Nat) : (dueRow names fl n i).length ≤ 24 := by
  have := flat_len (fun k => dueAt names fl i (i + 1 + k)) 2 (fun k => dueAt_len _ _ _ _) (List.range (n - (i + 1)))
  rw [List.length_range] at this
  unfold dueRow
  omega
section
variable {P : Program} {w : World} {K : PySem.W.Frag} {mg : Str → Option Value} {base : Heap}
theorem sc_law_great : FnScope ["_law_hand_here", "_law_people", "_law_names", "_law_lots_here", "_law_seen_here", "_law_book", "_law_sightings", "_law_due", "_law_at", "_law_later", "_law_flag_here", "_law_word", "_law_told"] ["_law_hand_here"] (defScope Hd.s_law_great) := ⟨rfl, rfl, rfl, by decide +kernel, rfl, by decide +kernel, by decide +kernel⟩
def sp_law_great (K : PySem.W.Frag) : Sp := spM K (fun h : Addr => moH K h) (fun h => [.adr h]) (fun _ => True) (fun _ d => d = .bl true)
theorem cal_law_great (T : Txt K mg) : C8.Cal P w K mg base 9 "_law_great" (sp_law_great K) [] := by
  have c_law_draw := cal_law_draw (P := P) (w := w) (base := base) T
  have c_law_chain := cal_law_chain (P := P) (w := w) (base := base) T
  have c_law_chain_seen := cal_law_chain_seen (P := P) (w := w) (base := base) T
  have c_law_is := cal_law_is (P := P) (w := w) (base := base) T
  have c_surely_ahead := cal_surely_ahead (P := P) (w := w) (base := base) T
  have c_verdicts := cal_verdicts (P := P) (w := w) (base := base) T
  have c_Book := mak_Book (P := P) (w := w) (base := base) T
  obtain ⟨fd, F⟩ := T.f_law_great
  have nd := sc_law_great.nd
  refine mkM F sc_law_great (fun _ => rfl) (fun us hl _ _ _ _ _ _ => match us, hl with | [_], _ => rfl) T.m_law_great fun cdv A outer s H E hr => ⟨_,
      (pss_cons (ps_set (i := 1) nd rfl (by first | exact Or.inl rfl | exact Or.inr rfl) (pe_op op_add pe_int (C8.pe_c c_law_draw hr (by decide) (by rfl) (pa_cons (pv 0) (pa_cons pe_int pa_nil)))))
      (pss_cons (ps_asg (C8.pe_c c_law_chain hr (by decide) (by rfl) (pa_cons (pv 0) (pa_cons (pv 1) (pa_cons (C8.pe_c c_law_draw hr (by decide) (by rfl) (pa_cons (pv 0) (pa_cons pe_int pa_nil))) pa_nil)))) (pg_tup rfl (pgs_cons (pg_name (i := 2) nd rfl (by first | exact Or.inl rfl | exact Or.inr rfl)) (pgs_cons (pg_name (i := 3) nd rfl (by first | exact Or.inl rfl | exact Or.inr rfl)) (pgs_cons (pg_name (i := 4) nd rfl (by first | exact Or.inl rfl | exact Or.inr rfl)) pgs_nil)))))
      (pss_cons (ps_set (i := 5) nd rfl (by first | exact Or.inl rfl | exact Or.inr rfl) (C8.pe_mk c_Book hr (by decide) (by rfl) (pa_cons (pv 1) (pa_cons (pv 3) pa_nil))))
      (pss_cons (ps_set (i := 6) nd rfl (by first | exact Or.inl rfl | exact Or.inr rfl) (C8.pe_c c_law_chain_seen hr (by decide) (by rfl) (pa_cons (pv 2) (pa_cons (pv 4) pa_nil))))
      (pss_cons (ps_set (i := 7) nd rfl (by first | exact Or.inl rfl | exact Or.inr rfl) (pe_lst pa_nil))
      (pss_cons (ps_for PassesOwn.never rfl (pi_range1 (by rfl) T.range (pa_cons (pv 1) pa_nil)) (pg_name (i := 8) nd rfl (by first | exact Or.inl rfl | exact Or.inr rfl)) (pss_one (ps_for PassesOwn.never rfl (pi_range2 (by rfl) T.range (pa_cons (pe_op op_add (pv 8) pe_int) (pa_cons (pv 1) pa_nil))) (pg_name (i := 9) nd rfl (by first | exact Or.inl rfl | exact Or.inr rfl)) (pss_cons (ps_if (pt_val (pe_callB (kAll K) (by rfl) T.all (by decide +kernel) (pa_cons (pe_lc (own := [("_law_flag_here", 10)]) (g := (gName 10)) rfl nd (kList K rfl (pe_slice (kSlL K) (pv 4) (po_some (pv 8)) (po_some (pv 9)))) (blkOk_by (by show blkC ["_law_hand_here", "_law_people", "_law_names", "_law_lots_here", "_law_seen_here", "_law_book", "_law_sightings", "_law_due", "_law_at", "_law_later", "_law_flag_here", "_law_word", "_law_told"] (defScope Hd.s_law_great) _ _ = true; decide +kernel)) (fun _ _ _ _ _ => (pg_name (i := 10) nd rfl (by first | exact Or.inl rfl | exact Or.inr rfl))) (fun _ _ _ _ _ => pts_nil) (fun _ _ _ _ _ => (pe_cmpR op_isTB (pv 10) pe_bl (nomark _)))) pa_nil))) (pss_one (kAppend K (st := ps_expr (pe_bm PySem.F.plainAttrs_list PySem.F.slot_list_append PySem.F.type_list_append mt_append (pv 7) (pa_cons (pe_tup (pa_cons (pe_ix (kIxT K) (pv 2) (pv 8) (fun _ _ => rfl)) (pa_cons (pe_ix (kIxT K) (pv 2) (pv 9) (fun _ _ => rfl)) pa_nil))) pa_nil))))) pss_nil)
      (pss_one (ps_if (pt_val (pe_callB (kAll K) (by rfl) T.all (by decide +kernel) (pa_cons (pe_lc (own := [("_law_flag_here", 10)]) (g := (gName 10)) rfl nd (kList K rfl (pe_slice (kSlL K) (pv 4) (po_some (pv 8)) (po_some (pv 9)))) (blkOk_by (by show blkC ["_law_hand_here", "_law_people", "_law_names", "_law_lots_here", "_law_seen_here", "_law_book", "_law_sightings", "_law_due", "_law_at", "_law_later", "_law_flag_here", "_law_word", "_law_told"] (defScope Hd.s_law_great) _ _ = true; decide +kernel)) (fun _ _ _ _ _ => (pg_name (i := 10) nd rfl (by first | exact Or.inl rfl | exact Or.inr rfl))) (fun _ _ _ _ _ => pts_nil) (fun _ _ _ _ _ => (pe_cmpR op_isTB (pv 10) pe_bl (nomark _)))) pa_nil))) (pss_one (kAppend K (st := ps_expr (pe_bm PySem.F.plainAttrs_list PySem.F.slot_list_append PySem.F.type_list_append mt_append (pv 7) (pa_cons (pe_tup (pa_cons (pe_ix (kIxT K) (pv 2) (pv 9) (fun _ _ => rfl)) (pa_cons (pe_ix (kIxT K) (pv 2) (pv 8) (fun _ _ => rfl)) pa_nil))) pa_nil))))) pss_nil))))))
      (pss_cons (ps_if (pt_not (pt_val (C8.pe_c c_law_is hr (by decide) (by rfl) (pa_cons (C8.pe_c c_surely_ahead hr (by decide) (by rfl) (pa_cons (pv 5) (pa_cons (pv 6) pa_nil))) (pa_cons (pe_callB (kSortN K rfl hr.units) (by rfl) T.sorted (by decide +kernel) (pa_cons (pv 7) pa_nil)) pa_nil))))) (pss_one (ps_ret pe_bl)) pss_nil)
      (pss_cons (ps_if (pt_cmpR op_gt (pv 1) pe_int (nomark _)) (pss_one (ps_ret pe_bl)) pss_nil)
      (pss_cons (ps_set (i := 8) nd rfl (by first | exact Or.inl rfl | exact Or.inr rfl) (C8.pe_c c_law_draw hr (by decide) (by rfl) (pa_cons (pv 0) (pa_cons (pe_op op_sub (pv 1) pe_int) pa_nil))))
      (pss_cons (ps_set (i := 11) nd rfl (by first | exact Or.inl rfl | exact Or.inr rfl) (pe_ix (kIxL K) (pe_lst (pa_cons (pe_lst (pa_cons pe_str (pa_cons pe_str pa_nil))) (pa_cons (pe_lst (pa_cons pe_str (pa_cons pe_str pa_nil))) (pa_cons (pe_lst (pa_cons pe_str (pa_cons pe_str pa_nil))) pa_nil)))) (kM K rfl (pe_bm PySem.F.plainAttrs_list PySem.F.slot_list_index PySem.F.type_list_index (kIdx K) (pe_lst (pa_cons pe_bl (pa_cons pe_bl (pa_cons pe_non pa_nil)))) (pa_cons (pe_ix (kIxL K) (pv 4) (pv 8) (fun _ _ => rfl)) pa_nil))) (fun _ _ => rfl)))
      (pss_cons (ps_set (i := 12) nd rfl (by first | exact Or.inl rfl | exact Or.inr rfl) (C8.pe_c c_verdicts hr (by decide) (by rfl) (pa_cons (pv 5) (pa_cons (pv 6) (pa_cons (pe_callTy (kTup K) (by rfl) T.tuple (by decide +kernel) (pa_cons (pe_callB (kSortTI K) (by rfl) T.sorted (by decide +kernel) (pa_cons (pe_slice (kSlT K) (pv 2) (po_some (pv 8)) (po_some (pe_op op_add (pv 8) pe_int))) pa_nil)) pa_nil)) pa_nil)))))
      (pss_one (ps_ret (pe_cmpR (op_eq_dictA hr.units0) (pv 12) (pe_disp (pps_cons (pe_ix (kIxT K) (pv 2) (pv 8) (fun _ _ => rfl)) (pe_ix (kIxL K) (pv 11) pe_int (fun _ _ => rfl)) (pps_cons (pe_ix (kIxT K) (pv 2) (pe_op op_add (pv 8) pe_int) (fun _ _ => rfl)) (pe_ix (kIxL K) (pv 11) pe_int (fun _ _ => rfl)) pps_nil)) rfl rfl (fun z => nomatch z) (by decide)) (nomark _))))))))))))))), ?_⟩
  rintro h _
  refine x_seq (x_asgM (P := fun d => ∃ n : Nat, 7 ≤ n ∧ n ≤ 12 ∧ d = dn n) (em_opR ev_int (em_draw (m := 6) rfl ev_int (by omega) (by omega)) fun d ⟨v, hv, e⟩ => ⟨dn (7 + v), ⟨7 + v, by omega, by omega, rfl⟩, by rw [e]; exact rd_i0 (f := fun i j => i + j) (i := 7) (j := (v : Int))⟩) ?_)
  rintro d ⟨n, h7, h12, rfl⟩
  refine x_seq (x_asgTM (is := [2, 3, 4]) (P := fun d => ∃ (names : List Nat) (fl : LM.Fl), LM.IsOrder n names ∧ fl.length + 1 = n ∧ d = .tup [crD names, lotsD (chLots names n), .lst (fl.map flD)]) (em_call (Pa := fun ds => ∃ v : Nat, v < 3 ∧ ds = [.adr h, dn n, dn v]) (ema_imp (ema_cons (em_of (ev_var rfl)) fun _ _ => ema_cons (em_of (ev_var rfl)) fun _ _ => ema_cons (em_draw (m := 3) rfl ev_int (by omega) (by omega)) fun _ _ => ema_nil) ?_)
    fun ds ⟨v, hv, e⟩ => ⟨(h, n, v), rfl, e, ⟨by simp only; omega, h12, by simp only; omega⟩, fun d hd => hd⟩) ?_)
  · rintro ds ⟨d1, r1, rfl, ⟨d2, r2, rfl, ⟨d3, r3, ⟨v, hv, rfl⟩, rfl, rfl⟩, rfl⟩, rfl⟩
    exact ⟨v, hv, rfl⟩
  rintro d ⟨names, fl, hn, hf, rfl⟩
  have hl := hn.len
  have hB := chLots_ok hn (by omega) h12
  have hFit := ch_fit hn hf h12
  refine tg_tup rfl (tgs_cons (tg_name (tgs_cons (tg_name (tgs_cons (tg_name (tgs_nil ?_)))))))
  refine x_seq (x_asg (ev_mk T (ea_cons (ev_var rfl) (ea_cons (ev_var rfl) ea_nil)) hB) ?_)
  refine x_seq (x_asg (ev_call (names, fl) (ea_cons (ev_var rfl) (ea_cons (ev_var rfl) ea_nil)) ⟨by simp only; omega, by simp only; omega⟩) ?_)
  simp only
  generalize hS : chS names fl fl.length = S at hFit
  generalize hL : chLots names n = lots at hB hFit
  refine x_seq (x_new (el_lst ea_nil (by decide)) fun l => x_seq (x_for (is := [8]) (xs := (List.range n).map dn)
    (fun i es mu => ∃ o8 o9, es = [some (.adr h), some (dn n), some (crD names), some (lotsD lots), some (.lst (fl.map flD)), some (bkD n lots), some (.lst (S.map sgD)), some (.adr l), o8, o9, none, none, none] ∧ mu = [(l, ((List.range i).flatMap (dueRow names fl n)).map prD)])
    (wk_is (wk_range1 (n := (n : Int)) (ea_cons (ev_var rfl) ea_nil) (by omega) (by omega)) (by rw [Int.toNat_natCast, rng0])) ⟨_, _, rfl, rfl⟩ ?_ ?_))
  · rintro i y es mu hy ⟨o8, o9, rfl, rfl⟩
    obtain ⟨x, hx, rfl⟩ := map_at hy
    obtain ⟨hi, rfl⟩ := range_at hx
    refine tg_name (x_for (is := [9]) (xs := rngD ((x : Int) + 1) (n - (x + 1)))
      (fun j es mu => ∃ o9, es = [some (.adr h), some (dn n), some (crD names), some (lotsD lots), some (.lst (fl.map flD)), some (bkD n lots), some (.lst (S.map sgD)), some (.adr l), some (dn x), o9, none, none, none] ∧ mu = [(l, ((List.range x).flatMap (dueRow names fl n) ++ (List.range j).flatMap fun k => dueAt names fl x (x + 1 + k)).map prD)])
      (wk_is (wk_range2 (m := (x : Int) + 1) (n := (n : Int)) (ea_cons (ev_op (ev_var rfl) ev_int rd_i0) (ea_cons (ev_var rfl) ea_nil)) (by omega) (by omega) (by omega)) (by congr 1; omega)) ⟨_, rfl, by simp⟩ ?_ ?_)
    · rintro j y es mu hy ⟨o9, rfl, rfl⟩
      obtain ⟨hj, rfl⟩ := rngD_at hy
      have ey : Dt.int ((x : Int) + 1 + (j : Int)) = dn (x + 1 + j) := congrArg Dt.int (by omega)
      have g1 := getD_at (names := names) (i := x) (by omega)
      have g2 := getD_at (names := names) (i := x + 1 + j) (by omega)
      have d1 : (names.map dn)[x]? = some (dn (names.getD x 0)) := by rw [List.getElem?_map, g1]; rfl
      have d2 : (names.map dn)[x + 1 + j]? = some (dn (names.getD (x + 1 + j) 0)) := by rw [List.getElem?_map, g2]; rfl
      have b1 := flat_len (dueRow names fl n) 24 (dueRow_len names fl h12) (List.range x)
      have b2 := flat_len (fun k => dueAt names fl x (x + 1 + k)) 2 (fun k => dueAt_len _ _ _ _) (List.range j)
      rw [List.length_range] at b1 b2
      have es' : (List.range (j + 1)).flatMap (fun k => dueAt names fl x (x + 1 + k)) = (List.range j).flatMap (fun k => dueAt names fl x (x + 1 + k)) ++ dueAt names fl x (x + 1 + j) := by
        rw [List.range_succ, List.flatMap_append]; simp
      generalize hA : (List.range x).flatMap (dueRow names fl n) = A at b1
      generalize hD : (List.range j).flatMap (fun k => dueAt names fl x (x + 1 + k)) = D at b2 es'
      refine tg_name ?_
      show Xs K (moH K h) _ [some (.adr h), some (dn n), some (crD names), some (lotsD lots), some (.lst (fl.map flD)), some (bkD n lots), some (.lst (S.map sgD)), some (.adr l), some (dn x), some (.int ((x : Int) + 1 + (j : Int))), none, none, none] _ _ _
      rw [ey]
      refine x_seq (Xs.imp2 (x_if (N := fun es mu => es = [some (.adr h), some (dn n), some (crD names), some (lotsD lots), some (.lst (fl.map flD)), some (bkD n lots), some (.lst (S.map sgD)), some (.adr l), some (dn x), some (dn (x + 1 + j)), none, none, none] ∧ mu = [(l, (A ++ D ++ (if runB fl true x (x + 1 + j) = true then [(names.getD x 0, names.getD (x + 1 + j) 0)] else [])).map prD)]) (et_test (ev_run (by omega) (by omega) (by omega))) (fun hb => ?_) fun hb => x_next ⟨rfl, ?_⟩) ?_)
      · refine x_app 0 (ev_var rfl) (ev_tup (ea_cons (ev_op (ev_var rfl) (ev_var rfl) (rd_ixT (atI_nat d1))) (ea_cons (ev_op (ev_var rfl) (ev_var rfl) (rd_ixT (atI_nat d2))) ea_nil)) (by simp)) rfl (by rw [List.length_map, List.length_append]; omega) ⟨rfl, ?_⟩
        rw [if_pos hb, List.map_append (l₁ := A ++ D)]; rfl
      · rw [if_neg (by rw [hb]; simp), List.append_nil]
      · rintro es mu ⟨rfl, rfl⟩
        have b3 : (if runB fl true x (x + 1 + j) = true then [(names.getD x 0, names.getD (x + 1 + j) 0)] else []).length ≤ 1 := by split <;> simp
        have e2 : dueAt names fl x (x + 1 + j) = (if runB fl true x (x + 1 + j) = true then [(names.getD x 0, names.getD (x + 1 + j) 0)] else []) ++ (if runB fl false x (x + 1 + j) = true then [(names.getD (x + 1 + j) 0, names.getD x 0)] else []) := rfl
        generalize (if runB fl true x (x + 1 + j) = true then [(names.getD x 0, names.getD (x + 1 + j) 0)] else []) = E at b3 e2
        refine x_if (et_test (ev_run (by omega) (by omega) (by omega))) (fun hb => ?_) fun hb => x_next ⟨_, rfl, ?_⟩
        · refine x_app 0 (ev_var rfl) (ev_tup (ea_cons (ev_op (ev_var rfl) (ev_var rfl) (rd_ixT (atI_nat d2))) (ea_cons (ev_op (ev_var rfl) (ev_var rfl) (rd_ixT (atI_nat d1))) ea_nil)) (by simp)) rfl (by rw [List.length_map, List.length_append, List.length_append]; omega) ⟨_, rfl, ?_⟩
          rw [es', e2, if_pos hb, ← List.append_assoc, ← List.append_assoc, List.map_append (l₂ := [_])]; rfl
        · rw [es', e2, if_neg (by rw [hb]; simp), List.append_nil, List.append_assoc]
    · rintro es mu ⟨o9, rfl, rfl⟩
      rw [rngD_len]
      refine ⟨_, _, rfl, ?_⟩
      rw [List.range_succ, List.flatMap_append]
      simp [dueRow]
  · rintro es mu ⟨o8, o9, rfl, rfl⟩
    rw [List.length_map, List.length_range]
    show Xs K (moH K h) _ _ [(l, (dueG names fl n).map prD)] _ _
    refine x_thawN fun hna => ?_
    have hne : h ≠ l := fun e => hna (.inl e.symm)
    obtain ⟨p8, p9, e⟩ : ∃ p8 p9, thaw l ((dueG names fl n).map prD) [some (.adr h), some (dn n), some (crD names), some (lotsD lots), some (.lst (fl.map flD)), some (bkD n lots), some (.lst (S.map sgD)), some (.adr l), o8, o9, none, none, none] = [some (.adr h), some (dn n), some (crD names), some (lotsD lots), some (.lst (fl.map flD)), some (bkD n lots), some (.lst (S.map sgD)), some (.lst ((dueG names fl n).map prD)), p8, p9, none, none, none] :=
      ⟨_, _, by rw [thaw_cons, thaw_cons, thaw_cons, thaw_cons, thaw_cons, thaw_cons, thaw_cons, thaw_cons, thaw1_ne hne, thaw1_self]; rfl⟩
    rw [e]
    clear e
    have perm := dueG_perm hn hf
    rw [hS, hL] at perm
    refine x_seq (x_if (b := false) (et_is (et_not (et_test (ev_call (pairsOf n (canTT lots S)) (ea_cons (EvL.d (el_call (n, lots, false, S) (ea_cons (ev_var rfl) (ea_cons (ev_var rfl) ea_nil)) hFit)) (ea_cons (ev_is (EvL.d (el_cb (ea_cons (ev_is (ev_var rfl) (d' := .lst (((dueG names fl n).map pl).map crD)) (by rw [List.map_map]; rfl)) ea_nil) (rc_sortN perm (pairsOf_le n _) ?_))) (by rw [List.map_map]; rfl)) ea_nil)) ?_))) rfl) (fun z => by cases z) fun _ => x_next ?_)
    · intro c hc e
      obtain ⟨x, _, rfl⟩ := List.mem_map.mp hc
      cases e
    · have := pairsOf_len n (canTT lots S)
      have : n * n ≤ 12 * 12 := Nat.mul_le_mul h12 h12
      show (pairsOf n (canTT lots S)).length ≤ 1000
      omega
    refine x_seq (x_if (et_test (ev_op (ev_var rfl) ev_int rd_b0)) (fun _ => x_ret ev_bl rfl) fun hb => x_next ?_)
    refine x_seq (x_asgM (P := fun d => ∃ v : Nat, v < n - 1 ∧ d = dn v) (em_draw (m := n - 1) rfl (ev_is (ev_op (ev_var rfl) ev_int rd_i0) (by show Dt.int ((n : Int) - 1) = Dt.int ((n - 1 : Nat) : Int); congr 1; omega)) (by omega) (by omega)) ?_)
    rintro d ⟨i, hi, rfl⟩
    obtain ⟨f, hfi⟩ : ∃ f, fl[i]? = some f := ⟨_, List.getElem?_eq_getElem (by omega)⟩
    have hfD : (fl.map flD)[i]? = some (flD f) := by rw [List.getElem?_map, hfi]; rfl
    have g1 := getD_at (names := names) (i := i) (by omega)
    have g2 := getD_at (names := names) (i := i + 1) (by omega)
    generalize names.getD i 0 = p at g1
    generalize names.getD (i + 1) 0 = q at g2
    have d1 : (names.map dn)[i]? = some (dn p) := by rw [List.getElem?_map, g1]; rfl
    have d2 : (names.map dn)[i + 1]? = some (dn q) := by rw [List.getElem?_map, g2]; rfl
    have hpq := ch_ne hn g1 g2
    have hcr := ch_cr hn g1 g2
    refine x_seq (x_asg (ev_op (EvL.d (el_lst (ea_cons (EvL.d (el_lst (ea_cons ev_str (ea_cons ev_str ea_nil)) (by simp))) (ea_cons (EvL.d (el_lst (ea_cons ev_str (ea_cons ev_str ea_nil)) (by simp))) (ea_cons (EvL.d (el_lst (ea_cons ev_str (ea_cons ev_str ea_nil)) (by simp))) ea_nil))) (by simp))) (ev_idxF (ev_op (ev_var rfl) (ev_var rfl) (rd_ixL (atI_nat hfD)))) (rd_ixL (words_at f))) ?_)
    refine x_seq (x_asgM (em_callP (Pz := fun d => ∃ found : List Nat, d = .dct ((LM.pair p q).map fun (x : Nat) => ((x : Int), wordOf found x)) ∧ wordOf found p = wd1 f ∧ wordOf found q = wd2 f) (n, lots, false, S, LM.pair p q) (ea_cons (ev_var rfl) (ea_cons (ev_var rfl) (ea_cons (ev_pair (p := p) (q := q) (ev_is (ev_slT (ev_var rfl) (eo_some (ev_var rfl)) (eo_some (ev_op (ev_var rfl) ev_int rd_i0))) (by rw [cut2 d1 d2]))) ea_nil))) ?_ ?_) ?_)
    · refine ⟨hFit, hcr, by show (LM.pair p q).length ≤ 8; rw [LM.pair_len]; omega, [0, 2 ^ p, 2 ^ q], by simp, fun o => ?_⟩
      have := ch_vals hn hf g1 g2 o
      rw [hL] at this
      exact this
    · rintro d ⟨found, e, hfd⟩
      refine ⟨found, e, ?_⟩
      have := ch_words hn hf g1 g2 hfi (found := found)
      rw [hS, hL] at this
      exact this hfd
    rintro d ⟨found, rfl, w1, w2⟩
    refine x_ret (ev_op (ev_var rfl) (ev_disp2 (a := (p : Int)) (b := (q : Int)) (x := wd1 f) (y := wd2 f) (ev_op (ev_var rfl) (ev_var rfl) (rd_ixT (atI_nat d1))) (ev_op (ev_var rfl) ev_int (rd_ixL (atI_nat (j := 0) rfl))) (ev_op (ev_var rfl) (ev_is (ev_op (ev_var rfl) ev_int rd_i0) (d' := dn (i + 1)) rfl) (rd_ixT (atI_nat d2))) (ev_op (ev_var rfl) ev_int (rd_ixL (atI_nat (j := 1) rfl))) (by omega)) (rd_eqDct ?_ ?_ ?_)) rfl
    · show [(p : Int), (q : Int)].Nodup
      simp
      omega
    · rw [List.length_map, LM.pair_len]; rfl
    · rintro x hx
      obtain ⟨z, hz, rfl⟩ := List.mem_map.mp hx
      rcases LM.mem_pair.mp hz with e | e <;> subst e
      · rw [w1]; simp
      · rw [w2]; simp
end
end DL
end
section
set_option Elab.async false
set_option linter.all false
set_option maxRecDepth 100000
set_option maxHeartbeats 0
/-! E10: the hand -/
namespace DL
open PySem L2
section
variable {K : PySem.W.Frag}
def moS (G1 : Hp) : Mo := ⟨fun _ => False, fun G _ => Same G1 G, fun _ z => z.elim, fun o s _ _ => o.trans s⟩
theorem keep_sq {H : Hp} {a : Addr} {xs : List V} (h : SqL K H a xs) : ∃ G1, Same G1 H ∧ ∀ H', Same G1 H' → SqL K H' a xs := by
  have one : ∀ o : HO, H a = some o → Same (upd (fun _ => none) a o) H := fun o ho b x e => by
    by_cases z : b = a
    · subst z; rw [upd_same] at e; cases e; exact ho
    · rw [upd_ne z] at e; cases e
  rcases h with (h | ⟨o, h⟩) | h
  · exact ⟨_, one _ h, fun H' s => .inl (.inl (s _ _ upd_same))⟩
  · exact ⟨_, one _ h, fun H' s => .inl (.inr ⟨o, s _ _ upd_same⟩)⟩
  · exact ⟨fun _ => none, (fun b x e => nomatch e), fun H' _ => .inr h⟩
theorem wm_script {G1 : Hp} {a : Addr} {ns : List Int} {es : Es} (hsq : ∀ H', Same G1 H' → SqL K H' a (ns.map V.int)) (hi : es[0]? = some (some (.adr a))) (hl : ns.length ≤ 100000) :
    WkM K (moS G1) (iList K (tSl (rSlL K) (tVar 0) tNoPart (tPart (tC (.int 63))))) es (fun xs => ∃ ys, ys = ns.take 63 ∧ xs = ys.map Dt.int) := fun σ G H he hs m R q => by
  obtain ⟨v, e1, r1⟩ := he.at_ 0 _ hi
  cases r1
  refine ⟨_, e1, ?_⟩
  refine eo_none (K := K) (es := es) σ G H he hs _ fun H2 s2 => (eo_some (K := K) (es := es) (i := 63) ev_int) σ G H2 he (hs.trans s2) _ fun H3 s3 => ?_
  have s23 : Same H H3 := s2.trans s3
  refine ⟨a, ns.map V.int, rfl, hsq H3 (Same.trans m (hs.trans s23)), fun p hp => ⟨p, rfl, ⟨_, .inl (.inl upd_same)⟩, ?_⟩⟩
  have e63 : cutV (ns.map V.int) none (some 63) = (ns.take 63).map V.int := by
    unfold cutV
    rw [show (63 : Int) = ((63 : Nat) : Int) from rfl, HT.sIx_nat, HT.sIx_none, List.drop_zero, Nat.sub_zero]
    by_cases h : 63 ≤ (ns.map V.int).length
    · rw [Nat.min_eq_left h, List.map_take]
    · rw [Nat.min_eq_right (by omega), List.take_of_length_le (Nat.le_refl _), List.map_take, List.take_of_length_le (by omega)]
  rw [e63]
  have k1 := OkS.of m (Ok.more hs s23)
  have k2 := k1.trans (OkS.of k1.ok (Ok.new (p := p) (o := .lst ((ns.take 63).map V.int)) (hs.trans s23) hp))
  exact q _ _ _ _ ⟨_, rfl, rfl⟩ k2 (wkj_list (.inl (.inl upd_same)) (ints_rp _))
end
section
variable {P : Program} {w : World} {K : PySem.W.Frag} {mg : Str → Option Value} {base : Heap}
theorem sc_law_hand : FnScope ["_law_script", "_law_cells", "_law_cell"] ["_law_script"] (defScope Hd.s_law_hand) := ⟨rfl, rfl, rfl, by decide +kernel, rfl, by decide +kernel, by decide +kernel⟩
def sp_law_hand (K : PySem.W.Frag) : Sp := fun vs H Q _ => ∃ (a : Addr) (ns : List Int), vs = [.ref a] ∧ SqL K H a (ns.map V.int) ∧ ns.length ≤ 100000 ∧
  ∀ (h c : Addr) (cells : List Int) (i3 : Int) (H' : Hp), Same H H' → H h = none → H' h = some (.lst (.ref c :: [0, 0, i3, 0].map V.int)) → H' c = some (.lst (cells.map V.int)) → h ≠ c → (∀ n ∈ cells, 0 ≤ n) → 0 ≤ i3 → Q (.ref h) H'
theorem cal_law_hand (T : Txt K mg) : C8.Cal P w K mg base 1 "_law_hand" (sp_law_hand K) [] := by
  obtain ⟨fd, F⟩ := T.f_law_hand
  have nd := sc_law_hand.nd
  refine ⟨_, fd, ["_law_script"], [], F.ok sc_law_hand (fun vs H Q E h => ?_) (fun cdv A outer s H vs Q E hr h => ⟨_, PSs.nox (
(pss_cons (ps_setLc (i := 1) (own := [("_law_cell", 2)]) (g := (gName 2)) rfl nd rfl rfl (sw_true rfl rfl rfl (by decide +kernel)) (kList K rfl (pe_slice (kSlL K) (pv 0) po_none (po_some pe_int))) (blkOk_by (by show blkC ["_law_script", "_law_cells", "_law_cell"] (defScope Hd.s_law_hand) _ _ = true; decide +kernel)) (fun _ _ _ _ _ => (pg_name (i := 2) nd rfl (by first | exact Or.inl rfl | exact Or.inr rfl))) (fun _ _ _ _ _ => pts_nil) (fun _ _ _ _ _ => (pe_callB call_abs (by rfl) T.abs (by decide +kernel) (pa_cons (pe_callTy call_int1 (by rfl) T.int (by decide +kernel) (pa_cons (pv 2) pa_nil)) pa_nil))))
      (pss_one (ps_ret (pe_lst (pa_cons (pv 1) (pa_cons pe_int (pa_cons pe_int (pa_cons (pe_op op_add pe_int (pe_callB (kLen K) (by rfl) T.len (by decide +kernel) (pa_cons (pv 1) pa_nil))) (pa_cons pe_int pa_nil)))))))))
      ), ?_⟩), T.m_law_hand, F.kp, F.bindsN fun kV doc pm an cdv ct us hu => (match us, hu with | [_], _ => rfl), .nil⟩
  · obtain ⟨a, ns, rfl, _⟩ := h
    rfl
  obtain ⟨a, ns, rfl, hq, hl, q⟩ := h
  obtain ⟨G1, s1, hsq⟩ := keep_sq hq
  have fin : ∀ ts : TS, (Xs K (moS G1) ts [some (.adr a), none, none] [] (fun _ _ => False) (RL1 K fun ds => ∃ (cells : List Int) (i3 : Int), (∀ n ∈ cells, 0 ≤ n) ∧ 0 ≤ i3 ∧ ds = [.lst (cells.map Dt.int), .int 0, .int 0, .int i3, .int 0])) → ts { nx := fun _ H' => Q .non H', rt := Q } (start ["_law_script", "_law_cells", "_law_cell"] [.ref a]) H := fun ts X => by
    refine X G1 G1 H _ H _ ⟨G1, Same.refl _, .of (.refl s1), Same.refl _, SlE.start (.cons (.adr a) .nil), List.nodup_nil, fun p hp => by cases hp⟩ (fun _ _ _ _ z => z.elim) fun v G' H' k m' r => ?_
    obtain ⟨ds, p, xs, ⟨cells, i3, hc, h3, rfl⟩, rfl, h0, hg, hx, ra⟩ := r
    cases ra with | cons r1 t1 => cases t1 with | cons r2 t2 => cases t2 with | cons r3 t3 => cases t3 with | cons r4 t4 => cases t4 with | cons r5 t5 =>
    cases t5
    cases r2; cases r3; cases r4; cases r5
    cases r1 with
    | lst g1 g2 =>
      rename_i c zs
      rw [rp_ints g2] at g1
      exact q p c cells i3 H' (fun b o e => k.hh b o (fun z => z) e) h0 hx (k.gh _ _ g1) (fun e => by rw [e, g1] at hg; cases hg) hc h3
  refine fin _ ?_
  refine x_seq (x_asgM (P := fun d => ∃ cells : List Int, (∀ n ∈ cells, 0 ≤ n) ∧ d = .lst (cells.map Dt.int)) (em_imp (EvML.d (eml_lcM (fun ys => ys = ns.take 63) Dt.int (fun _ => true) (fun z => .int (if z < 0 then -z else z)) (is := [2]) (wm_script hsq rfl hl) (by simp) (fun ys e => by rw [e, List.length_take]; omega)
    fun ys _ z _ => tg_name ⟨et_yes, fun _ => ev_cb (ea_cons (ev_cb (ea_cons (ev_var rfl) ea_nil) rc_int) ea_nil) rc_absN⟩)) ?_) ?_)
  · rintro d ⟨ds, ⟨ys, rfl, rfl⟩, rfl⟩
    refine ⟨(ns.take 63).map fun z => if z < 0 then -z else z, fun n hn => ?_, ?_⟩
    · obtain ⟨z, _, rfl⟩ := List.mem_map.mp hn
      split <;> omega
    · rw [filter_yes, List.map_map]; rfl
  rintro d ⟨cells, hc, rfl⟩
  exact x_retL (el_lst (ea_cons (ev_var rfl) (ea_cons ev_int (ea_cons ev_int (ea_cons (ev_op ev_int (ev_cb (ea_cons (ev_var rfl) ea_nil) rc_lenL) rd_i0) (ea_cons ev_int ea_nil))))) (by simp)) ⟨cells, _, hc, by omega, rfl⟩
end
end DL
end
section
set_option Elab.async false
set_option linter.all false
set_option maxRecDepth 100000
set_option maxHeartbeats 0
/-! E11: the law -/
namespace DL
open PySem L2 PyProof.Rows
section
variable {X : Cx}
theorem room65 {k : Nat} {A : Around} (r : Room k A) : A.units + 65 < cLine := by have := r.un; omega
theorem kNotInD (K : PySem.W.Frag) (hu : X.A.units + 65 < cLine) (hK : X.K = K := by rfl) : OpR X (compareOp .NotIn) (rNotInD K) := hK ▸ op_notInD hu
end
section
variable {K : PySem.W.Frag} {M : Mo} {es : Es}
theorem emt_and {t u : TT} {a : Bool} (h1 : EvT K t es a) (h2 : a = true → EvMT K M u es fun _ => True) : EvMT K M (tAnd t u) es fun _ => True := fun σ G H he hs m Q q => h1 σ G H he hs _ fun H1 k1 => by
  have k2 := OkS.of m (Ok.more hs k1)
  cases a with
  | false => exact q false _ _ trivial k2
  | true => exact h2 rfl σ G H1 he k2.gh k2.ok _ fun b G2 H2 _ k3 => q b _ _ trivial (k2.trans k3)
theorem cutFrom1 {xs : List Dt} : cutD xs (some 1) none = xs.drop 1 := by
  unfold cutD
  rw [show (1 : Int) = ((1 : Nat) : Int) from rfl, HT.sIx_nat, HT.sIx_none]
  cases xs with
  | nil => simp
  | cons x r =>
    rw [Nat.min_eq_left (by simp)]
    exact List.take_of_length_le (by rw [List.length_drop]; exact Nat.le_refl _)
end
/-- the law's row of pairs of one person -/
def dueOne (n : Nat) (good : List (List Nat)) (a m : Nat) : List (Nat × Nat) := ((List.range m).filter fun b => !decide (a = b) && good.all fun L => decide (L.idxOf a < L.idxOf b)).map fun b => (a, b)
theorem dueOne_len (n : Nat) (good : List (List Nat)) (a m : Nat) : (dueOne n good a m).length ≤ m := by
  unfold dueOne
  rw [List.length_map]
  exact Nat.le_trans (List.length_filter_le ..) (by rw [List.length_range]; exact Nat.le_refl _)
theorem dueOne_succ (n : Nat) (good : List (List Nat)) (a m : Nat) : dueOne n good a (m + 1) = dueOne n good a m ++ (if (!decide (a = m) && good.all fun L => decide (L.idxOf a < L.idxOf m)) = true then [(a, m)] else []) := by
  unfold dueOne
  rw [List.range_succ, List.filter_append, List.map_append]
  congr 1
  rw [List.filter_cons]
  split <;> rfl
section
variable {P : Program} {w : World} {K : PySem.W.Frag} {mg : Str → Option Value} {base : Heap}
theorem sc_law : FnScope ["_law_script", "_law_hand_here", "_law_turn", "_law_people", "_law_lots_here", "_law_book", "_law_sightings", "_law_good", "_law_order_here", "_law_due", "_law_one", "_law_other", "_law_told", "_law_pair"] ["_law_script"] (defScope Hd.s_law) := ⟨rfl, rfl, rfl, by decide +kernel, rfl, by decide +kernel, by decide +kernel⟩
def sp_law (K : PySem.W.Frag) : Sp := fun vs H Q _ => ∃ (a : Addr) (ns : List Int), vs = [.ref a] ∧ SqL K H a (ns.map V.int) ∧ ns.length ≤ 100000 ∧ H (tbP K) = some (.tbl #[]) ∧ ∀ H', Q (.bl true) H'
theorem ok_law (T : Txt K mg) (TB : TabL K mg base) {fd : FuncData} (F : FunD K "law" "law" (defArgs Hd.s_law) (defBody Hd.s_law) (defScope Hd.s_law) [] [] (He.ga K "law") fd) : FnOk P w K mg base CX0 10 (He.ga K "law") fd ["_law_script"] (sp_law K) := by
  have c_law_hand := cal_law_hand (P := P) (w := w) (base := base) T
  have c_law_draw := cal_law_draw (P := P) (w := w) (base := base) T
  have c_law_great := cal_law_great (P := P) (w := w) (base := base) T
  have c_law_lots := cal_law_lots (P := P) (w := w) (base := base) T
  have c_law_packed := cal_law_packed (P := P) (w := w) (base := base) T TB
  have c_law_seen := cal_law_seen (P := P) (w := w) (base := base) T
  have c_law_order := cal_law_order (P := P) (w := w) (base := base) T
  have c_law_lists := cal_law_lists (P := P) (w := w) (base := base) T
  have c_law_fits := cal_law_fits (P := P) (w := w) (base := base) T
  have c_law_is := cal_law_is (P := P) (w := w) (base := base) T
  have c_surely_ahead := cal_surely_ahead (P := P) (w := w) (base := base) T
  have c_Book := mak_Book (P := P) (w := w) (base := base) T
  have nd := sc_law.nd
  refine F.ok sc_law (fun vs H Q E h => ?_) (fun cdv A outer s H vs Q E hr h => ⟨_, PSs.nox (
(pss_cons (ps_set (i := 1) nd rfl (by first | exact Or.inl rfl | exact Or.inr rfl) (C8.pe_c c_law_hand hr (by decide) (by rfl) (pa_cons (pv 0) pa_nil)))
      (pss_cons (ps_if (pt_cmpR op_eq (C8.pe_c c_law_draw hr (by decide) (by rfl) (pa_cons (pv 1) (pa_cons pe_int pa_nil))) pe_int (nomark _)) (pss_one (ps_ret (C8.pe_c c_law_great hr (by decide) (by rfl) (pa_cons (pv 1) pa_nil)))) pss_nil)
      (pss_cons (ps_for PassesOwn.never rfl (pi_range1 (by rfl) T.range (pa_cons pe_int pa_nil)) (pg_name (i := 2) nd rfl (by first | exact Or.inl rfl | exact Or.inr rfl)) (pss_cons (ps_set (i := 3) nd rfl (by first | exact Or.inl rfl | exact Or.inr rfl) (pe_ix (kIxL K) (pe_lst (pa_cons (pe_op op_add pe_int (C8.pe_c c_law_draw hr (by decide) (by rfl) (pa_cons (pv 1) (pa_cons pe_int pa_nil)))) (pa_cons pe_int (pa_cons (pe_ix (kIxL K) (pe_lst (pa_cons pe_int (pa_cons pe_int (pa_cons pe_int (pa_cons pe_int pa_nil))))) (C8.pe_c c_law_draw hr (by decide) (by rfl) (pa_cons (pv 1) (pa_cons pe_int pa_nil))) (fun _ _ => rfl)) pa_nil)))) (pv 2) (fun _ _ => rfl)))
      (pss_cons (ps_set (i := 4) nd rfl (by first | exact Or.inl rfl | exact Or.inr rfl) (C8.pe_c c_law_lots hr (by decide) (by rfl) (pa_cons (pv 1) (pa_cons (pv 3) (pa_cons pe_int pa_nil)))))
      (pss_cons (ps_if (PW.pt (pw_and (pt_cmpR op_eq (pv 2) pe_int (nomark _)) (pw_and1 (pt_cmpR op_eq (C8.pe_c c_law_draw hr (by decide) (by rfl) (pa_cons (pv 1) (pa_cons pe_int pa_nil))) pe_int (nomark _))))) (pss_cons (ps_set (i := 3) nd rfl (by first | exact Or.inl rfl | exact Or.inr rfl) pe_int)
      (pss_one (ps_set (i := 4) nd rfl (by first | exact Or.inl rfl | exact Or.inr rfl) (C8.pe_c c_law_packed hr (by decide) (by rfl) (pa_cons (pv 1) pa_nil))))) pss_nil)
      (pss_cons (ps_set (i := 5) nd rfl (by first | exact Or.inl rfl | exact Or.inr rfl) (C8.pe_mk c_Book hr (by decide) (by rfl) (pa_cons (pv 3) (pa_cons (pv 4) pa_nil))))
      (pss_cons (ps_set (i := 6) nd rfl (by first | exact Or.inl rfl | exact Or.inr rfl) (C8.pe_c c_law_seen hr (by decide) (by rfl) (pa_cons (pv 1) (pa_cons (pv 3) (pa_cons (pv 4) (pa_cons (C8.pe_c c_law_order hr (by decide) (by rfl) (pa_cons (pv 1) (pa_cons (pv 3) pa_nil))) (pa_cons pe_int pa_nil)))))))
      (pss_cons (ps_setLc (i := 7) (own := [("_law_order_here", 8)]) (g := (gName 8)) rfl nd rfl rfl (sw_true rfl rfl rfl (by decide +kernel)) (kList K rfl (C8.pe_c c_law_lists hr (by decide) (by rfl) (pa_cons (pv 3) pa_nil))) (blkOk_by (by show blkC ["_law_script", "_law_hand_here", "_law_turn", "_law_people", "_law_lots_here", "_law_book", "_law_sightings", "_law_good", "_law_order_here", "_law_due", "_law_one", "_law_other", "_law_told", "_law_pair"] (defScope Hd.s_law) _ _ = true; decide +kernel)) (fun _ _ _ _ _ => (pg_name (i := 8) nd rfl (by first | exact Or.inl rfl | exact Or.inr rfl))) (fun _ _ _ _ _ => (pts_one (pt_val (C8.pe_c c_law_fits hr (by decide) (by rfl) (pa_cons (pv 4) (pa_cons (pv 8) (pa_cons (pv 6) pa_nil))))))) (fun _ _ _ _ _ => (pv 8)))
      (pss_cons (ps_set (i := 9) nd rfl (by first | exact Or.inl rfl | exact Or.inr rfl) (pe_lst pa_nil))
      (pss_cons (ps_for PassesOwn.never rfl (pi_range1 (by rfl) T.range (pa_cons (pv 3) pa_nil)) (pg_name (i := 10) nd rfl (by first | exact Or.inl rfl | exact Or.inr rfl)) (pss_one (ps_for PassesOwn.never rfl (pi_range1 (by rfl) T.range (pa_cons (pv 3) pa_nil)) (pg_name (i := 11) nd rfl (by first | exact Or.inl rfl | exact Or.inr rfl)) (pss_one (ps_if (PW.pt (pw_and (pt_cmpR op_ne (pv 10) (pv 11) (nomark _)) (pw_and1 (pt_val (pe_callB (kAll K) (by rfl) T.all (by decide +kernel) (pa_cons (pe_lc (own := [("_law_order_here", 8)]) (g := (gName 8)) rfl nd (kList K rfl (pv 7)) (blkOk_by (by show blkC ["_law_script", "_law_hand_here", "_law_turn", "_law_people", "_law_lots_here", "_law_book", "_law_sightings", "_law_good", "_law_order_here", "_law_due", "_law_one", "_law_other", "_law_told", "_law_pair"] (defScope Hd.s_law) _ _ = true; decide +kernel)) (fun _ _ _ _ _ => (pg_name (i := 8) nd rfl (by first | exact Or.inl rfl | exact Or.inr rfl))) (fun _ _ _ _ _ => pts_nil) (fun _ _ _ _ _ => (pe_cmpR op_lt (pe_tidx (pv 8) (pv 10)) (pe_tidx (pv 8) (pv 11)) (nomark _)))) pa_nil)))))) (pss_one (kAppend K (st := ps_expr (pe_bm PySem.F.plainAttrs_list PySem.F.slot_list_append PySem.F.type_list_append mt_append (pv 9) (pa_cons (pe_tup (pa_cons (pv 10) (pa_cons (pv 11) pa_nil))) pa_nil))))) pss_nil)))))
      (pss_cons (ps_set (i := 12) nd rfl (by first | exact Or.inl rfl | exact Or.inr rfl) (C8.pe_c c_surely_ahead hr (by decide) (by rfl) (pa_cons (pv 5) (pa_cons (pv 6) pa_nil))))
      (pss_cons (ps_if (PW.pt (pw_or (pt_not (pt_val (pe_callB (kIsi K) (by rfl) T.isinstance (by decide +kernel) (pa_cons (pv 12) (pa_cons (pe_bltn (v := .ty "list") (by rfl) T.list (by decide +kernel) rfl) pa_nil))))) (pw_or1 (pt_not (pt_val (C8.pe_c c_law_is hr (by decide) (by rfl) (pa_cons (pv 12) (pa_cons (pv 9) pa_nil)))))))) (pss_one (ps_ret pe_bl)) pss_nil)
      (pss_cons (kAppend K (st := ps_expr (pe_bm PySem.F.plainAttrs_list PySem.F.slot_list_append PySem.F.type_list_append mt_append (pv 12) (pa_cons pe_non pa_nil))))
      (pss_cons (ps_if (pt_not (pt_val (C8.pe_c c_law_is hr (by decide) (by rfl) (pa_cons (C8.pe_c c_surely_ahead hr (by decide) (by rfl) (pa_cons (pv 5) (pa_cons (pe_callTy (kTup K) (by rfl) T.tuple (by decide +kernel) (pa_cons (pv 6) pa_nil)) pa_nil))) (pa_cons (pv 9) pa_nil))))) (pss_one (ps_ret pe_bl)) pss_nil)
      (pss_one (ps_if (pt_val (pe_callB (kAny K) (by rfl) T.any (by decide +kernel) (pa_cons (pe_lc (own := [("_law_pair", 13)]) (g := (gName 13)) rfl nd (kList K rfl (C8.pe_c c_surely_ahead hr (by decide) (by rfl) (pa_cons (pv 5) (pa_cons (pe_slice (kSlL K) (pv 6) (po_some pe_int) po_none) pa_nil)))) (blkOk_by (by show blkC ["_law_script", "_law_hand_here", "_law_turn", "_law_people", "_law_lots_here", "_law_book", "_law_sightings", "_law_good", "_law_order_here", "_law_due", "_law_one", "_law_other", "_law_told", "_law_pair"] (defScope Hd.s_law) _ _ = true; decide +kernel)) (fun _ _ _ _ _ => (pg_name (i := 13) nd rfl (by first | exact Or.inl rfl | exact Or.inr rfl))) (fun _ _ _ _ _ => pts_nil) (fun _ _ _ _ _ => (pe_cmpR (kNotInD K (room65 hr)) (pv 13) (pv 9) (by rfl)))) pa_nil))) (pss_one (ps_ret pe_bl)) pss_nil)))))))))))))))
      (pss_one (ps_ret pe_bl)))))
      ), ?_⟩)
  · obtain ⟨a, ns, rfl, _⟩ := h
    rfl
  obtain ⟨a, ns, rfl, hq, hl, hT, q⟩ := h
  have fin : ∀ rest : TS, (∀ h : Addr, Xs K (moH K h) rest [none, some (.adr h), none, none, none, none, none, none, none, none, none, none, none, none] [] (fun _ _ => False) (RD1 K fun d => d = .bl true)) →
      tSeq (tAsg (tCall (sp_law_hand K) [] C8.E0 (tCons (tVar 0) tNil)) (gName 1)) rest { nx := fun _ H' => Q .non H', rt := Q } (start ["_law_script", "_law_hand_here", "_law_turn", "_law_people", "_law_lots_here", "_law_book", "_law_sightings", "_law_good", "_law_order_here", "_law_due", "_law_one", "_law_other", "_law_told", "_law_pair"] [.ref a]) H := fun rest X => by
    refine ⟨.ref a, rfl, a, ns, rfl, hq, hl, fun h c cells i3 H' sm hh hx hc hne hp h3 => ?_⟩
    have gc : Same (upd (fun _ => none) c (.lst (cells.map V.int))) H' := fun b x e => by
      by_cases z : b = c
      · subst z; rw [upd_same] at e; cases e; exact hc
      · rw [upd_ne z] at e; cases e
    have hT' := sm _ _ hT
    have hPc : tbP K ≠ c := fun e => by rw [e, hc] at hT'; cases hT'
    have hhP : h ≠ tbP K := fun e => by rw [e, hT] at hh; cases hh
    have m0 : (moH K h).ok (upd (fun _ => none) c (.lst (cells.map V.int))) H' := ⟨⟨hhP, by rw [upd_ne hPc], #[], hT', trivial, fun pos cv e => by cases e⟩, by rw [upd_ne hne], c, cells, 0, 0, i3, 0, hx, upd_same, hp, by omega, by omega, h3, by omega⟩
    refine X h _ _ H' _ H' _ ⟨_, Same.refl _, .of (.refl gc), m0, ?_, List.nodup_nil, fun p hp => by cases hp⟩ (fun _ _ _ _ z => z.elim) fun v G' H2 k m' ⟨d, hd, rv⟩ => by subst hd; cases rv; exact q H2
    exact ⟨rfl, fun i d e => by
      match i, e with
      | 1, e => cases e; exact ⟨_, rfl, .adr h⟩
      | 0, e | 2, e | 3, e | 4, e | 5, e | 6, e | 7, e | 8, e | 9, e | 10, e | 11, e | 12, e | 13, e => cases e
      | n + 14, e => cases e⟩
  refine fin _ fun h => ?_
  refine x_seq (x_ifM (P := fun _ => True) (emt_test (em_opL (em_draw (m := 30) rfl ev_int (by omega) (by omega)) ev_int fun d ⟨v, _, e⟩ => ⟨.bl (decide ((v : Int) = 0)), ⟨_, trivial, rfl⟩, by rw [e]; exact rd_eqI⟩)) (fun _ => x_retM (em_call (ema_of (ea_cons (ev_var rfl) ea_nil)) fun ds e => ⟨h, rfl, e, trivial, fun d hd => hd⟩)) fun _ => x_next ?_)
  refine x_seq (x_for (is := [2]) (xs := rngD 0 3)
    (fun i es mu => ∃ o2 o3 o4 o5 o6 o7 o9 o10 o11 o12, es = [none, some (.adr h), o2, o3, o4, o5, o6, o7, none, o9, o10, o11, o12, none] ∧ mu = [])
    (wk_range1 (n := 3) (ea_cons ev_int ea_nil) (by omega) (by omega)) ⟨_, _, _, _, _, _, _, _, _, _, rfl, rfl⟩ ?_ ?_)
  · rintro i y es mu hy ⟨o2, o3, o4, o5, o6, o7, o9, o10, o11, o12, rfl, rfl⟩
    obtain ⟨hi, rfl⟩ := rngD_at hy
    refine tg_name (x_seq (x_asgM (P := fun d => ∃ n : Nat, 1 ≤ n ∧ n ≤ 6 ∧ d = dn n) (em_opL (Pa := fun d => ∃ a b : Nat, 1 ≤ a ∧ a ≤ 4 ∧ 5 ≤ b ∧ b ≤ 6 ∧ d = .lst [dn a, dn 4, dn b])
      (em_lst (ema_cons (P := fun d => ∃ a : Nat, 1 ≤ a ∧ a ≤ 4 ∧ d = dn a) (em_opR ev_int (em_draw (m := 4) rfl ev_int (by omega) (by omega)) fun d ⟨v, hv, e⟩ => ⟨dn (1 + v), ⟨1 + v, by omega, by omega, rfl⟩, by rw [e]; exact rd_i0 (f := fun i j => i + j) (i := 1) (j := (v : Int))⟩) fun _ _ => ema_cons (em_of (ev_int (i := 4))) fun _ _ =>
        ema_cons (P := fun d => ∃ b : Nat, 5 ≤ b ∧ b ≤ 6 ∧ d = dn b) (em_opR (EvL.d (el_lst (ea_cons (ev_int (i := 5)) (ea_cons (ev_int (i := 5)) (ea_cons (ev_int (i := 5)) (ea_cons (ev_int (i := 6)) ea_nil)))) (by simp))) (em_draw (m := 4) rfl ev_int (by omega) (by omega)) fun d ⟨v, hv, e⟩ => ?_) fun _ _ => ema_nil) ?_) (ev_var rfl) fun d ⟨a, b, h1, h2, h3, h4, e⟩ => ?_) ?_))
    · subst e
      have : v = 0 ∨ v = 1 ∨ v = 2 ∨ v = 3 := by omega
      rcases this with rfl | rfl | rfl | rfl
      · exact ⟨dn 5, ⟨5, by omega, by omega, rfl⟩, rd_ixL (atI_nat rfl)⟩
      · exact ⟨dn 5, ⟨5, by omega, by omega, rfl⟩, rd_ixL (atI_nat rfl)⟩
      · exact ⟨dn 5, ⟨5, by omega, by omega, rfl⟩, rd_ixL (atI_nat rfl)⟩
      · exact ⟨dn 6, ⟨6, by omega, by omega, rfl⟩, rd_ixL (atI_nat rfl)⟩
    · rintro ds ⟨d1, r1, ⟨a, a1, a2, rfl⟩, ⟨d2, r2, rfl, ⟨d3, r3, ⟨b, b1, b2, rfl⟩, rfl, rfl⟩, rfl⟩, rfl⟩
      exact ⟨by simp, a, b, a1, a2, b1, b2, rfl⟩
    · subst e
      have : i = 0 ∨ i = 1 ∨ i = 2 := by omega
      rcases this with rfl | rfl | rfl
      · exact ⟨dn a, ⟨a, by omega, by omega, rfl⟩, rd_ixL (atI_nat (j := 0) rfl)⟩
      · exact ⟨dn 4, ⟨4, by omega, by omega, rfl⟩, rd_ixL (atI_nat (j := 1) rfl)⟩
      · exact ⟨dn b, ⟨b, by omega, by omega, rfl⟩, rd_ixL (atI_nat (j := 2) rfl)⟩
    rintro d ⟨n0, hn1, hn6, rfl⟩
    refine x_seq (x_asgM (P := fun d => ∃ lots, BookOk n0 lots ∧ d = lotsD lots) (em_call (ema_of (ea_cons (ev_var rfl) (ea_cons (ev_var rfl) (ea_cons (ev_int (i := 8)) ea_nil)))) fun ds e => ⟨(h, n0, 8), rfl, e, ⟨hn1, by simp only; omega, by simp only; omega⟩, fun d hd => hd⟩) ?_)
    rintro d ⟨lots0, hB0, rfl⟩
    refine x_seq (Xs.imp2 (N' := fun es mu => ∃ (n : Nat) (lots : LM.Lots), 1 ≤ n ∧ n ≤ 6 ∧ BookOk n lots ∧ es = [none, some (.adr h), some (.int (0 + (i : Int))), some (dn n), some (lotsD lots), o5, o6, o7, none, o9, o10, o11, o12, none] ∧ mu = []) (x_ifM (P := fun _ => True)
      (emt_and (et_test (ev_op (ev_var rfl) ev_int rd_eqI)) fun _ => emt_test (em_opL (em_draw (m := 20) rfl ev_int (by omega) (by omega)) ev_int fun d ⟨v, _, e⟩ => ⟨.bl (decide ((v : Int) = 0)), ⟨_, trivial, rfl⟩, by rw [e]; exact rd_eqI⟩))
      (fun _ => x_seq (x_asg (ev_int (i := 6)) (x_asgM (P := fun d => ∃ lots, BookOk 6 lots ∧ d = lotsD lots) (em_call (ema_of (ea_cons (ev_var rfl) ea_nil)) fun ds e => ⟨h, rfl, e, trivial, fun d hd => hd⟩) fun d ⟨lots, hB, e⟩ => ⟨6, lots, by omega, by omega, hB, by subst e; rfl, rfl⟩))) fun _ => x_next ⟨n0, lots0, hn1, hn6, hB0, rfl, rfl⟩) ?_)
    rintro es mu ⟨n, lots, hn1, hn6, hB, rfl, rfl⟩
    clear hB0
    refine x_seq (x_asg (ev_mk T (ea_cons (ev_var rfl) (ea_cons (ev_var rfl) ea_nil)) hB) ?_)
    refine x_seq (x_asgM (P := fun d => ∃ (L0 : List Nat) (cs : List (List Nat)), LM.IsOrder n L0 ∧ cs.length ≤ 5 ∧ (∀ c ∈ cs, CrOk n c) ∧ d = .lst ((LM.seenBy n lots L0 cs).map sgD)) (em_call (Pa := fun ds => ∃ L0, LM.IsOrder n L0 ∧ ds = [.adr h, dn n, lotsD lots, crD L0, dn 5]) (ema_imp (ema_cons (em_of (ev_var rfl)) fun _ _ => ema_cons (em_of (ev_var rfl)) fun _ _ => ema_cons (em_of (ev_var rfl)) fun _ _ =>
      ema_cons (P := fun d => ∃ L0, LM.IsOrder n L0 ∧ d = crD L0) (em_call (ema_of (ea_cons (ev_var rfl) (ea_cons (ev_var rfl) ea_nil))) fun ds e => ⟨(h, n), rfl, e, by simp only; omega, fun d hd => hd⟩) fun _ _ => ema_cons (em_of (ev_int (i := 5))) fun _ _ => ema_nil) ?_) fun ds ⟨L0, hL, e⟩ => ⟨(h, n, lots, L0, 5), rfl, e, ⟨hB.n12, hB.len, ?_, hL.nd, fun p hp => (hL.mem p).mp hp, by simp only; omega⟩, fun d ⟨cs, g1, g2, g3⟩ => ⟨L0, cs, hL, g1, g2, g3⟩⟩) ?_)
    · rintro ds ⟨_, _, rfl, ⟨_, _, rfl, ⟨_, _, rfl, ⟨_, _, ⟨L0, hL, rfl⟩, ⟨_, _, rfl, rfl, rfl⟩, rfl⟩, rfl⟩, rfl⟩, rfl⟩
      exact ⟨L0, hL, rfl⟩
    · intro l hl
      have := nd_le ((hB.cr l hl).inc.imp fun h => Nat.ne_of_lt h) (hB.cr l hl).lt
      omega
    rintro d ⟨L0, cs, hL0, hcs5, hcs, rfl⟩
    have hlen : ∀ l ∈ lots, l.length ≤ 1000 := fun l hl => by
      have := nd_le ((hB.cr l hl).inc.imp fun h => Nat.ne_of_lt h) (hB.cr l hl).lt
      omega
    have hS := LM.seenBy_ok hB.lotsOk hL0 fun c hc p hp => (hcs c hc).lt p hp
    have f0 : LM.fits n lots (LM.seenBy n lots L0 cs) L0 = true := LM.seenBy_fits
    have hSl : (LM.seenBy n lots L0 cs).length ≤ 5 := by unfold LM.seenBy; rw [List.length_map]; exact hcs5
    have hc1 : ∀ x ∈ LM.seenBy n lots L0 cs, CrOk n x.1 := fun x hx => by
      obtain ⟨c, hc, rfl⟩ := List.mem_map.mp hx
      exact hcs c hc
    generalize LM.seenBy n lots L0 cs = S at hS f0 hSl hc1
    have hsub : ∀ x ∈ S.drop 1, x ∈ S := fun x hx => List.mem_of_mem_drop hx
    have hFit := fit_valid hB hS hc1 (by omega) hL0 ((LM.fits_iff hB.lotsOk hS hL0).mp f0)
    have hFit1 := fit_valid hB (sgtOk_sub hS hsub) (fun x hx => hc1 x (hsub x hx)) (by rw [List.length_drop]; omega) hL0 ((LM.fits_iff hB.lotsOk (sgtOk_sub hS hsub) hL0).mp (fits_sub hsub f0))
    have hdue := due_eq hB hS hL0 f0
    have hps := pairs_sub hB hS hL0 f0 hsub
    have hpl := pairsOf_len n (canTT lots S)
    have hnn : n * n ≤ 6 * 6 := Nat.mul_le_mul hn6 hn6
    have hpl1 := pairsOf_len n (canTT lots (S.drop 1))
    have hLl := listsOf_len hn6
    refine x_seq (x_asg (EvL.d (el_lc (listsOf n) tbD (fun L => LM.fits n lots S L) tbD (is := [8]) (wk_list (ev_call n (ea_cons (ev_var rfl) ea_nil) hn6)) (by simp) (by omega) fun L hL => tg_name ⟨et_test (ev_call (true, n, lots, L, S) (ea_cons (ev_var rfl) (ea_cons (ev_var rfl) (ea_cons (ev_var rfl) ea_nil))) ⟨hB.n12, hB.len, hlen, (mem_listsOf.mp hL).nd, fun p hp => ((mem_listsOf.mp hL).mem p).mp hp, by simp only; omega⟩), fun _ => ev_var rfl⟩)) ?_)
    have hgood : ∀ L ∈ (listsOf n).filter (fun L => LM.fits n lots S L), LM.IsOrder n L := fun L hL => mem_listsOf.mp (List.mem_filter.mp hL).1
    have hgl : ((listsOf n).filter (fun L => LM.fits n lots S L)).length ≤ 46656 := Nat.le_trans (List.length_filter_le ..) hLl
    generalize hgd : (listsOf n).filter (fun L => LM.fits n lots S L) = good at hgood hgl hdue
    refine x_seq (x_new (el_lst ea_nil (by decide)) fun l => x_seq (x_for (is := [10]) (xs := (List.range n).map dn)
      (fun a es mu => ∃ o10 o11, es = [none, some (.adr h), some (.int (0 + (i : Int))), some (dn n), some (lotsD lots), some (bkD n lots), some (.lst (S.map sgD)), some (.lst (good.map tbD)), none, some (.adr l), o10, o11, o12, none] ∧ mu = [(l, ((List.range a).flatMap fun a => dueOne n good a n).map prD)])
      (wk_is (wk_range1 (n := (n : Int)) (ea_cons (ev_var rfl) ea_nil) (by omega) (by omega)) (by rw [Int.toNat_natCast, rng0])) ⟨_, _, rfl, rfl⟩ ?_ ?_))
    · rintro a y es mu hy ⟨o10, o11, rfl, rfl⟩
      obtain ⟨x, hx, rfl⟩ := map_at hy
      obtain ⟨ha, rfl⟩ := range_at hx
      have b1 := flat_len (fun a => dueOne n good a n) 6 (fun a => Nat.le_trans (dueOne_len n good a n) hn6) (List.range x)
      rw [List.length_range] at b1
      refine tg_name (x_for (is := [11]) (xs := (List.range n).map dn)
        (fun b es mu => ∃ o11, es = [none, some (.adr h), some (.int (0 + (i : Int))), some (dn n), some (lotsD lots), some (bkD n lots), some (.lst (S.map sgD)), some (.lst (good.map tbD)), none, some (.adr l), some (dn x), o11, o12, none] ∧ mu = [(l, (((List.range x).flatMap fun a => dueOne n good a n) ++ dueOne n good x b).map prD)])
        (wk_is (wk_range1 (n := (n : Int)) (ea_cons (ev_var rfl) ea_nil) (by omega) (by omega)) (by rw [Int.toNat_natCast, rng0])) ⟨_, rfl, by simp [dueOne]⟩ ?_ ?_)
      · rintro b y es mu hy ⟨o11, rfl, rfl⟩
        obtain ⟨z, hz, rfl⟩ := map_at hy
        obtain ⟨hb, rfl⟩ := range_at hz
        have b2 := dueOne_len n good x z
        have e2 := dueOne_succ n good x z
        generalize ((List.range x).flatMap fun a => dueOne n good a n) = A at b1
        generalize dueOne n good x z = D at b2 e2
        refine tg_name (x_if (et_and (et_test (ev_op (ev_var rfl) (ev_var rfl) rd_neN)) fun _ => et_test (ev_cb (ea_cons (EvL.d (el_lc good tbD (fun _ => true) (fun L => .bl (decide (L.idxOf x < L.idxOf z))) (is := [8]) (wk_list (ev_var rfl)) (by simp) (by omega) fun L hL => tg_name ⟨et_yes, fun _ => ev_is (ev_op (ev_tidx (ev_var rfl) (ev_var rfl) (((hgood L hL).mem x).mpr ha)) (ev_tidx (ev_var rfl) (ev_var rfl) (((hgood L hL).mem z).mpr hb)) rd_b0) ?_⟩)) ea_nil) (by rw [filter_yes]; exact rc_allF _ _))) (fun hc => ?_) fun hc => x_next ⟨_, rfl, ?_⟩)
        · congr 1
          by_cases g : L.idxOf x < L.idxOf z <;> simp [g] <;> omega
        · refine x_app 0 (ev_var rfl) (ev_tup (ea_cons (ev_var rfl) (ea_cons (ev_var rfl) ea_nil)) (by simp)) rfl (by rw [List.length_map, List.length_append]; omega) ⟨_, rfl, ?_⟩
          rw [e2, if_pos hc, ← List.append_assoc, List.map_append (l₁ := A ++ D)]; rfl
        · rw [e2, if_neg (by rw [hc]; simp), List.append_nil]
      · rintro es mu ⟨o11, rfl, rfl⟩
        rw [List.length_map, List.length_range]
        refine ⟨_, _, rfl, ?_⟩
        rw [List.range_succ, List.flatMap_append]
        simp
    · rintro es mu ⟨o10, o11, rfl, rfl⟩
      rw [List.length_map, List.length_range]
      show Xs K (moH K h) _ _ [(l, (duePairs n good).map prD)] _ _
      rw [hdue]
      refine x_thawN fun hna => ?_
      have hne : h ≠ l := fun e => hna (.inl e.symm)
      obtain ⟨p10, p11, p12, e⟩ : ∃ p10 p11 p12, thaw l ((pairsOf n (canTT lots S)).map prD) [none, some (.adr h), some (.int (0 + (i : Int))), some (dn n), some (lotsD lots), some (bkD n lots), some (.lst (S.map sgD)), some (.lst (good.map tbD)), none, some (.adr l), o10, o11, o12, none] = [none, some (.adr h), some (.int (0 + (i : Int))), some (dn n), some (lotsD lots), some (bkD n lots), some (.lst (S.map sgD)), some (.lst (good.map tbD)), none, some (.lst ((pairsOf n (canTT lots S)).map prD)), p10, p11, p12, none] :=
        ⟨_, _, _, by rw [thaw_cons, thaw_cons, thaw_cons, thaw_cons, thaw_cons, thaw_cons, thaw_cons, thaw_cons, thaw_cons, thaw_cons, thaw1_ne hne, thaw1_self]; rfl⟩
      rw [e]
      clear e
      refine x_seq (x_new (el_call (n, lots, false, S) (ea_cons (ev_var rfl) (ea_cons (ev_var rfl) ea_nil)) hFit) fun l2 => ?_)
      refine x_seq (x_ifF (b := false) (et_is (et_or (et_not (et_test (ev_isi "list" (thaw_at rfl) rfl rfl (b := true) (by decide +kernel)))) fun _ => et_not (et_test (ev_call (pairsOf n (canTT lots S)) (ea_cons (ev_var (thaw_at rfl)) (ea_cons (ev_var rfl) ea_nil)) (by show (pairsOf n (canTT lots S)).length ≤ 1000; omega)))) rfl) (fun z => by cases z) fun _ => x_next ?_)
      refine x_seq (x_app 0 (ev_var rfl) ev_non rfl (by simp only; rw [List.length_map]; omega) ?_)
      refine x_thawN fun hna2 => ?_
      have hne2 : h ≠ l2 := fun e => hna2 (.inl e.symm)
      simp only
      obtain ⟨q12, q10, q11, e⟩ : ∃ q12 q10 q11, thaw l2 ((pairsOf n (canTT lots S)).map prD ++ [.non]) [none, some (.adr h), some (.int (0 + (i : Int))), some (dn n), some (lotsD lots), some (bkD n lots), some (.lst (S.map sgD)), some (.lst (good.map tbD)), none, some (.lst ((pairsOf n (canTT lots S)).map prD)), p10, p11, some (.adr l2), none] = [none, some (.adr h), some (.int (0 + (i : Int))), some (dn n), some (lotsD lots), some (bkD n lots), some (.lst (S.map sgD)), some (.lst (good.map tbD)), none, some (.lst ((pairsOf n (canTT lots S)).map prD)), q10, q11, q12, none] :=
        ⟨_, _, _, by rw [thaw_cons, thaw_cons, thaw1_ne hne2]; rfl⟩
      show Xs K (moH K h) _ (thaw l2 ((pairsOf n (canTT lots S)).map prD ++ [.non]) [none, some (.adr h), some (.int (0 + (i : Int))), some (dn n), some (lotsD lots), some (bkD n lots), some (.lst (S.map sgD)), some (.lst (good.map tbD)), none, some (.lst ((pairsOf n (canTT lots S)).map prD)), p10, p11, some (.adr l2), none]) _ _ _
      rw [e]
      clear e
      refine x_seq (x_if (b := false) (et_is (et_not (et_test (ev_call (pairsOf n (canTT lots S)) (ea_cons (EvL.d (el_call (n, lots, true, S) (ea_cons (ev_var rfl) (ea_cons (ev_cb (ea_cons (ev_var rfl) ea_nil) rc_tupL) ea_nil)) hFit)) (ea_cons (ev_var rfl) ea_nil)) (by show (pairsOf n (canTT lots S)).length ≤ 1000; omega)))) rfl) (fun z => by cases z) fun _ => x_next ?_)
      refine x_if (b := false) (et_is (et_test (ev_cb (ea_cons (EvL.d (el_lc (pairsOf n (canTT lots (S.drop 1))) prD (fun _ => true) (fun x => .bl (!decide (x ∈ pairsOf n (canTT lots S)))) (is := [13]) (wk_list (EvL.d (el_call (n, lots, false, S.drop 1) (ea_cons (ev_var rfl) (ea_cons (ev_is (EvL.d (el_sl (ev_var rfl) (eo_some ev_int) eo_none)) (by rw [cutFrom1, ← List.map_drop]; rfl)) ea_nil)) hFit1))) (by simp) (by omega)
        fun x hx => tg_name ⟨et_yes, fun _ => ev_op (ev_var rfl) (ev_var rfl) rd_niP⟩)) ea_nil) (by rw [filter_yes]; exact rc_anyF _ _))) ?_) (fun z => by cases z) fun _ => x_next ⟨_, _, _, _, _, _, _, _, _, _, rfl, rfl⟩
      rw [List.any_eq_false]
      intro x hx
      simp [hps x hx]
  · rintro es mu ⟨o2, o3, o4, o5, o6, o7, o9, o10, o11, o12, rfl, rfl⟩
    exact x_ret ev_bl rfl
end
end DL
end
section
set_option Elab.async false
set_option linter.all false
set_option maxRecDepth 100000
set_option maxHeartbeats 0
/-! FinB: what is known of the law at the head's end -/
namespace DL
open PySem L2 PyProof.Rows
theorem law_at {w : World} {K : PySem.W.Frag} {h : Heap} {mg : Str → Option Value} {fa : Addr} (KX : K.In h) (G : h.Ns mainGlobals mg) (hfa : mg ("law" : Str) = some (.ref fa)) (c : He.SaysD Hd.fa Hd.fn K)
    (hd : PySem.W.codeHdIn K (He.cT K ("_law_crowds", none)).1 (He.cT K ("_law_crowds", none)).2 = true) (out : K.lookup (He.cT K ("_law_crowds", none)).2 = none) (empty : h.get? (He.cT K ("_law_crowds", none)).2 = some { cls := .none, data := .fields #[] }) :
    LamX.LawAtS PySem.Challenge.rw_lastoflot_k47_whole_pairs_surely_ahead w K L2.CX0 10 63 "_law_script" mg fa h := by
  have T : Txt K mg := txt_of KX G c
  have e := hfa.symm.trans T.m_law
  cases e
  obtain ⟨fd, F⟩ := T.f_law
  have b := FunD.bindsA (ps := ["_law_script"]) F fun _ _ _ _ _ _ us hl => match us, hl with | [_], _ => rfl
  refine ⟨fd, [He.cT K ("_law_crowds", none)], sp_law K, fun p hp => ?_, fun p hp => ?_, fun p hp => ?_, fun s v => b s [v] rfl, fun H a ns hl _ hT hS => ⟨a, ns, rfl, hS, by omega, hT _ (by simp), fun _ => rfl⟩, fun base _ _ hTB => ok_law T (hTB _ (by simp)) F⟩
  · rw [List.mem_singleton] at hp; subst hp; exact empty
  · rw [List.mem_singleton] at hp; subst hp; exact out
  · rw [List.mem_singleton] at hp; subst hp; exact PySem.W.codeHd_of_K KX hd
end DL
end
section
set_option Elab.async false
set_option linter.all false
set_option maxRecDepth 100000
set_option maxHeartbeats 0
/-! Fin: the claim -/
open PySem PySem.W PySem.Calls PyProof.Rows
theorem PySem.Challenge.cw_lastoflot_k47_whole_pairs_surely_ahead_holds : PySem.Challenge.rw_lastoflot_k47_whole_pairs_surely_ahead.Holds := by
  w_on; o_law
  refine HandSHeadRun.head_any (r := OpenLaw.row PySem.Challenge.rw_lastoflot_k47_whole_pairs_surely_ahead) (q := view (OpenLaw.row PySem.Challenge.rw_lastoflot_k47_whole_pairs_surely_ahead).prog [64]) (H := Hd.hk) (ob := Hd.ob) (M := 6000) (loose := Hd.nms) (d := HandSHeadRun.topDef (OpenLaw.row PySem.Challenge.rw_lastoflot_k47_whole_pairs_surely_ahead).prog 64) (kwd := []) Hd.ob_eq
    (by kernel_rfl) (fun s => by kernel_rfl) Hd.run (by kernel_rfl) (by kernel_rfl) (by kernel_rfl) (by rfl) (by first | assumption | decide +kernel) (by decide +kernel) ⟨rfl, rfl, rfl, rfl, rfl, by decide +kernel⟩ ?hw ?hc
  case hw => w_witness2
  case hc =>
    refine LamX.walk_ofTsE (l := PySem.Challenge.rw_lastoflot_k47_whole_pairs_surely_ahead) (n := 63) (k := 10) (x := "_law_script") (CX := fun _ => L2.CX0) rfl (by decide) (by kernel_rfl) ⟨rfl, by decide, by decide⟩ ?F (fun _ _ _ _ _ z => z)
    intro w mg fa h Y G hmg0
    obtain ⟨K, KX, c⟩ := Y
    have hmg : mg ("law" : PySem.Str) = some (.ref fa) := by
      have e : (HandSHeadRun.topDef (OpenLaw.row PySem.Challenge.rw_lastoflot_k47_whole_pairs_surely_ahead).prog 64).name = ("law" : PySem.Str) := by kernel_rfl
      rw [← e]
      exact hmg0
    exact ⟨K, KX, DL.law_at KX G hmg c.t.d (c.hd _ (by simp [Hd.tf])) (c.out _ (by simp [Hd.tf])) (c.empty _ (by simp [Hd.tf]))⟩
end

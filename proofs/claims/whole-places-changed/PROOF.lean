import PyProof.Rows.All
import Wide.All
import OpenK.AllK
import Wide.FinOn
import HandS.ForMost
import HandS.Codes
import HandS.Defaults
import HandS.Property
import HandS.IsInst
import HandS.Rev
import HandS.SortKw
import HandS.TupAny
import HandS.Walk
import HandS.HeadHook2
import HandS.ClsMeth
import HandS.GenList
import KE.KStateDown
import KE.KNestM
import HandS.Head0
import HandS.Head1
import HandS.Head2
import HandS.HeadHook4
import HandS.HeadNt
import HandS.EndTab
import KE.GoesEnum
import KE.GoesZip
import HandS.OwnEq
import HandS.DeepEq
import HandS.FStr
import PyProof.ReprRoads
import KE.KFmtOwn
import HandS.SetFor
import HandS.SortInts
import HandS.Conv
import HandS.Evl
import HandS.Lambda
import PyProof.StrOps2
import HandS.Iter
import KE.GoesMore
import HandS.NoneIn
import PySem.Challenge.RW_bitlaid_k25_whole_places_changed
set_option Elab.async false
set_option linter.all false
set_option maxRecDepth 100000
set_option maxHeartbeats 4000000
/-! *** M1 -/
namespace My

/-! ### bits and order -/
theorem lt_of_bit {n m i : Nat} (hn : n.testBit i = false) (hm : m.testBit i = true) (h : ∀ j, i < j → n.testBit j = m.testBit j) : n < m := by
  have hq : n / 2 ^ (i + 1) = m / 2 ^ (i + 1) := by
    apply Nat.eq_of_testBit_eq
    intro j
    rw [Nat.testBit_div_two_pow, Nat.testBit_div_two_pow]
    exact h _ (by omega)
  have h1 : n % 2 ^ (i + 1) < 2 ^ i := by
    apply Nat.lt_pow_two_of_testBit
    intro j hj
    rw [Nat.testBit_mod_two_pow]
    by_cases e : j = i
    · rw [e, hn]; simp
    · have : ¬ j < i + 1 := by omega
      simp [this]
  have h2 : 2 ^ i ≤ m % 2 ^ (i + 1) := by
    apply Nat.ge_two_pow_of_testBit
    rw [Nat.testBit_mod_two_pow, hm]; simp
  have e1 := Nat.div_add_mod n (2 ^ (i + 1))
  have e2 := Nat.div_add_mod m (2 ^ (i + 1))
  rw [hq] at e1
  omega

theorem log2_bit {r : Nat} (h : r ≠ 0) : r.testBit r.log2 = true := by
  have h1 : r < 2 ^ (r.log2 + 1) := Nat.lt_log2_self
  have h2 : 2 ^ r.log2 ≤ r := Nat.log2_self_le h
  rw [Nat.testBit_eq_decide_div_mod_eq]
  have h3 : r / 2 ^ r.log2 = 1 := by
    apply Nat.div_eq_of_lt_le
    · omega
    · rw [Nat.pow_succ] at h1; omega
  rw [h3]; rfl

theorem bit_above {r j : Nat} (h : r.log2 < j) : r.testBit j = false := by
  apply Nat.testBit_lt_two_pow
  exact Nat.lt_of_lt_of_le Nat.lt_log2_self (Nat.pow_le_pow_right (by decide) h)

/-- a sum gets less exactly if the word has a bit at the row's leading bit -/
theorem xor_lt {f r : Nat} (h : r ≠ 0) : f ^^^ r < f ↔ f.testBit r.log2 = true := by
  constructor
  · intro hl
    cases e : f.testBit r.log2 with
    | true => rfl
    | false =>
      exfalso
      have : f < f ^^^ r := by
        apply lt_of_bit (i := r.log2) e
        · rw [Nat.testBit_xor, e, log2_bit h]; rfl
        · intro j hj
          rw [Nat.testBit_xor, bit_above hj]; simp
      omega
  · intro e
    apply lt_of_bit (i := r.log2)
    · rw [Nat.testBit_xor, e, log2_bit h]; rfl
    · exact e
    · intro j hj
      rw [Nat.testBit_xor, bit_above hj]; simp

theorem log2_of_bit {x k : Nat} (h1 : x.testBit k = true) (h2 : ∀ j, k < j → x.testBit j = false) : x.log2 = k := by
  have hx : x ≠ 0 := by
    intro e; rw [e] at h1; simp at h1
  rcases Nat.lt_trichotomy x.log2 k with h | h | h
  · rw [bit_above h] at h1; cases h1
  · exact h
  · have := h2 _ h
    rw [log2_bit hx] at this; cases this

/-! ### sums of columns -/
/-- the sum of the rows that the bits of n select, the first row by the lowest bit -/
def cmb : List Nat → Nat → Nat
  | [], _ => 0
  | b :: B, n => (if n.testBit 0 = true then b else 0) ^^^ cmb B (n / 2)

theorem cmb_zero : ∀ B : List Nat, cmb B 0 = 0
  | [] => rfl
  | b :: B => by
    show (if Nat.testBit 0 0 = true then b else 0) ^^^ cmb B (0 / 2) = 0
    rw [Nat.zero_div, cmb_zero B]; simp

theorem xor_half (a b : Nat) : (a ^^^ b) / 2 = a / 2 ^^^ b / 2 := by
  apply Nat.eq_of_testBit_eq
  intro j
  rw [Nat.testBit_div_two, Nat.testBit_xor, Nat.testBit_xor, Nat.testBit_div_two, Nat.testBit_div_two]

theorem cmb_xor : ∀ (B : List Nat) (n m : Nat), cmb B (n ^^^ m) = cmb B n ^^^ cmb B m
  | [], _, _ => by simp [cmb]
  | b :: B, n, m => by
    show (if (n ^^^ m).testBit 0 = true then b else 0) ^^^ cmb B ((n ^^^ m) / 2) = ((if n.testBit 0 = true then b else 0) ^^^ cmb B (n / 2)) ^^^ ((if m.testBit 0 = true then b else 0) ^^^ cmb B (m / 2))
    rw [xor_half, cmb_xor B, Nat.testBit_xor]
    generalize cmb B (n / 2) = X
    generalize cmb B (m / 2) = Y
    apply Nat.eq_of_testBit_eq
    intro j
    cases n.testBit 0 <;> cases m.testBit 0 <;> simp [Nat.testBit_xor] <;> cases b.testBit j <;> cases X.testBit j <;> cases Y.testBit j <;> rfl

theorem cmb_lt {k : Nat} : ∀ (B : List Nat) (n : Nat), (∀ b ∈ B, b < 2 ^ k) → cmb B n < 2 ^ k
  | [], _, _ => Nat.two_pow_pos k
  | b :: B, n, h => by
    apply Nat.xor_lt_two_pow
    · split
      · exact h b (List.mem_cons_self ..)
      · exact Nat.two_pow_pos k
    · exact cmb_lt B (n / 2) fun c hc => h c (List.mem_cons_of_mem _ hc)

theorem cmb_out {k : Nat} : ∀ (B : List Nat) (n : Nat), (∀ b ∈ B, b.testBit k = false) → (cmb B n).testBit k = false
  | [], _, _ => by simp [cmb]
  | b :: B, n, h => by
    show ((if n.testBit 0 = true then b else 0) ^^^ cmb B (n / 2)).testBit k = false
    rw [Nat.testBit_xor, cmb_out B (n / 2) fun c hc => h c (List.mem_cons_of_mem _ hc)]
    split
    · rw [h b (List.mem_cons_self ..)]; rfl
    · simp

theorem cmb_map (f : Nat → Nat) (f0 : f 0 = 0) (fx : ∀ a b, f (a ^^^ b) = f a ^^^ f b) : ∀ (B : List Nat) (n : Nat), cmb (B.map f) n = f (cmb B n)
  | [], _ => f0.symm
  | b :: B, n => by
    show (if n.testBit 0 = true then f b else 0) ^^^ cmb (B.map f) (n / 2) = f ((if n.testBit 0 = true then b else 0) ^^^ cmb B (n / 2))
    rw [cmb_map f f0 fx B, fx]
    split
    · rfl
    · rw [f0]

theorem cmb_pow : ∀ (B : List Nat) (i : Nat) (b : Nat), B[i]? = some b → cmb B (2 ^ i) = b
  | [], i, b, h => by simp at h
  | c :: B, 0, b, h => by
    have e : c = b := by simpa using h
    show (if (2 ^ 0).testBit 0 = true then c else 0) ^^^ cmb B (2 ^ 0 / 2) = b
    have : (2 ^ 0) / 2 = 0 := by decide
    rw [this, cmb_zero, e]; simp
  | c :: B, i + 1, b, h => by
    have e : B[i]? = some b := by simpa using h
    show (if (2 ^ (i + 1)).testBit 0 = true then c else 0) ^^^ cmb B (2 ^ (i + 1) / 2) = b
    have h2 : 2 ^ (i + 1) / 2 = 2 ^ i := by rw [Nat.pow_succ]; omega
    rw [h2, cmb_pow B i b e, Nat.testBit_two_pow]; simp

/-- bits that lie beyond the rows do not matter -/
theorem cmb_mod : ∀ (B : List Nat) (n : Nat), cmb B (n % 2 ^ B.length) = cmb B n
  | [], _ => rfl
  | b :: B, n => by
    show (if (n % 2 ^ (B.length + 1)).testBit 0 = true then b else 0) ^^^ cmb B (n % 2 ^ (B.length + 1) / 2) = (if n.testBit 0 = true then b else 0) ^^^ cmb B (n / 2)
    have h1 : n % 2 ^ (B.length + 1) / 2 = (n / 2) % 2 ^ B.length := by
      rw [Nat.pow_succ, Nat.mul_comm]
      exact Nat.mod_mul_right_div_self ..
    have h2 : (n % 2 ^ (B.length + 1)).testBit 0 = n.testBit 0 := by
      rw [Nat.testBit_mod_two_pow]; simp
    rw [h1, cmb_mod B (n / 2), h2]

/-! ### spans -/
inductive Spn (B : List Nat) : Nat → Prop
  | zero : Spn B 0
  | add {b x : Nat} : b ∈ B → Spn B x → Spn B (b ^^^ x)

theorem Spn.mem {B : List Nat} {b : Nat} (h : b ∈ B) : Spn B b := by
  have := Spn.add h (Spn.zero (B := B))
  rwa [Nat.xor_zero] at this
theorem Spn.xor {B : List Nat} {x y : Nat} (hx : Spn B x) (hy : Spn B y) : Spn B (x ^^^ y) := by
  induction hx with
  | zero => rwa [Nat.zero_xor]
  | add hb _ ih => rw [Nat.xor_assoc]; exact .add hb ih
theorem Spn.sub {B C : List Nat} (h : ∀ b ∈ B, Spn C b) {x : Nat} (hx : Spn B x) : Spn C x := by
  induction hx with
  | zero => exact .zero
  | add hb _ ih => exact (h _ hb).xor ih
theorem spn_cmb : ∀ (B : List Nat) (n : Nat), Spn B (cmb B n)
  | [], _ => .zero
  | b :: B, n => by
    have h := (spn_cmb B (n / 2)).sub (C := b :: B) fun c hc => .mem (List.mem_cons_of_mem _ hc)
    show Spn (b :: B) ((if n.testBit 0 = true then b else 0) ^^^ cmb B (n / 2))
    split
    · exact .add (List.mem_cons_self ..) h
    · rwa [Nat.zero_xor]
theorem cmb_spn {B : List Nat} {x : Nat} (h : Spn B x) : ∃ n, n < 2 ^ B.length ∧ cmb B n = x := by
  induction h with
  | zero => exact ⟨0, Nat.two_pow_pos _, cmb_zero B⟩
  | add hb _ ih =>
    obtain ⟨n, hn, rfl⟩ := ih
    obtain ⟨i, hi⟩ := List.getElem?_of_mem hb
    have hl : i < B.length := (List.getElem?_eq_some_iff.mp hi).1
    refine ⟨2 ^ i ^^^ n, Nat.xor_lt_two_pow (Nat.pow_lt_pow_right (by decide) hl) hn, ?_⟩
    rw [cmb_xor, cmb_pow B i _ hi]
theorem spn_iff {B : List Nat} {x : Nat} : Spn B x ↔ ∃ n, n < 2 ^ B.length ∧ cmb B n = x :=
  ⟨cmb_spn, fun ⟨n, _, e⟩ => e ▸ spn_cmb B n⟩
theorem Spn.lt {B : List Nat} {x k : Nat} (hx : Spn B x) (h : ∀ b ∈ B, b < 2 ^ k) : x < 2 ^ k := by
  obtain ⟨n, _, rfl⟩ := cmb_spn hx
  exact cmb_lt B n h
theorem Spn.congr {B C : List Nat} (h : ∀ b, b ∈ B ↔ b ∈ C) {x : Nat} : Spn B x ↔ Spn C x :=
  ⟨fun hx => hx.sub fun b hb => .mem ((h b).mp hb), fun hx => hx.sub fun b hb => .mem ((h b).mpr hb)⟩

/-! ### reduced rows, in any sequence -/
/-- no row is 0, none has a bit at the leading bit of another -/
def Out (a b : Nat) : Prop := a.testBit b.log2 = false ∧ b.testBit a.log2 = false
structure RB (B : List Nat) : Prop where
  nz : ∀ b ∈ B, b ≠ 0
  out : B.Pairwise Out
theorem Out.symm {a b : Nat} (h : Out a b) : Out b a := ⟨h.2, h.1⟩
theorem RB.tail {b : Nat} {B : List Nat} (h : RB (b :: B)) : RB B := ⟨fun c hc => h.nz c (List.mem_cons_of_mem _ hc), (List.pairwise_cons.mp h.out).2⟩
theorem RB.head {b : Nat} {B : List Nat} (h : RB (b :: B)) : ∀ c ∈ B, Out b c := (List.pairwise_cons.mp h.out).1
theorem RB.perm {B C : List Nat} (h : RB B) (p : C.Perm B) : RB C :=
  ⟨fun b hb => h.nz b (p.mem_iff.mp hb), (p.pairwise_iff fun h => h.symm).mpr h.out⟩

/-- the bit at a leading bit tells the coefficient -/
theorem RB.coef : ∀ {B : List Nat}, RB B → ∀ (n i b : Nat), B[i]? = some b → (cmb B n).testBit b.log2 = n.testBit i
  | [], _, n, i, b, h => by simp at h
  | c :: B, R, n, 0, b, h => by
    have e : c = b := by simpa using h
    subst e
    show ((if n.testBit 0 = true then c else 0) ^^^ cmb B (n / 2)).testBit c.log2 = n.testBit 0
    rw [Nat.testBit_xor, cmb_out B (n / 2) fun d hd => (R.head d hd).2]
    cases n.testBit 0
    · simp
    · simp [log2_bit (R.nz c (List.mem_cons_self ..))]
  | c :: B, R, n, i + 1, b, h => by
    have e : B[i]? = some b := by simpa using h
    show ((if n.testBit 0 = true then c else 0) ^^^ cmb B (n / 2)).testBit b.log2 = n.testBit (i + 1)
    rw [Nat.testBit_xor, R.tail.coef (n / 2) i b e, Nat.testBit_div_two]
    split
    · rw [(R.head b (List.mem_of_getElem? e)).1]; simp
    · simp
/-- a sum of rows without a bit at any leading bit is 0 -/
theorem RB.zero {B : List Nat} (R : RB B) {x : Nat} (hx : Spn B x) (h : ∀ b ∈ B, x.testBit b.log2 = false) : x = 0 := by
  obtain ⟨n, hn, rfl⟩ := cmb_spn hx
  have : n = 0 := by
    apply Nat.eq_of_testBit_eq
    intro i
    rw [Nat.zero_testBit]
    by_cases hi : i < B.length
    · have e : B[i]? = some B[i] := List.getElem?_eq_getElem hi
      rw [← R.coef n i _ e]
      exact h _ (List.getElem_mem hi)
    · exact Nat.testBit_lt_two_pow (Nat.lt_of_lt_of_le hn (Nat.pow_le_pow_right (by decide) (by omega)))
  rw [this, cmb_zero]
theorem RB.inj {B : List Nat} (R : RB B) {n m : Nat} (hn : n < 2 ^ B.length) (hm : m < 2 ^ B.length) (e : cmb B n = cmb B m) : n = m := by
  apply Nat.eq_of_testBit_eq
  intro i
  by_cases hi : i < B.length
  · have q : B[i]? = some B[i] := List.getElem?_eq_getElem hi
    rw [← R.coef n i _ q, ← R.coef m i _ q, e]
  · have hp : 2 ^ B.length ≤ 2 ^ i := Nat.pow_le_pow_right (by decide) (by omega)
    rw [Nat.testBit_lt_two_pow (Nat.lt_of_lt_of_le hn hp), Nat.testBit_lt_two_pow (Nat.lt_of_lt_of_le hm hp)]

/-! ### least sums -/
def lstep (f r : Nat) : Nat := if f ^^^ r < f then f ^^^ r else f
def leastSum (w : Nat) (B : List Nat) : Nat := B.foldl lstep w
theorem lstep_bit {f r : Nat} (h : r ≠ 0) : (lstep f r).testBit r.log2 = false := by
  unfold lstep
  split
  · rename_i hl
    rw [Nat.testBit_xor, (xor_lt h).mp hl, log2_bit h]; rfl
  · rename_i hl
    cases e : f.testBit r.log2 with
    | false => rfl
    | true => exact absurd ((xor_lt h).mpr e) hl
theorem lstep_keep {f r k : Nat} (h : r.testBit k = false) : (lstep f r).testBit k = f.testBit k := by
  unfold lstep
  split
  · rw [Nat.testBit_xor, h]; simp
  · rfl
theorem lstep_spn {f r : Nat} : lstep f r = f ∨ lstep f r = f ^^^ r := by
  unfold lstep
  split
  · exact .inr rfl
  · exact .inl rfl
theorem least_keep {k : Nat} : ∀ (B : List Nat) (w : Nat), (∀ b ∈ B, b.testBit k = false) → (leastSum w B).testBit k = w.testBit k
  | [], _, _ => rfl
  | b :: B, w, h => by
    show (leastSum (lstep w b) B).testBit k = w.testBit k
    rw [least_keep B _ fun c hc => h c (List.mem_cons_of_mem _ hc), lstep_keep (h b (List.mem_cons_self ..))]
theorem least_out : ∀ {B : List Nat}, RB B → ∀ (w : Nat), ∀ b ∈ B, (leastSum w B).testBit b.log2 = false
  | [], _, _, b, hb => by cases hb
  | c :: B, R, w, b, hb => by
    show (leastSum (lstep w c) B).testBit b.log2 = false
    rcases List.mem_cons.mp hb with rfl | hb
    · rw [least_keep B _ fun d hd => (R.head d hd).2]
      exact lstep_bit (R.nz b (List.mem_cons_self ..))
    · exact least_out R.tail _ b hb
theorem least_spn : ∀ (B : List Nat) (w : Nat), Spn B (w ^^^ leastSum w B)
  | [], w => by
    show Spn [] (w ^^^ w)
    rw [Nat.xor_self]; exact .zero
  | b :: B, w => by
    show Spn (b :: B) (w ^^^ leastSum (lstep w b) B)
    have h := (least_spn B (lstep w b)).sub (C := b :: B) fun c hc => .mem (List.mem_cons_of_mem _ hc)
    rcases lstep_spn (f := w) (r := b) with e | e
    · rw [e] at h ⊢; exact h
    · rw [e] at h ⊢
      have := Spn.add (List.mem_cons_self (a := b) (l := B)) h
      have q : b ^^^ ((w ^^^ b) ^^^ leastSum (w ^^^ b) B) = w ^^^ leastSum (w ^^^ b) B := by
        rw [← Nat.xor_assoc, ← Nat.xor_assoc, Nat.xor_comm b w, Nat.xor_assoc w b b, Nat.xor_self, Nat.xor_zero]
      rwa [q] at this
theorem xor_cancel (a b : Nat) : a ^^^ (a ^^^ b) = b := by rw [← Nat.xor_assoc, Nat.xor_self, Nat.zero_xor]
theorem xor_eq_zero {a b : Nat} (h : a ^^^ b = 0) : a = b := by
  have := xor_cancel a b
  rw [h, Nat.xor_zero] at this
  exact this
/-- the least sum is the only word of its class without bits at the leading bits -/
theorem least_only {B : List Nat} (R : RB B) {w y : Nat} (hs : Spn B (w ^^^ y)) (ho : ∀ b ∈ B, y.testBit b.log2 = false) : leastSum w B = y := by
  apply xor_eq_zero
  apply R.zero
  · have := (least_spn B w).xor hs
    rw [Nat.xor_comm w (leastSum w B), Nat.xor_assoc, xor_cancel] at this
    exact this
  · intro b hb
    rw [Nat.xor_comm, Nat.testBit_xor, ho b hb, least_out R w b hb]; rfl
theorem least_lt {k : Nat} : ∀ (B : List Nat) (w : Nat), w < 2 ^ k → (∀ b ∈ B, b < 2 ^ k) → leastSum w B < 2 ^ k := by
  intro B w hw hB
  have h := (least_spn B w).lt hB
  have := Nat.xor_lt_two_pow hw h
  rwa [xor_cancel] at this

/-! ### the program's reduction -/
def rstep (B : List Nat) (w : Nat) : List Nat := if leastSum w B = 0 then B else B.map (fun r => lstep r (leastSum w B)) ++ [leastSum w B]
theorem lstep_log2 {f r : Nat} (hr : r ≠ 0) (hf : f ≠ 0) (h : r.testBit f.log2 = false) : (lstep f r).log2 = f.log2 := by
  unfold lstep
  split
  · rename_i hl
    have hb := (xor_lt hr).mp hl
    have hle : r.log2 < f.log2 := by
      rcases Nat.lt_trichotomy r.log2 f.log2 with q | q | q
      · exact q
      · rw [← q, log2_bit hr] at h; cases h
      · rw [bit_above q] at hb; cases hb
    apply log2_of_bit
    · rw [Nat.testBit_xor, log2_bit hf, h]; rfl
    · intro j hj
      rw [Nat.testBit_xor, bit_above hj, bit_above (Nat.lt_trans hle hj)]; rfl
  · rfl
theorem lstep_nz {f r : Nat} (hr : r ≠ 0) (hf : f ≠ 0) (h : r.testBit f.log2 = false) : lstep f r ≠ 0 := by
  intro e
  have h1 : (lstep f r).testBit f.log2 = f.testBit f.log2 := lstep_keep h
  rw [e, log2_bit hf, Nat.zero_testBit] at h1
  cases h1
theorem RB.step {B : List Nat} (R : RB B) (w : Nat) : RB (rstep B w) ∧ ∀ x, Spn (rstep B w) x ↔ Spn (w :: B) x := by
  unfold rstep
  split
  · rename_i e
    refine ⟨R, fun x => ⟨fun h => h.sub fun b hb => .mem (List.mem_cons_of_mem _ hb), fun h => h.sub fun b hb => ?_⟩⟩
    rcases List.mem_cons.mp hb with rfl | hb
    · have := least_spn B b
      rw [e, Nat.xor_zero] at this
      exact this
    · exact .mem hb
  · rename_i e
    have ho := least_out R w
    generalize hr : leastSum w B = r at e ho
    have hsw : Spn B (w ^^^ r) := hr ▸ least_spn B w
    constructor
    · constructor
      · intro b hb
        rcases List.mem_append.mp hb with hb | hb
        · obtain ⟨c, hc, rfl⟩ := List.mem_map.mp hb
          exact lstep_nz e (R.nz c hc) (ho c hc)
        · rw [List.mem_singleton.mp hb]; exact e
      · rw [List.pairwise_append]
        refine ⟨?_, List.pairwise_singleton .., ?_⟩
        · rw [List.pairwise_map]
          refine List.Pairwise.imp_of_mem ?_ R.out
          intro a b ha hb hab
          constructor
          · rw [lstep_log2 e (R.nz b hb) (ho b hb), lstep_keep (ho b hb)]; exact hab.1
          · rw [lstep_log2 e (R.nz a ha) (ho a ha), lstep_keep (ho a ha)]; exact hab.2
        · intro a ha b hb
          rw [List.mem_singleton.mp hb]
          obtain ⟨c, hc, rfl⟩ := List.mem_map.mp ha
          exact ⟨lstep_bit e, by rw [lstep_log2 e (R.nz c hc) (ho c hc)]; exact ho c hc⟩
    · have hrB : Spn (w :: B) r := by
        have h1 := hsw.sub (C := w :: B) fun c hc => .mem (List.mem_cons_of_mem _ hc)
        have := Spn.add (List.mem_cons_self (a := w) (l := B)) h1
        rwa [xor_cancel] at this
      have hrN : Spn (B.map (fun c => lstep c r) ++ [r]) r := .mem (List.mem_append_right _ (List.mem_singleton.mpr rfl))
      have hB : ∀ c ∈ B, Spn (B.map (fun c => lstep c r) ++ [r]) c := by
        intro c hc
        have h1 : Spn (B.map (fun c => lstep c r) ++ [r]) (lstep c r) := .mem (List.mem_append_left _ (List.mem_map.mpr ⟨c, hc, rfl⟩))
        rcases lstep_spn (f := c) (r := r) with q | q
        · rw [q] at h1; exact h1
        · rw [q] at h1
          have := hrN.xor h1
          rwa [Nat.xor_comm c r, xor_cancel] at this
      intro x
      constructor
      · intro h
        refine h.sub fun b hb => ?_
        rcases List.mem_append.mp hb with hb | hb
        · obtain ⟨c, hc, rfl⟩ := List.mem_map.mp hb
          have hcw : Spn (w :: B) c := .mem (List.mem_cons_of_mem _ hc)
          rcases lstep_spn (f := c) (r := r) with q | q
          · rw [q]; exact hcw
          · rw [q]; exact hcw.xor hrB
        · rw [List.mem_singleton.mp hb]; exact hrB
      · intro h
        refine h.sub fun b hb => ?_
        rcases List.mem_cons.mp hb with rfl | hb
        · have := hrN.xor (hsw.sub hB)
          rwa [Nat.xor_comm b r, xor_cancel] at this
        · exact hB b hb
def rfold (ws : List Nat) : List Nat := ws.foldl rstep []
theorem rfold_aux : ∀ (ws B : List Nat), RB B → RB (ws.foldl rstep B) ∧ ∀ x, Spn (ws.foldl rstep B) x ↔ Spn (ws ++ B) x
  | [], B, R => ⟨R, fun _ => Iff.rfl⟩
  | w :: ws, B, R => by
    have h := R.step w
    have h2 := rfold_aux ws (rstep B w) h.1
    refine ⟨h2.1, fun x => (h2.2 x).trans ?_⟩
    constructor
    · intro hx
      refine hx.sub fun b hb => ?_
      rcases List.mem_append.mp hb with hb | hb
      · exact .mem (List.mem_append_left _ (List.mem_cons_of_mem _ hb))
      · refine ((h.2 b).mp (.mem hb)).sub fun c hc => .mem ?_
        rcases List.mem_cons.mp hc with rfl | hc
        · exact List.mem_append_left _ (List.mem_cons_self ..)
        · exact List.mem_append_right _ hc
    · intro hx
      refine hx.sub fun b hb => ?_
      have key : ∀ c, c ∈ w :: B → Spn (ws ++ rstep B w) c := fun c hc =>
        ((h.2 c).mpr (.mem hc)).sub fun d hd => .mem (List.mem_append_right _ hd)
      rcases List.mem_append.mp hb with hb | hb
      · rcases List.mem_cons.mp hb with rfl | hb
        · exact key b (List.mem_cons_self ..)
        · exact .mem (List.mem_append_left _ hb)
      · exact key b (List.mem_cons_of_mem _ hb)
theorem rfold_ok (ws : List Nat) : RB (rfold ws) ∧ ∀ x, Spn (rfold ws) x ↔ Spn ws x := by
  have h := rfold_aux ws [] ⟨(fun _ h => nomatch h), List.Pairwise.nil⟩
  rw [List.append_nil] at h
  exact h
theorem rstep_lt {k : Nat} {B : List Nat} {w : Nat} (hB : ∀ b ∈ B, b < 2 ^ k) (hw : w < 2 ^ k) : ∀ b ∈ rstep B w, b < 2 ^ k := by
  unfold rstep
  have hl := least_lt B w hw hB
  split
  · exact hB
  · intro b hb
    rcases List.mem_append.mp hb with hb | hb
    · obtain ⟨c, hc, rfl⟩ := List.mem_map.mp hb
      rcases lstep_spn (f := c) (r := leastSum w B) with q | q
      · rw [q]; exact hB c hc
      · rw [q]; exact Nat.xor_lt_two_pow (hB c hc) hl
    · rw [List.mem_singleton.mp hb]; exact hl
theorem rstep_len (B : List Nat) (w : Nat) : (rstep B w).length ≤ B.length + 1 := by
  unfold rstep
  split
  · omega
  · simp
end My
/-! *** M2 -/
namespace My

/-! ### strictly rising lists -/
theorem rising_eq : ∀ {l m : List Nat}, l.Pairwise (· < ·) → m.Pairwise (· < ·) → (∀ x, x ∈ l ↔ x ∈ m) → l = m
  | [], [], _, _, _ => rfl
  | [], y :: m, _, _, h => by have := (h y).mpr (List.mem_cons_self ..); cases this
  | x :: l, [], _, _, h => by have := (h x).mp (List.mem_cons_self ..); cases this
  | x :: l, y :: m, hl, hm, h => by
    have hx := List.pairwise_cons.mp hl
    have hy := List.pairwise_cons.mp hm
    have e : x = y := by
      rcases List.mem_cons.mp ((h x).mp (List.mem_cons_self ..)) with q | q
      · exact q
      · rcases List.mem_cons.mp ((h y).mpr (List.mem_cons_self ..)) with r | r
        · exact r.symm
        · have a := hy.1 x q
          have b := hx.1 y r
          omega
    subst e
    congr 1
    refine rising_eq hx.2 hy.2 fun z => ?_
    constructor
    · intro hz
      rcases List.mem_cons.mp ((h z).mp (List.mem_cons_of_mem _ hz)) with q | q
      · have := hx.1 z hz; omega
      · exact q
    · intro hz
      rcases List.mem_cons.mp ((h z).mpr (List.mem_cons_of_mem _ hz)) with q | q
      · have := hy.1 z hz; omega
      · exact q

theorem range_rising {n : Nat} {f : Nat → Nat} (h : ∀ i j, i < j → j < n → f i < f j) : ((List.range n).map f).Pairwise (· < ·) := by
  rw [List.pairwise_map]
  refine List.Pairwise.imp_of_mem ?_ (List.pairwise_lt_range (n := n))
  intro a b _ hb hab
  exact h a b hab (List.mem_range.mp hb)
theorem filter_rising {n : Nat} (p : Nat → Bool) : ((List.range n).filter p).Pairwise (· < ·) :=
  (List.pairwise_lt_range (n := n)).filter p

/-! ### bases: falling leading bits -/
def Fall (a b : Nat) : Prop := b.log2 < a.log2 ∧ a.testBit b.log2 = false
structure Bas (B : List Nat) : Prop where
  nz : ∀ b ∈ B, b ≠ 0
  fall : B.Pairwise Fall
theorem Bas.rb {B : List Nat} (h : Bas B) : RB B :=
  ⟨h.nz, h.fall.imp fun {_ _} q => ⟨q.2, bit_above q.1⟩⟩
theorem bas_of {B : List Nat} (R : RB B) (hs : B.Pairwise (· ≥ ·)) : Bas B := by
  refine ⟨R.nz, ?_⟩
  refine List.Pairwise.imp_of_mem ?_ (hs.and R.out)
  intro a b ha hb h
  obtain ⟨hge, ho⟩ := h
  refine ⟨?_, ho.1⟩
  rcases Nat.lt_trichotomy b.log2 a.log2 with q | q | q
  · exact q
  · exfalso
    have := ho.1
    rw [q, log2_bit (R.nz a ha)] at this
    cases this
  · exfalso
    have : a < b := by
      apply lt_of_bit (i := b.log2) (bit_above q) (log2_bit (R.nz b hb))
      intro j hj
      rw [bit_above hj, bit_above (Nat.lt_trans q hj)]
    omega
/-- the rows in ascending order -/
theorem Bas.asc {B : List Nat} (h : Bas B) : B.reverse.Pairwise fun a b => a.log2 < b.log2 := by
  rw [List.pairwise_reverse]
  exact h.fall.imp fun {_ _} q => q.1
theorem RB.rev {B : List Nat} (h : RB B) : RB B.reverse := h.perm (List.reverse_perm B)

theorem log2_lt_pow {x k : Nat} (h : x < 2 ^ k) : x = 0 ∨ x.log2 < k := by
  by_cases e : x = 0
  · exact .inl e
  · right
    exact (Nat.log2_lt e).mpr h

/-- the sum of the first rows is small -/
theorem cmb_small {k : Nat} : ∀ (A : List Nat) (n i : Nat), n < 2 ^ i → (∀ j a, A[j]? = some a → j < i → a < 2 ^ k) → cmb A n < 2 ^ k
  | [], _, _, _, _ => Nat.two_pow_pos k
  | a :: A, n, 0, hn, _ => by
    have : n = 0 := by simpa using hn
    rw [this, cmb_zero]; exact Nat.two_pow_pos k
  | a :: A, n, i + 1, hn, h => by
    apply Nat.xor_lt_two_pow
    · split
      · exact h 0 a rfl (by omega)
      · exact Nat.two_pow_pos k
    · apply cmb_small A (n / 2) i
      · rw [Nat.pow_succ] at hn; omega
      · intro j b hj hi
        exact h (j + 1) b hj (by omega)

/-- the leading bit of a sum of ascending rows -/
theorem cmb_top {A : List Nat} (R : RB A) (asc : A.Pairwise fun a b => a.log2 < b.log2) {d : Nat} (h0 : d ≠ 0) (hd : d < 2 ^ A.length) :
    ∃ a, A[d.log2]? = some a ∧ (cmb A d).testBit a.log2 = true ∧ cmb A d < 2 ^ (a.log2 + 1) := by
  have hl : d.log2 < A.length := (Nat.log2_lt h0).mpr hd
  refine ⟨A[d.log2], List.getElem?_eq_getElem hl, ?_, ?_⟩
  · rw [R.coef d _ _ (List.getElem?_eq_getElem hl)]
    exact log2_bit h0
  · apply cmb_small A d (d.log2 + 1) Nat.lt_log2_self
    intro j a hj hi
    have hjl : j < A.length := (List.getElem?_eq_some_iff.mp hj).1
    have ea : A[j] = a := (List.getElem?_eq_some_iff.mp hj).2
    have : a.log2 ≤ (A[d.log2]).log2 := by
      by_cases e : j = d.log2
      · subst e; rw [ea]; exact Nat.le_refl _
      · have := List.pairwise_iff_getElem.mp asc j d.log2 hjl hl (by omega)
        rw [ea] at this
        omega
    exact Nat.lt_of_lt_of_le Nat.lt_log2_self (Nat.pow_le_pow_right (by decide) (by omega))

/-- the walk of a flat: the point and the words of the space by their numbers -/
def word (pt : Nat) (B : List Nat) (n : Nat) : Nat := pt ^^^ cmb B.reverse n
theorem word_lt {B : List Nat} (h : Bas B) {pt : Nat} (hp : ∀ b ∈ B, pt.testBit b.log2 = false) {n m : Nat} (hnm : n < m) (hm : m < 2 ^ B.length) : word pt B n < word pt B m := by
  have R := h.rb.rev
  have hmA : m < 2 ^ B.reverse.length := by rwa [List.length_reverse]
  have hnA : n < 2 ^ B.reverse.length := Nat.lt_trans hnm hmA
  have h0 : n ^^^ m ≠ 0 := fun e => by have := xor_eq_zero e; omega
  obtain ⟨a, ha, hb, hs⟩ := cmb_top R h.asc h0 (Nat.xor_lt_two_pow hnA hmA)
  have hn : n.testBit (n ^^^ m).log2 = false ∧ m.testBit (n ^^^ m).log2 = true := by
    have hx := log2_bit h0
    rw [Nat.testBit_xor] at hx
    cases e1 : n.testBit (n ^^^ m).log2 with
    | false => rw [e1] at hx; exact ⟨rfl, by simpa using hx⟩
    | true =>
      exfalso
      rw [e1] at hx
      have e2 : m.testBit (n ^^^ m).log2 = false := by simpa using hx
      have : m < n := by
        apply lt_of_bit (i := (n ^^^ m).log2) e2 e1
        intro j hj
        have := bit_above hj
        rw [Nat.testBit_xor] at this
        revert this
        cases n.testBit j <;> cases m.testBit j <;> simp
      omega
  have hab : pt.testBit a.log2 = false := hp a (List.mem_reverse.mp (List.mem_of_getElem? ha))
  unfold word
  apply lt_of_bit (i := a.log2)
  · rw [Nat.testBit_xor, hab, R.coef n _ _ ha, hn.1]; rfl
  · rw [Nat.testBit_xor, hab, R.coef m _ _ ha, hn.2]; rfl
  · intro j hj
    have e : (cmb B.reverse (n ^^^ m)).testBit j = false := Nat.testBit_lt_two_pow (Nat.lt_of_lt_of_le hs (Nat.pow_le_pow_right (by decide) hj))
    rw [cmb_xor, Nat.testBit_xor] at e
    rw [Nat.testBit_xor, Nat.testBit_xor]
    revert e
    cases (cmb B.reverse n).testBit j <;> cases (cmb B.reverse m).testBit j <;> simp
def walkL (pt : Nat) (B : List Nat) : List Nat := (List.range (2 ^ B.length)).map (word pt B)
theorem walk_rising {B : List Nat} (h : Bas B) {pt : Nat} (hp : ∀ b ∈ B, pt.testBit b.log2 = false) : (walkL pt B).Pairwise (· < ·) :=
  range_rising fun _ _ a b => word_lt h hp a b
theorem mem_walk {B : List Nat} {pt x : Nat} : x ∈ walkL pt B ↔ Spn B (pt ^^^ x) := by
  unfold walkL
  rw [List.mem_map]
  constructor
  · rintro ⟨n, _, rfl⟩
    unfold word
    rw [xor_cancel]
    exact (Spn.congr fun b => List.mem_reverse).mp (spn_cmb _ n)
  · intro h
    obtain ⟨n, hn, e⟩ := cmb_spn ((Spn.congr (C := B.reverse) fun b => List.mem_reverse.symm).mp h)
    rw [List.length_reverse] at hn
    refine ⟨n, List.mem_range.mpr hn, ?_⟩
    unfold word
    rw [e, xor_cancel]
theorem walk_len {B : List Nat} {pt : Nat} : (walkL pt B).length = 2 ^ B.length := by simp [walkL]

theorem pow_inj {i j : Nat} (h : 2 ^ i = 2 ^ j) : i = j := by
  rcases Nat.lt_trichotomy i j with q | q | q
  · have := Nat.pow_lt_pow_right (a := 2) (by decide) q; omega
  · exact q
  · have := Nat.pow_lt_pow_right (a := 2) (by decide) q; omega
/-- a basis is told by its words -/
theorem bas_only {B C : List Nat} (hB : Bas B) (hC : Bas C) (h : ∀ x, Spn B x ↔ Spn C x) : B = C := by
  have e : walkL 0 B = walkL 0 C := by
    apply rising_eq (walk_rising hB fun _ _ => Nat.zero_testBit _) (walk_rising hC fun _ _ => Nat.zero_testBit _)
    intro x
    rw [mem_walk, mem_walk]; exact h _
  have el : B.length = C.length := by
    have := congrArg List.length e
    rw [walk_len, walk_len] at this
    exact pow_inj this
  have er : B.reverse = C.reverse := by
    apply List.ext_getElem?
    intro i
    by_cases hi : i < B.length
    · have hb : B.reverse[i]? = some (B.reverse[i]'(by simpa using hi)) := List.getElem?_eq_getElem _
      have hc : C.reverse[i]? = some (C.reverse[i]'(by simpa [← el] using hi)) := List.getElem?_eq_getElem _
      rw [hb, hc]
      congr 1
      have h1 := cmb_pow _ _ _ hb
      have h2 := cmb_pow _ _ _ hc
      have hp : 2 ^ i < 2 ^ B.length := Nat.pow_lt_pow_right (by decide) hi
      have w1 : (walkL 0 B)[2 ^ i]? = some (word 0 B (2 ^ i)) := by
        unfold walkL
        rw [List.getElem?_map, List.getElem?_range hp]; rfl
      have w2 : (walkL 0 C)[2 ^ i]? = some (word 0 C (2 ^ i)) := by
        unfold walkL
        rw [List.getElem?_map, List.getElem?_range (el ▸ hp)]; rfl
      rw [e, w2] at w1
      have w3 := Option.some.inj w1
      unfold word at w3
      rw [Nat.zero_xor, Nat.zero_xor, h1, h2] at w3
      exact w3.symm
    · rw [List.getElem?_eq_none (by simpa using hi), List.getElem?_eq_none (by simpa [← el] using hi)]
  have := congrArg List.reverse er
  rwa [List.reverse_reverse, List.reverse_reverse] at this

/-- B is the basis of what the words ws span -/
structure IsBas (ws B : List Nat) : Prop where
  bas : Bas B
  spn : ∀ x, Spn B x ↔ Spn ws x
theorem isBas_of {ws B : List Nat} (p : B.Perm (rfold ws)) (s : B.Pairwise (· ≥ ·)) : IsBas ws B := by
  have h := rfold_ok ws
  refine ⟨bas_of (h.1.perm p) s, fun x => ?_⟩
  rw [← h.2 x]
  exact Spn.congr fun b => p.mem_iff
theorem IsBas.only {ws vs B C : List Nat} (h : IsBas ws B) (h' : IsBas vs C) (e : ∀ x, Spn ws x ↔ Spn vs x) : B = C :=
  bas_only h.bas h'.bas fun x => (h.spn x).trans ((e x).trans (h'.spn x).symm)
theorem IsBas.lt {ws B : List Nat} {k : Nat} (h : IsBas ws B) (hw : ∀ w ∈ ws, w < 2 ^ k) : ∀ b ∈ B, b < 2 ^ k :=
  fun b hb => ((h.spn b).mp (.mem hb)).lt hw
theorem IsBas.len {ws B : List Nat} {k : Nat} (h : IsBas ws B) (hw : ∀ w ∈ ws, w < 2 ^ k) : B.length ≤ k := by
  have h1 := walk_rising (pt := 0) h.bas fun _ _ => Nat.zero_testBit _
  have h2 : ∀ x ∈ walkL 0 B, x < 2 ^ k := fun x hx => by
    rw [mem_walk, Nat.zero_xor] at hx
    exact ((h.spn x).mp hx).lt hw
  have h3 : (walkL 0 B).length ≤ 2 ^ k := by
    have hn : (walkL 0 B).Nodup := h1.imp fun {a b} q => by omega
    have := List.Nodup.length_le_of_subset hn (l₂ := List.range (2 ^ k)) fun x hx => List.mem_range.mpr (h2 x hx)
    simpa using this
  rw [walk_len] at h3
  exact (Nat.pow_le_pow_iff_right (by decide)).mp h3
end My
/-! *** M3 -/
namespace My

/-! ### maps: columns and an offset -/
def cell (cols : List Nat) (off p : Nat) : Nat := cmb cols p ^^^ off
def cellsL (cols : List Nat) (off : Nat) : List Nat := (List.range (2 ^ cols.length)).map (cell cols off)
theorem cell_lt {k : Nat} {cols : List Nat} {off p : Nat} (h : ∀ c ∈ cols, c < 2 ^ k) (ho : off < 2 ^ k) : cell cols off p < 2 ^ k := Nat.xor_lt_two_pow (cmb_lt cols p h) ho
/-- one map behind another -/
theorem cell_then (c1 c2 : List Nat) (o1 o2 p : Nat) : cell (c1.map (cmb c2)) (cell c2 o2 o1) p = cell c2 o2 (cell c1 o1 p) := by
  unfold cell
  rw [cmb_map (cmb c2) (cmb_zero c2) (cmb_xor c2), cmb_xor, Nat.xor_assoc]

/-! ### the image -/
theorem mem_image {cols B : List Nat} {off x : Nat} (h : IsBas cols B) : x ∈ walkL (leastSum off B) B ↔ x ∈ cellsL cols off := by
  rw [mem_walk]
  have hs := least_spn B off
  have e : Spn B (leastSum off B ^^^ x) ↔ Spn B (off ^^^ x) := by
    constructor
    · intro q
      have := hs.xor q
      rwa [Nat.xor_assoc, xor_cancel] at this
    · intro q
      have := hs.xor q
      rwa [Nat.xor_comm off (leastSum off B), Nat.xor_assoc, xor_cancel] at this
  rw [e, h.spn, spn_iff]
  unfold cellsL cell
  rw [List.mem_map]
  constructor
  · rintro ⟨n, hn, q⟩
    refine ⟨n, List.mem_range.mpr hn, ?_⟩
    rw [q, Nat.xor_comm off x, Nat.xor_assoc, Nat.xor_self, Nat.xor_zero]
  · rintro ⟨n, hn, q⟩
    refine ⟨n, List.mem_range.mp hn, ?_⟩
    rw [← q, Nat.xor_comm (cmb cols n) off, xor_cancel]
/-- the cells in ascending order, each once -/
theorem image_only {cols B L : List Nat} {off : Nat} (h : IsBas cols B) (hL : L.Pairwise (· < ·)) (hm : ∀ x, x ∈ L ↔ x ∈ cellsL cols off) : walkL (leastSum off B) B = L :=
  rising_eq (walk_rising h.bas (least_out h.bas.rb off)) hL fun x => (mem_image h).trans (hm x).symm
theorem image_len {cols B L : List Nat} {off : Nat} (h : IsBas cols B) (hL : L.Pairwise (· < ·)) (hm : ∀ x, x ∈ L ↔ x ∈ cellsL cols off) : (B.length = cols.length) ↔ (L.length = (cellsL cols off).length) := by
  rw [← image_only h hL hm, walk_len]
  have : (cellsL cols off).length = 2 ^ cols.length := by simp [cellsL]
  rw [this]
  exact ⟨fun e => by rw [e], pow_inj⟩

/-! ### a flat made of all its words -/
theorem plain_bas {B B2 : List Nat} {pt : Nat} (h : Bas B) (h2 : IsBas ((walkL pt B).map (word pt B 0 ^^^ ·)) B2) : B2 = B := by
  refine bas_only h2.bas h fun x => (h2.spn x).trans ?_
  have e0 : word pt B 0 = pt := by unfold word; rw [cmb_zero, Nat.xor_zero]
  rw [e0]
  constructor
  · intro q
    refine q.sub fun b hb => ?_
    obtain ⟨y, hy, rfl⟩ := List.mem_map.mp hb
    exact mem_walk.mp hy
  · intro q
    refine .mem (List.mem_map.mpr ⟨pt ^^^ x, mem_walk.mpr ?_, xor_cancel _ _⟩)
    rwa [xor_cancel]
theorem plain_point {B : List Nat} {pt n : Nat} (h : Bas B) (hp : ∀ b ∈ B, pt.testBit b.log2 = false) : leastSum (word pt B n) B = pt := by
  refine least_only h.rb ?_ hp
  unfold word
  rw [Nat.xor_comm pt, Nat.xor_assoc, Nat.xor_self, Nat.xor_zero]
  exact (Spn.congr fun b => List.mem_reverse).mp (spn_cmb _ n)

/-! ### the least word of a class -/
theorem least_le {B : List Nat} (h : Bas B) {w z : Nat} (hz : Spn B (w ^^^ z)) : leastSum w B ≤ z := by
  by_cases e : leastSum w B ^^^ z = 0
  · exact Nat.le_of_eq (xor_eq_zero e)
  · have hd : Spn B (leastSum w B ^^^ z) := by
      have := (least_spn B w).xor hz
      rwa [Nat.xor_comm w (leastSum w B), Nat.xor_assoc, xor_cancel] at this
    obtain ⟨n, hn, q⟩ := cmb_spn ((Spn.congr (C := B.reverse) fun b => List.mem_reverse.symm).mp hd)
    have hn0 : n ≠ 0 := fun r => e (by rw [← q, r, cmb_zero])
    obtain ⟨a, ha, hb, hs⟩ := cmb_top h.rb.rev h.asc hn0 hn
    rw [q] at hb hs
    have hy : (leastSum w B).testBit a.log2 = false := least_out h.rb w a (List.mem_reverse.mp (List.mem_of_getElem? ha))
    apply Nat.le_of_lt
    apply lt_of_bit (i := a.log2) hy
    · rw [Nat.testBit_xor, hy] at hb; simpa using hb
    · intro j hj
      have : (leastSum w B ^^^ z).testBit j = false := Nat.testBit_lt_two_pow (Nat.lt_of_lt_of_le hs (Nat.pow_le_pow_right (by decide) hj))
      rw [Nat.testBit_xor] at this
      revert this
      cases (leastSum w B).testBit j <;> cases z.testBit j <;> simp

/-! ### rows: a sum of columns and the word that selects them -/
def grow (n : Nat) (p : Nat × Nat) : Nat := p.1 <<< n ||| 1 <<< p.2
def grows (cols : List Nat) : List Nat := cols.zipIdx.map (grow cols.length)
theorem or_xor {c n k : Nat} (h : k < n) : c <<< n ||| 1 <<< k = c <<< n ^^^ 2 ^ k := by
  apply Nat.eq_of_testBit_eq
  intro j
  rw [Nat.testBit_or, Nat.testBit_xor, Nat.one_shiftLeft, Nat.testBit_shiftLeft, Nat.testBit_two_pow]
  by_cases e : k = j
  · subst e
    have : ¬ n ≤ k := by omega
    simp [this]
  · simp [e]
theorem shl_xor (a b n : Nat) : (a ^^^ b) <<< n = a <<< n ^^^ b <<< n := Nat.shiftLeft_xor_distrib
theorem grows_aux (n : Nat) : ∀ (cols : List Nat) (k p : Nat), k + cols.length ≤ n → cmb ((cols.zipIdx k).map (grow n)) p = (cmb cols p) <<< n ^^^ (p % 2 ^ cols.length) <<< k
  | [], k, p, _ => by simp [cmb, Nat.mod_one]
  | c :: cols, k, p, h => by
    have hk : k < n := by simp at h; omega
    show (if p.testBit 0 = true then c <<< n ||| 1 <<< k else 0) ^^^ cmb ((cols.zipIdx (k + 1)).map (grow n)) (p / 2) = ((if p.testBit 0 = true then c else 0) ^^^ cmb cols (p / 2)) <<< n ^^^ (p % 2 ^ (cols.length + 1)) <<< k
    rw [grows_aux n cols (k + 1) (p / 2) (by simp at h; omega), or_xor hk, shl_xor]
    have hp : (p % 2 ^ (cols.length + 1)) <<< k = (if p.testBit 0 = true then 2 ^ k else 0) ^^^ (p / 2 % 2 ^ cols.length) <<< (k + 1) := by
      apply Nat.eq_of_testBit_eq
      intro j
      rw [Nat.testBit_shiftLeft, Nat.testBit_xor, Nat.testBit_shiftLeft, Nat.testBit_mod_two_pow, Nat.testBit_mod_two_pow]
      by_cases e : j = k
      · subst e
        have a5 : ¬ (j + 1 ≤ j) := by omega
        cases q : p.testBit 0 <;> simp [q, a5]
      · have h1 : (if p.testBit 0 = true then 2 ^ k else 0).testBit j = false := by
          split
          · rw [Nat.testBit_two_pow]; simp; omega
          · simp
        rw [h1]
        by_cases e2 : k < j
        · have a1 : j ≥ k := by omega
          have a2 : j ≥ k + 1 := by omega
          have a3 : j - k = (j - (k + 1)) + 1 := by omega
          rw [Nat.testBit_div_two, ← a3]
          have a4 : decide (j - k < cols.length + 1) = decide (j - (k + 1) < cols.length) := by
            apply Bool.eq_iff_iff.mpr; simp; omega
          simp [a1, a2, a4]
        · have a1 : ¬ j ≥ k := by omega
          have a2 : ¬ j ≥ k + 1 := by omega
          simp [a1, a2]
    rw [hp]
    generalize cmb cols (p / 2) <<< n = X
    generalize (p / 2 % 2 ^ cols.length) <<< (k + 1) = Y
    cases p.testBit 0
    · simp
    · simp only [if_true]
      generalize c <<< n = C
      generalize 2 ^ k = D
      apply Nat.eq_of_testBit_eq
      intro j
      simp only [Nat.testBit_xor]
      cases C.testBit j <;> cases D.testBit j <;> cases X.testBit j <;> cases Y.testBit j <;> rfl
theorem cmb_grows (cols : List Nat) {p : Nat} (hp : p < 2 ^ cols.length) : cmb (grows cols) p = (cmb cols p) <<< cols.length ^^^ p := by
  unfold grows
  have h := grows_aux cols.length cols 0 p (by omega)
  rw [Nat.mod_eq_of_lt hp, Nat.shiftLeft_zero] at h
  exact h
theorem grows_len (cols : List Nat) : (grows cols).length = cols.length := by simp [grows]
theorem spn_grows {cols : List Nat} {x : Nat} : Spn (grows cols) x ↔ ∃ p, p < 2 ^ cols.length ∧ x = (cmb cols p) <<< cols.length ^^^ p := by
  rw [spn_iff, grows_len]
  constructor
  · rintro ⟨p, hp, rfl⟩
    exact ⟨p, hp, cmb_grows cols hp⟩
  · rintro ⟨p, hp, rfl⟩
    exact ⟨p, hp, cmb_grows cols hp⟩
theorem shl_small {a n b : Nat} (hb : b < 2 ^ n) (e : a <<< n = b) : a = 0 ∧ b = 0 := by
  rw [Nat.shiftLeft_eq] at e
  by_cases h : a = 0
  · subst h; simp at e; exact ⟨rfl, e.symm⟩
  · exfalso
    have : 1 * 2 ^ n ≤ a * 2 ^ n := Nat.mul_le_mul_right _ (by omega)
    omega
/-- a small word of the rows' span selects columns with the sum 0 -/
theorem grows_small {cols : List Nat} {x w : Nat} (hx : x < 2 ^ cols.length) (h : Spn (grows cols) (w <<< cols.length ^^^ x)) : cmb cols x = w := by
  obtain ⟨p, hp, e⟩ := spn_grows.mp h
  have q : (w ^^^ cmb cols p) <<< cols.length = x ^^^ p := by
    rw [shl_xor]
    have e2 : w <<< cols.length = (cmb cols p <<< cols.length ^^^ p) ^^^ x := by
      rw [← e, Nat.xor_assoc, Nat.xor_self, Nat.xor_zero]
    rw [e2]
    generalize cmb cols p <<< cols.length = C
    apply Nat.eq_of_testBit_eq
    intro j
    simp only [Nat.testBit_xor]
    cases C.testBit j <;> cases p.testBit j <;> cases x.testBit j <;> rfl
  have r := shl_small (Nat.xor_lt_two_pow hx hp) q
  have r1 := xor_eq_zero r.1
  have r2 := xor_eq_zero r.2
  rw [r2, r1]
/-- the word that is selected -/
theorem selected_ok {cols R : List Nat} {w p : Nat} (h : IsBas (grows cols) R) (hp : p < 2 ^ cols.length) (hw : cmb cols p = w) :
    leastSum (w <<< cols.length) R < 2 ^ cols.length ∧ cmb cols (leastSum (w <<< cols.length) R) = w := by
  have h1 : Spn R (w <<< cols.length ^^^ p) := (h.spn _).mpr (spn_grows.mpr ⟨p, hp, by rw [hw]⟩)
  have h2 := Nat.lt_of_le_of_lt (least_le h.bas h1) hp
  exact ⟨h2, grows_small h2 ((h.spn _).mp (least_spn R _))⟩
theorem shr_zero {r n : Nat} : r >>> n = 0 ↔ r < 2 ^ n := by
  rw [Nat.shiftRight_eq_div_pow]
  constructor
  · intro h
    rcases Nat.lt_or_ge r (2 ^ n) with q | q
    · exact q
    · have := Nat.div_pos q (Nat.two_pow_pos n); omega
  · exact Nat.div_eq_of_lt
def kwords (n : Nat) (R : List Nat) : List Nat := R.filter fun r => r >>> n == 0
theorem kwords_lt {n : Nat} {R : List Nat} : ∀ r ∈ kwords n R, r < 2 ^ n := fun r hr => by
  have := (List.mem_filter.mp hr).2
  exact shr_zero.mp (by simpa using this)
theorem cmb_sub {C : List Nat} : ∀ (A : List Nat) (m : Nat), (∀ (i a : Nat), A[i]? = some a → m.testBit i = true → Spn C a) → Spn C (cmb A m)
  | [], _, _ => .zero
  | a :: A, m, h => by
    have h2 := cmb_sub A (m / 2) fun i b hb hm => h (i + 1) b hb (by rwa [Nat.testBit_div_two] at hm)
    show Spn C ((if m.testBit 0 = true then a else 0) ^^^ cmb A (m / 2))
    split
    · rename_i e
      exact (h 0 a rfl e).xor h2
    · rwa [Nat.zero_xor]
/-- the kernel -/
theorem kernel_ok {cols R K : List Nat} (h : IsBas (grows cols) R) (hK : IsBas (kwords cols.length R) K) {x : Nat} : Spn K x ↔ x < 2 ^ cols.length ∧ cmb cols x = 0 := by
  rw [hK.spn]
  constructor
  · intro q
    refine ⟨q.lt kwords_lt, ?_⟩
    have hq : Spn (grows cols) x := (h.spn _).mp (q.sub fun b hb => .mem (List.mem_filter.mp hb).1)
    refine grows_small (q.lt kwords_lt) ?_
    rw [Nat.zero_shiftLeft, Nat.zero_xor]
    exact hq
  · rintro ⟨hx, e⟩
    have hs : Spn R x := (h.spn _).mpr (spn_grows.mpr ⟨x, hx, by rw [e, Nat.zero_shiftLeft, Nat.zero_xor]⟩)
    obtain ⟨m, hm, rfl⟩ := cmb_spn hs
    refine cmb_sub R m fun i a ha hb => .mem (List.mem_filter.mpr ⟨List.mem_of_getElem? ha, ?_⟩)
    have hc := h.bas.rb.coef m i a ha
    rw [hb] at hc
    have hl : a.log2 < cols.length := by
      rcases Nat.lt_or_ge a.log2 cols.length with q | q
      · exact q
      · rw [Nat.testBit_lt_two_pow (Nat.lt_of_lt_of_le hx (Nat.pow_le_pow_right (by decide) q))] at hc
        cases hc
    have : a >>> cols.length = 0 := shr_zero.mpr (Nat.lt_of_lt_of_le Nat.lt_log2_self (Nat.pow_le_pow_right (by decide) hl))
    rw [this]; rfl
/-- the places with a cell, in ascending order -/
def alike (cols : List Nat) (off c : Nat) : List Nat := (List.range (2 ^ cols.length)).filter fun p => cell cols off p == c
theorem alike_ok {cols R K : List Nat} {off p : Nat} (h : IsBas (grows cols) R) (hK : IsBas (kwords cols.length R) K) (hp : p < 2 ^ cols.length) :
    walkL (leastSum (leastSum ((cell cols off p ^^^ off) <<< cols.length) R) K) K = alike cols off (cell cols off p) := by
  have hw : cmb cols p = cell cols off p ^^^ off := by unfold cell; rw [Nat.xor_assoc, Nat.xor_self, Nat.xor_zero]
  have hs := selected_ok h hp hw
  generalize leastSum ((cell cols off p ^^^ off) <<< cols.length) R = q at hs
  obtain ⟨hq, hc⟩ := hs
  have hz := (kernel_ok h hK).mp (least_spn K q)
  have hKlt : ∀ b ∈ K, b < 2 ^ cols.length := fun b hb => ((kernel_ok h hK).mp (.mem hb)).1
  have hl := least_lt K q hq hKlt
  have hl2 : cmb cols (leastSum q K) = cell cols off p ^^^ off := by
    have := hz.2
    rw [cmb_xor, hc] at this
    exact (xor_eq_zero this).symm
  apply rising_eq (walk_rising hK.bas (least_out hK.bas.rb q)) (filter_rising _)
  intro x
  rw [mem_walk, kernel_ok h hK, List.mem_filter, List.mem_range, beq_iff_eq]
  constructor
  · rintro ⟨h1, h2⟩
    have hx : x < 2 ^ cols.length := by
      have := Nat.xor_lt_two_pow hl h1
      rwa [xor_cancel] at this
    refine ⟨hx, ?_⟩
    rw [cmb_xor, hl2] at h2
    have := xor_eq_zero h2
    show cmb cols x ^^^ off = cell cols off p
    rw [← this, Nat.xor_assoc, Nat.xor_self, Nat.xor_zero]
  · rintro ⟨hx, e⟩
    refine ⟨Nat.xor_lt_two_pow hl hx, ?_⟩
    rw [cmb_xor, hl2]
    have : cmb cols x = cell cols off p ^^^ off := by rw [← e]; unfold cell; rw [Nat.xor_assoc, Nat.xor_self, Nat.xor_zero]
    rw [this, Nat.xor_self]
end My
/-! *** M4 -/
namespace My
/-! ### the leading bit by halves -/
def lead1 (s : Nat × Nat) (h : Nat) : Nat × Nat := if s.1 >>> h > 0 then (s.1 >>> h, s.2 + h) else s
def leadF (w : Nat) : Nat × Nat := [128, 64, 32, 16, 8, 4, 2, 1].foldl lead1 (w, 0)
theorem lead_step {w r f h : Nat} (hr : r = w >>> f) (hz : w ≠ 0 → r ≠ 0) (hl : r < 2 ^ (h + h)) :
    (lead1 (r, f) h).1 = w >>> (lead1 (r, f) h).2 ∧ (w ≠ 0 → (lead1 (r, f) h).1 ≠ 0) ∧ (lead1 (r, f) h).1 < 2 ^ h := by
  unfold lead1
  split
  · rename_i q
    refine ⟨?_, fun _ => Nat.ne_of_gt q, ?_⟩
    · show r >>> h = w >>> (f + h)
      rw [hr, Nat.shiftRight_add]
    · show r >>> h < 2 ^ h
      rw [Nat.shiftRight_eq_div_pow]
      apply Nat.div_lt_of_lt_mul
      rw [← Nat.pow_add]; exact hl
  · rename_i q
    refine ⟨hr, hz, ?_⟩
    have q' : ¬ (r >>> h > 0) := q
    exact shr_zero.mp (Nat.eq_zero_of_not_pos q')
theorem leadF_ok {w : Nat} (h : w < 2 ^ 256) : (leadF w).2 = w.log2 := by
  have a0 := lead_step (w := w) (r := w) (f := 0) (h := 128) rfl id h
  have a1 := lead_step (h := 64) a0.1 a0.2.1 a0.2.2
  have a2 := lead_step (h := 32) a1.1 a1.2.1 a1.2.2
  have a3 := lead_step (h := 16) a2.1 a2.2.1 a2.2.2
  have a4 := lead_step (h := 8) a3.1 a3.2.1 a3.2.2
  have a5 := lead_step (h := 4) a4.1 a4.2.1 a4.2.2
  have a6 := lead_step (h := 2) a5.1 a5.2.1 a5.2.2
  have a7 := lead_step (h := 1) a6.1 a6.2.1 a6.2.2
  have e : leadF w = lead1 (lead1 (lead1 (lead1 (lead1 (lead1 (lead1 (lead1 (w, 0) 128) 64) 32) 16) 8) 4) 2) 1 := rfl
  have ez : (leadF 0).2 = 0 := by decide
  by_cases hw0 : w = 0
  · subst hw0; rw [ez, Nat.log2_zero]
  rw [e]
  generalize lead1 (lead1 (lead1 (lead1 (lead1 (lead1 (lead1 (lead1 (w, 0) 128) 64) 32) 16) 8) 4) 2) 1 = s at a7
  obtain ⟨r, f⟩ := s
  obtain ⟨b1, b2, b3⟩ := a7
  simp only at b1 b2 b3 ⊢
  · have hr : r = 1 := by have := b2 hw0; omega
    have hd : w / 2 ^ f = 1 := by rw [← Nat.shiftRight_eq_div_pow, ← b1, hr]
    symm
    apply log2_of_bit
    · rw [Nat.testBit_eq_decide_div_mod_eq, hd]; rfl
    · intro j hj
      apply Nat.testBit_lt_two_pow
      have h1 : w < 2 ^ (f + 1) := by
        have := Nat.lt_mul_div_succ w (Nat.two_pow_pos f)
        rw [hd] at this
        rw [Nat.pow_succ]; omega
      exact Nat.lt_of_lt_of_le h1 (Nat.pow_le_pow_right (by decide) hj)
/-! ### the bits of a word -/
def bitsOf (w : Nat) : List Nat := if w = 0 then [] else (List.range (w.log2 + 1)).filter fun k => w.testBit k
theorem bitsOf_eq (w : Nat) : bitsOf w = (List.range (w.log2 + 1)).filter fun k => w.testBit k := by
  unfold bitsOf
  split
  · rename_i h; subst h; rfl
  · rfl
theorem mem_bitsOf {w k : Nat} : k ∈ bitsOf w ↔ w.testBit k = true := by
  rw [bitsOf_eq, List.mem_filter, List.mem_range]
  constructor
  · exact fun h => h.2
  · intro h
    refine ⟨?_, h⟩
    rcases Nat.lt_or_ge w.log2 k with q | q
    · rw [bit_above q] at h; cases h
    · omega
def sumAt (cols : List Nat) (f k : Nat) : Nat := f ^^^ cols.getD k 0
theorem sum_bits (cols : List Nat) (w : Nat) : ∀ (m : Nat) (f : Nat), (((List.range m).filter fun k => w.testBit k).foldl (sumAt cols) f) = f ^^^ cmb cols (w % 2 ^ m)
  | 0, f => by simp [Nat.mod_one, cmb_zero]
  | m + 1, f => by
    rw [List.range_succ, List.filter_append, List.foldl_append, sum_bits cols w m f]
    have e : w % 2 ^ (m + 1) = w % 2 ^ m ^^^ (if w.testBit m = true then 2 ^ m else 0) := by
      apply Nat.eq_of_testBit_eq
      intro j
      rw [Nat.testBit_xor, Nat.testBit_mod_two_pow, Nat.testBit_mod_two_pow]
      by_cases q : j = m
      · subst q
        cases r : w.testBit j <;> simp [Nat.testBit_two_pow]
      · have h1 : (if w.testBit m = true then 2 ^ m else 0).testBit j = false := by
          split
          · rw [Nat.testBit_two_pow]; simp; omega
          · simp
        have h2 : decide (j < m + 1) = decide (j < m) := by apply Bool.eq_iff_iff.mpr; simp; omega
        rw [h1, h2]; simp
    rw [e, cmb_xor]
    cases r : w.testBit m
    · simp [r, cmb_zero]
    · have hc : cmb cols (2 ^ m) = cols.getD m 0 := by
        rw [List.getD_eq_getElem?_getD]
        cases q : cols[m]? with
        | some b => exact cmb_pow cols m b q
        | none =>
          have hm : cols.length ≤ m := List.getElem?_eq_none_iff.mp q
          rw [← cmb_mod]
          have : 2 ^ m % 2 ^ cols.length = 0 := Nat.mod_eq_zero_of_dvd (Nat.pow_dvd_pow 2 hm)
          rw [this, cmb_zero]; rfl
      simp [r, hc, sumAt, Nat.xor_assoc]
def summed (cols : List Nat) (w : Nat) : Nat := (bitsOf w).foldl (sumAt cols) 0
theorem summed_eq (cols : List Nat) (w : Nat) : summed cols w = cmb cols w := by
  unfold summed
  rw [bitsOf_eq, sum_bits, Nat.zero_xor, Nat.mod_eq_of_lt Nat.lt_log2_self]
/-! ### combined: from the last row -/
def comb1 (s : Nat × Nat) (b : Nat) : Nat × Nat := (if s.2.testBit 0 = true then s.1 ^^^ b else s.1, s.2 / 2)
theorem comb_ok : ∀ (A : List Nat) (f n : Nat), (A.foldl comb1 (f, n)).1 = f ^^^ cmb A n
  | [], f, n => by simp [cmb]
  | b :: A, f, n => by
    show (A.foldl comb1 (comb1 (f, n) b)).1 = f ^^^ ((if n.testBit 0 = true then b else 0) ^^^ cmb A (n / 2))
    rw [comb_ok A _ _]
    show (if n.testBit 0 = true then f ^^^ b else f) ^^^ cmb A (n / 2) = _
    split
    · rw [Nat.xor_assoc]
    · rw [Nat.zero_xor]
end My
/-! *** W0 -/
namespace My
open PySem PySem.Spec PyProof.Rows L2 He
/-! ### the text by places -/
def top (i : Nat) : Stmt := PySem.Challenge.pw_bitlaid_k25_whole_places_changed.main.body.getD i (.Pass ⟨0, 0, 0, 0⟩)
abbrev s_is_integer : Stmt := top 23
abbrev s_want_bits : Stmt := top 24
abbrev s_fits : Stmt := top 25
abbrev s_want_word : Stmt := top 26
abbrev s_is_list : Stmt := top 27
abbrev s_want_words : Stmt := top 28
abbrev s_leading_of : Stmt := top 29
abbrev s_bits_of : Stmt := top 30
abbrev s_least_sum : Stmt := top 32
abbrev s_reduced : Stmt := top 33
abbrev s_combined : Stmt := top 34
abbrev s_summed : Stmt := top 39
abbrev s_selecting_rows : Stmt := top 40
abbrev s_kernel_words : Stmt := top 41
abbrev s_selected_by : Stmt := top 42
abbrev s_selected : Stmt := top 43
abbrev s_want_columns : Stmt := top 44
abbrev s_want_positions : Stmt := top 45
abbrev s_want_same : Stmt := top 46
abbrev s_want_map : Stmt := top 47
abbrev s_is_name : Stmt := top 53
abbrev s_is_axis : Stmt := top 54
abbrev s_wrong_axis : Stmt := top 55
abbrev s_want_axes : Stmt := top 56
abbrev s_want_name : Stmt := top 57
abbrev s_names_of : Stmt := top 58
abbrev s_total_bits : Stmt := top 59
abbrev s_has_axis : Stmt := top 60
abbrev s_want_axis : Stmt := top 61
abbrev s_want_free : Stmt := top 62
abbrev s_number_of : Stmt := top 63
abbrev s_axis_size : Stmt := top 64
abbrev s_lowest_bit : Stmt := top 65
abbrev s_axis_positions : Stmt := top 66
abbrev s_want_index : Stmt := top 67
abbrev s_want_axis_position : Stmt := top 68
abbrev s_split_place : Stmt := top 71
abbrev s_spread : Stmt := top 72
abbrev s_replaced : Stmt := top 73
abbrev s_mixing_map : Stmt := top 74
abbrev s_without_bits : Stmt := top 75
abbrev s_want_cell_map : Stmt := top 81
abbrev s_law_pot : Stmt := top 87
abbrev s_law_digit : Stmt := top 88
abbrev s_law_pick : Stmt := top 89
abbrev s_law_mixed : Stmt := top 90
abbrev s_law_names : Stmt := top 91
abbrev s_law_axes : Stmt := top 92
abbrev s_law_total : Stmt := top 93
abbrev s_law_cell : Stmt := top 94
abbrev s_law_indexes : Stmt := top 95
abbrev s_law_place : Stmt := top 96
abbrev s_law_put : Stmt := top 97
abbrev s_law_dropped : Stmt := top 98
abbrev s_law_redone : Stmt := top 99
abbrev s_law_flipped : Stmt := top 100
abbrev s_law_bits : Stmt := top 101
abbrev s_law_stirred : Stmt := top 102
abbrev s_law_fixed : Stmt := top 103
abbrev s_law_widened : Stmt := top 104
abbrev s_law_cut : Stmt := top 105
abbrev s_law_repeated : Stmt := top 106
abbrev s_law_changed : Stmt := top 107
abbrev s_law_is_plain : Stmt := top 108
abbrev s_law_shows : Stmt := top 109
abbrev s_law_right : Stmt := top 110
abbrev s_law : Stmt := top 111
abbrev s_Space_init : Stmt := inClass (top 35) 0
abbrev s_Space_eq : Stmt := inClass (top 35) 13
abbrev s_Space_repr : Stmt := inClass (top 35) 14
abbrev s_Flat_init : Stmt := inClass (top 37) 0
abbrev s_Flat_bits : Stmt := inClass (top 37) 5
abbrev s_Flat_walk : Stmt := inClass (top 37) 7
abbrev s_Flat_eq : Stmt := inClass (top 37) 16
abbrev s_Flat_repr : Stmt := inClass (top 37) 17
abbrev s_Map_init : Stmt := inClass (top 48) 0
abbrev s_Map_selecting : Stmt := inClass (top 48) 2
abbrev s_Map_bits_in : Stmt := inClass (top 48) 4
abbrev s_Map_bits : Stmt := inClass (top 48) 5
abbrev s_Map_is_injective : Stmt := inClass (top 48) 8
abbrev s_Map_at : Stmt := inClass (top 48) 12
abbrev s_Map_then : Stmt := inClass (top 48) 13
abbrev s_Map_kernel : Stmt := inClass (top 48) 16
abbrev s_Map_image : Stmt := inClass (top 48) 17
abbrev s_Map_before : Stmt := inClass (top 48) 18
abbrev s_Layout_init : Stmt := inClass (top 85) 0
abbrev s_Layout_bits : Stmt := inClass (top 85) 3
abbrev s_Layout_cell_bits : Stmt := inClass (top 85) 4
abbrev s_Layout_is_injective : Stmt := inClass (top 85) 6
abbrev s_Layout_axes : Stmt := inClass (top 85) 7
abbrev s_Layout_indexes_of : Stmt := inClass (top 85) 11
abbrev s_Layout_cell_at : Stmt := inClass (top 85) 13
abbrev s_Layout_places_of : Stmt := inClass (top 85) 14
abbrev s_Layout_cells : Stmt := inClass (top 85) 15
abbrev s_Layout_walk : Stmt := inClass (top 85) 16
abbrev s_Layout_flipped : Stmt := inClass (top 85) 21
abbrev s_Layout_mixed : Stmt := inClass (top 85) 22
abbrev s_Layout_fixed : Stmt := inClass (top 85) 23
abbrev s_Layout_cut : Stmt := inClass (top 85) 24
abbrev s_Layout_repeated : Stmt := inClass (top 85) 25
/-! ### values -/
abbrev vN (n : Nat) : V := .int (n : Int)
abbrev vL (l : List Nat) : List V := l.map vN
theorem vL_at {l : List Nat} {i : Nat} {x : V} (h : (vL l)[i]? = some x) : ∃ n, l[i]? = some n ∧ x = vN n := by
  rw [List.getElem?_map] at h
  cases e : l[i]? with
  | none => rw [e] at h; cases h
  | some n => rw [e] at h; exact ⟨n, rfl, (Option.some.inj h).symm⟩
theorem vL_app (a b : List Nat) : vL (a ++ b) = vL a ++ vL b := List.map_append
theorem xor_N (a b : Nat) : Builtin.bitXor (a : Int) (b : Int) = ((a ^^^ b : Nat) : Int) := by
  have h := Bits.bitXor_pp (x := (a : Int)) (y := (b : Int)) (by omega) (by omega)
  simpa using h
theorem or_N (a b : Nat) : Builtin.bitOr (a : Int) (b : Int) = ((a ||| b : Nat) : Int) := by
  have h := Bits.bitOr_pp (x := (a : Int)) (y := (b : Int)) (by omega) (by omega)
  simpa using h
theorem shl_N (a k : Nat) : (a : Int) * 2 ^ ((k : Int).toNat) = ((a <<< k : Nat) : Int) := by
  rw [Nat.shiftLeft_eq]; simp
theorem shr_N (a k : Nat) : (a : Int) / 2 ^ ((k : Int).toNat) = ((a >>> k : Nat) : Int) := by
  rw [Nat.shiftRight_eq_div_pow]; simp
theorem bit_N (a k : Nat) : (Builtin.bitAnd ((a : Int) / 2 ^ ((k : Int).toNat)) 1 = 1) ↔ a.testBit k = true := by
  rw [shr_N, PyProof.Rows.bitAnd_m1, Nat.shiftRight_eq_div_pow, Nat.testBit_eq_decide_div_mod_eq]
  constructor
  · intro h; apply decide_eq_true; omega
  · intro h; have := of_decide_eq_true h; omega
theorem dec_bit (a k : Nat) : decide (V.int (Builtin.bitAnd ((a : Int) / 2 ^ ((k : Int).toNat)) 1) = V.int 1) = a.testBit k := by
  cases e : a.testBit k with
  | true => exact decide_eq_true (by rw [(bit_N a k).mpr e])
  | false =>
    apply decide_eq_false
    intro h
    injection h with h
    rw [bit_N, e] at h; cases h
theorem dec_N (a b : Nat) : decide (vN a = vN b) = decide (a = b) := by
  apply Bool.eq_iff_iff.mpr
  rw [decide_eq_true_iff, decide_eq_true_iff]
  exact ⟨fun h => by injection h with h; omega, fun h => by rw [h]⟩
theorem q_bl {Q : VK} {H : Hp} {b c : Bool} (e : b = c) (h : Q (.bl c) H) : Q (.bl b) H := e ▸ h
theorem q_int {Q : VK} {H : Hp} {b c : Int} (e : b = c) (h : Q (.int c) H) : Q (.int b) H := e ▸ h
theorem cpow {n : Nat} (h : n ≤ 1000) : CPow 1 (n : Int) := ⟨by omega, by omega, by decide⟩
theorem cpowN {a n : Nat} (ha : a < 2 ^ 64) (h : n ≤ 1000) : CPow (a : Int) (n : Int) := ⟨by omega, by omega, by simpa using ha⟩
theorem lt_pow (v n : Nat) : decide ((v : Int) < 1 * 2 ^ ((n : Int).toNat)) = decide (v < 2 ^ n) := by
  apply Bool.eq_iff_iff.mpr
  rw [decide_eq_true_iff, decide_eq_true_iff, Int.one_mul, Int.toNat_natCast]
  constructor
  · intro h; exact_mod_cast h
  · intro h; exact_mod_cast h
theorem iteY {c A B : Prop} [Decidable c] (hc : c) (h : A) : if decide c = true then A else B := by rw [if_pos (decide_eq_true hc)]; exact h
theorem iteN {c A B : Prop} [Decidable c] (hc : ¬ c) (h : B) : if decide c = true then A else B := by rw [if_neg (by simpa using hc)]; exact h
theorem iteNN {c A B : Prop} [Decidable c] (hc : ¬ c) (h : A) : if (!decide c) = true then A else B := by rw [if_pos (by simpa using hc)]; exact h
/-! ### heaps -/
abbrev Ex (H H' : Hp) : Prop := Same H H'
theorem Ex.new {H : Hp} {p : Addr} {o : HO} (h : H p = none) : Ex H (upd H p o) := fun b u e => by
  rw [upd_ne (ne_of_none e h)]; exact e
theorem Ex.mut {H H' : Hp} {p : Addr} {o : HO} (e : Ex H H') (h : H p = none) : Ex H (upd H' p o) := fun b u q => by
  rw [upd_ne (ne_of_none q h)]; exact e b u q
/-- a new object: the heap behind it by what is known -/
theorem newI {H : Hp} {o : HO} {R : Addr → Hp → Prop} (h : ∀ p H', H p = none → Ex H H' → H' p = some o → R p H') : ∀ p, H p = none → R p (upd H p o) :=
  fun p hp => h p _ hp (Ex.new hp) upd_same
/-- a list or a tuple -/
def Sq (H : Hp) (a : Addr) (xs : List V) : Prop := H a = some (.lst xs) ∨ H a = some (.tup xs)
theorem Sq.ex {H H' : Hp} {a : Addr} {xs : List V} (e : Ex H H') (h : Sq H a xs) : Sq H' a xs := h.imp (e _ _) (e _ _)
/-! ### promises by the number of arguments -/
abbrev spF1 (f : V → Hp → VK → Prop) : Sp := fun vs H Q _ => ∃ a, vs = [a] ∧ f a H Q
abbrev spF2 (f : V → V → Hp → VK → Prop) : Sp := fun vs H Q _ => ∃ a b, vs = [a, b] ∧ f a b H Q
abbrev spF3 (f : V → V → V → Hp → VK → Prop) : Sp := fun vs H Q _ => ∃ a b c, vs = [a, b, c] ∧ f a b c H Q
abbrev spF4 (f : V → V → V → V → Hp → VK → Prop) : Sp := fun vs H Q _ => ∃ a b c d, vs = [a, b, c, d] ∧ f a b c d H Q
abbrev spF5 (f : V → V → V → V → V → Hp → VK → Prop) : Sp := fun vs H Q _ => ∃ a b c d e, vs = [a, b, c, d, e] ∧ f a b c d e H Q
theorem len1 {f vs H Q E} (h : spF1 f vs H Q E) : vs.length = 1 := by obtain ⟨a, rfl, _⟩ := h; rfl
theorem len2 {f vs H Q E} (h : spF2 f vs H Q E) : vs.length = 2 := by obtain ⟨a, b, rfl, _⟩ := h; rfl
theorem len3 {f vs H Q E} (h : spF3 f vs H Q E) : vs.length = 3 := by obtain ⟨a, b, c, rfl, _⟩ := h; rfl
theorem len4 {f vs H Q E} (h : spF4 f vs H Q E) : vs.length = 4 := by obtain ⟨a, b, c, d, rfl, _⟩ := h; rfl
theorem len5 {f vs H Q E} (h : spF5 f vs H Q E) : vs.length = 5 := by obtain ⟨a, b, c, d, e, rfl, _⟩ := h; rfl
/-! ### what the top leaves -/
abbrev DefF (K : PySem.W.Frag) (x qual : Str) (st : Stmt) (f : Addr) : Prop := ∃ fd, FunD K x qual (defArgs st) (defBody st) (defScope st) [] [] f fd
structure Tx (K : PySem.W.Frag) (mg : Str → Option Value) : Prop where
  b_len : mg "len" = none
  b_abs : mg "abs" = none
  b_isinstance : mg "isinstance" = none
  b_max : mg "max" = none
  b_min : mg "min" = none
  b_divmod : mg "divmod" = none
  b_sum : mg "sum" = none
  b_all : mg "all" = none
  b_repr : mg "repr" = none
  b_sorted : mg "sorted" = none
  b_range : mg "range" = none
  b_enumerate : mg "enumerate" = none
  b_reversed : mg "reversed" = none
  b_zip : mg "zip" = none
  b_list : mg "list" = none
  b_tuple : mg "tuple" = none
  b_int : mg "int" = none
  b_dict : mg "dict" = none
  b_set : mg "set" = none
  b_bool : mg "bool" = none
  b_str : mg "str" = none
  c_MOST_BITS : ∃ u, mg "MOST_BITS" = some u ∧ RelV (.int 80) u
  c_MOST_LETTERS : ∃ u, mg "MOST_LETTERS" = some u ∧ RelV (.int 8) u
  c_MOST_AXIS_BITS : ∃ u, mg "MOST_AXIS_BITS" = some u ∧ RelV (.int 40) u
  c_LETTERS : ∃ u, mg "LETTERS" = some u ∧ RelV (.str "abcdefghijklmnopqrstuvwxyz") u
  c_HALVES : ∃ u, mg "HALVES" = some u ∧ RelV (.ref (ga K "HALVES")) u
  t_HALVES : ∀ H : Hp, SqT K H (ga K "HALVES") (vL [128, 64, 32, 16, 8, 4, 2, 1])
  g_is_integer : mg "is_integer" = some (.ref (ga K "is_integer"))
  d_is_integer : DefF K "is_integer" "is_integer" s_is_integer (ga K "is_integer")
  g_want_bits : mg "want_bits" = some (.ref (ga K "want_bits"))
  d_want_bits : DefF K "want_bits" "want_bits" s_want_bits (ga K "want_bits")
  g_fits : mg "fits" = some (.ref (ga K "fits"))
  d_fits : DefF K "fits" "fits" s_fits (ga K "fits")
  g_want_word : mg "want_word" = some (.ref (ga K "want_word"))
  d_want_word : DefF K "want_word" "want_word" s_want_word (ga K "want_word")
  g_is_list : mg "is_list" = some (.ref (ga K "is_list"))
  d_is_list : DefF K "is_list" "is_list" s_is_list (ga K "is_list")
  g_want_words : mg "want_words" = some (.ref (ga K "want_words"))
  d_want_words : DefF K "want_words" "want_words" s_want_words (ga K "want_words")
  g_leading_of : mg "leading_of" = some (.ref (ga K "leading_of"))
  d_leading_of : DefF K "leading_of" "leading_of" s_leading_of (ga K "leading_of")
  g_bits_of : mg "bits_of" = some (.ref (ga K "bits_of"))
  d_bits_of : DefF K "bits_of" "bits_of" s_bits_of (ga K "bits_of")
  g_least_sum : mg "least_sum" = some (.ref (ga K "least_sum"))
  d_least_sum : DefF K "least_sum" "least_sum" s_least_sum (ga K "least_sum")
  g_reduced : mg "reduced" = some (.ref (ga K "reduced"))
  d_reduced : DefF K "reduced" "reduced" s_reduced (ga K "reduced")
  g_combined : mg "combined" = some (.ref (ga K "combined"))
  d_combined : DefF K "combined" "combined" s_combined (ga K "combined")
  g_summed : mg "summed" = some (.ref (ga K "summed"))
  d_summed : DefF K "summed" "summed" s_summed (ga K "summed")
  g_selecting_rows : mg "selecting_rows" = some (.ref (ga K "selecting_rows"))
  d_selecting_rows : DefF K "selecting_rows" "selecting_rows" s_selecting_rows (ga K "selecting_rows")
  g_kernel_words : mg "kernel_words" = some (.ref (ga K "kernel_words"))
  d_kernel_words : DefF K "kernel_words" "kernel_words" s_kernel_words (ga K "kernel_words")
  g_selected_by : mg "selected_by" = some (.ref (ga K "selected_by"))
  d_selected_by : DefF K "selected_by" "selected_by" s_selected_by (ga K "selected_by")
  g_selected : mg "selected" = some (.ref (ga K "selected"))
  d_selected : DefF K "selected" "selected" s_selected (ga K "selected")
  g_want_columns : mg "want_columns" = some (.ref (ga K "want_columns"))
  d_want_columns : DefF K "want_columns" "want_columns" s_want_columns (ga K "want_columns")
  g_want_positions : mg "want_positions" = some (.ref (ga K "want_positions"))
  d_want_positions : DefF K "want_positions" "want_positions" s_want_positions (ga K "want_positions")
  g_want_same : mg "want_same" = some (.ref (ga K "want_same"))
  d_want_same : DefF K "want_same" "want_same" s_want_same (ga K "want_same")
  g_want_map : mg "want_map" = some (.ref (ga K "want_map"))
  d_want_map : DefF K "want_map" "want_map" s_want_map (ga K "want_map")
  g_is_name : mg "is_name" = some (.ref (ga K "is_name"))
  d_is_name : DefF K "is_name" "is_name" s_is_name (ga K "is_name")
  g_is_axis : mg "is_axis" = some (.ref (ga K "is_axis"))
  d_is_axis : DefF K "is_axis" "is_axis" s_is_axis (ga K "is_axis")
  g_wrong_axis : mg "wrong_axis" = some (.ref (ga K "wrong_axis"))
  d_wrong_axis : DefF K "wrong_axis" "wrong_axis" s_wrong_axis (ga K "wrong_axis")
  g_want_axes : mg "want_axes" = some (.ref (ga K "want_axes"))
  d_want_axes : DefF K "want_axes" "want_axes" s_want_axes (ga K "want_axes")
  g_want_name : mg "want_name" = some (.ref (ga K "want_name"))
  d_want_name : DefF K "want_name" "want_name" s_want_name (ga K "want_name")
  g_names_of : mg "names_of" = some (.ref (ga K "names_of"))
  d_names_of : DefF K "names_of" "names_of" s_names_of (ga K "names_of")
  g_total_bits : mg "total_bits" = some (.ref (ga K "total_bits"))
  d_total_bits : DefF K "total_bits" "total_bits" s_total_bits (ga K "total_bits")
  g_has_axis : mg "has_axis" = some (.ref (ga K "has_axis"))
  d_has_axis : DefF K "has_axis" "has_axis" s_has_axis (ga K "has_axis")
  g_want_axis : mg "want_axis" = some (.ref (ga K "want_axis"))
  d_want_axis : DefF K "want_axis" "want_axis" s_want_axis (ga K "want_axis")
  g_want_free : mg "want_free" = some (.ref (ga K "want_free"))
  d_want_free : DefF K "want_free" "want_free" s_want_free (ga K "want_free")
  g_number_of : mg "number_of" = some (.ref (ga K "number_of"))
  d_number_of : DefF K "number_of" "number_of" s_number_of (ga K "number_of")
  g_axis_size : mg "axis_size" = some (.ref (ga K "axis_size"))
  d_axis_size : DefF K "axis_size" "axis_size" s_axis_size (ga K "axis_size")
  g_lowest_bit : mg "lowest_bit" = some (.ref (ga K "lowest_bit"))
  d_lowest_bit : DefF K "lowest_bit" "lowest_bit" s_lowest_bit (ga K "lowest_bit")
  g_axis_positions : mg "axis_positions" = some (.ref (ga K "axis_positions"))
  d_axis_positions : DefF K "axis_positions" "axis_positions" s_axis_positions (ga K "axis_positions")
  g_want_index : mg "want_index" = some (.ref (ga K "want_index"))
  d_want_index : DefF K "want_index" "want_index" s_want_index (ga K "want_index")
  g_want_axis_position : mg "want_axis_position" = some (.ref (ga K "want_axis_position"))
  d_want_axis_position : DefF K "want_axis_position" "want_axis_position" s_want_axis_position (ga K "want_axis_position")
  g_split_place : mg "split_place" = some (.ref (ga K "split_place"))
  d_split_place : DefF K "split_place" "split_place" s_split_place (ga K "split_place")
  g_spread : mg "spread" = some (.ref (ga K "spread"))
  g_replaced : mg "replaced" = some (.ref (ga K "replaced"))
  d_replaced : DefF K "replaced" "replaced" s_replaced (ga K "replaced")
  g_mixing_map : mg "mixing_map" = some (.ref (ga K "mixing_map"))
  d_mixing_map : DefF K "mixing_map" "mixing_map" s_mixing_map (ga K "mixing_map")
  g_without_bits : mg "without_bits" = some (.ref (ga K "without_bits"))
  d_without_bits : DefF K "without_bits" "without_bits" s_without_bits (ga K "without_bits")
  g_want_cell_map : mg "want_cell_map" = some (.ref (ga K "want_cell_map"))
  d_want_cell_map : DefF K "want_cell_map" "want_cell_map" s_want_cell_map (ga K "want_cell_map")
  g_law_pot : mg "_law_pot" = some (.ref (ga K "_law_pot"))
  d_law_pot : DefF K "_law_pot" "_law_pot" s_law_pot (ga K "_law_pot")
  g_law_digit : mg "_law_digit" = some (.ref (ga K "_law_digit"))
  d_law_digit : DefF K "_law_digit" "_law_digit" s_law_digit (ga K "_law_digit")
  g_law_pick : mg "_law_pick" = some (.ref (ga K "_law_pick"))
  d_law_pick : DefF K "_law_pick" "_law_pick" s_law_pick (ga K "_law_pick")
  g_law_mixed : mg "_law_mixed" = some (.ref (ga K "_law_mixed"))
  d_law_mixed : DefF K "_law_mixed" "_law_mixed" s_law_mixed (ga K "_law_mixed")
  g_law_names : mg "_law_names" = some (.ref (ga K "_law_names"))
  d_law_names : DefF K "_law_names" "_law_names" s_law_names (ga K "_law_names")
  g_law_axes : mg "_law_axes" = some (.ref (ga K "_law_axes"))
  d_law_axes : DefF K "_law_axes" "_law_axes" s_law_axes (ga K "_law_axes")
  g_law_total : mg "_law_total" = some (.ref (ga K "_law_total"))
  d_law_total : DefF K "_law_total" "_law_total" s_law_total (ga K "_law_total")
  g_law_cell : mg "_law_cell" = some (.ref (ga K "_law_cell"))
  d_law_cell : DefF K "_law_cell" "_law_cell" s_law_cell (ga K "_law_cell")
  g_law_indexes : mg "_law_indexes" = some (.ref (ga K "_law_indexes"))
  d_law_indexes : DefF K "_law_indexes" "_law_indexes" s_law_indexes (ga K "_law_indexes")
  g_law_place : mg "_law_place" = some (.ref (ga K "_law_place"))
  d_law_place : DefF K "_law_place" "_law_place" s_law_place (ga K "_law_place")
  g_law_put : mg "_law_put" = some (.ref (ga K "_law_put"))
  d_law_put : DefF K "_law_put" "_law_put" s_law_put (ga K "_law_put")
  g_law_dropped : mg "_law_dropped" = some (.ref (ga K "_law_dropped"))
  d_law_dropped : DefF K "_law_dropped" "_law_dropped" s_law_dropped (ga K "_law_dropped")
  g_law_redone : mg "_law_redone" = some (.ref (ga K "_law_redone"))
  d_law_redone : DefF K "_law_redone" "_law_redone" s_law_redone (ga K "_law_redone")
  g_law_flipped : mg "_law_flipped" = some (.ref (ga K "_law_flipped"))
  d_law_flipped : DefF K "_law_flipped" "_law_flipped" s_law_flipped (ga K "_law_flipped")
  g_law_bits : mg "_law_bits" = some (.ref (ga K "_law_bits"))
  d_law_bits : DefF K "_law_bits" "_law_bits" s_law_bits (ga K "_law_bits")
  g_law_stirred : mg "_law_stirred" = some (.ref (ga K "_law_stirred"))
  d_law_stirred : DefF K "_law_stirred" "_law_stirred" s_law_stirred (ga K "_law_stirred")
  g_law_fixed : mg "_law_fixed" = some (.ref (ga K "_law_fixed"))
  d_law_fixed : DefF K "_law_fixed" "_law_fixed" s_law_fixed (ga K "_law_fixed")
  g_law_widened : mg "_law_widened" = some (.ref (ga K "_law_widened"))
  d_law_widened : DefF K "_law_widened" "_law_widened" s_law_widened (ga K "_law_widened")
  g_law_cut : mg "_law_cut" = some (.ref (ga K "_law_cut"))
  d_law_cut : DefF K "_law_cut" "_law_cut" s_law_cut (ga K "_law_cut")
  g_law_repeated : mg "_law_repeated" = some (.ref (ga K "_law_repeated"))
  d_law_repeated : DefF K "_law_repeated" "_law_repeated" s_law_repeated (ga K "_law_repeated")
  g_law_changed : mg "_law_changed" = some (.ref (ga K "_law_changed"))
  d_law_changed : DefF K "_law_changed" "_law_changed" s_law_changed (ga K "_law_changed")
  g_law_is_plain : mg "_law_is_plain" = some (.ref (ga K "_law_is_plain"))
  d_law_is_plain : DefF K "_law_is_plain" "_law_is_plain" s_law_is_plain (ga K "_law_is_plain")
  g_law_shows : mg "_law_shows" = some (.ref (ga K "_law_shows"))
  d_law_shows : DefF K "_law_shows" "_law_shows" s_law_shows (ga K "_law_shows")
  g_law_right : mg "_law_right" = some (.ref (ga K "_law_right"))
  d_law_right : DefF K "_law_right" "_law_right" s_law_right (ga K "_law_right")
  g_law : mg "law" = some (.ref (ga K "law"))
  d_law : DefF K "law" "law" s_law (ga K "law")
  g_Space : mg "Space" = some (.ref (ga K "Space"))
  k_Space : ∃ u, mg "Space" = some u ∧ RelV (.ref (ga K "Space")) u
  i_Space : C8.InsC K (ga K "Space")
  m_Space : Mk K (ga K "Space") (ma K (ga K "Space") "__init__")
  n_Space_own_bits : NoAttr K (ga K "Space") "own_bits"
  n_Space_own_basis : NoAttr K (ga K "Space") "own_basis"
  g_Flat : mg "Flat" = some (.ref (ga K "Flat"))
  k_Flat : ∃ u, mg "Flat" = some u ∧ RelV (.ref (ga K "Flat")) u
  i_Flat : C8.InsC K (ga K "Flat")
  m_Flat : Mk K (ga K "Flat") (ma K (ga K "Flat") "__init__")
  n_Flat_own_space : NoAttr K (ga K "Flat") "own_space"
  n_Flat_own_point : NoAttr K (ga K "Flat") "own_point"
  g_Map : mg "Map" = some (.ref (ga K "Map"))
  k_Map : ∃ u, mg "Map" = some u ∧ RelV (.ref (ga K "Map")) u
  i_Map : C8.InsC K (ga K "Map")
  m_Map : Mk K (ga K "Map") (ma K (ga K "Map") "__init__")
  n_Map_own_columns : NoAttr K (ga K "Map") "own_columns"
  n_Map_own_bits : NoAttr K (ga K "Map") "own_bits"
  n_Map_own_offset : NoAttr K (ga K "Map") "own_offset"
  g_Layout : mg "Layout" = some (.ref (ga K "Layout"))
  k_Layout : ∃ u, mg "Layout" = some u ∧ RelV (.ref (ga K "Layout")) u
  i_Layout : C8.InsC K (ga K "Layout")
  m_Layout : Mk K (ga K "Layout") (ma K (ga K "Layout") "__init__")
  n_Layout_own_axes : NoAttr K (ga K "Layout") "own_axes"
  n_Layout_own_mapping : NoAttr K (ga K "Layout") "own_mapping"
  d_Space_init : DefF K "__init__" "Space.__init__" s_Space_init (ma K (ga K "Space") "__init__")
  q_Space_eq : Meth K (ga K "Space") "__eq__" (ma K (ga K "Space") "__eq__")
  d_Space_eq : DefF K "__eq__" "Space.__eq__" s_Space_eq (ma K (ga K "Space") "__eq__")
  q_Space_repr : Meth K (ga K "Space") "__repr__" (ma K (ga K "Space") "__repr__")
  d_Space_repr : DefF K "__repr__" "Space.__repr__" s_Space_repr (ma K (ga K "Space") "__repr__")
  d_Flat_init : DefF K "__init__" "Flat.__init__" s_Flat_init (ma K (ga K "Flat") "__init__")
  q_Flat_bits : ∃ p g, PropOf K (ga K "Flat") "bits" p g ∧ DefF K "bits" "Flat.bits" s_Flat_bits g
  q_Flat_walk : Meth K (ga K "Flat") "walk" (ma K (ga K "Flat") "walk")
  d_Flat_walk : DefF K "walk" "Flat.walk" s_Flat_walk (ma K (ga K "Flat") "walk")
  q_Flat_eq : Meth K (ga K "Flat") "__eq__" (ma K (ga K "Flat") "__eq__")
  d_Flat_eq : DefF K "__eq__" "Flat.__eq__" s_Flat_eq (ma K (ga K "Flat") "__eq__")
  q_Flat_repr : Meth K (ga K "Flat") "__repr__" (ma K (ga K "Flat") "__repr__")
  d_Flat_repr : DefF K "__repr__" "Flat.__repr__" s_Flat_repr (ma K (ga K "Flat") "__repr__")
  d_Map_init : ∃ fd, FunD K "__init__" "Map.__init__" (defArgs s_Map_init) (defBody s_Map_init) (defScope s_Map_init) [.int 0] [] (ma K (ga K "Map") "__init__") fd
  q_Map_selecting : ClX.CRead K (ga K "Map") (.type "type") ∧ ∃ p g, ClX.CMet K (ga K "Map") (.type "type") "selecting" p g ∧ DefF K "selecting" "Map.selecting" s_Map_selecting g
  q_Map_bits_in : ∃ p g, PropOf K (ga K "Map") "bits_in" p g ∧ DefF K "bits_in" "Map.bits_in" s_Map_bits_in g
  q_Map_bits : ∃ p g, PropOf K (ga K "Map") "bits" p g ∧ DefF K "bits" "Map.bits" s_Map_bits g
  q_Map_is_injective : ∃ p g, PropOf K (ga K "Map") "is_injective" p g ∧ DefF K "is_injective" "Map.is_injective" s_Map_is_injective g
  q_Map_at : Meth K (ga K "Map") "at" (ma K (ga K "Map") "at")
  d_Map_at : DefF K "at" "Map.at" s_Map_at (ma K (ga K "Map") "at")
  q_Map_then : Meth K (ga K "Map") "then" (ma K (ga K "Map") "then")
  d_Map_then : DefF K "then" "Map.then" s_Map_then (ma K (ga K "Map") "then")
  q_Map_kernel : Meth K (ga K "Map") "kernel" (ma K (ga K "Map") "kernel")
  d_Map_kernel : DefF K "kernel" "Map.kernel" s_Map_kernel (ma K (ga K "Map") "kernel")
  q_Map_image : Meth K (ga K "Map") "image" (ma K (ga K "Map") "image")
  d_Map_image : DefF K "image" "Map.image" s_Map_image (ma K (ga K "Map") "image")
  q_Map_before : Meth K (ga K "Map") "before" (ma K (ga K "Map") "before")
  d_Map_before : DefF K "before" "Map.before" s_Map_before (ma K (ga K "Map") "before")
  d_Layout_init : DefF K "__init__" "Layout.__init__" s_Layout_init (ma K (ga K "Layout") "__init__")
  q_Layout_bits : ∃ p g, PropOf K (ga K "Layout") "bits" p g ∧ DefF K "bits" "Layout.bits" s_Layout_bits g
  q_Layout_cell_bits : ∃ p g, PropOf K (ga K "Layout") "cell_bits" p g ∧ DefF K "cell_bits" "Layout.cell_bits" s_Layout_cell_bits g
  q_Layout_is_injective : ∃ p g, PropOf K (ga K "Layout") "is_injective" p g ∧ DefF K "is_injective" "Layout.is_injective" s_Layout_is_injective g
  q_Layout_axes : Meth K (ga K "Layout") "axes" (ma K (ga K "Layout") "axes")
  d_Layout_axes : DefF K "axes" "Layout.axes" s_Layout_axes (ma K (ga K "Layout") "axes")
  q_Layout_indexes_of : Meth K (ga K "Layout") "indexes_of" (ma K (ga K "Layout") "indexes_of")
  d_Layout_indexes_of : DefF K "indexes_of" "Layout.indexes_of" s_Layout_indexes_of (ma K (ga K "Layout") "indexes_of")
  q_Layout_cell_at : Meth K (ga K "Layout") "cell_at" (ma K (ga K "Layout") "cell_at")
  d_Layout_cell_at : DefF K "cell_at" "Layout.cell_at" s_Layout_cell_at (ma K (ga K "Layout") "cell_at")
  q_Layout_places_of : Meth K (ga K "Layout") "places_of" (ma K (ga K "Layout") "places_of")
  d_Layout_places_of : DefF K "places_of" "Layout.places_of" s_Layout_places_of (ma K (ga K "Layout") "places_of")
  q_Layout_cells : Meth K (ga K "Layout") "cells" (ma K (ga K "Layout") "cells")
  d_Layout_cells : DefF K "cells" "Layout.cells" s_Layout_cells (ma K (ga K "Layout") "cells")
  q_Layout_walk : Meth K (ga K "Layout") "walk" (ma K (ga K "Layout") "walk")
  d_Layout_walk : DefF K "walk" "Layout.walk" s_Layout_walk (ma K (ga K "Layout") "walk")
  q_Layout_flipped : Meth K (ga K "Layout") "flipped" (ma K (ga K "Layout") "flipped")
  d_Layout_flipped : DefF K "flipped" "Layout.flipped" s_Layout_flipped (ma K (ga K "Layout") "flipped")
  q_Layout_mixed : Meth K (ga K "Layout") "mixed" (ma K (ga K "Layout") "mixed")
  d_Layout_mixed : DefF K "mixed" "Layout.mixed" s_Layout_mixed (ma K (ga K "Layout") "mixed")
  q_Layout_fixed : Meth K (ga K "Layout") "fixed" (ma K (ga K "Layout") "fixed")
  d_Layout_fixed : DefF K "fixed" "Layout.fixed" s_Layout_fixed (ma K (ga K "Layout") "fixed")
  q_Layout_cut : Meth K (ga K "Layout") "cut" (ma K (ga K "Layout") "cut")
  d_Layout_cut : DefF K "cut" "Layout.cut" s_Layout_cut (ma K (ga K "Layout") "cut")
  q_Layout_repeated : Meth K (ga K "Layout") "repeated" (ma K (ga K "Layout") "repeated")
  d_Layout_repeated : DefF K "repeated" "Layout.repeated" s_Layout_repeated (ma K (ga K "Layout") "repeated")
  d_spread : ∃ fd, FunD K "spread" "spread" (defArgs s_spread) (defBody s_spread) (defScope s_spread) [.int 0] [] (ga K "spread") fd
section
variable {P : Program} {w : World} {K : PySem.W.Frag} {mg : Str → Option Value} {base : Heap}
/-- a def of the module, by its body -/
theorem cal_of {x : Str} {st : Stmt} {f : Addr} {N ps : List Str} {k : Nat} {sp : Sp} (D : DefF K x x st f) (g : mg x = some (.ref f)) (S : FnScope N ps (defScope st))
    (hb : ∀ (kV doc pm : Value) (an : Option Addr) (cdv ct : Value) (us : List Value), us.length = ps.length → bindArgs (PySem.W.fnOf x x (defArgs st) (defBody st) (defScope st) .none kV doc pm an cdv ct) ⟨us, []⟩ = pure (ps.zip us))
    (len : ∀ vs H Q E, sp vs H Q E → vs.length = ps.length)
    (hbody : ∀ (cdv : Value) (A : Around) (outer : List Env) (s : Shared) (H : Hp) (vs : List V) (Q : VK) (E : XK), Room k (A.deeper (envOfC x (defScope st) s.heap.objs.size f cdv)) → sp vs H Q E →
      ∃ t, PSs (cxOf C8.CX0 P w K mg base N x (defScope st) f cdv A outer s H E).nox (defBody st) t ∧ t { nx := fun _ H' => Q .non H', rt := Q } (start N vs) H) : C8.Cal P w K mg base (k + 1) x sp [] := by
  obtain ⟨fd, F⟩ := D
  refine ⟨f, fd, ps, [], F.ok S len fun cdv A outer s H vs Q E hr h => ?_, g, F.kp, F.bindsN hb, .nil⟩
  obtain ⟨t, ht, q⟩ := hbody cdv A outer s H vs Q E hr h
  exact ⟨t, PSs.nox ht, q⟩

/-- a method of an own class, by its body -/
theorem met_of {C f : Addr} {m qual : Str} {st : Stmt} {N ps : List Str} {k : Nat} {sp : Sp} (c : Cls K C) (me : Meth K C m f) (D : DefF K m qual st f) (S : FnScope N ps (defScope st))
    (hb : ∀ (kV doc pm : Value) (an : Option Addr) (cdv ct : Value) (us : List Value), us.length = ps.length → bindArgs (PySem.W.fnOf m qual (defArgs st) (defBody st) (defScope st) .none kV doc pm an cdv ct) ⟨us, []⟩ = pure (ps.zip us))
    (len : ∀ vs H Q E, sp vs H Q E → vs.length = ps.length)
    (hbody : ∀ (cdv : Value) (A : Around) (outer : List Env) (s : Shared) (H : Hp) (vs : List V) (Q : VK) (E : XK), Room k (A.deeper (envOfC qual (defScope st) s.heap.objs.size f cdv)) → sp vs H Q E →
      ∃ t, PSs (cxOf C8.CX0 P w K mg base N qual (defScope st) f cdv A outer s H E).nox (defBody st) t ∧ t { nx := fun _ H' => Q .non H', rt := Q } (start N vs) H) : C8.Met P w K mg base (k + 1) C m sp [] := by
  obtain ⟨fd, F⟩ := D
  refine ⟨f, fd, ps, [], c, me, F.ok S len fun cdv A outer s H vs Q E hr h => ?_, F.bindsN hb, .nil⟩
  obtain ⟨t, ht, q⟩ := hbody cdv A outer s H vs Q E hr h
  exact ⟨t, PSs.nox ht, q⟩
/-- the making of an own class, by its __init__'s body -/
theorem mak_of {x : Str} {C f : Addr} {qual : Str} {st : Stmt} {N ps : List Str} {k : Nat} {sp : Sp} (M : Mk K C f) (g : mg x = some (.ref C)) (D : DefF K "__init__" qual st f) (S : FnScope N ps (defScope st))
    (hb : ∀ (kV doc pm : Value) (an : Option Addr) (cdv ct : Value) (us : List Value), us.length = ps.length → bindArgs (PySem.W.fnOf "__init__" qual (defArgs st) (defBody st) (defScope st) .none kV doc pm an cdv ct) ⟨us, []⟩ = pure (ps.zip us))
    (len : ∀ vs H Q E, sp vs H Q E → vs.length = ps.length)
    (hbody : ∀ (cdv : Value) (A : Around) (outer : List Env) (s : Shared) (H : Hp) (vs : List V) (Q : VK) (E : XK), Room k (A.deeper (envOfC qual (defScope st) s.heap.objs.size f cdv)) → sp vs H Q E →
      ∃ t, PSs (cxOf C8.CX0 P w K mg base N qual (defScope st) f cdv A outer s H E).nox (defBody st) t ∧ t { nx := fun _ H' => Q .non H', rt := Q } (start N vs) H) : C8.Mak P w K mg base (k + 1) x C sp [] := by
  obtain ⟨fd, F⟩ := D
  refine ⟨f, fd, ps, [], M, F.ok S len fun cdv A outer s H vs Q E hr h => ?_, g, F.bindsN hb, .nil⟩
  obtain ⟨t, ht, q⟩ := hbody cdv A outer s H vs Q E hr h
  exact ⟨t, PSs.nox ht, q⟩
/-- a property of an own class -/
structure Prp (P : Program) (w : World) (K : PySem.W.Frag) (mg : Str → Option Value) (base : Heap) (k : Nat) (C : Addr) (f : Str) (sp : Sp) : Prop where
  ex : ∃ (p g : Addr) (fd : FuncData) (ps : List Str), Cls K C ∧ PropOf K C f p g ∧ FnOk P w K mg base C8.CX0 k g fd ps sp ∧ Binds K fd ps []
theorem prp_of {C p f : Addr} {m qual : Str} {st : Stmt} {N ps : List Str} {k : Nat} {sp : Sp} (c : Cls K C) (me : PropOf K C m p f) (D : DefF K m qual st f) (S : FnScope N ps (defScope st))
    (hb : ∀ (kV doc pm : Value) (an : Option Addr) (cdv ct : Value) (us : List Value), us.length = ps.length → bindArgs (PySem.W.fnOf m qual (defArgs st) (defBody st) (defScope st) .none kV doc pm an cdv ct) ⟨us, []⟩ = pure (ps.zip us))
    (len : ∀ vs H Q E, sp vs H Q E → vs.length = ps.length)
    (hbody : ∀ (cdv : Value) (A : Around) (outer : List Env) (s : Shared) (H : Hp) (vs : List V) (Q : VK) (E : XK), Room k (A.deeper (envOfC qual (defScope st) s.heap.objs.size f cdv)) → sp vs H Q E →
      ∃ t, PSs (cxOf C8.CX0 P w K mg base N qual (defScope st) f cdv A outer s H E).nox (defBody st) t ∧ t { nx := fun _ H' => Q .non H', rt := Q } (start N vs) H) : Prp P w K mg base (k + 1) C m sp := by
  obtain ⟨fd, F⟩ := D
  refine ⟨p, f, fd, ps, c, me, F.ok S len fun cdv A outer s H vs Q E hr h => ?_, F.bindsN hb⟩
  obtain ⟨t, ht, q⟩ := hbody cdv A outer s H vs Q E hr h
  exact ⟨t, PSs.nox ht, q⟩
end
section
variable {X : Cx} {k j : Nat} {C : Addr} {f x : Str} {sp : Sp} {dvs : List V} {e : Expr} {es : List Expr} {p pos : Pos} {ta : TE} {t : TA} {tg : Expr}
theorem pe_pp (c : Prp X.prog X.w X.K X.mg X.base k C f sp) (hr : Room j X.A) (hk : k + 1 ≤ j) (he : PE X e ta) (hab : attributeBase e f X.env (eval e X.env) = eval e X.env) : PE X (.Attribute e f pos) (tProp C sp [] C8.E0 ta) := by
  obtain ⟨p, g, fd, ps, cl, hp, F, hb⟩ := c.ex
  exact pe_prop he cl hp F (hr.mono hk) hb .nil C8.pass0 hab
/-- cls(..): the class at C stands in the i-th slot -/
def tMakeL (i : Nat) (C : Addr) (sp : Sp) (dvs : List V) (E : XK) (t : TA) : TE := fun σ H Q => σ[i]? = some (some (.ref C)) ∧ tMake C sp dvs E t σ H Q
theorem pe_mkL {i : Nat} {y : Str} (c : C8.Mak X.prog X.w X.K X.mg X.base k y C sp dvs) (hr : Room j X.A) (hk : k + 1 ≤ j) (hN : X.N[i]? = some x) (hv : Vis X.env.scope x) (ha : PA X (e :: es) t)
    (hd : (x == ("__debug__" : Str)) = false := by decide) (hcd : (x == ("__classdict__" : Str)) = false := by decide)
    (he : starEach (e :: es) X.env = (false, eval e X.env) :: starEach es X.env := by rfl) (hpl : (backTo pos (starEach es X.env)).any (·.1) = false := by rfl) :
    PE X (.Call (.Name x p) (e :: es) [] pos) (tMakeL i C sp dvs C8.E0 t) := by
  obtain ⟨f, fd, ps, ds, M, F, _, hb, hds⟩ := c.ex
  refine ⟨fun pins s σ H Q I ⟨h0, h⟩ => ?_⟩
  refine wpAny_Call_Name_kw (thn ((pe_var (pos := p) hN hv hd hcd).run pins s σ H (fun v H' => v = .ref C ∧ H' = H) I ⟨_, h0, rfl, rfl⟩) fun u s1 ⟨c, H1, I1, rc, ec, eH⟩ => ?_)
  subst ec eH
  obtain rfl : u = Value.ref C := rc
  refine PySem.W.callWith_K (h₀ := X.base) I.ok.mod.kin M.kp (thn (ha.run pos pins s1 σ H1 _ I1 h) fun us s2 ⟨vs, H2, I2, r, q⟩ => ⟨I2.kIn, ?_⟩) he hpl
  exact run_make M F (hr.mono hk) hb hds C8.pass0 I2 r q
/-- over a list or a tuple -/
def iSeq (K : PySem.W.Frag) (tl : TE) : TI := fun σ H R => tl σ H fun x H1 => ∃ a xs, x = .ref a ∧ ((H1 a = some (.lst xs) ∧ R (Itl K a) H1) ∨ (H1 a = some (.tup xs) ∧ R (Itt K a) H1))
theorem pi_seq {l : Expr} {tl : TE} (hl : PE X l tl) : PI X tg l (iSeq X.K tl) := by
  refine ⟨fun pins s σ H R I h => ?_⟩
  refine thn (hl.run pins s σ H _ I h) fun v s1 ⟨x, H1, I1, r1, q1⟩ => ?_
  obtain ⟨a, xs, e, q⟩ := q1
  subst e
  cases r1
  rcases q with ⟨hq, q⟩ | ⟨hq, q⟩
  · obtain ⟨its, rv, p, hz⟩ := I1.list (SqL.of (K := X.K) hq)
    refine wpAny_pyIter_list p.isList ?_
    refine ⟨s1.heap.objs.size, [s1.heap.objs.size], _, _, H1, rfl, I1.kept (t' := s1.toks) fun b o e => Heap.get?_push_of_some _ e, turn_list a _, ⟨_, Heap.get?_push_size _ rfl, rfl, rfl⟩, fun b hb => ?_, q⟩
    have e : b = s1.heap.objs.size := by simpa using hb
    subst e
    exact I1.fpOk (Nat.le_refl _) (I1.hok.fresh (Nat.le_refl _))
  · obtain ⟨its, rv, p, hz⟩ := I1.tuple (SqT.of (K := X.K) hq)
    refine wpAny_pyIter_tuple (show s1.heap.IsTuple a its.toArray from p) ?_
    refine ⟨s1.heap.objs.size, [s1.heap.objs.size], _, _, H1, rfl, I1.kept (t' := s1.toks) fun b o e => Heap.get?_push_of_some _ e, turn_tuple a _, ⟨_, Heap.get?_push_size _ rfl, rfl, rfl⟩, fun b hb => ?_, q⟩
    have e : b = s1.heap.objs.size := by simpa using hb
    subst e
    exact I1.fpOk (Nat.le_refl _) (I1.hok.fresh (Nat.le_refl _))
end
/-! ### objects -/
section
variable (K : PySem.W.Frag)
abbrev CS : Addr := ga K "Space"
abbrev CF : Addr := ga K "Flat"
abbrev CM : Addr := ga K "Map"
abbrev CL : Addr := ga K "Layout"
abbrev fsS (k : Nat) (l : Addr) : List (Str × V) := [("own_bits", vN k), ("own_basis", .ref l)]
def SpaceAt (H : Hp) (s : Addr) (k : Nat) (B : List Nat) : Prop := ∃ dx l, H s = some (.ins (CS K) dx (fsS k l)) ∧ H l = some (.lst (vL B))
abbrev fsF (s : Addr) (pt : Nat) : List (Str × V) := [("own_space", .ref s), ("own_point", vN pt)]
def FlatAt (H : Hp) (f : Addr) (k : Nat) (B : List Nat) (pt : Nat) : Prop := ∃ dx s, H f = some (.ins (CF K) dx (fsF s pt)) ∧ SpaceAt K H s k B
abbrev fsM (l : Addr) (k off : Nat) : List (Str × V) := [("own_columns", .ref l), ("own_bits", vN k), ("own_offset", vN off)]
/-- a map: columns and offset of so many bits -/
structure MapOk (cols : List Nat) (k off : Nat) : Prop where
  k8 : k ≤ 60
  n8 : cols.length ≤ 16
  cl : ∀ c ∈ cols, c < 2 ^ k
  ol : off < 2 ^ k
def MapAt (H : Hp) (m : Addr) (cols : List Nat) (k off : Nat) : Prop := MapOk cols k off ∧ ∃ dx l, H m = some (.ins (CM K) dx (fsM l k off)) ∧ H l = some (.lst (vL cols))
end
theorem SpaceAt.ex {K : PySem.W.Frag} {H H' : Hp} {s : Addr} {k : Nat} {B : List Nat} (e : Ex H H') : SpaceAt K H s k B → SpaceAt K H' s k B
  | ⟨dx, l, a, b⟩ => ⟨dx, l, e _ _ a, e _ _ b⟩
theorem FlatAt.ex {K : PySem.W.Frag} {H H' : Hp} {f : Addr} {k : Nat} {B : List Nat} {pt : Nat} (e : Ex H H') : FlatAt K H f k B pt → FlatAt K H' f k B pt
  | ⟨dx, s, a, b⟩ => ⟨dx, s, e _ _ a, b.ex e⟩
theorem MapAt.ex {K : PySem.W.Frag} {H H' : Hp} {m : Addr} {cols : List Nat} {k off : Nat} (e : Ex H H') : MapAt K H m cols k off → MapAt K H' m cols k off
  | ⟨ok, dx, l, a, b⟩ => ⟨ok, dx, l, e _ _ a, e _ _ b⟩
/-- all that stood stands, but for the new object x -/
def ExB (x : Addr) (H H' : Hp) : Prop := ∀ b o, b ≠ x → H b = some o → H' b = some o
theorem ExB.made {H H' : Hp} {x dx C : Addr} (nx : H x = none) (nd : H dx = none) (e : ExB x (upd (upd H dx (.own x)) x (.ins C dx [])) H') : Ex H H' := fun b o h => by
  have nb : b ≠ x := ne_of_none h nx
  refine e b o nb ?_
  rw [upd_ne nb, upd_ne (ne_of_none h nd)]; exact h
end My
/-! *** HdA -/
namespace My
open PySem PySem.Spec PyProof.Rows L2 He
/-! ### the head: what is looked at behind the top -/
/-- where to look next: a def's code object and defaults, a class's names, a wrapped def -/
def nextO (o : Obj) : List Addr := match o.data with
  | .func fd => refV fd.code ++ refV fd.defaults
  | .cls cd => [cd.ns]
  | .dict es _ => es.toList.flatMap fun e => refV e.val
  | .fields vs => (match o.cls with
    | .type n => (match n == "property" || n == "classmethod" with
      | true => vs.toList.flatMap refV
      | false => [])
    | _ => [])
  | _ => []
def nextL (g : Addr → Option Obj) (as : List Addr) : List Addr := as.flatMap fun a => match g a with
  | some o => nextO o
  | none => []
/-- the module's names, and so many steps on -/
def fromL (g : Addr → Option Obj) : Nat → List Addr → List Addr
  | 0, as => as
  | n + 1, as => as ++ fromL g n (nextL g as)
def lookF (g : Addr → Option Obj) : PySem.W.Frag := frT g (cStatics :: fromL g 5 [mainGlobals])
theorem lookF_in {h : Heap} : (lookF h.get?).In h := frT_in
/-- the defs that make a lambda -/
abbrev fiveD : List Defn := [("_law_flipped", none), ("_law_stirred", none), ("_law_fixed", none), ("_law_cut", none), ("_law_repeated", none)]
/-- no list stands in it -/
def noLst (K : PySem.W.Frag) : Bool := K.all fun q => match q.2.cls with
  | .type n => !(n == "list")
  | _ => true
/-- the five tables are five -/
def apart (K : PySem.W.Frag) : Bool := fiveD.all fun p => fiveD.all fun q => decide (p.1 = q.1) || !((cT K p).2 == (cT K q).2)
def insB (x : Str) (K : PySem.W.Frag) : Bool := eqO (PySem.W.findIn K (.ref (ga K x)) "__class__") (some (some (.builtin "object.__class__"))) && (eqO (PySem.W.specialIn K (.builtin "object.__class__") "__get__") (some (some (.builtin "getset_descriptor.__get__"))) &&
  (decide (PySem.W.takesIn K (.builtin "object.__class__") = some true) && (decide (PySem.W.mroIn K (ga K x) (.type "object") = some true) && decide (PySem.W.kitOne K (.ref (ga K x)) (.ref (ga K x)) = some true))))
theorem insB_ok {K : PySem.W.Frag} {x : Str} (c : Cls K (ga K x)) (h : insB x K = true) : C8.InsC K (ga K x) := by
  obtain ⟨h1, h⟩ := ba h
  obtain ⟨h2, h⟩ := ba h
  obtain ⟨h3, h⟩ := ba h
  obtain ⟨h4, h5⟩ := ba h
  exact ⟨c, eqO_ok h1, eqO_ok h2, of_decide_eq_true h3, of_decide_eq_true h4, of_decide_eq_true h5⟩
theorem wf_rec {K : PySem.W.Frag} {C : Addr} {T : String} {m : Str} (h : (match PySem.W.recIn K (ma K C m) T with
    | some (.ref _ :: _) => true
    | _ => false) = true) : ∃ rest, PySem.W.recIn K (ma K C m) T = some (.ref (He5.wf K C T m) :: rest) := by
  unfold He5.wf
  split at h
  · rename_i f r e
    exact ⟨r, by rw [e]⟩
  · cases h
def propB (x m : Str) (K : PySem.W.Frag) : Bool := eqO (PySem.W.findIn K (.ref (ga K x)) m) (some (some (.ref (ma K (ga K x) m)))) && (eqO (PySem.W.specialIn K (.ref (ma K (ga K x) m)) "__get__") (some (some (.builtin "property.__get__"))) &&
  (decide (PySem.W.takesIn K (.ref (ma K (ga K x) m)) = some true) && (match PySem.W.recIn K (ma K (ga K x) m) "property" with
    | some (.ref _ :: _) => true
    | _ => false)))
theorem propB_ok {K : PySem.W.Frag} {x m : Str} (h : propB x m K = true) : PropOf K (ga K x) m (ma K (ga K x) m) (He5.wf K (ga K x) "property" m) := by
  obtain ⟨h1, h⟩ := ba h
  obtain ⟨h2, h⟩ := ba h
  obtain ⟨h3, h4⟩ := ba h
  exact ⟨eqO_ok h1, eqO_ok h2, of_decide_eq_true h3, wf_rec h4⟩
def cmB (x m : Str) (K : PySem.W.Frag) : Bool := PySem.W.readsIn K (ga K x) (.type "type") && (eqO (PySem.W.specialIn K (.ref (ga K x)) "__getattribute__") (some (some (.builtin "type.__getattribute__"))) &&
  (He5.wrapB K (ga K x) "classmethod" "classmethod.__get__" m && PySem.W.fnIn K (He5.wf K (ga K x) "classmethod" m)))
theorem cmB_ok {K : PySem.W.Frag} {x m : Str} (h : cmB x m K = true) : ClX.CRead K (ga K x) (.type "type") ∧ ClX.CMet K (ga K x) (.type "type") m (ma K (ga K x) m) (He5.wf K (ga K x) "classmethod" m) := by
  obtain ⟨h1, h⟩ := ba h
  obtain ⟨h2, h⟩ := ba h
  obtain ⟨h3, h4⟩ := ba h
  exact ⟨⟨h1, eqO_ok h2⟩, He5.cmet_of h3 h4⟩
def X_HALVES : PySem.W.Frag → Bool := fun K => tupB K "HALVES" [.int 128, .int 64, .int 32, .int 16, .int 8, .int 4, .int 2, .int 1]
def X_ISpace : PySem.W.Frag → Bool := insB "Space"
def X_IFlat : PySem.W.Frag → Bool := insB "Flat"
def X_IMap : PySem.W.Frag → Bool := insB "Map"
def X_ILayout : PySem.W.Frag → Bool := insB "Layout"
def X_Flat_bits : PySem.W.Frag → Bool := propB "Flat" "bits"
def X_Map_selecting : PySem.W.Frag → Bool := cmB "Map" "selecting"
def X_Map_bits_in : PySem.W.Frag → Bool := propB "Map" "bits_in"
def X_Map_bits : PySem.W.Frag → Bool := propB "Map" "bits"
def X_Map_is_injective : PySem.W.Frag → Bool := propB "Map" "is_injective"
def X_Layout_bits : PySem.W.Frag → Bool := propB "Layout" "bits"
def X_Layout_cell_bits : PySem.W.Frag → Bool := propB "Layout" "cell_bits"
def X_Layout_is_injective : PySem.W.Frag → Bool := propB "Layout" "is_injective"
abbrev D_is_integer : He5.DefA := ⟨fun K => ga K "is_integer", "is_integer", "is_integer", defArgs s_is_integer, defBody s_is_integer, defScope s_is_integer, [], []⟩
abbrev D_want_bits : He5.DefA := ⟨fun K => ga K "want_bits", "want_bits", "want_bits", defArgs s_want_bits, defBody s_want_bits, defScope s_want_bits, [], []⟩
abbrev D_fits : He5.DefA := ⟨fun K => ga K "fits", "fits", "fits", defArgs s_fits, defBody s_fits, defScope s_fits, [], []⟩
abbrev D_want_word : He5.DefA := ⟨fun K => ga K "want_word", "want_word", "want_word", defArgs s_want_word, defBody s_want_word, defScope s_want_word, [], []⟩
abbrev D_is_list : He5.DefA := ⟨fun K => ga K "is_list", "is_list", "is_list", defArgs s_is_list, defBody s_is_list, defScope s_is_list, [], []⟩
abbrev D_want_words : He5.DefA := ⟨fun K => ga K "want_words", "want_words", "want_words", defArgs s_want_words, defBody s_want_words, defScope s_want_words, [], []⟩
abbrev D_leading_of : He5.DefA := ⟨fun K => ga K "leading_of", "leading_of", "leading_of", defArgs s_leading_of, defBody s_leading_of, defScope s_leading_of, [], []⟩
abbrev D_bits_of : He5.DefA := ⟨fun K => ga K "bits_of", "bits_of", "bits_of", defArgs s_bits_of, defBody s_bits_of, defScope s_bits_of, [], []⟩
abbrev D_least_sum : He5.DefA := ⟨fun K => ga K "least_sum", "least_sum", "least_sum", defArgs s_least_sum, defBody s_least_sum, defScope s_least_sum, [], []⟩
abbrev D_reduced : He5.DefA := ⟨fun K => ga K "reduced", "reduced", "reduced", defArgs s_reduced, defBody s_reduced, defScope s_reduced, [], []⟩
abbrev D_combined : He5.DefA := ⟨fun K => ga K "combined", "combined", "combined", defArgs s_combined, defBody s_combined, defScope s_combined, [], []⟩
abbrev D_summed : He5.DefA := ⟨fun K => ga K "summed", "summed", "summed", defArgs s_summed, defBody s_summed, defScope s_summed, [], []⟩
abbrev D_selecting_rows : He5.DefA := ⟨fun K => ga K "selecting_rows", "selecting_rows", "selecting_rows", defArgs s_selecting_rows, defBody s_selecting_rows, defScope s_selecting_rows, [], []⟩
abbrev D_kernel_words : He5.DefA := ⟨fun K => ga K "kernel_words", "kernel_words", "kernel_words", defArgs s_kernel_words, defBody s_kernel_words, defScope s_kernel_words, [], []⟩
abbrev D_selected_by : He5.DefA := ⟨fun K => ga K "selected_by", "selected_by", "selected_by", defArgs s_selected_by, defBody s_selected_by, defScope s_selected_by, [], []⟩
abbrev D_selected : He5.DefA := ⟨fun K => ga K "selected", "selected", "selected", defArgs s_selected, defBody s_selected, defScope s_selected, [], []⟩
abbrev D_want_columns : He5.DefA := ⟨fun K => ga K "want_columns", "want_columns", "want_columns", defArgs s_want_columns, defBody s_want_columns, defScope s_want_columns, [], []⟩
abbrev D_want_positions : He5.DefA := ⟨fun K => ga K "want_positions", "want_positions", "want_positions", defArgs s_want_positions, defBody s_want_positions, defScope s_want_positions, [], []⟩
abbrev D_want_same : He5.DefA := ⟨fun K => ga K "want_same", "want_same", "want_same", defArgs s_want_same, defBody s_want_same, defScope s_want_same, [], []⟩
abbrev D_want_map : He5.DefA := ⟨fun K => ga K "want_map", "want_map", "want_map", defArgs s_want_map, defBody s_want_map, defScope s_want_map, [], []⟩
abbrev D_is_name : He5.DefA := ⟨fun K => ga K "is_name", "is_name", "is_name", defArgs s_is_name, defBody s_is_name, defScope s_is_name, [], []⟩
abbrev D_is_axis : He5.DefA := ⟨fun K => ga K "is_axis", "is_axis", "is_axis", defArgs s_is_axis, defBody s_is_axis, defScope s_is_axis, [], []⟩
abbrev D_wrong_axis : He5.DefA := ⟨fun K => ga K "wrong_axis", "wrong_axis", "wrong_axis", defArgs s_wrong_axis, defBody s_wrong_axis, defScope s_wrong_axis, [], []⟩
abbrev D_want_axes : He5.DefA := ⟨fun K => ga K "want_axes", "want_axes", "want_axes", defArgs s_want_axes, defBody s_want_axes, defScope s_want_axes, [], []⟩
abbrev D_want_name : He5.DefA := ⟨fun K => ga K "want_name", "want_name", "want_name", defArgs s_want_name, defBody s_want_name, defScope s_want_name, [], []⟩
abbrev D_names_of : He5.DefA := ⟨fun K => ga K "names_of", "names_of", "names_of", defArgs s_names_of, defBody s_names_of, defScope s_names_of, [], []⟩
abbrev D_total_bits : He5.DefA := ⟨fun K => ga K "total_bits", "total_bits", "total_bits", defArgs s_total_bits, defBody s_total_bits, defScope s_total_bits, [], []⟩
abbrev D_has_axis : He5.DefA := ⟨fun K => ga K "has_axis", "has_axis", "has_axis", defArgs s_has_axis, defBody s_has_axis, defScope s_has_axis, [], []⟩
abbrev D_want_axis : He5.DefA := ⟨fun K => ga K "want_axis", "want_axis", "want_axis", defArgs s_want_axis, defBody s_want_axis, defScope s_want_axis, [], []⟩
abbrev D_want_free : He5.DefA := ⟨fun K => ga K "want_free", "want_free", "want_free", defArgs s_want_free, defBody s_want_free, defScope s_want_free, [], []⟩
abbrev D_number_of : He5.DefA := ⟨fun K => ga K "number_of", "number_of", "number_of", defArgs s_number_of, defBody s_number_of, defScope s_number_of, [], []⟩
abbrev D_axis_size : He5.DefA := ⟨fun K => ga K "axis_size", "axis_size", "axis_size", defArgs s_axis_size, defBody s_axis_size, defScope s_axis_size, [], []⟩
abbrev D_lowest_bit : He5.DefA := ⟨fun K => ga K "lowest_bit", "lowest_bit", "lowest_bit", defArgs s_lowest_bit, defBody s_lowest_bit, defScope s_lowest_bit, [], []⟩
abbrev D_axis_positions : He5.DefA := ⟨fun K => ga K "axis_positions", "axis_positions", "axis_positions", defArgs s_axis_positions, defBody s_axis_positions, defScope s_axis_positions, [], []⟩
abbrev D_want_index : He5.DefA := ⟨fun K => ga K "want_index", "want_index", "want_index", defArgs s_want_index, defBody s_want_index, defScope s_want_index, [], []⟩
abbrev D_want_axis_position : He5.DefA := ⟨fun K => ga K "want_axis_position", "want_axis_position", "want_axis_position", defArgs s_want_axis_position, defBody s_want_axis_position, defScope s_want_axis_position, [], []⟩
abbrev D_split_place : He5.DefA := ⟨fun K => ga K "split_place", "split_place", "split_place", defArgs s_split_place, defBody s_split_place, defScope s_split_place, [], []⟩
abbrev D_spread : He5.DefA := ⟨fun K => ga K "spread", "spread", "spread", defArgs s_spread, defBody s_spread, defScope s_spread, [.int 0], []⟩
abbrev D_replaced : He5.DefA := ⟨fun K => ga K "replaced", "replaced", "replaced", defArgs s_replaced, defBody s_replaced, defScope s_replaced, [], []⟩
abbrev D_mixing_map : He5.DefA := ⟨fun K => ga K "mixing_map", "mixing_map", "mixing_map", defArgs s_mixing_map, defBody s_mixing_map, defScope s_mixing_map, [], []⟩
abbrev D_without_bits : He5.DefA := ⟨fun K => ga K "without_bits", "without_bits", "without_bits", defArgs s_without_bits, defBody s_without_bits, defScope s_without_bits, [], []⟩
abbrev D_want_cell_map : He5.DefA := ⟨fun K => ga K "want_cell_map", "want_cell_map", "want_cell_map", defArgs s_want_cell_map, defBody s_want_cell_map, defScope s_want_cell_map, [], []⟩
abbrev D_law_pot : He5.DefA := ⟨fun K => ga K "_law_pot", "_law_pot", "_law_pot", defArgs s_law_pot, defBody s_law_pot, defScope s_law_pot, [], []⟩
abbrev D_law_digit : He5.DefA := ⟨fun K => ga K "_law_digit", "_law_digit", "_law_digit", defArgs s_law_digit, defBody s_law_digit, defScope s_law_digit, [], []⟩
abbrev D_law_pick : He5.DefA := ⟨fun K => ga K "_law_pick", "_law_pick", "_law_pick", defArgs s_law_pick, defBody s_law_pick, defScope s_law_pick, [], []⟩
abbrev D_law_mixed : He5.DefA := ⟨fun K => ga K "_law_mixed", "_law_mixed", "_law_mixed", defArgs s_law_mixed, defBody s_law_mixed, defScope s_law_mixed, [], []⟩
abbrev D_law_names : He5.DefA := ⟨fun K => ga K "_law_names", "_law_names", "_law_names", defArgs s_law_names, defBody s_law_names, defScope s_law_names, [], []⟩
abbrev D_law_axes : He5.DefA := ⟨fun K => ga K "_law_axes", "_law_axes", "_law_axes", defArgs s_law_axes, defBody s_law_axes, defScope s_law_axes, [], []⟩
abbrev D_law_total : He5.DefA := ⟨fun K => ga K "_law_total", "_law_total", "_law_total", defArgs s_law_total, defBody s_law_total, defScope s_law_total, [], []⟩
abbrev D_law_cell : He5.DefA := ⟨fun K => ga K "_law_cell", "_law_cell", "_law_cell", defArgs s_law_cell, defBody s_law_cell, defScope s_law_cell, [], []⟩
abbrev D_law_indexes : He5.DefA := ⟨fun K => ga K "_law_indexes", "_law_indexes", "_law_indexes", defArgs s_law_indexes, defBody s_law_indexes, defScope s_law_indexes, [], []⟩
abbrev D_law_place : He5.DefA := ⟨fun K => ga K "_law_place", "_law_place", "_law_place", defArgs s_law_place, defBody s_law_place, defScope s_law_place, [], []⟩
abbrev D_law_put : He5.DefA := ⟨fun K => ga K "_law_put", "_law_put", "_law_put", defArgs s_law_put, defBody s_law_put, defScope s_law_put, [], []⟩
abbrev D_law_dropped : He5.DefA := ⟨fun K => ga K "_law_dropped", "_law_dropped", "_law_dropped", defArgs s_law_dropped, defBody s_law_dropped, defScope s_law_dropped, [], []⟩
abbrev D_law_redone : He5.DefA := ⟨fun K => ga K "_law_redone", "_law_redone", "_law_redone", defArgs s_law_redone, defBody s_law_redone, defScope s_law_redone, [], []⟩
abbrev D_law_flipped : He5.DefA := ⟨fun K => ga K "_law_flipped", "_law_flipped", "_law_flipped", defArgs s_law_flipped, defBody s_law_flipped, defScope s_law_flipped, [], []⟩
abbrev D_law_bits : He5.DefA := ⟨fun K => ga K "_law_bits", "_law_bits", "_law_bits", defArgs s_law_bits, defBody s_law_bits, defScope s_law_bits, [], []⟩
abbrev D_law_stirred : He5.DefA := ⟨fun K => ga K "_law_stirred", "_law_stirred", "_law_stirred", defArgs s_law_stirred, defBody s_law_stirred, defScope s_law_stirred, [], []⟩
abbrev D_law_fixed : He5.DefA := ⟨fun K => ga K "_law_fixed", "_law_fixed", "_law_fixed", defArgs s_law_fixed, defBody s_law_fixed, defScope s_law_fixed, [], []⟩
abbrev D_law_widened : He5.DefA := ⟨fun K => ga K "_law_widened", "_law_widened", "_law_widened", defArgs s_law_widened, defBody s_law_widened, defScope s_law_widened, [], []⟩
abbrev D_law_cut : He5.DefA := ⟨fun K => ga K "_law_cut", "_law_cut", "_law_cut", defArgs s_law_cut, defBody s_law_cut, defScope s_law_cut, [], []⟩
abbrev D_law_repeated : He5.DefA := ⟨fun K => ga K "_law_repeated", "_law_repeated", "_law_repeated", defArgs s_law_repeated, defBody s_law_repeated, defScope s_law_repeated, [], []⟩
abbrev D_law_changed : He5.DefA := ⟨fun K => ga K "_law_changed", "_law_changed", "_law_changed", defArgs s_law_changed, defBody s_law_changed, defScope s_law_changed, [], []⟩
abbrev D_law_is_plain : He5.DefA := ⟨fun K => ga K "_law_is_plain", "_law_is_plain", "_law_is_plain", defArgs s_law_is_plain, defBody s_law_is_plain, defScope s_law_is_plain, [], []⟩
abbrev D_law_shows : He5.DefA := ⟨fun K => ga K "_law_shows", "_law_shows", "_law_shows", defArgs s_law_shows, defBody s_law_shows, defScope s_law_shows, [], []⟩
abbrev D_law_right : He5.DefA := ⟨fun K => ga K "_law_right", "_law_right", "_law_right", defArgs s_law_right, defBody s_law_right, defScope s_law_right, [], []⟩
abbrev D_law : He5.DefA := ⟨fun K => ga K "law", "law", "law", defArgs s_law, defBody s_law, defScope s_law, [], []⟩
abbrev D_Space_init : He5.DefA := ⟨fun K => ma K (ga K "Space") "__init__", "__init__", "Space.__init__", defArgs s_Space_init, defBody s_Space_init, defScope s_Space_init, [], []⟩
abbrev D_Space_eq : He5.DefA := ⟨fun K => ma K (ga K "Space") "__eq__", "__eq__", "Space.__eq__", defArgs s_Space_eq, defBody s_Space_eq, defScope s_Space_eq, [], []⟩
abbrev D_Space_repr : He5.DefA := ⟨fun K => ma K (ga K "Space") "__repr__", "__repr__", "Space.__repr__", defArgs s_Space_repr, defBody s_Space_repr, defScope s_Space_repr, [], []⟩
abbrev D_Flat_init : He5.DefA := ⟨fun K => ma K (ga K "Flat") "__init__", "__init__", "Flat.__init__", defArgs s_Flat_init, defBody s_Flat_init, defScope s_Flat_init, [], []⟩
abbrev D_Flat_bits : He5.DefA := ⟨fun K => He5.wf K (ga K "Flat") "property" "bits", "bits", "Flat.bits", defArgs s_Flat_bits, defBody s_Flat_bits, defScope s_Flat_bits, [], []⟩
abbrev D_Flat_walk : He5.DefA := ⟨fun K => ma K (ga K "Flat") "walk", "walk", "Flat.walk", defArgs s_Flat_walk, defBody s_Flat_walk, defScope s_Flat_walk, [], []⟩
abbrev D_Flat_eq : He5.DefA := ⟨fun K => ma K (ga K "Flat") "__eq__", "__eq__", "Flat.__eq__", defArgs s_Flat_eq, defBody s_Flat_eq, defScope s_Flat_eq, [], []⟩
abbrev D_Flat_repr : He5.DefA := ⟨fun K => ma K (ga K "Flat") "__repr__", "__repr__", "Flat.__repr__", defArgs s_Flat_repr, defBody s_Flat_repr, defScope s_Flat_repr, [], []⟩
abbrev D_Map_init : He5.DefA := ⟨fun K => ma K (ga K "Map") "__init__", "__init__", "Map.__init__", defArgs s_Map_init, defBody s_Map_init, defScope s_Map_init, [.int 0], []⟩
abbrev D_Map_selecting : He5.DefA := ⟨fun K => He5.wf K (ga K "Map") "classmethod" "selecting", "selecting", "Map.selecting", defArgs s_Map_selecting, defBody s_Map_selecting, defScope s_Map_selecting, [], []⟩
abbrev D_Map_bits_in : He5.DefA := ⟨fun K => He5.wf K (ga K "Map") "property" "bits_in", "bits_in", "Map.bits_in", defArgs s_Map_bits_in, defBody s_Map_bits_in, defScope s_Map_bits_in, [], []⟩
abbrev D_Map_bits : He5.DefA := ⟨fun K => He5.wf K (ga K "Map") "property" "bits", "bits", "Map.bits", defArgs s_Map_bits, defBody s_Map_bits, defScope s_Map_bits, [], []⟩
abbrev D_Map_is_injective : He5.DefA := ⟨fun K => He5.wf K (ga K "Map") "property" "is_injective", "is_injective", "Map.is_injective", defArgs s_Map_is_injective, defBody s_Map_is_injective, defScope s_Map_is_injective, [], []⟩
abbrev D_Map_at : He5.DefA := ⟨fun K => ma K (ga K "Map") "at", "at", "Map.at", defArgs s_Map_at, defBody s_Map_at, defScope s_Map_at, [], []⟩
abbrev D_Map_then : He5.DefA := ⟨fun K => ma K (ga K "Map") "then", "then", "Map.then", defArgs s_Map_then, defBody s_Map_then, defScope s_Map_then, [], []⟩
abbrev D_Map_kernel : He5.DefA := ⟨fun K => ma K (ga K "Map") "kernel", "kernel", "Map.kernel", defArgs s_Map_kernel, defBody s_Map_kernel, defScope s_Map_kernel, [], []⟩
abbrev D_Map_image : He5.DefA := ⟨fun K => ma K (ga K "Map") "image", "image", "Map.image", defArgs s_Map_image, defBody s_Map_image, defScope s_Map_image, [], []⟩
abbrev D_Map_before : He5.DefA := ⟨fun K => ma K (ga K "Map") "before", "before", "Map.before", defArgs s_Map_before, defBody s_Map_before, defScope s_Map_before, [], []⟩
abbrev D_Layout_init : He5.DefA := ⟨fun K => ma K (ga K "Layout") "__init__", "__init__", "Layout.__init__", defArgs s_Layout_init, defBody s_Layout_init, defScope s_Layout_init, [], []⟩
abbrev D_Layout_bits : He5.DefA := ⟨fun K => He5.wf K (ga K "Layout") "property" "bits", "bits", "Layout.bits", defArgs s_Layout_bits, defBody s_Layout_bits, defScope s_Layout_bits, [], []⟩
abbrev D_Layout_cell_bits : He5.DefA := ⟨fun K => He5.wf K (ga K "Layout") "property" "cell_bits", "cell_bits", "Layout.cell_bits", defArgs s_Layout_cell_bits, defBody s_Layout_cell_bits, defScope s_Layout_cell_bits, [], []⟩
abbrev D_Layout_is_injective : He5.DefA := ⟨fun K => He5.wf K (ga K "Layout") "property" "is_injective", "is_injective", "Layout.is_injective", defArgs s_Layout_is_injective, defBody s_Layout_is_injective, defScope s_Layout_is_injective, [], []⟩
abbrev D_Layout_axes : He5.DefA := ⟨fun K => ma K (ga K "Layout") "axes", "axes", "Layout.axes", defArgs s_Layout_axes, defBody s_Layout_axes, defScope s_Layout_axes, [], []⟩
abbrev D_Layout_indexes_of : He5.DefA := ⟨fun K => ma K (ga K "Layout") "indexes_of", "indexes_of", "Layout.indexes_of", defArgs s_Layout_indexes_of, defBody s_Layout_indexes_of, defScope s_Layout_indexes_of, [], []⟩
abbrev D_Layout_cell_at : He5.DefA := ⟨fun K => ma K (ga K "Layout") "cell_at", "cell_at", "Layout.cell_at", defArgs s_Layout_cell_at, defBody s_Layout_cell_at, defScope s_Layout_cell_at, [], []⟩
abbrev D_Layout_places_of : He5.DefA := ⟨fun K => ma K (ga K "Layout") "places_of", "places_of", "Layout.places_of", defArgs s_Layout_places_of, defBody s_Layout_places_of, defScope s_Layout_places_of, [], []⟩
abbrev D_Layout_cells : He5.DefA := ⟨fun K => ma K (ga K "Layout") "cells", "cells", "Layout.cells", defArgs s_Layout_cells, defBody s_Layout_cells, defScope s_Layout_cells, [], []⟩
abbrev D_Layout_walk : He5.DefA := ⟨fun K => ma K (ga K "Layout") "walk", "walk", "Layout.walk", defArgs s_Layout_walk, defBody s_Layout_walk, defScope s_Layout_walk, [], []⟩
abbrev D_Layout_flipped : He5.DefA := ⟨fun K => ma K (ga K "Layout") "flipped", "flipped", "Layout.flipped", defArgs s_Layout_flipped, defBody s_Layout_flipped, defScope s_Layout_flipped, [], []⟩
abbrev D_Layout_mixed : He5.DefA := ⟨fun K => ma K (ga K "Layout") "mixed", "mixed", "Layout.mixed", defArgs s_Layout_mixed, defBody s_Layout_mixed, defScope s_Layout_mixed, [], []⟩
abbrev D_Layout_fixed : He5.DefA := ⟨fun K => ma K (ga K "Layout") "fixed", "fixed", "Layout.fixed", defArgs s_Layout_fixed, defBody s_Layout_fixed, defScope s_Layout_fixed, [], []⟩
abbrev D_Layout_cut : He5.DefA := ⟨fun K => ma K (ga K "Layout") "cut", "cut", "Layout.cut", defArgs s_Layout_cut, defBody s_Layout_cut, defScope s_Layout_cut, [], []⟩
abbrev D_Layout_repeated : He5.DefA := ⟨fun K => ma K (ga K "Layout") "repeated", "repeated", "Layout.repeated", defArgs s_Layout_repeated, defBody s_Layout_repeated, defScope s_Layout_repeated, [], []⟩
abbrev faL0 : List Fa := [.free "len", .free "abs", .free "isinstance", .free "max", .free "min", .free "divmod", .free "sum", .free "all", .free "repr", .free "sorted", .free "range", .free "enumerate", .free "reversed", .free "zip", .free "list", .free "tuple", .free "int", .free "dict", .free "set", .free "bool", .free "str", .int "MOST_BITS" 80, .int "MOST_LETTERS" 8, .int "MOST_AXIS_BITS" 40, .str "LETTERS" "abcdefghijklmnopqrstuvwxyz", .glo "HALVES", .glo "is_integer", .glo "want_bits", .glo "fits", .glo "want_word", .glo "is_list", .glo "want_words", .glo "leading_of", .glo "bits_of", .glo "least_sum"]
abbrev faL1 : List Fa := [.glo "reduced", .glo "combined", .glo "summed", .glo "selecting_rows", .glo "kernel_words", .glo "selected_by", .glo "selected", .glo "want_columns", .glo "want_positions", .glo "want_same", .glo "want_map", .glo "is_name", .glo "is_axis", .glo "wrong_axis", .glo "want_axes", .glo "want_name", .glo "names_of", .glo "total_bits", .glo "has_axis", .glo "want_axis", .glo "want_free", .glo "number_of", .glo "axis_size", .glo "lowest_bit", .glo "axis_positions", .glo "want_index", .glo "want_axis_position", .glo "split_place", .glo "spread", .glo "replaced", .glo "mixing_map", .glo "without_bits", .glo "want_cell_map", .glo "_law_pot", .glo "_law_digit"]
abbrev faL2 : List Fa := [.glo "_law_pick", .glo "_law_mixed", .glo "_law_names", .glo "_law_axes", .glo "_law_total", .glo "_law_cell", .glo "_law_indexes", .glo "_law_place", .glo "_law_put", .glo "_law_dropped", .glo "_law_redone", .glo "_law_flipped", .glo "_law_bits", .glo "_law_stirred", .glo "_law_fixed", .glo "_law_widened", .glo "_law_cut", .glo "_law_repeated", .glo "_law_changed", .glo "_law_is_plain", .glo "_law_shows", .glo "_law_right", .glo "law", .glo "Space", .cls "Space", .mkr "Space", .noat "Space" "own_bits", .noat "Space" "own_basis", .glo "Flat", .cls "Flat", .mkr "Flat", .noat "Flat" "own_space", .noat "Flat" "own_point", .glo "Map", .cls "Map"]
abbrev faL3 : List Fa := [.mkr "Map", .noat "Map" "own_columns", .noat "Map" "own_bits", .noat "Map" "own_offset", .glo "Layout", .cls "Layout", .mkr "Layout", .noat "Layout" "own_axes", .noat "Layout" "own_mapping", .meth "Space" "__eq__", .meth "Space" "__repr__", .meth "Flat" "walk", .meth "Flat" "__eq__", .meth "Flat" "__repr__", .meth "Map" "at", .meth "Map" "then", .meth "Map" "kernel", .meth "Map" "image", .meth "Map" "before", .meth "Layout" "axes", .meth "Layout" "indexes_of", .meth "Layout" "cell_at", .meth "Layout" "places_of", .meth "Layout" "cells", .meth "Layout" "walk", .meth "Layout" "flipped", .meth "Layout" "mixed", .meth "Layout" "fixed", .meth "Layout" "cut", .meth "Layout" "repeated"]
abbrev faL : List Fa := faL0 ++ (faL1 ++ (faL2 ++ (faL3)))
abbrev fnL0 : List He5.DefA := [D_is_integer, D_want_bits, D_fits, D_want_word, D_is_list, D_want_words, D_leading_of, D_bits_of, D_least_sum, D_reduced, D_combined, D_summed, D_selecting_rows, D_kernel_words, D_selected_by, D_selected, D_want_columns, D_want_positions, D_want_same, D_want_map, D_is_name, D_is_axis, D_wrong_axis, D_want_axes, D_want_name, D_names_of, D_total_bits, D_has_axis, D_want_axis, D_want_free, D_number_of, D_axis_size, D_lowest_bit, D_axis_positions, D_want_index]
abbrev fnL1 : List He5.DefA := [D_want_axis_position, D_split_place, D_spread, D_replaced, D_mixing_map, D_without_bits, D_want_cell_map, D_law_pot, D_law_digit, D_law_pick, D_law_mixed, D_law_names, D_law_axes, D_law_total, D_law_cell, D_law_indexes, D_law_place, D_law_put, D_law_dropped, D_law_redone, D_law_flipped, D_law_bits, D_law_stirred, D_law_fixed, D_law_widened, D_law_cut, D_law_repeated, D_law_changed, D_law_is_plain, D_law_shows, D_law_right, D_law, D_Space_init, D_Space_eq, D_Space_repr]
abbrev fnL2 : List He5.DefA := [D_Flat_init, D_Flat_bits, D_Flat_walk, D_Flat_eq, D_Flat_repr, D_Map_init, D_Map_selecting, D_Map_bits_in, D_Map_bits, D_Map_is_injective, D_Map_at, D_Map_then, D_Map_kernel, D_Map_image, D_Map_before, D_Layout_init, D_Layout_bits, D_Layout_cell_bits, D_Layout_is_injective, D_Layout_axes, D_Layout_indexes_of, D_Layout_cell_at, D_Layout_places_of, D_Layout_cells, D_Layout_walk, D_Layout_flipped, D_Layout_mixed, D_Layout_fixed, D_Layout_cut, D_Layout_repeated]
abbrev fnL : List He5.DefA := fnL0 ++ (fnL1 ++ (fnL2))
abbrev exL0 : List (PySem.W.Frag → Bool) := [X_HALVES, X_ISpace, X_IFlat, X_IMap, X_ILayout, X_Flat_bits, X_Map_selecting, X_Map_bits_in, X_Map_bits, X_Map_is_injective, X_Layout_bits, X_Layout_cell_bits, X_Layout_is_injective]
abbrev exL : List (PySem.W.Frag → Bool) := exL0
/-! ### the Hook -/
def exB (K : PySem.W.Frag) : Bool := exL.all fun f => f K
theorem exAt {K : PySem.W.Frag} (h : exB K = true) (i : Nat) {f : PySem.W.Frag → Bool} (e : exL[i]? = some f := by rfl) : f K = true := List.all_eq_true.mp h f (List.mem_of_getElem? e)
def moreB (g : Addr → Option Obj) (K : PySem.W.Frag) : Bool := exB K && (noLst K && (apart K && tabsB g fiveD K))
abbrev AlM : Type := He.AlD × Bool
def obsM (g : Addr → Option Obj) : AlM := (He5.obsA faL fnL (lookF g), moreB g (lookF g))
def valM : AlM := (He5.valA fnL, true)
structure SaysM (h : Heap) (K : PySem.W.Frag) : Prop where
  a : He5.SaysA faL fnL K
  m : exB K = true
  nl : noLst K = true
  ap : apart K = true
  hd : ∀ p ∈ fiveD, PySem.W.codeHdIn K (cT K p).1 (cT K p).2 = true
  out : ∀ p ∈ fiveD, K.lookup (cT K p).2 = none
  em : ∀ p ∈ fiveD, h.get? (cT K p).2 = some { cls := .none, data := .fields #[] }
theorem saysM_of {h : Heap} (e : obsM h.get? = valM) : SaysM h (lookF h.get?) := by
  have e1 : He5.obsA faL fnL (lookF h.get?) = He5.valA fnL := congrArg (fun z : AlM => z.1) e
  have e2 : moreB h.get? (lookF h.get?) = true := congrArg (fun z : AlM => z.2) e
  obtain ⟨h1, e2⟩ := ba e2
  obtain ⟨h2, e2⟩ := ba e2
  obtain ⟨h3, e2⟩ := ba e2
  have one : ∀ p ∈ fiveD, PySem.W.codeHdIn (lookF h.get?) (cT (lookF h.get?) p).1 (cT (lookF h.get?) p).2 = true ∧ ∃ o, h.get? (cT (lookF h.get?) p).2 = some o ∧ emptyTab o = true := fun p hp => by
    obtain ⟨k1, k2⟩ := ba (List.all_eq_true.mp e2 p hp)
    refine ⟨k1, ?_⟩
    split at k2
    · exact ⟨_, ‹_›, k2⟩
    · cases k2
  refine ⟨e1, h1, h2, h3, fun p hp => (one p hp).1, fun p hp => ?_, fun p hp => ?_⟩
  · obtain ⟨_, o, q, z⟩ := one p hp
    exact frT_none q z
  · obtain ⟨_, o, q, z⟩ := one p hp
    rw [q, emptyTab_eq z]
def hookM : PySem.W.Hook where
  α := AlM
  obs := fun s => obsM s.heap.get?
  val := fun _ => valM
  says := fun _ h => ∃ K : PySem.W.Frag, K.In h ∧ SaysM h K
  of := fun _ _ e => ⟨_, lookF_in, saysM_of e⟩
  keeps := fun _ _ _ ⟨K, hK, c⟩ k => ⟨K, PySem.W.Frag.In.keeps hK k, ⟨c.a, c.m, c.nl, c.ap, c.hd, c.out, fun p hp => k _ _ (c.em p hp)⟩⟩
/-! ### the run -/
abbrev R0 : PySem.W.OpenRow := PySem.W.OpenLaw.row PySem.Challenge.rw_bitlaid_k25_whole_places_changed
abbrev qv : Program := PySem.W.view R0.prog [111]
def nm0 : List PySem.Str := ["_wall", "BitlaidError", "InvalidBits", "InvalidWord", "InvalidWords", "InvalidPosition", "InvalidPositions", "InvalidSpace", "InvalidColumns", "InvalidMap", "OtherBits", "InvalidAxes", "InvalidAxisIndex", "InvalidName", "InvalidBit", "SameBit", "UnknownAxis", "AxisTaken", "MOST_BITS", "HALVES"]
def nm1 : List PySem.Str := ["is_integer", "want_bits", "fits", "want_word", "is_list", "want_words", "leading_of", "bits_of", "least_sum", "reduced", "combined", "Space", "Flat", "summed", "selecting_rows", "kernel_words", "selected_by", "selected", "want_columns", "want_positions"]
def nm2 : List PySem.Str := ["want_same", "want_map", "Map", "LETTERS", "MOST_LETTERS", "MOST_AXIS_BITS", "is_name", "is_axis", "wrong_axis", "want_axes", "want_name", "names_of", "total_bits", "has_axis", "want_axis", "want_free", "number_of", "axis_size", "lowest_bit", "axis_positions"]
def nm3 : List PySem.Str := ["want_index", "want_axis_position", "bit_names", "place_with", "split_place", "spread", "replaced", "mixing_map", "without_bits", "ARROW", "COMMA", "PLUS", "NOTHING", "want_cell_map", "sum_text", "listed", "layout_text", "Layout", "_law_pot", "_law_digit"]
def nm4 : List PySem.Str := ["_law_pick", "_law_mixed", "_law_names", "_law_axes", "_law_total", "_law_cell", "_law_indexes", "_law_place", "_law_put", "_law_dropped", "_law_redone", "_law_flipped", "_law_bits", "_law_stirred", "_law_fixed", "_law_widened", "_law_cut", "_law_repeated", "_law_changed", "_law_is_plain"]
def nm5 : List PySem.Str := ["_law_shows", "_law_right"]
def namesM : List PySem.Str := nm0 ++ nm1 ++ nm2 ++ nm3 ++ nm4 ++ nm5
def obM (s : PySem.W.SharedT) : AlM := obsM (HandSHeadRun.getT s)
theorem obM_eq (s : PySem.W.SharedT) : obM s = hookM.obs s.abs := by
  have e : HandSHeadRun.getT s = s.abs.heap.get? := funext fun a => HandSHeadRun.getT_eq s a
  show obsM _ = obsM _
  rw [e]
/-! The run, looked at in eight parts: each part is one kernel run of the top, so that none of them takes more memory than there is. -/
noncomputable abbrev endM (w : World) (os : OsState) : Option PySem.W.SharedT := HandSHeadRun.endF (HandSHeadRun.stepQ (HandSHeadRun.denQ HandSHeadRun.tabQ) R0.prog w) 20000 R0.prog w os
theorem run1 (w : World) (os : OsState) : (endM w os).map (fun s => HandSHeadRun.looksF R0.prog (PySem.W.boot_heap w.params) s.abs) = some true := by
  kernel_rfl
theorem run2 (w : World) (os : OsState) : (endM w os).map (fun s => HandSHeadRun.seenQ qv namesM (importedModules R0.prog.main.body) (fun s => PySem.W.xlAt qv [] s && PySem.W.recOk R0.toRowW.records s) s.abs) = some (PySem.W.openGood qv namesM) := by
  kernel_rfl
theorem run3 (w : World) (os : OsState) : (endM w os).map (fun s => (faL.take 70).all fun f => f.ok (lookF (HandSHeadRun.getT s))) = some true := by
  kernel_rfl
theorem run4 (w : World) (os : OsState) : (endM w os).map (fun s => ((faL.drop 70).all fun f => f.ok (lookF (HandSHeadRun.getT s))) && moreB (HandSHeadRun.getT s) (lookF (HandSHeadRun.getT s))) = some true := by
  kernel_rfl
theorem run5 (w : World) (os : OsState) : (endM w os).map (fun s => (fnL.take 50).map fun d => He5.fnA (lookF (HandSHeadRun.getT s)) (d.at_ (lookF (HandSHeadRun.getT s)))) = some ((fnL.take 50).map He5.DefA.val) := by
  kernel_rfl
theorem run6 (w : World) (os : OsState) : (endM w os).map (fun s => (fnL.drop 50).map fun d => He5.fnA (lookF (HandSHeadRun.getT s)) (d.at_ (lookF (HandSHeadRun.getT s)))) = some ((fnL.drop 50).map He5.DefA.val) := by
  kernel_rfl
theorem run7 (w : World) (os : OsState) : (endM w os).map (fun s => (fnL.take 50).all fun d => d.ok (lookF (HandSHeadRun.getT s))) = some true := by
  kernel_rfl
theorem run8 (w : World) (os : OsState) : (endM w os).map (fun s => (fnL.drop 50).all fun d => d.ok (lookF (HandSHeadRun.getT s))) = some true := by
  kernel_rfl
theorem at_end {α β : Type} {o : Option α} {f : α → β} {v : β} {s : α} (h : o.map f = some v) (e : o = some s) : f s = v := by
  rw [e] at h
  exact Option.some.inj h
theorem all_split {α : Type} (l : List α) (n : Nat) (f : α → Bool) (h1 : (l.take n).all f = true) (h2 : (l.drop n).all f = true) : l.all f = true := by
  rw [← List.take_append_drop n l, List.all_append, h1, h2]; rfl
theorem map_split {α β : Type} (l : List α) (n : Nat) (f g : α → β) (h1 : (l.take n).map f = (l.take n).map g) (h2 : (l.drop n).map f = (l.drop n).map g) : l.map f = l.map g := by
  rw [← List.take_append_drop n l, List.map_append, List.map_append, h1, h2]
theorem runM (w : World) : HandSHeadRun.RunEq R0 qv hookM obM 20000 namesM w := by
  intro os
  obtain ⟨s, hs, e1⟩ := Option.map_eq_some_iff.mp (run1 w os)
  have e2 := at_end (run2 w os) hs
  have e3 := at_end (run3 w os) hs
  have e45 := at_end (run4 w os) hs
  obtain ⟨e4, e5⟩ := ba e45
  have e6 := at_end (run5 w os) hs
  have e7 := at_end (run6 w os) hs
  have e8 := at_end (run7 w os) hs
  have e9 := at_end (run8 w os) hs
  have e : obM s = hookM.val w := by
    refine Prod.ext (Prod.ext ?_ (map_split fnL 50 _ _ e6 e7)) e5
    exact Bool.and_eq_true_iff.mpr ⟨all_split faL 70 _ e3 e4, all_split fnL 50 _ e8 e9⟩
  exact Option.map_eq_some_iff.mpr ⟨s, hs, Prod.ext e1 (Prod.ext e2 e)⟩
end My
/-! *** W1 -/
namespace My
open PySem PySem.Spec PyProof.Rows L2 He
local macro_rules | `(tactic| walk_at "go") => `(tactic| repeat (first | refine And.intro rfl ?_ | refine iteT ?_ | refine iteF ?_ | refine iteNS (by assumption) ?_ | apply Exists.intro | refine And.intro (by assumption) ?_))
section
variable {P : Program} {w : World} {K : PySem.W.Frag} {mg : Str → Option Value} {base : Heap}
/-! is_integer(value) of an int -/
abbrev spIsInteger : Sp := spF1 fun a H Q => ∃ i : Int, a = .int i ∧ Q (.bl true) H
theorem sc_is_integer : FnScope ["value"] ["value"] (defScope s_is_integer) := C8.fnScope_by (by decide +kernel)
theorem c_is_integer (T : Tx K mg) : C8.Cal P w K mg base 1 "is_integer" spIsInteger [] := by
  refine cal_of T.d_is_integer T.g_is_integer sc_is_integer (by intro _ _ _ _ _ _ us hl; match us, hl with | [_], _ => rfl) (fun _ _ _ _ h => len1 h) (fun cdv A outer s H vs Q E hr h => ?_)
  obtain ⟨_, rfl, i, rfl, h⟩ := h
  refine ⟨_, (pss_one (ps_ret (pe_and (pe_callB (id := "isinstance") call_isi (by rfl) T.b_isinstance (by decide +kernel) (pa_cons (pv 0) (pa_cons (pe_bltn (v := .ty "int") (by rfl) T.b_int (by decide +kernel) rfl) pa_nil))) (pe_one (pe_not (pe_callB (id := "isinstance") call_isi (by rfl) T.b_isinstance (by decide +kernel) (pa_cons (pv 0) (pa_cons (pe_bltn (v := .ty "bool") (by rfl) T.b_bool (by decide +kernel) rfl) pa_nil)))))))), ?_⟩
  refine ⟨_, rfl, _, _, _, _, true, rfl, .ty "int", .base (.int _), kit_ty (by decide +kernel), true, rfl, ?_⟩
  refine ⟨_, rfl, _, _, _, _, false, rfl, .ty "bool", .base (.int _), kit_ty (by decide +kernel), false, rfl, h⟩
/-! fits(value, bits) -/
abbrev spFits : Sp := spF2 fun a b H Q => ∃ v n : Nat, a = vN v ∧ b = vN n ∧ n ≤ 1000 ∧ Q (.bl (decide (v < 2 ^ n))) H
theorem sc_fits : FnScope ["value", "bits"] ["value", "bits"] (defScope s_fits) := C8.fnScope_by (by decide +kernel)
theorem c_fits (T : Tx K mg) : C8.Cal P w K mg base 2 "fits" spFits [] := by
  refine cal_of T.d_fits T.g_fits sc_fits (by intro _ _ _ _ _ _ us hl; match us, hl with | [_, _], _ => rfl) (fun _ _ _ _ h => len2 h) (fun cdv A outer s H vs Q E hr h => ?_)
  obtain ⟨_, _, rfl, v, n, rfl, rfl, hn, h⟩ := h
  refine ⟨_, (pss_one (ps_ret (pe_and (C8.pe_c (c_is_integer T) hr (by decide) (by rfl) (pa_cons (pv 0) pa_nil)) (pe_one (pe_chain op_le op_lt pe_int (pv 0) (pe_op op_shl pe_int (pv 1))))))), ?_⟩
  walk_at "go"
  refine And.intro (cpow hn) ?_
  walk_at "go"
  exact q_bl (lt_pow v n) h
/-! want_word, want_bits -/
abbrev spWantWord : Sp := spF2 fun a b H Q => ∃ v n : Nat, a = vN v ∧ b = vN n ∧ n ≤ 1000 ∧ v < 2 ^ n ∧ Q .non H
theorem sc_want_word : FnScope ["word", "bits"] ["word", "bits"] (defScope s_want_word) := C8.fnScope_by (by decide +kernel)
theorem c_want_word (T : Tx K mg) : C8.Cal P w K mg base 3 "want_word" spWantWord [] := by
  refine cal_of T.d_want_word T.g_want_word sc_want_word (by intro _ _ _ _ _ _ us hl; match us, hl with | [_, _], _ => rfl) (fun _ _ _ _ h => len2 h) (fun cdv A outer s H vs Q E hr h => ?_)
  obtain ⟨_, _, rfl, v, n, rfl, rfl, hn, hv, h⟩ := h
  refine ⟨_, (pss_one (ps_if (pt_not (pt_val (C8.pe_c (c_fits T) hr (by decide) (by rfl) (pa_cons (pv 0) (pa_cons (pv 1) pa_nil))))) (pss_one ps_never) pss_nil)), ?_⟩
  walk_at "go"
  exact h
abbrev spWantBits : Sp := spF1 fun a H Q => ∃ n : Nat, a = vN n ∧ n ≤ 80 ∧ Q .non H
theorem sc_want_bits : FnScope ["bits"] ["bits"] (defScope s_want_bits) := C8.fnScope_by (by decide +kernel)
theorem c_want_bits (T : Tx K mg) : C8.Cal P w K mg base 2 "want_bits" spWantBits [] := by
  refine cal_of T.d_want_bits T.g_want_bits sc_want_bits (by intro _ _ _ _ _ _ us hl; match us, hl with | [_], _ => rfl) (fun _ _ _ _ h => len1 h) (fun cdv A outer s H vs Q E hr h => ?_)
  obtain ⟨_, rfl, n, rfl, hn, h⟩ := h
  refine ⟨_, (pss_one (ps_if (PW.pt (pw_or (pt_not (pt_val (C8.pe_c (c_is_integer T) hr (by decide) (by rfl) (pa_cons (pv 0) pa_nil)))) (pw_or1 (pt_not (pt_chain op_le op_le pe_int (pv 0) (C8.pe_gc (by rfl) T.c_MOST_BITS)))))) (pss_one ps_never) pss_nil)), ?_⟩
  have h80 : ((n : Nat) : Int) ≤ 80 := by omega
  walk_at "go"
  exact h
/-! is_list: a list, a tuple -/
abbrev spIsList : Sp := spF1 fun a H Q => ∃ p xs, a = .ref p ∧ Sq H p xs ∧ ∀ H', Ex H H' → Q (.bl true) H'
theorem sc_is_list : FnScope ["value"] ["value"] (defScope s_is_list) := C8.fnScope_by (by decide +kernel)
theorem c_is_list (T : Tx K mg) : C8.Cal P w K mg base 1 "is_list" spIsList [] := by
  refine cal_of T.d_is_list T.g_is_list sc_is_list (by intro _ _ _ _ _ _ us hl; match us, hl with | [_], _ => rfl) (fun _ _ _ _ h => len1 h) (fun cdv A outer s H vs Q E hr h => ?_)
  obtain ⟨_, rfl, p, xs, rfl, hs, h⟩ := h
  refine ⟨_, (pss_one (ps_ret (pe_callB (id := "isinstance") call_isiT (by rfl) T.b_isinstance (by decide +kernel) (pa_cons (pv 0) (pa_cons (pe_tup (pa_cons (pe_bltn (v := .ty "list") (by rfl) T.b_list (by decide +kernel) rfl) (pa_cons (pe_bltn (v := .ty "tuple") (by rfl) T.b_tuple (by decide +kernel) rfl) pa_nil))) pa_nil))))), ?_⟩
  refine ⟨_, rfl, (by show 2 ≤ sizeLine; decide), newI fun t H1 _ e1 ht => ?_⟩
  rcases hs.ex e1 with q | q
  · exact ⟨_, _, _, _, _, true, rfl, ht, .cons (.ty "list") (.cons (.ty "tuple") .nil), .base (.lst q),
      kitAny_cons (kit_ty (b := "list") (r := true) (by decide +kernel)) (fun z => nomatch z) (fun _ => rfl), h _ e1⟩
  · exact ⟨_, _, _, _, _, true, rfl, ht, .cons (.ty "list") (.cons (.ty "tuple") .nil), .base (.tup q),
      kitAny_cons (kit_ty (b := "list") (r := false) (by decide +kernel)) (fun _ => kitAny_cons (kit_ty (b := "tuple") (r := true) (by decide +kernel)) (fun z => nomatch z) (fun _ => rfl)) (fun z => nomatch z), h _ e1⟩
/-! want_words(words, bits) -/
abbrev spWantWords : Sp := spF2 fun a b H Q => ∃ (p : Addr) (B : List Nat) (n : Nat), a = .ref p ∧ b = vN n ∧ H p = some (.lst (vL B)) ∧ n ≤ 1000 ∧ (∀ x ∈ B, x < 2 ^ n) ∧ ∀ H', Ex H H' → Q .non H'
theorem sc_want_words : FnScope ["words", "bits", "position", "word"] ["words", "bits"] (defScope s_want_words) := C8.fnScope_by (by decide +kernel)
theorem c_want_words (T : Tx K mg) : C8.Cal P w K mg base 3 "want_words" spWantWords [] := by
  refine cal_of T.d_want_words T.g_want_words sc_want_words (by intro _ _ _ _ _ _ us hl; match us, hl with | [_, _], _ => rfl) (fun _ _ _ _ h => len2 h) (fun cdv A outer s H vs Q E hr h => ?_)
  obtain ⟨_, _, rfl, p, B, n, rfl, rfl, hp, hn, hB, h⟩ := h
  refine ⟨_, (pss_cons (ps_if (pt_not (pt_val (C8.pe_c (c_is_list T) hr (by decide) (by rfl) (pa_cons (pv 0) pa_nil)))) (pss_one ps_never) pss_nil) (pss_one (ps_for PassesOwn.never rfl (pi_enum (by rfl) T.b_enumerate (pa_cons (pv 0) pa_nil)) (pg_tup rfl (pgs_cons (pg_name (i := 2) sc_want_words.nd rfl (Or.inl rfl)) (pgs_cons (pg_name (i := 3) sc_want_words.nd rfl (Or.inl rfl)) pgs_nil))) (pss_one (ps_if (pt_not (pt_val (C8.pe_c (c_fits T) hr (by decide) (by rfl) (pa_cons (pv 3) (pa_cons (pv 1) pa_nil))))) (pss_one ps_never) pss_nil))))), ?_⟩
  refine ⟨_, rfl, _, rfl, _, _, rfl, .inl hp, fun H1 e1 => ⟨_, rfl, ?_⟩⟩
  refine ⟨_, rfl, p, vL B, rfl, .of (e1 _ _ hp), ?_⟩
  refine for_it (walk_enum (K := K) (a := p) (xs := vL B)) (fun i σ H' => ∃ x y, σ = [some (.ref p), some (vN n), x, y] ∧ Ex H H') ⟨_, _, rfl, e1⟩ (fun i σ H' _ ⟨_, _, _, e⟩ => .of (e _ _ hp)) ?_ ?_
  · rintro i x σ H2 H3 hi ⟨u, v, rfl, e⟩ ⟨t, a, b, rfl, ht, rfl, ha, hb⟩
    obtain ⟨m, hm, rfl⟩ := vL_at hb
    obtain rfl := Option.some.inj ha
    have hm2 : m < 2 ^ n := hB m (List.mem_of_getElem? hm)
    refine ⟨t, _, rfl, .of upd_same, rfl, _, _, rfl, _, _, rfl, rfl, ?_⟩
    walk_at "go"
    exact e.mut (e.free ht)
  · rintro σ H2 ⟨_, _, rfl, e⟩
    exact h _ e
theorem lead1_pos {r f m : Nat} (q : r >>> m > 0) : lead1 (r, f) m = (r >>> m, f + m) := if_pos q
theorem lead1_neg {r f m : Nat} (q : ¬ r >>> m > 0) : lead1 (r, f) m = (r, f) := if_neg q
/-! leading_of(word) -/
abbrev spLead : Sp := spF1 fun a H Q => ∃ v : Nat, a = vN v ∧ v < 2 ^ 256 ∧ Q (vN v.log2) H
theorem sc_leading_of : FnScope ["word", "found", "rest", "half"] ["word"] (defScope s_leading_of) := C8.fnScope_by (by decide +kernel)
theorem c_leading_of (T : Tx K mg) : C8.Cal P w K mg base 1 "leading_of" spLead [] := by
  refine cal_of T.d_leading_of T.g_leading_of sc_leading_of (by intro _ _ _ _ _ _ us hl; match us, hl with | [_], _ => rfl) (fun _ _ _ _ h => len1 h) (fun cdv A outer s H vs Q E hr h => ?_)
  obtain ⟨_, rfl, v, rfl, hv, h⟩ := h
  refine ⟨_, (pss_cons (ps_set (i := 1) sc_leading_of.nd rfl (Or.inl rfl) pe_int) (pss_cons (ps_set (i := 2) sc_leading_of.nd rfl (Or.inl rfl) (pv 0)) (pss_cons (ps_for PassesOwn.never rfl (pi_tup (C8.pe_gc (by rfl) T.c_HALVES)) (pg_name (i := 3) sc_leading_of.nd rfl (Or.inl rfl)) (pss_one (ps_if (pt_cmpR op_gt (pe_op op_shr (pv 2) (pv 3)) pe_int (nomark _)) (pss_cons (ps_set (i := 2) sc_leading_of.nd rfl (Or.inl rfl) (pe_op op_shr (pv 2) (pv 3))) (pss_one (ps_set (i := 1) sc_leading_of.nd rfl (Or.inl rfl) (pe_op op_add (pv 1) (pv 3))))) pss_nil))) (pss_one (ps_ret (pv 1)))))), ?_⟩
  walk_at "go"
  refine And.intro ⟨_, T.t_HALVES H⟩ ?_
  refine for_tup (K := K) (a := ga K "HALVES") (xs := vL [128, 64, 32, 16, 8, 4, 2, 1]) (fun i σ H' => H' = H ∧ ∃ x, σ = [some (vN v), some (vN ((([128, 64, 32, 16, 8, 4, 2, 1].take i).foldl lead1 (v, 0)).2)), some (vN ((([128, 64, 32, 16, 8, 4, 2, 1].take i).foldl lead1 (v, 0)).1)), x]) ⟨rfl, _, rfl⟩ (fun i σ H' _ ⟨e, _⟩ => e ▸ T.t_HALVES H) ?_ ?_
  · rintro i x σ _ hx ⟨rfl, y, rfl⟩
    obtain ⟨m, hm, rfl⟩ := vL_at hx
    have ht : [128, 64, 32, 16, 8, 4, 2, 1].take (i + 1) = [128, 64, 32, 16, 8, 4, 2, 1].take i ++ [m] := by
      rw [List.take_add_one, hm]; rfl
    rw [ht, List.foldl_append, List.foldl_cons, List.foldl_nil]
    generalize ([128, 64, 32, 16, 8, 4, 2, 1].take i).foldl lead1 (v, 0) = s
    obtain ⟨r, f⟩ := s
    show _
    refine ⟨_, rfl, _, rfl, _, _, rfl, rfl, (by omega : (0 : Int) ≤ (m : Int)), _, _, rfl, rfl, _, rfl, ?_⟩
    rw [shr_N]
    refine ite2 (fun q => ?_) (fun q => ?_)
    · have q' : r >>> m > 0 := by
        have : (0 : Int) < ((r >>> m : Nat) : Int) := of_decide_eq_true q
        omega
      refine ⟨_, rfl, _, rfl, _, _, rfl, rfl, (by omega : (0 : Int) ≤ (m : Int)), _, rfl, _, rfl, _, _, rfl, rfl, rfl, ?_⟩
      refine ⟨some (vN m), ?_⟩
      rw [lead1_pos q']
      show [some (vN v), some (V.int ((f : Int) + (m : Int))), some (V.int ((r : Int) / 2 ^ ((m : Int).toNat))), some (vN m)] = _
      rw [shr_N]
      rfl
    · have q' : ¬ r >>> m > 0 := by
        intro z
        exact q (decide_eq_true (show (0 : Int) < ((r >>> m : Nat) : Int) by omega))
      refine ⟨rfl, some (vN m), ?_⟩
      rw [lead1_neg q']
      rfl
  · rintro σ H' ⟨rfl, x, rfl⟩
    refine ⟨_, rfl, ?_⟩
    refine q_int (c := (v.log2 : Int)) ?_ h
    rw [← leadF_ok hv]
    rfl
/-! bits_of(word): a new list -/
abbrev spBits : Sp := spF1 fun a H Q => ∃ v : Nat, a = vN v ∧ v < 2 ^ 256 ∧ ∀ p H', H p = none → Ex H H' → H' p = some (.lst (vL (bitsOf v))) → Q (.ref p) H'
theorem sc_bits_of : FnScope ["word", "k"] ["word"] (defScope s_bits_of) := C8.fnScope_by (by decide +kernel)
theorem c_bits_of (T : Tx K mg) : C8.Cal P w K mg base 2 "bits_of" spBits [] := by
  refine cal_of T.d_bits_of T.g_bits_of sc_bits_of (by intro _ _ _ _ _ _ us hl; match us, hl with | [_], _ => rfl) (fun _ _ _ _ h => len1 h) (fun cdv A outer s H vs Q E hr h => ?_)
  obtain ⟨_, rfl, v, rfl, hv, h⟩ := h
  refine ⟨_, (pss_cons (ps_if (pt_cmpR op_eq (pv 0) pe_int (nomark _)) (pss_one (ps_ret (pe_lst pa_nil))) pss_nil) (pss_one (ps_ret (pe_lc (own := [("k", 1)]) (g := gName 1) rfl sc_bits_of.nd (pi_range1 (by rfl) T.b_range (pa_cons (pe_op op_add (C8.pe_c (c_leading_of T) hr (by decide) (by rfl) (pa_cons (pv 0) pa_nil)) pe_int) pa_nil)) (blkOk_by (own := [("k", 1)]) (N := ["word", "k"]) (sc := defScope s_bits_of) (by decide +kernel)) (fun _ _ _ _ _ => (pg_name (i := 1) sc_bits_of.nd rfl (Or.inl rfl))) (fun _ _ _ _ _ => (pts_one (pt_cmpR op_eq (pe_op op_and (pe_op op_shr (pv 0) (pv 1)) pe_int) pe_int (nomark _)))) (fun _ _ _ _ _ => (pv 1)))))), ?_⟩
  walk_at "go"
  refine ite2 (fun q => ?_) (fun q => ?_)
  · have q' : v = 0 := by have := of_decide_eq_true q; injection this with this; omega
    subst q'
    exact ⟨Nat.zero_le _, newI fun p H' hp e hH => h p H' hp e hH⟩
  · have hl : v.log2 < 256 := by
      rcases log2_lt_pow hv with r | r
      · rw [r]; decide
      · exact r
    refine ⟨_, rfl, _, rfl, _, rfl, hv, _, _, rfl, rfl, _, rfl, (by omega), (by omega), ?_⟩
    have en : ((v.log2 : Int) + 1).toNat = v.log2 + 1 := by omega
    rw [en]
    intro D hD
    refine lc_range (lo := 0) (n := v.log2 + 1) (fun i H' => Ex H H' ∧ H' D = some (.lst (vL ((List.range i).filter fun k => v.testBit k)))) ⟨Ex.new hD, upd_same⟩ ?_ ?_
    · rintro i H2 hi ⟨e, hH⟩
      refine ⟨rfl, _, rfl, _, rfl, _, _, rfl, rfl, (by omega), _, _, rfl, rfl, rfl, _, rfl, ?_⟩
      have ei : (0 : Int) + (i : Int) = ((i : Nat) : Int) := by omega
      rw [ei, dec_bit]
      rw [List.range_succ, List.filter_append]
      refine ite2 (fun q => ?_) (fun q => ?_)
      · refine ⟨_, rfl, _, hH, ?_, e.mut hD, ?_⟩
        · have h1 := List.length_filter_le (fun k => v.testBit k) (List.range i)
          rw [List.length_map]
          rw [List.length_range] at h1
          exact Nat.lt_of_lt_of_le (by omega : _ < 1000) (by decide)
        · rw [upd_same]
          simp [q]
      · refine ⟨e, ?_⟩
        rw [hH]
        simp [q]
    · rintro H' ⟨e, hH⟩
      refine h D H' hD e ?_
      rw [hH, ← bitsOf_eq]
/-! least_sum(word, basis) -/
abbrev spLeast : Sp := spF2 fun a b H Q => ∃ (v : Nat) (p : Addr) (B : List Nat), a = vN v ∧ b = .ref p ∧ H p = some (.lst (vL B)) ∧ Q (vN (leastSum v B)) H
theorem sc_least_sum : FnScope ["word", "basis", "found", "row"] ["word", "basis"] (defScope s_least_sum) := C8.fnScope_by (by decide +kernel)
theorem c_least_sum (T : Tx K mg) : C8.Cal P w K mg base 1 "least_sum" spLeast [] := by
  refine cal_of T.d_least_sum T.g_least_sum sc_least_sum (by intro _ _ _ _ _ _ us hl; match us, hl with | [_, _], _ => rfl) (fun _ _ _ _ h => len2 h) (fun cdv A outer s H vs Q E hr h => ?_)
  obtain ⟨_, _, rfl, v, p, B, rfl, rfl, hp, h⟩ := h
  refine ⟨_, (pss_cons (ps_set (i := 2) sc_least_sum.nd rfl (Or.inl rfl) (pv 0)) (pss_cons (ps_for PassesOwn.never rfl (pi_list (pv 1)) (pg_name (i := 3) sc_least_sum.nd rfl (Or.inl rfl)) (pss_one (ps_if (pt_cmpR op_lt (pe_op op_xor (pv 2) (pv 3)) (pv 2) (nomark _)) (pss_one (ps_set (i := 2) sc_least_sum.nd rfl (Or.inl rfl) (pe_op op_xor (pv 2) (pv 3)))) pss_nil))) (pss_one (ps_ret (pv 2))))), ?_⟩
  refine ⟨_, rfl, _, rfl, p, rfl, ⟨_, .of hp⟩, ?_⟩
  refine for_list (K := K) (a := p) (xs := vL B) (fun i σ H' => H' = H ∧ ∃ x, σ = [some (vN v), some (.ref p), some (vN (leastSum v (B.take i))), x]) ⟨rfl, _, rfl⟩ (fun i σ H' _ ⟨e, _⟩ => e ▸ .of hp) ?_ ?_
  · rintro i x σ _ hx ⟨rfl, y, rfl⟩
    obtain ⟨m, hm, rfl⟩ := vL_at hx
    have ht : leastSum v (B.take (i + 1)) = lstep (leastSum v (B.take i)) m := by
      unfold leastSum
      rw [List.take_add_one, hm, List.foldl_append]; rfl
    rw [ht]
    generalize leastSum v (B.take i) = f
    refine ⟨_, rfl, _, rfl, _, _, rfl, rfl, _, rfl, _, _, rfl, rfl, _, rfl, ?_⟩
    rw [xor_N]
    refine ite2 (fun q => ?_) (fun q => ?_)
    · have q' : f ^^^ m < f := by have := of_decide_eq_true q; omega
      refine ⟨_, rfl, _, rfl, _, _, rfl, rfl, rfl, some (vN m), ?_⟩
      unfold lstep
      rw [if_pos q']
      show [some (vN v), some (V.ref p), some (V.int (Builtin.bitXor (f : Int) (m : Int))), some (vN m)] = _
      rw [xor_N]
    · have q' : ¬ f ^^^ m < f := fun z => q (decide_eq_true (by omega))
      refine ⟨rfl, some (vN m), ?_⟩
      unfold lstep
      rw [if_neg q']; rfl
  · rintro σ H' ⟨rfl, x, rfl⟩
    refine ⟨_, rfl, ?_⟩
    have : B.take (vL B).length = B := by rw [List.length_map, List.take_length]
    rw [this]
    exact h
end
end My
/-! *** W2 -/
namespace My
open PySem PySem.Spec PyProof.Rows L2 He
local macro_rules | `(tactic| walk_at "go") => `(tactic| repeat (first | refine And.intro rfl ?_ | refine iteT ?_ | refine iteF ?_ | refine iteNS (by assumption) ?_ | apply Exists.intro | refine And.intro (by assumption) ?_))
theorem lk0 {f : Str} : ([] : List (Str × V)).lookup f = none := rfl
theorem lk1 {f : Str} {v : V} {r : List (Str × V)} : ((f, v) :: r).lookup f = some v := by simp [List.lookup]
theorem lk2 {f g : Str} {v : V} {r : List (Str × V)} (h : (f == g) = false) : ((g, v) :: r).lookup f = r.lookup f := by simp [List.lookup, h]
theorem pf0 {f : Str} {v : V} : putF f v [] = [(f, v)] := rfl
theorem pf2 {f g : Str} {v u : V} {r : List (Str × V)} (h : ¬ g = f) : putF f v ((g, u) :: r) = (g, u) :: putF f v r := by
  show (if g = f then _ else _) = _
  rw [if_neg h]
local macro_rules | `(tactic| walk_at "lk") => `(tactic| (repeat (first | exact lk1 | exact lk0 | refine (lk2 (by decide +kernel)).trans ?_)))
theorem fsS_bits {k l} : (fsS k l).lookup ("own_bits" : Str) = some (vN k) := by walk_at "lk"
theorem fsS_basis {k l} : (fsS k l).lookup ("own_basis" : Str) = some (V.ref l) := by walk_at "lk"
theorem fsF_space {s pt} : (fsF s pt).lookup ("own_space" : Str) = some (V.ref s) := by walk_at "lk"
theorem fsF_point {s pt} : (fsF s pt).lookup ("own_point" : Str) = some (vN pt) := by walk_at "lk"
theorem fsM_cols {l k off} : (fsM l k off).lookup ("own_columns" : Str) = some (V.ref l) := by walk_at "lk"
theorem fsM_bits {l k off} : (fsM l k off).lookup ("own_bits" : Str) = some (vN k) := by walk_at "lk"
theorem fsM_off {l k off} : (fsM l k off).lookup ("own_offset" : Str) = some (vN off) := by walk_at "lk"
theorem fsS_put {k l} : putF "own_basis" (.ref l) (putF "own_bits" (vN k) []) = fsS k l := by rw [pf0, pf2 (by decide +kernel), pf0]
theorem fsF_put {s pt} : putF "own_point" (vN pt) (putF "own_space" (.ref s) []) = fsF s pt := by rw [pf0, pf2 (by decide +kernel), pf0]
theorem fsM_put {l k off} : putF "own_offset" (vN off) (putF "own_bits" (vN k) (putF "own_columns" (.ref l) [])) = fsM l k off := by rw [pf0, pf2 (by decide +kernel), pf0, pf2 (by decide +kernel), pf2 (by decide +kernel), pf0]
theorem vL_ints (B : List Nat) : vL B = (B.map fun n : Nat => (n : Int)).map V.int := by rw [List.map_map]; rfl
theorem perm_nat {B : List Nat} {ns : List Int} (h : ns.Perm (B.map fun n : Nat => (n : Int))) : ∃ C : List Nat, C.Perm B ∧ ns = C.map fun n : Nat => (n : Int) := by
  refine ⟨ns.map Int.toNat, ?_, ?_⟩
  · have := h.map Int.toNat
    rw [List.map_map] at this
    have e : (B.map (Int.toNat ∘ fun n : Nat => (n : Int))) = B := by
      rw [show (Int.toNat ∘ fun n : Nat => (n : Int)) = id from funext fun n => by simp]; exact List.map_id _
    rwa [e] at this
  · rw [List.map_map]
    have : ∀ i ∈ ns, ((fun n : Nat => (n : Int)) ∘ Int.toNat) i = i := fun i hi => by
      obtain ⟨n, _, rfl⟩ := List.mem_map.mp (h.mem_iff.mp hi)
      simp
    have e := List.map_congr_left (g := id) this
    rw [e, List.map_id]
section
variable {P : Program} {w : World} {K : PySem.W.Frag} {mg : Str → Option Value} {base : Heap}
/-! reduced(words): a new list -/
abbrev spReduced : Sp := spF1 fun a H Q => ∃ (p : Addr) (ws : List Nat), a = .ref p ∧ H p = some (.lst (vL ws)) ∧ ws.length ≤ 1000 ∧
  ∀ q H' B, IsBas ws B → H q = none → Ex H H' → H' q = some (.lst (vL B)) → Q (.ref q) H'
theorem sc_reduced : FnScope ["words", "basis", "word", "rest", "row"] ["words"] (defScope s_reduced) := C8.fnScope_by (by decide +kernel)
theorem rfold_snoc {ws : List Nat} {i m : Nat} (h : ws[i]? = some m) : rfold (ws.take (i + 1)) = rstep (rfold (ws.take i)) m := by
  unfold rfold
  rw [List.take_add_one, h, List.foldl_append]; rfl
theorem rfold_len : ∀ (ws B : List Nat), (ws.foldl rstep B).length ≤ B.length + ws.length
  | [], B => Nat.le_refl _
  | w :: ws, B => by
    have h := rfold_len ws (rstep B w)
    have h2 := rstep_len B w
    show (ws.foldl rstep (rstep B w)).length ≤ _
    simp only [List.length_cons]
    omega
theorem c_reduced (T : Tx K mg) : C8.Cal P w K mg base 2 "reduced" spReduced [] := by
  refine cal_of T.d_reduced T.g_reduced sc_reduced (by intro _ _ _ _ _ _ us hl; match us, hl with | [_], _ => rfl) (fun _ _ _ _ h => len1 h) (fun cdv A outer s H vs Q E hr h => ?_)
  obtain ⟨_, rfl, p, ws, rfl, hp, hlen, h⟩ := h
  refine ⟨_, (pss_cons (ps_set (i := 1) sc_reduced.nd rfl (Or.inl rfl) (pe_lst pa_nil)) (pss_cons (ps_for PassesOwn.never rfl (pi_list (pv 0)) (pg_name (i := 2) sc_reduced.nd rfl (Or.inl rfl)) (pss_cons (ps_set (i := 3) sc_reduced.nd rfl (Or.inr rfl) (C8.pe_c (c_least_sum T) hr (by decide) (by rfl) (pa_cons (pv 2) (pa_cons (pv 1) pa_nil)))) (pss_one (ps_if (pt_cmpR op_ne (pv 3) pe_int (nomark _)) (pss_cons (ps_setLc (i := 1) (own := [("row", 4)]) (g := gName 4) rfl sc_reduced.nd rfl rfl (sw_true rfl rfl rfl (by decide +kernel)) (pi_list (pv 1)) (blkOk_by (own := [("row", 4)]) (N := ["words", "basis", "word", "rest", "row"]) (sc := defScope s_reduced) (by decide +kernel)) (fun _ _ _ _ _ => (pg_name (i := 4) sc_reduced.nd rfl (Or.inl rfl))) (fun _ _ _ _ _ => pts_nil) (fun _ _ _ _ _ => (pe_ifExp (pt_cmpR op_lt (pe_op op_xor (pv 4) (pv 3)) (pv 4) (nomark _)) (pe_op op_xor (pv 4) (pv 3)) (pv 4)))) (pss_one (ps_expr (pe_bm PySem.F.plainAttrs_list PySem.F.slot_list_append PySem.F.type_list_append mt_append (pv 1) (pa_cons (pv 3) pa_nil))))) pss_nil)))) (pss_one (ps_ret (pe_callBK (id := "sorted") (cr_sortedRev (b := true)) (by rfl) T.b_sorted (by decide +kernel) (pa_cons (pv 1) pa_nil) (pk_cons pe_bl pk_nil)))))), ?_⟩
  refine ⟨Nat.zero_le _, newI fun b H1 hb e1 hB1 => ?_⟩
  refine ⟨_, rfl, p, rfl, ⟨_, .of (e1 _ _ hp)⟩, ?_⟩
  refine for_list (K := K) (a := p) (xs := vL ws) (fun i σ H' => ∃ b x r, σ = [some (.ref p), some (.ref b), x, r, none] ∧ Ex H H' ∧ H b = none ∧ H' b = some (.lst (vL (rfold (ws.take i))))) ⟨b, none, none, rfl, e1, hb, hB1⟩ (fun i σ H' _ ⟨_, _, _, _, e, _⟩ => .of (e _ _ hp)) ?_ ?_
  · rintro i x σ H2 hx ⟨b2, u, r, rfl, e2, hb2, hB2⟩
    obtain ⟨m, hm, rfl⟩ := vL_at hx
    rw [rfold_snoc hm]
    have hl : (rfold (ws.take i)).length ≤ 1000 := by
      have := rfold_len (ws.take i) []
      have h3 : (ws.take i).length ≤ ws.length := by rw [List.length_take]; omega
      unfold rfold
      simp only [List.length_nil] at this
      omega
    generalize rfold (ws.take i) = B at hB2 hl
    have hrs : leastSum m B = 0 ∨ leastSum m B ≠ 0 := Classical.em _
    refine ⟨_, rfl, _, rfl, _, _, rfl, m, b2, B, rfl, rfl, hB2, ?_⟩
    refine ⟨_, rfl, rfl, _, rfl, ?_⟩
    unfold rstep
    generalize leastSum m B = t at hrs ⊢
    rcases hrs with ht | ht
    · rw [if_pos ht]
      subst ht
      exact ⟨_, _, _, rfl, e2, hb2, hB2⟩
    · rw [if_neg ht]
      refine iteNN (fun q => ht (by injection q with q; omega)) ?_
      refine ⟨_, rfl, b2, rfl, ⟨_, .of hB2⟩, fun D hD => ?_⟩
      have hD0 : H D = none := e2.free hD
      refine lc_list (K := K) (a := b2) (xs := vL B) (fun i H' => Ex H2 H' ∧ H' D = some (.lst (vL ((B.take i).map fun c => lstep c t)))) ⟨Ex.new hD, upd_same⟩ (fun i H' _ ⟨e, _⟩ => .of (e _ _ hB2)) ?_ ?_
      · rintro i x H3 hx ⟨e3, hD3⟩
        obtain ⟨c, hc, rfl⟩ := vL_at hx
        refine ⟨rfl, _, rfl, _, rfl, _, _, rfl, rfl, _, rfl, _, _, rfl, rfl, _, rfl, ?_⟩
        have hz : (vL ((B.take i).map fun c => lstep c t)).length < sizeLine := by
          rw [List.length_map, List.length_map, List.length_take]
          exact Nat.lt_of_le_of_lt (by omega : _ ≤ 1000) (by decide)
        have hs : vL ((B.take (i + 1)).map fun c => lstep c t) = vL ((B.take i).map fun c => lstep c t) ++ [vN (lstep c t)] := by
          rw [List.take_add_one, hc, List.map_append, vL_app]; rfl
        rw [hs, xor_N]
        refine ite2 (fun q => ?_) (fun q => ?_)
        · have q' : c ^^^ t < c := by have := of_decide_eq_true q; omega
          refine ⟨_, rfl, _, rfl, _, _, rfl, rfl, _, hD3, hz, e3.mut hD, ?_⟩
          rw [upd_same]
          unfold lstep
          rw [if_pos q']
          show some (HO.lst (_ ++ [V.int (Builtin.bitXor (c : Int) (t : Int))])) = _
          rw [xor_N]
        · have q' : ¬ c ^^^ t < c := fun z => q (decide_eq_true (by omega))
          refine ⟨_, rfl, _, hD3, hz, e3.mut hD, ?_⟩
          rw [upd_same]
          unfold lstep
          rw [if_neg q']
      · rintro H3 ⟨e3, hD3⟩
        have hf : B.take (vL B).length = B := by rw [List.length_map, List.take_length]
        rw [hf] at hD3
        refine ⟨_, rfl, .inl ⟨rfl, _, SqL.of hD3⟩, _, rfl, D, _, _, rfl, rfl, hD3, ?_, ?_⟩
        · rw [List.length_map, List.length_map]
          exact Nat.lt_of_le_of_lt hl (by decide)
        · refine ⟨D, _, _, rfl, Ex.mut (e2.trans e3) hD0, hD0, ?_⟩
          rw [upd_same, vL_app]; rfl
  · rintro σ H2 ⟨b2, u, r, rfl, e2, hb2, hB2⟩
    have hf : ws.take (vL ws).length = ws := by rw [List.length_map, List.take_length]
    rw [hf, vL_ints] at hB2
    refine ⟨_, rfl, b2, _, rfl, rfl, .of hB2, fun ns' q hpm hord hq => ?_⟩
    obtain ⟨C, hC, rfl⟩ := perm_nat hpm
    have hord2 : C.Pairwise (· ≥ ·) := by
      have : (C.map fun n : Nat => (n : Int)).Pairwise (· ≥ ·) := hord
      rw [List.pairwise_map] at this
      exact this.imp fun {a b} h => by omega
    refine h q _ C (isBas_of hC hord2) (e2.free hq) (e2.mut (e2.free hq)) ?_
    rw [upd_same, vL_ints]
/-! combined(basis, number) -/
abbrev spCombined : Sp := spF2 fun a b H Q => ∃ (p : Addr) (B : List Nat) (n : Nat), a = .ref p ∧ b = vN n ∧ H p = some (.lst (vL B)) ∧ Q (vN (cmb B.reverse n)) H
theorem sc_combined : FnScope ["basis", "number", "found", "rest", "row"] ["basis", "number"] (defScope s_combined) := C8.fnScope_by (by decide +kernel)
theorem half_N (n : Nat) : (n : Int) / 2 ^ ((1 : Int).toNat) = ((n / 2 : Nat) : Int) := by simp
theorem bit0_N (n : Nat) : decide (V.int (Builtin.bitAnd (n : Int) 1) = V.int 1) = n.testBit 0 := by
  have h := dec_bit n 0
  have e : (n : Int) / 2 ^ ((((0 : Nat) : Int)).toNat) = n := by simp
  rwa [e] at h
theorem c_combined (T : Tx K mg) : C8.Cal P w K mg base 1 "combined" spCombined [] := by
  refine cal_of T.d_combined T.g_combined sc_combined (by intro _ _ _ _ _ _ us hl; match us, hl with | [_, _], _ => rfl) (fun _ _ _ _ h => len2 h) (fun cdv A outer s H vs Q E hr h => ?_)
  obtain ⟨_, _, rfl, p, B, n, rfl, rfl, hp, h⟩ := h
  refine ⟨_, (pss_cons (ps_par (i := 2) (j := 3) rfl sc_combined.nd rfl rfl (by decide) rfl rfl (pa_cons pe_int (pa_cons (pv 1) pa_nil)) (by rfl)) (pss_cons (ps_for PassesOwn.never rfl (RT.pi_revA (by rfl) T.b_reversed (pv 0)) (pg_name (i := 4) sc_combined.nd rfl (Or.inl rfl)) (pss_cons (ps_if (pt_cmpR op_eq (pe_op op_and (pv 3) pe_int) pe_int (nomark _)) (pss_one (ps_set (i := 2) sc_combined.nd rfl (Or.inl rfl) (pe_op op_xor (pv 2) (pv 4)))) pss_nil) (pss_one (ps_set (i := 3) sc_combined.nd rfl (Or.inl rfl) (pe_op op_shr (pv 3) pe_int))))) (pss_one (ps_ret (pv 2))))), ?_⟩
  refine ⟨_, rfl, _, _, rfl, ?_⟩
  refine ⟨_, rfl, p, vL B, rfl, .inl ⟨.of hp, ?_⟩⟩
  refine RT.for_Itv (K := K) (a := p) (xs := vL B) (fun i σ H' => H' = H ∧ ∃ x, σ = [some (.ref p), some (vN n), some (vN ((B.reverse.take i).foldl comb1 (0, n)).1), some (vN ((B.reverse.take i).foldl comb1 (0, n)).2), x]) ⟨rfl, _, rfl⟩ (fun i σ H' ⟨e, _⟩ => e ▸ .of hp) ?_ ?_
  · rintro i x σ _ hi hx ⟨rfl, y, rfl⟩
    obtain ⟨m, hm, rfl⟩ := vL_at hx
    rw [List.length_map] at hi hm
    have hr' : B.reverse[i]? = some m := by rw [List.getElem?_reverse hi]; exact hm
    have ht : (B.reverse.take (i + 1)).foldl comb1 (0, n) = comb1 ((B.reverse.take i).foldl comb1 (0, n)) m := by
      rw [List.take_add_one, hr', List.foldl_append]; rfl
    rw [ht]
    generalize (B.reverse.take i).foldl comb1 (0, n) = st
    obtain ⟨f, r⟩ := st
    refine ⟨_, rfl, _, _, rfl, rfl, rfl, _, rfl, ?_⟩
    rw [bit0_N]
    refine ite2 (fun q => ?_) (fun q => ?_)
    · refine ⟨_, rfl, _, rfl, _, _, rfl, rfl, _, rfl, _, _, rfl, rfl, (show (0 : Int) ≤ 1 by decide), rfl, some (vN m), ?_⟩
      have q' : r.testBit 0 = true := q
      have e : comb1 (f, r) m = (f ^^^ m, r / 2) := by unfold comb1; rw [if_pos q']
      rw [e]
      show [some (V.ref p), some (vN n), some (V.int (Builtin.bitXor (f : Int) (m : Int))), some (V.int ((r : Int) / 2 ^ ((1 : Int).toNat))), some (vN m)] = _
      rw [xor_N, half_N]
    · refine ⟨_, rfl, _, _, rfl, rfl, (show (0 : Int) ≤ 1 by decide), rfl, some (vN m), ?_⟩
      have q' : ¬ r.testBit 0 = true := q
      have e : comb1 (f, r) m = (f, r / 2) := by unfold comb1; rw [if_neg q']
      rw [e]
      show [some (V.ref p), some (vN n), some (vN f), some (V.int ((r : Int) / 2 ^ ((1 : Int).toNat))), some (vN m)] = _
      rw [half_N]
  · rintro σ H' ⟨rfl, x, rfl⟩
    refine ⟨_, rfl, ?_⟩
    have hf : B.reverse.take (vL B).length = B.reverse := by rw [List.length_map, ← List.length_reverse, List.take_length]
    rw [hf, comb_ok, Nat.zero_xor]
    exact h
/-! Space(words, bits) -/
abbrev spSpaceInit (K : PySem.W.Frag) : Sp := spF3 fun a b c H Q => ∃ (x dx p : Addr) (ws : List Nat) (k : Nat), a = .ref x ∧ b = .ref p ∧ c = vN k ∧ H x = some (.ins (CS K) dx []) ∧ H p = some (.lst (vL ws)) ∧ ws.length ≤ 1000 ∧ k ≤ 80 ∧ (∀ z ∈ ws, z < 2 ^ k) ∧
  ∀ H' l B, IsBas ws B → ExB x H H' → H' x = some (.ins (CS K) dx (fsS k l)) → H' l = some (.lst (vL B)) → Q .non H'
theorem sc_Space_init : FnScope ["self", "words", "bits"] ["self", "words", "bits"] (defScope s_Space_init) := C8.fnScope_by (by decide +kernel)
theorem c_Space (T : Tx K mg) : C8.Mak P w K mg base 4 "Space" (CS K) (spSpaceInit K) [] := by
  refine mak_of T.m_Space T.g_Space T.d_Space_init sc_Space_init (by intro _ _ _ _ _ _ us hl; match us, hl with | [_, _, _], _ => rfl) (fun _ _ _ _ h => len3 h) (fun cdv A outer s H vs Q E hr h => ?_)
  obtain ⟨_, _, _, rfl, x, dx, p, ws, k, rfl, rfl, rfl, hx, hp, hl, hk, hw, h⟩ := h
  refine ⟨_, (pss_cons (ps_expr (C8.pe_c (c_want_bits T) hr (by decide) (by rfl) (pa_cons (pv 2) pa_nil))) (pss_cons (ps_expr (C8.pe_c (c_want_words T) hr (by decide) (by rfl) (pa_cons (pv 1) (pa_cons (pv 2) pa_nil)))) (pss_cons (ps_fld (pv 0) (pv 2) rfl) (pss_one (ps_fld (pv 0) (C8.pe_c (c_reduced T) hr (by decide) (by rfl) (pa_cons (pv 1) pa_nil)) rfl))))), ?_⟩
  have npx : p ≠ x := ne_of hp hx (by intro z; cases z)
  refine ⟨_, rfl, _, rfl, k, rfl, hk, ?_⟩
  refine ⟨_, rfl, _, rfl, _, _, rfl, p, ws, k, rfl, rfl, hp, (by omega), hw, fun H1 e1 => ?_⟩
  refine ⟨_, rfl, _, rfl, x, CS K, dx, [], rfl, e1 _ _ hx, T.i_Space.cl, T.n_Space_own_bits, (by decide), ?_⟩
  refine ⟨_, rfl, _, rfl, p, ws, rfl, (by rw [upd_ne npx]; exact e1 _ _ hp), hl, fun q H2 B hB hq e2 hqB => ?_⟩
  refine ⟨_, rfl, x, CS K, dx, _, rfl, e2 _ _ upd_same, T.i_Space.cl, T.n_Space_own_basis, (by show 1 < 1000; decide), ?_⟩
  have nqx : q ≠ x := fun z => by rw [z, upd_same] at hq; cases hq
  refine h _ q B hB (fun b o nb hb => ?_) (by rw [upd_same, fsS_put]) (by rw [upd_ne nqx]; exact hqB)
  rw [upd_ne nb]
  refine e2 _ _ ?_
  rw [upd_ne nb]
  exact e1 _ _ hb
theorem mk_space {H : Hp} {p : Addr} {ws : List Nat} {k : Nat} {Q : VK} {E : XK} (hp : H p = some (.lst (vL ws))) (hl : ws.length ≤ 1000) (hk : k ≤ 80) (hw : ∀ z ∈ ws, z < 2 ^ k)
    {x dx : Addr} (nx : H x = none) (nd : H dx = none) (h : ∀ H' B, IsBas ws B → Ex H H' → SpaceAt K H' x k B → Q .non H') :
    spSpaceInit K (.ref x :: ([.ref p, vN k] ++ [])) (upd (upd H dx (.own x)) x (.ins (CS K) dx [])) Q E := by
  refine ⟨_, _, _, rfl, x, dx, p, ws, k, rfl, rfl, rfl, upd_same, ?_, hl, hk, hw, fun H' l B hB e hx hlB => ?_⟩
  · rw [upd_ne (ne_of_none hp nx), upd_ne (ne_of_none hp nd)]; exact hp
  · exact h H' B hB (ExB.made nx nd e) ⟨dx, l, hx, hlB⟩
/-! Flat(word, space) -/
abbrev spFlatInit (K : PySem.W.Frag) : Sp := spF3 fun a b c H Q => ∃ (x dx s : Addr) (v k : Nat) (B : List Nat), a = .ref x ∧ b = vN v ∧ c = .ref s ∧ H x = some (.ins (CF K) dx []) ∧ s ≠ x ∧ SpaceAt K H s k B ∧ k ≤ 80 ∧ v < 2 ^ k ∧
  ∀ H', ExB x H H' → H' x = some (.ins (CF K) dx (fsF s (leastSum v B))) → Q .non H'
theorem sc_Flat_init : FnScope ["self", "word", "space"] ["self", "word", "space"] (defScope s_Flat_init) := C8.fnScope_by (by decide +kernel)
theorem c_Flat (T : Tx K mg) : C8.Mak P w K mg base 4 "Flat" (CF K) (spFlatInit K) [] := by
  refine mak_of T.m_Flat T.g_Flat T.d_Flat_init sc_Flat_init (by intro _ _ _ _ _ _ us hl; match us, hl with | [_, _, _], _ => rfl) (fun _ _ _ _ h => len3 h) (fun cdv A outer s H vs Q E hr h => ?_)
  obtain ⟨_, _, _, rfl, x, dx, sp, v, k, B, rfl, rfl, rfl, hx, nsx, ⟨ds, l, hs, hlB⟩, hk, hv, h⟩ := h
  refine ⟨_, (pss_cons (ps_if (pt_not (pt_val (pe_callB (id := "isinstance") (C8.call_isC T.i_Space) (by rfl) T.b_isinstance (by decide +kernel) (pa_cons (pv 2) (pa_cons (C8.pe_gc (by rfl) T.k_Space) pa_nil))))) (pss_one ps_never) pss_nil) (pss_cons (ps_expr (C8.pe_c (c_want_word T) hr (by decide) (by rfl) (pa_cons (pv 1) (pa_cons (pe_fld (pv 2) rfl) pa_nil)))) (pss_cons (ps_fld (pv 0) (pv 2) rfl) (pss_one (ps_fld (pv 0) (C8.pe_c (c_least_sum T) hr (by decide) (by rfl) (pa_cons (pv 1) (pa_cons (pe_fld (pv 2) rfl) pa_nil))) rfl))))), ?_⟩
  have nlx : l ≠ x := ne_of hlB hx (by intro z; cases z)
  refine ⟨_, rfl, sp, ds, _, rfl, hs, true, rfl, ?_⟩
  refine ⟨_, rfl, _, rfl, sp, _, ds, _, _, rfl, hs, T.i_Space.cl, T.n_Space_own_bits, fsS_bits, _, _, rfl, v, k, rfl, rfl, (by omega), hv, ?_⟩
  refine ⟨_, rfl, _, rfl, x, CF K, dx, [], rfl, hx, T.i_Flat.cl, T.n_Flat_own_space, (by decide), ?_⟩
  refine ⟨_, rfl, _, rfl, sp, _, ds, _, _, rfl, (by rw [upd_ne nsx]; exact hs), T.i_Space.cl, T.n_Space_own_basis, fsS_basis, _, _, rfl, v, l, B, rfl, rfl, (by rw [upd_ne nlx]; exact hlB), ?_⟩
  refine ⟨_, rfl, x, CF K, dx, _, rfl, upd_same, T.i_Flat.cl, T.n_Flat_own_point, (by show 1 < 1000; decide), ?_⟩
  refine h _ (fun b o nb hb => by rw [upd_ne nb, upd_ne nb]; exact hb) (by rw [upd_same, fsF_put])
theorem mk_flat {H : Hp} {s : Addr} {v k : Nat} {B : List Nat} {Q : VK} {E : XK} (hs : SpaceAt K H s k B) (hk : k ≤ 80) (hv : v < 2 ^ k)
    {x dx : Addr} (nx : H x = none) (nd : H dx = none) (h : ∀ H', Ex H H' → FlatAt K H' x k B (leastSum v B) → Q .non H') :
    spFlatInit K (.ref x :: ([vN v, .ref s] ++ [])) (upd (upd H dx (.own x)) x (.ins (CF K) dx [])) Q E := by
  have hs0 := hs
  obtain ⟨ds, l, h1, h2⟩ := hs
  have e0 : ∀ b o, H b = some o → (upd (upd H dx (.own x)) x (.ins (CF K) dx [])) b = some o := fun b o q => by
    rw [upd_ne (ne_of_none q nx), upd_ne (ne_of_none q nd)]; exact q
  refine ⟨_, _, _, rfl, x, dx, s, v, k, B, rfl, rfl, rfl, upd_same, ne_of_none h1 nx, ⟨ds, l, e0 _ _ h1, e0 _ _ h2⟩, hk, hv, fun H' e hx => ?_⟩
  have e1 := ExB.made nx nd e
  exact h H' e1 ⟨dx, s, hx, hs0.ex e1⟩
end
end My
/-! *** R0 -/
namespace My
open PySem PySem.Spec PyProof.Rows L2 He
/-! ### rules that name K (within a comprehension's block) -/
section
variable (K : PySem.W.Frag) {X : Cx} {e o a b : Expr} {es : List Expr} {ta tb to : TE} {t : TA} {f : Str} {pos apos cpos : Pos}
theorem call_lenK (h : X.K = K := by rfl) : CallR X (.builtin "len") (fun xs H Q => ∃ x n, xs = [x] ∧ LenV K x H n ∧ Q (.int n) H) := by cases h; exact call_len
theorem ix_listK (h : X.K = K := by rfl) : IxR X (rIxL K) := by cases h; exact ix_list
theorem ix_tupK (h : X.K = K := by rfl) : IxR X (rIxT K) := by cases h; exact ix_tup
theorem ix_seqK (h : X.K = K := by rfl) : IxR X (rIx K) := by cases h; exact ix_seq
theorem op_in_seqK (h : X.K = K := by rfl) : OpR X (compareOp .In) (rIn K false) := by cases h; exact op_in_seq
theorem op_notIn_seqK (h : X.K = K := by rfl) : OpR X (compareOp .NotIn) (rIn K true) := by cases h; exact op_notIn_seq
theorem pe_fldK (he : PE X e ta) (hb : attributeBase e f X.env (eval e X.env) = eval e X.env) (h : X.K = K := by rfl) : PE X (.Attribute e f pos) (tFld K ta f) := by cases h; exact pe_fld he hb
theorem pe_bmK {T id : String} {name : Str} {r : V → List V → Hp → VK → Prop} (pa : PlainAttrs T) (slot : Slot T name id) (hty : typeOf (.builtin id) = pure (.type "method_descriptor")) (hm : MtR X id r) (ho : PE X o to) (ha : PA X (e :: es) t)
    (h : X.K = K := by rfl) (hbase : attributeBase o name X.env (eval o X.env) = eval o X.env := by rfl)
    (hfew : ((backTo cpos (starEach (e :: es) X.env)).all (fun x => !x.1) && (backToKw cpos (keywordEach [] X.env)).all (fun x => x.1.isSome)
      && decide ((e :: es).length + ([] : List Keyword).length + (if ([] : List Keyword).isEmpty then 0 else 1) < 30)) = true := by rfl)
    (hline : (apos.endLine == cpos.line) = true := by rfl) (hs : starEach (e :: es) X.env = (false, eval e X.env) :: starEach es X.env := by rfl) (hplain : (backTo cpos (starEach es X.env)).any (·.1) = false := by rfl) :
    PE X (.Call (.Attribute o name apos) (e :: es) [] cpos) (tBM K T r to t) := by cases h; exact pe_bm pa slot hty hm ho ha hbase hfew hline hs hplain
end
end My
/-! *** R1 -/
/-! enumerate of a tuple -/
namespace PySem
open AutoSeq1 (wpAny_loadPart')
open MeetsSeq MeetsSeq2 MeetsSeq3 SeqRoads2
theorem my_enumerate_newT (l : Addr) (items : Array Value) (n : Nat) (dct : Option Addr) (sl : Array (Option Value)) :
    Meets (Builtin.«enumerate.__new__» ⟨[.type "enumerate", .ref l], []⟩) (fun _ R s => s.heap.get? l = some { cls := .type "tuple", dict := dct, data := .seq items n, slots := sl } ∧
      R (.ok (.ret (.ref (s.heap.push { cls := .type "tuple_iterator", data := .fields #[.ref l, .int 0 0] }).objs.size)))
        { s with heap := (s.heap.push { cls := .type "tuple_iterator", data := .fields #[.ref l, .int 0 0] }).push { cls := .type "enumerate", data := .fields #[.none, .bool false, .ref s.heap.objs.size, rawInt 0, .none, .none] } }) :=
  .of_wp fun prog w A R s h => by
    obtain ⟨hp, g, d, tk, os⟩ := s; obtain ⟨hl, h⟩ := h
    have hsub := sub_enumerate
    have hL : Heap.IsTuple (Shared.heap ⟨hp, g, d, tk, os⟩) l items := ⟨_, hl, rfl, n, rfl⟩
    wp_walk using wpAny_loadPart' hl
    refine wpAny_stack_any fun st => wpAny_pure ?_
    split
    · rename_i c _ _ _ _ _
      cases (c == Value.type "enumerate")
      · wp_walk using wpAny_loadPart' hl, wpAny_pyIter_tuple hL
        exact ⟨_, rfl, h⟩
      · wp_walk using wpAny_loadPart' hl, wpAny_pyIter_tuple hL
        exact ⟨_, rfl, h⟩
    · wp_walk using wpAny_loadPart' hl, wpAny_pyIter_tuple hL
      exact ⟨_, rfl, h⟩
section
variable {prog : Program} {w : World} {A : Around} {E : Value → Shared → Prop} {s : Shared}
theorem my_call_enumerate_tuple {l : Addr} {items : Array Value} {Q : Value → Shared → Prop} (hL : s.heap.IsTuple l items)
    (h : ∀ h', IsEnum h' (s.heap.objs.size + 1) s.heap.objs.size 0 .none → h'.IsTupleIter s.heap.objs.size l 0 → h'.objs.size = s.heap.objs.size + 2 →
      (∀ b o, s.heap.get? b = some o → h'.get? b = some o) → Q (.ref (s.heap.objs.size + 1)) { s with heap := h' }) :
    wpAny (model prog w) A (call (.type "enumerate") [.ref l]) Q E s := by
  obtain ⟨⟨c, dct, dt, sl⟩, hl, hc, n, hd⟩ := hL
  replace hc : c = .type "tuple" := hc
  replace hd : dt = .seq items n := hd
  subst hc hd
  refine callType_new F.called_enumerate (by decide) (F.typeCall_enumerate_1 _) (F.newCall_enumerate_1 _) (fun obj => F.args_object_init_2 obj _) F.entry_enumerate_new
    (my_enumerate_newT l items n dct sl) ⟨hl, ?_⟩
  have hz : (s.heap.push { cls := .type "tuple_iterator", data := .fields #[.ref l, .int 0 0] }).objs.size = s.heap.objs.size + 1 := Heap.size_push ..
  show _ ∧ _
  rw [hz]
  have he : IsEnum ((s.heap.push { cls := .type "tuple_iterator", data := .fields #[.ref l, .int 0 0] }).push
      { cls := .type "enumerate", data := .fields #[.none, .bool false, .ref s.heap.objs.size, rawInt 0, .none, .none] }) (s.heap.objs.size + 1) s.heap.objs.size 0 .none := by
    have := Heap.get?_push_size (s.heap.push { cls := .type "tuple_iterator", data := .fields #[.ref l, .int 0 0] })
      (o := { cls := .type "enumerate", data := .fields #[.none, .bool false, .ref s.heap.objs.size, rawInt 0, .none, .none] }) rfl
    rw [hz] at this; exact this
  refine ⟨⟨_, he, rfl⟩, h _ he ⟨_, Heap.get?_push_of_some _ (Heap.get?_push_size _ rfl), rfl, rfl⟩ (by rw [Heap.size_push, hz]) fun b o x => Heap.get?_push_of_some _ (Heap.get?_push_of_some _ x)⟩
end
end PySem
namespace My
open PySem PySem.Spec PyProof.Rows L2 He
/-- the tuple at a, each item in a new pair -/
def IteT (K : PySem.W.Frag) (a : Addr) : It :=
  ⟨fun i H => ∃ (xs : List V) (x : V), SqT K H a xs ∧ xs[i]? = some x, fun i H v H' => ∃ T x, v = .ref T ∧ H T = none ∧ H' = upd H T (.tup [.int (i : Nat), x]) ∧ ∀ xs, SqT K H a xs → xs[i]? = some x, fun i H => ∃ xs : List V, SqT K H a xs ∧ xs.length = i⟩
theorem turn_enumT {P : Program} {w : World} {K : PySem.W.Frag} {elts : List Expr} {kk : Nat} {tpos : Pos} (a e it : Addr) :
    Turn P w K (.Tuple elts kk tpos) (IteT K a) [e, it] e (fun i h => (∃ old, IsEnum h e it ((i : Nat) : Int) old) ∧ h.IsTupleIter it a i ∧ e ≠ it ∧ a ≠ it ∧ a ≠ e) where
  mem := by simp
  obj := fun i h st b hb => by
    obtain ⟨⟨old, he⟩, ⟨o, ho, hc, hd⟩, _⟩ := st
    have e' : b = e ∨ b = it := by simpa using hb
    rcases e' with z | z
    · rw [z]; exact ⟨_, he, fun v q => nomatch q⟩
    · rw [z]; exact ⟨o, ho, fun v q => by rw [hd] at q; cases q⟩
  keep := fun i h h' st k => let ⟨⟨old, he⟩, hi, hne⟩ := st; ⟨⟨old, k e (by simp) _ he⟩, hi.at fun o q => k it (by simp) o q, hne⟩
  item := by
    intro X hP hw hK hc i pins s σ H E I hf st hg
    subst hP hw hK
    obtain ⟨⟨old, he⟩, hit, hne, hai, hae⟩ := st
    obtain ⟨xs, x, hq, hx⟩ := hg
    obtain ⟨its, rv, p, hz⟩ := I.tuple hq
    obtain ⟨u, hu, ru⟩ := rv.get hx
    have hel : e < s.heap.objs.size := Heap.lt_size he
    have hil : it < s.heap.objs.size := by obtain ⟨_, q, _⟩ := hit; exact Heap.lt_size q
    have hT0 : s.heap.IsTuple a its.toArray := p
    have hd : X.A.in1.handled = none := I.ok.hd hc
    have D := Draws.tuple (prog := X.prog) (w := X.w) (A := X.A.in1) hd it a hai its.toArray
    have hil2 : i < its.length := (List.getElem?_eq_some_iff.mp hu).1
    refine wpAny_pyNext_enum_itemC D he ⟨hit, hT0⟩ (by simpa using hil2) hne (by simp [hne, Ne.symm hae]) fun x' h' tk hP ho hit' hT hsz hk => ?_
    have hP' : its[i]? = some x' := by simpa using hP
    rw [hu] at hP'
    obtain rfl := Option.some.inj hP'
    refine ⟨_, rfl, wpAny_letOwnedTupleGo_enum (s := { s with heap := h', toks := tk + 1 }) ho fun h'' he' sb => ?_⟩
    have hT2 : h''.get? s.heap.objs.size = some { cls := .type "tuple", data := .seq #[.int i tk, u] } := (sb.2 _ (Nat.ne_of_gt hel)).trans hT
    have new : ObjOk X.prog X.w (upd H s.heap.objs.size (.tup [.int (i : Nat), x])) h'' s.heap.objs.size (.tup [.int (i : Nat), x]) :=
      ⟨by show 2 ≤ sizeLine; decide, [.int i tk, u], .cons ⟨_, rfl⟩ (.cons ru .nil), ⟨_, hT2, rfl, _, rfl⟩⟩
    have I1 : Inv X pins σ (upd H s.heap.objs.size (.tup [.int (i : Nat), x])) { s with heap := h'', toks := tk + 1 } :=
      I.turnedNew (ch := [e, it]) (fun b ob hb q => (sb.2 b (fun z => hb (by simp [z]))).trans (hk b ob (fun z => hb (by simp [z])) (fun z => hb (by simp [z])) q)) hf (Nat.le_refl _) new
    refine ⟨.ref s.heap.objs.size, _, I1, rfl, ⟨_, x, rfl, I.hok.fresh (Nat.le_refl _), rfl, fun ys hy => by rw [I.tuple_inj hy hq]; exact hx⟩, ⟨⟨u, ?_⟩, hit'.1.at fun o q => (sb.2 it (Ne.symm hne)).trans q, hne, hai, hae⟩, fun b hb => ?_⟩
    · have e1 : ((i + 1 : Nat) : Int) = (i : Int) + 1 := by omega
      rw [e1]; exact he'
    · have hb' : b < s.heap.objs.size := by
        have e' : b = e ∨ b = it := by simpa using hb
        rcases e' with z | z
        · rw [z]; exact hel
        · rw [z]; exact hil
      rw [upd_ne (Nat.ne_of_lt hb')]
      exact (hf b hb).1
  done := by
    intro X hP hw hK hc i pins s σ H E I hf st hg
    subst hP hw hK
    obtain ⟨⟨old, he⟩, hit, hne, hai, hae⟩ := st
    obtain ⟨xs, hq, hx⟩ := hg
    obtain ⟨its, rv, p, hz⟩ := I.tuple hq
    obtain ⟨f0, f1, f2, f3, f4, f5⟩ := hf it (by simp)
    have hl := rv.length
    have hd : X.A.in1.handled = none := I.ok.hd hc
    have hT0 : s.heap.IsTuple a its.toArray := p
    have D := Draws.tuple (prog := X.prog) (w := X.w) (A := X.A.in1) hd it a hai its.toArray
    have ei : its.toArray.size = i := by simp; omega
    rw [ei] at D
    exact wpAny_pyNext_enum_endD D he ⟨hit, hT0⟩ fun h' eb => ⟨rfl, I.turned (t' := s.toks) (fun b o hb q => eb b o hb q) f0 f1 f3 f4 f5⟩
  self := fun A i s Q E st h => let ⟨⟨_, he⟩, _⟩ := st; wpAny_pyIter_enum he h
/-- the same by any walk over them -/
def iSq (K : PySem.W.Frag) (tl : TE) : TI := fun σ H R => tl σ H fun x H1 => ∃ a xs, x = .ref a ∧ Sq H1 a xs ∧ ∀ (J : It) (G : Hp → Prop), Walk J xs.length G (YAt xs) → (∀ H', H' a = H1 a → G H') → R J H1
def iEnumSq (K : PySem.W.Frag) (ta : TA) : TI := fun σ H R => ta σ H fun vs H1 => ∃ a xs, vs = [.ref a] ∧ Sq H1 a xs ∧ ∀ (J : It) (G : Hp → Prop), Walk J xs.length G (YPair (fun i => some (.int (i : Nat))) (fun i => xs[i]?)) → (∀ H', H' a = H1 a → G H') → R J H1
theorem walk_enumT {K : PySem.W.Frag} {a : Addr} {xs : List V} : Walk (IteT K a) xs.length (fun H => H a = some (.tup xs)) (YPair (fun i => some (.int (i : Nat))) (fun i => xs[i]?)) where
  goes := fun i H hi h => ⟨xs, xs[i], .of h, List.getElem?_eq_getElem hi⟩
  stops := fun H h => ⟨xs, .of h, rfl⟩
  yields := fun i H v H' hi h ⟨T, x, e, n, e2, k⟩ => ⟨T, _, x, e, n, e2, rfl, k xs (.of h)⟩
theorem walk_enumL {K : PySem.W.Frag} {a : Addr} {xs : List V} : Walk (Ite K a) xs.length (fun H => H a = some (.lst xs)) (YPair (fun i => some (.int (i : Nat))) (fun i => xs[i]?)) :=
  walk_enum.mono (fun _ h => .of h) fun _ _ _ _ _ _ y => y
theorem walk_tupH {K : PySem.W.Frag} {a : Addr} {xs : List V} : Walk (Itt K a) xs.length (fun H => H a = some (.tup xs)) (YAt xs) := walk_tup.mono (fun _ h => .of h) fun _ _ _ _ _ _ y => y
theorem walk_lstH {K : PySem.W.Frag} {a : Addr} {xs : List V} : Walk (Itl K a) xs.length (fun H => H a = some (.lst xs)) (YAt xs) := walk_list.mono (fun _ h => .of h) fun _ _ _ _ _ _ y => y
section
variable {X : Cx} {tg : Expr}
theorem pi_sq {l : Expr} {tl : TE} (hl : PE X l tl) : PI X tg l (iSq X.K tl) := by
  refine ⟨fun pins s σ H R I h => ?_⟩
  refine thn (hl.run pins s σ H _ I h) fun v s1 ⟨x, H1, I1, r1, q1⟩ => ?_
  obtain ⟨a, xs, e, hs, q⟩ := q1
  subst e
  cases r1
  rcases hs with hq | hq
  · have q := q (Itl X.K a) _ walk_lstH fun H' e => e.trans hq
    obtain ⟨its, rv, p, hz⟩ := I1.list (SqL.of (K := X.K) hq)
    refine wpAny_pyIter_list p.isList ?_
    refine ⟨s1.heap.objs.size, [s1.heap.objs.size], _, _, H1, rfl, I1.kept (t' := s1.toks) fun b o e => Heap.get?_push_of_some _ e, turn_list a _, ⟨_, Heap.get?_push_size _ rfl, rfl, rfl⟩, fun b hb => ?_, q⟩
    have e : b = s1.heap.objs.size := by simpa using hb
    subst e
    exact I1.fpOk (Nat.le_refl _) (I1.hok.fresh (Nat.le_refl _))
  · have q := q (Itt X.K a) _ walk_tupH fun H' e => e.trans hq
    obtain ⟨its, rv, p, hz⟩ := I1.tuple (SqT.of (K := X.K) hq)
    refine wpAny_pyIter_tuple (show s1.heap.IsTuple a its.toArray from p) ?_
    refine ⟨s1.heap.objs.size, [s1.heap.objs.size], _, _, H1, rfl, I1.kept (t' := s1.toks) fun b o e => Heap.get?_push_of_some _ e, turn_tuple a _, ⟨_, Heap.get?_push_size _ rfl, rfl, rfl⟩, fun b hb => ?_, q⟩
    have e : b = s1.heap.objs.size := by simpa using hb
    subst e
    exact I1.fpOk (Nat.le_refl _) (I1.hok.fresh (Nat.le_refl _))
theorem pi_enumSq {e : Expr} {ta : TA} {p pos tpos : Pos} {elts : List Expr} {kk : Nat} (hg : Gl X "enumerate") (hm : X.mg "enumerate" = none) (ha : PA X [e] ta) (hs : starEach [e] X.env = [(false, eval e X.env)] := by rfl) :
    PI X (.Tuple elts kk tpos) (.Call (.Name "enumerate" p) [e] [] pos) (iEnumSq X.K ta) := by
  refine ⟨fun pins s σ H R I h => ?_⟩
  refine Call_ (ld_blt I hg hm boot_enumerate (PyProof.Rows.callWith_type1 (thn (ha.run pos pins s σ H _ I h) fun us s1 ⟨vs, H1, I1, r1, q1⟩ => ?_) hs rfl))
  obtain ⟨a, xs, ex, hsq, q⟩ := q1
  subst ex
  cases r1 with
  | cons r rr =>
    cases rr
    cases r
    have hfp : ∀ b ∈ [s1.heap.objs.size + 1, s1.heap.objs.size], FpOk X pins H1 b := fun b hb => by
      have e' : b = s1.heap.objs.size + 1 ∨ b = s1.heap.objs.size := by simpa using hb
      have hle : s1.heap.objs.size ≤ b := by
        rcases e' with z | z
        · rw [z]; exact Nat.le_add_right _ _
        · rw [z]; exact Nat.le_refl _
      exact I1.fpOk hle (I1.hok.fresh hle)
    rcases hsq with hq | hq
    · have q := q (Ite X.K a) _ walk_enumL fun H' e => e.trans hq
      obtain ⟨its, rv, p', hz⟩ := I1.list (SqL.of (K := X.K) hq)
      refine call_enumerate_list p'.isList fun h' he hit hsz hk => wpAny_pyIter_enum he ?_
      have I2 : Inv X pins σ H1 { s1 with heap := h' } := I1.kept (t' := s1.toks) hk
      exact ⟨s1.heap.objs.size + 1, [s1.heap.objs.size + 1, s1.heap.objs.size], _, _, H1, rfl, I2, turn_enum a (s1.heap.objs.size + 1) s1.heap.objs.size, ⟨⟨.none, he⟩, hit, Nat.succ_ne_self _⟩, hfp, q⟩
    · have q := q (IteT X.K a) _ walk_enumT fun H' e => e.trans hq
      obtain ⟨its, rv, p', hz⟩ := I1.tuple (SqT.of (K := X.K) hq)
      have hal : a < s1.heap.objs.size := I1.hok.lt hq
      refine my_call_enumerate_tuple (show s1.heap.IsTuple a its.toArray from p') fun h' he hit hsz hk => wpAny_pyIter_enum he ?_
      have I2 : Inv X pins σ H1 { s1 with heap := h' } := I1.kept (t' := s1.toks) hk
      exact ⟨s1.heap.objs.size + 1, [s1.heap.objs.size + 1, s1.heap.objs.size], _, _, H1, rfl, I2, turn_enumT a (s1.heap.objs.size + 1) s1.heap.objs.size, ⟨⟨.none, he⟩, hit, Nat.succ_ne_self _, Nat.ne_of_lt hal, Nat.ne_of_lt (Nat.lt_succ_of_lt hal)⟩, hfp, q⟩
end
theorem Sq.same {H H' : Hp} {a : Addr} {xs : List V} (h : Sq H a xs) (e : Ex H H') : H' a = H a := by
  rcases h with q | q <;> rw [q, e _ _ q]
end My
/-! *** R2 -/
namespace My
open PySem PySem.Spec PyProof.Rows L2 He
/-! ### defs that need to know that no text is being made -/
structure FnG (P : Program) (w : World) (K : PySem.W.Frag) (mg : Str → Option Value) (base : Heap) (CX : CXT) (k : Nat) (f : Addr) (fd : FuncData) (ps : List Str) (sp : Sp) : Prop where
  len : ∀ vs H Q E, sp vs H Q E → vs.length = ps.length
  run : ∀ (A : Around) (outer : List Env) (s : Shared) (H : Hp) (args : Args) (us : List Value) (vs : List V) (Q : VK) (E : XK), Room k A → A.guards = some [] → Env0 P w K mg base A outer s H → BindsTo s fd args (ps.zip us) → Vals vs us → sp vs H Q E →
    codeAny (model P w) A (.call (.ref f) args) (fun r s' => match r with | .ok (.ret u) => CE outer P w H s Q u s' | .error e => CX outer H s E e s' | _ => False) s
theorem fn_ofG {CX : CXT} {P : Program} {w : World} {K : PySem.W.Frag} {mg : Str → Option Value} {base : Heap} {k : Nat} {f : Addr} {name qual : Str} {params : Arguments} {body : List Stmt} {scope : Scope} {dV kV doc pm cdv ct oc : Value} {an od : Option Addr}
    {osl : Array (Option Value)} {N ps : List Str} {sp : Sp} (lk : K.lookup f = some ⟨oc, od, .func (PySem.W.fnOf name qual params body scope dV kV doc pm an cdv ct), osl⟩) (hcd : PySem.W.codeIn K cdv qual = true) (S : FnScope N ps scope)
    (len : ∀ vs H Q E, sp vs H Q E → vs.length = ps.length)
    (hbody : ∀ (A : Around) (outer : List Env) (s : Shared) (H : Hp) (vs : List V) (Q : VK) (E : XK), Room k (A.deeper (envOfC qual scope s.heap.objs.size f cdv)) → A.guards = some [] → sp vs H Q E →
      ∃ t, PSs (cxOf CX P w K mg base N qual scope f cdv A outer s H E) body t ∧ t { nx := fun _ H' => Q .non H', rt := Q } (start N vs) H) :
    FnG P w K mg base CX (k + 1) f (PySem.W.fnOf name qual params body scope dV kV doc pm an cdv ct) ps sp := by
  refine ⟨len, fun A outer s H args us vs Q E hr hgd e0 hb r hsp => ?_⟩
  have hl := len _ _ _ _ hsp
  have KX : K.In s.heap := e0.mod.kin.keeps fun b o e => (e0.bs b o e).1
  have lim : s.heap.NoLimit := e0.mod.nolimit.keeps fun b o e => (e0.bs b o e).1
  have hkind : ∀ y ∈ ps.zip us, scope.names.lookup y.1 = some .local ∨ (scope.names.lookup y.1 = some .cell ∧ ((cellsFrom (s.heap.objs.size + 1) scope.names []).lookup y.1).isSome = true) := fun ⟨n, v⟩ hy => by
    rcases S.par n (List.of_mem_zip hy).1 with q | q
    · exact .inl q
    · exact .inr ⟨q, PySem.W.cellsFrom_some _ _ _ (.inl q)⟩
  refine codeAny_call_function hr.depth (KX _ _ lk) rfl S.co S.gen rfl (PySem.W.codeRec_of KX hcd) (hb _ _ _ _ ?_)
  refine wpAny_newFunctionEnv_cells S.kind hkind fun env he s1 x => ?_
  subst he
  refine ⟨lim.keeps x.toInCall.keep, codeAny_func ?_⟩
  obtain ⟨t, ht, hq⟩ := hbody A outer s H vs Q E (hr.deeper _) hgd hsp
  have I : Inv (cxOf CX P w K mg base N qual scope f cdv A outer s H E) [] (start N vs) H s1 := inv_start S hr.hd e0 hl r x
  refine wpAny_mono (ht.run [] s1 (start N vs) H _ I hq) (fun fl s' hs => ?_) fun e s' hs => hs
  have fin : ∀ {σ' : L2.St} {H' : Hp} {v : V} {u : Value}, Inv (cxOf CX P w K mg base N qual scope f cdv A outer s H E) [] σ' H' s' → RelV v u → Q v H' → CE outer P w H s Q u s' :=
    fun {σ' H' v u} J rv q => ⟨v, H', J.os, J.bare, J.base, J.hok, rv, q⟩
  cases fl with
  | ret u =>
    obtain ⟨v, σ', H', J, rv, q⟩ := hs
    exact fin J rv q
  | next =>
    obtain ⟨σ', H', J, q⟩ := hs
    exact fin (v := V.non) (u := Value.none) J rfl q
  | brk =>
    obtain ⟨_, _, _, q⟩ := hs
    exact False.elim q
  | cont =>
    obtain ⟨_, _, _, q⟩ := hs
    exact False.elim q
section
variable {P : Program} {w : World} {K : PySem.W.Frag} {mg : Str → Option Value} {base : Heap}
theorem okG {x qual : Str} {params : Arguments} {body : List Stmt} {scope : Scope} {dvs : List V} {kws : List (Str × V)} {f : Addr} {fd : FuncData} {CX : CXT} {N ps : List Str} {k : Nat} {sp : Sp} (F : FunD K x qual params body scope dvs kws f fd) (S : FnScope N ps scope) (len : ∀ vs H Q E, sp vs H Q E → vs.length = ps.length)
    (hbody : ∀ (cdv : Value) (A : Around) (outer : List Env) (s : Shared) (H : Hp) (vs : List V) (Q : VK) (E : XK), Room k (A.deeper (envOfC qual scope s.heap.objs.size f cdv)) → A.guards = some [] → sp vs H Q E →
      ∃ t, PSs (cxOf CX P w K mg base N qual scope f cdv A outer s H E) body t ∧ t { nx := fun _ H' => Q .non H', rt := Q } (start N vs) H) : FnG P w K mg base CX (k + 1) f fd ps sp := by
  obtain ⟨oc, od, dV, kV, doc, pm, an, cdv, ct, osl, rfl, lk, hcd, _, _⟩ := F.ex
  exact fn_ofG lk hcd S len fun A outer s H vs Q E hr hg hsp => hbody cdv A outer s H vs Q E hr hg hsp
structure CalG (P : Program) (w : World) (K : PySem.W.Frag) (mg : Str → Option Value) (base : Heap) (k : Nat) (x : Str) (sp : Sp) : Prop where
  ex : ∃ (f : Addr) (fd : FuncData) (ps : List Str), FnG P w K mg base C8.CX0 k f fd ps sp ∧ mg x = some (.ref f) ∧ PySem.W.keepIn K (.ref f) = true ∧ Binds K fd ps []
theorem calG_of {x : Str} {st : Stmt} {f : Addr} {N ps : List Str} {k : Nat} {sp : Sp} (D : DefF K x x st f) (g : mg x = some (.ref f)) (S : FnScope N ps (defScope st))
    (hb : ∀ (kV doc pm : Value) (an : Option Addr) (cdv ct : Value) (us : List Value), us.length = ps.length → bindArgs (PySem.W.fnOf x x (defArgs st) (defBody st) (defScope st) .none kV doc pm an cdv ct) ⟨us, []⟩ = pure (ps.zip us))
    (len : ∀ vs H Q E, sp vs H Q E → vs.length = ps.length)
    (hbody : ∀ (cdv : Value) (A : Around) (outer : List Env) (s : Shared) (H : Hp) (vs : List V) (Q : VK) (E : XK), Room k (A.deeper (envOfC x (defScope st) s.heap.objs.size f cdv)) → (A.deeper (envOfC x (defScope st) s.heap.objs.size f cdv)).guards = some [] → sp vs H Q E →
      ∃ t, PSs (cxOf C8.CX0 P w K mg base N x (defScope st) f cdv A outer s H E).nox (defBody st) t ∧ t { nx := fun _ H' => Q .non H', rt := Q } (start N vs) H) : CalG P w K mg base (k + 1) x sp := by
  obtain ⟨fd, F⟩ := D
  refine ⟨f, fd, ps, okG F S len fun cdv A outer s H vs Q E hr hg h => ?_, g, F.kp, F.bindsN hb⟩
  obtain ⟨t, ht, q⟩ := hbody cdv A outer s H vs Q E hr hg h
  exact ⟨t, PSs.nox ht, q⟩
/-- the own __repr__ of a class -/
structure Rpr (P : Program) (w : World) (K : PySem.W.Frag) (mg : Str → Option Value) (base : Heap) (k : Nat) (C : Addr) (sp : Sp) : Prop where
  ex : ∃ (f : Addr) (fd : FuncData) (ps : List Str), Meth K C "__repr__" f ∧ FnG P w K mg base C8.CX0 k f fd ps sp ∧ Binds K fd ps []
theorem rpr_of {C f : Addr} {qual : Str} {st : Stmt} {N ps : List Str} {k : Nat} {sp : Sp} (me : Meth K C "__repr__" f) (D : DefF K "__repr__" qual st f) (S : FnScope N ps (defScope st))
    (hb : ∀ (kV doc pm : Value) (an : Option Addr) (cdv ct : Value) (us : List Value), us.length = ps.length → bindArgs (PySem.W.fnOf "__repr__" qual (defArgs st) (defBody st) (defScope st) .none kV doc pm an cdv ct) ⟨us, []⟩ = pure (ps.zip us))
    (len : ∀ vs H Q E, sp vs H Q E → vs.length = ps.length)
    (hbody : ∀ (cdv : Value) (A : Around) (outer : List Env) (s : Shared) (H : Hp) (vs : List V) (Q : VK) (E : XK), Room k (A.deeper (envOfC qual (defScope st) s.heap.objs.size f cdv)) → (A.deeper (envOfC qual (defScope st) s.heap.objs.size f cdv)).guards = some [] → sp vs H Q E →
      ∃ t, PSs (cxOf C8.CX0 P w K mg base N qual (defScope st) f cdv A outer s H E).nox (defBody st) t ∧ t { nx := fun _ H' => Q .non H', rt := Q } (start N vs) H) : Rpr P w K mg base (k + 1) C sp := by
  obtain ⟨fd, F⟩ := D
  refine ⟨f, fd, ps, me, okG F S len fun cdv A outer s H vs Q E hr hg h => ?_, F.bindsN hb⟩
  obtain ⟨t, ht, q⟩ := hbody cdv A outer s H vs Q E hr hg h
  exact ⟨t, PSs.nox ht, q⟩
end
section
variable {X : Cx} {CX : CXT} {k j : Nat} {f C : Addr} {fd : FuncData} {ps : List Str} {sp : Sp} {E : XK} {x m : Str} {p pos apos : Pos} {e o : Expr} {es : List Expr} {ta te : TE} {t : TA}
theorem FnG.mono {P : Program} {w : World} {K : PySem.W.Frag} {mg : Str → Option Value} {base : Heap} (F : FnG P w K mg base CX k f fd ps sp) (h : k ≤ j) : FnG P w K mg base CX j f fd ps sp :=
  ⟨F.len, fun A outer s H args us vs Q E hr => F.run A outer s H args us vs Q E (hr.mono h)⟩
theorem run_fnG {pins : List (Addr × Obj)} {σ : L2.St} {H : Hp} {s : Shared} {Q : VK} {us : List Value} {vs : List V} {A : Around} (F : FnG X.prog X.w X.K X.mg X.base CX k f fd ps sp) (hr : Room k A) (hfr : A.frames = X.A.frames) (hgd : A.guards = some []) (hb : Binds X.K fd ps []) (hx : Passes CX X E)
    (I : Inv X pins σ H s) (r : Vals vs us) (h : sp vs H Q E) : wpAny (model X.prog X.w) A (call (.ref f) us) (EP X pins σ Q) X.xe s := by
  have hl : us.length = ps.length := by rw [← r.length]; exact F.len _ _ _ _ h
  have e0 : Env0 X.prog X.w X.K X.mg X.base A X.stack s H := by
    have e := I.env0
    exact ⟨by rw [hfr]; exact e.frames, e.mod, e.bs, e.bsz, e.funs, e.frf, e.hok, e.bare⟩
  refine wpAny_call (codeAny_mono (F.run A X.stack s H ⟨us, []⟩ us vs Q E hr hgd e0 (by
    have := hb s us I.kIn (by simpa using hl)
    simpa using this) r h) fun r s' hq => ?_)
  cases r with
  | error e => exact hx pins σ H s e s' I hq
  | ok fl =>
    cases fl with
    | ret u => exact I.after hq
    | next => exact False.elim hq
    | brk => exact False.elim hq
    | cont => exact False.elim hq
/-- f(..) of such a def -/
theorem pe_cg (c : CalG X.prog X.w X.K X.mg X.base k x sp) (hr : Room j X.A) (hk : k ≤ j) (hgd : X.A.guards = some []) (hg : Gl X x)
    (ha : PA X (e :: es) t) (hdb : (x == ("__debug__" : Str)) = false := by decide) (he : starEach (e :: es) X.env = (false, eval e X.env) :: starEach es X.env := by rfl) (hpl : (backTo pos (starEach es X.env)).any (·.1) = false := by rfl) :
    PE X (.Call (.Name x p) (e :: es) [] pos) (tCall sp [] C8.E0 t) := by
  obtain ⟨f, fd, ps, F, hm, hkp, hb⟩ := c.ex
  refine ⟨fun pins s σ H Q I h => ?_⟩
  refine wpAny_Call_Name_kw (ld_glob I hg hm ?_ hdb)
  refine PySem.W.callWith_K (h₀ := X.base) I.ok.mod.kin hkp (thn (ha.run pos pins s σ H _ I h) fun us s1 ⟨vs, H1, I1, r, q⟩ => ⟨I1.kIn, ?_⟩) he hpl
  have q' : sp (vs ++ []) H1 Q C8.E0 := q
  rw [List.append_nil] at q'
  exact run_fnG F (hr.mono hk) rfl hgd hb C8.pass0 I1 r q'
/-- the own __repr__, from a builtin -/
theorem repr_own (c : Rpr X.prog X.w X.K X.mg X.base k C sp) {A : Around} (hr : Room k A.in1) (hfr : A.frames = X.A.frames) (hgd : A.guards = some []) {pins : List (Addr × Obj)} {σ : L2.St} {H : Hp} {s : Shared} {a dx : Addr} {fs : List (Str × V)} {Q : VK} (I : Inv X pins σ H s)
    (ha : H a = some (.ins C dx fs)) (h : sp [.ref a] H (fun v H' => ∃ t : Str, v = .str t ∧ Q (.str t) H') C8.E0) :
    wpAny (model X.prog X.w) A (call (.builtin "repr") [.ref a]) (EP X pins σ Q) X.xe s := by
  obtain ⟨f, fd, ps, M, G, hb⟩ := c.ex
  obtain ⟨mA, J, _⟩ := ins_get I.hok ha
  obtain ⟨od, J, _⟩ := J.look
  refine Calls.call_function_entry F.kind_repr F.plain_repr F.entry_repr (F.args_repr1 _) ?_
  unfold Builtin.«repr»
  refine wpAny_bind (m := oneArg "repr" _) (wpAny_pure ?_)
  refine wpAny_bind (m := cRoomFor _ _) (wpAny_cRoomFor hr.units0 ?_)
  refine wpAny_bind (wpAny_bind (J.type.here ((PySem.W.looks_findIn I.kIn M.at_).here ?_)))
  show wpAny _ A.in1 (callSpecialIfBound? (Value.ref a) (Str.ofString "__repr__") [] >>= _) _ _ s
  refine wpAny_bind (PySem.W.ifBound_K I.kIn J M.at_ M.fn (wpAny_mono (run_fnG (us := [.ref a]) (vs := [.ref a]) G hr hfr hgd hb C8.pass0 I (.cons rfl .nil) h) (fun r s' hq => ?_) fun _ _ y => y))
  obtain ⟨v, H', I', rv, t, rfl, hq⟩ := hq
  obtain ⟨tk, rfl⟩ := rv
  refine wpAny_bind (wpAny_isInstance (T := "str") (b := true) (typeIs_str _ _ _) isSubtype_str_str ?_)
  exact wpAny_pure ⟨_, rfl, .str t, H', I', ⟨tk, rfl⟩, hq⟩
/-- x!r of an own instance -/
theorem reprObj_own (c : Rpr X.prog X.w X.K X.mg X.base k C sp) {A : Around} (hr : Room k A) (hfr : A.frames = X.A.frames) (hgd : A.guards = some []) {pins : List (Addr × Obj)} {σ : L2.St} {H : Hp} {s : Shared} {a dx : Addr} {fs : List (Str × V)} {Q : VK} (I : Inv X pins σ H s)
    (ha : H a = some (.ins C dx fs)) (h : sp [.ref a] H (fun v H' => ∃ t : Str, v = .str t ∧ Q (.str t) H') C8.E0) :
    wpAny (model X.prog X.w) A (pyReprObj (.ref a)) (fun v s' => ∃ t tk H', v = Value.str t tk ∧ Inv X pins σ H' s' ∧ Q (.str t) H') X.xe s := by
  obtain ⟨f, fd, ps, M, G, hb⟩ := c.ex
  obtain ⟨mA, J, _⟩ := ins_get I.hok ha
  obtain ⟨od, J, _⟩ := J.look
  unfold pyReprObj
  refine wpAny_bind (m := cRoomFor _ _) (wpAny_cRoomFor hr.units0 ?_)
  refine wpAny_bind (wpAny_bind (J.type.here ((PySem.W.looks_findIn I.kIn M.at_).here ?_)))
  show wpAny _ A (callSpecialIfBound? (Value.ref a) (Str.ofString "__repr__") [] >>= _) _ _ s
  refine wpAny_bind (PySem.W.ifBound_K I.kIn J M.at_ M.fn (wpAny_mono (run_fnG (us := [.ref a]) (vs := [.ref a]) G hr hfr hgd hb C8.pass0 I (.cons rfl .nil) h) (fun r s' hq => ?_) fun _ _ y => y))
  obtain ⟨v, H', I', rv, t, rfl, hq⟩ := hq
  obtain ⟨tk, rfl⟩ := rv
  refine wpAny_bind (wpAny_isInstance (T := "str") (b := true) (typeIs_str _ _ _) isSubtype_str_str ?_)
  exact wpAny_pure ⟨t, tk, H', rfl, I', hq⟩
/-- {x!r} of an own instance -/
def tFmtO (K : PySem.W.Frag) (C : Addr) (sp : Sp) (te : TE) : TE := fun σ H Q => te σ H fun x H1 => ∃ a dx fs, x = .ref a ∧ H1 a = some (.ins C dx fs) ∧
  sp [.ref a] H1 (fun v H' => ∃ t : Str, v = .str t ∧ ∃ t' : Str, V.str t = .str t' ∧ t'.length ≤ sizeLine ∧ Q (.str t') H') C8.E0
theorem pe_fmtO (c : Rpr X.prog X.w X.K X.mg X.base k C sp) (hr : Room j X.A) (hk : k ≤ j) (hgd : X.A.guards = some []) (he : PE X e te) : PE X (.FormattedValue e 114 none pos) (tFmtO X.K C sp te) := by
  refine ⟨fun pins s σ H Q I h => ?_⟩
  refine wpAny_FormattedValue_repr (thn (he.run pins s σ H _ I h) fun v s1 ⟨x, H1, I1, r1, q⟩ => ?_)
  obtain ⟨a, dx, fs, rfl, ha, q⟩ := q
  cases r1
  refine wpAny_mono (reprObj_own (Q := fun v H' => ∃ t' : Str, v = .str t' ∧ t'.length ≤ sizeLine ∧ Q (.str t') H') c (hr.mono hk) rfl hgd I1 ha q) (fun v s' hq => ?_) fun _ _ y => y
  obtain ⟨t, tk, H', rfl, I', t', et, hz, hq⟩ := hq
  injection et with et
  subst et
  exact wpAny_formatField_str ⟨.str t, H', I', ⟨tk, rfl⟩, hq⟩ ⟨.str t, H', I'.tok _, ⟨_, rfl⟩, hq⟩ hz
/-- repr(x) of an own instance -/
def rReprO (C : Addr) (sp : Sp) : List V → Hp → VK → Prop := fun xs H Q => ∃ a dx fs, xs = [.ref a] ∧ H a = some (.ins C dx fs) ∧ sp [.ref a] H (fun v H' => ∃ t : Str, v = .str t ∧ Q (.str t) H') C8.E0
theorem call_reprO (c : Rpr X.prog X.w X.K X.mg X.base k C sp) (hr : Room j X.A) (hk : k + 1 ≤ j) (hgd : X.A.guards = some []) : CallR X (.builtin "repr") (rReprO C sp) := by
  intro pins s σ H xs us Q I r h
  obtain ⟨a, dx, fs, rfl, ha, q⟩ := h
  rw [Vals.ref1 r]
  exact repr_own c (hr.mono hk).in1 rfl hgd I ha q
/-! ### plain data as text -/
/-- data that can be shown -/
structure Shn (d : PyData) : Prop where
  sh : d.showable = true
  nd : d.hasDict = false
  sz : d.shown.length ≤ 1000000
  dp : d.depth ≤ 10
def rReprD (K : PySem.W.Frag) : List V → Hp → VK → Prop := fun xs H Q => ∃ a d, xs = [.ref a] ∧ Dp K H (.ref a) d ∧ Shn d ∧ Q (.str d.shown) H
theorem call_reprD (hr : Room j X.A) (hgd : X.A.guards = some []) : CallR X (.builtin "repr") (rReprD X.K) := by
  intro pins s σ H xs us Q I r h
  obtain ⟨a, d, rfl, hd, ok, q⟩ := h
  rw [Vals.ref1 r]
  obtain ⟨as, rd⟩ := Dp.reads I d (.ref a) (.ref a) hd rfl
  have hu := hr.units
  have hdp := ok.dp
  exact repr_of_reads' rd ok.sh (PyData.noDict_hsm ok.nd) hgd (by omega) (fun _ _ e => e) (fun h' u tk hk => ⟨.str d.shown, H, I.kept hk, ⟨_, rfl⟩, q⟩) (Nat.le_trans ok.sz (by decide))
/-- {x} of such data -/
def tFmtD (K : PySem.W.Frag) (te : TE) : TE := fun σ H Q => te σ H fun x H1 => ∃ a d, x = .ref a ∧ Dp K H1 (.ref a) d ∧ Shn d ∧ Q (.str d.shown) H1
theorem pe_fmtD (hr : Room j X.A) (hgd : X.A.guards = some []) (he : PE X e te) : PE X (.FormattedValue e (-1) none pos) (tFmtD X.K te) := by
  refine ⟨fun pins s σ H Q I h => ?_⟩
  refine wpAny_FormattedValue_plain (thn (he.run pins s σ H _ I h) fun v s1 ⟨x, H1, I1, r1, q⟩ => ?_)
  obtain ⟨a, d, rfl, hd, ok, q⟩ := q
  cases r1
  obtain ⟨as, rd⟩ := Dp.reads I1 d (.ref a) (.ref a) hd rfl
  have hu := hr.units
  have hdp := ok.dp
  exact formatField_of_reads rd ok.sh (PyData.noDict_hsm ok.nd) hgd (by omega) (fun _ _ e => e) (fun h' u tk hk => ⟨.str d.shown, H1, I1.kept hk, ⟨_, rfl⟩, q⟩) (Nat.le_trans ok.sz (by decide))
/-! ### own == -/
structure Eqi (P : Program) (w : World) (K : PySem.W.Frag) (mg : Str → Option Value) (base : Heap) (k : Nat) (C : Addr) (R : Addr → Addr → Hp → Prop) : Prop where
  ex : ∃ (f : Addr) (fd : FuncData) (ps : List Str), Meth K C "__eq__" f ∧ FnOk P w K mg base C8.CX0 k f fd ps (spEq R) ∧ Binds K fd ps []
theorem op_eqI {R : Addr → Addr → Hp → Prop} (c : Eqi X.prog X.w X.K X.mg X.base k C R) (hr : Room j X.A) (hk : k ≤ j) : OpR X (compareOp .Eq) (rEqG (DIns C R)) := by
  obtain ⟨f, fd, ps, M, F, hb⟩ := c.ex
  exact op_eqG (rcG_ins (E := C8.E0) F M.at_ M.fn hb C8.pass0) (hr.mono hk)
end
section
variable {P : Program} {w : World} {K : PySem.W.Frag} {mg : Str → Option Value} {base : Heap}
theorem eqi_of {C f : Addr} {qual : Str} {st : Stmt} {N ps : List Str} {k : Nat} {R : Addr → Addr → Hp → Prop} (me : Meth K C "__eq__" f) (D : DefF K "__eq__" qual st f) (S : FnScope N ps (defScope st))
    (hb : ∀ (kV doc pm : Value) (an : Option Addr) (cdv ct : Value) (us : List Value), us.length = ps.length → bindArgs (PySem.W.fnOf "__eq__" qual (defArgs st) (defBody st) (defScope st) .none kV doc pm an cdv ct) ⟨us, []⟩ = pure (ps.zip us))
    (h2 : ps.length = 2)
    (hbody : ∀ (cdv : Value) (A : Around) (outer : List Env) (s : Shared) (H : Hp) (vs : List V) (Q : VK) (E : XK), Room k (A.deeper (envOfC qual (defScope st) s.heap.objs.size f cdv)) → spEq R vs H Q E →
      ∃ t, PSs (cxOf C8.CX0 P w K mg base N qual (defScope st) f cdv A outer s H E).nox (defBody st) t ∧ t { nx := fun _ H' => Q .non H', rt := Q } (start N vs) H) : Eqi P w K mg base (k + 1) C R := by
  obtain ⟨fd, F⟩ := D
  refine ⟨f, fd, ps, me, F.ok S (fun vs H Q E h => by obtain ⟨_, _, rfl, _⟩ := h; rw [h2]; rfl) fun cdv A outer s H vs Q E hr h => ?_, F.bindsN hb⟩
  obtain ⟨t, ht, q⟩ := hbody cdv A outer s H vs Q E hr h
  exact ⟨t, PSs.nox ht, q⟩
end
end My
/-! *** R3a -/
/-! sets of a list of ints, sorted -/
namespace L2
open PySem PySem.Spec PyProof.Rows
open AutoSeq1 (wpAny_loadPart')
open MeetsSeq MeetsSeq2 MeetsSeq3 SeqRoads2
section
variable {P : Program} {w : World} {A : Around} {E : Value → Shared → Prop} {s : Shared}
/-- a set that is just made -/
abbrev freshS (w : World) : Obj := { cls := .type "set", dict := none, data := .set #[] 0 (.fresh 0 0 (!w.params.followText "set-order")) }
/-- what is known behind it: the ints of ns are in the set at S, all else is as it was -/
def Filled (w : World) (s : Shared) (S : Addr) (ns : List Int) (s' : Shared) : Prop :=
  ∃ (h' : Heap) (tk c : Nat), s' = { s with heap := h', toks := tk } ∧ SetR w h' S (fun j => decide (j ∈ ns)) c ∧ c ≤ ns.length ∧ ∀ b o, b ≠ S → s.heap.get? b = some o → h'.get? b = some o
theorem fill_list {l S : Addr} {items : Array Value} {ns : List Int} (hh : A.handled = none) (hS : s.heap.get? S = some (freshS w)) (hl : s.heap.IsList l items) (hi : IntsAre items.toList ns) (hb : ns.length + 1 < scanBound) (x : String) :
    wpAny (model P w) A (Builtin.Frozenset.updateFrom x S (.ref l)) (fun _ s' => Filled w s S ns s') E s := by
  obtain ⟨lo, hlo, hlc, ln, hld⟩ := id hl
  have n1 : S ≠ l := fun z => by
    rw [← z, hS] at hlo
    rw [← Option.some.inj hlo] at hlc
    exact absurd (Value.type.inj hlc) (by decide)
  have sz : items.size = ns.length := by rw [← hi.length, Array.length_toList]
  have lS := Heap.lt_size hS
  have lL := Heap.lt_size hlo
  have ty : s.TypeIs (.ref l) "list" := ⟨lo, hlo, hlc⟩
  have it : ∀ (i : Nat) (v : Value), items[i]? = some v → ∃ k t, ns[i]? = some k ∧ v = .int k t := fun i v e => by
    have e2 : items.toList[i]? = some v := by rw [Array.getElem?_toList]; exact e
    have hn : i < ns.length := by rw [← sz]; exact (Array.getElem?_eq_some_iff.mp e).1
    obtain ⟨t, q⟩ := hi.get i _ (List.getElem?_eq_getElem hn)
    rw [e2] at q
    exact ⟨_, t, List.getElem?_eq_getElem hn, Option.some.inj q⟩
  have k1 := PySem.F.sub_list_set
  have k2 := PySem.F.sub_list_frozenset
  have k3 : (Value.type "list" == Value.type "dict") = false := by decide
  unfold Builtin.Frozenset.updateFrom
  generalize hp : pyIter = pp
  wp_walk
  subst hp
  -- the list's iterator stands at the heap's end
  have old : ∀ {b : Addr} {o : Obj}, s.heap.get? b = some o → b ≠ s.heap.objs.size := fun e => Nat.ne_of_lt (Heap.lt_size e)
  refine wpAny_pyIter_list hl (wpAny_bind (wpAny_runValue ?_))
  refine set_update_ints (Walks.list (A := A.in1) (by simpa using hh) s.heap.objs.size l (old hlo) items).toS S (by simp [n1, Nat.ne_of_lt lS]) ns sz hb it items.size 0 _ (by omega) (Nat.zero_le _) ⟨⟨_, Heap.get?_push_size _ rfl, rfl, rfl⟩, hl.push _⟩
    ⟨0, Nat.le_refl 0, setR_new_at (Heap.get?_push_of_some _ hS)⟩ fun t c mv hc hR => ?_
  obtain ⟨th, tg, td, tk, to⟩ := t
  obtain rfl : tg = s.gens := mv.gens
  obtain rfl : td = s.drawn := mv.drawn
  obtain rfl : to = s.os := mv.os
  exact wpAny_pure ⟨th, tk, c, rfl, hR, by omega, fun b o n e => mv.heap b o (by simp [n, old e]) (Heap.get?_push_of_some _ e)⟩
theorem set_call {a : Value} {Q : Value → Shared → Prop}
    (h : wpAny (model P w) A.in1.in1 (Builtin.«set.__init__» ⟨[.ref s.heap.objs.size, a], []⟩) (fun fin s' => fin = .done (.ret .none) ∧ Q (.ref s.heap.objs.size) s') E { s with heap := s.heap.push (freshS w) }) :
    wpAny (model P w) A (call (.type "set") [a]) Q E s := by
  obtain ⟨c, tl, mr⟩ := PySem.F.called_set.mro
  obtain ⟨q1, q2, q3, q4⟩ := And.intro PySem.F.called_set.made (And.intro PySem.F.called_set.sub (And.intro PySem.F.called_set.notType PySem.F.called_set.canCreate))
  have q5 := PySem.F.typeCall_set_1 a
  refine wpAny_call (codeAny_of_tree (wpAny_pure ⟨Code.quiet_builtin _ (by decide +kernel), codeAny_builtin PySem.F.entry_type_call ?_⟩))
  rw [Around.under_plain (weight_type_call_type "set" [a] []) rfl]
  repeat (any_goals (first | assumption | wp_step))
  refine codeAny_mono (code_set_led1 a (E := E) (Q₁ := fun x t => x = .ref s.heap.objs.size ∧ t = { s with heap := s.heap.push (freshS w) }) ⟨rfl, rfl⟩) fun r t q => ?_
  match r, q with
  | .error _, q => exact q
  | .ok .next, q => exact q.elim
  | .ok .brk, q => exact q.elim
  | .ok .cont, q => exact q.elim
  | .ok (.ret _), q =>
    obtain ⟨e1, e2⟩ := q
    subst e1 e2
    have ty : Shared.TypeIs { s with heap := s.heap.push (freshS w) } (.ref s.heap.objs.size) "set" := ⟨_, Heap.get?_push_size _ rfl, rfl⟩
    have q6 := PySem.F.called_set.init.lookup
    have q7 := PySem.F.called_set.init.bind (.ref s.heap.objs.size)
    repeat (any_goals (first | assumption | wp_step))
    refine codeAny_mono (codeAny_call_builtin (R := wants (fun v t => v = .none ∧ Q (.ref s.heap.objs.size) t) E) PySem.F.called_set.init.plain PySem.F.entry_set_init (check_set_init_1 ty (wpAny_mono h (fun f t z => ?_) fun _ _ z => z))) fun r t q => ?_
    · obtain ⟨rfl, z⟩ := z
      exact ⟨rfl, z⟩
    · match r, q with
      | .error _, q => exact q
      | .ok .next, q => exact q.elim
      | .ok .brk, q => exact q.elim
      | .ok .cont, q => exact q.elim
      | .ok (.ret _), q =>
        obtain ⟨e1, z⟩ := q
        subst e1
        repeat (any_goals (first | assumption | wp_step))
theorem my_set_list {l : Addr} {items : Array Value} (ns : List Int) {Q : Value → Shared → Prop} (hh : A.handled = none) (hl : s.heap.IsList l items) (hit : IntsAre items.toList ns) (hb : ns.length + 1 < scanBound)
    (h : ∀ (h' : Heap) (tk c : Nat), SetR w h' s.heap.objs.size (fun j => decide (j ∈ ns)) c → c ≤ ns.length → (∀ b o, s.heap.get? b = some o → h'.get? b = some o) → Q (.ref s.heap.objs.size) { s with heap := h', toks := tk }) : wpAny (model P w) A (call (.type "set") [.ref l]) Q E s := by
  refine set_call ?_
  have fil := fill_list (P := P) (E := E) (A := A.in1.in1) (s := { s with heap := s.heap.push (freshS w) }) (by simpa using hh) (Heap.get?_push_size _ rfl) (hl.push (freshS w)) hit hb "set.__init__"
  have ty : Shared.TypeIs { s with heap := s.heap.push (freshS w) } (.ref s.heap.objs.size) "set" := ⟨_, Heap.get?_push_size _ rfl, rfl⟩
  have ob : (s.heap.push (freshS w)).get? s.heap.objs.size = some (freshS w) := Heap.get?_push_size _ rfl
  unfold Builtin.«set.__init__» noKeywords
  generalize hU : Builtin.Frozenset.updateFrom = U at fil ⊢
  wp_walk
  refine wpAny_mono fil (fun _ t z => ?_) fun _ _ z => z
  obtain ⟨h', tk, c, rfl, r, n, k⟩ := z
  exact wpAny_pure ⟨rfl, h h' tk c r n fun b o q => k b o (Nat.ne_of_lt (Heap.lt_size q)) (Heap.get?_push_of_some _ q)⟩
theorem my_sorted_set {S : Int → Bool} {n : Nat} {Q : Value → Shared → Prop} (R : SetR w s.heap a S n) (hh : A.handled = none)
    (hQ : ∀ s' p (out : Array Value) (c : Nat) (ns : List Int), (∀ b o, s.heap.get? b = some o → s'.heap.get? b = some o) → s'.gens = s.gens → s'.os = s.os → s.heap.objs.size ≤ p →
      s'.heap.get? p = some (seqObj "list" out c) → IntsAre out.toList ns → ns.Pairwise (· < ·) → (∀ k, k ∈ ns ↔ S k = true) → ns.length = n → Q (.ref p) s') :
    wpAny (model P w) A (call (.builtin "sorted") [.ref a]) Q E s := by
  obtain ⟨o, es, ep, t, ho, hex, hd, g, nd, hm, hb, hf, hn, hr, hl⟩ := R
  refine Calls.call_function_entry kind_sorted plain_sorted entry_sorted (args_sorted1 _) ?_
  unfold Builtin.«sorted»
  refine wpAny_bind (m := checkCount "sorted" 1 1 _) (wpAny_pure ?_)
  refine wpAny_bind (collect_set (A := A.in1) hh ⟨o, ho, hex.1, hd⟩ hf hb hr hl fun s1 vs k1 hz g1 o1 pm => ?_)
  have hvl : vs.length = n := by rw [pm.length_eq, List.length_map, Array.length_toList]; exact hn
  have hn2 : n ≤ 4096 := by have : scanBound = 4096 := rfl; omega
  have hI : IntsAre vs (vs.map Builtin.Re.reRawOf) := ints_of vs fun v hv => by
    obtain ⟨e, he, q⟩ := List.mem_map.mp (pm.mem_iff.mp hv)
    obtain ⟨k, tk, h1, _⟩ := g e he
    exact ⟨k, tk, by rw [← q]; exact h1⟩
  have pk : (vs.map Builtin.Re.reRawOf).Perm (es.toList.map L2.keyOf) := by
    have q := pm.map Builtin.Re.reRawOf
    rw [List.map_map] at q
    exact q
  have hvz : vs.length ≤ sizeLine := by rw [hvl, sizeLine_eq]; omega
  refine wpAny_bind (wpAny_newList ?_ hvz)
  have hoL : (s1.heap.push (seqObj "list" vs.toArray 0)).get? s1.heap.objs.size = some (seqObj "list" vs.toArray 0) := Heap.get?_push_size _ rfl
  refine wpAny_bind (wpAny_holding (wpAny_call_entry slot_list_sort ⟨_, hoL, rfl⟩ entry_list_sort (SrtO.list_sort_ord SrtO.swo_int hoL hvz (fun h2 => SrtO.ints_sortable hI h2) fun out a1 a2 => ⟨_, rfl, ?_⟩) (args_list_sort _)))
  obtain ⟨b1, b2, b3⟩ := SrtO.ints_out hI a1 a2
  obtain ⟨c, hc⟩ := sortedHeap_at (vs := vs) (out := out.toArray) hoL
  have pn : (out.map SrtO.iv).Perm (es.toList.map L2.keyOf) := b2.trans pk
  refine wpAny_pure ⟨_, rfl, hQ _ s1.heap.objs.size out.toArray c (out.map SrtO.iv) (fun b u e => ?_) g1 o1 hz hc (by simpa using b1) (lt_of_le_nodup _ b3 (pn.nodup_iff.mpr nd)) (fun k => by rw [pn.mem_iff, ← hm k]) ?_⟩
  · have q := k1 b u e
    have hlt := Heap.lt_size q
    show (sortedHeap (s1.heap.push (seqObj "list" vs.toArray 0)) s1.heap.objs.size vs out.toArray).get? b = some u
    rw [sortedHeap_old (Nat.ne_of_lt hlt) (by rw [size_push']; exact Nat.lt_succ_of_lt hlt)]
    exact Heap.get?_push_of_some _ q
  · rw [pn.length_eq, List.length_map, Array.length_toList]; exact hn
end
end L2
/-! *** R3 -/
namespace My
open PySem PySem.Spec PyProof.Rows L2 He
/-- len(set(l)), sorted(set(l)) -/
def tLenSetD (K : PySem.W.Frag) (ta : TE) : TE := fun σ H Q => ta σ H fun x H1 => ∃ (l : Addr) (ns d : List Int), x = .ref l ∧ SqL K H1 l (ns.map V.int) ∧ ns.length ≤ 1000 ∧ d.Nodup ∧ (∀ k, k ∈ d ↔ k ∈ ns) ∧ Q (.int (d.length : Nat)) H1
def tSortSet (K : PySem.W.Frag) (ta : TE) : TE := fun σ H Q => ta σ H fun x H1 => ∃ (l : Addr) (ns d : List Int), x = .ref l ∧ SqL K H1 l (ns.map V.int) ∧ ns.length ≤ 1000 ∧ d.Pairwise (· < ·) ∧ (∀ k, k ∈ d ↔ k ∈ ns) ∧
  ∀ p, H1 p = none → Q (.ref p) (upd H1 p (.lst (d.map V.int)))
theorem perm_of {a b : List Int} (ha : a.Nodup) (hb : b.Nodup) (h : ∀ k, k ∈ a ↔ k ∈ b) : a.Perm b := (List.perm_ext_iff_of_nodup ha hb).mpr h
theorem sorted_only {a b : List Int} (ha : a.Pairwise (· < ·)) (hb : b.Pairwise (· < ·)) (h : ∀ k, k ∈ a ↔ k ∈ b) : a = b := by
  have na : a.Nodup := ha.imp fun x => Int.ne_of_lt x
  have nb : b.Nodup := hb.imp fun x => Int.ne_of_lt x
  exact (perm_of na nb h).eq_of_pairwise (le := (· < ·)) (fun x y _ _ h1 h2 => absurd h1 (Int.not_lt.mpr (Int.le_of_lt h2))) ha hb
section
variable {X : Cx} {a : Expr} {ta : TE} {p p2 q pos : Pos}
theorem pe_lenSetD (hg : Gl X "len") (hm : X.mg "len" = none) (hg2 : Gl X "set") (hm2 : X.mg "set" = none) (ha : PE X a ta) (hc : X.calm = true := by rfl)
    (na : starEach [a] X.env = (false, eval a X.env) :: starEach [] X.env := by rfl) : PE X (.Call (.Name "len" p) [.Call (.Name "set" p2) [a] [] q] [] pos) (tLenSetD X.K ta) := by
  refine ⟨fun pins s σ H Q I h => ?_⟩
  refine Call_ (ld_blt I hg hm boot_len ?_)
  refine PyProof.Rows.callWith_builtin1 (PyProof.Rows.args_cons ?_ rfl) rfl rfl
  refine Call_ (ld_blt I hg2 hm2 PyProof.Rows.boot_set ?_)
  refine PyProof.Rows.callWith_type1 (PyProof.Rows.args_cons (thn (ha.run pins s σ H _ I h) fun v s1 ⟨x, H1, I1, r1, q1⟩ => PyProof.Rows.args_nil ?_) na) na rfl
  obtain ⟨l, ns, d, rfl, hq, hl, hd, hmem, q1⟩ := q1
  cases r1
  obtain ⟨its, r, pl, hz⟩ := I1.list hq
  refine my_set_list ns (I1.ok.hd hc) pl.isList (by simpa using ints_of_vals r) (by unfold scanBound; omega) fun h' tk c R hcn hk => ?_
  refine PyProof.Rows.args_nil ?_
  obtain ⟨o, es, ep, t, ho, hex, hdt, g, nd, hm2, hb, hf, hn, hr, hl2⟩ := R
  have hlen : es.size = d.length := by
    have pp : (es.toList.map L2.keyOf).Perm d := perm_of nd hd fun k => by rw [← hm2 k, decide_eq_true_eq, hmem]
    have := pp.length_eq
    rw [List.length_map, Array.length_toList] at this
    exact this
  have I2 : Inv X pins σ H1 { s1 with heap := h', toks := tk } := I1.kept fun b o e => hk b o e
  have hs : scanBound = 4096 := rfl
  exact call_len_set ho hex hdt hf (by omega) ⟨.int d.length, H1, I2.tok _, ⟨_, by rw [hlen]⟩, q1⟩
theorem pe_sortSet (hg : Gl X "sorted") (hm : X.mg "sorted" = none) (hg2 : Gl X "set") (hm2 : X.mg "set" = none) (ha : PE X a ta) (hc : X.calm = true := by rfl)
    (na : starEach [a] X.env = (false, eval a X.env) :: starEach [] X.env := by rfl) : PE X (.Call (.Name "sorted" p) [.Call (.Name "set" p2) [a] [] q] [] pos) (tSortSet X.K ta) := by
  refine ⟨fun pins s σ H Q I h => ?_⟩
  refine Call_ (ld_blt I hg hm (u := .builtin "sorted") (by decide +kernel) ?_)
  refine PyProof.Rows.callWith_builtin1 (PyProof.Rows.args_cons ?_ rfl) rfl rfl
  refine Call_ (ld_blt I hg2 hm2 PyProof.Rows.boot_set ?_)
  refine PyProof.Rows.callWith_type1 (PyProof.Rows.args_cons (thn (ha.run pins s σ H _ I h) fun v s1 ⟨x, H1, I1, r1, q1⟩ => PyProof.Rows.args_nil ?_) na) na rfl
  obtain ⟨l, ns, d, rfl, hq, hl, hd, hmem, q1⟩ := q1
  cases r1
  obtain ⟨its, r, pl, hz⟩ := I1.list hq
  refine my_set_list ns (I1.ok.hd hc) pl.isList (by simpa using ints_of_vals r) (by unfold scanBound; omega) fun h' tk c R hcn hk => ?_
  refine PyProof.Rows.args_nil ?_
  have I2 : Inv X pins σ H1 { s1 with heap := h', toks := tk } := I1.kept fun b o e => hk b o e
  generalize hs2 : ({ s1 with heap := h', toks := tk } : Shared) = s2 at I2
  have R2 : SetR X.w s2.heap s1.heap.objs.size (fun j => decide (j ∈ ns)) c := by rw [← hs2]; exact R
  refine my_sorted_set (s := s2) R2 (I1.ok.hd hc) fun s' p out c2 ns2 k g o hp hg hi hs hm hl => ?_
  have e2 : ns2 = d := sorted_only hs hd fun j => by rw [hm j, decide_eq_true_eq, hmem]
  subst e2
  have hn : H1 p = none := I2.hok.fresh hp
  have hlen : (ns2.map V.int).length ≤ sizeLine := by rw [List.length_map, hl, sizeLine_eq]; omega
  have J : Inv X pins σ (upd H1 p (.lst (ns2.map V.int))) { s2 with heap := s'.heap, gens := s'.gens, drawn := s'.drawn, toks := s'.toks } :=
    I2.call (ch := []) (Un.laid k hp hn) (I2.hok.laid k hp ⟨hlen, out.toList, c2, vals_of_ints hi, hg⟩) (by rw [g]; exact I2.bare) (fun _ z => nomatch z)
  have e : s' = { s2 with heap := s'.heap, gens := s'.gens, drawn := s'.drawn, toks := s'.toks } := by
    cases s'
    cases s2
    cases o
    rfl
  rw [e]
  exact ⟨.ref p, _, J, rfl, q1 p hn⟩
end
end My
/-! *** W3 -/
namespace My
open PySem PySem.Spec PyProof.Rows L2 He
local macro_rules | `(tactic| walk_at "go") => `(tactic| repeat (first | refine And.intro rfl ?_ | refine iteT ?_ | refine iteF ?_ | refine iteNS (by assumption) ?_ | apply Exists.intro | refine And.intro (by assumption) ?_))
section
variable {P : Program} {w : World} {K : PySem.W.Frag} {mg : Str → Option Value} {base : Heap}
theorem pow_le_256 {n k : Nat} (h : n < 2 ^ k) (hk : k ≤ 256) : n < 2 ^ 256 := Nat.lt_of_lt_of_le h (Nat.pow_le_pow_right (by decide) hk)
/-! summed(columns, word) -/
abbrev spSummed : Sp := spF2 fun a b H Q => ∃ (p : Addr) (cols : List Nat) (v : Nat), a = .ref p ∧ b = vN v ∧ H p = some (.lst (vL cols)) ∧ cols.length ≤ 250 ∧ v < 2 ^ cols.length ∧ ∀ H', Ex H H' → Q (vN (cmb cols v)) H'
theorem sc_summed : FnScope ["columns", "word", "found", "k"] ["columns", "word"] (defScope s_summed) := C8.fnScope_by (by decide +kernel)
theorem c_summed (T : Tx K mg) : C8.Cal P w K mg base 3 "summed" spSummed [] := by
  refine cal_of T.d_summed T.g_summed sc_summed (by intro _ _ _ _ _ _ us hl; match us, hl with | [_, _], _ => rfl) (fun _ _ _ _ h => len2 h) (fun cdv A outer s H vs Q E hr h => ?_)
  obtain ⟨_, _, rfl, p, cols, v, rfl, rfl, hp, hl, hv, h⟩ := h
  refine ⟨_, (pss_cons (ps_set (i := 2) sc_summed.nd rfl (Or.inl rfl) pe_int) (pss_cons (ps_for PassesOwn.never rfl (pi_list (C8.pe_c (c_bits_of T) hr (by decide) (by rfl) (pa_cons (pv 1) pa_nil))) (pg_name (i := 3) sc_summed.nd rfl (Or.inl rfl)) (pss_one (ps_set (i := 2) sc_summed.nd rfl (Or.inl rfl) (pe_op op_xor (pv 2) (pe_ix ix_list (pv 0) (pv 3) (fun _ _ => rfl)))))) (pss_one (ps_ret (pv 2))))), ?_⟩
  refine ⟨_, rfl, _, rfl, v, rfl, pow_le_256 hv (by omega), fun b H1 hb e1 hB => ?_⟩
  refine ⟨b, rfl, ⟨_, .of hB⟩, ?_⟩
  refine for_list (K := K) (a := b) (xs := vL (bitsOf v)) (fun i σ H' => H' = H1 ∧ ∃ x, σ = [some (.ref p), some (vN v), some (vN (((bitsOf v).take i).foldl (sumAt cols) 0)), x]) ⟨rfl, _, rfl⟩ (fun i σ H' _ ⟨e, _⟩ => e ▸ .of hB) ?_ ?_
  · rintro i x σ _ hx ⟨rfl, y, rfl⟩
    obtain ⟨m, hm, rfl⟩ := vL_at hx
    have ht : ((bitsOf v).take (i + 1)).foldl (sumAt cols) 0 = sumAt cols (((bitsOf v).take i).foldl (sumAt cols) 0) m := by
      rw [List.take_add_one, hm, List.foldl_append]; rfl
    rw [ht]
    generalize ((bitsOf v).take i).foldl (sumAt cols) 0 = f
    have hb : v.testBit m = true := mem_bitsOf.mp (List.mem_of_getElem? hm)
    have hml : m < cols.length := by
      rcases Nat.lt_or_ge m cols.length with q | q
      · exact q
      · rw [Nat.testBit_lt_two_pow (Nat.lt_of_lt_of_le hv (Nat.pow_le_pow_right (by decide) q))] at hb
        cases hb
    have hc : (vL cols)[m]? = some (vN cols[m]) := by rw [List.getElem?_map, List.getElem?_eq_getElem hml]; rfl
    refine ⟨_, rfl, _, rfl, _, rfl, p, vL cols, _, _, rfl, rfl, .of (e1 _ _ hp), atI_nat hc, _, _, rfl, rfl, rfl, some (vN m), ?_⟩
    have e : sumAt cols f m = f ^^^ cols[m] := by unfold sumAt; rw [List.getD_eq_getElem?_getD, List.getElem?_eq_getElem hml]; rfl
    rw [e]
    show [some (V.ref p), some (vN v), some (V.int (Builtin.bitXor (f : Int) (cols[m] : Int))), some (vN m)] = _
    rw [xor_N]
  · rintro σ H' ⟨rfl, x, rfl⟩
    refine ⟨_, rfl, ?_⟩
    have hf : (bitsOf v).take (vL (bitsOf v)).length = bitsOf v := by rw [List.length_map, List.take_length]
    rw [hf]
    have e : (bitsOf v).foldl (sumAt cols) 0 = cmb cols v := summed_eq cols v
    rw [e]
    exact h _ e1
/-! selecting_rows(columns) -/
theorem one_shl (k : Nat) : (1 : Int) * (2 : Int) ^ ((k : Int).toNat) = ((1 <<< k : Nat) : Int) := by
  rw [Int.one_mul, Nat.one_shiftLeft]; simp
theorem grow_N {c n k : Nat} : Builtin.bitOr ((c : Int) * 2 ^ ((n : Int).toNat)) ((1 : Int) * 2 ^ ((k : Int).toNat)) = ((grow n (c, k) : Nat) : Int) := by
  rw [shl_N, one_shl, or_N]; rfl
abbrev spRows : Sp := spF1 fun a H Q => ∃ (p : Addr) (cols : List Nat), a = .ref p ∧ H p = some (.lst (vL cols)) ∧ cols.length ≤ 250 ∧ (∀ c ∈ cols, c < 2 ^ 60) ∧
  ∀ q H' R, IsBas (grows cols) R → H q = none → Ex H H' → H' q = some (.lst (vL R)) → Q (.ref q) H'
theorem sc_selecting_rows : FnScope ["columns", "many", "k", "column"] ["columns"] (defScope s_selecting_rows) := C8.fnScope_by (by decide +kernel)
theorem c_selecting_rows (T : Tx K mg) : C8.Cal P w K mg base 3 "selecting_rows" spRows [] := by
  refine cal_of T.d_selecting_rows T.g_selecting_rows sc_selecting_rows (by intro _ _ _ _ _ _ us hl; match us, hl with | [_], _ => rfl) (fun _ _ _ _ h => len1 h) (fun cdv A outer s H vs Q E hr h => ?_)
  obtain ⟨_, rfl, p, cols, rfl, hp, hl, hc, h⟩ := h
  refine ⟨_, (pss_cons (ps_set (i := 1) sc_selecting_rows.nd rfl (Or.inr rfl) (pe_callB (id := "len") call_len (by rfl) T.b_len (by decide +kernel) (pa_cons (pv 0) pa_nil))) (pss_one (ps_ret (C8.pe_c (c_reduced T) hr (by decide) (by rfl) (pa_cons (pe_lc (own := [("k", 2), ("column", 3)]) (g := gTup K 2 (gCons (gName 2) (gCons (gName 3) gNil))) rfl sc_selecting_rows.nd (pi_enum (by rfl) T.b_enumerate (pa_cons (pv 0) pa_nil)) (blkOk_by (own := [("k", 2), ("column", 3)]) (N := ["columns", "many", "k", "column"]) (sc := defScope s_selecting_rows) (by decide +kernel)) (fun _ _ _ _ _ => (pg_tup rfl (pgs_cons (pg_name (i := 2) sc_selecting_rows.nd rfl (Or.inl rfl)) (pgs_cons (pg_name (i := 3) sc_selecting_rows.nd rfl (Or.inl rfl)) pgs_nil)))) (fun _ _ _ _ _ => pts_nil) (fun _ _ _ _ _ => (pe_op op_or (pe_op op_shl (pv 3) (pv 1)) (pe_op op_shl pe_int (pv 2))))) pa_nil))))), ?_⟩
  refine ⟨_, rfl, _, _, rfl, .inl ⟨_, .of hp, rfl⟩, ?_⟩
  have hlen : (vL cols).length = cols.length := List.length_map _
  rw [hlen]
  refine ⟨_, rfl, p, vL cols, rfl, .of hp, fun D hD => ?_⟩
  refine lc_it (walk_enum (K := K) (a := p) (xs := vL cols)) (fun i H' => Ex H H' ∧ H' D = some (.lst (vL ((cols.zipIdx.take i).map (grow cols.length))))) ⟨Ex.new hD, upd_same⟩ (fun i H' _ ⟨e, _⟩ => .of (e _ _ hp)) ?_ ?_
  · rintro i x H2 _ hi ⟨e, hD2⟩ ⟨t, a, b, rfl, ht, rfl, ha, hb⟩
    obtain ⟨c, hc1, rfl⟩ := vL_at hb
    obtain rfl := Option.some.inj ha
    have hcl : c < 2 ^ 64 := Nat.lt_trans (hc c (List.mem_of_getElem? hc1)) (by decide)
    have hil : i < 250 := by rw [hlen] at hi; omega
    have ntD : D ≠ t := fun z => by rw [z, ht] at hD2; cases hD2
    refine ⟨t, _, rfl, .of upd_same, rfl, _, _, rfl, _, _, rfl, rfl, rfl, _, rfl, _, rfl, _, _, rfl, rfl, cpowN hcl (by omega), _, rfl, _, _, rfl, rfl, cpow (by omega), _, _, rfl, rfl, _, (by rw [upd_ne ntD]; exact hD2), ?_, ?_⟩
    · rw [List.length_map, List.length_map, List.length_take]
      exact Nat.lt_of_le_of_lt (by omega : _ ≤ 1000) (by decide)
    · refine ⟨(e.mut (e.free ht)).mut hD, ?_⟩
      rw [upd_same]
      have hz : cols.zipIdx[i]? = some (c, i) := by rw [List.getElem?_zipIdx, hc1]; simp
      rw [List.take_add_one, hz, List.map_append, vL_app]
      show some (HO.lst (_ ++ [V.int (Builtin.bitOr ((c : Int) * 2 ^ (((cols.length : Nat) : Int).toNat)) ((1 : Int) * 2 ^ ((i : Int).toNat)))])) = _
      rw [grow_N]; rfl
  · rintro H2 ⟨e, hD2⟩
    have hf : cols.zipIdx.take (vL cols).length = cols.zipIdx := List.take_of_length_le (by rw [hlen]; simp)
    rw [hf] at hD2
    replace hD2 : H2 D = some (.lst (vL (grows cols))) := hD2
    refine ⟨_, rfl, D, grows cols, rfl, hD2, by rw [grows_len]; omega, fun q H3 B hB hq e3 hqB => ?_⟩
    exact h q H3 B hB (e.free hq) (e.trans e3) hqB
/-! kernel_words(columns) -/
abbrev spKern : Sp := spF1 fun a H Q => ∃ (p : Addr) (cols : List Nat), a = .ref p ∧ H p = some (.lst (vL cols)) ∧ cols.length ≤ 250 ∧ (∀ c ∈ cols, c < 2 ^ 60) ∧
  ∀ q H' R, IsBas (grows cols) R → H q = none → Ex H H' → H' q = some (.lst (vL (kwords cols.length R))) → Q (.ref q) H'
theorem sc_kernel_words : FnScope ["columns", "row"] ["columns"] (defScope s_kernel_words) := C8.fnScope_by (by decide +kernel)
theorem c_kernel_words (T : Tx K mg) : C8.Cal P w K mg base 4 "kernel_words" spKern [] := by
  refine cal_of T.d_kernel_words T.g_kernel_words sc_kernel_words (by intro _ _ _ _ _ _ us hl; match us, hl with | [_], _ => rfl) (fun _ _ _ _ h => len1 h) (fun cdv A outer s H vs Q E hr h => ?_)
  obtain ⟨_, rfl, p, cols, rfl, hp, hl, hc, h⟩ := h
  refine ⟨_, (pss_one (ps_ret (pe_lc (own := [("row", 1)]) (g := gName 1) rfl sc_kernel_words.nd (pi_list (C8.pe_c (c_selecting_rows T) hr (by decide) (by rfl) (pa_cons (pv 0) pa_nil))) (blkOk_by (own := [("row", 1)]) (N := ["columns", "row"]) (sc := defScope s_kernel_words) (by decide +kernel)) (fun _ _ _ _ _ => (pg_name (i := 1) sc_kernel_words.nd rfl (Or.inl rfl))) (fun _ _ _ _ _ => (pts_one (pt_cmpR op_eq (pe_op op_shr (pv 1) (pe_callB (id := "len") (call_lenK K) (by rfl) T.b_len (by decide +kernel) (pa_cons (pv 0) pa_nil))) pe_int (nomark _)))) (fun _ _ _ _ _ => (pv 1))))), ?_⟩
  refine ⟨_, rfl, _, rfl, p, cols, rfl, hp, hl, hc, fun q H1 R hR hq e1 hqR => ?_⟩
  refine ⟨q, rfl, ⟨_, .of hqR⟩, fun D hD => ?_⟩
  have hRl : R.length ≤ 2000 := by
    have h2 := hR.len (k := 60 + cols.length) (fun x hx => by
      obtain ⟨⟨c, i⟩, hci, rfl⟩ := List.mem_map.mp hx
      have hg := List.mem_zipIdx' hci
      have h1 : c < 2 ^ 60 := hc c (hg.2 ▸ List.getElem_mem _)
      unfold grow
      apply Nat.or_lt_two_pow
      · show c <<< cols.length < _
        rw [Nat.shiftLeft_eq, Nat.pow_add]
        exact Nat.mul_lt_mul_of_lt_of_le h1 (Nat.le_refl _) (Nat.two_pow_pos _)
      · show 1 <<< i < _
        rw [Nat.one_shiftLeft]
        exact Nat.pow_lt_pow_right (by decide) (by have := hg.1; omega))
    omega
  have hlen : (vL cols).length = cols.length := List.length_map _
  refine lc_list (K := K) (a := q) (xs := vL R) (fun i H' => Ex H1 H' ∧ H' D = some (.lst (vL (kwords cols.length (R.take i))))) ⟨Ex.new hD, upd_same⟩ (fun i H' _ ⟨e, _⟩ => .of (e _ _ hqR)) ?_ ?_
  · rintro i x H2 hx ⟨e2, hD2⟩
    obtain ⟨m, hm, rfl⟩ := vL_at hx
    refine ⟨rfl, _, rfl, _, rfl, _, _, rfl, .inl ⟨_, .of (e2 _ _ (e1 _ _ hp)), rfl⟩, _, _, rfl, rfl, (by omega), rfl, _, rfl, ?_⟩
    have hs : kwords cols.length (R.take (i + 1)) = kwords cols.length (R.take i) ++ (if m >>> cols.length = 0 then [m] else []) := by
      unfold kwords
      rw [List.take_add_one, hm, List.filter_append]
      simp only [Option.toList, List.filter_cons, List.filter_nil]
      by_cases q : m >>> cols.length = 0 <;> simp [q]
    rw [hs]
    have he : V.int ((m : Int) / 2 ^ ((((vL cols).length : Nat) : Int).toNat)) = vN (m >>> cols.length) := by rw [hlen, shr_N]
    by_cases q : m >>> cols.length = 0
    · refine iteY (he.trans (by rw [q]; rfl)) ?_
      rw [if_pos q, vL_app]
      refine ⟨_, rfl, _, hD2, ?_, e2.mut hD, upd_same⟩
      have h1 := List.length_filter_le (fun r => r >>> cols.length == 0) (R.take i)
      rw [List.length_map]
      rw [List.length_take] at h1
      exact Nat.lt_of_le_of_lt (by unfold kwords; omega : _ ≤ 2000) (by decide)
    · refine iteN (fun z => q ?_) ?_
      · have z2 := he.symm.trans z
        injection z2 with z2; omega
      · rw [if_neg q, List.append_nil]
        exact ⟨e2, hD2⟩
  · rintro H2 ⟨e2, hD2⟩
    have hf : R.take (vL R).length = R := by rw [List.length_map, List.take_length]
    rw [hf] at hD2
    exact h D H2 R hR (e1.free hD) (e1.trans e2) hD2
/-! selected_by, selected: a word is found -/
abbrev spSelBy : Sp := spF3 fun a b c H Q => ∃ (p : Addr) (R : List Nat) (n v : Nat), a = .ref p ∧ b = vN n ∧ c = vN v ∧ H p = some (.lst (vL R)) ∧ n ≤ 1000 ∧ v < 2 ^ 64 ∧ leastSum (v <<< n) R < 2 ^ n ∧ Q (vN (leastSum (v <<< n) R)) H
theorem sc_selected_by : FnScope ["rows", "many", "result", "rest"] ["rows", "many", "result"] (defScope s_selected_by) := C8.fnScope_by (by decide +kernel)
theorem c_selected_by (T : Tx K mg) : C8.Cal P w K mg base 2 "selected_by" spSelBy [] := by
  refine cal_of T.d_selected_by T.g_selected_by sc_selected_by (by intro _ _ _ _ _ _ us hl; match us, hl with | [_, _, _], _ => rfl) (fun _ _ _ _ h => len3 h) (fun cdv A outer s H vs Q E hr h => ?_)
  obtain ⟨_, _, _, rfl, p, R, n, v, rfl, rfl, rfl, hp, hn, hv, hs, h⟩ := h
  refine ⟨_, (pss_cons (ps_set (i := 3) sc_selected_by.nd rfl (Or.inl rfl) (C8.pe_c (c_least_sum T) hr (by decide) (by rfl) (pa_cons (pe_op op_shl (pv 2) (pv 1)) (pa_cons (pv 0) pa_nil)))) (pss_one (ps_ret (pe_ifExp (pt_cmpR op_eq (pe_op op_shr (pv 3) (pv 1)) pe_int (nomark _)) (pv 3) pe_non)))), ?_⟩
  refine ⟨_, rfl, _, rfl, _, _, rfl, rfl, cpowN hv hn, ?_⟩
  refine ⟨_, rfl, _, _, rfl, v <<< n, p, R, congrArg V.int (shl_N v n), rfl, hp, ?_⟩
  refine ⟨_, rfl, _, rfl, _, _, rfl, rfl, (by omega), rfl, _, rfl, ?_⟩
  refine iteY ?_ ⟨_, rfl, h⟩
  show V.int ((leastSum (v <<< n) R : Int) / 2 ^ ((n : Int).toNat)) = V.int 0
  rw [shr_N, shr_zero.mpr hs]; rfl
abbrev spSel : Sp := spF2 fun a b H Q => ∃ (p : Addr) (cols : List Nat) (q v : Nat), a = .ref p ∧ b = vN v ∧ H p = some (.lst (vL cols)) ∧ cols.length ≤ 250 ∧ (∀ c ∈ cols, c < 2 ^ 60) ∧ q < 2 ^ cols.length ∧ cmb cols q = v ∧
  ∀ H' R, IsBas (grows cols) R → Ex H H' → Q (vN (leastSum (v <<< cols.length) R)) H'
theorem sc_selected : FnScope ["columns", "result"] ["columns", "result"] (defScope s_selected) := C8.fnScope_by (by decide +kernel)
theorem c_selected (T : Tx K mg) : C8.Cal P w K mg base 4 "selected" spSel [] := by
  refine cal_of T.d_selected T.g_selected sc_selected (by intro _ _ _ _ _ _ us hl; match us, hl with | [_, _], _ => rfl) (fun _ _ _ _ h => len2 h) (fun cdv A outer s H vs Q E hr h => ?_)
  obtain ⟨_, _, rfl, p, cols, q, v, rfl, rfl, hp, hl, hc, hq, hv, h⟩ := h
  refine ⟨_, (pss_one (ps_ret (C8.pe_c (c_selected_by T) hr (by decide) (by rfl) (pa_cons (C8.pe_c (c_selecting_rows T) hr (by decide) (by rfl) (pa_cons (pv 0) pa_nil)) (pa_cons (pe_callB (id := "len") call_len (by rfl) T.b_len (by decide +kernel) (pa_cons (pv 0) pa_nil)) (pa_cons (pv 1) pa_nil)))))), ?_⟩
  refine ⟨_, rfl, _, rfl, p, cols, rfl, hp, hl, hc, fun r H1 R hR hr1 e1 hrR => ?_⟩
  have hlen : (vL cols).length = cols.length := List.length_map _
  have hv64 : v < 2 ^ 64 := hv ▸ Nat.lt_trans (cmb_lt cols q hc) (by decide)
  refine ⟨_, rfl, _, _, rfl, .inl ⟨_, .of (e1 _ _ hp), rfl⟩, _, rfl, _, _, _, rfl, r, R, cols.length, v, rfl, (by rw [hlen]), rfl, hrR, (by omega), hv64, (selected_ok hR hq hv).1, ?_⟩
  exact h H1 R hR e1
end
end My
/-! *** W4 -/
namespace My
open PySem PySem.Spec PyProof.Rows L2 He
local macro_rules | `(tactic| walk_at "lk0") => `(tactic| (repeat (first | exact lk1 | exact lk0 | refine (lk2 (by decide +kernel)).trans ?_)))
local macro_rules | `(tactic| walk_at "go") => `(tactic| repeat (first | refine And.intro fsM_cols ?_ | refine And.intro fsM_bits ?_ | refine And.intro fsM_off ?_ | refine And.intro rfl ?_ | refine iteT ?_ | refine iteF ?_ | refine iteNS (by assumption) ?_ | apply Exists.intro | refine And.intro (by assumption) ?_))
section
variable {P : Program} {w : World} {K : PySem.W.Frag} {mg : Str → Option Value} {base : Heap}
/-- the making with defaults -/
theorem mak_ofD {x : Str} {C f : Addr} {qual : Str} {st : Stmt} {fd : FuncData} {dvs : List V} {ps : List Str} {k : Nat} {sp : Sp} (M : Mk K C f) (g : mg x = some (.ref C)) (F : FunD K "__init__" qual (defArgs st) (defBody st) (defScope st) dvs [] f fd)
    (G : FnOk P w K mg base C8.CX0 k f fd ps sp) (n j : Nat) (hd : dvs ≠ []) (hn : n + (dvs.length - j) = ps.length)
    (h : ∀ (T : Addr) (kV doc pm : Value) (an : Option Addr) (cdv ct : Value) (us its : List Value), us.length = n → its.length = dvs.length →
      ∃ k, bindArgs (PySem.W.fnOf "__init__" qual (defArgs st) (defBody st) (defScope st) (.ref T) kV doc pm an cdv ct) ⟨us, []⟩ = seqItems? (.ref T) >>= k ∧ k (some its.toArray) = pure (ps.zip (us ++ its.drop j))) : C8.Mak P w K mg base k x C sp (dvs.drop j) := by
  obtain ⟨ds, r, b⟩ := F.binds1 n j hd hn h
  exact ⟨f, fd, ps, ds, M, G, g, b, r⟩
/-! want_map, want_same, want_columns, want_positions -/
abbrev spWantMap (K : PySem.W.Frag) : Sp := spF1 fun a H Q => ∃ (m dx : Addr) (fs : List (Str × V)), a = .ref m ∧ H m = some (.ins (CM K) dx fs) ∧ Q .non H
theorem sc_want_map : FnScope ["value"] ["value"] (defScope s_want_map) := C8.fnScope_by (by decide +kernel)
theorem c_want_map (T : Tx K mg) : C8.Cal P w K mg base 1 "want_map" (spWantMap K) [] := by
  refine cal_of T.d_want_map T.g_want_map sc_want_map (by intro _ _ _ _ _ _ us hl; match us, hl with | [_], _ => rfl) (fun _ _ _ _ h => len1 h) (fun cdv A outer s H vs Q E hr h => ?_)
  obtain ⟨_, rfl, m, dx, fs, rfl, hm, h⟩ := h
  refine ⟨_, (pss_one (ps_if (pt_not (pt_val (pe_callB (id := "isinstance") (C8.call_isC T.i_Map) (by rfl) T.b_isinstance (by decide +kernel) (pa_cons (pv 0) (pa_cons (C8.pe_gc (by rfl) T.k_Map) pa_nil))))) (pss_one ps_never) pss_nil)), ?_⟩
  exact ⟨_, rfl, m, dx, fs, rfl, hm, true, rfl, h⟩
abbrev spWantSame : Sp := spF2 fun a b H Q => ∃ i : Int, a = .int i ∧ b = .int i ∧ Q .non H
theorem sc_want_same : FnScope ["bits", "expected"] ["bits", "expected"] (defScope s_want_same) := C8.fnScope_by (by decide +kernel)
theorem c_want_same (T : Tx K mg) : C8.Cal P w K mg base 1 "want_same" spWantSame [] := by
  refine cal_of T.d_want_same T.g_want_same sc_want_same (by intro _ _ _ _ _ _ us hl; match us, hl with | [_, _], _ => rfl) (fun _ _ _ _ h => len2 h) (fun cdv A outer s H vs Q E hr h => ?_)
  obtain ⟨_, _, rfl, i, rfl, rfl, h⟩ := h
  refine ⟨_, (pss_one (ps_if (pt_cmpR op_ne (pv 0) (pv 1) (nomark _)) (pss_one ps_never) pss_nil)), ?_⟩
  refine ⟨_, rfl, _, rfl, rfl, _, rfl, ?_⟩
  exact iteNS rfl h
abbrev spWantCols : Sp := spF2 fun a b H Q => ∃ (p : Addr) (B : List Nat) (n : Nat), a = .ref p ∧ b = vN n ∧ H p = some (.lst (vL B)) ∧ B.length ≤ 80 ∧ n ≤ 1000 ∧ (∀ x ∈ B, x < 2 ^ n) ∧ ∀ H', Ex H H' → Q .non H'
theorem sc_want_columns : FnScope ["columns", "bits", "position", "column"] ["columns", "bits"] (defScope s_want_columns) := C8.fnScope_by (by decide +kernel)
theorem c_want_columns (T : Tx K mg) : C8.Cal P w K mg base 3 "want_columns" spWantCols [] := by
  refine cal_of T.d_want_columns T.g_want_columns sc_want_columns (by intro _ _ _ _ _ _ us hl; match us, hl with | [_, _], _ => rfl) (fun _ _ _ _ h => len2 h) (fun cdv A outer s H vs Q E hr h => ?_)
  obtain ⟨_, _, rfl, p, B, n, rfl, rfl, hp, hl, hn, hB, h⟩ := h
  refine ⟨_, (pss_cons (ps_if (PW.pt (pw_or (pt_not (pt_val (C8.pe_c (c_is_list T) hr (by decide) (by rfl) (pa_cons (pv 0) pa_nil)))) (pw_or1 (pt_cmpR op_gt (pe_callB (id := "len") call_len (by rfl) T.b_len (by decide +kernel) (pa_cons (pv 0) pa_nil)) (C8.pe_gc (by rfl) T.c_MOST_BITS) (nomark _))))) (pss_one ps_never) pss_nil) (pss_one (ps_for PassesOwn.never rfl (pi_enum (by rfl) T.b_enumerate (pa_cons (pv 0) pa_nil)) (pg_tup rfl (pgs_cons (pg_name (i := 2) sc_want_columns.nd rfl (Or.inl rfl)) (pgs_cons (pg_name (i := 3) sc_want_columns.nd rfl (Or.inl rfl)) pgs_nil))) (pss_one (ps_if (pt_not (pt_val (C8.pe_c (c_fits T) hr (by decide) (by rfl) (pa_cons (pv 3) (pa_cons (pv 1) pa_nil))))) (pss_one ps_never) pss_nil))))), ?_⟩
  refine ⟨_, rfl, _, rfl, _, _, rfl, .inl hp, fun H1 e1 => ⟨_, rfl, ?_⟩⟩
  refine ⟨_, rfl, _, _, rfl, .inl ⟨_, .of (e1 _ _ hp), rfl⟩, _, _, rfl, rfl, _, rfl, ?_⟩
  have hlen : (vL B).length = B.length := List.length_map _
  refine iteN (by rw [hlen]; omega) ?_
  refine ⟨_, rfl, p, vL B, rfl, .of (e1 _ _ hp), ?_⟩
  refine for_it (walk_enum (K := K) (a := p) (xs := vL B)) (fun i σ H' => ∃ x y, σ = [some (.ref p), some (vN n), x, y] ∧ Ex H H') ⟨_, _, rfl, e1⟩ (fun i σ H' _ ⟨_, _, _, e⟩ => .of (e _ _ hp)) ?_ ?_
  · rintro i x σ H2 H3 hi ⟨u, v, rfl, e⟩ ⟨t, a, b, rfl, ht, rfl, ha, hb⟩
    obtain ⟨m, hm, rfl⟩ := vL_at hb
    obtain rfl := Option.some.inj ha
    have hm2 : m < 2 ^ n := hB m (List.mem_of_getElem? hm)
    refine ⟨t, _, rfl, .of upd_same, rfl, _, _, rfl, _, _, rfl, rfl, ?_⟩
    walk_at "go"
    exact e.mut (e.free ht)
  · rintro σ H2 ⟨_, _, rfl, e⟩
    exact h _ e
abbrev spWantPos : Sp := spF2 fun a b H Q => ∃ (p : Addr) (B : List Nat) (n : Nat), a = .ref p ∧ b = vN n ∧ H p = some (.lst (vL B)) ∧ B.length ≤ 80 ∧ (∀ x ∈ B, x < n) ∧ ∀ H', Ex H H' → Q .non H'
theorem sc_want_positions : FnScope ["positions", "bits", "position", "k"] ["positions", "bits"] (defScope s_want_positions) := C8.fnScope_by (by decide +kernel)
theorem c_want_positions (T : Tx K mg) : C8.Cal P w K mg base 2 "want_positions" spWantPos [] := by
  refine cal_of T.d_want_positions T.g_want_positions sc_want_positions (by intro _ _ _ _ _ _ us hl; match us, hl with | [_, _], _ => rfl) (fun _ _ _ _ h => len2 h) (fun cdv A outer s H vs Q E hr h => ?_)
  obtain ⟨_, _, rfl, p, B, n, rfl, rfl, hp, hl, hB, h⟩ := h
  refine ⟨_, (pss_cons (ps_if (PW.pt (pw_or (pt_not (pt_val (C8.pe_c (c_is_list T) hr (by decide) (by rfl) (pa_cons (pv 0) pa_nil)))) (pw_or1 (pt_cmpR op_gt (pe_callB (id := "len") call_len (by rfl) T.b_len (by decide +kernel) (pa_cons (pv 0) pa_nil)) (C8.pe_gc (by rfl) T.c_MOST_BITS) (nomark _))))) (pss_one ps_never) pss_nil) (pss_one (ps_for PassesOwn.never rfl (pi_enum (by rfl) T.b_enumerate (pa_cons (pv 0) pa_nil)) (pg_tup rfl (pgs_cons (pg_name (i := 2) sc_want_positions.nd rfl (Or.inl rfl)) (pgs_cons (pg_name (i := 3) sc_want_positions.nd rfl (Or.inl rfl)) pgs_nil))) (pss_one (ps_if (PW.pt (pw_or (pt_not (pt_val (C8.pe_c (c_is_integer T) hr (by decide) (by rfl) (pa_cons (pv 3) pa_nil)))) (pw_or1 (pt_not (pt_chain op_le op_lt pe_int (pv 3) (pv 1)))))) (pss_one ps_never) pss_nil))))), ?_⟩
  refine ⟨_, rfl, _, rfl, _, _, rfl, .inl hp, fun H1 e1 => ⟨_, rfl, ?_⟩⟩
  refine ⟨_, rfl, _, _, rfl, .inl ⟨_, .of (e1 _ _ hp), rfl⟩, _, _, rfl, rfl, _, rfl, ?_⟩
  have hlen : (vL B).length = B.length := List.length_map _
  refine iteN (by rw [hlen]; omega) ?_
  refine ⟨_, rfl, p, vL B, rfl, .of (e1 _ _ hp), ?_⟩
  refine for_it (walk_enum (K := K) (a := p) (xs := vL B)) (fun i σ H' => ∃ x y, σ = [some (.ref p), some (vN n), x, y] ∧ Ex H H') ⟨_, _, rfl, e1⟩ (fun i σ H' _ ⟨_, _, _, e⟩ => .of (e _ _ hp)) ?_ ?_
  · rintro i x σ H2 H3 hi ⟨u, v, rfl, e⟩ ⟨t, a, b, rfl, ht, rfl, ha, hb⟩
    obtain ⟨m, hm, rfl⟩ := vL_at hb
    obtain rfl := Option.some.inj ha
    have hm2 : (m : Int) < (n : Int) := by have := hB m (List.mem_of_getElem? hm); omega
    refine ⟨t, _, rfl, .of upd_same, rfl, _, _, rfl, _, _, rfl, rfl, ?_⟩
    walk_at "go"
    exact e.mut (e.free ht)
  · rintro σ H2 ⟨_, _, rfl, e⟩
    exact h _ e
/-! Map(columns, bits, offset) -/
abbrev spMapInit (K : PySem.W.Frag) : Sp := spF4 fun a b c d H Q => ∃ (x dx p : Addr) (cols : List Nat) (k off : Nat), a = .ref x ∧ b = .ref p ∧ c = vN k ∧ d = vN off ∧ H x = some (.ins (CM K) dx []) ∧ H p = some (.lst (vL cols)) ∧ MapOk cols k off ∧
  ∀ H' l, ExB x H H' → H' x = some (.ins (CM K) dx (fsM l k off)) → H' l = some (.lst (vL cols)) → Q .non H'
theorem sc_Map_init : FnScope ["self", "columns", "bits", "offset"] ["self", "columns", "bits", "offset"] (defScope s_Map_init) := C8.fnScope_by (by decide +kernel)
theorem fn_Map (T : Tx K mg) : ∃ fd, FunD K "__init__" "Map.__init__" (defArgs s_Map_init) (defBody s_Map_init) (defScope s_Map_init) [.int 0] [] (ma K (ga K "Map") "__init__") fd ∧ FnOk P w K mg base C8.CX0 4 (ma K (ga K "Map") "__init__") fd ["self", "columns", "bits", "offset"] (spMapInit K) := by
  obtain ⟨fd, F⟩ := T.d_Map_init
  refine ⟨fd, F, F.ok sc_Map_init (fun _ _ _ _ h => len4 h) fun cdv A outer s H vs Q E hr h => ?_⟩
  obtain ⟨_, _, _, _, rfl, x, dx, p, cols, k, off, rfl, rfl, rfl, rfl, hx, hp, ok, h⟩ := h
  refine ⟨_, PSs.nox (pss_cons (ps_expr (C8.pe_c (c_want_bits T) hr (by decide) (by rfl) (pa_cons (pv 2) pa_nil))) (pss_cons (ps_expr (C8.pe_c (c_want_columns T) hr (by decide) (by rfl) (pa_cons (pv 1) (pa_cons (pv 2) pa_nil)))) (pss_cons (ps_expr (C8.pe_c (c_want_word T) hr (by decide) (by rfl) (pa_cons (pv 3) (pa_cons (pv 2) pa_nil)))) (pss_cons (ps_fld (pv 0) (pe_callTy (T := "list") call_list_of (by rfl) T.b_list (by decide +kernel) (pa_cons (pv 1) pa_nil)) rfl) (pss_cons (ps_fld (pv 0) (pv 2) rfl) (pss_one (ps_fld (pv 0) (pv 3) rfl))))))), ?_⟩
  have npx : p ≠ x := ne_of hp hx (by intro z; cases z)
  have hk := ok.k8
  have hn := ok.n8
  refine ⟨_, rfl, _, rfl, k, rfl, (by omega), ?_⟩
  refine ⟨_, rfl, _, rfl, _, _, rfl, p, cols, k, rfl, rfl, hp, (by omega), (by omega), ok.cl, fun H1 e1 => ?_⟩
  refine ⟨_, rfl, _, rfl, _, _, rfl, off, k, rfl, rfl, (by omega), ok.ol, ?_⟩
  refine ⟨_, rfl, p, _, rfl, .inl (.of (e1 _ _ hp)), fun l hl => ?_⟩
  have e2 : Ex H1 (upd H1 l (.lst (vL cols))) := Ex.new hl
  have hlB : upd H1 l (.lst (vL cols)) l = some (.lst (vL cols)) := upd_same
  generalize upd H1 l (.lst (vL cols)) = H2 at e2 hlB ⊢
  have nlx : l ≠ x := fun z => by rw [z, e1 _ _ hx] at hl; cases hl
  refine ⟨_, rfl, x, CM K, dx, [], rfl, e2 _ _ (e1 _ _ hx), T.i_Map.cl, T.n_Map_own_columns, (by decide), ?_⟩
  refine ⟨_, rfl, _, rfl, x, CM K, dx, _, rfl, upd_same, T.i_Map.cl, T.n_Map_own_bits, (by show 1 < 1000; decide), ?_⟩
  refine ⟨_, rfl, _, rfl, x, CM K, dx, _, rfl, upd_same, T.i_Map.cl, T.n_Map_own_offset, (by show 2 < 1000; decide), ?_⟩
  refine h _ l (fun b o nb hb => ?_) (by rw [upd_same, fsM_put]) (by rw [upd_ne nlx, upd_ne nlx, upd_ne nlx]; exact hlB)
  rw [upd_ne nb, upd_ne nb, upd_ne nb]
  exact e2 _ _ (e1 _ _ hb)
theorem c_Map (T : Tx K mg) : C8.Mak P w K mg base 4 "Map" (CM K) (spMapInit K) [] := by
  obtain ⟨fd, F, G⟩ := fn_Map (P := P) (w := w) (base := base) T
  exact mak_ofD T.m_Map T.g_Map F G 4 1 (by simp) rfl fun _ _ _ _ _ _ _ us its hu hi => match us, its, hu, hi with | [_, _, _, _], [_], _, _ => ⟨_, rfl, rfl⟩
theorem c_Map2 (T : Tx K mg) : C8.Mak P w K mg base 4 "Map" (CM K) (spMapInit K) [.int 0] := by
  obtain ⟨fd, F, G⟩ := fn_Map (P := P) (w := w) (base := base) T
  exact mak_ofD T.m_Map T.g_Map F G 3 0 (by simp) rfl fun _ _ _ _ _ _ _ us its hu hi => match us, its, hu, hi with | [_, _, _], [_], _, _ => ⟨_, rfl, rfl⟩
theorem mk_map {H : Hp} {p : Addr} {cols : List Nat} {k off : Nat} {Q : VK} {E : XK} (hp : H p = some (.lst (vL cols))) (ok : MapOk cols k off)
    {x dx : Addr} (nx : H x = none) (nd : H dx = none) (h : ∀ H', Ex H H' → MapAt K H' x cols k off → Q .non H') :
    spMapInit K [.ref x, .ref p, vN k, vN off] (upd (upd H dx (.own x)) x (.ins (CM K) dx [])) Q E := by
  refine ⟨_, _, _, _, rfl, x, dx, p, cols, k, off, rfl, rfl, rfl, rfl, upd_same, ?_, ok, fun H' l e hx hl => ?_⟩
  · rw [upd_ne (ne_of_none hp nx), upd_ne (ne_of_none hp nd)]; exact hp
  · exact h H' (ExB.made nx nd e) ⟨ok, dx, l, hx, hl⟩
/-! properties: bits_in, bits, is_injective -/
abbrev spBitsIn (K : PySem.W.Frag) : Sp := spF1 fun a H Q => ∃ (m : Addr) (cols : List Nat) (k off : Nat), a = .ref m ∧ MapAt K H m cols k off ∧ Q (vN cols.length) H
theorem sc_Map_bits_in : FnScope ["self"] ["self"] (defScope s_Map_bits_in) := C8.fnScope_by (by decide +kernel)
theorem p_Map_bits_in (T : Tx K mg) : Prp P w K mg base 1 (CM K) "bits_in" (spBitsIn K) := by
  obtain ⟨p, g, hp, D⟩ := T.q_Map_bits_in
  refine prp_of T.i_Map.cl hp D sc_Map_bits_in (by intro _ _ _ _ _ _ us hl; match us, hl with | [_], _ => rfl) (fun _ _ _ _ h => len1 h) (fun cdv A outer s H vs Q E hr h => ?_)
  obtain ⟨_, rfl, m, cols, k, off, rfl, ⟨ok, dx, l, hm, hl⟩, h⟩ := h
  refine ⟨_, (pss_one (ps_ret (pe_callB (id := "len") call_len (by rfl) T.b_len (by decide +kernel) (pa_cons (pe_fld (pv 0) rfl) pa_nil)))), ?_⟩
  refine ⟨_, rfl, m, CM K, dx, _, _, rfl, hm, T.i_Map.cl, T.n_Map_own_columns, fsM_cols, _, _, rfl, .inl ⟨_, .of hl, rfl⟩, ?_⟩
  rw [List.length_map]; exact h
abbrev spMBits (K : PySem.W.Frag) : Sp := spF1 fun a H Q => ∃ (m : Addr) (cols : List Nat) (k off : Nat), a = .ref m ∧ MapAt K H m cols k off ∧ Q (vN k) H
theorem sc_Map_bits : FnScope ["self"] ["self"] (defScope s_Map_bits) := C8.fnScope_by (by decide +kernel)
theorem p_Map_bits (T : Tx K mg) : Prp P w K mg base 1 (CM K) "bits" (spMBits K) := by
  obtain ⟨p, g, hp, D⟩ := T.q_Map_bits
  refine prp_of T.i_Map.cl hp D sc_Map_bits (by intro _ _ _ _ _ _ us hl; match us, hl with | [_], _ => rfl) (fun _ _ _ _ h => len1 h) (fun cdv A outer s H vs Q E hr h => ?_)
  obtain ⟨_, rfl, m, cols, k, off, rfl, ⟨ok, dx, l, hm, hl⟩, h⟩ := h
  refine ⟨_, (pss_one (ps_ret (pe_fld (pv 0) rfl))), ?_⟩
  exact ⟨_, rfl, m, CM K, dx, _, _, rfl, hm, T.i_Map.cl, T.n_Map_own_bits, fsM_bits, h⟩
abbrev spInj (K : PySem.W.Frag) : Sp := spF1 fun a H Q => ∃ (m : Addr) (cols : List Nat) (k off : Nat), a = .ref m ∧ MapAt K H m cols k off ∧ ∀ H' B, IsBas cols B → Ex H H' → Q (.bl (decide (B.length = cols.length))) H'
theorem sc_Map_is_injective : FnScope ["self"] ["self"] (defScope s_Map_is_injective) := C8.fnScope_by (by decide +kernel)
theorem p_Map_is_injective (T : Tx K mg) : Prp P w K mg base 3 (CM K) "is_injective" (spInj K) := by
  obtain ⟨p, g, hp, D⟩ := T.q_Map_is_injective
  refine prp_of T.i_Map.cl hp D sc_Map_is_injective (by intro _ _ _ _ _ _ us hl; match us, hl with | [_], _ => rfl) (fun _ _ _ _ h => len1 h) (fun cdv A outer s H vs Q E hr h => ?_)
  obtain ⟨_, rfl, m, cols, k, off, rfl, ⟨ok, dx, l, hm, hl⟩, h⟩ := h
  refine ⟨_, (pss_one (ps_ret (pe_cmpR op_eq (pe_callB (id := "len") call_len (by rfl) T.b_len (by decide +kernel) (pa_cons (C8.pe_c (c_reduced T) hr (by decide) (by rfl) (pa_cons (pe_fld (pv 0) rfl) pa_nil)) pa_nil)) (pe_callB (id := "len") call_len (by rfl) T.b_len (by decide +kernel) (pa_cons (pe_fld (pv 0) rfl) pa_nil)) (nomark _)))), ?_⟩
  have hn := ok.n8
  refine ⟨_, rfl, m, CM K, dx, _, _, rfl, hm, T.i_Map.cl, T.n_Map_own_columns, fsM_cols, _, rfl, l, cols, rfl, hl, (by omega), fun q H1 B hB hq e1 hqB => ?_⟩
  refine ⟨_, _, rfl, .inl ⟨_, .of hqB, rfl⟩, ?_⟩
  refine ⟨_, rfl, m, CM K, dx, _, _, rfl, e1 _ _ hm, T.i_Map.cl, T.n_Map_own_columns, fsM_cols, _, _, rfl, .inl ⟨_, .of (e1 _ _ hl), rfl⟩, rfl, ?_⟩
  rw [List.length_map, List.length_map]
  exact q_bl (dec_N _ _) (h _ B hB e1)
/-! at(word) -/
abbrev spAt (K : PySem.W.Frag) : Sp := spF2 fun a b H Q => ∃ (m : Addr) (cols : List Nat) (k off v : Nat), a = .ref m ∧ b = vN v ∧ MapAt K H m cols k off ∧ v < 2 ^ cols.length ∧ ∀ H', Ex H H' → Q (vN (cell cols off v)) H'
theorem sc_Map_at : FnScope ["self", "word"] ["self", "word"] (defScope s_Map_at) := C8.fnScope_by (by decide +kernel)
theorem m_Map_at (T : Tx K mg) : C8.Met P w K mg base 4 (CM K) "at" (spAt K) [] := by
  refine met_of T.i_Map.cl T.q_Map_at T.d_Map_at sc_Map_at (by intro _ _ _ _ _ _ us hl; match us, hl with | [_, _], _ => rfl) (fun _ _ _ _ h => len2 h) (fun cdv A outer s H vs Q E hr h => ?_)
  obtain ⟨_, _, rfl, m, cols, k, off, v, rfl, rfl, ⟨ok, dx, l, hm, hl⟩, hv, h⟩ := h
  refine ⟨_, (pss_cons (ps_expr (C8.pe_c (c_want_word T) hr (by decide) (by rfl) (pa_cons (pv 1) (pa_cons (pe_callB (id := "len") call_len (by rfl) T.b_len (by decide +kernel) (pa_cons (pe_fld (pv 0) rfl) pa_nil)) pa_nil)))) (pss_one (ps_ret (pe_op op_xor (C8.pe_c (c_summed T) hr (by decide) (by rfl) (pa_cons (pe_fld (pv 0) rfl) (pa_cons (pv 1) pa_nil))) (pe_fld (pv 0) rfl))))), ?_⟩
  have hn := ok.n8
  refine ⟨_, rfl, _, rfl, m, CM K, dx, _, _, rfl, hm, T.i_Map.cl, T.n_Map_own_columns, fsM_cols, _, _, rfl, .inl ⟨_, .of hl, rfl⟩, _, _, rfl, v, cols.length, rfl, (by rw [List.length_map]), (by omega), hv, ?_⟩
  refine ⟨_, rfl, m, CM K, dx, _, _, rfl, hm, T.i_Map.cl, T.n_Map_own_columns, fsM_cols, _, rfl, _, _, rfl, l, cols, v, rfl, rfl, hl, (by omega), hv, fun H1 e1 => ?_⟩
  refine ⟨_, rfl, m, CM K, dx, _, _, rfl, e1 _ _ hm, T.i_Map.cl, T.n_Map_own_offset, fsM_off, _, _, rfl, rfl, ?_⟩
  exact q_int (xor_N _ _) (h _ e1)
/-! then(other) -/
abbrev spThen (K : PySem.W.Frag) : Sp := spF2 fun a b H Q => ∃ (m1 m2 : Addr) (c1 c2 : List Nat) (k1 k2 o1 o2 : Nat), a = .ref m1 ∧ b = .ref m2 ∧ MapAt K H m1 c1 k1 o1 ∧ MapAt K H m2 c2 k2 o2 ∧ c2.length = k1 ∧
  ∀ m' H', H m' = none → Ex H H' → MapAt K H' m' (c1.map (cmb c2)) k2 (cell c2 o2 o1) → Q (.ref m') H'
theorem sc_Map_then : FnScope ["self", "other", "columns", "column"] ["self", "other"] (defScope s_Map_then) := C8.fnScope_by (by decide +kernel)
theorem m_Map_then (T : Tx K mg) : C8.Met P w K mg base 6 (CM K) "then" (spThen K) [] := by
  refine met_of T.i_Map.cl T.q_Map_then T.d_Map_then sc_Map_then (by intro _ _ _ _ _ _ us hl; match us, hl with | [_, _], _ => rfl) (fun _ _ _ _ h => len2 h) (fun cdv A outer s H vs Q E hr h => ?_)
  obtain ⟨_, _, rfl, m1, m2, c1, c2, k1, k2, o1, o2, rfl, rfl, M1, M2, hk, h⟩ := h
  refine ⟨_, (pss_cons (ps_expr (C8.pe_c (c_want_map T) hr (by decide) (by rfl) (pa_cons (pv 1) pa_nil))) (pss_cons (ps_expr (C8.pe_c (c_want_same T) hr (by decide) (by rfl) (pa_cons (pe_pp (p_Map_bits_in T) hr (by decide) (pv 1) rfl) (pa_cons (pe_fld (pv 0) rfl) pa_nil)))) (pss_cons (ps_setLc (i := 2) (own := [("column", 3)]) (g := gName 3) rfl sc_Map_then.nd rfl rfl (sw_true rfl rfl rfl (by decide +kernel)) (pi_list (pe_fld (pv 0) rfl)) (blkOk_by (own := [("column", 3)]) (N := ["self", "other", "columns", "column"]) (sc := defScope s_Map_then) (by decide +kernel)) (fun _ _ _ _ _ => (pg_name (i := 3) sc_Map_then.nd rfl (Or.inl rfl))) (fun _ _ _ _ _ => pts_nil) (fun _ _ _ _ _ => (C8.pe_c (c_summed T) hr (by decide) (by rfl) (pa_cons (pe_fldK K (pv 1) rfl) (pa_cons (pv 3) pa_nil))))) (pss_one (ps_ret (C8.pe_mk (c_Map T) hr (by decide) (by rfl) (pa_cons (pv 2) (pa_cons (pe_fld (pv 1) rfl) (pa_cons (C8.pe_mt (m_Map_at T) hr (by decide) (pv 1) (pa_cons (pe_fld (pv 0) rfl) pa_nil)) pa_nil))))))))), ?_⟩
  obtain ⟨ok1, dx1, l1, hm1, hl1⟩ := id M1
  obtain ⟨ok2, dx2, l2, hm2, hl2⟩ := id M2
  have hn1 := ok1.n8
  have hn2 := ok2.n8
  refine ⟨_, rfl, _, rfl, m2, dx2, _, rfl, hm2, ?_⟩
  refine ⟨_, rfl, m2, dx2, _, rfl, hm2, _, rfl, m2, c2, k2, o2, rfl, M2, ?_⟩
  refine ⟨_, rfl, m1, CM K, dx1, _, _, rfl, hm1, T.i_Map.cl, T.n_Map_own_bits, fsM_bits, _, _, rfl, _, congrArg vN hk, rfl, ?_⟩
  refine ⟨_, rfl, m1, CM K, dx1, _, _, rfl, hm1, T.i_Map.cl, T.n_Map_own_columns, fsM_cols, l1, rfl, ⟨_, .of hl1⟩, fun D hD => ?_⟩
  refine lc_list (K := K) (a := l1) (xs := vL c1) (fun i H' => Ex H H' ∧ H' D = some (.lst (vL ((c1.take i).map (cmb c2))))) ⟨Ex.new hD, upd_same⟩ (fun i H' _ ⟨e, _⟩ => .of (e _ _ hl1)) ?_ ?_
  · rintro i x H2 hx ⟨e2, hD2⟩
    obtain ⟨c, hc, rfl⟩ := vL_at hx
    have hcl : c < 2 ^ c2.length := hk ▸ ok1.cl c (List.mem_of_getElem? hc)
    refine ⟨rfl, _, rfl, m2, CM K, dx2, _, _, rfl, e2 _ _ hm2, T.i_Map.cl, T.n_Map_own_columns, fsM_cols, _, rfl, _, _, rfl, l2, c2, c, rfl, rfl, e2 _ _ hl2, (by omega), hcl, fun H3 e3 => ?_⟩
    refine ⟨_, e3 _ _ hD2, ?_, Ex.mut (e2.trans e3) hD, ?_⟩
    · rw [List.length_map, List.length_map, List.length_take]
      exact Nat.lt_of_le_of_lt (by omega : _ ≤ 1000) (by decide)
    · rw [upd_same, List.take_add_one, hc, List.map_append, vL_app]; rfl
  · rintro H2 ⟨e2, hD2⟩
    have hf : c1.take (vL c1).length = c1 := by rw [List.length_map, List.take_length]
    rw [hf] at hD2
    refine ⟨_, rfl, _, rfl, m2, CM K, dx2, _, _, rfl, e2 _ _ hm2, T.i_Map.cl, T.n_Map_own_bits, fsM_bits, ?_⟩
    refine ⟨_, rfl, m2, dx2, _, rfl, e2 _ _ hm2, (by walk_at "lk0"), _, rfl, m1, CM K, dx1, _, _, rfl, e2 _ _ hm1, T.i_Map.cl, T.n_Map_own_offset, fsM_off, ?_⟩
    refine ⟨_, _, rfl, m2, c2, k2, o2, o1, rfl, rfl, M2.ex e2, hk ▸ ok1.ol, fun H3 e3 => ?_⟩
    refine fun m' dx hm' nd _ => mk_map (e3 _ _ hD2) ⟨ok2.k8, by rw [List.length_map]; exact ok1.n8, ?_, cell_lt ok2.cl ok2.ol⟩ hm' nd fun H4 e4 hM => ⟨rfl, ?_⟩
    · intro z hz
      obtain ⟨y, _, rfl⟩ := List.mem_map.mp hz
      exact cmb_lt c2 y ok2.cl
    · exact h m' H4 (Same.free (e2.trans e3) hm') (Same.trans (e2.trans e3) e4) hM
/-! kernel, image, before -/
abbrev spKernel (K : PySem.W.Frag) : Sp := spF1 fun a H Q => ∃ (m : Addr) (cols : List Nat) (k off : Nat), a = .ref m ∧ MapAt K H m cols k off ∧
  ∀ s H' R B, IsBas (grows cols) R → IsBas (kwords cols.length R) B → H s = none → Ex H H' → SpaceAt K H' s cols.length B → Q (.ref s) H'
theorem sc_Map_kernel : FnScope ["self"] ["self"] (defScope s_Map_kernel) := C8.fnScope_by (by decide +kernel)
theorem kwords_len {n : Nat} {R : List Nat} : (kwords n R).length ≤ R.length := List.length_filter_le ..
theorem rows_len {cols R : List Nat} (hR : IsBas (grows cols) R) (hc : ∀ c ∈ cols, c < 2 ^ 60) (hn : cols.length ≤ 16) : R.length ≤ 76 := by
  have h2 := hR.len (k := 60 + cols.length) (fun x hx => by
    obtain ⟨⟨c, i⟩, hci, rfl⟩ := List.mem_map.mp hx
    have hg := List.mem_zipIdx' hci
    have h1 : c < 2 ^ 60 := hc c (hg.2 ▸ List.getElem_mem _)
    unfold grow
    apply Nat.or_lt_two_pow
    · show c <<< cols.length < _
      rw [Nat.shiftLeft_eq, Nat.pow_add]
      exact Nat.mul_lt_mul_of_lt_of_le h1 (Nat.le_refl _) (Nat.two_pow_pos _)
    · show 1 <<< i < _
      rw [Nat.one_shiftLeft]
      exact Nat.pow_lt_pow_right (by decide) (by have := hg.1; omega))
  omega
theorem MapOk.c60 {cols : List Nat} {k off : Nat} (h : MapOk cols k off) : ∀ c ∈ cols, c < 2 ^ 60 := fun c hc => Nat.lt_of_lt_of_le (h.cl c hc) (Nat.pow_le_pow_right (by decide) h.k8)
theorem m_Map_kernel (T : Tx K mg) : C8.Met P w K mg base 6 (CM K) "kernel" (spKernel K) [] := by
  refine met_of T.i_Map.cl T.q_Map_kernel T.d_Map_kernel sc_Map_kernel (by intro _ _ _ _ _ _ us hl; match us, hl with | [_], _ => rfl) (fun _ _ _ _ h => len1 h) (fun cdv A outer s H vs Q E hr h => ?_)
  obtain ⟨_, rfl, m, cols, k, off, rfl, ⟨ok, dx, l, hm, hl⟩, h⟩ := h
  refine ⟨_, (pss_one (ps_ret (C8.pe_mk (c_Space T) hr (by decide) (by rfl) (pa_cons (C8.pe_c (c_kernel_words T) hr (by decide) (by rfl) (pa_cons (pe_fld (pv 0) rfl) pa_nil)) (pa_cons (pe_callB (id := "len") call_len (by rfl) T.b_len (by decide +kernel) (pa_cons (pe_fld (pv 0) rfl) pa_nil)) pa_nil))))), ?_⟩
  have hn := ok.n8
  refine ⟨_, rfl, m, CM K, dx, _, _, rfl, hm, T.i_Map.cl, T.n_Map_own_columns, fsM_cols, _, rfl, l, cols, rfl, hl, (by omega), ok.c60, fun q H1 R hR hq e1 hqR => ?_⟩
  refine ⟨_, rfl, m, CM K, dx, _, _, rfl, e1 _ _ hm, T.i_Map.cl, T.n_Map_own_columns, fsM_cols, _, _, rfl, .inl ⟨_, .of (e1 _ _ hl), rfl⟩, ?_⟩
  have hz := rows_len hR ok.c60 hn
  have hk := kwords_len (n := cols.length) (R := R)
  rw [List.length_map]
  refine fun s dx hs nd _ => mk_space hqR (by omega) (by omega) kwords_lt hs nd fun H2 B hB e2 hS => ⟨rfl, ?_⟩
  exact h s H2 R B hR hB (e1.free hs) (e1.trans e2) hS
abbrev spImage (K : PySem.W.Frag) : Sp := spF1 fun a H Q => ∃ (m : Addr) (cols : List Nat) (k off : Nat), a = .ref m ∧ MapAt K H m cols k off ∧
  ∀ f H' B, IsBas cols B → H f = none → Ex H H' → FlatAt K H' f k B (leastSum off B) → Q (.ref f) H'
theorem sc_Map_image : FnScope ["self"] ["self"] (defScope s_Map_image) := C8.fnScope_by (by decide +kernel)
theorem m_Map_image (T : Tx K mg) : C8.Met P w K mg base 6 (CM K) "image" (spImage K) [] := by
  refine met_of T.i_Map.cl T.q_Map_image T.d_Map_image sc_Map_image (by intro _ _ _ _ _ _ us hl; match us, hl with | [_], _ => rfl) (fun _ _ _ _ h => len1 h) (fun cdv A outer s H vs Q E hr h => ?_)
  obtain ⟨_, rfl, m, cols, k, off, rfl, ⟨ok, dx, l, hm, hl⟩, h⟩ := h
  refine ⟨_, (pss_one (ps_ret (C8.pe_mk (c_Flat T) hr (by decide) (by rfl) (pa_cons (pe_fld (pv 0) rfl) (pa_cons (C8.pe_mk (c_Space T) hr (by decide) (by rfl) (pa_cons (pe_fld (pv 0) rfl) (pa_cons (pe_fld (pv 0) rfl) pa_nil))) pa_nil))))), ?_⟩
  have hn := ok.n8
  have hk := ok.k8
  refine ⟨_, rfl, m, CM K, dx, _, _, rfl, hm, T.i_Map.cl, T.n_Map_own_offset, fsM_off, ?_⟩
  refine ⟨_, rfl, m, CM K, dx, _, _, rfl, hm, T.i_Map.cl, T.n_Map_own_columns, fsM_cols, _, rfl, m, CM K, dx, _, _, rfl, hm, T.i_Map.cl, T.n_Map_own_bits, fsM_bits, ?_⟩
  refine fun s dx hs nd _ => mk_space hl (by omega) (by omega) ok.cl hs nd fun H2 B hB e2 hS => ⟨rfl, ?_⟩
  refine fun f dx hf nd _ => mk_flat hS (by omega) ok.ol hf nd fun H3 e3 hF => ⟨rfl, ?_⟩
  exact h f H3 B hB (e2.free hf) (e2.trans e3) hF
abbrev spBefore (K : PySem.W.Frag) : Sp := spF2 fun a b H Q => ∃ (m : Addr) (cols : List Nat) (k off p : Nat), a = .ref m ∧ b = vN (cell cols off p) ∧ MapAt K H m cols k off ∧ p < 2 ^ cols.length ∧
  ∀ f H' B pt, Bas B → (∀ b ∈ B, pt.testBit b.log2 = false) → walkL pt B = alike cols off (cell cols off p) → H f = none → Ex H H' → FlatAt K H' f cols.length B pt → Q (.ref f) H'
theorem sc_Map_before : FnScope ["self", "word", "found"] ["self", "word"] (defScope s_Map_before) := C8.fnScope_by (by decide +kernel)
theorem m_Map_before (T : Tx K mg) : C8.Met P w K mg base 7 (CM K) "before" (spBefore K) [] := by
  refine met_of T.i_Map.cl T.q_Map_before T.d_Map_before sc_Map_before (by intro _ _ _ _ _ _ us hl; match us, hl with | [_, _], _ => rfl) (fun _ _ _ _ h => len2 h) (fun cdv A outer s H vs Q E hr h => ?_)
  obtain ⟨_, _, rfl, m, cols, k, off, p, rfl, rfl, M, hp, h⟩ := h
  refine ⟨_, (pss_cons (ps_expr (C8.pe_c (c_want_word T) hr (by decide) (by rfl) (pa_cons (pv 1) (pa_cons (pe_fld (pv 0) rfl) pa_nil)))) (pss_cons (ps_set (i := 2) sc_Map_before.nd rfl (Or.inl rfl) (C8.pe_c (c_selected T) hr (by decide) (by rfl) (pa_cons (pe_fld (pv 0) rfl) (pa_cons (pe_op op_xor (pv 1) (pe_fld (pv 0) rfl)) pa_nil)))) (pss_one (ps_ret (pe_ifExp (pt_cmpR op_isN (pv 2) pe_non (nomark _)) pe_non (C8.pe_mk (c_Flat T) hr (by decide) (by rfl) (pa_cons (pv 2) (pa_cons (C8.pe_mt0 (m_Map_kernel T) hr (by decide) (pv 0)) pa_nil)))))))), ?_⟩
  obtain ⟨ok, dx, l, hm, hl⟩ := id M
  have hn := ok.n8
  have hk := ok.k8
  have hcl := cell_lt (p := p) ok.cl ok.ol
  have hw : cmb cols p = cell cols off p ^^^ off := by unfold cell; rw [Nat.xor_assoc, Nat.xor_self, Nat.xor_zero]
  refine ⟨_, rfl, _, rfl, m, CM K, dx, _, _, rfl, hm, T.i_Map.cl, T.n_Map_own_bits, fsM_bits, _, _, rfl, _, k, rfl, rfl, (by omega), hcl, ?_⟩
  refine ⟨_, rfl, m, CM K, dx, _, _, rfl, hm, T.i_Map.cl, T.n_Map_own_columns, fsM_cols, _, rfl, _, rfl, m, CM K, dx, _, _, rfl, hm, T.i_Map.cl, T.n_Map_own_offset, fsM_off, _, _, rfl, rfl, ?_⟩
  refine ⟨_, _, rfl, l, cols, p, cell cols off p ^^^ off, rfl, congrArg V.int (xor_N _ _), hl, (by omega), ok.c60, hp, hw, fun H1 R hR e1 => ?_⟩
  refine ⟨_, rfl, rfl, _, rfl, ?_⟩
  refine iteF ?_
  refine ⟨_, rfl, _, rfl, m, dx, _, rfl, e1 _ _ hm, (by walk_at "lk0"), _, rfl, m, cols, k, off, rfl, M.ex e1, fun sK H2 R2 B hR2 hB hs e2 hS => ?_⟩
  have eR : R2 = R := hR2.only hR fun _ => Iff.rfl
  subst eR
  have hsel := selected_ok hR hp hw
  refine fun f dx hf nd _ => mk_flat hS (by omega) hsel.1 hf nd fun H3 e3 hF => ⟨rfl, ?_⟩
  exact h f H3 B _ hB.bas (least_out hB.bas.rb _) (alike_ok hR hB hp) (Same.free (e1.trans e2) hf) (Same.trans (e1.trans e2) e3) hF
end
end My
/-! *** W5 -/
namespace My
open PySem PySem.Spec PyProof.Rows L2 He
local macro_rules | `(tactic| walk_at "go") => `(tactic| repeat (first | refine And.intro rfl ?_ | refine iteT ?_ | refine iteF ?_ | refine iteNS (by assumption) ?_ | apply Exists.intro | refine And.intro (by assumption) ?_))
/-! ### axes -/
abbrev Row := Str × Nat
abbrev lettersL : List Nat := ("abcdefghijklmnopqrstuvwxyz" : Str).cps.toList
structure NameOk (s : Str) : Prop where
  lo : 1 ≤ s.length
  hi : s.length ≤ 8
  ne : s ≠ "self"
  ch : ∀ c ∈ s.cps.toList, c ∈ lettersL
def RowV (H : Hp) (x : V) (r : Row) : Prop := ∃ t, x = .ref t ∧ H t = some (.tup [.str r.1, vN r.2])
structure RowsV (H : Hp) (xs : List V) (rows : List Row) : Prop where
  len : xs.length = rows.length
  at_ : ∀ (i : Nat) x, xs[i]? = some x → ∃ r, rows[i]? = some r ∧ RowV H x r
def tot (rows : List Row) : Nat := (rows.map (·.2)).sum
def low (rows : List Row) (i : Nat) : Nat := tot (rows.take i)
structure RowsOk (rows : List Row) : Prop where
  nm : ∀ r ∈ rows, NameOk r.1
  nd : (rows.map (·.1)).Nodup
  tt : tot rows ≤ 16
  ln : rows.length ≤ 100
theorem RowV.ex {H H' : Hp} {x : V} {r : Row} (e : Ex H H') : RowV H x r → RowV H' x r := fun ⟨t, a, b⟩ => ⟨t, a, e _ _ b⟩
theorem RowsV.ex {H H' : Hp} {xs : List V} {rows : List Row} (e : Ex H H') (h : RowsV H xs rows) : RowsV H' xs rows :=
  ⟨h.len, fun i x hx => let ⟨r, a, b⟩ := h.at_ i x hx; ⟨r, a, b.ex e⟩⟩
theorem RowsV.back {H : Hp} {xs : List V} {rows : List Row} (h : RowsV H xs rows) {i : Nat} {r : Row} (hr : rows[i]? = some r) : ∃ x, xs[i]? = some x ∧ RowV H x r := by
  have hi : i < xs.length := by rw [h.len]; exact (List.getElem?_eq_some_iff.mp hr).1
  obtain ⟨r', a, b⟩ := h.at_ i _ (List.getElem?_eq_getElem hi)
  rw [hr] at a
  obtain rfl := Option.some.inj a
  exact ⟨_, List.getElem?_eq_getElem hi, b⟩
theorem RowsV.take {H : Hp} {xs : List V} {rows : List Row} (h : RowsV H xs rows) (n : Nat) : RowsV H (xs.take n) (rows.take n) := by
  refine ⟨by simp [h.len], fun i x hx => ?_⟩
  rw [List.getElem?_take] at hx ⊢
  split at hx
  · rename_i q; rw [if_pos q]; exact h.at_ i x hx
  · cases hx
theorem RowsV.drop {H : Hp} {xs : List V} {rows : List Row} (h : RowsV H xs rows) (n : Nat) : RowsV H (xs.drop n) (rows.drop n) := by
  refine ⟨by simp [h.len], fun i x hx => ?_⟩
  rw [List.getElem?_drop] at hx ⊢
  exact h.at_ _ x hx
theorem RowsV.app {H : Hp} {xs ys : List V} {rows rows2 : List Row} (h : RowsV H xs rows) (h2 : RowsV H ys rows2) : RowsV H (xs ++ ys) (rows ++ rows2) := by
  refine ⟨by simp [h.len, h2.len], fun i x hx => ?_⟩
  rw [List.getElem?_append] at hx ⊢
  rw [← h.len]
  split at hx
  · rename_i q; rw [if_pos q]; exact h.at_ i x hx
  · rename_i q; rw [if_neg q]; exact h2.at_ _ x hx
theorem RowsV.nil {H : Hp} : RowsV H [] [] := ⟨rfl, fun i x hx => by simp at hx⟩
theorem RowsV.one {H : Hp} {x : V} {r : Row} (h : RowV H x r) : RowsV H [x] [r] := ⟨rfl, fun i y hy => by
  cases i with
  | zero =>
    have e : x = y := by simpa using hy
    exact ⟨r, rfl, e ▸ h⟩
  | succ n => simp at hy⟩
theorem tot_nil : tot [] = 0 := rfl
theorem tot_cons (r : Row) (rows : List Row) : tot (r :: rows) = r.2 + tot rows := by simp [tot]
theorem tot_app (a b : List Row) : tot (a ++ b) = tot a + tot b := by simp [tot]
theorem tot_split {rows : List Row} {i : Nat} {r : Row} (h : rows[i]? = some r) : tot rows = low rows i + r.2 + tot (rows.drop (i + 1)) := by
  have h1 := List.take_append_drop i rows
  have h2 : rows.drop i = r :: rows.drop (i + 1) := (List.drop_eq_getElem?_toList_append ..).trans (by rw [h]; rfl)
  rw [← h1]
  conv => lhs; rw [h2]
  rw [tot_app, tot_cons]
  have h3 : low (rows.take i ++ rows.drop i) i = low rows i := by rw [h1]
  rw [h3, h1]
  unfold low
  omega
theorem low_snoc {rows : List Row} {i : Nat} {r : Row} (h : rows[i]? = some r) : low rows (i + 1) = low rows i + r.2 := by
  unfold low
  rw [List.take_add_one, h, tot_app]; simp [tot]
section
variable {P : Program} {w : World} {K : PySem.W.Frag} {mg : Str → Option Value} {base : Heap}
/-! is_name -/
abbrev spIsName : Sp := spF1 fun a H Q => ∃ s : Str, a = .str s ∧ NameOk s ∧ ∀ H', Ex H H' → Q (.bl true) H'
theorem sc_is_name : FnScope ["value", "letter"] ["value"] (defScope s_is_name) := C8.fnScope_by (by decide +kernel)
theorem c_is_name (T : Tx K mg) : C8.Cal P w K mg base 1 "is_name" spIsName [] := by
  refine cal_of T.d_is_name T.g_is_name sc_is_name (by intro _ _ _ _ _ _ us hl; match us, hl with | [_], _ => rfl) (fun _ _ _ _ h => len1 h) (fun cdv A outer s H vs Q E hr h => ?_)
  obtain ⟨_, rfl, x, rfl, ok, h⟩ := h
  refine ⟨_, (pss_cons (ps_if (PW.pt (pw_or (pt_not (pt_val (pe_callB (id := "isinstance") call_isi (by rfl) T.b_isinstance (by decide +kernel) (pa_cons (pv 0) (pa_cons (pe_bltn (v := .ty "str") (by rfl) T.b_str (by decide +kernel) rfl) pa_nil))))) (pw_or (pt_not (pt_chain op_le op_le pe_int (pe_callB (id := "len") call_len (by rfl) T.b_len (by decide +kernel) (pa_cons (pv 0) pa_nil)) (C8.pe_gc (by rfl) T.c_MOST_LETTERS))) (pw_or1 (pt_cmpR op_eq (pv 0) pe_str (nomark _)))))) (pss_one (ps_ret pe_bl)) pss_nil) (pss_one (ps_ret (pe_callB (id := "all") (cr_all rfl) (by rfl) T.b_all (by decide +kernel) (pa_cons (pe_lc (own := [("letter", 1)]) (g := gName 1) rfl sc_is_name.nd (pi_str (pv 0)) (blkOk_by (own := [("letter", 1)]) (N := ["value", "letter"]) (sc := defScope s_is_name) (by decide +kernel)) (fun _ _ _ _ _ => (pg_name (i := 1) sc_is_name.nd rfl (Or.inl rfl))) (fun _ _ _ _ _ => pts_nil) (fun _ _ _ _ _ => (pe_cmpR op_in_sign (pv 1) (C8.pe_gc (by rfl) T.c_LETTERS) (by with_unfolding_all rfl)))) pa_nil))))), ?_⟩
  refine ⟨_, rfl, _, _, _, _, true, rfl, .ty "str", .base (.str _), kit_ty (by decide +kernel), true, rfl, ?_⟩
  have h1 : (1 : Int) ≤ (x.length : Int) := by have := ok.lo; omega
  have h8 : (x.length : Int) ≤ 8 := by have := ok.hi; omega
  refine iteF ⟨_, rfl, _, x.length, rfl, ⟨Nat.le_trans ok.hi (by decide), rfl⟩, _, _, rfl, rfl, _, rfl, ?_⟩
  refine iteY h1 ⟨_, _, rfl, rfl, _, rfl, ?_⟩
  refine iteNS h8 ⟨_, rfl, rfl, _, rfl, ?_⟩
  refine iteN (fun q => ok.ne (by injection q)) ?_
  refine ⟨_, rfl, _, rfl, fun D hD => ?_⟩
  refine lc_it (walk_str (z := x)) (fun i H' => Ex H H' ∧ H' D = some (.lst ((List.replicate i true).map V.bl))) ⟨Ex.new hD, upd_same⟩ (fun _ _ _ _ => True.intro) ?_ ?_
  · rintro i y H2 _ hi ⟨e2, hD2⟩ ⟨rfl, c, hc, rfl⟩
    have hm : c ∈ lettersL := ok.ch c (List.mem_of_getElem? (i := i) (by simpa using hc))
    refine ⟨rfl, _, rfl, c, _, rfl, rfl, _, hD2, ?_, e2.mut hD, ?_⟩
    · rw [List.length_map, List.length_replicate]
      have : i < 8 := Nat.lt_of_lt_of_le hi ok.hi
      exact Nat.lt_of_lt_of_le this (by decide)
    · rw [upd_same, List.replicate_succ', List.map_append, decide_eq_true hm]; rfl
  · rintro H2 ⟨e2, hD2⟩
    refine ⟨D, _, rfl, .of hD2, ?_⟩
    have : (List.replicate x.cps.size true).all id = true := by simp
    rw [this]
    exact h _ e2
/-! is_axis -/
abbrev spIsAxis : Sp := spF1 fun a H Q => ∃ r : Row, RowV H a r ∧ NameOk r.1 ∧ r.2 ≤ 40 ∧ ∀ H', Ex H H' → Q (.bl true) H'
theorem sc_is_axis : FnScope ["value"] ["value"] (defScope s_is_axis) := C8.fnScope_by (by decide +kernel)
theorem c_is_axis (T : Tx K mg) : C8.Cal P w K mg base 2 "is_axis" spIsAxis [] := by
  refine cal_of T.d_is_axis T.g_is_axis sc_is_axis (by intro _ _ _ _ _ _ us hl; match us, hl with | [_], _ => rfl) (fun _ _ _ _ h => len1 h) (fun cdv A outer s H vs Q E hr h => ?_)
  obtain ⟨_, rfl, ⟨nm, sz⟩, ⟨t, rfl, ht⟩, ok, hs, h⟩ := h
  refine ⟨_, (pss_cons (ps_if (PW.pt (pw_or (pt_not (pt_val (pe_callB (id := "isinstance") call_isi (by rfl) T.b_isinstance (by decide +kernel) (pa_cons (pv 0) (pa_cons (pe_bltn (v := .ty "tuple") (by rfl) T.b_tuple (by decide +kernel) rfl) pa_nil))))) (pw_or (pt_cmpR op_ne (pe_callB (id := "len") call_len (by rfl) T.b_len (by decide +kernel) (pa_cons (pv 0) pa_nil)) pe_int (nomark _)) (pw_or1 (pt_not (pt_val (C8.pe_c (c_is_name T) hr (by decide) (by rfl) (pa_cons (pe_ix ix_tup (pv 0) pe_int (fun _ _ => rfl)) pa_nil)))))))) (pss_one (ps_ret pe_bl)) pss_nil) (pss_one (ps_ret (pe_and (C8.pe_c (c_is_integer T) hr (by decide) (by rfl) (pa_cons (pe_ix ix_tup (pv 0) pe_int (fun _ _ => rfl)) pa_nil)) (pe_one (pe_chain op_le op_le pe_int (pe_ix ix_tup (pv 0) pe_int (fun _ _ => rfl)) (C8.pe_gc (by rfl) T.c_MOST_AXIS_BITS))))))), ?_⟩
  refine ⟨_, rfl, _, _, _, _, true, rfl, .ty "tuple", .base (.tup ht), kit_ty (by decide +kernel), true, rfl, ?_⟩
  refine iteF ⟨_, rfl, _, _, rfl, .inr ⟨_, .of ht, rfl⟩, rfl, _, rfl, ?_⟩
  refine iteNS rfl ⟨_, rfl, t, _, _, _, rfl, rfl, .of ht, atI_nat (j := 0) rfl, _, rfl, nm, rfl, ok, fun H1 e1 => ⟨_, rfl, ?_⟩⟩
  refine iteF ?_
  have h40 : (sz : Int) ≤ 40 := by have : sz ≤ 40 := hs; omega
  refine ⟨_, rfl, t, _, _, _, rfl, rfl, .of (e1 _ _ ht), atI_nat (j := 1) rfl, _, rfl, _, rfl, _, rfl, ?_⟩
  refine iteT ⟨_, rfl, t, _, _, _, rfl, rfl, .of (e1 _ _ ht), atI_nat (j := 1) rfl, _, _, rfl, rfl, _, rfl, ?_⟩
  refine iteY (by omega) ⟨_, _, rfl, rfl, ?_⟩
  exact q_bl (decide_eq_true h40) (h _ e1)
/-! wrong_axis, want_axes -/
theorem inV_names {n : Str} {l : List Str} (h : n ∉ l) : inV (.str n) (l.map V.str) = false := by
  unfold inV
  rw [List.any_eq_false]
  intro x hx
  obtain ⟨y, hy, rfl⟩ := List.mem_map.mp hx
  show ¬ (y == n) = true
  intro q
  exact h (by rw [← eq_of_beq q]; exact hy)
theorem inV_in {n : Str} {l : List Str} (h : n ∈ l) : inV (.str n) (l.map V.str) = true := by
  unfold inV
  rw [List.any_eq_true]
  exact ⟨_, List.mem_map.mpr ⟨n, h, rfl⟩, by show (n == n) = true; exact beq_self_eq_true n⟩
theorem flat_names (l : List Str) : (l.map V.str).all flatV = true := by
  rw [List.all_eq_true]
  intro x hx
  obtain ⟨y, _, rfl⟩ := List.mem_map.mp hx
  rfl
abbrev spWrong : Sp := spF1 fun a H Q => ∃ (p : Addr) (xs : List V) (rows : List Row), a = .ref p ∧ Sq H p xs ∧ RowsV H xs rows ∧ RowsOk rows ∧ ∀ H', Ex H H' → Q .non H'
theorem sc_wrong_axis : FnScope ["axes", "names", "total", "position", "axis"] ["axes"] (defScope s_wrong_axis) := C8.fnScope_by (by decide +kernel)
theorem low_le {rows : List Row} (i : Nat) : low rows i ≤ tot rows := by
  have h := tot_app (rows.take i) (rows.drop i)
  rw [List.take_append_drop] at h
  unfold low
  omega
theorem c_wrong_axis (T : Tx K mg) : C8.Cal P w K mg base 3 "wrong_axis" spWrong [] := by
  refine cal_of T.d_wrong_axis T.g_wrong_axis sc_wrong_axis (by intro _ _ _ _ _ _ us hl; match us, hl with | [_], _ => rfl) (fun _ _ _ _ h => len1 h) (fun cdv A outer s H vs Q E hr h => ?_)
  obtain ⟨_, rfl, p, xs, rows, rfl, hp, hR, ok, h⟩ := h
  refine ⟨_, (pss_cons (ps_par (i := 1) (j := 2) rfl sc_wrong_axis.nd rfl rfl (by decide) rfl rfl (pa_cons (pe_lst pa_nil) (pa_cons pe_int pa_nil)) (by rfl)) (pss_cons (ps_for PassesOwn.never rfl (pi_enumSq (by rfl) T.b_enumerate (pa_cons (pv 0) pa_nil)) (pg_tup rfl (pgs_cons (pg_name (i := 3) sc_wrong_axis.nd rfl (Or.inl rfl)) (pgs_cons (pg_name (i := 4) sc_wrong_axis.nd rfl (Or.inl rfl)) pgs_nil))) (pss_cons (ps_if (PW.pt (pw_or (pt_not (pt_val (C8.pe_c (c_is_axis T) hr (by decide) (by rfl) (pa_cons (pv 4) pa_nil)))) (pw_or (pt_cmpR op_in_seq (pe_ix ix_tup (pv 4) pe_int (fun _ _ => rfl)) (pv 1) (by with_unfolding_all rfl)) (pw_or1 (pt_cmpR op_gt (pe_op op_add (pv 2) (pe_ix ix_tup (pv 4) pe_int (fun _ _ => rfl))) (C8.pe_gc (by rfl) T.c_MOST_AXIS_BITS) (nomark _)))))) (pss_one (ps_ret (pv 3))) pss_nil) (pss_cons (ps_expr (pe_bm PySem.F.plainAttrs_list PySem.F.slot_list_append PySem.F.type_list_append mt_append (pv 1) (pa_cons (pe_ix ix_tup (pv 4) pe_int (fun _ _ => rfl)) pa_nil))) (pss_one (ps_aug (i := 2) sc_wrong_axis.nd rfl (Or.inl rfl) (pe_ix ix_tup (pv 4) pe_int (fun _ _ => rfl)) ip_add))))) (pss_one (ps_ret pe_non)))), ?_⟩
  refine ⟨Nat.zero_le _, fun l hl => ?_⟩
  have e1 : Ex H (upd H l (.lst [])) := Ex.new hl
  have hl1 : upd H l (.lst []) l = some (.lst []) := upd_same
  generalize upd H l (.lst []) = H1 at e1 hl1 ⊢
  refine ⟨_, _, rfl, _, rfl, p, xs, rfl, hp.ex e1, fun J G W hG => ?_⟩
  refine for_it W (fun i σ H' => ∃ x y, σ = [some (.ref p), some (.ref l), some (vN (low rows i)), x, y] ∧ Ex H H' ∧ H' l = some (.lst (((rows.take i).map (·.1)).map V.str)))
      ⟨_, _, rfl, e1, hl1⟩ (fun i σ H' _ ⟨_, _, _, e, _⟩ => hG H' (by rw [hp.same e, hp.same e1])) ?_ ?_
  · rintro i x σ H2 _ hi ⟨u, v, rfl, e, hl2⟩ ⟨t, a, b, rfl, ht, rfl, ha, hb⟩
    obtain rfl := Option.some.inj ha
    obtain ⟨r, hr1, tr, rfl, htr⟩ := hR.at_ i b hb
    have e3 : Ex H (upd H2 t (.tup [.int (i : Nat), .ref tr])) := e.mut (e.free ht)
    have hl3 : (upd H2 t (.tup [.int (i : Nat), .ref tr])) l = some (.lst (((rows.take i).map (·.1)).map V.str)) := by
      rw [upd_ne (ne_of_none hl2 ht)]; exact hl2
    have ht3 : (upd H2 t (.tup [.int (i : Nat), .ref tr])) t = some (.tup [.int (i : Nat), .ref tr]) := upd_same
    generalize upd H2 t (.tup [.int (i : Nat), .ref tr]) = H3 at e3 hl3 ht3 ⊢
    have hmem : r ∈ rows := List.mem_of_getElem? hr1
    have hsum : low rows i + r.2 ≤ 16 := by
      have h1 := low_snoc hr1
      have h2 := low_le (rows := rows) (i + 1)
      have h3 := ok.tt
      omega
    have hnot : r.1 ∉ (rows.take i).map (·.1) := fun q => by
      obtain ⟨r2, hr2, e2⟩ := List.mem_map.mp q
      obtain ⟨j, hj⟩ := List.getElem?_of_mem hr2
      rw [List.getElem?_take] at hj
      split at hj
      · rename_i hji
        have n1 : (rows.map (·.1))[j]? = some r.1 := by rw [List.getElem?_map, hj]; exact congrArg some e2
        have n2 : (rows.map (·.1))[i]? = some r.1 := by rw [List.getElem?_map, hr1]; rfl
        have := nd_ix ok.nd n1 n2
        omega
      · cases hj
    refine ⟨t, _, rfl, .of ht3, rfl, _, _, rfl, _, _, rfl, rfl, ?_⟩
    refine ⟨_, rfl, _, rfl, r, ⟨tr, rfl, e3 _ _ htr⟩, ok.nm r hmem, by omega, fun H4 e4 => ⟨_, rfl, ?_⟩⟩
    have htr4 := e4 _ _ (e3 _ _ htr)
    have hl4 := e4 _ _ hl3
    refine iteF ⟨_, rfl, tr, _, _, _, rfl, rfl, .of htr4, atI_nat (j := 0) rfl, _, rfl, l, _, rfl, .inl (.of hl4), rfl, flat_names _, _, rfl, ?_⟩
    rw [inV_names hnot]
    refine iteF ⟨_, rfl, _, rfl, tr, _, _, _, rfl, rfl, .of htr4, atI_nat (j := 1) rfl, _, _, rfl, rfl, _, _, rfl, rfl, _, rfl, ?_⟩
    refine iteN (by omega) ?_
    refine ⟨_, rfl, .inl ⟨rfl, _, SqL.of hl4⟩, _, rfl, tr, _, _, _, rfl, rfl, .of htr4, atI_nat (j := 0) rfl, l, _, _, rfl, rfl, hl4, ?_, ?_⟩
    · rw [List.length_map, List.length_map, List.length_take]
      have := ok.ln
      exact Nat.lt_of_le_of_lt (by omega : _ ≤ 100) (by decide)
    · refine ⟨_, rfl, _, rfl, tr, _, _, _, rfl, rfl, .of (by rw [upd_ne (ne_of htr4 hl4 (by intro z; cases z))]; exact htr4), atI_nat (j := 1) rfl, _, _, rfl, rfl, ?_⟩
      refine ⟨some (.int (i : Nat)), some (.ref tr), ?_, Ex.mut (Same.trans e3 e4) hl, ?_⟩
      · rw [low_snoc hr1]
        show [some (V.ref p), some (V.ref l), some (V.int ((low rows i : Int) + (r.2 : Int))), _, _] = _
        rw [← Int.natCast_add]
      · rw [upd_same, List.take_add_one, hr1, List.map_append, List.map_append]; rfl
  · rintro σ H2 ⟨u, v, rfl, e, hl2⟩
    exact h _ e
abbrev spWantAxes : Sp := spF1 fun a H Q => ∃ (p : Addr) (xs : List V) (rows : List Row), a = .ref p ∧ Sq H p xs ∧ RowsV H xs rows ∧ RowsOk rows ∧ ∀ H', Ex H H' → Q .non H'
theorem sc_want_axes : FnScope ["axes", "position"] ["axes"] (defScope s_want_axes) := C8.fnScope_by (by decide +kernel)
theorem c_want_axes (T : Tx K mg) : C8.Cal P w K mg base 4 "want_axes" spWantAxes [] := by
  refine cal_of T.d_want_axes T.g_want_axes sc_want_axes (by intro _ _ _ _ _ _ us hl; match us, hl with | [_], _ => rfl) (fun _ _ _ _ h => len1 h) (fun cdv A outer s H vs Q E hr h => ?_)
  obtain ⟨_, rfl, p, xs, rows, rfl, hp, hR, ok, h⟩ := h
  refine ⟨_, (pss_cons (ps_if (pt_not (pt_val (C8.pe_c (c_is_list T) hr (by decide) (by rfl) (pa_cons (pv 0) pa_nil)))) (pss_one ps_never) pss_nil) (pss_cons (ps_set (i := 1) sc_want_axes.nd rfl (Or.inl rfl) (C8.pe_c (c_wrong_axis T) hr (by decide) (by rfl) (pa_cons (pv 0) pa_nil))) (pss_one (ps_if (pt_cmpR op_notN (pv 1) pe_non (nomark _)) (pss_one ps_never) pss_nil)))), ?_⟩
  refine ⟨_, rfl, _, rfl, p, xs, rfl, hp, fun H1 e1 => ⟨_, rfl, ?_⟩⟩
  refine ⟨_, rfl, _, rfl, p, xs, rows, rfl, hp.ex e1, hR.ex e1, ok, fun H2 e2 => ?_⟩
  refine ⟨_, rfl, rfl, _, rfl, ?_⟩
  exact h _ (e1.trans e2)
/-! want_name -/
abbrev spWantName : Sp := spF1 fun a H Q => ∃ s : Str, a = .str s ∧ NameOk s ∧ ∀ H', Ex H H' → Q .non H'
theorem sc_want_name : FnScope ["name"] ["name"] (defScope s_want_name) := C8.fnScope_by (by decide +kernel)
theorem c_want_name (T : Tx K mg) : C8.Cal P w K mg base 2 "want_name" spWantName [] := by
  refine cal_of T.d_want_name T.g_want_name sc_want_name (by intro _ _ _ _ _ _ us hl; match us, hl with | [_], _ => rfl) (fun _ _ _ _ h => len1 h) (fun cdv A outer s H vs Q E hr h => ?_)
  obtain ⟨_, rfl, x, rfl, ok, h⟩ := h
  refine ⟨_, (pss_one (ps_if (pt_not (pt_val (C8.pe_c (c_is_name T) hr (by decide) (by rfl) (pa_cons (pv 0) pa_nil)))) (pss_one ps_never) pss_nil)), ?_⟩
  exact ⟨_, rfl, _, rfl, x, rfl, ok, fun H1 e1 => ⟨_, rfl, h _ e1⟩⟩
end
end My
/-! *** W6 -/
namespace My
open PySem PySem.Spec PyProof.Rows L2 He
local macro_rules | `(tactic| walk_at "go") => `(tactic| repeat (first | refine And.intro rfl ?_ | refine iteT ?_ | refine iteF ?_ | refine iteNS (by assumption) ?_ | apply Exists.intro | refine And.intro (by assumption) ?_))
/-! ### the axes by names -/
abbrev nms (rows : List Row) : List Str := rows.map (·.1)
/-- the place of a name -/
structure At (rows : List Row) (n : Str) (i : Nat) (r : Row) : Prop where
  at_ : rows[i]? = some r
  nm : r.1 = n
theorem At.mem {rows : List Row} {n : Str} {i : Nat} {r : Row} (h : At rows n i r) : n ∈ nms rows := List.mem_map.mpr ⟨r, List.mem_of_getElem? h.at_, h.nm⟩
theorem At.sz {rows : List Row} {n : Str} {i : Nat} {r : Row} (h : At rows n i r) : low rows i + r.2 ≤ tot rows := by
  have := tot_split h.at_; omega
section
variable {P : Program} {w : World} {K : PySem.W.Frag} {mg : Str → Option Value} {base : Heap}
/-! names_of, total_bits -/
abbrev spNamesOf : Sp := spF1 fun a H Q => ∃ (p : Addr) (xs : List V) (rows : List Row), a = .ref p ∧ Sq H p xs ∧ RowsV H xs rows ∧ rows.length ≤ 100 ∧
  ∀ l H', H l = none → Ex H H' → H' l = some (.lst ((nms rows).map V.str)) → Q (.ref l) H'
theorem sc_names_of : FnScope ["axes", "name", "bits"] ["axes"] (defScope s_names_of) := C8.fnScope_by (by decide +kernel)
theorem c_names_of (T : Tx K mg) : C8.Cal P w K mg base 1 "names_of" spNamesOf [] := by
  refine cal_of T.d_names_of T.g_names_of sc_names_of (by intro _ _ _ _ _ _ us hl; match us, hl with | [_], _ => rfl) (fun _ _ _ _ h => len1 h) (fun cdv A outer s H vs Q E hr h => ?_)
  obtain ⟨_, rfl, p, xs, rows, rfl, hp, hR, hn, h⟩ := h
  refine ⟨_, (pss_one (ps_ret (pe_lc (own := [("name", 1), ("bits", 2)]) (g := gTup K 2 (gCons (gName 1) (gCons (gName 2) gNil))) rfl sc_names_of.nd (pi_sq (pv 0)) (blkOk_by (own := [("name", 1), ("bits", 2)]) (N := ["axes", "name", "bits"]) (sc := defScope s_names_of) (by decide +kernel)) (fun _ _ _ _ _ => (pg_tup rfl (pgs_cons (pg_name (i := 1) sc_names_of.nd rfl (Or.inl rfl)) (pgs_cons (pg_name (i := 2) sc_names_of.nd rfl (Or.inl rfl)) pgs_nil)))) (fun _ _ _ _ _ => pts_nil) (fun _ _ _ _ _ => (pv 1))))), ?_⟩
  refine ⟨_, rfl, p, xs, rfl, hp, fun J G W hG => fun D hD => ?_⟩
  refine lc_it W (fun i H' => Ex H H' ∧ H' D = some (.lst ((nms (rows.take i)).map V.str))) ⟨Ex.new hD, upd_same⟩ (fun i H' _ ⟨e, _⟩ => hG H' (hp.same e)) ?_ ?_
  · rintro i x H2 _ hi ⟨e, hD2⟩ ⟨rfl, hx⟩
    obtain ⟨r, hr1, tr, rfl, htr⟩ := hR.at_ i x hx
    refine ⟨tr, _, rfl, .of (e _ _ htr), rfl, _, _, rfl, _, _, rfl, rfl, rfl, ?_⟩
    refine ⟨_, rfl, _, hD2, ?_, e.mut hD, ?_⟩
    · rw [List.length_map, List.length_map, List.length_take]
      exact Nat.lt_of_le_of_lt (by omega : _ ≤ 100) (by decide)
    · rw [upd_same]
      show _ = some (HO.lst (((rows.take (i + 1)).map (·.1)).map V.str))
      rw [List.take_add_one, hr1, List.map_append, List.map_append]; rfl
  · rintro H2 ⟨e, hD2⟩
    rw [hR.len, List.take_length] at hD2
    exact h D H2 hD e hD2
abbrev spTotal : Sp := spF1 fun a H Q => ∃ (p : Addr) (xs : List V) (rows : List Row), a = .ref p ∧ Sq H p xs ∧ RowsV H xs rows ∧ rows.length ≤ 100 ∧
  ∀ H', Ex H H' → Q (vN (tot rows)) H'
theorem sum_N (rows : List Row) : ((rows.map fun r => (r.2 : Int)).sum) = (tot rows : Int) := by
  induction rows with
  | nil => rfl
  | cons r rows ih => rw [List.map_cons, List.sum_cons, ih, tot_cons]; omega
theorem sc_total_bits : FnScope ["axes", "name", "bits"] ["axes"] (defScope s_total_bits) := C8.fnScope_by (by decide +kernel)
theorem c_total_bits (T : Tx K mg) : C8.Cal P w K mg base 1 "total_bits" spTotal [] := by
  refine cal_of T.d_total_bits T.g_total_bits sc_total_bits (by intro _ _ _ _ _ _ us hl; match us, hl with | [_], _ => rfl) (fun _ _ _ _ h => len1 h) (fun cdv A outer s H vs Q E hr h => ?_)
  obtain ⟨_, rfl, p, xs, rows, rfl, hp, hR, hn, h⟩ := h
  refine ⟨_, (pss_one (ps_ret (pe_callB (id := "sum") (cr_sum rfl) (by rfl) T.b_sum (by decide +kernel) (pa_cons (pe_lc (own := [("name", 1), ("bits", 2)]) (g := gTup K 2 (gCons (gName 1) (gCons (gName 2) gNil))) rfl sc_total_bits.nd (pi_sq (pv 0)) (blkOk_by (own := [("name", 1), ("bits", 2)]) (N := ["axes", "name", "bits"]) (sc := defScope s_total_bits) (by decide +kernel)) (fun _ _ _ _ _ => (pg_tup rfl (pgs_cons (pg_name (i := 1) sc_total_bits.nd rfl (Or.inl rfl)) (pgs_cons (pg_name (i := 2) sc_total_bits.nd rfl (Or.inl rfl)) pgs_nil)))) (fun _ _ _ _ _ => pts_nil) (fun _ _ _ _ _ => (pv 2))) pa_nil)))), ?_⟩
  refine ⟨_, rfl, p, xs, rfl, hp, fun J G W hG => fun D hD => ?_⟩
  refine lc_it W (fun i H' => Ex H H' ∧ H' D = some (.lst (((rows.take i).map fun r => (r.2 : Int)).map V.int))) ⟨Ex.new hD, upd_same⟩ (fun i H' _ ⟨e, _⟩ => hG H' (hp.same e)) ?_ ?_
  · rintro i x H2 _ hi ⟨e, hD2⟩ ⟨rfl, hx⟩
    obtain ⟨r, hr1, tr, rfl, htr⟩ := hR.at_ i x hx
    refine ⟨tr, _, rfl, .of (e _ _ htr), rfl, _, _, rfl, _, _, rfl, rfl, rfl, ?_⟩
    refine ⟨_, rfl, _, hD2, ?_, e.mut hD, ?_⟩
    · rw [List.length_map, List.length_map, List.length_take]
      exact Nat.lt_of_le_of_lt (by omega : _ ≤ 100) (by decide)
    · rw [upd_same, List.take_add_one, hr1, List.map_append, List.map_append]; rfl
  · rintro H2 ⟨e, hD2⟩
    rw [hR.len, List.take_length] at hD2
    refine ⟨D, _, rfl, .of hD2, ?_⟩
    exact q_int (sum_N rows) (h H2 e)
/-! has_axis, want_axis, want_free, number_of, axis_size -/
abbrev AxT (H : Hp) (p : Addr) (rows : List Row) : Prop := ∃ xs, H p = some (.tup xs) ∧ RowsV H xs rows
theorem AxT.ex {H H' : Hp} {p : Addr} {rows : List Row} (e : Ex H H') (h : AxT H p rows) : AxT H' p rows := let ⟨xs, a, b⟩ := h; ⟨xs, e _ _ a, b.ex e⟩
abbrev spHas : Sp := spF2 fun a b H Q => ∃ (p : Addr) (rows : List Row) (n : Str), a = .ref p ∧ b = .str n ∧ AxT H p rows ∧ rows.length ≤ 100 ∧ n ∈ nms rows ∧ ∀ H', Ex H H' → Q (.bl true) H'
theorem sc_has_axis : FnScope ["axes", "name"] ["axes", "name"] (defScope s_has_axis) := C8.fnScope_by (by decide +kernel)
theorem c_has_axis (T : Tx K mg) : C8.Cal P w K mg base 2 "has_axis" spHas [] := by
  refine cal_of T.d_has_axis T.g_has_axis sc_has_axis (by intro _ _ _ _ _ _ us hl; match us, hl with | [_, _], _ => rfl) (fun _ _ _ _ h => len2 h) (fun cdv A outer s H vs Q E hr h => ?_)
  obtain ⟨_, _, rfl, p, rows, n, rfl, rfl, ⟨xs, hp, hR⟩, hl, hm, h⟩ := h
  refine ⟨_, (pss_one (ps_ret (pe_and (pe_callB (id := "isinstance") call_isi (by rfl) T.b_isinstance (by decide +kernel) (pa_cons (pv 1) (pa_cons (pe_bltn (v := .ty "str") (by rfl) T.b_str (by decide +kernel) rfl) pa_nil))) (pe_one (pe_cmpR op_in_seq (pv 1) (C8.pe_c (c_names_of T) hr (by decide) (by rfl) (pa_cons (pv 0) pa_nil)) (by with_unfolding_all rfl)))))), ?_⟩
  refine ⟨_, rfl, _, _, _, _, true, rfl, .ty "str", .base (.str _), kit_ty (by decide +kernel), true, rfl, ?_⟩
  refine iteT ⟨_, rfl, _, rfl, _, rfl, p, xs, rows, rfl, .inr hp, hR, hl, fun l H1 hl1 e1 hq => ?_⟩
  refine ⟨l, _, rfl, .inl (.of hq), rfl, flat_names _, ?_⟩
  rw [inV_in hm]; exact h _ e1
abbrev spWantAxis : Sp := spF2 fun a b H Q => ∃ (p : Addr) (rows : List Row) (n : Str), a = .ref p ∧ b = .str n ∧ AxT H p rows ∧ rows.length ≤ 100 ∧ n ∈ nms rows ∧ ∀ H', Ex H H' → Q .non H'
theorem sc_want_axis : FnScope ["axes", "name"] ["axes", "name"] (defScope s_want_axis) := C8.fnScope_by (by decide +kernel)
theorem c_want_axis (T : Tx K mg) : C8.Cal P w K mg base 3 "want_axis" spWantAxis [] := by
  refine cal_of T.d_want_axis T.g_want_axis sc_want_axis (by intro _ _ _ _ _ _ us hl; match us, hl with | [_, _], _ => rfl) (fun _ _ _ _ h => len2 h) (fun cdv A outer s H vs Q E hr h => ?_)
  obtain ⟨_, _, rfl, p, rows, n, rfl, rfl, hA, hl, hm, h⟩ := h
  refine ⟨_, (pss_one (ps_if (pt_not (pt_val (C8.pe_c (c_has_axis T) hr (by decide) (by rfl) (pa_cons (pv 0) (pa_cons (pv 1) pa_nil))))) (pss_one ps_never) pss_nil)), ?_⟩
  exact ⟨_, rfl, _, rfl, _, _, rfl, p, rows, n, rfl, rfl, hA, hl, hm, fun H1 e1 => ⟨_, rfl, h _ e1⟩⟩
abbrev spWantFree : Sp := spF2 fun a b H Q => ∃ (p : Addr) (rows : List Row) (n : Str), a = .ref p ∧ b = .str n ∧ AxT H p rows ∧ rows.length ≤ 100 ∧ n ∉ nms rows ∧ ∀ H', Ex H H' → Q .non H'
theorem sc_want_free : FnScope ["axes", "name"] ["axes", "name"] (defScope s_want_free) := C8.fnScope_by (by decide +kernel)
theorem c_want_free (T : Tx K mg) : C8.Cal P w K mg base 2 "want_free" spWantFree [] := by
  refine cal_of T.d_want_free T.g_want_free sc_want_free (by intro _ _ _ _ _ _ us hl; match us, hl with | [_, _], _ => rfl) (fun _ _ _ _ h => len2 h) (fun cdv A outer s H vs Q E hr h => ?_)
  obtain ⟨_, _, rfl, p, rows, n, rfl, rfl, ⟨xs, hp, hR⟩, hl, hm, h⟩ := h
  refine ⟨_, (pss_one (ps_if (pt_cmpR op_in_seq (pv 1) (C8.pe_c (c_names_of T) hr (by decide) (by rfl) (pa_cons (pv 0) pa_nil)) (by with_unfolding_all rfl)) (pss_one ps_never) pss_nil)), ?_⟩
  refine ⟨_, rfl, _, rfl, _, rfl, p, xs, rows, rfl, .inr hp, hR, hl, fun l H1 hl1 e1 hq => ?_⟩
  refine ⟨l, _, rfl, .inl (.of hq), rfl, flat_names _, _, rfl, ?_⟩
  rw [inV_names hm]; exact h _ e1
abbrev spNumber : Sp := spF2 fun a b H Q => ∃ (p : Addr) (rows : List Row) (n : Str) (i : Nat) (r : Row), a = .ref p ∧ b = .str n ∧ AxT H p rows ∧ RowsOk rows ∧ At rows n i r ∧ ∀ H', Ex H H' → Q (vN i) H'
theorem sc_number_of : FnScope ["axes", "name"] ["axes", "name"] (defScope s_number_of) := C8.fnScope_by (by decide +kernel)
theorem c_number_of (T : Tx K mg) : C8.Cal P w K mg base 2 "number_of" spNumber [] := by
  refine cal_of T.d_number_of T.g_number_of sc_number_of (by intro _ _ _ _ _ _ us hl; match us, hl with | [_, _], _ => rfl) (fun _ _ _ _ h => len2 h) (fun cdv A outer s H vs Q E hr h => ?_)
  obtain ⟨_, _, rfl, p, rows, n, i, r, rfl, rfl, ⟨xs, hp, hR⟩, ok, hm, h⟩ := h
  refine ⟨_, (pss_one (ps_ret (pe_bm PySem.F.plainAttrs_list PySem.F.slot_list_index PySem.F.type_list_index mt_index (C8.pe_c (c_names_of T) hr (by decide) (by rfl) (pa_cons (pv 0) pa_nil)) (pa_cons (pv 1) pa_nil)))), ?_⟩
  refine ⟨_, rfl, _, rfl, p, xs, rows, rfl, .inr hp, hR, ok.ln, fun l H1 hl1 e1 hq => ?_⟩
  have hi : (nms rows)[i]? = some n := by rw [List.getElem?_map, hm.at_]; exact congrArg some hm.nm
  refine ⟨.inl ⟨rfl, _, .of hq⟩, _, rfl, l, _, .str n, i, .str n, rfl, rfl, .of hq, rfl, flat_names _, ?_, ?_, fun m z' hmi hz => ?_, h _ e1⟩
  · rw [List.getElem?_map, hi]; rfl
  · show (n == n) = true; exact beq_self_eq_true n
  · rw [List.getElem?_map] at hz
    cases q : (nms rows)[m]? with
    | none => rw [q] at hz; cases hz
    | some x =>
      rw [q] at hz
      obtain rfl := (Option.some.inj hz).symm
      show (x == n) = false
      refine beq_eq_false_iff_ne.mpr fun z => ?_
      subst z
      have := nd_ix ok.nd q hi
      omega
abbrev spSize : Sp := spF2 fun a b H Q => ∃ (p : Addr) (rows : List Row) (n : Str) (i : Nat) (r : Row), a = .ref p ∧ b = .str n ∧ AxT H p rows ∧ RowsOk rows ∧ At rows n i r ∧ ∀ H', Ex H H' → Q (vN r.2) H'
theorem sc_axis_size : FnScope ["axes", "name"] ["axes", "name"] (defScope s_axis_size) := C8.fnScope_by (by decide +kernel)
theorem c_axis_size (T : Tx K mg) : C8.Cal P w K mg base 3 "axis_size" spSize [] := by
  refine cal_of T.d_axis_size T.g_axis_size sc_axis_size (by intro _ _ _ _ _ _ us hl; match us, hl with | [_, _], _ => rfl) (fun _ _ _ _ h => len2 h) (fun cdv A outer s H vs Q E hr h => ?_)
  obtain ⟨_, _, rfl, p, rows, n, i, r, rfl, rfl, ⟨xs, hp, hR⟩, ok, hm, h⟩ := h
  refine ⟨_, (pss_one (ps_ret (pe_ix ix_tup (pe_ix ix_tup (pv 0) (C8.pe_c (c_number_of T) hr (by decide) (by rfl) (pa_cons (pv 0) (pa_cons (pv 1) pa_nil))) (fun _ _ => rfl)) pe_int (fun _ _ => rfl)))), ?_⟩
  obtain ⟨x, hx, tr, rfl, htr⟩ := hR.back hm.at_
  refine ⟨_, rfl, _, rfl, _, rfl, _, _, rfl, p, rows, n, i, r, rfl, rfl, ⟨xs, hp, hR⟩, ok, hm, fun H1 e1 => ?_⟩
  refine ⟨p, _, _, _, rfl, rfl, .of (e1 _ _ hp), atI_nat (j := i) hx, ?_⟩
  exact ⟨tr, _, _, _, rfl, rfl, .of (e1 _ _ htr), atI_nat (j := 1) rfl, h _ e1⟩
/-! lowest_bit, axis_positions -/
abbrev spLowest : Sp := spF2 fun a b H Q => ∃ (p : Addr) (rows : List Row) (n : Str) (i : Nat) (r : Row), a = .ref p ∧ b = .str n ∧ AxT H p rows ∧ RowsOk rows ∧ At rows n i r ∧ ∀ H', Ex H H' → Q (vN (low rows i)) H'
theorem sc_lowest_bit : FnScope ["axes", "name"] ["axes", "name"] (defScope s_lowest_bit) := C8.fnScope_by (by decide +kernel)
theorem c_lowest_bit (T : Tx K mg) : C8.Cal P w K mg base 3 "lowest_bit" spLowest [] := by
  refine cal_of T.d_lowest_bit T.g_lowest_bit sc_lowest_bit (by intro _ _ _ _ _ _ us hl; match us, hl with | [_, _], _ => rfl) (fun _ _ _ _ h => len2 h) (fun cdv A outer s H vs Q E hr h => ?_)
  obtain ⟨_, _, rfl, p, rows, n, i, r, rfl, rfl, ⟨xs, hp, hR⟩, ok, hm, h⟩ := h
  refine ⟨_, (pss_one (ps_ret (C8.pe_c (c_total_bits T) hr (by decide) (by rfl) (pa_cons (pe_slice sl_tupA (pv 0) po_none (po_some (C8.pe_c (c_number_of T) hr (by decide) (by rfl) (pa_cons (pv 0) (pa_cons (pv 1) pa_nil))))) pa_nil)))), ?_⟩
  have hi : i < xs.length := by rw [hR.len]; exact (List.getElem?_eq_some_iff.mp hm.at_).1
  refine ⟨_, rfl, _, rfl, _, rfl, _, _, rfl, p, rows, n, i, r, rfl, rfl, ⟨xs, hp, hR⟩, ok, hm, fun H1 e1 => ?_⟩
  refine ⟨_, rfl, p, xs, rfl, .of (e1 _ _ hp), fun hw => ?_, fun hw t ht => ?_⟩
  · have e : i = rows.length := by
      have h2 := hw.2
      rw [HT.sIx_nat] at h2
      rw [← hR.len]; omega
    have := hR.len
    omega
  · have hc : cutV xs none (some (i : Int)) = xs.take i := by
      unfold cutV
      rw [HT.sIx_none, HT.sIx_nat, List.drop_zero, Nat.sub_zero, Nat.min_eq_left (Nat.le_of_lt hi)]
    have e2 : Ex H1 (upd H1 t (.tup (cutV xs none (some (i : Int))))) := Ex.new ht
    have ht2 : upd H1 t (.tup (cutV xs none (some (i : Int)))) t = some (.tup (xs.take i)) := by rw [upd_same, hc]
    refine ⟨_, rfl, t, xs.take i, rows.take i, rfl, .inr ht2, (hR.take i).ex (e1.trans e2), ?_, fun H3 e3 => h _ (Same.trans (e1.trans e2) e3)⟩
    rw [List.length_take]; have := ok.ln; omega
abbrev spAxPos : Sp := spF2 fun a b H Q => ∃ (p : Addr) (rows : List Row) (n : Str) (i : Nat) (r : Row), a = .ref p ∧ b = .str n ∧ AxT H p rows ∧ RowsOk rows ∧ At rows n i r ∧
  ∀ l H', H l = none → Ex H H' → H' l = some (.lst (vL ((List.range r.2).map (low rows i + ·)))) → Q (.ref l) H'
theorem rgV_N (a n : Nat) : rgV (a : Int) ((a : Int) + (n : Int)) = vL ((List.range n).map (a + ·)) := by
  unfold rgV vL
  rw [show ((a : Int) + (n : Int) - (a : Int)).toNat = n by omega, List.map_map]
  refine List.map_congr_left fun i _ => ?_
  show V.int _ = V.int _
  congr 1
theorem sc_axis_positions : FnScope ["axes", "name", "first"] ["axes", "name"] (defScope s_axis_positions) := C8.fnScope_by (by decide +kernel)
theorem c_axis_positions (T : Tx K mg) : C8.Cal P w K mg base 4 "axis_positions" spAxPos [] := by
  refine cal_of T.d_axis_positions T.g_axis_positions sc_axis_positions (by intro _ _ _ _ _ _ us hl; match us, hl with | [_, _], _ => rfl) (fun _ _ _ _ h => len2 h) (fun cdv A outer s H vs Q E hr h => ?_)
  obtain ⟨_, _, rfl, p, rows, n, i, r, rfl, rfl, hA, ok, hm, h⟩ := h
  refine ⟨_, (pss_cons (ps_set (i := 2) sc_axis_positions.nd rfl (Or.inl rfl) (C8.pe_c (c_lowest_bit T) hr (by decide) (by rfl) (pa_cons (pv 0) (pa_cons (pv 1) pa_nil)))) (pss_one (ps_ret (pe_listRg rfl (by rfl) T.b_list (prg_2 (by rfl) T.b_range (pv 2) (pe_op op_add (pv 2) (C8.pe_c (c_axis_size T) hr (by decide) (by rfl) (pa_cons (pv 0) (pa_cons (pv 1) pa_nil))))))))), ?_⟩
  have hz := hm.sz
  have ht := ok.tt
  refine ⟨_, rfl, _, rfl, _, _, rfl, p, rows, n, i, r, rfl, rfl, hA, ok, hm, fun H1 e1 => ?_⟩
  refine ⟨_, rfl, _, rfl, _, rfl, _, rfl, _, _, rfl, p, rows, n, i, r, rfl, rfl, hA.ex e1, ok, hm, fun H2 e2 => ?_⟩
  refine ⟨_, _, rfl, rfl, _, _, rfl, rfl, RgOk.of_le (by omega) (by omega) (by omega) (by omega), fun l hl => ?_⟩
  refine h l _ ((e1.trans e2).free hl) (Ex.mut (e1.trans e2) ((e1.trans e2).free hl)) ?_
  rw [upd_same, rgV_N]
abbrev spWantIndex : Sp := spF3 fun a b c H Q => ∃ (p : Addr) (rows : List Row) (n : Str) (i : Nat) (r : Row) (v : Nat), a = .ref p ∧ b = .str n ∧ c = vN v ∧ AxT H p rows ∧ RowsOk rows ∧ At rows n i r ∧ v < 2 ^ r.2 ∧ ∀ H', Ex H H' → Q .non H'
theorem sc_want_index : FnScope ["axes", "name", "value"] ["axes", "name", "value"] (defScope s_want_index) := C8.fnScope_by (by decide +kernel)
theorem c_want_index (T : Tx K mg) : C8.Cal P w K mg base 4 "want_index" spWantIndex [] := by
  refine cal_of T.d_want_index T.g_want_index sc_want_index (by intro _ _ _ _ _ _ us hl; match us, hl with | [_, _, _], _ => rfl) (fun _ _ _ _ h => len3 h) (fun cdv A outer s H vs Q E hr h => ?_)
  obtain ⟨_, _, _, rfl, p, rows, n, i, r, v, rfl, rfl, rfl, hA, ok, hm, hv, h⟩ := h
  refine ⟨_, (pss_one (ps_if (pt_not (pt_val (C8.pe_c (c_fits T) hr (by decide) (by rfl) (pa_cons (pv 2) (pa_cons (C8.pe_c (c_axis_size T) hr (by decide) (by rfl) (pa_cons (pv 0) (pa_cons (pv 1) pa_nil))) pa_nil))))) (pss_one ps_never) pss_nil)), ?_⟩
  have hz := hm.sz
  have ht := ok.tt
  refine ⟨_, rfl, _, rfl, _, rfl, _, _, rfl, p, rows, n, i, r, rfl, rfl, hA, ok, hm, fun H1 e1 => ?_⟩
  refine ⟨_, _, rfl, v, r.2, rfl, rfl, by omega, _, rfl, ?_⟩
  rw [decide_eq_true hv]
  exact h _ e1
abbrev spWantAP : Sp := spF3 fun a b c H Q => ∃ (p : Addr) (rows : List Row) (n : Str) (i : Nat) (r : Row) (v : Nat), a = .ref p ∧ b = .str n ∧ c = vN v ∧ AxT H p rows ∧ RowsOk rows ∧ At rows n i r ∧ v < r.2 ∧ ∀ H', Ex H H' → Q .non H'
theorem sc_want_axis_position : FnScope ["axes", "name", "value"] ["axes", "name", "value"] (defScope s_want_axis_position) := C8.fnScope_by (by decide +kernel)
theorem c_want_axis_position (T : Tx K mg) : C8.Cal P w K mg base 4 "want_axis_position" spWantAP [] := by
  refine cal_of T.d_want_axis_position T.g_want_axis_position sc_want_axis_position (by intro _ _ _ _ _ _ us hl; match us, hl with | [_, _, _], _ => rfl) (fun _ _ _ _ h => len3 h) (fun cdv A outer s H vs Q E hr h => ?_)
  obtain ⟨_, _, _, rfl, p, rows, n, i, r, v, rfl, rfl, rfl, hA, ok, hm, hv, h⟩ := h
  refine ⟨_, (pss_one (ps_if (PW.pt (pw_or (pt_not (pt_val (C8.pe_c (c_is_integer T) hr (by decide) (by rfl) (pa_cons (pv 2) pa_nil)))) (pw_or1 (pt_not (pt_chain op_le op_lt pe_int (pv 2) (C8.pe_c (c_axis_size T) hr (by decide) (by rfl) (pa_cons (pv 0) (pa_cons (pv 1) pa_nil)))))))) (pss_one ps_never) pss_nil)), ?_⟩
  have h0 : (0 : Int) ≤ (v : Int) := by omega
  have h1 : (v : Int) < (r.2 : Int) := by omega
  refine ⟨_, rfl, _, rfl, _, rfl, _, rfl, ?_⟩
  refine iteF ⟨_, rfl, _, _, rfl, rfl, _, rfl, ?_⟩
  refine iteY h0 ⟨_, rfl, _, rfl, _, _, rfl, p, rows, n, i, r, rfl, rfl, hA, ok, hm, fun H1 e1 => ?_⟩
  refine ⟨_, _, rfl, rfl, _, rfl, ?_⟩
  refine iteNS h1 ?_
  exact h _ e1
end
end My
/-! *** W7 -/
namespace My
open PySem PySem.Spec PyProof.Rows L2 He
local macro_rules | `(tactic| walk_at "go") => `(tactic| repeat (first | refine And.intro rfl ?_ | refine iteT ?_ | refine iteF ?_ | refine iteNS (by assumption) ?_ | apply Exists.intro | refine And.intro (by assumption) ?_))
theorem hu1 {k : Nat} {A : Around} (r : Room k A) : A.units + 1 < cLine := by have := r.units; omega
theorem and_N (a b : Nat) : Builtin.bitAnd (a : Int) (b : Int) = ((a &&& b : Nat) : Int) := by
  have h := PyProof.Rows.bitAnd_pp (x := (a : Int)) (y := (b : Int)) (by omega) (by omega)
  simpa using h
theorem mask_N (a n : Nat) : Builtin.bitAnd (a : Int) (1 * 2 ^ ((n : Int).toNat) - 1) = ((a % 2 ^ n : Nat) : Int) := by
  have h : (1 * 2 ^ ((n : Int).toNat) - 1 : Int) = ((2 ^ n - 1 : Nat) : Int) := by
    have := Nat.two_pow_pos n
    rw [Int.toNat_natCast, Int.one_mul]
    have e : ((2 ^ n - 1 : Nat) : Int) = ((2 ^ n : Nat) : Int) - 1 := by omega
    rw [e]; norm_cast
  rw [h, and_N, Nat.and_two_pow_sub_one_eq_mod]
/-! ### a place split -/
def idxR : List Row → Nat → List (Str × Nat)
  | [], _ => []
  | r :: rows, p => (r.1, p % 2 ^ r.2) :: idxR rows (p >>> r.2)
theorem idxR_snoc (rows : List Row) (r : Row) (p : Nat) : idxR (rows ++ [r]) p = idxR rows p ++ [(r.1, (p >>> tot rows) % 2 ^ r.2)] := by
  induction rows generalizing p with
  | nil => simp [idxR, tot]
  | cons x rows ih => rw [List.cons_append, idxR, idxR, ih, List.cons_append, tot_cons, Nat.shiftRight_add]
theorem idxR_names (rows : List Row) (p : Nat) : (idxR rows p).map (·.1) = nms rows := by
  induction rows generalizing p with
  | nil => rfl
  | cons x rows ih => rw [idxR, List.map_cons, ih]; rfl
theorem idxR_len (rows : List Row) (p : Nat) : (idxR rows p).length = rows.length := by
  have := congrArg List.length (idxR_names rows p)
  simpa using this
abbrev dkv (l : List (Str × Nat)) : List (Key × V) := l.map fun x => (.inr x.1, vN x.2)
theorem dkv_none {l : List (Str × Nat)} {n : Str} (h : n ∉ l.map (·.1)) : valV (dkv l) (.inr n) = none := by
  induction l with
  | nil => rfl
  | cons x l ih =>
    rw [List.map_cons] at h
    have h1 : ¬ (Sum.inr x.1 : Key) = .inr n := fun z => h (by injection z with z; rw [z]; exact List.mem_cons_self)
    show valV ((.inr x.1, vN x.2) :: dkv l) _ = none
    rw [valV_neg h1]
    exact ih fun q => h (List.mem_cons_of_mem _ q)
theorem take_names {rows : List Row} (nd : (nms rows).Nodup) {i : Nat} {r : Row} (h : rows[i]? = some r) : r.1 ∉ nms (rows.take i) := fun q => by
  obtain ⟨r2, hr2, e2⟩ := List.mem_map.mp q
  obtain ⟨j, hj⟩ := List.getElem?_of_mem hr2
  rw [List.getElem?_take] at hj
  split at hj
  · rename_i hji
    have n1 : (rows.map (·.1))[j]? = some r.1 := by rw [List.getElem?_map, hj]; exact congrArg some e2
    have n2 : (rows.map (·.1))[i]? = some r.1 := by rw [List.getElem?_map, h]; rfl
    have := nd_ix nd n1 n2
    omega
  · cases hj
section
variable {P : Program} {w : World} {K : PySem.W.Frag} {mg : Str → Option Value} {base : Heap}
abbrev spSplit : Sp := spF2 fun a b H Q => ∃ (p : Addr) (rows : List Row) (v : Nat), a = .ref p ∧ b = vN v ∧ AxT H p rows ∧ RowsOk rows ∧
  ∀ d H', H d = none → Ex H H' → H' d = some (.dK (dkv (idxR rows v))) → Q (.ref d) H'
theorem sc_split_place : FnScope ["axes", "place", "found", "rest", "name", "bits"] ["axes", "place"] (defScope s_split_place) := C8.fnScope_by (by decide +kernel)
theorem c_split_place (T : Tx K mg) : C8.Cal P w K mg base 1 "split_place" spSplit [] := by
  refine cal_of T.d_split_place T.g_split_place sc_split_place (by intro _ _ _ _ _ _ us hl; match us, hl with | [_, _], _ => rfl) (fun _ _ _ _ h => len2 h) (fun cdv A outer s H vs Q E hr h => ?_)
  obtain ⟨_, _, rfl, p, rows, v, rfl, rfl, ⟨xs, hp, hR⟩, ok, h⟩ := h
  refine ⟨_, (pss_cons (ps_par (i := 2) (j := 3) rfl sc_split_place.nd rfl rfl (by decide) rfl rfl (pa_cons pe_dnewK (pa_cons (pv 1) pa_nil)) (by rfl)) (pss_cons (ps_for PassesOwn.never rfl (pi_sq (pv 0)) (pg_tup rfl (pgs_cons (pg_name (i := 4) sc_split_place.nd rfl (Or.inl rfl)) (pgs_cons (pg_name (i := 5) sc_split_place.nd rfl (Or.inl rfl)) pgs_nil))) (pss_cons (ps_dput (hu1 hr) (pv 2) (pv 4) (pe_op op_and (pv 3) (pe_op op_sub (pe_op op_shl pe_int (pv 5)) pe_int)) rfl) (pss_one (ps_set (i := 3) sc_split_place.nd rfl (Or.inl rfl) (pe_op op_shr (pv 3) (pv 5)))))) (pss_one (ps_ret (pv 2))))), ?_⟩
  refine fun d hd => ?_
  refine ⟨_, rfl, _, _, rfl, _, rfl, p, xs, rfl, .inr ?_, fun J G W hG => ?_⟩
  · rw [upd_ne (ne_of_none hp hd)]; exact hp
  refine for_it W (fun i σ H' => ∃ x y, σ = [some (.ref p), some (vN v), some (.ref d), some (vN (v >>> low rows i)), x, y] ∧ Ex H H' ∧ H' d = some (.dK (dkv (idxR (rows.take i) v))))
      ⟨_, _, rfl, Ex.new hd, upd_same⟩ (fun i σ H' _ ⟨_, _, _, e, _⟩ => hG H' ?_) ?_ ?_
  · rw [e _ _ hp, upd_ne (ne_of_none hp hd), hp]
  · rintro i x σ H2 _ hi ⟨u1, u2, rfl, e, hd2⟩ ⟨rfl, hx⟩
    obtain ⟨r, hr1, tr, rfl, htr⟩ := hR.at_ i x hx
    have hsum : low rows i + r.2 ≤ 16 := by
      have h1 := low_snoc hr1
      have h2 := low_le (rows := rows) (i + 1)
      have h3 := ok.tt
      omega
    refine ⟨tr, _, rfl, .of (e _ _ htr), rfl, _, _, rfl, _, _, rfl, rfl, ?_⟩
    refine ⟨_, rfl, _, rfl, _, _, rfl, rfl, cpow (n := r.2) (by omega), _, _, rfl, rfl, _, _, rfl, rfl, _, rfl, _, rfl, d, _, rfl, DPut.k (k := .inr r.1) hd2 ?_, ?_⟩
    · rw [List.length_map, idxR_len, List.length_take]
      have := ok.ln
      exact Nat.lt_of_le_of_lt (by omega : _ ≤ 100) (by decide)
    refine ⟨_, rfl, _, rfl, _, _, rfl, rfl, (by show (0 : Int) ≤ (r.2 : Int); omega), ?_⟩
    refine ⟨some (.str r.1), some (vN r.2), ?_, e.mut hd, ?_⟩
    · show [some (V.ref p), some (vN v), some (V.ref d), some (V.int (((v >>> low rows i : Nat) : Int) / 2 ^ ((r.2 : Int).toNat))), _, _] = _
      rw [shr_N, ← Nat.shiftRight_add, ← low_snoc hr1]
    · rw [upd_same]
      show some (HO.dK (putK _ _ (V.int (Builtin.bitAnd ((v >>> low rows i : Nat) : Int) (1 * 2 ^ ((r.2 : Int).toNat) - 1))))) = _
      rw [mask_N, putK_new _ (dkv_none (by rw [idxR_names]; exact take_names ok.nd hr1)), List.take_add_one, hr1]
      show _ = some (HO.dK (dkv (idxR (rows.take i ++ [r]) v)))
      rw [idxR_snoc]
      unfold dkv
      rw [List.map_append]; rfl
  · rintro σ H2 ⟨u1, u2, rfl, e, hd2⟩
    have hf : rows.take xs.length = rows := by rw [hR.len, List.take_length]
    rw [hf] at hd2
    exact ⟨_, rfl, h d H2 hd e hd2⟩
/-! spread -/
abbrev spSpread : Sp := spF3 fun a b c H Q => ∃ (p : Addr) (ps : List Nat) (n off : Nat), a = .ref p ∧ b = vN n ∧ c = vN off ∧ H p = some (.lst (vL ps)) ∧ ps.length ≤ 16 ∧ n ≤ 60 ∧ (∀ x ∈ ps, x < n) ∧ off < 2 ^ n ∧
  ∀ m H', H m = none → Ex H H' → MapAt K H' m (ps.map (2 ^ ·)) n off → Q (.ref m) H'
theorem sc_spread : FnScope ["positions", "bits", "offset", "position"] ["positions", "bits", "offset"] (defScope s_spread) := C8.fnScope_by (by decide +kernel)
theorem cal_ofD {x : Str} {f : Addr} {st : Stmt} {fd : FuncData} {dvs : List V} {ps : List Str} {k : Nat} {sp : Sp} (g : mg x = some (.ref f)) (F : FunD K x x (defArgs st) (defBody st) (defScope st) dvs [] f fd)
    (G : FnOk P w K mg base C8.CX0 k f fd ps sp) (n j : Nat) (hd : dvs ≠ []) (hn : n + (dvs.length - j) = ps.length)
    (h : ∀ (T : Addr) (kV doc pm : Value) (an : Option Addr) (cdv ct : Value) (us its : List Value), us.length = n → its.length = dvs.length →
      ∃ k, bindArgs (PySem.W.fnOf x x (defArgs st) (defBody st) (defScope st) (.ref T) kV doc pm an cdv ct) ⟨us, []⟩ = seqItems? (.ref T) >>= k ∧ k (some its.toArray) = pure (ps.zip (us ++ its.drop j))) : C8.Cal P w K mg base k x sp (dvs.drop j) := by
  obtain ⟨ds, r, b⟩ := F.binds1 n j hd hn h
  exact ⟨f, fd, ps, ds, G, g, F.kp, b, r⟩
theorem two_shl (x : Nat) : (1 : Int) * 2 ^ ((x : Int).toNat) = ((2 ^ x : Nat) : Int) := by
  rw [Int.one_mul, Int.toNat_natCast]; norm_cast
theorem c_spread (T : Tx K mg) : C8.Cal P w K mg base 6 "spread" (spSpread (K := K)) [] := by
  obtain ⟨fd, F⟩ := T.d_spread
  have G : FnOk P w K mg base C8.CX0 6 (ga K "spread") fd ["positions", "bits", "offset"] (spSpread (K := K)) := by
    refine F.ok sc_spread (fun _ _ _ _ h => len3 h) fun cdv A outer s H vs Q E hr h => ?_
    obtain ⟨_, _, _, rfl, p, ps, n, off, rfl, rfl, rfl, hp, hl, hn, hlt, ho, h⟩ := h
    refine ⟨_, PSs.nox (pss_one (ps_ret (C8.pe_mk (c_Map T) hr (by decide) (by rfl) (pa_cons (pe_lc (own := [("position", 3)]) (g := gName 3) rfl sc_spread.nd (pi_list (pv 0)) (blkOk_by (own := [("position", 3)]) (N := ["positions", "bits", "offset", "position"]) (sc := defScope s_spread) (by decide +kernel)) (fun _ _ _ _ _ => (pg_name (i := 3) sc_spread.nd rfl (Or.inl rfl))) (fun _ _ _ _ _ => pts_nil) (fun _ _ _ _ _ => (pe_op op_shl pe_int (pv 3)))) (pa_cons (pv 1) (pa_cons (pv 2) pa_nil)))))), ?_⟩
    refine ⟨_, rfl, p, rfl, ⟨_, .of hp⟩, fun D hD => ?_⟩
    refine lc_list (K := K) (a := p) (xs := vL ps) (fun i H' => Ex H H' ∧ H' D = some (.lst (vL ((ps.take i).map (2 ^ ·))))) ⟨Ex.new hD, upd_same⟩ (fun i H' _ ⟨e, _⟩ => .of (e _ _ hp)) ?_ ?_
    · rintro i x H2 hx ⟨e2, hD2⟩
      obtain ⟨c, hc, rfl⟩ := vL_at hx
      have hcl := hlt c (List.mem_of_getElem? hc)
      refine ⟨rfl, _, rfl, _, _, rfl, rfl, cpow (n := c) (by omega), ?_⟩
      refine ⟨_, hD2, ?_, Ex.mut e2 hD, ?_⟩
      · rw [List.length_map, List.length_map, List.length_take]
        exact Nat.lt_of_le_of_lt (by omega : _ ≤ 1000) (by decide)
      · rw [upd_same, List.take_add_one, hc, List.map_append, vL_app]
        show some (HO.lst (_ ++ [V.int (1 * 2 ^ ((c : Int).toNat))])) = _
        rw [two_shl]; rfl
    · rintro H2 ⟨e2, hD2⟩
      have hf : ps.take (vL ps).length = ps := by rw [List.length_map, List.take_length]
      rw [hf] at hD2
      refine ⟨_, rfl, _, rfl, ?_⟩
      refine fun m' dx hm' nd _ => mk_map hD2 ⟨hn, by rw [List.length_map]; exact hl, ?_, ho⟩ hm' nd fun H4 e4 hM => ⟨rfl, ?_⟩
      · intro z hz
        obtain ⟨y, hy, rfl⟩ := List.mem_map.mp hz
        exact Nat.pow_lt_pow_right (by decide) (hlt y hy)
      · exact h m' H4 (Same.free e2 hm') (Same.trans e2 e4) hM
  exact cal_ofD T.g_spread F G 3 1 (by simp) rfl fun _ _ _ _ _ _ _ us its hu hi => match us, its, hu, hi with | [_, _, _], [_], _, _ => ⟨_, rfl, rfl⟩
/-! replaced -/
abbrev spRepl : Sp := spF4 fun a b c d H Q => ∃ (p q : Addr) (ys : List V) (rows parts : List Row) (n : Str) (i : Nat) (r : Row), a = .ref p ∧ b = .str n ∧ c = vN 1 ∧ d = .ref q ∧ AxT H p rows ∧ RowsOk rows ∧ At rows n i r ∧
  H q = some (.lst ys) ∧ RowsV H ys parts ∧ parts.length ≤ 10 ∧ ∀ l H' zs, H l = none → Ex H H' → H' l = some (.lst zs) → RowsV H' zs (rows.take i ++ parts ++ rows.drop (i + 1)) → Q (.ref l) H'
theorem sc_replaced : FnScope ["axes", "name", "many", "parts", "at"] ["axes", "name", "many", "parts"] (defScope s_replaced) := C8.fnScope_by (by decide +kernel)
theorem c_replaced (T : Tx K mg) : C8.Cal P w K mg base 3 "replaced" spRepl [] := by
  refine cal_of T.d_replaced T.g_replaced sc_replaced (by intro _ _ _ _ _ _ us hl; match us, hl with | [_, _, _, _], _ => rfl) (fun _ _ _ _ h => len4 h) (fun cdv A outer s H vs Q E hr h => ?_)
  obtain ⟨_, _, _, _, rfl, p, q, ys, rows, parts, n, i, r, rfl, rfl, rfl, rfl, ⟨xs, hp, hR⟩, ok, hm, hq, hY, hpl, h⟩ := h
  refine ⟨_, (pss_cons (ps_set (i := 4) sc_replaced.nd rfl (Or.inl rfl) (C8.pe_c (c_number_of T) hr (by decide) (by rfl) (pa_cons (pv 0) (pa_cons (pv 1) pa_nil)))) (pss_one (ps_ret (pe_op op_cat (pe_op op_cat (pe_callTy (T := "list") call_list_of (by rfl) T.b_list (by decide +kernel) (pa_cons (pe_slice sl_tupA (pv 0) po_none (po_some (pv 4))) pa_nil)) (pe_callTy (T := "list") call_list_of (by rfl) T.b_list (by decide +kernel) (pa_cons (pv 3) pa_nil))) (pe_callTy (T := "list") call_list_of (by rfl) T.b_list (by decide +kernel) (pa_cons (pe_slice sl_tupA (pv 0) (po_some (pe_op op_add (pv 4) (pv 2))) po_none) pa_nil)))))), ?_⟩
  have hi : i < xs.length := by rw [hR.len]; exact (List.getElem?_eq_some_iff.mp hm.at_).1
  have hln : xs.length ≤ 100 := by rw [hR.len]; exact ok.ln
  refine ⟨_, rfl, _, rfl, _, _, rfl, p, rows, n, i, r, rfl, rfl, ⟨xs, hp, hR⟩, ok, hm, fun H1 e1 => ?_⟩
  refine ⟨_, rfl, _, rfl, _, rfl, p, xs, rfl, .of (e1 _ _ hp), fun hw => ?_, fun hw t ht => ?_⟩
  · have h2 := hw.2
    rw [HT.sIx_nat] at h2
    omega
  have hc : cutV xs none (some (i : Int)) = xs.take i := by
    unfold cutV
    rw [HT.sIx_none, HT.sIx_nat, List.drop_zero, Nat.sub_zero, Nat.min_eq_left (Nat.le_of_lt hi)]
  have e2 : Ex H1 (upd H1 t (.tup (cutV xs none (some (i : Int))))) := Ex.new ht
  have ht2 : upd H1 t (.tup (cutV xs none (some (i : Int)))) t = some (.tup (xs.take i)) := by rw [upd_same, hc]
  generalize upd H1 t (.tup (cutV xs none (some (i : Int)))) = H2 at e2 ht2
  refine ⟨t, _, rfl, .inr (.of ht2), fun l1 hl1 => ?_⟩
  have e3 : Ex H2 (upd H2 l1 (.lst (xs.take i))) := Ex.new hl1
  have hl1v : upd H2 l1 (.lst (xs.take i)) l1 = some (.lst (xs.take i)) := upd_same
  generalize upd H2 l1 (.lst (xs.take i)) = H3 at e3 hl1v
  have e13 : Ex H H3 := (e1.trans e2).trans e3
  refine ⟨_, rfl, q, _, rfl, .inl (.of (e13 _ _ hq)), fun l2 hl2 => ?_⟩
  have e4 : Ex H3 (upd H3 l2 (.lst ys)) := Ex.new hl2
  have hl2v : upd H3 l2 (.lst ys) l2 = some (.lst ys) := upd_same
  generalize upd H3 l2 (.lst ys) = H4 at e4 hl2v
  refine ⟨l1, l2, _, _, rfl, rfl, e4 _ _ hl1v, hl2v, ?_, fun l3 hl3 => ?_⟩
  · rw [List.length_take, hY.len]; exact Nat.le_trans (by omega : _ ≤ 200) (by decide)
  have e5 : Ex H4 (upd H4 l3 (.lst (xs.take i ++ ys))) := Ex.new hl3
  have hl3v : upd H4 l3 (.lst (xs.take i ++ ys)) l3 = some (.lst (xs.take i ++ ys)) := upd_same
  generalize upd H4 l3 (.lst (xs.take i ++ ys)) = H5 at e5 hl3v
  have e15 : Ex H H5 := (e13.trans e4).trans e5
  refine ⟨_, rfl, _, rfl, _, rfl, _, _, rfl, rfl, _, rfl, p, xs, rfl, .of (e15 _ _ hp), fun hw => ?_, fun hw t2 ht2 => ?_⟩
  · have h2 := hw.1
    have h3 : HT.sIx xs.length 0 (some (((i + 1 : Nat) : Int))) = 0 := h2
    rw [HT.sIx_nat] at h3
    omega
  have hc2 : cutV xs (some ((i : Int) + ((1 : Nat) : Int))) none = xs.drop (i + 1) := by
    show cutV xs (some (((i + 1 : Nat) : Int))) none = _
    unfold cutV
    rw [HT.sIx_none, HT.sIx_nat, Nat.min_eq_left (by omega), List.take_of_length_le (by rw [List.length_drop]; omega)]
  have e6 : Ex H5 (upd H5 t2 (.tup (cutV xs (some ((i : Int) + ((1 : Nat) : Int))) none))) := Ex.new ht2
  have ht2v : upd H5 t2 (.tup (cutV xs (some ((i : Int) + ((1 : Nat) : Int))) none)) t2 = some (.tup (xs.drop (i + 1))) := by rw [upd_same, hc2]
  refine ⟨t2, _, rfl, .inr (.of ht2v), fun l4 hl4 => ?_⟩
  generalize upd H5 t2 (.tup (cutV xs (some ((i : Int) + ((1 : Nat) : Int))) none)) = H6 at e6 ht2v hl4
  have e7 : Ex H6 (upd H6 l4 (.lst (xs.drop (i + 1)))) := Ex.new hl4
  have hl4v : upd H6 l4 (.lst (xs.drop (i + 1))) l4 = some (.lst (xs.drop (i + 1))) := upd_same
  refine ⟨l3, l4, _, _, rfl, rfl, e7 _ _ (e6 _ _ hl3v), hl4v, ?_, fun l5 hl5 => ?_⟩
  · rw [List.length_append, List.length_take, List.length_drop, hY.len]; exact Nat.le_trans (by omega : _ ≤ 300) (by decide)
  have e17 : Ex H (upd H6 l4 (.lst (xs.drop (i + 1)))) := (e15.trans e6).trans e7
  refine h l5 _ _ (e17.free hl5) (Ex.mut e17 (e17.free hl5)) upd_same ?_
  exact (((hR.take i).app hY).app (hR.drop (i + 1))).ex (Ex.mut e17 (e17.free hl5))
end
end My
/-! *** W8 -/
namespace My
open PySem PySem.Spec PyProof.Rows L2 He
local macro_rules | `(tactic| walk_at "go") => `(tactic| repeat (first | refine And.intro rfl ?_ | refine iteT ?_ | refine iteF ?_ | refine iteNS (by assumption) ?_ | apply Exists.intro | refine And.intro (by assumption) ?_))
abbrev units (n : Nat) : List Nat := (List.range n).map (2 ^ ·)
abbrev mixCols (n a b : Nat) : List Nat := (units n).set a (2 ^ a ||| 2 ^ b)
abbrev dropCols (n : Nat) (dr : List Nat) : List Nat := ((List.range n).filter fun x => decide (x ∉ dr)).map (2 ^ ·)
abbrev selCols (n b : Nat) : List Nat := units n ++ List.replicate b 0
theorem range_snoc (n : Nat) : List.range (n + 1) = List.range n ++ [n] := List.range_succ
section
variable {P : Program} {w : World} {K : PySem.W.Frag} {mg : Str → Option Value} {base : Heap}
abbrev spMix : Sp := spF5 fun a b c d e H Q => ∃ (p : Addr) (rows : List Row) (n1 n2 : Str) (i1 i2 : Nat) (r1 r2 : Row) (k1 k2 : Nat), a = .ref p ∧ b = .str n1 ∧ c = vN k1 ∧ d = .str n2 ∧ e = vN k2 ∧ AxT H p rows ∧ RowsOk rows ∧ At rows n1 i1 r1 ∧ At rows n2 i2 r2 ∧
  k1 < r1.2 ∧ k2 < r2.2 ∧ low rows i1 + k1 ≠ low rows i2 + k2 ∧ ∀ m H', H m = none → Ex H H' → MapAt K H' m (mixCols (tot rows) (low rows i2 + k2) (low rows i1 + k1)) (tot rows) 0 → Q (.ref m) H'
theorem sc_mixing_map : FnScope ["axes", "name", "position", "other", "other_position", "changed", "added", "columns", "k"] ["axes", "name", "position", "other", "other_position"] (defScope s_mixing_map) := C8.fnScope_by (by decide +kernel)
theorem c_mixing_map (T : Tx K mg) : C8.Cal P w K mg base 6 "mixing_map" (spMix (K := K)) [] := by
  refine cal_of T.d_mixing_map T.g_mixing_map sc_mixing_map (by intro _ _ _ _ _ _ us hl; match us, hl with | [_, _, _, _, _], _ => rfl) (fun _ _ _ _ h => len5 h) (fun cdv A outer s H vs Q E hr h => ?_)
  obtain ⟨_, _, _, _, _, rfl, p, rows, n1, n2, i1, i2, r1, r2, k1, k2, rfl, rfl, rfl, rfl, rfl, hA, ok, hm1, hm2, hk1, hk2, hne, h⟩ := h
  obtain ⟨xs, hp, hR⟩ := id hA
  refine ⟨_, (pss_cons (ps_expr (C8.pe_c (c_want_axis T) hr (by decide) (by rfl) (pa_cons (pv 0) (pa_cons (pv 1) pa_nil)))) (pss_cons (ps_expr (C8.pe_c (c_want_axis T) hr (by decide) (by rfl) (pa_cons (pv 0) (pa_cons (pv 3) pa_nil)))) (pss_cons (ps_expr (C8.pe_c (c_want_axis_position T) hr (by decide) (by rfl) (pa_cons (pv 0) (pa_cons (pv 1) (pa_cons (pv 2) pa_nil))))) (pss_cons (ps_expr (C8.pe_c (c_want_axis_position T) hr (by decide) (by rfl) (pa_cons (pv 0) (pa_cons (pv 3) (pa_cons (pv 4) pa_nil))))) (pss_cons (ps_set (i := 5) sc_mixing_map.nd rfl (Or.inl rfl) (pe_op op_add (C8.pe_c (c_lowest_bit T) hr (by decide) (by rfl) (pa_cons (pv 0) (pa_cons (pv 1) pa_nil))) (pv 2))) (pss_cons (ps_set (i := 6) sc_mixing_map.nd rfl (Or.inl rfl) (pe_op op_add (C8.pe_c (c_lowest_bit T) hr (by decide) (by rfl) (pa_cons (pv 0) (pa_cons (pv 3) pa_nil))) (pv 4))) (pss_cons (ps_if (pt_cmpR op_eq (pv 5) (pv 6) (nomark _)) (pss_one ps_never) pss_nil) (pss_cons (ps_setLc (i := 7) (own := [("k", 8)]) (g := gName 8) rfl sc_mixing_map.nd rfl rfl (sw_true rfl rfl rfl (by decide +kernel)) (pi_range1 (by rfl) T.b_range (pa_cons (C8.pe_c (c_total_bits T) hr (by decide) (by rfl) (pa_cons (pv 0) pa_nil)) pa_nil)) (blkOk_by (own := [("k", 8)]) (N := ["axes", "name", "position", "other", "other_position", "changed", "added", "columns", "k"]) (sc := defScope s_mixing_map) (by decide +kernel)) (fun _ _ _ _ _ => (pg_name (i := 8) sc_mixing_map.nd rfl (Or.inl rfl))) (fun _ _ _ _ _ => pts_nil) (fun _ _ _ _ _ => (pe_op op_shl pe_int (pv 8)))) (pss_cons (ps_asg (pe_op op_or (pe_ix ix_list (pv 7) (pv 6) (fun _ _ => rfl)) (pe_op op_shl pe_int (pv 5))) (pg_sub (pv 7) (pv 6) set_list)) (pss_one (ps_ret (C8.pe_mk (c_Map2 T) hr (by decide) (by rfl) (pa_cons (pv 7) (pa_cons (C8.pe_c (c_total_bits T) hr (by decide) (by rfl) (pa_cons (pv 0) pa_nil)) pa_nil)))))))))))))), ?_⟩
  have ht := ok.tt
  have hz1 := hm1.sz
  have hz2 := hm2.sz
  refine ⟨_, rfl, _, rfl, _, _, rfl, p, rows, n1, rfl, rfl, hA, ok.ln, hm1.mem, fun H1 e1 => ?_⟩
  refine ⟨_, rfl, _, rfl, _, _, rfl, p, rows, n2, rfl, rfl, hA.ex e1, ok.ln, hm2.mem, fun H2 e2 => ?_⟩
  have e12 := Same.trans e1 e2
  refine ⟨_, rfl, _, rfl, _, rfl, _, _, _, rfl, p, rows, n1, i1, r1, k1, rfl, rfl, rfl, hA.ex e12, ok, hm1, hk1, fun H3 e3 => ?_⟩
  have e13 := Same.trans e12 e3
  refine ⟨_, rfl, _, rfl, _, rfl, _, _, _, rfl, p, rows, n2, i2, r2, k2, rfl, rfl, rfl, hA.ex e13, ok, hm2, hk2, fun H4 e4 => ?_⟩
  have e14 := Same.trans e13 e4
  refine ⟨_, rfl, _, rfl, _, _, rfl, p, rows, n1, i1, r1, rfl, rfl, hA.ex e14, ok, hm1, fun H5 e5 => ?_⟩
  have e15 := Same.trans e14 e5
  refine ⟨_, rfl, _, _, rfl, rfl, ?_⟩
  refine ⟨_, rfl, _, rfl, _, _, rfl, p, rows, n2, i2, r2, rfl, rfl, hA.ex e15, ok, hm2, fun H6 e6 => ?_⟩
  have e16 := Same.trans e15 e6
  refine ⟨_, rfl, _, _, rfl, rfl, ?_⟩
  walk_at "go"
  refine iteN (fun q => hne (by injection q with q; omega)) ?_
  refine ⟨_, rfl, _, rfl, p, xs, rows, rfl, .inr (e16 _ _ hp), hR.ex e16, ok.ln, fun H7 e7 => ?_⟩
  have e17 := Same.trans e16 e7
  refine ⟨_, rfl, (by omega), (by omega), ?_⟩
  rw [Int.toNat_natCast]
  intro D hD
  refine lc_range (lo := 0) (n := tot rows) (fun i H' => Ex H7 H' ∧ H' D = some (.lst (vL (units i)))) ⟨Ex.new hD, upd_same⟩ ?_ ?_
  · rintro i H8 hi ⟨e, hH⟩
    refine ⟨rfl, _, rfl, _, _, rfl, rfl, ?_⟩
    rw [Int.zero_add]
    refine ⟨cpow (n := i) (by omega), _, hH, ?_, e.mut hD, ?_⟩
    · rw [List.length_map, List.length_map, List.length_range]; exact Nat.lt_of_lt_of_le (by omega : _ < 1000) (by decide)
    · rw [upd_same]
      show some (HO.lst (_ ++ [V.int (1 * 2 ^ ((i : Int).toNat))])) = _
      unfold units
      rw [range_snoc, List.map_append, vL_app, two_shl]; rfl
  · rintro H8 ⟨e8, hH⟩
    have e18 := Same.trans e17 e8
    have ea : ((low rows i2 : Int) + (k2 : Int)) = ((low rows i2 + k2 : Nat) : Int) := by omega
    have eb : ((low rows i1 : Int) + (k1 : Int)) = ((low rows i1 + k1 : Nat) : Int) := by omega
    show gName 7 (V.ref D) [some (V.ref p), some (V.str n1), some (vN k1), some (V.str n2), some (vN k2), some (.int ((low rows i1 : Int) + (k1 : Int))), some (.int ((low rows i2 : Int) + (k2 : Int))), none, none] H8 _
    rw [ea, eb]
    have hta : low rows i2 + k2 < tot rows := by omega
    have htb : low rows i1 + k1 < tot rows := by omega
    generalize low rows i2 + k2 = ta at *
    generalize low rows i1 + k1 = tb at *
    have hlu : (units (tot rows)).length = tot rows := by rw [List.length_map, List.length_range]
    have hua : (units (tot rows))[ta]? = some (2 ^ ta) := by rw [List.getElem?_map, List.getElem?_range hta]; rfl
    refine ⟨_, rfl, _, rfl, D, _, _, _, rfl, rfl, .of hH, atI_nat (j := ta) (by rw [List.getElem?_map, hua]; rfl), _, rfl, _, _, rfl, rfl, cpow (n := tb) (by omega), _, _, rfl, rfl, ?_⟩
    refine ⟨_, rfl, _, rfl, D, _, _, ta, rfl, rfl, hH, Evl.ixN_nat (by rw [List.length_map, hlu]; exact hta), ?_⟩
    have e19 : Ex H7 (upd H8 D (.lst ((vL (units (tot rows))).set ta (.int (Builtin.bitOr ((2 ^ ta : Nat) : Int) (1 * 2 ^ ((tb : Int).toNat))))))) := e8.mut hD
    have hD9 : (upd H8 D (.lst ((vL (units (tot rows))).set ta (.int (Builtin.bitOr ((2 ^ ta : Nat) : Int) (1 * 2 ^ ((tb : Int).toNat))))))) D = some (.lst (vL (mixCols (tot rows) ta tb))) := by
      rw [upd_same, two_shl, or_N]
      exact congrArg (fun z => some (HO.lst z)) (List.map_set ..).symm
    refine (fun H9 (e19 : Ex H7 H9) (hD9 : H9 D = some (.lst (vL (mixCols (tot rows) ta tb)))) => ?_ : ∀ H9, Ex H7 H9 → H9 D = some (.lst (vL (mixCols (tot rows) ta tb))) → _) _ e19 hD9
    have e9 := Same.trans e17 e19
    refine ⟨_, rfl, _, rfl, _, rfl, p, xs, rows, rfl, .inr (e9 _ _ hp), hR.ex e9, ok.ln, fun H10 e10 => ?_⟩
    have e9' := Same.trans e9 e10
    refine fun m' dx hm' nd _ => mk_map (off := 0) (e10 _ _ hD9) ⟨by omega, by rw [List.length_set, hlu]; exact ht, ?_, Nat.two_pow_pos _⟩ hm' nd fun H4 e4 hM => ⟨rfl, ?_⟩
    · intro z hz
      rcases List.mem_or_eq_of_mem_set hz with hz | hz
      · obtain ⟨y, hy, rfl⟩ := List.mem_map.mp hz
        exact Nat.pow_lt_pow_right (by decide) (List.mem_range.mp hy)
      · subst hz
        exact Nat.or_lt_two_pow (Nat.pow_lt_pow_right (by decide) hta) (Nat.pow_lt_pow_right (by decide) htb)
    · exact h m' H4 (Same.free e9' hm') (Same.trans e9' e4) hM
theorem flat_ints (l : List Nat) : (vL l).all flatV = true := by
  rw [List.all_eq_true]
  intro x hx
  obtain ⟨y, _, rfl⟩ := List.mem_map.mp hx
  rfl
theorem inV_ints (x : Nat) (l : List Nat) : inV (vN x) (vL l) = decide (x ∈ l) := by
  unfold inV
  apply Bool.eq_iff_iff.mpr
  rw [decide_eq_true_iff, List.any_eq_true]
  constructor
  · rintro ⟨y, hy, he⟩
    obtain ⟨z, hz, rfl⟩ := List.mem_map.mp hy
    have he : ((z : Int) == (x : Int)) = true := he
    have := eq_of_beq he
    have : z = x := by omega
    exact this ▸ hz
  · intro h
    exact ⟨vN x, List.mem_map.mpr ⟨x, h, rfl⟩, by show ((x : Int) == (x : Int)) = true; exact beq_self_eq_true _⟩
abbrev spWithout : Sp := spF3 fun a b c H Q => ∃ (p q : Addr) (rows : List Row) (dr : List Nat) (off : Nat), a = .ref p ∧ b = .ref q ∧ c = vN off ∧ AxT H p rows ∧ RowsOk rows ∧ H q = some (.lst (vL dr)) ∧ off < 2 ^ tot rows ∧
  ∀ m H', H m = none → Ex H H' → MapAt K H' m (dropCols (tot rows) dr) (tot rows) off → Q (.ref m) H'
theorem sc_without_bits : FnScope ["axes", "dropped", "offset", "bits", "position"] ["axes", "dropped", "offset"] (defScope s_without_bits) := C8.fnScope_by (by decide +kernel)
theorem c_without_bits (T : Tx K mg) : C8.Cal P w K mg base 7 "without_bits" (spWithout (K := K)) [] := by
  refine cal_of T.d_without_bits T.g_without_bits sc_without_bits (by intro _ _ _ _ _ _ us hl; match us, hl with | [_, _, _], _ => rfl) (fun _ _ _ _ h => len3 h) (fun cdv A outer s H vs Q E hr h => ?_)
  obtain ⟨_, _, _, rfl, p, q, rows, dr, off, rfl, rfl, rfl, ⟨xs, hp, hR⟩, ok, hq, ho, h⟩ := h
  refine ⟨_, (pss_cons (ps_set (i := 3) sc_without_bits.nd rfl (Or.inl rfl) (C8.pe_c (c_total_bits T) hr (by decide) (by rfl) (pa_cons (pv 0) pa_nil))) (pss_one (ps_ret (C8.pe_c (c_spread T) hr (by decide) (by rfl) (pa_cons (pe_lc (own := [("position", 4)]) (g := gName 4) rfl sc_without_bits.nd (pi_range1 (by rfl) T.b_range (pa_cons (pv 3) pa_nil)) (blkOk_by (own := [("position", 4)]) (N := ["axes", "dropped", "offset", "bits", "position"]) (sc := defScope s_without_bits) (by decide +kernel)) (fun _ _ _ _ _ => (pg_name (i := 4) sc_without_bits.nd rfl (Or.inl rfl))) (fun _ _ _ _ _ => (pts_one (pt_cmpR (op_notIn_seqK K) (pv 4) (pv 1) (by with_unfolding_all rfl)))) (fun _ _ _ _ _ => (pv 4))) (pa_cons (pv 3) (pa_cons (pv 2) pa_nil))))))), ?_⟩
  have ht := ok.tt
  refine ⟨_, rfl, _, rfl, p, xs, rows, rfl, .inr hp, hR, ok.ln, fun H1 e1 => ?_⟩
  refine ⟨_, rfl, _, rfl, (by omega), (by omega), ?_⟩
  rw [Int.toNat_natCast]
  intro D hD
  refine lc_range (lo := 0) (n := tot rows) (fun i H' => Ex H1 H' ∧ H' D = some (.lst (vL ((List.range i).filter fun x => decide (x ∉ dr))))) ⟨Ex.new hD, upd_same⟩ ?_ ?_
  · rintro i H2 hi ⟨e, hH⟩
    have e2 := Same.trans e1 e
    refine ⟨rfl, _, rfl, _, rfl, q, _, rfl, .inl (.of (e2 _ _ hq)), rfl, flat_ints _, _, rfl, ?_⟩
    rw [Int.zero_add]
    show (fun b H3 => if b = true then _ else _) (!inV (vN i) (vL dr)) H2
    rw [inV_ints, range_snoc, List.filter_append]
    by_cases hd : i ∈ dr
    · rw [decide_eq_true hd]
      refine ⟨e, ?_⟩
      rw [hH, List.filter_cons_of_neg (by simpa using hd), List.filter_nil, List.append_nil]
    · rw [decide_eq_false hd]
      refine ⟨_, rfl, _, hH, ?_, e.mut hD, ?_⟩
      · have h1 := List.length_filter_le (fun x => decide (x ∉ dr)) (List.range i)
        rw [List.length_map]
        rw [List.length_range] at h1
        exact Nat.lt_of_lt_of_le (by omega : _ < 1000) (by decide)
      · rw [upd_same, List.filter_cons_of_pos (by simpa using hd), List.filter_nil, vL_app]; rfl
  · rintro H2 ⟨e, hH⟩
    have e2 := Same.trans e1 e
    have h1 := List.length_filter_le (fun x => decide (x ∉ dr)) (List.range (tot rows))
    rw [List.length_range] at h1
    refine ⟨_, rfl, _, rfl, _, _, _, rfl, D, _, tot rows, off, rfl, rfl, rfl, hH, by omega, by omega, fun x hx => List.mem_range.mp (List.mem_filter.mp hx).1, ho, fun m H3 hm e3 hM => ?_⟩
    exact h m H3 (Same.free e2 hm) (Same.trans e2 e3) hM
end
end My
/-! *** W9 -/
namespace My
open PySem PySem.Spec PyProof.Rows L2 He
local macro_rules | `(tactic| walk_at "go") => `(tactic| repeat (first | refine And.intro rfl ?_ | refine iteT ?_ | refine iteF ?_ | refine iteNS (by assumption) ?_ | apply Exists.intro | refine And.intro (by assumption) ?_))
/-! ### classmethods -/
structure Cme (P : Program) (w : World) (K : PySem.W.Frag) (mg : Str → Option Value) (base : Heap) (k : Nat) (C : Addr) (m : Str) (sp : Sp) : Prop where
  ex : ∃ (p g : Addr), ClX.CRead K C (.type "type") ∧ ClX.CMet K C (.type "type") m p g ∧ FnR P w K mg base C8.CX0 k g sp
section
variable {X : Cx} {k j : Nat} {C : Addr} {sp : Sp} {o e : Expr} {es : List Expr} {m : Str} {pos apos : Pos} {ta : TE} {t : TA} {pl : Sem Bool}
theorem pe_cm (c : Cme X.prog X.w X.K X.mg X.base k C m sp) (hr : Room j X.A) (hk : k ≤ j) (he : PE X o ta) (ha : PA X (e :: es) t)
    (hst : starEach (e :: es) X.env = (false, eval e X.env) :: starEach es X.env := by rfl) (hpl : (backTo pos (starEach es X.env)).any (·.1) = false := by rfl)
    (ht : eval (.Call (.Attribute o m apos) (e :: es) [] pos) X.env = (do
      let ov ← eval o X.env
      standAt apos.atName
      let (f, first) ← holding [ov] (getMethod ov m pl)
      callWith pos f first (backTo pos (starEach (e :: es) X.env)) (backToKw pos (keywordEach [] X.env))) := by rfl) :
    PE X (.Call (.Attribute o m apos) (e :: es) [] pos) (ClX.tCMeth C sp C8.E0 ta t) := by
  obtain ⟨p, g, r, cm, F⟩ := c.ex
  exact ClX.pe_cmeth he r cm F (hr.mono hk) C8.pass0 ha hst hpl ht
end
section
variable {P : Program} {w : World} {K : PySem.W.Frag} {mg : Str → Option Value} {base : Heap}
abbrev spSelg : Sp := spF3 fun a b c H Q => ∃ (q : Addr) (n b' : Nat), a = .ref (CM K) ∧ b = .ref q ∧ c = vN (n + b') ∧ H q = some (.lst (vL (List.range n))) ∧ n + b' ≤ 16 ∧
  ∀ m H', H m = none → Ex H H' → MapAt K H' m (selCols n b') n 0 → Q (.ref m) H'
theorem sc_Map_selecting : FnScope ["cls", "positions", "bits_in", "columns", "k", "position"] ["cls", "positions", "bits_in"] (defScope s_Map_selecting) := C8.fnScope_by (by decide +kernel)
theorem cm_selecting (T : Tx K mg) : Cme P w K mg base 6 (CM K) "selecting" (spSelg (K := K)) := by
  obtain ⟨hc, p, g, hm, fd, F⟩ := T.q_Map_selecting
  have G : FnOk P w K mg base C8.CX0 6 g fd ["cls", "positions", "bits_in"] (spSelg (K := K)) := by
    refine F.ok sc_Map_selecting (fun _ _ _ _ h => len3 h) fun cdv A outer s H vs Q E hr h => ?_
    obtain ⟨_, _, _, rfl, q, n, b, rfl, rfl, rfl, hq, hnb, h⟩ := h
    refine ⟨_, PSs.nox (pss_cons (ps_expr (C8.pe_c (c_want_bits T) hr (by decide) (by rfl) (pa_cons (pv 2) pa_nil))) (pss_cons (ps_expr (C8.pe_c (c_want_positions T) hr (by decide) (by rfl) (pa_cons (pv 1) (pa_cons (pv 2) pa_nil)))) (pss_cons (ps_set (i := 3) sc_Map_selecting.nd rfl (Or.inl rfl) (pe_op op_rep (pe_lst (pa_cons pe_int pa_nil)) (pv 2))) (pss_cons (ps_for PassesOwn.never rfl (pi_enum (by rfl) T.b_enumerate (pa_cons (pv 1) pa_nil)) (pg_tup rfl (pgs_cons (pg_name (i := 4) sc_Map_selecting.nd rfl (Or.inl rfl)) (pgs_cons (pg_name (i := 5) sc_Map_selecting.nd rfl (Or.inl rfl)) pgs_nil))) (pss_one (ps_asg (pe_op op_or (pe_ix ix_list (pv 3) (pv 5) (fun _ _ => rfl)) (pe_op op_shl pe_int (pv 4))) (pg_sub (pv 3) (pv 5) set_list)))) (pss_one (ps_ret (pe_mkL (i := 0) (c_Map2 T) hr (by decide) rfl (Or.inl rfl) (pa_cons (pv 3) (pa_cons (pe_callB (id := "len") call_len (by rfl) T.b_len (by decide +kernel) (pa_cons (pv 1) pa_nil)) pa_nil))))))))), ?_⟩
    have hlr : (vL (List.range n)).length = n := by rw [List.length_map, List.length_range]
    refine ⟨_, rfl, _, rfl, n + b, rfl, by omega, ?_⟩
    refine ⟨_, rfl, _, rfl, _, _, rfl, q, List.range n, n + b, rfl, rfl, hq, by rw [List.length_range]; omega, fun x hx => by have := List.mem_range.mp hx; omega, fun H1 e1 => ?_⟩
    refine ⟨by show 1 ≤ sizeLine; decide, fun l hl => ⟨_, rfl, l, ((n + b : Nat) : Int), _, rfl, rfl, upd_same, by omega, by omega, ?_, fun D hD => ?_⟩⟩
    · show 1 * ((n + b : Nat) : Int).toNat ≤ sizeLine
      rw [Int.toNat_natCast]; exact Nat.le_trans (by omega : _ ≤ 16) (by decide)
    have ef : (List.replicate ((n + b : Nat) : Int).toNat [V.int 0]).flatten = vL (List.replicate (n + b) 0) := by
      rw [Int.toNat_natCast]
      generalize n + b = N
      induction N with
      | zero => rfl
      | succ N ih => rw [List.replicate_succ, List.flatten_cons, ih]; rfl
    rw [ef]
    have e2 : Ex H1 (upd (upd H1 l (.lst [V.int 0])) D (.lst (vL (List.replicate (n + b) 0)))) := Ex.mut (Ex.new hl) (Same.free (Ex.new hl) hD)
    have hDv : (upd (upd H1 l (.lst [V.int 0])) D (.lst (vL (List.replicate (n + b) 0)))) D = some (.lst (vL (List.replicate (n + b) 0))) := upd_same
    generalize (upd (upd H1 l (.lst [V.int 0])) D (.lst (vL (List.replicate (n + b) 0)))) = H2 at e2 hDv ⊢
    have hD1 : H1 D = none := Same.free (Ex.new hl) hD
    have hqD : q ≠ D := ne_of_none (e1 _ _ hq) hD1
    refine ⟨_, rfl, q, vL (List.range n), rfl, .of (e2 _ _ (e1 _ _ hq)), ?_⟩
    refine for_it (walk_enum (K := K) (a := q) (xs := vL (List.range n))) (fun i σ H' => ∃ x y, σ = [some (.ref (CM K)), some (.ref q), some (vN (n + b)), some (.ref D), x, y] ∧ Ex H1 H' ∧ H' D = some (.lst (vL (units i ++ List.replicate (n + b - i) 0))))
      ⟨_, _, rfl, e2, by rw [hDv]; rfl⟩ (fun i σ H' _ ⟨_, _, _, e, _⟩ => .of (e _ _ (e1 _ _ hq))) ?_ ?_
    · rintro i x σ H3 H4 hi ⟨u, v, rfl, e, hD3⟩ ⟨t, x1, x2, rfl, ht, rfl, ha, hb⟩
      obtain ⟨m, hm, rfl⟩ := vL_at hb
      obtain rfl := Option.some.inj ha
      rw [hlr] at hi
      have em : i = m := by
        rw [List.getElem?_range hi] at hm; exact Option.some.inj hm
      subst em
      have e5 : Ex H1 (upd H3 t (.tup [.int (i : Nat), vN i])) := e.mut (e.free ht)
      have hD5 : (upd H3 t (.tup [.int (i : Nat), vN i])) D = some (.lst (vL (units i ++ List.replicate (n + b - i) 0))) := by rw [upd_ne (ne_of_none hD3 ht)]; exact hD3
      have ht5 : (upd H3 t (.tup [.int (i : Nat), vN i])) t = some (.tup [.int (i : Nat), vN i]) := upd_same
      generalize upd H3 t (.tup [.int (i : Nat), vN i]) = H5 at e5 hD5 ht5 ⊢
      have hul : (units i).length = i := by rw [List.length_map, List.length_range]
      have hat : (units i ++ List.replicate (n + b - i) 0)[i]? = some 0 := by
        rw [List.getElem?_append_right (by omega), hul, Nat.sub_self, List.getElem?_replicate, if_pos (by omega)]
      refine ⟨t, _, rfl, .of ht5, rfl, _, _, rfl, _, _, rfl, rfl, ?_⟩
      refine ⟨_, rfl, _, rfl, D, _, _, _, rfl, rfl, .of hD5, atI_nat (j := i) (by rw [List.getElem?_map, hat]; rfl), _, rfl, _, _, rfl, rfl, cpow (n := i) (by omega), _, _, rfl, rfl, ?_⟩
      refine ⟨_, rfl, _, rfl, D, _, _, i, rfl, rfl, hD5, Evl.ixN_nat (by rw [List.length_map, List.length_append, hul, List.length_replicate]; omega), ?_⟩
      refine ⟨some (vN i), some (vN i), rfl, e5.mut hD1, ?_⟩
      rw [upd_same]
      show some (HO.lst ((vL _).set i (V.int (Builtin.bitOr ((0 : Nat) : Int) (1 * 2 ^ ((i : Int).toNat)))))) = _
      rw [two_shl, or_N, Nat.zero_or]
      refine congrArg (fun z => some (HO.lst z)) ((List.map_set ..).symm.trans (congrArg vL ?_))
      rw [List.set_append_right _ _ (by rw [hul]; exact Nat.le_refl _), hul, Nat.sub_self, show n + b - i = (n + b - (i + 1)) + 1 by omega, List.replicate_succ, List.set_cons_zero]
      unfold units
      rw [range_snoc, List.map_append, List.append_assoc]; rfl
    · rintro σ H3 ⟨u, v, rfl, e, hD3⟩
      rw [hlr, Nat.add_sub_cancel_left] at hD3
      have e3 := Same.trans e1 e
      refine ⟨rfl, _, rfl, _, rfl, _, _, rfl, .inl ⟨_, .of (e3 _ _ hq), rfl⟩, ?_⟩
      rw [hlr]
      refine fun m' dx hm' nd _ => mk_map (off := 0) hD3 ⟨by omega, ?_, ?_, Nat.two_pow_pos _⟩ hm' nd fun H4 e4 hM => ⟨rfl, ?_⟩
      · rw [List.length_append, List.length_replicate, List.length_map, List.length_range]; omega
      · intro z hz
        rcases List.mem_append.mp hz with hz | hz
        · obtain ⟨y, hy, rfl⟩ := List.mem_map.mp hz
          exact Nat.pow_lt_pow_right (by decide) (List.mem_range.mp hy)
        · rw [List.eq_of_mem_replicate hz]; exact Nat.two_pow_pos _
      · exact h m' H4 (Same.free e3 hm') (Same.trans e3 e4) hM
  have R := FnOk.raw G (ds := []) (dvs := []) (F.bindsN (by intro _ _ _ _ _ _ us hl; match us, hl with | [_, _, _], _ => rfl)) .nil
  exact ⟨p, g, hc, hm, fun A outer s H us vs Q E hr e0 r hs => R A outer s H us vs Q E hr e0 r (by show spSelg (vs ++ []) H Q E; rw [List.append_nil]; exact hs)⟩
end
end My
/-! *** W10 -/
namespace My
open PySem PySem.Spec PyProof.Rows L2 He
local macro_rules | `(tactic| walk_at "go") => `(tactic| repeat (first | refine And.intro rfl ?_ | refine iteT ?_ | refine iteF ?_ | refine iteNS (by assumption) ?_ | apply Exists.intro | refine And.intro (by assumption) ?_))
local macro_rules | `(tactic| walk_at "lk") => `(tactic| (repeat (first | exact lk1 | exact lk0 | refine (lk2 (by decide +kernel)).trans ?_)))
/-! ### layouts -/
abbrev fsL (a m : Addr) : List (Str × V) := [("own_axes", .ref a), ("own_mapping", .ref m)]
theorem fsL_ax {a m : Addr} : (fsL a m).lookup ("own_axes" : Str) = some (V.ref a) := by walk_at "lk"
theorem fsL_mp {a m : Addr} : (fsL a m).lookup ("own_mapping" : Str) = some (V.ref m) := by walk_at "lk"
theorem fsL_put {a m : Addr} : putF "own_mapping" (.ref m) (putF "own_axes" (.ref a) []) = fsL a m := by rw [pf0, pf2 (by decide +kernel), pf0]
structure LayOk (rows : List Row) (cols : List Nat) (k : Nat) : Prop where
  ro : RowsOk rows
  tl : tot rows = cols.length
  k4 : k ≤ 40
def LayoutAt (K : PySem.W.Frag) (H : Hp) (l : Addr) (rows : List Row) (cols : List Nat) (k off : Nat) : Prop :=
  LayOk rows cols k ∧ ∃ dx a m, H l = some (.ins (CL K) dx (fsL a m)) ∧ AxT H a rows ∧ MapAt K H m cols k off
theorem LayoutAt.ex {K : PySem.W.Frag} {H H' : Hp} {l : Addr} {rows : List Row} {cols : List Nat} {k off : Nat} (e : Ex H H') (h : LayoutAt K H l rows cols k off) : LayoutAt K H' l rows cols k off :=
  let ⟨ok, dx, a, m, h1, h2, h3⟩ := h; ⟨ok, dx, a, m, e _ _ h1, h2.ex e, h3.ex e⟩
section
variable {P : Program} {w : World} {K : PySem.W.Frag} {mg : Str → Option Value} {base : Heap}
abbrev spCellMap (K : PySem.W.Frag) : Sp := spF2 fun a b H Q => ∃ (m : Addr) (cols : List Nat) (k off : Nat), a = .ref m ∧ b = vN cols.length ∧ MapAt K H m cols k off ∧ k ≤ 40 ∧ Q .non H
theorem sc_want_cell_map : FnScope ["mapping", "bits"] ["mapping", "bits"] (defScope s_want_cell_map) := C8.fnScope_by (by decide +kernel)
theorem c_want_cell_map (T : Tx K mg) : C8.Cal P w K mg base 3 "want_cell_map" (spCellMap K) [] := by
  refine cal_of T.d_want_cell_map T.g_want_cell_map sc_want_cell_map (by intro _ _ _ _ _ _ us hl; match us, hl with | [_, _], _ => rfl) (fun _ _ _ _ h => len2 h) (fun cdv A outer s H vs Q E hr h => ?_)
  obtain ⟨_, _, rfl, m, cols, k, off, rfl, rfl, M, hk, h⟩ := h
  refine ⟨_, (pss_cons (ps_expr (C8.pe_c (c_want_map T) hr (by decide) (by rfl) (pa_cons (pv 0) pa_nil))) (pss_cons (ps_expr (C8.pe_c (c_want_same T) hr (by decide) (by rfl) (pa_cons (pe_pp (p_Map_bits_in T) hr (by decide) (pv 0) rfl) (pa_cons (pv 1) pa_nil)))) (pss_one (ps_if (pt_cmpR op_gt (pe_pp (p_Map_bits T) hr (by decide) (pv 0) rfl) (C8.pe_gc (by rfl) T.c_MOST_AXIS_BITS) (nomark _)) (pss_one ps_never) pss_nil)))), ?_⟩
  obtain ⟨ok, dx, l, hm, hl⟩ := id M
  refine ⟨_, rfl, _, rfl, m, dx, _, rfl, hm, ?_⟩
  refine ⟨_, rfl, m, dx, _, rfl, hm, _, rfl, m, cols, k, off, rfl, M, ?_⟩
  refine ⟨_, rfl, _, _, rfl, _, rfl, rfl, ?_⟩
  refine ⟨_, rfl, m, dx, _, rfl, hm, _, rfl, m, cols, k, off, rfl, M, ?_⟩
  walk_at "go"
  exact iteN (by omega) h
abbrev spLayInit (K : PySem.W.Frag) : Sp := spF3 fun a b c H Q => ∃ (x dx p m : Addr) (xs : List V) (rows : List Row) (cols : List Nat) (k off : Nat), a = .ref x ∧ b = .ref p ∧ c = .ref m ∧ H x = some (.ins (CL K) dx []) ∧
  Sq H p xs ∧ RowsV H xs rows ∧ MapAt K H m cols k off ∧ LayOk rows cols k ∧
  ∀ H' t, ExB x H H' → H' x = some (.ins (CL K) dx (fsL t m)) → AxT H' t rows → Q .non H'
theorem sc_Layout_init : FnScope ["self", "axes", "mapping"] ["self", "axes", "mapping"] (defScope s_Layout_init) := C8.fnScope_by (by decide +kernel)
theorem c_Layout (T : Tx K mg) : C8.Mak P w K mg base 6 "Layout" (CL K) (spLayInit K) [] := by
  refine mak_of T.m_Layout T.g_Layout T.d_Layout_init sc_Layout_init (by intro _ _ _ _ _ _ us hl; match us, hl with | [_, _, _], _ => rfl) (fun _ _ _ _ h => len3 h) (fun cdv A outer s H vs Q E hr h => ?_)
  obtain ⟨_, _, _, rfl, x, dx, p, m, xs, rows, cols, k, off, rfl, rfl, rfl, hx, hp, hR, M, ok, h⟩ := h
  refine ⟨_, (pss_cons (ps_expr (C8.pe_c (c_want_axes T) hr (by decide) (by rfl) (pa_cons (pv 1) pa_nil))) (pss_cons (ps_expr (C8.pe_c (c_want_cell_map T) hr (by decide) (by rfl) (pa_cons (pv 2) (pa_cons (C8.pe_c (c_total_bits T) hr (by decide) (by rfl) (pa_cons (pv 1) pa_nil)) pa_nil)))) (pss_cons (ps_fld (pv 0) (pe_callTy (T := "tuple") call_tuple_of (by rfl) T.b_tuple (by decide +kernel) (pa_cons (pv 1) pa_nil)) rfl) (pss_one (ps_fld (pv 0) (pv 2) rfl))))), ?_⟩
  have npx : p ≠ x := by
    rcases hp with hp | hp
    · exact ne_of hp hx (by intro z; cases z)
    · exact ne_of hp hx (by intro z; cases z)
  have hl := ok.ro.ln
  refine ⟨_, rfl, _, rfl, p, xs, rows, rfl, hp, hR, ok.ro, fun H1 e1 => ?_⟩
  refine ⟨_, rfl, _, rfl, _, rfl, p, xs, rows, rfl, hp.ex e1, hR.ex e1, hl, fun H2 e2 => ?_⟩
  have e12 := Same.trans e1 e2
  refine ⟨_, _, rfl, m, cols, k, off, rfl, congrArg vN ok.tl, M.ex e12, ok.k4, ?_⟩
  rcases hp with hp | hp
  · refine ⟨_, rfl, p, xs, rfl, .inl ⟨.of (e12 _ _ hp), fun t ht => ?_⟩⟩
    have e3 : Ex H (upd H2 t (.tup xs)) := Ex.mut e12 (e12.free ht)
    have ht3 : upd H2 t (.tup xs) t = some (.tup xs) := upd_same
    have ntx : t ≠ x := fun z => by rw [z, e12 _ _ hx] at ht; cases ht
    generalize upd H2 t (.tup xs) = H3 at e3 ht3 ⊢
    refine ⟨_, rfl, x, CL K, dx, [], rfl, e3 _ _ hx, T.i_Layout.cl, T.n_Layout_own_axes, (by decide), ?_⟩
    refine ⟨_, rfl, _, rfl, x, CL K, dx, _, rfl, upd_same, T.i_Layout.cl, T.n_Layout_own_mapping, (by show 1 < 1000; decide), ?_⟩
    refine h _ t (fun b o nb hb => ?_) (by rw [upd_same, fsL_put]) ⟨xs, by rw [upd_ne ntx, upd_ne ntx]; exact ht3, ?_⟩
    · rw [upd_ne nb, upd_ne nb]; exact e3 _ _ hb
    · refine ⟨hR.len, fun i y hy => ?_⟩
      obtain ⟨r, h1, t', rfl, h2⟩ := hR.at_ i y hy
      refine ⟨r, h1, t', rfl, ?_⟩
      have n2 : t' ≠ x := ne_of h2 hx (by intro z; cases z)
      rw [upd_ne n2, upd_ne n2]; exact e3 _ _ h2
  · have e3 : Ex H H2 := e12
    have ht3 : H2 p = some (.tup xs) := e12 _ _ hp
    have ntx : p ≠ x := npx
    refine ⟨_, rfl, p, xs, rfl, .inr ⟨.of (e12 _ _ hp), ?_⟩⟩
    refine ⟨_, rfl, x, CL K, dx, [], rfl, e3 _ _ hx, T.i_Layout.cl, T.n_Layout_own_axes, (by decide), ?_⟩
    refine ⟨_, rfl, _, rfl, x, CL K, dx, _, rfl, upd_same, T.i_Layout.cl, T.n_Layout_own_mapping, (by show 1 < 1000; decide), ?_⟩
    refine h _ p (fun b o nb hb => ?_) (by rw [upd_same, fsL_put]) ⟨xs, by rw [upd_ne ntx, upd_ne ntx]; exact ht3, ?_⟩
    · rw [upd_ne nb, upd_ne nb]; exact e3 _ _ hb
    · refine ⟨hR.len, fun i y hy => ?_⟩
      obtain ⟨r, h1, t', rfl, h2⟩ := hR.at_ i y hy
      refine ⟨r, h1, t', rfl, ?_⟩
      have n2 : t' ≠ x := ne_of h2 hx (by intro z; cases z)
      rw [upd_ne n2, upd_ne n2]; exact e3 _ _ h2
theorem mk_layout {H : Hp} {p m : Addr} {xs : List V} {rows : List Row} {cols : List Nat} {k off : Nat} {Q : VK} {E : XK} (hp : Sq H p xs) (hR : RowsV H xs rows) (M : MapAt K H m cols k off) (ok : LayOk rows cols k)
    {x dx : Addr} (nx : H x = none) (nd : H dx = none) (h : ∀ H', Ex H H' → LayoutAt K H' x rows cols k off → Q .non H') :
    spLayInit K [.ref x, .ref p, .ref m] (upd (upd H dx (.own x)) x (.ins (CL K) dx [])) Q E := by
  have e0 : Ex H (upd (upd H dx (.own x)) x (.ins (CL K) dx [])) := Ex.mut (Ex.new nd) nx
  refine ⟨_, _, _, rfl, x, dx, p, m, xs, rows, cols, k, off, rfl, rfl, rfl, upd_same, hp.ex e0, hR.ex e0, M.ex e0, ok, fun H' t e hx ht => ?_⟩
  have e2 := ExB.made nx nd e
  exact h H' e2 ⟨ok, dx, t, m, hx, ht, M.ex e2⟩
end
end My
/-! *** W11 -/
namespace My
open PySem PySem.Spec PyProof.Rows L2 He
local macro_rules | `(tactic| walk_at "lk") => `(tactic| (repeat (first | exact lk1 | exact lk0 | refine (lk2 (by decide +kernel)).trans ?_)))
section
variable {P : Program} {w : World} {K : PySem.W.Frag} {mg : Str → Option Value} {base : Heap}
abbrev spLBits (K : PySem.W.Frag) : Sp := spF1 fun a H Q => ∃ (l : Addr) (rows : List Row) (cols : List Nat) (k off : Nat), a = .ref l ∧ LayoutAt K H l rows cols k off ∧ Q (vN cols.length) H
theorem sc_Layout_bits : FnScope ["self"] ["self"] (defScope s_Layout_bits) := C8.fnScope_by (by decide +kernel)
theorem p_Layout_bits (T : Tx K mg) : Prp P w K mg base 3 (CL K) "bits" (spLBits K) := by
  obtain ⟨p, g, hp, D⟩ := T.q_Layout_bits
  refine prp_of T.i_Layout.cl hp D sc_Layout_bits (by intro _ _ _ _ _ _ us hl; match us, hl with | [_], _ => rfl) (fun _ _ _ _ h => len1 h) (fun cdv A outer s H vs Q E hr h => ?_)
  obtain ⟨_, rfl, l, rows, cols, k, off, rfl, ⟨ok, dx, a, m, hl, hA, M⟩, h⟩ := h
  refine ⟨_, (pss_one (ps_ret (pe_pp (p_Map_bits_in T) hr (by decide) (pe_fld (pv 0) rfl) rfl))), ?_⟩
  obtain ⟨mo, dm, lc, hm, hc⟩ := id M
  refine ⟨_, rfl, l, CL K, dx, _, _, rfl, hl, T.i_Layout.cl, T.n_Layout_own_mapping, fsL_mp, m, dm, _, rfl, hm, _, rfl, m, cols, k, off, rfl, M, h⟩
abbrev spLCell (K : PySem.W.Frag) : Sp := spF1 fun a H Q => ∃ (l : Addr) (rows : List Row) (cols : List Nat) (k off : Nat), a = .ref l ∧ LayoutAt K H l rows cols k off ∧ Q (vN k) H
theorem sc_Layout_cell_bits : FnScope ["self"] ["self"] (defScope s_Layout_cell_bits) := C8.fnScope_by (by decide +kernel)
theorem p_Layout_cell_bits (T : Tx K mg) : Prp P w K mg base 3 (CL K) "cell_bits" (spLCell K) := by
  obtain ⟨p, g, hp, D⟩ := T.q_Layout_cell_bits
  refine prp_of T.i_Layout.cl hp D sc_Layout_cell_bits (by intro _ _ _ _ _ _ us hl; match us, hl with | [_], _ => rfl) (fun _ _ _ _ h => len1 h) (fun cdv A outer s H vs Q E hr h => ?_)
  obtain ⟨_, rfl, l, rows, cols, k, off, rfl, ⟨ok, dx, a, m, hl, hA, M⟩, h⟩ := h
  refine ⟨_, (pss_one (ps_ret (pe_pp (p_Map_bits T) hr (by decide) (pe_fld (pv 0) rfl) rfl))), ?_⟩
  obtain ⟨mo, dm, lc, hm, hc⟩ := id M
  refine ⟨_, rfl, l, CL K, dx, _, _, rfl, hl, T.i_Layout.cl, T.n_Layout_own_mapping, fsL_mp, m, dm, _, rfl, hm, _, rfl, m, cols, k, off, rfl, M, h⟩
abbrev spLInj (K : PySem.W.Frag) : Sp := spF1 fun a H Q => ∃ (l : Addr) (rows : List Row) (cols : List Nat) (k off : Nat), a = .ref l ∧ LayoutAt K H l rows cols k off ∧ ∀ H' B, IsBas cols B → Ex H H' → Q (.bl (decide (B.length = cols.length))) H'
theorem sc_Layout_is_injective : FnScope ["self"] ["self"] (defScope s_Layout_is_injective) := C8.fnScope_by (by decide +kernel)
theorem p_Layout_is_injective (T : Tx K mg) : Prp P w K mg base 5 (CL K) "is_injective" (spLInj K) := by
  obtain ⟨p, g, hp, D⟩ := T.q_Layout_is_injective
  refine prp_of T.i_Layout.cl hp D sc_Layout_is_injective (by intro _ _ _ _ _ _ us hl; match us, hl with | [_], _ => rfl) (fun _ _ _ _ h => len1 h) (fun cdv A outer s H vs Q E hr h => ?_)
  obtain ⟨_, rfl, l, rows, cols, k, off, rfl, ⟨ok, dx, a, m, hl, hA, M⟩, h⟩ := h
  refine ⟨_, (pss_one (ps_ret (pe_pp (p_Map_is_injective T) hr (by decide) (pe_fld (pv 0) rfl) rfl))), ?_⟩
  obtain ⟨mo, dm, lc, hm, hc⟩ := id M
  refine ⟨_, rfl, l, CL K, dx, _, _, rfl, hl, T.i_Layout.cl, T.n_Layout_own_mapping, fsL_mp, m, dm, _, rfl, hm, _, rfl, m, cols, k, off, rfl, M, h⟩
abbrev spLAxes (K : PySem.W.Frag) : Sp := spF1 fun a H Q => ∃ (l : Addr) (rows : List Row) (cols : List Nat) (k off : Nat), a = .ref l ∧ LayoutAt K H l rows cols k off ∧ ∀ q H' xs, H q = none → Ex H H' → H' q = some (.lst xs) → RowsV H' xs rows → Q (.ref q) H'
theorem sc_Layout_axes : FnScope ["self"] ["self"] (defScope s_Layout_axes) := C8.fnScope_by (by decide +kernel)
theorem m_Layout_axes (T : Tx K mg) : C8.Met P w K mg base 1 (CL K) "axes" (spLAxes K) [] := by
  refine met_of T.i_Layout.cl T.q_Layout_axes T.d_Layout_axes sc_Layout_axes (by intro _ _ _ _ _ _ us hl; match us, hl with | [_], _ => rfl) (fun _ _ _ _ h => len1 h) (fun cdv A outer s H vs Q E hr h => ?_)
  obtain ⟨_, rfl, l, rows, cols, k, off, rfl, ⟨ok, dx, a, m, hl, ⟨xs, ha, hR⟩, M⟩, h⟩ := h
  refine ⟨_, (pss_one (ps_ret (pe_callTy (T := "list") call_list_of (by rfl) T.b_list (by decide +kernel) (pa_cons (pe_fld (pv 0) rfl) pa_nil)))), ?_⟩
  refine ⟨_, rfl, l, CL K, dx, _, _, rfl, hl, T.i_Layout.cl, T.n_Layout_own_axes, fsL_ax, a, xs, rfl, .inr (.of ha), fun q hq => ?_⟩
  exact h q _ xs hq (Ex.new hq) upd_same (hR.ex (Ex.new hq))
abbrev spLIdx (K : PySem.W.Frag) : Sp := spF2 fun a b H Q => ∃ (l : Addr) (rows : List Row) (cols : List Nat) (k off v : Nat), a = .ref l ∧ b = vN v ∧ LayoutAt K H l rows cols k off ∧ v < 2 ^ cols.length ∧ ∀ d H', H d = none → Ex H H' → H' d = some (.dK (dkv (idxR rows v))) → Q (.ref d) H'
theorem sc_Layout_indexes_of : FnScope ["self", "place"] ["self", "place"] (defScope s_Layout_indexes_of) := C8.fnScope_by (by decide +kernel)
theorem m_Layout_indexes_of (T : Tx K mg) : C8.Met P w K mg base 5 (CL K) "indexes_of" (spLIdx K) [] := by
  refine met_of T.i_Layout.cl T.q_Layout_indexes_of T.d_Layout_indexes_of sc_Layout_indexes_of (by intro _ _ _ _ _ _ us hl; match us, hl with | [_, _], _ => rfl) (fun _ _ _ _ h => len2 h) (fun cdv A outer s H vs Q E hr h => ?_)
  obtain ⟨_, _, rfl, l, rows, cols, k, off, v, rfl, rfl, L, hv, h⟩ := h
  refine ⟨_, (pss_cons (ps_expr (C8.pe_c (c_want_word T) hr (by decide) (by rfl) (pa_cons (pv 1) (pa_cons (pe_pp (p_Layout_bits T) hr (by decide) (pv 0) rfl) pa_nil)))) (pss_one (ps_ret (C8.pe_c (c_split_place T) hr (by decide) (by rfl) (pa_cons (pe_fld (pv 0) rfl) (pa_cons (pv 1) pa_nil)))))), ?_⟩
  obtain ⟨ok, dx, a, m, hl, ⟨xs, ha, hR⟩, M⟩ := id L
  have hn := M.1.n8
  refine ⟨_, rfl, _, rfl, l, dx, _, rfl, hl, _, rfl, l, rows, cols, k, off, rfl, L, _, _, rfl, v, cols.length, rfl, rfl, by omega, hv, ?_⟩
  refine ⟨_, rfl, l, CL K, dx, _, _, rfl, hl, T.i_Layout.cl, T.n_Layout_own_axes, fsL_ax, _, rfl, _, _, rfl, a, rows, v, rfl, rfl, ⟨xs, ha, hR⟩, ok.ro, h⟩
abbrev spLCellAt (K : PySem.W.Frag) : Sp := spF2 fun a b H Q => ∃ (l : Addr) (rows : List Row) (cols : List Nat) (k off v : Nat), a = .ref l ∧ b = vN v ∧ LayoutAt K H l rows cols k off ∧ v < 2 ^ cols.length ∧ ∀ H', Ex H H' → Q (vN (cell cols off v)) H'
theorem sc_Layout_cell_at : FnScope ["self", "place"] ["self", "place"] (defScope s_Layout_cell_at) := C8.fnScope_by (by decide +kernel)
theorem m_Layout_cell_at (T : Tx K mg) : C8.Met P w K mg base 5 (CL K) "cell_at" (spLCellAt K) [] := by
  refine met_of T.i_Layout.cl T.q_Layout_cell_at T.d_Layout_cell_at sc_Layout_cell_at (by intro _ _ _ _ _ _ us hl; match us, hl with | [_, _], _ => rfl) (fun _ _ _ _ h => len2 h) (fun cdv A outer s H vs Q E hr h => ?_)
  obtain ⟨_, _, rfl, l, rows, cols, k, off, v, rfl, rfl, L, hv, h⟩ := h
  refine ⟨_, (pss_one (ps_ret (C8.pe_mt (m_Map_at T) hr (by decide) (pe_fld (pv 0) rfl) (pa_cons (pv 1) pa_nil)))), ?_⟩
  obtain ⟨ok, dx, a, m, hl, ⟨xs, ha, hR⟩, M⟩ := id L
  obtain ⟨mo, dm, lc, hm, hc⟩ := id M
  refine ⟨_, rfl, l, CL K, dx, _, _, rfl, hl, T.i_Layout.cl, T.n_Layout_own_mapping, fsL_mp, m, dm, _, rfl, hm, (by walk_at "lk"), _, rfl, _, _, rfl, m, cols, k, off, v, rfl, rfl, M, hv, h⟩
abbrev spLPlaces (K : PySem.W.Frag) : Sp := spF2 fun a b H Q => ∃ (l : Addr) (rows : List Row) (cols : List Nat) (k off p : Nat), a = .ref l ∧ b = vN (cell cols off p) ∧ LayoutAt K H l rows cols k off ∧ p < 2 ^ cols.length ∧
  ∀ f H' B pt, Bas B → (∀ b ∈ B, pt.testBit b.log2 = false) → walkL pt B = alike cols off (cell cols off p) → H f = none → Ex H H' → FlatAt K H' f cols.length B pt → Q (.ref f) H'
theorem sc_Layout_places_of : FnScope ["self", "cell"] ["self", "cell"] (defScope s_Layout_places_of) := C8.fnScope_by (by decide +kernel)
theorem m_Layout_places_of (T : Tx K mg) : C8.Met P w K mg base 8 (CL K) "places_of" (spLPlaces K) [] := by
  refine met_of T.i_Layout.cl T.q_Layout_places_of T.d_Layout_places_of sc_Layout_places_of (by intro _ _ _ _ _ _ us hl; match us, hl with | [_, _], _ => rfl) (fun _ _ _ _ h => len2 h) (fun cdv A outer s H vs Q E hr h => ?_)
  obtain ⟨_, _, rfl, l, rows, cols, k, off, v, rfl, rfl, L, hv, h⟩ := h
  refine ⟨_, (pss_one (ps_ret (C8.pe_mt (m_Map_before T) hr (by decide) (pe_fld (pv 0) rfl) (pa_cons (pv 1) pa_nil)))), ?_⟩
  obtain ⟨ok, dx, a, m, hl, ⟨xs, ha, hR⟩, M⟩ := id L
  obtain ⟨mo, dm, lc, hm, hc⟩ := id M
  refine ⟨_, rfl, l, CL K, dx, _, _, rfl, hl, T.i_Layout.cl, T.n_Layout_own_mapping, fsL_mp, m, dm, _, rfl, hm, (by walk_at "lk"), _, rfl, _, _, rfl, m, cols, k, off, v, rfl, rfl, M, hv, h⟩
abbrev spLCells (K : PySem.W.Frag) : Sp := spF1 fun a H Q => ∃ (l : Addr) (rows : List Row) (cols : List Nat) (k off : Nat), a = .ref l ∧ LayoutAt K H l rows cols k off ∧
  ∀ f H' B, IsBas cols B → H f = none → Ex H H' → FlatAt K H' f k B (leastSum off B) → Q (.ref f) H'
theorem sc_Layout_cells : FnScope ["self"] ["self"] (defScope s_Layout_cells) := C8.fnScope_by (by decide +kernel)
theorem m_Layout_cells (T : Tx K mg) : C8.Met P w K mg base 7 (CL K) "cells" (spLCells K) [] := by
  refine met_of T.i_Layout.cl T.q_Layout_cells T.d_Layout_cells sc_Layout_cells (by intro _ _ _ _ _ _ us hl; match us, hl with | [_], _ => rfl) (fun _ _ _ _ h => len1 h) (fun cdv A outer s H vs Q E hr h => ?_)
  obtain ⟨_, rfl, l, rows, cols, k, off, rfl, L, h⟩ := h
  refine ⟨_, (pss_one (ps_ret (C8.pe_mt0 (m_Map_image T) hr (by decide) (pe_fld (pv 0) rfl)))), ?_⟩
  obtain ⟨ok, dx, a, m, hl, ⟨xs, ha, hR⟩, M⟩ := id L
  obtain ⟨mo, dm, lc, hm, hc⟩ := id M
  refine ⟨_, rfl, l, CL K, dx, _, _, rfl, hl, T.i_Layout.cl, T.n_Layout_own_mapping, fsL_mp, m, dm, _, rfl, hm, (by walk_at "lk"), _, rfl, m, cols, k, off, rfl, M, h⟩
end
end My
/-! *** W12 -/
namespace My
open PySem PySem.Spec PyProof.Rows L2 He
local macro_rules | `(tactic| walk_at "lk") => `(tactic| (repeat (first | exact lk1 | exact lk0 | refine (lk2 (by decide +kernel)).trans ?_)))
theorem shl_V (v n : Nat) : V.int ((v : Int) * 2 ^ ((n : Int).toNat)) = vN (v <<< n) := congrArg V.int (shl_N v n)
theorem shl_lt {v b n m : Nat} (hv : v < 2 ^ b) (h : n + b ≤ m) : v <<< n < 2 ^ m := by
  rw [Nat.shiftLeft_eq]
  calc v * 2 ^ n < 2 ^ b * 2 ^ n := Nat.mul_lt_mul_of_pos_right hv (Nat.two_pow_pos _)
    _ = 2 ^ (b + n) := (Nat.pow_add ..).symm
    _ ≤ 2 ^ m := Nat.pow_le_pow_right (by decide) (by omega)
section
variable {P : Program} {w : World} {K : PySem.W.Frag} {mg : Str → Option Value} {base : Heap}
theorem q_V {Q : VK} {H : Hp} {x y : V} (e : x = y) (h : Q y H) : Q x H := e ▸ h
theorem rg_0 (n : Nat) : rgV 0 (n : Int) = vL (List.range n) := by
  have h := rgV_N 0 n
  simp only [Nat.zero_add, List.map_id'] at h
  simpa using h
abbrev spFlip (K : PySem.W.Frag) : Sp := spF3 fun a b c H Q => ∃ (l : Addr) (rows : List Row) (cols : List Nat) (k off : Nat) (n : Str) (i : Nat) (r : Row) (v : Nat), a = .ref l ∧ b = .str n ∧ c = vN v ∧ LayoutAt K H l rows cols k off ∧ At rows n i r ∧ v < 2 ^ r.2 ∧
  ∀ l' H', H l' = none → Ex H H' → LayoutAt K H' l' rows ((units cols.length).map (cmb cols)) k (cell cols off (v <<< low rows i)) → Q (.ref l') H'
theorem sc_Layout_flipped : FnScope ["self", "name", "word", "offset"] ["self", "name", "word"] (defScope s_Layout_flipped) := C8.fnScope_by (by decide +kernel)
theorem m_Layout_flipped (T : Tx K mg) : C8.Met P w K mg base 8 (CL K) "flipped" (spFlip K) [] := by
  refine met_of T.i_Layout.cl T.q_Layout_flipped T.d_Layout_flipped sc_Layout_flipped (by intro _ _ _ _ _ _ us hl; match us, hl with | [_, _, _], _ => rfl) (fun _ _ _ _ h => len3 h) (fun cdv A outer s H vs Q E hr h => ?_)
  obtain ⟨_, _, _, rfl, l, rows, cols, k, off, n, i, r, v, rfl, rfl, rfl, L, hat, hv, h⟩ := h
  refine ⟨_, (pss_cons (ps_expr (C8.pe_c (c_want_axis T) hr (by decide) (by rfl) (pa_cons (pe_fld (pv 0) rfl) (pa_cons (pv 1) pa_nil)))) (pss_cons (ps_expr (C8.pe_c (c_want_index T) hr (by decide) (by rfl) (pa_cons (pe_fld (pv 0) rfl) (pa_cons (pv 1) (pa_cons (pv 2) pa_nil))))) (pss_cons (ps_set (i := 3) sc_Layout_flipped.nd rfl (Or.inl rfl) (pe_op op_shl (pv 2) (C8.pe_c (c_lowest_bit T) hr (by decide) (by rfl) (pa_cons (pe_fld (pv 0) rfl) (pa_cons (pv 1) pa_nil))))) (pss_one (ps_ret (C8.pe_mk (c_Layout T) hr (by decide) (by rfl) (pa_cons (pe_fld (pv 0) rfl) (pa_cons (C8.pe_mt (m_Map_then T) hr (by decide) (C8.pe_c (c_spread T) hr (by decide) (by rfl) (pa_cons (pe_listRg rfl (by rfl) T.b_list (prg_1 (by rfl) T.b_range (pe_pp (p_Layout_bits T) hr (by decide) (pv 0) rfl))) (pa_cons (pe_pp (p_Layout_bits T) hr (by decide) (pv 0) rfl) (pa_cons (pv 3) pa_nil)))) (pa_cons (pe_fld (pv 0) rfl) pa_nil)) pa_nil)))))))), ?_⟩
  obtain ⟨ok, dx, a, m, hl, hA, M⟩ := id L
  obtain ⟨mo, dm, lc, hm, hc⟩ := id M
  have hn := mo.n8
  have hz := hat.sz
  have htl := ok.tl
  refine ⟨_, rfl, l, CL K, dx, _, _, rfl, hl, T.i_Layout.cl, T.n_Layout_own_axes, fsL_ax, _, rfl, _, _, rfl, a, rows, n, rfl, rfl, hA, ok.ro.ln, hat.mem, fun H1 e1 => ?_⟩
  refine ⟨_, rfl, l, CL K, dx, _, _, rfl, e1 _ _ hl, T.i_Layout.cl, T.n_Layout_own_axes, fsL_ax, _, rfl, _, rfl, _, _, _, rfl, a, rows, n, i, r, v, rfl, rfl, rfl, hA.ex e1, ok.ro, hat, hv, fun H2 e2 => ?_⟩
  have e12 := Same.trans e1 e2
  refine ⟨_, rfl, _, rfl, l, CL K, dx, _, _, rfl, e12 _ _ hl, T.i_Layout.cl, T.n_Layout_own_axes, fsL_ax, _, rfl, _, _, rfl, a, rows, n, i, r, rfl, rfl, hA.ex e12, ok.ro, hat, fun H3 e3 => ?_⟩
  have e13 := Same.trans e12 e3
  refine ⟨_, _, rfl, rfl, cpowN (n := low rows i) (Nat.lt_of_lt_of_le hv (Nat.pow_le_pow_right (by decide) (by omega))) (by omega), ?_⟩
  show gName 3 (V.int ((v : Int) * 2 ^ ((low rows i : Int).toNat))) _ _ _
  rw [shl_V]
  have ho : v <<< low rows i < 2 ^ cols.length := shl_lt hv (by omega)
  generalize hoff : v <<< low rows i = o at ho ⊢
  refine ⟨_, rfl, l, CL K, dx, _, _, rfl, e13 _ _ hl, T.i_Layout.cl, T.n_Layout_own_axes, fsL_ax, ?_⟩
  refine ⟨_, rfl, l, dx, _, rfl, e13 _ _ hl, _, rfl, l, rows, cols, k, off, rfl, L.ex e13, ?_⟩
  refine ⟨_, rfl, RgOk.of_le (by omega) (by omega) (by omega) (by omega), fun q hq => ?_⟩
  rw [rg_0]
  have e4 : Ex H3 (upd H3 q (.lst (vL (List.range cols.length)))) := Ex.new hq
  have hqv : upd H3 q (.lst (vL (List.range cols.length))) q = some (.lst (vL (List.range cols.length))) := upd_same
  generalize upd H3 q (.lst (vL (List.range cols.length))) = H4 at e4 hqv ⊢
  have e14 := Same.trans e13 e4
  refine ⟨_, rfl, l, dx, _, rfl, e14 _ _ hl, _, rfl, l, rows, cols, k, off, rfl, L.ex e14, ?_⟩
  refine ⟨_, rfl, _, _, _, rfl, q, List.range cols.length, cols.length, o, rfl, rfl, rfl, hqv, by rw [List.length_range]; exact hn, by omega, fun x hx => List.mem_range.mp hx, ho, fun m1 H5 hm1 e5 M1 => ?_⟩
  obtain ⟨mo1, dm1, lc1, hm1', hc1⟩ := id M1
  have e15 := Same.trans e14 e5
  refine ⟨m1, dm1, _, rfl, hm1', (by walk_at "lk"), _, rfl, l, CL K, dx, _, _, rfl, e15 _ _ hl, T.i_Layout.cl, T.n_Layout_own_mapping, fsL_mp, ?_⟩
  refine ⟨_, _, rfl, m1, m, _, cols, cols.length, k, o, off, rfl, rfl, M1, M.ex e15, rfl, fun m2 H6 hm2 e6 M2 => ?_⟩
  have e16 := Same.trans e15 e6
  obtain ⟨xs, ha, hR⟩ := hA.ex e16
  refine fun l' dx' hl' nd _ => mk_layout (.inr ha) hR M2 ⟨ok.ro, by rw [List.length_map, List.length_map, List.length_range]; exact htl, ok.k4⟩ hl' nd fun H7 e7 L2 => ⟨rfl, ?_⟩
  refine h l' H7 (Same.free e16 hl') (Same.trans e16 e7) ?_
  rw [hoff]; exact L2
end
end My
/-! *** W13 -/
namespace My
open PySem PySem.Spec PyProof.Rows L2 He
local macro_rules | `(tactic| walk_at "lk") => `(tactic| (repeat (first | exact lk1 | exact lk0 | refine (lk2 (by decide +kernel)).trans ?_)))
local macro_rules | `(tactic| walk_at "go") => `(tactic| repeat (first | refine And.intro rfl ?_ | refine iteT ?_ | refine iteF ?_ | refine iteNS (by assumption) ?_ | apply Exists.intro | refine And.intro (by assumption) ?_))
/-- the places but s at a -/
abbrev restIx (n a s : Nat) : List Nat := List.range a ++ (List.range (n - a - s)).map (a + s + ·)
theorem filter_out {n a s : Nat} (h : a + s ≤ n) : ((List.range n).filter fun x => decide (x ∉ (List.range s).map (a + ·))) = restIx n a s := by
  obtain ⟨t, rfl⟩ : ∃ t, n = a + s + t := ⟨n - (a + s), by omega⟩
  rw [List.range_add, List.filter_append, List.range_add, List.filter_append]
  have h1 : ((List.range a).filter fun x => decide (x ∉ (List.range s).map (a + ·))) = List.range a := by
    rw [List.filter_eq_self]
    intro x hx
    refine decide_eq_true fun q => ?_
    obtain ⟨y, _, rfl⟩ := List.mem_map.mp q
    have := List.mem_range.mp hx
    omega
  have h2 : (((List.range s).map (a + ·)).filter fun x => decide (x ∉ (List.range s).map (a + ·))) = [] := by
    rw [List.filter_eq_nil_iff]
    intro x hx q
    exact (of_decide_eq_true q) hx
  have h3 : (((List.range t).map (a + s + ·)).filter fun x => decide (x ∉ (List.range s).map (a + ·))) = (List.range t).map (a + s + ·) := by
    rw [List.filter_eq_self]
    intro x hx
    refine decide_eq_true fun q => ?_
    obtain ⟨y, hy, rfl⟩ := List.mem_map.mp q
    obtain ⟨z, _, e⟩ := List.mem_map.mp hx
    have := List.mem_range.mp hy
    omega
  rw [h1, h2, h3, List.append_nil]
  have e : a + s + t - a - s = t := by omega
  unfold restIx
  rw [e]
theorem restIx_len {n a s : Nat} (h : a + s ≤ n) : (restIx n a s).length = n - s := by
  unfold restIx
  rw [List.length_append, List.length_map, List.length_range, List.length_range]; omega
theorem tot_erase {rows : List Row} {i : Nat} {r : Row} (h : rows[i]? = some r) : tot (rows.eraseIdx i) = tot rows - r.2 := by
  have h1 := tot_split h
  have e : rows.eraseIdx i = rows.take i ++ rows.drop (i + 1) := List.eraseIdx_eq_take_drop_succ ..
  rw [e, tot_app]
  have h2 : tot (rows.take i) = low rows i := rfl
  omega
theorem set_take {rows : List Row} {i : Nat} (x : Row) (h : i < rows.length) : rows.set i x = rows.take i ++ [x] ++ rows.drop (i + 1) := by
  rw [List.set_eq_take_append_cons_drop, if_pos h, List.append_assoc]; rfl
theorem tot_set {rows : List Row} {i : Nat} {r : Row} (h : rows[i]? = some r) (x : Row) : tot (rows.set i x) = tot rows - r.2 + x.2 := by
  have h1 := tot_split h
  rw [set_take x (List.getElem?_eq_some_iff.mp h).1, tot_app, tot_app, tot_cons, tot_nil]
  have h2 : tot (rows.take i) = low rows i := rfl
  omega
theorem RowsOk.erase {rows : List Row} (ok : RowsOk rows) (i : Nat) : RowsOk (rows.eraseIdx i) := by
  have sub : (rows.eraseIdx i).Sublist rows := List.eraseIdx_sublist ..
  refine ⟨fun r hr => ok.nm r (sub.subset hr), (sub.map _).nodup ok.nd, ?_, Nat.le_trans sub.length_le ok.ln⟩
  cases h : rows[i]? with
  | none => rw [List.eraseIdx_of_length_le (List.getElem?_eq_none_iff.mp h)]; exact ok.tt
  | some r => rw [tot_erase h]; have := ok.tt; omega
theorem RowsOk.set {rows : List Row} (ok : RowsOk rows) {i : Nat} {r : Row} (h : rows[i]? = some r) {s : Nat} (hs : s ≤ r.2) : RowsOk (rows.set i (r.1, s)) := by
  have en : (rows.set i (r.1, s)).map (·.1) = rows.map (·.1) := by
    rw [List.map_set]
    refine List.ext_getElem? fun j => ?_
    rw [List.getElem?_set]
    split
    · rename_i e; subst e
      rw [List.getElem?_map, h]
      simp only [List.length_map]
      rw [if_pos (List.getElem?_eq_some_iff.mp h).1]; rfl
    · rfl
  refine ⟨fun x hx => ?_, by rw [en]; exact ok.nd, ?_, by rw [List.length_set]; exact ok.ln⟩
  · rcases List.mem_or_eq_of_mem_set hx with hx | hx
    · exact ok.nm x hx
    · subst hx; exact ok.nm r (List.mem_of_getElem? h)
  · rw [tot_set h]
    have := ok.tt
    have := (At.sz ⟨h, rfl⟩ : low rows i + r.2 ≤ tot rows)
    show tot rows - r.2 + s ≤ 16
    omega
section
variable {P : Program} {w : World} {K : PySem.W.Frag} {mg : Str → Option Value} {base : Heap}
abbrev spMixed (K : PySem.W.Frag) : Sp := spF5 fun a b c d e H Q => ∃ (l : Addr) (rows : List Row) (cols : List Nat) (k off : Nat) (n1 n2 : Str) (i1 i2 : Nat) (r1 r2 : Row) (k1 k2 : Nat), a = .ref l ∧ b = .str n1 ∧ c = vN k1 ∧ d = .str n2 ∧ e = vN k2 ∧ LayoutAt K H l rows cols k off ∧
  At rows n1 i1 r1 ∧ At rows n2 i2 r2 ∧ k1 < r1.2 ∧ k2 < r2.2 ∧ low rows i1 + k1 ≠ low rows i2 + k2 ∧
  ∀ l' H', H l' = none → Ex H H' → LayoutAt K H' l' rows ((mixCols cols.length (low rows i2 + k2) (low rows i1 + k1)).map (cmb cols)) k (cell cols off 0) → Q (.ref l') H'
theorem sc_Layout_mixed : FnScope ["self", "name", "position", "other", "other_position", "before"] ["self", "name", "position", "other", "other_position"] (defScope s_Layout_mixed) := C8.fnScope_by (by decide +kernel)
theorem m_Layout_mixed (T : Tx K mg) : C8.Met P w K mg base 8 (CL K) "mixed" (spMixed K) [] := by
  refine met_of T.i_Layout.cl T.q_Layout_mixed T.d_Layout_mixed sc_Layout_mixed (by intro _ _ _ _ _ _ us hl; match us, hl with | [_, _, _, _, _], _ => rfl) (fun _ _ _ _ h => len5 h) (fun cdv A outer s H vs Q E hr h => ?_)
  obtain ⟨_, _, _, _, _, rfl, l, rows, cols, k, off, n1, n2, i1, i2, r1, r2, k1, k2, rfl, rfl, rfl, rfl, rfl, L, h1, h2, hk1, hk2, hne, h⟩ := h
  refine ⟨_, (pss_cons (ps_set (i := 5) sc_Layout_mixed.nd rfl (Or.inl rfl) (C8.pe_c (c_mixing_map T) hr (by decide) (by rfl) (pa_cons (pe_fld (pv 0) rfl) (pa_cons (pv 1) (pa_cons (pv 2) (pa_cons (pv 3) (pa_cons (pv 4) pa_nil))))))) (pss_one (ps_ret (C8.pe_mk (c_Layout T) hr (by decide) (by rfl) (pa_cons (pe_fld (pv 0) rfl) (pa_cons (C8.pe_mt (m_Map_then T) hr (by decide) (pv 5) (pa_cons (pe_fld (pv 0) rfl) pa_nil)) pa_nil)))))), ?_⟩
  obtain ⟨ok, dx, a, m, hl, hA, M⟩ := id L
  obtain ⟨mo, dm, lc, hm, hc⟩ := id M
  have htl := ok.tl
  refine ⟨_, rfl, l, CL K, dx, _, _, rfl, hl, T.i_Layout.cl, T.n_Layout_own_axes, fsL_ax, _, rfl, _, rfl, _, rfl, _, rfl, ?_⟩
  refine ⟨_, _, _, _, _, rfl, a, rows, n1, n2, i1, i2, r1, r2, k1, k2, rfl, rfl, rfl, rfl, rfl, hA, ok.ro, h1, h2, hk1, hk2, hne, fun m1 H1 hm1 e1 M1 => ?_⟩
  obtain ⟨mo1, dm1, lc1, hm1', hc1⟩ := id M1
  refine ⟨_, rfl, l, CL K, dx, _, _, rfl, e1 _ _ hl, T.i_Layout.cl, T.n_Layout_own_axes, fsL_ax, ?_⟩
  refine ⟨_, rfl, m1, dm1, _, rfl, hm1', (by walk_at "lk"), _, rfl, l, CL K, dx, _, _, rfl, e1 _ _ hl, T.i_Layout.cl, T.n_Layout_own_mapping, fsL_mp, ?_⟩
  refine ⟨_, _, rfl, m1, m, _, cols, tot rows, k, 0, off, rfl, rfl, M1, M.ex e1, htl.symm, fun m2 H6 hm2 e6 M2 => ?_⟩
  have e16 := Same.trans e1 e6
  obtain ⟨xs, ha, hR⟩ := hA.ex e16
  refine fun l' dx' hl' nd _ => mk_layout (.inr ha) hR M2 ⟨ok.ro, by rw [List.length_map, List.length_set, List.length_map, List.length_range], ok.k4⟩ hl' nd fun H7 e7 L2 => ⟨rfl, ?_⟩
  refine h l' H7 (Same.free e16 hl') (Same.trans e16 e7) ?_
  rw [← htl]; exact L2
abbrev spFixed (K : PySem.W.Frag) : Sp := spF3 fun a b c H Q => ∃ (l : Addr) (rows : List Row) (cols : List Nat) (k off : Nat) (n : Str) (i : Nat) (r : Row) (v : Nat), a = .ref l ∧ b = .str n ∧ c = vN v ∧ LayoutAt K H l rows cols k off ∧ At rows n i r ∧ v < 2 ^ r.2 ∧
  ∀ l' H', H l' = none → Ex H H' → LayoutAt K H' l' (rows.eraseIdx i) (((restIx cols.length (low rows i) r.2).map (2 ^ ·)).map (cmb cols)) k (cell cols off (v <<< low rows i)) → Q (.ref l') H'
theorem sc_Layout_fixed : FnScope ["self", "name", "index", "offset", "before"] ["self", "name", "index"] (defScope s_Layout_fixed) := C8.fnScope_by (by decide +kernel)
theorem m_Layout_fixed (T : Tx K mg) : C8.Met P w K mg base 8 (CL K) "fixed" (spFixed K) [] := by
  refine met_of T.i_Layout.cl T.q_Layout_fixed T.d_Layout_fixed sc_Layout_fixed (by intro _ _ _ _ _ _ us hl; match us, hl with | [_, _, _], _ => rfl) (fun _ _ _ _ h => len3 h) (fun cdv A outer s H vs Q E hr h => ?_)
  obtain ⟨_, _, _, rfl, l, rows, cols, k, off, n, i, r, v, rfl, rfl, rfl, L, hat, hv, h⟩ := h
  refine ⟨_, (pss_cons (ps_expr (C8.pe_c (c_want_axis T) hr (by decide) (by rfl) (pa_cons (pe_fld (pv 0) rfl) (pa_cons (pv 1) pa_nil)))) (pss_cons (ps_expr (C8.pe_c (c_want_index T) hr (by decide) (by rfl) (pa_cons (pe_fld (pv 0) rfl) (pa_cons (pv 1) (pa_cons (pv 2) pa_nil))))) (pss_cons (ps_set (i := 3) sc_Layout_fixed.nd rfl (Or.inl rfl) (pe_op op_shl (pv 2) (C8.pe_c (c_lowest_bit T) hr (by decide) (by rfl) (pa_cons (pe_fld (pv 0) rfl) (pa_cons (pv 1) pa_nil))))) (pss_cons (ps_set (i := 4) sc_Layout_fixed.nd rfl (Or.inl rfl) (C8.pe_c (c_without_bits T) hr (by decide) (by rfl) (pa_cons (pe_fld (pv 0) rfl) (pa_cons (C8.pe_c (c_axis_positions T) hr (by decide) (by rfl) (pa_cons (pe_fld (pv 0) rfl) (pa_cons (pv 1) pa_nil))) (pa_cons (pv 3) pa_nil))))) (pss_one (ps_ret (C8.pe_mk (c_Layout T) hr (by decide) (by rfl) (pa_cons (C8.pe_c (c_replaced T) hr (by decide) (by rfl) (pa_cons (pe_fld (pv 0) rfl) (pa_cons (pv 1) (pa_cons pe_int (pa_cons (pe_lst pa_nil) pa_nil))))) (pa_cons (C8.pe_mt (m_Map_then T) hr (by decide) (pv 4) (pa_cons (pe_fld (pv 0) rfl) pa_nil)) pa_nil))))))))), ?_⟩
  obtain ⟨ok, dx, a, m, hl, hA, M⟩ := id L
  obtain ⟨mo, dm, lc, hm, hc⟩ := id M
  have hn := mo.n8
  have hz := hat.sz
  have htl := ok.tl
  refine ⟨_, rfl, l, CL K, dx, _, _, rfl, hl, T.i_Layout.cl, T.n_Layout_own_axes, fsL_ax, _, rfl, _, _, rfl, a, rows, n, rfl, rfl, hA, ok.ro.ln, hat.mem, fun H1 e1 => ?_⟩
  refine ⟨_, rfl, l, CL K, dx, _, _, rfl, e1 _ _ hl, T.i_Layout.cl, T.n_Layout_own_axes, fsL_ax, _, rfl, _, rfl, _, _, _, rfl, a, rows, n, i, r, v, rfl, rfl, rfl, hA.ex e1, ok.ro, hat, hv, fun H2 e2 => ?_⟩
  have e12 := Same.trans e1 e2
  refine ⟨_, rfl, _, rfl, l, CL K, dx, _, _, rfl, e12 _ _ hl, T.i_Layout.cl, T.n_Layout_own_axes, fsL_ax, _, rfl, _, _, rfl, a, rows, n, i, r, rfl, rfl, hA.ex e12, ok.ro, hat, fun H3 e3 => ?_⟩
  have e13 := Same.trans e12 e3
  refine ⟨_, _, rfl, rfl, cpowN (n := low rows i) (Nat.lt_of_lt_of_le hv (Nat.pow_le_pow_right (by decide) (by omega))) (by omega), ?_⟩
  show gName 3 (V.int ((v : Int) * 2 ^ ((low rows i : Int).toNat))) _ _ _
  rw [shl_V]
  have ho : v <<< low rows i < 2 ^ tot rows := shl_lt hv (by omega)
  generalize hoff : v <<< low rows i = o at ho ⊢
  refine ⟨_, rfl, l, CL K, dx, _, _, rfl, e13 _ _ hl, T.i_Layout.cl, T.n_Layout_own_axes, fsL_ax, ?_⟩
  refine ⟨_, rfl, l, CL K, dx, _, _, rfl, e13 _ _ hl, T.i_Layout.cl, T.n_Layout_own_axes, fsL_ax, _, rfl, _, _, rfl, a, rows, n, i, r, rfl, rfl, hA.ex e13, ok.ro, hat, fun q H4 hq e4 hqv => ?_⟩
  have e14 := Same.trans e13 e4
  refine ⟨_, rfl, _, _, _, rfl, a, q, rows, _, o, rfl, rfl, rfl, hA.ex e14, ok.ro, hqv, ho, fun m1 H5 hm1 e5 M1 => ?_⟩
  obtain ⟨mo1, dm1, lc1, hm1', hc1⟩ := id M1
  have e15 := Same.trans e14 e5
  refine ⟨_, rfl, l, CL K, dx, _, _, rfl, e15 _ _ hl, T.i_Layout.cl, T.n_Layout_own_axes, fsL_ax, _, rfl, ?_⟩
  refine ⟨Nat.zero_le _, fun q2 hq2 => ?_⟩
  have e6 : Ex H5 (upd H5 q2 (.lst [])) := Ex.new hq2
  have hq2v : upd H5 q2 (.lst []) q2 = some (.lst []) := upd_same
  generalize upd H5 q2 (.lst []) = H6 at e6 hq2v ⊢
  have e16 := Same.trans e15 e6
  refine ⟨_, _, _, _, rfl, a, q2, [], rows, [], n, i, r, rfl, rfl, rfl, rfl, hA.ex e16, ok.ro, hat, hq2v, RowsV.nil, by decide, fun q3 H7 zs hq3 e7 hq3v hR3 => ?_⟩
  have e17 := Same.trans e16 e7
  refine ⟨_, rfl, m1, dm1, _, rfl, e7 _ _ (e6 _ _ hm1'), (by walk_at "lk"), _, rfl, l, CL K, dx, _, _, rfl, e17 _ _ hl, T.i_Layout.cl, T.n_Layout_own_mapping, fsL_mp, ?_⟩
  refine ⟨_, _, rfl, m1, m, _, cols, tot rows, k, o, off, rfl, rfl, M1.ex (Same.trans e6 e7), M.ex e17, htl.symm, fun m2 H8 hm2 e8 M2 => ?_⟩
  have e18 := Same.trans e17 e8
  have er : rows.take i ++ [] ++ rows.drop (i + 1) = rows.eraseIdx i := by rw [List.append_nil]; exact (List.eraseIdx_eq_take_drop_succ ..).symm
  rw [er] at hR3
  have ed : dropCols (tot rows) ((List.range r.2).map (low rows i + ·)) = (restIx cols.length (low rows i) r.2).map (2 ^ ·) := by
    unfold dropCols
    rw [filter_out hz, htl]
  rw [ed] at M2
  refine fun l' dx' hl' nd _ => mk_layout (.inl (e8 _ _ hq3v)) (hR3.ex e8) M2 ⟨ok.ro.erase i, ?_, ok.k4⟩ hl' nd fun H9 e9 L2 => ⟨rfl, ?_⟩
  · rw [List.length_map, List.length_map, restIx_len (by omega), tot_erase hat.at_, htl]
  · refine h l' H9 (Same.free e18 hl') (Same.trans e18 e9) ?_
    rw [hoff]; exact L2
end
end My
/-! *** W14 -/
namespace My
open PySem PySem.Spec PyProof.Rows L2 He
local macro_rules | `(tactic| walk_at "lk") => `(tactic| (repeat (first | exact lk1 | exact lk0 | refine (lk2 (by decide +kernel)).trans ?_)))
local macro_rules | `(tactic| walk_at "go") => `(tactic| repeat (first | refine And.intro rfl ?_ | refine iteT ?_ | refine iteF ?_ | refine iteNS (by assumption) ?_ | apply Exists.intro | refine And.intro (by assumption) ?_))
section
variable {P : Program} {w : World} {K : PySem.W.Frag} {mg : Str → Option Value} {base : Heap}
theorem catA_any {H : Hp} {Q : VK} {a b : Addr} {xs ys : List V} (ha : H a = some (.tup xs)) (hb : H b = some (.tup ys)) (hl : xs.length + ys.length ≤ sizeLine) (h : ∀ p H', Ex H H' → H' p = some (.tup (xs ++ ys)) → Q (.ref p) H') :
    rCatA K (.ref a) (.ref b) H Q := by
  refine ⟨a, b, xs, ys, rfl, rfl, .of ha, .of hb, hl, fun q => ?_, fun _ q => ?_, fun _ _ p hp => h p _ (Ex.new hp) upd_same⟩
  · subst q; exact h b H (Same.refl H) hb
  · subst q; exact h a H (Same.refl H) (by rw [List.append_nil]; exact ha)
abbrev spCut (K : PySem.W.Frag) : Sp := spF4 fun a b c d H Q => ∃ (l : Addr) (rows : List Row) (cols : List Nat) (k off : Nat) (n : Str) (i : Nat) (r : Row) (j v : Nat), a = .ref l ∧ b = .str n ∧ c = vN j ∧ d = vN v ∧ LayoutAt K H l rows cols k off ∧ At rows n i r ∧ j < r.2 ∧ v < 2 ∧
  ∀ l' H', H l' = none → Ex H H' → LayoutAt K H' l' (rows.set i (n, r.2 - 1)) (((restIx cols.length (low rows i + j) 1).map (2 ^ ·)).map (cmb cols)) k (cell cols off (v <<< (low rows i + j))) → Q (.ref l') H'
theorem sc_Layout_cut : FnScope ["self", "name", "position", "value", "dropped", "before", "part"] ["self", "name", "position", "value"] (defScope s_Layout_cut) := C8.fnScope_by (by decide +kernel)
theorem m_Layout_cut (T : Tx K mg) : C8.Met P w K mg base 8 (CL K) "cut" (spCut K) [] := by
  refine met_of T.i_Layout.cl T.q_Layout_cut T.d_Layout_cut sc_Layout_cut (by intro _ _ _ _ _ _ us hl; match us, hl with | [_, _, _, _], _ => rfl) (fun _ _ _ _ h => len4 h) (fun cdv A outer s H vs Q E hr h => ?_)
  obtain ⟨_, _, _, _, rfl, l, rows, cols, k, off, n, i, r, j, v, rfl, rfl, rfl, rfl, L, hat, hj, hv, h⟩ := h
  refine ⟨_, (pss_cons (ps_expr (C8.pe_c (c_want_axis T) hr (by decide) (by rfl) (pa_cons (pe_fld (pv 0) rfl) (pa_cons (pv 1) pa_nil)))) (pss_cons (ps_expr (C8.pe_c (c_want_axis_position T) hr (by decide) (by rfl) (pa_cons (pe_fld (pv 0) rfl) (pa_cons (pv 1) (pa_cons (pv 2) pa_nil))))) (pss_cons (ps_if (PW.pt (pw_or (pt_not (pt_val (C8.pe_c (c_is_integer T) hr (by decide) (by rfl) (pa_cons (pv 3) pa_nil)))) (pw_or1 (pt_cmpR op_notIn_seq (pv 3) (pe_tup (pa_cons pe_int (pa_cons pe_int pa_nil))) (by with_unfolding_all rfl))))) (pss_one ps_never) pss_nil) (pss_cons (ps_set (i := 4) sc_Layout_cut.nd rfl (Or.inl rfl) (pe_op op_add (C8.pe_c (c_lowest_bit T) hr (by decide) (by rfl) (pa_cons (pe_fld (pv 0) rfl) (pa_cons (pv 1) pa_nil))) (pv 2))) (pss_cons (ps_set (i := 5) sc_Layout_cut.nd rfl (Or.inl rfl) (C8.pe_c (c_without_bits T) hr (by decide) (by rfl) (pa_cons (pe_fld (pv 0) rfl) (pa_cons (pe_lst (pa_cons (pv 4) pa_nil)) (pa_cons (pe_op op_shl (pv 3) (pv 4)) pa_nil))))) (pss_cons (ps_set (i := 6) sc_Layout_cut.nd rfl (Or.inl rfl) (pe_tup (pa_cons (pv 1) (pa_cons (pe_op op_sub (C8.pe_c (c_axis_size T) hr (by decide) (by rfl) (pa_cons (pe_fld (pv 0) rfl) (pa_cons (pv 1) pa_nil))) pe_int) pa_nil)))) (pss_one (ps_ret (C8.pe_mk (c_Layout T) hr (by decide) (by rfl) (pa_cons (C8.pe_c (c_replaced T) hr (by decide) (by rfl) (pa_cons (pe_fld (pv 0) rfl) (pa_cons (pv 1) (pa_cons pe_int (pa_cons (pe_lst (pa_cons (pv 6) pa_nil)) pa_nil))))) (pa_cons (C8.pe_mt (m_Map_then T) hr (by decide) (pv 5) (pa_cons (pe_fld (pv 0) rfl) pa_nil)) pa_nil))))))))))), ?_⟩
  obtain ⟨ok, dx, a, m, hl, hA, M⟩ := id L
  obtain ⟨mo, dm, lc, hm, hc⟩ := id M
  have hn := mo.n8
  have hz := hat.sz
  have htl := ok.tl
  refine ⟨_, rfl, l, CL K, dx, _, _, rfl, hl, T.i_Layout.cl, T.n_Layout_own_axes, fsL_ax, _, rfl, _, _, rfl, a, rows, n, rfl, rfl, hA, ok.ro.ln, hat.mem, fun H1 e1 => ?_⟩
  refine ⟨_, rfl, l, CL K, dx, _, _, rfl, e1 _ _ hl, T.i_Layout.cl, T.n_Layout_own_axes, fsL_ax, _, rfl, _, rfl, _, _, _, rfl, a, rows, n, i, r, j, rfl, rfl, rfl, hA.ex e1, ok.ro, hat, hj, fun H2 e2 => ?_⟩
  have e12 := Same.trans e1 e2
  refine ⟨_, rfl, _, rfl, _, rfl, _, rfl, ?_⟩
  refine iteF ⟨_, rfl, by show 2 ≤ sizeLine; decide, fun t ht => ?_⟩
  have e3 : Ex H2 (upd H2 t (.tup (vL [0, 1]))) := Ex.new ht
  have htv : upd H2 t (.tup (vL [0, 1])) t = some (.tup (vL [0, 1])) := upd_same
  change (fun y H2 => rIn _ true (vN v) y H2 _) (V.ref t) (upd H2 t (.tup (vL [0, 1])))
  generalize upd H2 t (.tup (vL [0, 1])) = H3 at e3 htv ⊢
  have e13 := Same.trans e12 e3
  refine ⟨t, _, rfl, .inr (.of htv), rfl, rfl, _, rfl, ?_⟩
  show (fun b H3 => if b = true then _ else _) (!inV (vN v) (vL [0, 1])) H3
  have hin : v ∈ [0, 1] := by
    have : v = 0 ∨ v = 1 := by omega
    rcases this with rfl | rfl <;> simp
  rw [inV_ints, decide_eq_true hin]
  refine iteF ?_
  refine ⟨_, rfl, l, CL K, dx, _, _, rfl, e13 _ _ hl, T.i_Layout.cl, T.n_Layout_own_axes, fsL_ax, _, rfl, _, _, rfl, a, rows, n, i, r, rfl, rfl, hA.ex e13, ok.ro, hat, fun H4 e4 => ?_⟩
  have e14 := Same.trans e13 e4
  refine ⟨_, rfl, _, _, rfl, rfl, ?_⟩
  have ea : ((low rows i : Int) + (j : Int)) = ((low rows i + j : Nat) : Int) := by omega
  show gName 4 (V.int ((low rows i : Int) + (j : Int))) _ _ _
  rw [ea]
  have hd : low rows i + j < tot rows := by omega
  generalize hdd : low rows i + j = d at hd ⊢
  refine ⟨_, rfl, l, CL K, dx, _, _, rfl, e14 _ _ hl, T.i_Layout.cl, T.n_Layout_own_axes, fsL_ax, ?_⟩
  refine ⟨_, rfl, by show 1 ≤ sizeLine; decide, fun q hq => ?_⟩
  have e5 : Ex H4 (upd H4 q (.lst [vN d])) := Ex.new hq
  have hqv : upd H4 q (.lst [vN d]) q = some (.lst (vL [d])) := upd_same
  generalize upd H4 q (.lst [vN d]) = H5 at e5 hqv ⊢
  have e15 := Same.trans e14 e5
  refine ⟨_, rfl, _, rfl, _, _, rfl, rfl, cpowN (a := v) (n := d) (Nat.lt_trans hv (by decide)) (by omega), ?_⟩
  have ho : v <<< d < 2 ^ tot rows := shl_lt (b := 1) hv (by omega)
  refine ⟨_, _, _, rfl, a, q, rows, [d], v <<< d, rfl, rfl, shl_V v d, hA.ex e15, ok.ro, hqv, ho, fun m1 H6 hm1 e6 M1 => ?_⟩
  obtain ⟨mo1, dm1, lc1, hm1', hc1⟩ := id M1
  have e16 := Same.trans e15 e6
  refine ⟨_, rfl, _, rfl, l, CL K, dx, _, _, rfl, e16 _ _ hl, T.i_Layout.cl, T.n_Layout_own_axes, fsL_ax, _, rfl, _, _, rfl, a, rows, n, i, r, rfl, rfl, hA.ex e16, ok.ro, hat, fun H7 e7 => ?_⟩
  have e17 := Same.trans e16 e7
  refine ⟨_, _, rfl, rfl, by show 2 ≤ sizeLine; decide, fun q2 hq2 => ?_⟩
  have es : ((r.2 : Int) - 1) = ((r.2 - 1 : Nat) : Int) := by omega
  have e8 : Ex H7 (upd H7 q2 (.tup [.str n, .int ((r.2 : Int) - 1)])) := Ex.new hq2
  have hq2v : upd H7 q2 (.tup [.str n, .int ((r.2 : Int) - 1)]) q2 = some (.tup [.str n, vN (r.2 - 1)]) := by rw [upd_same, es]
  generalize upd H7 q2 (.tup [.str n, .int ((r.2 : Int) - 1)]) = H8 at e8 hq2v ⊢
  have e18 := Same.trans e17 e8
  refine ⟨_, rfl, l, CL K, dx, _, _, rfl, e18 _ _ hl, T.i_Layout.cl, T.n_Layout_own_axes, fsL_ax, _, rfl, ?_⟩
  refine ⟨_, rfl, by show 1 ≤ sizeLine; decide, fun q3 hq3 => ?_⟩
  have e9 : Ex H8 (upd H8 q3 (.lst [.ref q2])) := Ex.new hq3
  have hq3v : upd H8 q3 (.lst [.ref q2]) q3 = some (.lst [.ref q2]) := upd_same
  generalize upd H8 q3 (.lst [.ref q2]) = H9 at e9 hq3v ⊢
  have e19 := Same.trans e18 e9
  refine ⟨_, _, _, _, rfl, a, q3, [.ref q2], rows, [(n, r.2 - 1)], n, i, r, rfl, rfl, rfl, rfl, hA.ex e19, ok.ro, hat, hq3v, RowsV.one ⟨q2, rfl, e9 _ _ hq2v⟩, by show 1 ≤ 10; decide, fun q4 H10 zs hq4 e10 hq4v hR4 => ?_⟩
  have e20 := Same.trans e19 e10
  have e6' := Same.trans (Same.trans (Same.trans e7 e8) e9) e10
  refine ⟨_, rfl, m1, dm1, _, rfl, e6' _ _ hm1', (by walk_at "lk"), _, rfl, l, CL K, dx, _, _, rfl, e20 _ _ hl, T.i_Layout.cl, T.n_Layout_own_mapping, fsL_mp, ?_⟩
  refine ⟨_, _, rfl, m1, m, _, cols, tot rows, k, v <<< d, off, rfl, rfl, M1.ex e6', M.ex e20, htl.symm, fun m2 H11 hm2 e11 M2 => ?_⟩
  have e21 := Same.trans e20 e11
  have hi : i < rows.length := (List.getElem?_eq_some_iff.mp hat.at_).1
  rw [← set_take _ hi] at hR4
  have ed : dropCols (tot rows) [d] = (restIx cols.length d 1).map (2 ^ ·) := by
    have h1 := filter_out (n := tot rows) (a := d) (s := 1) (by omega)
    have h2 : (List.range 1).map (d + ·) = [d] := rfl
    rw [h2] at h1
    unfold dropCols
    rw [h1, htl]
  rw [ed] at M2
  have hn1 : r.1 = n := hat.nm
  refine fun l' dx' hl' nd _ => mk_layout (.inl (e11 _ _ hq4v)) (hR4.ex e11) M2 ⟨?_, ?_, ok.k4⟩ hl' nd fun H12 e12 L2 => ⟨rfl, ?_⟩
  · rw [← hn1]; exact ok.ro.set hat.at_ (by omega)
  · rw [List.length_map, List.length_map, restIx_len (by omega), tot_set hat.at_, htl]
    show cols.length - r.2 + (r.2 - 1) = _
    omega
  · refine h l' H12 (Same.free e21 hl') (Same.trans e21 e12) ?_
    rw [hdd]; exact L2
abbrev spRep (K : PySem.W.Frag) : Sp := spF3 fun a b c H Q => ∃ (l : Addr) (rows : List Row) (cols : List Nat) (k off : Nat) (n : Str) (v : Nat), a = .ref l ∧ b = .str n ∧ c = vN v ∧ LayoutAt K H l rows cols k off ∧ NameOk n ∧ n ∉ nms rows ∧ cols.length + v ≤ 16 ∧ rows.length < 100 ∧
  ∀ l' H', H l' = none → Ex H H' → LayoutAt K H' l' (rows ++ [(n, v)]) ((selCols cols.length v).map (cmb cols)) k (cell cols off 0) → Q (.ref l') H'
theorem sc_Layout_repeated : FnScope ["self", "name", "bits", "before"] ["self", "name", "bits"] (defScope s_Layout_repeated) := C8.fnScope_by (by decide +kernel)
theorem m_Layout_repeated (T : Tx K mg) : C8.Met P w K mg base 8 (CL K) "repeated" (spRep K) [] := by
  refine met_of T.i_Layout.cl T.q_Layout_repeated T.d_Layout_repeated sc_Layout_repeated (by intro _ _ _ _ _ _ us hl; match us, hl with | [_, _, _], _ => rfl) (fun _ _ _ _ h => len3 h) (fun cdv A outer s H vs Q E hr h => ?_)
  obtain ⟨_, _, _, rfl, l, rows, cols, k, off, n, v, rfl, rfl, rfl, L, hn, hnm, hv, hrl, h⟩ := h
  refine ⟨_, (pss_cons (ps_expr (C8.pe_c (c_want_name T) hr (by decide) (by rfl) (pa_cons (pv 1) pa_nil))) (pss_cons (ps_expr (C8.pe_c (c_want_free T) hr (by decide) (by rfl) (pa_cons (pe_fld (pv 0) rfl) (pa_cons (pv 1) pa_nil)))) (pss_cons (ps_if (PW.pt (pw_or (pt_not (pt_val (C8.pe_c (c_is_integer T) hr (by decide) (by rfl) (pa_cons (pv 2) pa_nil)))) (pw_or1 (pt_not (pt_chain op_le op_le pe_int (pv 2) (pe_op op_sub (C8.pe_gc (by rfl) T.c_MOST_AXIS_BITS) (pe_pp (p_Layout_bits T) hr (by decide) (pv 0) rfl))))))) (pss_one ps_never) pss_nil) (pss_cons (ps_set (i := 3) sc_Layout_repeated.nd rfl (Or.inl rfl) (pe_cm (cm_selecting T) hr (by decide) (C8.pe_gc (by rfl) T.k_Map) (pa_cons (pe_listRg rfl (by rfl) T.b_list (prg_1 (by rfl) T.b_range (pe_pp (p_Layout_bits T) hr (by decide) (pv 0) rfl))) (pa_cons (pe_op op_add (pe_pp (p_Layout_bits T) hr (by decide) (pv 0) rfl) (pv 2)) pa_nil)))) (pss_one (ps_ret (C8.pe_mk (c_Layout T) hr (by decide) (by rfl) (pa_cons (pe_op op_catA (pe_fld (pv 0) rfl) (pe_tup (pa_cons (pe_tup (pa_cons (pv 1) (pa_cons (pv 2) pa_nil))) pa_nil))) (pa_cons (C8.pe_mt (m_Map_then T) hr (by decide) (pv 3) (pa_cons (pe_fld (pv 0) rfl) pa_nil)) pa_nil))))))))), ?_⟩
  obtain ⟨ok, dx, a, m, hl, hA, M⟩ := id L
  obtain ⟨mo, dm, lc, hm, hc⟩ := id M
  have htl := ok.tl
  have hn8 := mo.n8
  refine ⟨_, rfl, _, rfl, n, rfl, hn, fun H1 e1 => ?_⟩
  refine ⟨_, rfl, l, CL K, dx, _, _, rfl, e1 _ _ hl, T.i_Layout.cl, T.n_Layout_own_axes, fsL_ax, _, rfl, _, _, rfl, a, rows, n, rfl, rfl, hA.ex e1, ok.ro.ln, hnm, fun H2 e2 => ?_⟩
  have e12 := Same.trans e1 e2
  have h0 : (0 : Int) ≤ (v : Int) := by omega
  have h1 : (v : Int) ≤ (40 : Int) - (cols.length : Int) := by omega
  refine ⟨_, rfl, _, rfl, _, rfl, _, rfl, ?_⟩
  refine iteF ⟨_, rfl, _, _, rfl, rfl, _, rfl, ?_⟩
  refine iteY h0 ⟨_, rfl, l, dx, _, rfl, e12 _ _ hl, _, rfl, l, rows, cols, k, off, rfl, L.ex e12, ?_⟩
  refine ⟨_, _, rfl, rfl, _, _, rfl, rfl, _, rfl, ?_⟩
  refine iteNS h1 ?_
  refine ⟨rfl, _, rfl, l, dx, _, rfl, e12 _ _ hl, _, rfl, l, rows, cols, k, off, rfl, L.ex e12, ?_⟩
  refine ⟨_, rfl, RgOk.of_le (by omega) (by omega) (by omega) (by omega), fun q hq => ?_⟩
  rw [rg_0]
  have e3 : Ex H2 (upd H2 q (.lst (vL (List.range cols.length)))) := Ex.new hq
  have hqv : upd H2 q (.lst (vL (List.range cols.length))) q = some (.lst (vL (List.range cols.length))) := upd_same
  generalize upd H2 q (.lst (vL (List.range cols.length))) = H3 at e3 hqv ⊢
  have e13 := Same.trans e12 e3
  refine ⟨_, rfl, l, dx, _, rfl, e13 _ _ hl, _, rfl, l, rows, cols, k, off, rfl, L.ex e13, ?_⟩
  refine ⟨_, rfl, _, _, rfl, rfl, ?_⟩
  refine ⟨_, _, _, rfl, q, cols.length, v, rfl, rfl, congrArg V.int (Int.natCast_add _ _).symm, hqv, hv, fun m1 H4 hm1 e4 M1 => ?_⟩
  obtain ⟨mo1, dm1, lc1, hm1', hc1⟩ := id M1
  have e14 := Same.trans e13 e4
  refine ⟨_, rfl, l, CL K, dx, _, _, rfl, e14 _ _ hl, T.i_Layout.cl, T.n_Layout_own_axes, fsL_ax, ?_⟩
  refine ⟨_, rfl, _, rfl, by show 2 ≤ sizeLine; decide, fun t1 ht1 => ?_⟩
  have e5 : Ex H4 (upd H4 t1 (.tup [.str n, vN v])) := Ex.new ht1
  have ht1v : upd H4 t1 (.tup [.str n, vN v]) t1 = some (.tup [.str n, vN v]) := upd_same
  generalize upd H4 t1 (.tup [.str n, vN v]) = H5 at e5 ht1v ⊢
  refine ⟨by show 1 ≤ sizeLine; decide, fun t2 ht2 => ?_⟩
  have e6 : Ex H5 (upd H5 t2 (.tup [.ref t1])) := Ex.new ht2
  have ht2v : upd H5 t2 (.tup [.ref t1]) t2 = some (.tup [.ref t1]) := upd_same
  generalize upd H5 t2 (.tup [.ref t1]) = H6 at e6 ht2v ⊢
  have e16 := Same.trans (Same.trans e14 e5) e6
  obtain ⟨xs, ha, hR⟩ := hA.ex e16
  have hxl := hR.len
  refine catA_any ha ht2v (by show xs.length + 1 ≤ sizeLine; exact Nat.le_trans (by omega : _ ≤ 200) (by decide)) fun p H7 e7 hp => ?_
  have e17 := Same.trans e16 e7
  have e47 := Same.trans (Same.trans e5 e6) e7
  have hR7 : RowsV H7 (xs ++ [.ref t1]) (rows ++ [(n, v)]) := (hR.app (RowsV.one ⟨t1, rfl, e6 _ _ ht1v⟩)).ex e7
  refine ⟨_, rfl, m1, dm1, _, rfl, e47 _ _ hm1', (by walk_at "lk"), _, rfl, l, CL K, dx, _, _, rfl, e17 _ _ hl, T.i_Layout.cl, T.n_Layout_own_mapping, fsL_mp, ?_⟩
  refine ⟨_, _, rfl, m1, m, _, cols, cols.length, k, 0, off, rfl, rfl, M1.ex e47, M.ex e17, rfl, fun m2 H8 hm2 e8 M2 => ?_⟩
  have e18 := Same.trans e17 e8
  refine fun l' dx' hl' nd _ => mk_layout (.inr (e8 _ _ hp)) (hR7.ex e8) M2 ⟨⟨?_, ?_, ?_, ?_⟩, ?_, ok.k4⟩ hl' nd fun H9 e9 L2 => ⟨rfl, ?_⟩
  · intro x hx
    rcases List.mem_append.mp hx with hx | hx
    · exact ok.ro.nm x hx
    · rw [List.mem_singleton.mp hx]; exact hn
  · rw [List.map_append]
    refine List.nodup_append.mpr ⟨ok.ro.nd, by simp, fun x hx y hy => ?_⟩
    have hy' : y = n := by simpa using hy
    exact fun q => hnm (by rw [← hy', ← q]; exact hx)
  · rw [tot_app, tot_cons, tot_nil]; show tot rows + (v + 0) ≤ 16; omega
  · rw [List.length_append]; show rows.length + 1 ≤ 100; omega
  · rw [tot_app, tot_cons, tot_nil, List.length_map, List.length_append, List.length_replicate, List.length_map, List.length_range, htl]; rfl
  · exact h l' H9 (Same.free e18 hl') (Same.trans e18 e9) L2
end
end My
/-! *** W15 -/
namespace My
open PySem PySem.Spec PyProof.Rows L2 He
local macro_rules | `(tactic| walk_at "lk") => `(tactic| (repeat (first | exact lk1 | exact lk0 | refine (lk2 (by decide +kernel)).trans ?_)))
/-! ### plain data -/
abbrev dN (n : Nat) : PyData := .int (n : Int)
abbrev dNums (l : List Nat) : PyData := .list (l.map dN)
theorem dpAll_nums {K : PySem.W.Frag} {H : Hp} : ∀ l : List Nat, DpAll K H (vL l) (l.map dN)
  | [] => .nil
  | n :: l => .cons (.int _) (dpAll_nums l)
theorem dpNums {K : PySem.W.Frag} {H : Hp} {a : Addr} {l : List Nat} (h : H a = some (.lst (vL l))) : Dp K H (.ref a) (dNums l) := .lst (.of h) (dpAll_nums l)
theorem canLay_nums : ∀ l : List Nat, PyData.canLayAll0 (l.map dN) = true
  | [] => rfl
  | n :: l => by rw [List.map_cons, PyData.canLayAll0, PyData.canLay0, canLay_nums l]; rfl
theorem depth_nums : ∀ l : List Nat, PyData.depthAll (l.map dN) = 0
  | [] => rfl
  | n :: l => by rw [List.map_cons, PyData.depthAll, PyData.depth, depth_nums l]; rfl
theorem shaped_nums (l : List Nat) : SeqAt.shaped (dNums l) = true := by
  unfold SeqAt.shaped
  rw [PyData.canLay0, canLay_nums, PyData.depth, depth_nums]; rfl
theorem eqv_nums (l : List Nat) : PyData.eqv (dNums l) (dNums l) = true := SeqAt.eqv_refl _ (by rw [PyData.canLay0, canLay_nums])
theorem short_int : ∀ n : Nat, n < 256 → (PyData.shown (.int (n : Int))).length ≤ 13 := by
  have h : ∀ i : Fin 256, (PyData.shown (.int (i.val : Int))).length ≤ 13 := by decide +kernel
  exact fun n hn => h ⟨n, hn⟩
theorem log_small {n : Nat} (h : n < 256) : ((n : Int).natAbs.log2 < 1920) := by
  have e : (n : Int).natAbs = n := rfl
  rw [e]
  by_cases h0 : n = 0
  · subst h0; decide
  · have := (Nat.log2_lt h0).mpr (show n < 2 ^ 8 from h); omega
theorem weight_small {n : Nat} (h : n < 256) : PyData.weight (.int (n : Int)) ≤ 9 := by
  unfold PyData.weight
  split
  · omega
  · rename_i h0
    have e : (n : Int).natAbs = n := rfl
    rw [e]
    have h1 : n ≠ 0 := fun z => h0 (by subst z; rfl)
    have := (Nat.log2_lt h1).mpr (show n < 2 ^ 8 from h); omega
theorem weight_nums : ∀ l : List Nat, (∀ x ∈ l, x < 256) → PyData.weightAll (l.map dN) ≤ 10 * l.length
  | [], _ => Nat.zero_le _
  | n :: l, h => by
    have h1 : (dN n).weight ≤ 9 := weight_small (h n List.mem_cons_self)
    have h2 := weight_nums l fun x hx => h x (List.mem_cons_of_mem _ hx)
    rw [List.map_cons, PyData.weightAll, List.length_cons]; omega
theorem short_nums : ∀ l : List Nat, (∀ x ∈ l, x < 256) → PyData.intsShortAll 13 (l.map dN) = true
  | [], _ => by simp only [List.map_nil, PyData.intsShortAll]
  | n :: l, h => by
    have h1 := short_int n (h n List.mem_cons_self)
    simp only [List.map_cons, PyData.intsShortAll, PyData.intsShort, short_nums l fun x hx => h x (List.mem_cons_of_mem _ hx), decide_eq_true h1, Bool.and_self]
theorem show_nums : ∀ l : List Nat, (∀ x ∈ l, x < 256) → PyData.showableAll (l.map dN) = true
  | [], _ => by simp only [List.map_nil, PyData.showableAll]
  | n :: l, h => by
    simp only [List.map_cons, PyData.showableAll, PyData.showable, show_nums l fun x hx => h x (List.mem_cons_of_mem _ hx), decide_eq_true (log_small (h n List.mem_cons_self)), Bool.and_self]
theorem shn_of {d : PyData} (hs : d.showable = true) (hc : d.canLay0 = true) (hd : d.depth ≤ 10) (hw : d.weight ≤ 2 ^ 15) (hi : d.intsShort 13 = true) : Shn d := by
  refine ⟨hs, PyData.hasDict_of_canLay d hc, ?_, hd⟩
  have h2 := PyData.shown_le 13 (by decide) d (PyData.leavesShort_of_canLay0 13 d hc hi)
  omega
theorem shn_nums {l : List Nat} (h : ∀ x ∈ l, x < 256) (hn : l.length ≤ 1000) : Shn (dNums l) := by
  refine shn_of ?_ ?_ ?_ ?_ ?_
  · simp only [PyData.showable, show_nums l h]
  · simp only [PyData.canLay0, canLay_nums l]
  · simp only [PyData.depth, depth_nums l]; omega
  · simp only [PyData.weight]
    have := weight_nums l h
    omega
  · simp only [PyData.intsShort, short_nums l h]
section
variable {P : Program} {w : World} {K : PySem.W.Frag} {mg : Str → Option Value} {base : Heap}
def RS (K : PySem.W.Frag) (a b : Addr) (H : Hp) : Prop := ∃ k B, SpaceAt K H a k B ∧ SpaceAt K H b k B
def RF (K : PySem.W.Frag) (a b : Addr) (H : Hp) : Prop := ∃ k B pt, FlatAt K H a k B pt ∧ FlatAt K H b k B pt
theorem sc_Space_eq : FnScope ["self", "other"] ["self", "other"] (defScope s_Space_eq) := C8.fnScope_by (by decide +kernel)
theorem e_Space (T : Tx K mg) : Eqi P w K mg base 2 (CS K) (RS K) := by
  refine eqi_of T.q_Space_eq T.d_Space_eq sc_Space_eq (by intro _ _ _ _ _ _ us hl; match us, hl with | [_, _], _ => rfl) rfl (fun cdv A outer s H vs Q E hr h => ?_)
  obtain ⟨a, b, rfl, ⟨k, B, ⟨dx, l, ha, hl⟩, ⟨dy, m, hb, hm⟩⟩, h⟩ := h
  refine ⟨_, (pss_one (ps_ret (pe_and (pe_callB (id := "isinstance") (C8.call_isC T.i_Space) (by rfl) T.b_isinstance (by decide +kernel) (pa_cons (pv 1) (pa_cons (C8.pe_gc (by rfl) T.k_Space) pa_nil))) (pe_and (pe_cmpR op_eq (pe_fld (pv 0) rfl) (pe_fld (pv 1) rfl) (nomark _)) (pe_one (pe_cmpR (op_eqD hr.units) (pe_fld (pv 0) rfl) (pe_fld (pv 1) rfl) (nomark _))))))), ?_⟩
  refine ⟨_, rfl, b, dy, _, rfl, hb, _, rfl, ?_⟩
  refine iteT ⟨_, rfl, a, CS K, dx, _, _, rfl, ha, T.i_Space.cl, T.n_Space_own_bits, fsS_bits, _, rfl, b, CS K, dy, _, _, rfl, hb, T.i_Space.cl, T.n_Space_own_bits, fsS_bits, rfl, _, rfl, ?_⟩
  refine iteY rfl ?_
  refine ⟨_, rfl, a, CS K, dx, _, _, rfl, ha, T.i_Space.cl, T.n_Space_own_basis, fsS_basis, _, rfl, b, CS K, dy, _, _, rfl, hb, T.i_Space.cl, T.n_Space_own_basis, fsS_basis, ?_⟩
  refine ⟨dNums B, dNums B, dpNums hl, dpNums hm, shaped_nums B, shaped_nums B, ?_⟩
  rw [eqv_nums]
  exact h H Ext.rfl'
theorem sc_Flat_eq : FnScope ["self", "other"] ["self", "other"] (defScope s_Flat_eq) := C8.fnScope_by (by decide +kernel)
theorem e_Flat (T : Tx K mg) : Eqi P w K mg base 4 (CF K) (RF K) := by
  refine eqi_of T.q_Flat_eq T.d_Flat_eq sc_Flat_eq (by intro _ _ _ _ _ _ us hl; match us, hl with | [_, _], _ => rfl) rfl (fun cdv A outer s H vs Q E hr h => ?_)
  obtain ⟨a, b, rfl, ⟨k, B, pt, ⟨dx, sa, ha, hsa⟩, ⟨dy, sb, hb, hsb⟩⟩, h⟩ := h
  refine ⟨_, (pss_one (ps_ret (pe_and (pe_callB (id := "isinstance") (C8.call_isC T.i_Flat) (by rfl) T.b_isinstance (by decide +kernel) (pa_cons (pv 1) (pa_cons (C8.pe_gc (by rfl) T.k_Flat) pa_nil))) (pe_and (pe_cmpR op_eq (pe_fld (pv 0) rfl) (pe_fld (pv 1) rfl) (nomark _)) (pe_one (pe_cmpR (op_eqI (e_Space T) hr (by decide)) (pe_fld (pv 0) rfl) (pe_fld (pv 1) rfl) (nomark _))))))), ?_⟩
  refine ⟨_, rfl, b, dy, _, rfl, hb, _, rfl, ?_⟩
  refine iteT ⟨_, rfl, a, CF K, dx, _, _, rfl, ha, T.i_Flat.cl, T.n_Flat_own_point, fsF_point, _, rfl, b, CF K, dy, _, _, rfl, hb, T.i_Flat.cl, T.n_Flat_own_point, fsF_point, rfl, _, rfl, ?_⟩
  refine iteY rfl ?_
  refine ⟨_, rfl, a, CF K, dx, _, _, rfl, ha, T.i_Flat.cl, T.n_Flat_own_space, fsF_space, _, rfl, b, CF K, dy, _, _, rfl, hb, T.i_Flat.cl, T.n_Flat_own_space, fsF_space, ?_⟩
  obtain ⟨d1, l1, g1, g2⟩ := id hsa
  obtain ⟨d2, l2, g3, g4⟩ := id hsb
  exact ⟨⟨sa, sb, d1, d2, _, _, rfl, rfl, g1, g3, k, B, hsa, hsb⟩, fun H' e => h H' e⟩
/-! repr -/
abbrev shS (k : Nat) (B : List Nat) : Str := Str.empty ++ "Space(" ++ (dNums B).shown ++ ", " ++ (toString (k : Int) : String) ++ ")"
abbrev spRS (K : PySem.W.Frag) : Sp := spF1 fun a H Q => ∃ (s : Addr) (k : Nat) (B : List Nat), a = .ref s ∧ SpaceAt K H s k B ∧ k ≤ 8 ∧ (∀ x ∈ B, x < 256) ∧ B.length ≤ 8 ∧ ∀ t : Str, t = shS k B → Q (.str t) H
theorem sc_Space_repr : FnScope ["self"] ["self"] (defScope s_Space_repr) := C8.fnScope_by (by decide +kernel)
theorem r_Space (T : Tx K mg) : Rpr P w K mg base 1 (CS K) (spRS K) := by
  refine rpr_of T.q_Space_repr T.d_Space_repr sc_Space_repr (by intro _ _ _ _ _ _ us hl; match us, hl with | [_], _ => rfl) (fun _ _ _ _ h => len1 h) (fun cdv A outer s H vs Q E hr hgd h => ?_)
  obtain ⟨_, rfl, a, k, B, rfl, ⟨dx, l, ha, hl⟩, hk, hB, hn, h⟩ := h
  refine ⟨_, (pss_one (ps_ret (pe_joined (PJ.cons pe_str (PJ.cons (pe_fmtD hr hgd (pe_fld (pv 0) rfl)) (PJ.cons pe_str (PJ.cons (pe_fmt (pe_fld (pv 0) rfl)) (PJ.cons pe_str PJ.nil)))))))), ?_⟩
  have hz : ∀ a b : Str, (a ++ b).length = a.length + b.length := fun a b => strLen_append a b
  have hs := (shn_nums hB (by omega)).sz
  have hk' : ((toString (k : Int) : String) : Str).length ≤ 13 := short_int k (by omega)
  have fit : ∀ s : Str, s.length ≤ 1000100 → s.length ≤ sizeLine := fun s h => Nat.le_trans h (by decide)
  have z1 : (Str.empty ++ ("Space(" : Str)).length = 6 := by decide +kernel
  have z2 : (", " : Str).length = 2 := by decide +kernel
  have z3 : (")" : Str).length = 1 := by decide +kernel
  refine ⟨_, rfl, fit _ (by rw [z1]; omega), ?_⟩
  refine ⟨_, rfl, a, CS K, dx, _, _, rfl, ha, T.i_Space.cl, T.n_Space_own_basis, fsS_basis, l, dNums B, rfl, dpNums hl, shn_nums hB (by omega), ?_⟩
  refine ⟨_, rfl, fit _ (by rw [hz, z1]; omega), ?_⟩
  refine ⟨_, rfl, fit _ (by rw [hz, hz, z1, z2]; omega), ?_⟩
  refine ⟨_, rfl, a, CS K, dx, _, _, rfl, ha, T.i_Space.cl, T.n_Space_own_bits, fsS_bits, .inr ⟨_, rfl, log_small (by omega), ?_⟩⟩
  refine ⟨_, rfl, fit _ (by rw [hz, hz, hz, z1, z2]; omega), ?_⟩
  refine ⟨_, rfl, fit _ (by rw [hz, hz, hz, hz, z1, z2, z3]; omega), ?_⟩
  exact h _ rfl
abbrev shF (k : Nat) (B : List Nat) (pt : Nat) : Str := Str.empty ++ "Flat(" ++ (toString (pt : Int) : String) ++ ", " ++ shS k B ++ ")"
abbrev spRF (K : PySem.W.Frag) : Sp := spF1 fun a H Q => ∃ (f : Addr) (k : Nat) (B : List Nat) (pt : Nat), a = .ref f ∧ FlatAt K H f k B pt ∧ k ≤ 8 ∧ (∀ x ∈ B, x < 256) ∧ B.length ≤ 8 ∧ pt < 256 ∧ ∀ t : Str, t = shF k B pt → Q (.str t) H
theorem shS_len {k : Nat} {B : List Nat} (hk : k ≤ 8) (hB : ∀ x ∈ B, x < 256) (hn : B.length ≤ 8) : (shS k B).length ≤ 1000022 := by
  have hz : ∀ a b : Str, (a ++ b).length = a.length + b.length := fun a b => strLen_append a b
  have hs := (shn_nums hB (by omega)).sz
  have hk' : ((toString (k : Int) : String) : Str).length ≤ 13 := short_int k (by omega)
  have z1 : (Str.empty ++ ("Space(" : Str)).length = 6 := by decide +kernel
  have z2 : (", " : Str).length = 2 := by decide +kernel
  have z3 : (")" : Str).length = 1 := by decide +kernel
  unfold shS
  rw [hz, hz, hz, hz, z1, z2, z3]; omega
theorem sc_Flat_repr : FnScope ["self"] ["self"] (defScope s_Flat_repr) := C8.fnScope_by (by decide +kernel)
theorem r_Flat (T : Tx K mg) : Rpr P w K mg base 2 (CF K) (spRF K) := by
  refine rpr_of T.q_Flat_repr T.d_Flat_repr sc_Flat_repr (by intro _ _ _ _ _ _ us hl; match us, hl with | [_], _ => rfl) (fun _ _ _ _ h => len1 h) (fun cdv A outer s H vs Q E hr hgd h => ?_)
  obtain ⟨_, rfl, f, k, B, pt, rfl, ⟨dx, sa, hf, hsa⟩, hk, hB, hn, hp, h⟩ := h
  refine ⟨_, (pss_one (ps_ret (pe_joined (PJ.cons pe_str (PJ.cons (pe_fmt (pe_fld (pv 0) rfl)) (PJ.cons pe_str (PJ.cons (pe_fmtO (r_Space T) hr (by decide) hgd (pe_fld (pv 0) rfl)) (PJ.cons pe_str PJ.nil)))))))), ?_⟩
  have hz : ∀ a b : Str, (a ++ b).length = a.length + b.length := fun a b => strLen_append a b
  have hs := shS_len hk hB hn
  have hp' : ((toString (pt : Int) : String) : Str).length ≤ 13 := short_int pt hp
  have fit : ∀ s : Str, s.length ≤ 1000100 → s.length ≤ sizeLine := fun s h => Nat.le_trans h (by decide)
  have z1 : (Str.empty ++ ("Flat(" : Str)).length = 5 := by decide +kernel
  have z2 : (", " : Str).length = 2 := by decide +kernel
  have z3 : (")" : Str).length = 1 := by decide +kernel
  obtain ⟨dy, l, g1, g2⟩ := id hsa
  refine ⟨_, rfl, fit _ (by rw [z1]; omega), ?_⟩
  refine ⟨_, rfl, f, CF K, dx, _, _, rfl, hf, T.i_Flat.cl, T.n_Flat_own_point, fsF_point, .inr ⟨_, rfl, log_small hp, ?_⟩⟩
  refine ⟨_, rfl, fit _ (by rw [hz, z1]; omega), ?_⟩
  refine ⟨_, rfl, fit _ (by rw [hz, hz, z1, z2]; omega), ?_⟩
  refine ⟨_, rfl, f, CF K, dx, _, _, rfl, hf, T.i_Flat.cl, T.n_Flat_own_space, fsF_space, sa, dy, _, rfl, g1, ?_⟩
  refine ⟨_, rfl, sa, k, B, rfl, hsa, hk, hB, hn, fun t ht => ⟨t, rfl, t, rfl, by rw [ht]; exact fit _ (by omega), ?_⟩⟩
  subst ht
  refine ⟨_, rfl, fit _ (by rw [hz, hz, hz, z1, z2]; omega), ?_⟩
  refine ⟨_, rfl, fit _ (by rw [hz, hz, hz, hz, z1, z2, z3]; omega), ?_⟩
  exact h _ rfl
end
end My
/-! *** R4 -/
/-! != of two lists whose items are equal -/
namespace GQ
open PySem PySem.SeqAt
open AutoSeq1 (wpAny_loadPart')
open MeetsSeq MeetsSeq2 MeetsSeq3 SeqRoads2
section
variable {prog : Program} {w : World} {A : Around} {R : Result → Shared → Prop}
theorem my_ne_loop (l b : Addr) (N : Nat) (I : Nat → Shared → Prop) (hl : ListI prog w A (fun e s' => R (.error e) s') l b N I)
    (fin : ∀ s, I N s → R (.ok (.ret (.bool false))) s) (k : Nat) :
    ∀ i : Nat, N - i = k → i ≤ N → ∀ s, I i s →
      wpAny (model prog w) A.in1 (Builtin.«list.__eq__.loop» ⟨[.ref l, .ref b, rawInt i, rawInt 3], []⟩) (FinOf prog w A R) (fun e s' => R (.error e) s') s := by
  induction k with
  | zero =>
    intro i hk hi s h
    obtain ⟨items, items2, n, n2, hl1, hb1, hs1, hs2, _⟩ := hl _ _ h
    have hi' : i = N := by omega
    have hR : R (.ok (.ret (.bool false))) s := fin s (hi' ▸ h)
    obtain ⟨hp, g, d, tk, os⟩ := s
    wp_walk using wpAny_loadPart' hl1, wpAny_loadPart' hb1
    have hi1 : items[((i : Nat) : Int).toNat]? = none := by simp; omega
    have hi2 : items2[((i : Nat) : Int).toNat]? = none := by simp; omega
    rw [hi1, hi2]
    wp_walk using wpAny_loadPart' hl1, wpAny_loadPart' hb1
    show R (.ok (.ret (.bool (items.size != items2.size)))) _
    rw [hs1, hs2]
    simpa using hR
  | succ k ih =>
    intro i hk hi s h
    obtain ⟨items, items2, n, n2, hl1, hb1, hs1, hs2, turn⟩ := hl _ _ h
    have hlt : i < items.size := by omega
    have hlt2 : i < items2.size := by omega
    have ht := turn hlt hlt2
    obtain ⟨hp, g, d, tk, os⟩ := s
    wp_walk using wpAny_loadPart' hl1, wpAny_loadPart' hb1
    have hi1 : items[((i : Nat) : Int).toNat]? = some items[i] := by simp [hlt]
    have hi2 : items2[((i : Nat) : Int).toNat]? = some items2[i] := by simp [hlt2]
    have hc : ((i : Int) + 1) = ((i + 1 : Nat) : Int) := by omega
    rw [hi1, hi2]
    refine wpAny_bind (wpAny_mono ht (fun r s2 h2 => ?_) fun _ _ x => x)
    obtain ⟨hr, h2⟩ := h2
    subst hr
    have hrec := ih (i + 1) (by omega) (by omega) s2 h2
    obtain ⟨hp2, g2, d2, tk2, os2⟩ := s2
    wp_walk
    rw [hc]
    exact ⟨plainId_quiet plain_eq_loop _, codeAny_builtin entry_eq_loop (by
      rw [Around.under_plainId plain_eq_loop _]
      exact hrec)⟩
theorem my_list_ne (l b : Addr) (N : Nat) (I : Nat → Shared → Prop) (hl : ListI prog w A (fun e s' => R (.error e) s') l b N I)
    (fin : ∀ s, I N s → R (.ok (.ret (.bool false))) s) {s : Shared} (h : I 0 s) :
    wpAny (model prog w) A.in1 (Builtin.«list.__ne__» ⟨[.ref l, .ref b], []⟩) (FinOf prog w A R) (fun e s' => R (.error e) s') s := by
  obtain ⟨items, items2, n, n2, hl1, hb1, hs1, hs2, _⟩ := hl _ _ h
  have hrec := my_ne_loop (A := A) (R := R) l b N I hl fin _ 0 rfl (Nat.zero_le _) s h
  obtain ⟨hp, g, d, tk, os⟩ := s
  have f3 := AutoSeq1.sub_list_list
  have hne : ¬ (items.size != items2.size) = true := by simp [hs1, hs2]
  wp_walk using wpAny_loadPart' hl1, wpAny_loadPart' hb1
  exact ⟨plainId_quiet plain_eq_loop _, codeAny_builtin entry_eq_loop (by
    rw [Around.under_plainId plain_eq_loop _]
    exact hrec)⟩
end
section
variable {prog : Program} {w : World} {A : Around} {E : Value → Shared → Prop} {s : Shared}
theorem my_rc_listNe {l b : Addr} {N : Nat} {Q : Value → Shared → Prop} (hu : A.units < cLine) (I : Nat → Shared → Prop) (hl : ListI prog w A E l b N I)
    (fin : ∀ s, I N s → Q (.bool false) s) (h : I 0 s) : wpAny (model prog w) A (richCompare .NotEq (.ref l) (.ref b)) Q E s := by
  obtain ⟨items, items2, n, n2, hl1, hb1, _, _, _⟩ := hl _ _ h
  refine wpAny_richCompare_same_room (op := .NotEq) ⟨_, hl1, rfl⟩ ⟨_, hb1, rfl⟩ F.slot_list_ne (call_here F.slot_list_ne ⟨_, hl1, rfl⟩ F.entry_list_ne (F.args_list_ne_2 _ _) ?_) hu
  exact my_list_ne (R := wants (fun v s' => v ≠ .notImplemented ∧ Q v s') E) l b N I hl (fun s' q => ⟨(fun x => nomatch x), fin s' q⟩) h
end
end GQ
namespace My
open PySem PySem.Spec PyProof.Rows L2 He
section
variable {X : Cx} {n j : Nat} {D : Eqv}
/-- dicts of the same texts and ints, by their keys -/
def DDict : Eqv := fun x y H => ∃ a b, ∃ l : List (Str × Nat), x = .ref a ∧ y = .ref b ∧ H a = some (.dK (dkv l)) ∧ H b = some (.dK (dkv l)) ∧ (l.map (·.1)).Nodup
theorem mon_dict : Mon DDict := fun x y H H' e d => by
  obtain ⟨a, b, l, hx, hy, h1, h2, nd⟩ := d
  exact ⟨a, b, l, hx, hy, e _ _ h1, e _ _ h2, nd⟩
theorem dkv_get : ∀ {l : List (Str × Nat)}, (l.map (·.1)).Nodup → ∀ x ∈ l, valV (dkv l) (.inr x.1) = some (vN x.2)
  | [], _, _, h => by cases h
  | y :: l, nd, x, h => by
    rw [List.map_cons, List.nodup_cons] at nd
    rcases List.mem_cons.mp h with rfl | h
    · exact valV_pos (p := ((Sum.inr x.1 : Key), vN x.2)) rfl
    · have ne : ¬ (Sum.inr y.1 : Key) = .inr x.1 := fun z => nd.1 (by injection z with z; rw [z]; exact List.mem_map.mpr ⟨x, h, rfl⟩)
      show valV ((Sum.inr y.1, vN y.2) :: dkv l) _ = _
      rw [valV_neg ne]
      exact dkv_get nd.2 x h
theorem eqR_dict {K : PySem.W.Frag} {H : Hp} {x y : V} (h : DDict x y H) : EqR K H (EqV K H 1) x y := by
  obtain ⟨a, b, l, rfl, rfl, h1, h2, nd⟩ := h
  refine .inr ⟨a, b, dkv l, dkv l, rfl, rfl, h1, h2, rfl, fun p hp => ?_⟩
  obtain ⟨z, hz, rfl⟩ := List.mem_map.mp hp
  exact ⟨vN z.2, dkv_get nd z hz, .inl ⟨rfl, rfl⟩⟩
theorem eqG_dict : EqG X 1 DDict := by
  intro A pins s σ H x y u v sb I rx ry d
  have hE : EqV X.K H 2 x y := .inr (.inr (eqR_dict d))
  have := sb.room.units
  exact eqV_run I 2 A (by omega) x y u v hE rx ry _ _ ⟨rfl, H, I, Ext.rfl'⟩
/-- != of two lists, item by item equal -/
def rNeG (D : Eqv) : R2 := fun x y H Q => DList D x y H ∧ ∀ H', Ext H H' → Q (.bl false) H'
theorem op_neG (hD : Mon D) (h : EqG X n D) (hr : Room j X.A) (hk : n + 1 ≤ j) : OpR X (compareOp .NotEq) (rNeG D) := by
  intro pins s σ H x y v u Q I rx ry hq
  obtain ⟨d, q⟩ := hq
  show wpAny (model X.prog X.w) X.A (richCompare .NotEq v u) (EP X pins σ Q) X.xe s
  obtain ⟨a, b, xs, ys, rfl, rfl, ha, hb, p⟩ := d
  cases rx
  cases ry
  have sb : Sub X (n + 1) X.A := ⟨hr.mono hk, rfl⟩
  refine GQ.my_rc_listNe (N := xs.length) hr.units0 (fun _ s' => LoopI X pins σ H s') (fun i s' q => ?_) (fun s' q' => ?_) ⟨H, I, Ext.rfl'⟩
  · obtain ⟨H1, I1, e1⟩ := id q
    obtain ⟨z, its, k, r, e⟩ := I1.hok a _ (e1 _ _ ha)
    obtain ⟨z2, its2, k2, r2, e2⟩ := I1.hok b _ (e1 _ _ hb)
    refine ⟨its.toArray, its2.toArray, k, k2, e, e2, by rw [List.size_toArray, ← r.length], by rw [List.size_toArray, ← r2.length, ← p.1], fun h1 h2 => ?_⟩
    exact turnG hD h sb p r r2 i h1 h2 s' q
  · obtain ⟨H', I', e⟩ := q'
    exact ⟨.bl false, H', I', rfl, q H' e⟩
/-- pairs of such a dict and a flat value -/
abbrev DPair (K : PySem.W.Frag) : Eqv := DTup K (fun x y H => DDict x y H ∨ DFlat x y H)
theorem mon_pair {K : PySem.W.Frag} : Mon (DPair K) := mon_tup (mon_dict.or mon_flat)
theorem eqG_pair : EqG X 2 (DPair X.K) := eqG_tup (mon_dict.or mon_flat) (EqG.or eqG_dict (eqG_flat.mono (by omega)))
end
end My
/-! *** W16 -/
namespace My
open PySem PySem.Spec PyProof.Rows L2 He
local macro_rules | `(tactic| walk_at "go") => `(tactic| repeat (first | refine And.intro rfl ?_ | refine iteT ?_ | refine iteF ?_ | refine iteNS (by assumption) ?_ | apply Exists.intro | refine And.intro (by assumption) ?_))
theorem pos_of {j : Int} (h : decide (0 < j) = true) : 0 < j := of_decide_eq_true h
/-! ### the pot of digits -/
def PotAt (H : Hp) (p : Addr) : Prop := ∃ a b : Nat, H p = some (.lst [vN a, vN b])
/-- all but the pot and the tables of code objects stays -/
def Fn (p : Addr) (H H' : Hp) : Prop := ∀ b o, b ≠ p → H b = some o → (∀ ps, o ≠ .tbl ps) → H' b = some o
theorem Fn.refl {p : Addr} (H : Hp) : Fn p H H := fun _ _ _ h _ => h
theorem Fn.trans {p : Addr} {H H1 H2 : Hp} (a : Fn p H H1) (b : Fn p H1 H2) : Fn p H H2 := fun c o n h t => b c o n (a c o n h t) t
theorem Fn.of {p : Addr} {H H' : Hp} (e : Ex H H') : Fn p H H' := fun b o _ h _ => e b o h
theorem PotAt.ex {H H' : Hp} {p : Addr} (e : Ex H H') (h : PotAt H p) : PotAt H' p := let ⟨a, b, q⟩ := h; ⟨a, b, e _ _ q⟩
/-- .. and the tables too -/
def Fp (p : Addr) (H H' : Hp) : Prop := ∀ b o, b ≠ p → H b = some o → H' b = some o
theorem Fp.refl {p : Addr} (H : Hp) : Fp p H H := fun _ _ _ h => h
theorem Fp.trans {p : Addr} {H H1 H2 : Hp} (a : Fp p H H1) (b : Fp p H1 H2) : Fp p H H2 := fun c o n h => b c o n (a c o n h)
theorem Fp.of {p : Addr} {H H' : Hp} (e : Ex H H') : Fp p H H' := fun b o _ h => e b o h
theorem Fp.fn {p : Addr} {H H' : Hp} (e : Fp p H H') : Fn p H H' := fun b o n h _ => e b o n h
theorem Fp.put {p : Addr} {H H1 : Hp} {o : HO} (e : Fp p H H1) : Fp p H (upd H1 p o) := fun b u n h => by rw [upd_ne n]; exact e b u n h
section
variable {P : Program} {w : World} {K : PySem.W.Frag} {mg : Str → Option Value} {base : Heap}
abbrev spPot (K : PySem.W.Frag) : Sp := spF2 fun a b H Q => ∃ (p : Addr) (ns : List Int) (k : Nat), a = .ref p ∧ b = vN k ∧ SqL K H p (ns.map V.int) ∧ ∀ q H', H q = none → Ex H H' → PotAt H' q → Q (.ref q) H'
theorem sc_law_pot : FnScope ["_law_script", "_law_k", "_law_cell_here"] ["_law_script", "_law_k"] (defScope s_law_pot) := C8.fnScope_by (by decide +kernel)
theorem c_law_pot (T : Tx K mg) : C8.Cal P w K mg base 1 "_law_pot" (spPot K) [] := by
  refine cal_of T.d_law_pot T.g_law_pot sc_law_pot (by intro _ _ _ _ _ _ us hl; match us, hl with | [_, _], _ => rfl) (fun _ _ _ _ h => len2 h) (fun cdv A outer s H vs Q E hr h => ?_)
  obtain ⟨_, _, rfl, p, ns, k, rfl, rfl, hp, h⟩ := h
  refine ⟨_, (pss_cons (ps_set (i := 2) sc_law_pot.nd rfl (Or.inl rfl) (pe_ifExp (pt_cmpR op_lt (pv 1) (pe_callB (id := "len") call_len (by rfl) T.b_len (by decide +kernel) (pa_cons (pv 0) pa_nil)) (nomark _)) (pe_callB (id := "abs") call_abs (by rfl) T.b_abs (by decide +kernel) (pa_cons (pe_ix ix_list (pv 0) (pv 1) (fun _ _ => rfl)) pa_nil)) pe_int)) (pss_one (ps_ret (pe_lst (pa_cons (pe_callB (id := "max") (call_max2 rfl) (by rfl) T.b_max (by decide +kernel) (pa_cons pe_int (pa_cons (pe_op op_sub (pv 2) (pe_op op_pow pe_int pe_int)) pa_nil))) (pa_cons (pe_op op_mod (pe_callTy (T := "int") call_int1 (by rfl) T.b_int (by decide +kernel) (pa_cons (pe_op op_add (pe_op op_add (pe_op op_mul (pe_op op_mod (pv 2) pe_int) pe_int) (pe_op op_mul pe_int (pv 1))) pe_int) pa_nil)) pe_int) pa_nil)))))), ?_⟩
  have fin : ∀ (x : Int), 0 ≤ x → ∀ q, H q = none → Q (.ref q) (upd H q (.lst [.int (if x - (10 : Int) ^ (18 : Int).toNat > 0 then x - (10 : Int) ^ (18 : Int).toNat else 0), .int ((x % 2147483587 * 48271 + 50021 * (k : Int) + 89) % 2147483647)])) := fun x hx q hq => by
    refine h q _ hq (Ex.new hq) ?_
    have e1 : 0 ≤ (if x - (10 : Int) ^ (18 : Int).toNat > 0 then x - (10 : Int) ^ (18 : Int).toNat else 0) := by split <;> omega
    have e2 : 0 ≤ (x % 2147483587 * 48271 + 50021 * (k : Int) + 89) % 2147483647 := by omega
    obtain ⟨a, ha⟩ := Int.eq_ofNat_of_zero_le e1
    obtain ⟨b, hb⟩ := Int.eq_ofNat_of_zero_le e2
    exact ⟨a, b, by rw [upd_same, ha, hb]⟩
  refine ⟨_, rfl, _, rfl, _, _, rfl, .inl ⟨_, hp, rfl⟩, _, _, rfl, rfl, _, rfl, ?_⟩
  rw [List.length_map]
  by_cases hk : (k : Int) < (ns.length : Int)
  · refine iteY hk ?_
    have hk' : k < ns.length := by omega
    refine ⟨_, rfl, _, rfl, p, _, _, _, rfl, rfl, hp, atI_nat (j := k) (by rw [List.getElem?_map, List.getElem?_eq_getElem hk']; rfl), _, rfl, ?_⟩
    have hx : 0 ≤ (if ns[k] < 0 then -ns[k] else ns[k]) := by split <;> omega
    refine ⟨_, rfl, _, _, rfl, rfl, ⟨by decide, by decide, by decide⟩, _, _, rfl, rfl, _, _, rfl, ?_⟩
    refine ⟨_, rfl, _, _, rfl, rfl, pos_of rfl, _, _, rfl, rfl, .inr ⟨by decide, by decide⟩, _, rfl, _, _, rfl, rfl, .inl ⟨by decide, by decide⟩, _, _, rfl, rfl, _, _, rfl, rfl, .inl ⟨_, rfl, _, _, rfl, rfl, pos_of rfl, ?_⟩⟩
    refine ⟨by show 2 ≤ sizeLine; decide, fun q hq => ?_⟩
    exact fin _ hx q hq
  · refine iteN hk ?_
    refine ⟨_, rfl, _, _, rfl, rfl, ⟨by decide, by decide, by decide⟩, _, _, rfl, rfl, _, _, rfl, ?_⟩
    refine ⟨_, rfl, _, _, rfl, rfl, pos_of rfl, _, _, rfl, rfl, .inr ⟨by decide, by decide⟩, _, rfl, _, _, rfl, rfl, .inl ⟨by decide, by decide⟩, _, _, rfl, rfl, _, _, rfl, rfl, .inl ⟨_, rfl, _, _, rfl, rfl, pos_of rfl, ?_⟩⟩
    refine ⟨by show 2 ≤ sizeLine; decide, fun q hq => ?_⟩
    exact fin 0 (by omega) q hq
abbrev spDigit : Sp := spF2 fun a b H Q => ∃ (p : Addr) (m : Nat), a = .ref p ∧ b = vN m ∧ PotAt H p ∧ 0 < m ∧ m < 2 ^ 29 ∧ ∀ d H', d < m → Fp p H H' → PotAt H' p → Q (vN d) H'
theorem sc_law_digit : FnScope ["_law_pot_here", "_law_many", "_law_digit_here"] ["_law_pot_here", "_law_many"] (defScope s_law_digit) := C8.fnScope_by (by decide +kernel)
theorem c_law_digit (T : Tx K mg) : C8.Cal P w K mg base 1 "_law_digit" spDigit [] := by
  refine cal_of T.d_law_digit T.g_law_digit sc_law_digit (by intro _ _ _ _ _ _ us hl; match us, hl with | [_, _], _ => rfl) (fun _ _ _ _ h => len2 h) (fun cdv A outer s H vs Q E hr h => ?_)
  obtain ⟨_, _, rfl, p, m, rfl, rfl, ⟨a, b, hp⟩, h0, hm, h⟩ := h
  refine ⟨_, (pss_cons (ps_if (pt_cmpR op_gt (pe_ix ix_list (pv 0) pe_int (fun _ _ => rfl)) pe_int (nomark _)) (pss_cons (ps_asg (pe_callB (id := "divmod") call_divmod (by rfl) T.b_divmod (by decide +kernel) (pa_cons (pe_ix ix_list (pv 0) pe_int (fun _ _ => rfl)) (pa_cons (pv 1) pa_nil))) (pg_tup rfl (pgs_cons (pg_sub (pv 0) pe_int set_list) (pgs_cons (pg_name (i := 2) sc_law_digit.nd rfl (Or.inl rfl)) pgs_nil)))) (pss_one (ps_ret (pv 2)))) pss_nil) (pss_cons (ps_asg (pe_op op_mod (pe_callTy (T := "int") call_int1 (by rfl) T.b_int (by decide +kernel) (pa_cons (pe_op op_add (pe_op op_mul (pe_ix ix_list (pv 0) pe_int (fun _ _ => rfl)) pe_int) pe_int) pa_nil)) pe_int) (pg_sub (pv 0) pe_int set_list)) (pss_one (ps_ret (pe_op op_mod (pe_op op_fdiv (pe_op op_mod (pe_callTy (T := "int") call_int1 (by rfl) T.b_int (by decide +kernel) (pa_cons (pe_op op_mul (pe_ix ix_list (pv 0) pe_int (fun _ _ => rfl)) (pe_ix ix_list (pv 0) pe_int (fun _ _ => rfl))) pa_nil)) pe_int) pe_int) (pv 1)))))), ?_⟩
  refine ⟨_, rfl, p, _, _, _, rfl, rfl, .of hp, atI_nat (j := 0) rfl, _, _, rfl, rfl, _, rfl, ?_⟩
  by_cases ha : (0 : Int) < (a : Int)
  · refine iteY ha ?_
    refine ⟨_, rfl, p, _, _, _, rfl, rfl, .of hp, atI_nat (j := 0) rfl, _, rfl, _, _, rfl, ⟨by omega, by omega⟩, fun t ht => ?_⟩
    have e1 : Ex H (upd H t (.tup [.int ((a : Int) / (m : Int)), .int ((a : Int) % (m : Int))])) := Ex.new ht
    have htv : upd H t (.tup [.int ((a : Int) / (m : Int)), .int ((a : Int) % (m : Int))]) t = some (.tup [.int ((a : Int) / (m : Int)), .int ((a : Int) % (m : Int))]) := upd_same
    generalize upd H t (.tup [.int ((a : Int) / (m : Int)), .int ((a : Int) % (m : Int))]) = H1 at e1 htv ⊢
    refine ⟨t, _, rfl, .of htv, rfl, _, _, rfl, ?_⟩
    refine ⟨_, rfl, p, _, _, 0, rfl, rfl, e1 _ _ hp, rfl, ?_⟩
    refine ⟨_, _, rfl, rfl, _, rfl, ?_⟩
    have e2 : ((a : Int) % (m : Int)) = ((a % m : Nat) : Int) := by omega
    have e3 : ((a : Int) / (m : Int)) = ((a / m : Nat) : Int) := by omega
    show Q (.int ((a : Int) % (m : Int))) _
    rw [e2]
    refine h (a % m) _ (Nat.mod_lt _ h0) (Fp.put (Fp.of e1)) ⟨a / m, b, ?_⟩
    rw [upd_same, e3]; rfl
  · refine iteN ha ?_
    refine ⟨_, rfl, p, _, _, _, rfl, rfl, .of hp, atI_nat (j := 1) rfl, _, _, rfl, rfl, .inr ⟨by decide, by decide⟩, _, _, rfl, rfl, .inl ⟨_, rfl, _, _, rfl, rfl, pos_of rfl, ?_⟩⟩
    obtain ⟨c, hc⟩ := Int.eq_ofNat_of_zero_le (show (0 : Int) ≤ ((b : Int) * 39373 + 12227) % 2147483629 by omega)
    have hcl : (c : Int) < 2147483629 := by omega
    refine ⟨_, rfl, p, _, _, 1, rfl, rfl, hp, rfl, ?_⟩
    have hp2 : upd H p (.lst ([vN a, vN b].set 1 (.int (((b : Int) * 39373 + 12227) % 2147483629)))) p = some (.lst [vN a, vN c]) := by rw [upd_same, hc]; rfl
    have e1 : Fp p H (upd H p (.lst ([vN a, vN b].set 1 (.int (((b : Int) * 39373 + 12227) % 2147483629))))) := Fp.put (Fp.refl H)
    generalize upd H p (.lst ([vN a, vN b].set 1 (.int (((b : Int) * 39373 + 12227) % 2147483629)))) = H1 at hp2 e1 ⊢
    refine ⟨_, rfl, p, _, _, _, rfl, rfl, .of hp2, atI_nat (j := 1) rfl, _, rfl, p, _, _, _, rfl, rfl, .of hp2, atI_nat (j := 1) rfl, _, _, rfl, rfl, .inl ⟨by omega, by omega⟩, .inl ⟨_, rfl, _, _, rfl, rfl, pos_of rfl, _, _, rfl, rfl, ⟨by decide, by decide⟩, ?_⟩⟩
    refine ⟨_, rfl, _, _, rfl, rfl, by omega, ?_⟩
    have hd0 : 0 ≤ (c : Int) * (c : Int) % 2147483563 / 13 % (m : Int) := Int.emod_nonneg _ (by omega)
    obtain ⟨d, hd⟩ := Int.eq_ofNat_of_zero_le hd0
    have hd1 : (c : Int) * (c : Int) % 2147483563 / 13 % (m : Int) < (m : Int) := Int.emod_lt_of_pos _ (by omega)
    show Q (.int ((c : Int) * (c : Int) % 2147483563 / 13 % (m : Int))) _
    rw [hd]
    exact h d _ (by omega) e1 ⟨a, c, hp2⟩
end
end My
/-! *** W17 -/
namespace My
open PySem PySem.Spec PyProof.Rows L2 He
local macro_rules | `(tactic| walk_at "go") => `(tactic| repeat (first | refine And.intro rfl ?_ | refine iteT ?_ | refine iteF ?_ | refine iteNS (by assumption) ?_ | apply Exists.intro | refine And.intro (by assumption) ?_))
/-- d[y] = v as a target -/
def rSetD : V → V → V → Hp → (Hp → Prop) → Prop := fun o i v H Q => ∃ (a : Addr) (kvs : List (Key × V)) (k : Key), o = .ref a ∧ i = kV k ∧ H a = some (.dK kvs) ∧ kvs.length < sizeLine ∧ Q (upd H a (.dK (putK kvs k v)))
theorem set_dict {X : Cx} (hu : X.A.units + 1 < cLine) : PSet X rSetD := by
  intro pins s σ H o i v ov iv u Q I ro ri rv h
  obtain ⟨a, kvs, k, rfl, rfl, hp, hl, q⟩ := h
  cases ro
  exact d_setItem hu I (DPut.k hp hl) ri rv fun s' I' => ⟨_, I', q⟩
theorem cmb_snoc (A : List Nat) (b n : Nat) : cmb (A ++ [b]) n = cmb A n ^^^ (if n.testBit A.length then b else 0) := by
  induction A generalizing n with
  | nil => simp [cmb]
  | cons x A ih =>
    rw [List.cons_append]
    show (if n.testBit 0 then x else 0) ^^^ cmb (A ++ [b]) (n / 2) = ((if n.testBit 0 then x else 0) ^^^ cmb A (n / 2)) ^^^ _
    rw [ih, Nat.testBit_div_two, List.length_cons, Nat.xor_assoc]
section
variable {P : Program} {w : World} {K : PySem.W.Frag} {mg : Str → Option Value} {base : Heap}
abbrev spIdx : Sp := spF2 fun a b H Q => ∃ (p : Addr) (xs : List V) (rows : List Row) (v : Nat), a = .ref p ∧ b = vN v ∧ Sq H p xs ∧ RowsV H xs rows ∧ RowsOk rows ∧
  ∀ d H', H d = none → Ex H H' → H' d = some (.dK (dkv (idxR rows v))) → Q (.ref d) H'
theorem sc_law_total : FnScope ["_law_rows", "_law_each", "_law_size"] ["_law_rows"] (defScope s_law_total) := C8.fnScope_by (by decide +kernel)
theorem c_law_total (T : Tx K mg) : C8.Cal P w K mg base 1 "_law_total" spTotal [] := by
  refine cal_of T.d_law_total T.g_law_total sc_law_total (by intro _ _ _ _ _ _ us hl; match us, hl with | [_], _ => rfl) (fun _ _ _ _ h => len1 h) (fun cdv A outer s H vs Q E hr h => ?_)
  obtain ⟨_, rfl, p, xs, rows, rfl, hp, hR, hn, h⟩ := h
  refine ⟨_, (pss_one (ps_ret (pe_callB (id := "sum") (cr_sum rfl) (by rfl) T.b_sum (by decide +kernel) (pa_cons (pe_lc (own := [("_law_each", 1), ("_law_size", 2)]) (g := gTup K 2 (gCons (gName 1) (gCons (gName 2) gNil))) rfl sc_law_total.nd (pi_sq (pv 0)) (blkOk_by (own := [("_law_each", 1), ("_law_size", 2)]) (N := ["_law_rows", "_law_each", "_law_size"]) (sc := defScope s_law_total) (by decide +kernel)) (fun _ _ _ _ _ => (pg_tup rfl (pgs_cons (pg_name (i := 1) sc_law_total.nd rfl (Or.inl rfl)) (pgs_cons (pg_name (i := 2) sc_law_total.nd rfl (Or.inl rfl)) pgs_nil)))) (fun _ _ _ _ _ => pts_nil) (fun _ _ _ _ _ => (pv 2))) pa_nil)))), ?_⟩
  refine ⟨_, rfl, p, xs, rfl, hp, fun J G W hG => fun D hD => ?_⟩
  refine lc_it W (fun i H' => Ex H H' ∧ H' D = some (.lst (((rows.take i).map fun r => (r.2 : Int)).map V.int))) ⟨Ex.new hD, upd_same⟩ (fun i H' _ ⟨e, _⟩ => hG H' (hp.same e)) ?_ ?_
  · rintro i x H2 _ hi ⟨e, hD2⟩ ⟨rfl, hx⟩
    obtain ⟨r, hr1, tr, rfl, htr⟩ := hR.at_ i x hx
    refine ⟨tr, _, rfl, .of (e _ _ htr), rfl, _, _, rfl, _, _, rfl, rfl, rfl, ?_⟩
    refine ⟨_, rfl, _, hD2, ?_, e.mut hD, ?_⟩
    · rw [List.length_map, List.length_map, List.length_take]
      exact Nat.lt_of_le_of_lt (by omega : _ ≤ 100) (by decide)
    · rw [upd_same, List.take_add_one, hr1, List.map_append, List.map_append]; rfl
  · rintro H2 ⟨e, hD2⟩
    rw [hR.len, List.take_length] at hD2
    refine ⟨D, _, rfl, .of hD2, ?_⟩
    exact q_int (sum_N rows) (h H2 e)
abbrev spCell : Sp := spF3 fun a b c H Q => ∃ (p : Addr) (cols : List Nat) (off v : Nat), a = .ref p ∧ b = vN off ∧ c = vN v ∧ H p = some (.lst (vL cols)) ∧ ∀ H', Ex H H' → Q (vN (cell cols off v)) H'
theorem sc_law_cell : FnScope ["_law_columns", "_law_shift", "_law_place_here", "_law_found", "_law_k", "_law_column"] ["_law_columns", "_law_shift", "_law_place_here"] (defScope s_law_cell) := C8.fnScope_by (by decide +kernel)
theorem c_law_cell (T : Tx K mg) : C8.Cal P w K mg base 1 "_law_cell" spCell [] := by
  refine cal_of T.d_law_cell T.g_law_cell sc_law_cell (by intro _ _ _ _ _ _ us hl; match us, hl with | [_, _, _], _ => rfl) (fun _ _ _ _ h => len3 h) (fun cdv A outer s H vs Q E hr h => ?_)
  obtain ⟨_, _, _, rfl, p, cols, off, v, rfl, rfl, rfl, hp, h⟩ := h
  refine ⟨_, (pss_cons (ps_set (i := 3) sc_law_cell.nd rfl (Or.inl rfl) (pv 1)) (pss_cons (ps_for PassesOwn.never rfl (pi_enum (by rfl) T.b_enumerate (pa_cons (pv 0) pa_nil)) (pg_tup rfl (pgs_cons (pg_name (i := 4) sc_law_cell.nd rfl (Or.inl rfl)) (pgs_cons (pg_name (i := 5) sc_law_cell.nd rfl (Or.inl rfl)) pgs_nil))) (pss_one (ps_if (pt_cmpR op_eq (pe_op op_and (pe_op op_shr (pv 2) (pv 4)) pe_int) pe_int (nomark _)) (pss_one (ps_set (i := 3) sc_law_cell.nd rfl (Or.inl rfl) (pe_op op_xor (pv 3) (pv 5)))) pss_nil))) (pss_one (ps_ret (pv 3))))), ?_⟩
  refine ⟨_, rfl, _, rfl, p, vL cols, rfl, .of hp, ?_⟩
  refine for_it (walk_enum (K := K) (a := p) (xs := vL cols)) (fun i σ H' => ∃ x y, σ = [some (.ref p), some (vN off), some (vN v), some (vN (cell (cols.take i) off v)), x, y] ∧ Ex H H')
    ⟨_, _, by simp [cell, cmb]; rfl, Same.refl H⟩ (fun i σ H' _ ⟨_, _, _, e⟩ => .of (e _ _ hp)) ?_ ?_
  · rintro i x σ H2 H3 hi ⟨u1, u2, rfl, e⟩ ⟨t, a, b, rfl, ht, rfl, ha, hb⟩
    obtain ⟨c, hc, rfl⟩ := vL_at hb
    obtain rfl := Option.some.inj ha
    have e5 : Ex H (upd H2 t (.tup [.int (i : Nat), vN c])) := e.mut (e.free ht)
    refine ⟨t, _, rfl, .of upd_same, rfl, _, _, rfl, _, _, rfl, rfl, ?_⟩
    generalize upd H2 t (.tup [.int (i : Nat), vN c]) = H5 at e5 ⊢
    refine ⟨_, rfl, _, rfl, _, _, rfl, rfl, by show (0 : Int) ≤ (i : Int); omega, _, _, rfl, rfl, rfl, _, rfl, ?_⟩
    have hi' : i < cols.length := by simpa using hi
    have hs : cell (cols.take (i + 1)) off v = cell (cols.take i) off v ^^^ (if v.testBit i then c else 0) := by
      unfold cell
      rw [List.take_add_one, hc]
      show cmb (cols.take i ++ [c]) v ^^^ off = _
      rw [cmb_snoc, List.length_take, Nat.min_eq_left (Nat.le_of_lt hi'), Nat.xor_assoc, Nat.xor_assoc, Nat.xor_comm off]
    rw [dec_bit]
    refine ite2 (fun q => ?_) (fun q => ?_)
    · refine ⟨_, rfl, _, rfl, _, _, rfl, rfl, some (vN i), some (vN c), ?_, e5⟩
      rw [hs, if_pos q]
      show [some (V.ref p), some (vN off), some (vN v), some (V.int (Builtin.bitXor ((cell (cols.take i) off v : Nat) : Int) (c : Int))), some (vN i), some (vN c)] = _
      rw [xor_N]
    · refine ⟨some (vN i), some (vN c), ?_, e5⟩
      rw [hs, if_neg (by simpa using q), Nat.xor_zero]; rfl
  · rintro σ H2 ⟨u1, u2, rfl, e⟩
    rw [show (vL cols).length = cols.length from List.length_map _, List.take_length]
    exact ⟨_, rfl, h _ e⟩
theorem sc_law_indexes : FnScope ["_law_rows", "_law_place_here", "_law_found", "_law_rest", "_law_each", "_law_size"] ["_law_rows", "_law_place_here"] (defScope s_law_indexes) := C8.fnScope_by (by decide +kernel)
theorem c_law_indexes (T : Tx K mg) : C8.Cal P w K mg base 1 "_law_indexes" spIdx [] := by
  refine cal_of T.d_law_indexes T.g_law_indexes sc_law_indexes (by intro _ _ _ _ _ _ us hl; match us, hl with | [_, _], _ => rfl) (fun _ _ _ _ h => len2 h) (fun cdv A outer s H vs Q E hr h => ?_)
  obtain ⟨_, _, rfl, p, xs, rows, v, rfl, rfl, hp, hR, ok, h⟩ := h
  refine ⟨_, (pss_cons (ps_par (i := 2) (j := 3) rfl sc_law_indexes.nd rfl rfl (by decide) rfl rfl (pa_cons pe_dnewK (pa_cons (pv 1) pa_nil)) (by rfl)) (pss_cons (ps_for PassesOwn.never rfl (pi_sq (pv 0)) (pg_tup rfl (pgs_cons (pg_name (i := 4) sc_law_indexes.nd rfl (Or.inl rfl)) (pgs_cons (pg_name (i := 5) sc_law_indexes.nd rfl (Or.inl rfl)) pgs_nil))) (pss_one (ps_asg (pe_callB (id := "divmod") call_divmod (by rfl) T.b_divmod (by decide +kernel) (pa_cons (pv 3) (pa_cons (pe_op op_shl pe_int (pv 5)) pa_nil))) (pg_tup rfl (pgs_cons (pg_name (i := 3) sc_law_indexes.nd rfl (Or.inl rfl)) (pgs_cons (pg_sub (pv 2) (pv 4) (set_dict (hu1 hr))) pgs_nil)))))) (pss_one (ps_ret (pv 2))))), ?_⟩
  refine fun d hd => ?_
  have hpd : Sq (upd H d (.dK [])) p xs := hp.ex (Ex.new hd)
  refine ⟨_, rfl, _, _, rfl, _, rfl, p, xs, rfl, hpd, fun J G W hG => ?_⟩
  refine for_it W (fun i σ H' => ∃ x y, σ = [some (.ref p), some (vN v), some (.ref d), some (vN (v >>> low rows i)), x, y] ∧ Ex H H' ∧ H' d = some (.dK (dkv (idxR (rows.take i) v))))
      ⟨_, _, rfl, Ex.new hd, upd_same⟩ (fun i σ H' _ ⟨_, _, _, e, _⟩ => hG H' (by rw [hp.same e, hp.same (Ex.new hd)])) ?_ ?_
  · rintro i x σ H2 H3 hi ⟨u1, u2, rfl, e, hd2⟩ ⟨rfl, hx⟩
    obtain ⟨r, hr1, tr, rfl, htr⟩ := hR.at_ i x hx
    have hsum : low rows i + r.2 ≤ 16 := by
      have h1 := low_snoc hr1
      have h2 := low_le (rows := rows) (i + 1)
      have h3 := ok.tt
      omega
    have h16 : 2 ^ r.2 ≤ 65536 := Nat.pow_le_pow_right (by decide : 2 > 0) (by omega : r.2 ≤ 16)
    have h1p : (1 : Int) * 2 ^ ((r.2 : Int).toNat) = ((2 ^ r.2 : Nat) : Int) := two_shl _
    have hpos := Nat.two_pow_pos r.2
    refine ⟨tr, _, rfl, .of (e _ _ htr), rfl, _, _, rfl, _, _, rfl, rfl, ?_⟩
    refine ⟨_, rfl, _, rfl, _, _, rfl, rfl, cpow (n := r.2) (by omega), ?_⟩
    refine ⟨_, _, rfl, ⟨by show (0 : Int) < 1 * 2 ^ ((r.2 : Int).toNat); rw [h1p]; omega, by show (1 : Int) * 2 ^ ((r.2 : Int).toNat) < _; rw [h1p]; omega⟩, fun t ht => ?_⟩
    show gTup _ _ _ (V.ref t) _ (upd _ t (.tup [.int (((v >>> low rows i : Nat) : Int) / (1 * 2 ^ ((r.2 : Int).toNat))), .int (((v >>> low rows i : Nat) : Int) % (1 * 2 ^ ((r.2 : Int).toNat)))])) _
    have q1 : ((v >>> low rows i : Nat) : Int) / (1 * 2 ^ ((r.2 : Int).toNat)) = ((v >>> low rows (i + 1) : Nat) : Int) := by
      rw [h1p, low_snoc hr1, Nat.shiftRight_add, Nat.shiftRight_eq_div_pow (v >>> low rows i)]; norm_cast
    have q2 : ((v >>> low rows i : Nat) : Int) % (1 * 2 ^ ((r.2 : Int).toNat)) = (((v >>> low rows i) % 2 ^ r.2 : Nat) : Int) := by
      rw [h1p]; norm_cast
    rw [q1, q2]
    have ht3 : H3 t = none := ht
    have e1 : Ex H3 (upd H3 t (.tup [vN (v >>> low rows (i + 1)), vN ((v >>> low rows i) % 2 ^ r.2)])) := Ex.new ht3
    have htv : upd H3 t (.tup [vN (v >>> low rows (i + 1)), vN ((v >>> low rows i) % 2 ^ r.2)]) t = some (.tup [vN (v >>> low rows (i + 1)), vN ((v >>> low rows i) % 2 ^ r.2)]) := upd_same
    generalize upd H3 t (.tup [vN (v >>> low rows (i + 1)), vN ((v >>> low rows i) % 2 ^ r.2)]) = H4 at e1 htv ⊢
    have e4 := Same.trans e e1
    refine ⟨t, _, rfl, .of htv, rfl, _, _, rfl, ?_⟩
    refine ⟨_, _, rfl, _, rfl, _, rfl, d, _, .inr r.1, rfl, rfl, e1 _ _ hd2, ?_, rfl, some (.str r.1), some (vN r.2), rfl, Ex.mut e4 hd, ?_⟩
    · rw [List.length_map, idxR_len, List.length_take]
      have := ok.ln
      exact Nat.lt_of_le_of_lt (by omega : _ ≤ 100) (by decide)
    · rw [upd_same, putK_new _ (dkv_none (by rw [idxR_names]; exact take_names ok.nd hr1)), List.take_add_one, hr1]
      show _ = some (HO.dK (dkv (idxR (rows.take i ++ [r]) v)))
      rw [idxR_snoc]
      unfold dkv
      rw [List.map_append]; rfl
  · rintro σ H2 ⟨u1, u2, rfl, e, hd2⟩
    have hf : rows.take xs.length = rows := by rw [hR.len, List.take_length]
    rw [hf] at hd2
    exact ⟨_, rfl, h d H2 hd e hd2⟩
def packR : List Row → (Str → Nat) → Nat
  | [], _ => 0
  | r :: rows, ix => ix r.1 + (packR rows ix) <<< r.2
theorem packR_snoc (rows : List Row) (r : Row) (ix : Str → Nat) : packR (rows ++ [r]) ix = packR rows ix + (ix r.1) <<< tot rows := by
  induction rows with
  | nil => simp [packR, tot]
  | cons x rows ih =>
    rw [List.cons_append, packR, packR, ih, tot_cons]
    simp only [Nat.shiftLeft_eq]
    rw [Nat.add_mul, Nat.add_assoc, Nat.mul_assoc, ← Nat.pow_add, Nat.add_comm x.2]
/-- a dict of indexes -/
structure IxD (H : Hp) (d : Addr) (kvs : List (Key × V)) (rows : List Row) (ix : Str → Nat) : Prop where
  at_ : H d = some (.dK kvs)
  get : ∀ r ∈ rows, valV kvs (.inr r.1) = some (vN (ix r.1))
abbrev spPlace : Sp := spF2 fun a b H Q => ∃ (p d : Addr) (xs : List V) (rows : List Row) (kvs : List (Key × V)) (ix : Str → Nat), a = .ref p ∧ b = .ref d ∧ Sq H p xs ∧ RowsV H xs rows ∧ RowsOk rows ∧ IxD H d kvs rows ix ∧ (∀ r ∈ rows, ix r.1 < 2 ^ 60) ∧
  ∀ H', Ex H H' → Q (vN (packR rows ix)) H'
theorem sc_law_place : FnScope ["_law_rows", "_law_indexes_here", "_law_found", "_law_low", "_law_each", "_law_size"] ["_law_rows", "_law_indexes_here"] (defScope s_law_place) := C8.fnScope_by (by decide +kernel)
theorem c_law_place (T : Tx K mg) : C8.Cal P w K mg base 1 "_law_place" spPlace [] := by
  refine cal_of T.d_law_place T.g_law_place sc_law_place (by intro _ _ _ _ _ _ us hl; match us, hl with | [_, _], _ => rfl) (fun _ _ _ _ h => len2 h) (fun cdv A outer s H vs Q E hr h => ?_)
  obtain ⟨_, _, rfl, p, d, xs, rows, kvs, ix, rfl, rfl, hp, hR, ok, hd, hb, h⟩ := h
  refine ⟨_, (pss_cons (ps_asg (pe_tup (pa_cons pe_int (pa_cons pe_int pa_nil))) (pg_tup rfl (pgs_cons (pg_name (i := 2) sc_law_place.nd rfl (Or.inl rfl)) (pgs_cons (pg_name (i := 3) sc_law_place.nd rfl (Or.inl rfl)) pgs_nil)))) (pss_cons (ps_for PassesOwn.never rfl (pi_sq (pv 0)) (pg_tup rfl (pgs_cons (pg_name (i := 4) sc_law_place.nd rfl (Or.inl rfl)) (pgs_cons (pg_name (i := 5) sc_law_place.nd rfl (Or.inl rfl)) pgs_nil))) (pss_cons (ps_set (i := 2) sc_law_place.nd rfl (Or.inl rfl) (pe_op op_add (pv 2) (pe_op op_shl (pe_dget (hu1 hr) (pv 1) (pv 4) (fun _ _ => rfl)) (pv 3)))) (pss_one (ps_set (i := 3) sc_law_place.nd rfl (Or.inl rfl) (pe_op op_add (pv 3) (pv 5)))))) (pss_one (ps_ret (pv 2))))), ?_⟩
  refine ⟨by show 2 ≤ sizeLine; decide, fun t ht => ?_⟩
  have e0 : Ex H (upd H t (.tup [.int 0, .int 0])) := Ex.new ht
  have htv : upd H t (.tup [.int 0, .int 0]) t = some (.tup [.int 0, .int 0]) := upd_same
  generalize upd H t (.tup [.int 0, .int 0]) = H0 at e0 htv ⊢
  refine ⟨t, _, rfl, .of htv, rfl, _, _, rfl, _, _, rfl, rfl, ?_⟩
  refine ⟨_, rfl, p, xs, rfl, hp.ex e0, fun J G W hG => ?_⟩
  refine for_it W (fun i σ H' => ∃ x y, σ = [some (.ref p), some (.ref d), some (vN (packR (rows.take i) ix)), some (vN (low rows i)), x, y] ∧ H' = H0)
      ⟨_, _, rfl, rfl⟩ (fun i σ H' _ ⟨_, _, _, e⟩ => hG H' (by rw [e])) ?_ ?_
  · rintro i x σ H2 H3 hi ⟨u1, u2, rfl, e2⟩ ⟨e3, hx⟩
    obtain ⟨r, hr1, tr, rfl, htr⟩ := hR.at_ i x hx
    have hmem : r ∈ rows := List.mem_of_getElem? hr1
    have hsum : low rows i + r.2 ≤ 16 := by
      have h1 := low_snoc hr1
      have h2 := low_le (rows := rows) (i + 1)
      have h3 := ok.tt
      omega
    rw [e3, e2]
    refine ⟨tr, _, rfl, .of (e0 _ _ htr), rfl, _, _, rfl, _, _, rfl, rfl, ?_⟩
    refine ⟨_, rfl, _, rfl, _, rfl, d, _, rfl, .inl ⟨kvs, .inr r.1, .inl (e0 _ _ hd.at_), rfl, (hd.get r hmem).symm⟩, _, rfl, _, _, rfl, rfl, cpowN (n := low rows i) (Nat.lt_trans (hb r hmem) (by decide)) (by omega), _, _, rfl, rfl, ?_⟩
    refine ⟨_, rfl, _, rfl, _, _, rfl, rfl, some (.str r.1), some (vN r.2), ?_, rfl⟩
    show [some (V.ref p), some (V.ref d), some (V.int ((packR (rows.take i) ix : Int) + ((ix r.1 : Nat) : Int) * 2 ^ ((low rows i : Int).toNat))), some (V.int ((low rows i : Int) + (r.2 : Int))), _, _] = _
    rw [shl_N, List.take_add_one, hr1, low_snoc hr1]
    show _ = [_, _, some (vN (packR (rows.take i ++ [r]) ix)), _, _, _]
    rw [packR_snoc]
    simp only [vN, Int.natCast_add]; rfl
  · rintro σ H2 ⟨u1, u2, rfl, rfl⟩
    have hf : rows.take xs.length = rows := by rw [hR.len, List.take_length]
    rw [hf]
    exact ⟨_, rfl, h _ e0⟩
theorem valV_drop {kvs : List (Key × V)} {k j : Key} (h : j ≠ k) : valV (dropK kvs k) j = valV kvs j := by
  induction kvs with
  | nil => rfl
  | cons p r ih =>
    unfold dropK
    rw [List.filter_cons]
    by_cases e : p.1 = k
    · rw [if_neg (by simp [e])]
      have : ¬ p.1 = j := fun z => h (by rw [← z, e])
      rw [valV_neg this]; exact ih
    · rw [if_pos (by simp [e])]
      by_cases e2 : p.1 = j
      · rw [valV_pos e2, valV_pos e2]
      · rw [valV_neg e2, valV_neg e2]; exact ih
abbrev spPut : Sp := spF3 fun a b c H Q => ∃ (d : Addr) (kvs : List (Key × V)) (n : Str) (v : Nat), a = .ref d ∧ b = .str n ∧ c = vN v ∧ H d = some (.dK kvs) ∧ kvs.length ≤ 1000 ∧
  ∀ d' H', H d' = none → Ex H H' → H' d' = some (.dK (putK kvs (.inr n) (vN v))) → Q (.ref d') H'
theorem sc_law_put : FnScope ["_law_indexes_here", "_law_word", "_law_index", "_law_found"] ["_law_indexes_here", "_law_word", "_law_index"] (defScope s_law_put) := C8.fnScope_by (by decide +kernel)
theorem c_law_put (T : Tx K mg) : C8.Cal P w K mg base 1 "_law_put" spPut [] := by
  refine cal_of T.d_law_put T.g_law_put sc_law_put (by intro _ _ _ _ _ _ us hl; match us, hl with | [_, _, _], _ => rfl) (fun _ _ _ _ h => len3 h) (fun cdv A outer s H vs Q E hr h => ?_)
  obtain ⟨_, _, _, rfl, d, kvs, n, v, rfl, rfl, rfl, hd, hl, h⟩ := h
  refine ⟨_, (pss_cons (ps_set (i := 3) sc_law_put.nd rfl (Or.inl rfl) (pe_callTy (T := "dict") call_dictD (by rfl) T.b_dict (by decide +kernel) (pa_cons (pv 0) pa_nil))) (pss_cons (ps_dput (hu1 hr) (pv 3) (pv 1) (pv 2) rfl) (pss_one (ps_ret (pv 3))))), ?_⟩
  refine ⟨_, rfl, d, kvs, rfl, .inl hd, fun d' hd' => ?_⟩
  refine ⟨_, rfl, _, rfl, _, rfl, d', _, rfl, DPut.k (k := .inr n) upd_same (Nat.lt_of_le_of_lt hl (by decide)), ?_⟩
  exact ⟨_, rfl, h d' _ hd' (Ex.mut (Ex.new hd') hd') upd_same⟩
abbrev spDropped : Sp := spF2 fun a b H Q => ∃ (d : Addr) (kvs : List (Key × V)) (n : Str) (v : V), a = .ref d ∧ b = .str n ∧ H d = some (.dK kvs) ∧ valV kvs (.inr n) = some v ∧
  ∀ d' H', H d' = none → Ex H H' → H' d' = some (.dK (dropK kvs (.inr n))) → Q (.ref d') H'
theorem sc_law_dropped : FnScope ["_law_indexes_here", "_law_word", "_law_found"] ["_law_indexes_here", "_law_word"] (defScope s_law_dropped) := C8.fnScope_by (by decide +kernel)
theorem c_law_dropped (T : Tx K mg) : C8.Cal P w K mg base 1 "_law_dropped" spDropped [] := by
  refine cal_of T.d_law_dropped T.g_law_dropped sc_law_dropped (by intro _ _ _ _ _ _ us hl; match us, hl with | [_, _], _ => rfl) (fun _ _ _ _ h => len2 h) (fun cdv A outer s H vs Q E hr h => ?_)
  obtain ⟨_, _, rfl, d, kvs, n, v, rfl, rfl, hd, hv, h⟩ := h
  refine ⟨_, (pss_cons (ps_set (i := 2) sc_law_dropped.nd rfl (Or.inl rfl) (pe_callTy (T := "dict") call_dictD (by rfl) T.b_dict (by decide +kernel) (pa_cons (pv 0) pa_nil))) (pss_cons (ps_expr (pe_dpop1 (pv 2) (pv 1) ⟨by rfl, by rfl, by rfl, by rfl⟩)) (pss_one (ps_ret (pv 2))))), ?_⟩
  refine ⟨_, rfl, d, kvs, rfl, .inl hd, fun d' hd' => ?_⟩
  refine ⟨_, rfl, d', rfl, .inl ⟨kvs, .inl upd_same⟩, _, rfl, kvs, .inr n, v, upd_same, rfl, hv, ?_⟩
  exact ⟨_, rfl, h d' _ hd' (Ex.mut (Ex.new hd') hd') upd_same⟩
abbrev spWiden : Sp := spF3 fun a b c H Q => ∃ i k b' : Nat, a = vN i ∧ b = vN k ∧ c = vN b' ∧ i < 2 ^ 40 ∧ k ≤ 40 ∧ b' < 2 ∧ Q (vN (((i >>> k) * 2 + b') <<< k ||| (i % 2 ^ k))) H
theorem sc_law_widened : FnScope ["_law_index", "_law_k", "_law_bit"] ["_law_index", "_law_k", "_law_bit"] (defScope s_law_widened) := C8.fnScope_by (by decide +kernel)
theorem c_law_widened (T : Tx K mg) : C8.Cal P w K mg base 1 "_law_widened" spWiden [] := by
  refine cal_of T.d_law_widened T.g_law_widened sc_law_widened (by intro _ _ _ _ _ _ us hl; match us, hl with | [_, _, _], _ => rfl) (fun _ _ _ _ h => len3 h) (fun cdv A outer s H vs Q E hr h => ?_)
  obtain ⟨_, _, _, rfl, i, k, b, rfl, rfl, rfl, hi, hk, hb, h⟩ := h
  refine ⟨_, (pss_one (ps_ret (pe_op op_or (pe_op op_shl (pe_op op_add (pe_op op_mul (pe_op op_shr (pv 0) (pv 1)) pe_int) (pv 2)) (pv 1)) (pe_op op_and (pv 0) (pe_op op_sub (pe_op op_shl pe_int (pv 1)) pe_int))))), ?_⟩
  refine ⟨_, rfl, _, rfl, _, _, rfl, rfl, by show (0 : Int) ≤ (k : Int); omega, _, _, rfl, rfl, .inr ⟨by decide, by decide⟩, _, rfl, _, _, rfl, rfl, _, rfl, _, _, rfl, rfl, ?_⟩
  have es : (i : Int) / 2 ^ ((k : Int).toNat) * 2 + (b : Int) = (((i >>> k) * 2 + b : Nat) : Int) := by
    rw [shr_N]; norm_cast
  have hsm : (i >>> k) * 2 + b < 2 ^ 64 := by
    have : i >>> k ≤ i := Nat.shiftRight_le _ _
    omega
  refine ⟨by rw [es]; exact cpowN hsm (by omega), ?_⟩
  refine ⟨_, rfl, _, rfl, _, _, rfl, rfl, cpow (n := k) (by omega), _, _, rfl, rfl, _, _, rfl, rfl, _, _, rfl, rfl, ?_⟩
  show Q (V.int (Builtin.bitOr (((i : Int) / 2 ^ ((k : Int).toNat) * 2 + (b : Int)) * 2 ^ ((k : Int).toNat)) (Builtin.bitAnd (i : Int) (1 * 2 ^ ((k : Int).toNat) - 1)))) H
  rw [es, shl_N, mask_N, or_N]
  exact h
end
end My
/-! *** W18 -/
namespace My
open PySem PySem.Spec PyProof.Rows L2 He
local macro_rules | `(tactic| walk_at "go") => `(tactic| repeat (first | refine And.intro rfl ?_ | refine iteT ?_ | refine iteF ?_ | refine iteNS (by assumption) ?_ | apply Exists.intro | refine And.intro (by assumption) ?_))
theorem erase_perm {α : Type} {l : List α} {d : Nat} (hd : d < l.length) : (l[d] :: l.eraseIdx d).Perm l := by
  rw [List.eraseIdx_eq_take_drop_succ]
  have h : l = l.take d ++ l[d] :: l.drop (d + 1) := by rw [← List.drop_eq_getElem_cons hd, List.take_append_drop]
  conv => rhs; rw [h]
  exact List.perm_middle.symm
theorem pot_ne {H : Hp} {p b : Addr} {o : HO} (hp : PotAt H p) (hb : H b = some o) (h : ∀ xs, o ≠ .lst xs) : b ≠ p := fun z => by
  obtain ⟨x, y, q⟩ := hp
  rw [z, q] at hb
  exact h _ (Option.some.inj hb).symm
theorem Fp.new {p q : Addr} {H H1 : Hp} {o : HO} (e : Fp p H H1) (hq : H1 q = none) (hp : H p ≠ none) (hq0 : H q = none) : Fp p H (upd H1 q o) := fun b u n h => by
  rw [upd_ne (ne_of_none h hq0)]; exact e b u n h
/-- what stood free stands free, but for the pot -/
theorem Fp.free {p b : Addr} {H H' : Hp} (e : Fp p H H') (hb : b ≠ p) (h : H' b = none) : H b = none := by
  cases q : H b with
  | none => rfl
  | some o => rw [e b o hb q] at h; cases h
section
variable {P : Program} {w : World} {K : PySem.W.Frag} {mg : Str → Option Value} {base : Heap}
abbrev spPick : Sp := spF2 fun a b H Q => ∃ p : Addr, a = .ref p ∧ PotAt H p ∧
  ((∃ l xs, b = .ref l ∧ l ≠ p ∧ H l = some (.lst xs) ∧ 0 < xs.length ∧ xs.length ≤ 1000 ∧ ∀ (d : Nat) y H', xs[d]? = some y → Fp p H H' → PotAt H' p → Q y H') ∨
   ∃ z : Str, b = .str z ∧ 0 < z.length ∧ z.length ≤ 1000 ∧ ∀ c H', c ∈ z.cps.toList → Fp p H H' → PotAt H' p → Q (.str ⟨#[c]⟩) H')
theorem sc_law_pick : FnScope ["_law_pot_here", "_law_some"] ["_law_pot_here", "_law_some"] (defScope s_law_pick) := C8.fnScope_by (by decide +kernel)
theorem c_law_pick (T : Tx K mg) : C8.Cal P w K mg base 2 "_law_pick" spPick [] := by
  refine cal_of T.d_law_pick T.g_law_pick sc_law_pick (by intro _ _ _ _ _ _ us hl; match us, hl with | [_, _], _ => rfl) (fun _ _ _ _ h => len2 h) (fun cdv A outer s H vs Q E hr h => ?_)
  obtain ⟨_, _, rfl, p, rfl, hp, h⟩ := h
  refine ⟨_, (pss_one (ps_ret (pe_ix ix_seq (pv 1) (C8.pe_c (c_law_digit T) hr (by decide) (by rfl) (pa_cons (pv 0) (pa_cons (pe_callB (id := "len") call_len (by rfl) T.b_len (by decide +kernel) (pa_cons (pv 1) pa_nil)) pa_nil))) (fun _ _ => rfl)))), ?_⟩
  rcases h with ⟨l, xs, rfl, hlp, hl, h0, hn, h⟩ | ⟨z, rfl, h0, hn, h⟩
  · refine ⟨_, rfl, _, rfl, _, rfl, _, _, rfl, .inl ⟨_, .of hl, rfl⟩, _, _, rfl, p, xs.length, rfl, rfl, hp, h0, by omega, fun d H' hd e hp' => ?_⟩
    have hx : xs[d]? = some xs[d] := List.getElem?_eq_getElem hd
    exact .inl ⟨l, _, _, _, rfl, rfl, .of (e _ _ hlp hl), atI_nat (j := d) hx, h d _ H' hx e hp'⟩
  · refine ⟨_, rfl, _, rfl, _, rfl, _, z.length, rfl, ⟨Nat.le_trans hn (by decide), rfl⟩, _, _, rfl, p, z.length, rfl, rfl, hp, h0, by omega, fun d H' hd e hp' => ?_⟩
    have hl : z.cps.toList.length = z.length := by simp [Str.length]
    have hx : z.cps.toList[d]? = some (z.cps.toList[d]'(by omega)) := List.getElem?_eq_getElem _
    exact .inr (.inr ⟨z, _, _, rfl, rfl, Nat.le_trans hn (by decide), atI_nat (j := d) hx, h _ H' (List.getElem_mem _) e hp'⟩)
abbrev spMixedL : Sp := spF2 fun a b H Q => ∃ (p l : Addr) (xs : List V), a = .ref p ∧ b = .ref l ∧ l ≠ p ∧ PotAt H p ∧ H l = some (.lst xs) ∧ xs.length ≤ 1000 ∧
  ∀ q H' ys, ys.Perm xs → H q = none → Fp p H H' → PotAt H' p → H' q = some (.lst ys) → Q (.ref q) H'
theorem sc_law_mixed : FnScope ["_law_pot_here", "_law_some", "_law_pack", "_law_turn"] ["_law_pot_here", "_law_some"] (defScope s_law_mixed) := C8.fnScope_by (by decide +kernel)
theorem c_law_mixed (T : Tx K mg) : C8.Cal P w K mg base 2 "_law_mixed" spMixedL [] := by
  refine cal_of T.d_law_mixed T.g_law_mixed sc_law_mixed (by intro _ _ _ _ _ _ us hl; match us, hl with | [_, _], _ => rfl) (fun _ _ _ _ h => len2 h) (fun cdv A outer s H vs Q E hr h => ?_)
  obtain ⟨_, _, rfl, p, l, xs, rfl, rfl, hlp, hp, hl, hn, h⟩ := h
  refine ⟨_, (pss_cons (ps_set (i := 2) sc_law_mixed.nd rfl (Or.inr rfl) (pe_callTy (T := "list") call_list_of (by rfl) T.b_list (by decide +kernel) (pa_cons (pv 1) pa_nil))) (pss_one (ps_ret (pe_lc (own := [("_law_turn", 3)]) (g := gName 3) rfl sc_law_mixed.nd (pi_range1 (by rfl) T.b_range (pa_cons (pe_callB (id := "len") call_len (by rfl) T.b_len (by decide +kernel) (pa_cons (pv 1) pa_nil)) pa_nil)) (blkOk_by (own := [("_law_turn", 3)]) (N := ["_law_pot_here", "_law_some", "_law_pack", "_law_turn"]) (sc := defScope s_law_mixed) (by decide +kernel)) (fun _ _ _ _ _ => (pg_name (i := 3) sc_law_mixed.nd rfl (Or.inl rfl))) (fun _ _ _ _ _ => pts_nil) (fun _ _ _ _ _ => (pe_bmK K PySem.F.plainAttrs_list PySem.F.slot_list_pop PySem.F.type_list_pop mt_popAt (pv 2) (pa_cons (C8.pe_c (c_law_digit T) hr (by decide) (by rfl) (pa_cons (pv 0) (pa_cons (pe_callB (id := "len") (call_lenK K) (by rfl) T.b_len (by decide +kernel) (pa_cons (pv 2) pa_nil)) pa_nil))) pa_nil))))))), ?_⟩
  refine ⟨_, rfl, l, xs, rfl, .inl (.of hl), fun k hk => ?_⟩
  have e1 : Ex H (upd H k (.lst xs)) := Ex.new hk
  have hkv : upd H k (.lst xs) k = some (.lst xs) := upd_same
  have hkp : k ≠ p := fun z => by obtain ⟨_, _, q⟩ := hp; rw [z, q] at hk; cases hk
  generalize upd H k (.lst xs) = H1 at e1 hkv ⊢
  refine ⟨_, rfl, _, _, rfl, .inl ⟨_, .of (e1 _ _ hl), rfl⟩, _, rfl, by omega, by omega, ?_⟩
  rw [Int.toNat_natCast]
  intro D hD
  have hD0 : H D = none := Same.free e1 hD
  have hDp : D ≠ p := fun z => by obtain ⟨_, _, q⟩ := hp; rw [z, q] at hD0; cases hD0
  have hDk : D ≠ k := fun z => by rw [z, hkv] at hD; cases hD
  refine lc_range (lo := 0) (n := xs.length) (fun i H' => Fp p H H' ∧ PotAt H' p ∧ ∃ as bs, H' D = some (.lst as) ∧ H' k = some (.lst bs) ∧ (as ++ bs).Perm xs ∧ as.length = i)
    ⟨fun b o n hb => by rw [upd_ne (ne_of_none hb hD0)]; exact e1 _ _ hb, PotAt.ex (Ex.new hD) (hp.ex e1), [], xs, upd_same, by rw [upd_ne (Ne.symm hDk)]; exact hkv, .refl _, rfl⟩ ?_ ?_
  · rintro i H2 hi ⟨e, hp2, as, bs, hD2, hk2, hperm, hlen⟩
    have hbl : bs.length = xs.length - i := by
      have := hperm.length_eq
      rw [List.length_append] at this; omega
    refine ⟨rfl, _, rfl, .inl ⟨rfl, _, .of hk2⟩, _, rfl, _, rfl, _, _, rfl, .inl ⟨_, .of hk2, rfl⟩, _, _, rfl, p, bs.length, rfl, rfl, hp2, by omega, by omega, fun d H3 hd e3 hp3 => ?_⟩
    have hk3 : H3 k = some (.lst bs) := e3 _ _ hkp hk2
    have hD3 : H3 D = some (.lst as) := e3 _ _ hDp hD2
    refine ⟨k, bs, (d : Int), d, bs[d], rfl, rfl, hk3, by omega, by omega, by rw [seqIndex_of (by omega) (by omega)]; rfl, List.getElem?_eq_getElem hd, ?_⟩
    have has : as.length < sizeLine := Nat.lt_trans (by omega : as.length < 1000) (by decide)
    refine ⟨as, by rw [upd_ne hDk]; exact hD3, has, ?_, ?_, as ++ [bs[d]], bs.eraseIdx d, upd_same, by rw [upd_ne (Ne.symm hDk), upd_same], ?_, by rw [List.length_append, hlen]; rfl⟩
    · exact fun b o n hb => by
        rw [upd_ne (ne_of_none hb hD0), upd_ne (ne_of_none hb hk)]
        exact e3 _ _ n (e _ _ n hb)
    · obtain ⟨x, y, q⟩ := hp3
      exact ⟨x, y, by rw [upd_ne (Ne.symm hDp), upd_ne (Ne.symm hkp)]; exact q⟩
    · refine List.Perm.trans ?_ hperm
      rw [List.append_assoc]
      exact List.Perm.append_left as (by
        show (bs[d] :: bs.eraseIdx d).Perm bs
        exact erase_perm hd)
  · rintro H2 ⟨e, hp2, as, bs, hD2, hk2, hperm, hlen⟩
    have hb0 : bs = [] := by
      have := hperm.length_eq
      rw [List.length_append] at this
      exact List.eq_nil_of_length_eq_zero (by omega)
    subst hb0
    rw [List.append_nil] at hperm
    exact h D H2 as hperm hD0 e hp2 hD2
end
end My
/-! *** R5 -/
/-! a lambda of one parameter: made, kept in a name, handed to a def, called there -/
namespace My
open PySem PySem.Spec PyProof.Rows L2 LamX
/-- the object at f -/
def LamO (f : Addr) (o : Obj) : HO := .ext fun h => h.get? f = some o
theorem lamO_ok {P : Program} {w : World} {H : Hp} {h : Heap} {f : Addr} {o : Obj} (e : h.get? f = some o) : ObjOk P w H h f (LamO f o) :=
  ⟨e, ⟨o, e⟩, fun h1 h2 q k => k _ q⟩
theorem lamO_at {P : Program} {w : World} {H : Hp} {h : Heap} {f : Addr} {o : Obj} (ok : HOk P w H h) (e : H f = some (LamO f o)) : h.get? f = some o := by
  obtain ⟨q, _⟩ := (show ObjOk P w H h f (LamO f o) from ok f _ e)
  exact q
theorem lamO_ne {f : Addr} {o : Obj} (ps : Array Value) : LamO f o ≠ .tbl ps := fun z => by
  unfold LamO at z
  cases z
section
variable {X : Cx} {pins : List (Addr × Obj)} {σ : L2.St} {H : Hp} {s : Shared}
abbrev lamObj (X : Cx) (params : Arguments) (body : Expr) (scope : Scope) (pm : Value) (c' : Addr) (ctv : Value) : Obj :=
  PySem.W.kla_obj "<lambda>" (X.env.qual ++ "<lambda>") params body scope (cloFrom X.env.cells scope.names []) pm c' ctv
/-- the lambda is made: its code object is new, or found in the table; the function is known from now on -/
theorem lam_make3 {T : List (Addr × Str)} {c P : Addr} {params : Arguments} {body : Expr} {scope : Scope} {pos : Pos} {E : Value → Shared → Prop} {Q : Value → Shared → Prop} (I : Inv X pins σ H s) (TB : TabB X.base X.mg c P) (hcode : X.env.code = .ref c)
    (hm : (P, X.env.qual ++ "<lambda>") ∈ T) (hu : ∀ p ∈ T, p.1 = P → p.2 = X.env.qual ++ "<lambda>") (hT : Tabs T H) (hdef : defaultsOf params X.env = ([], [])) (hfree : ∀ y ∈ scope.names, y.2 = .free → ∃ c, X.env.cells.lookup y.1 = some c)
    (h : ∀ (f c' : Addr) (pm ctv : Value) (H1 : Hp) (s' : Shared), ExtN H H1 → Tabs T H1 → H1 f = none → H1 c' = some (CodeO c' (X.env.qual ++ "<lambda>")) →
      Inv X pins σ (upd H1 f (LamO f (lamObj X params body scope pm c' ctv))) s' → Q (.ref f) s') :
    wpAny (model X.prog X.w) X.A (eval (.Lambda params body scope pos) X.env) Q E s := by
  obtain ⟨ps, hP, ht, ha⟩ := hT _ hm
  refine PySem.W.kla_eval hdef ?_
  have bP : s.heap.BuiltinsAt X.mg P := TB.bm.keeps I.bk
  have hP' : s.heap.get? P = some { cls := .none, data := .fields ps } := I.hok P _ hP
  cases hc : codeAmong pos ps.toList with
  | none =>
    refine PySem.W.kla_makeFunction (mg := X.mg) (c := c) (P := P) (ps := ps) (closure_ok hfree) I.ok.glob (I.mod.glob.keeps I.bk) hcode (TB.code.keeps I.bk) hP' ht hc TB.gP bP fun c' ctv h' tk hx hge hlt hrec htb => ?_
    obtain ⟨c2, oc, vs, t, e2, hoc, hd, hv⟩ := hrec
    cases e2
    have hsz : s.heap.objs.size ≤ h'.objs.size := Nat.le_trans hge (Nat.le_of_lt hlt)
    have nC : H c' = none := I.hok.fresh hge
    have I1 := inv_table (t' := tk) (more := #[rawInt pos.line, rawInt pos.col, .ref c']) (h' := h') I hP hx htb hge ⟨oc, vs, t, hoc, hd, hv⟩
    have hE : ExtN H (upd (upd H P (.tbl (ps ++ #[rawInt pos.line, rawInt pos.col, .ref c']))) c' (CodeO c' (X.env.qual ++ "<lambda>"))) := fun b o e n => by
      rw [upd_ne (ne_of_none e nC), upd_ne (fun z => n ps (Option.some.inj (e.symm.trans (by rw [z]; exact hP))))]
      exact e
    have eL : (ps ++ #[rawInt pos.line, rawInt pos.col, .ref c']).toList = ps.toList ++ [rawInt pos.line, rawInt pos.col, .ref c'] := by simp
    have nF : (upd (upd H P (.tbl (ps ++ #[rawInt pos.line, rawInt pos.col, .ref c']))) c' (CodeO c' (X.env.qual ++ "<lambda>"))) h'.objs.size = none := I1.hok.fresh (Nat.le_refl _)
    refine h h'.objs.size c' ((X.mg "__name__").getD .none) ctv _ _ hE (fun p hp => ?_) nF upd_same
      (I1.laid (a := h'.objs.size) (t' := tk) (fun b u e => Heap.get?_push_of_some _ e) (Nat.le_refl _) (lamO_ok (Heap.get?_push_size _ rfl)))
    by_cases hb : p.1 = P
    · rw [hu p hp hb, hb]
      refine ⟨_, by rw [upd_ne (ne_of_none hP nC), upd_same], by rw [eL]; exact PySem.TriplesOk_snoc _ _ _ _ ht, fun p' cv hcv => ?_⟩
      rw [eL] at hcv
      rcases among_app _ ht hcv with z | z
      · obtain ⟨c0, e1, e2⟩ := ha p' cv z
        exact ⟨c0, e1, hE _ _ e2 codeO_ne⟩
      · exact ⟨c', z, upd_same⟩
    · obtain ⟨ps', a1, a2, a3⟩ := hT p hp
      refine ⟨ps', by rw [upd_ne (ne_of_none a1 nC), upd_ne hb]; exact a1, a2, fun p' cv hcv => ?_⟩
      obtain ⟨c0, e1, e2⟩ := a3 p' cv hcv
      exact ⟨c0, e1, hE _ _ e2 codeO_ne⟩
  | some cv =>
    obtain ⟨c', e, hco⟩ := ha pos cv hc
    subst e
    refine PySem.W.kla_makeFunctionHit (mg := X.mg) (c := c) (P := P) (ps := ps) (closure_ok hfree) I.ok.glob (I.mod.glob.keeps I.bk) hcode (TB.code.keeps I.bk) hP' ht hc bP fun ctv h' tk hx hsz => ?_
    have I1 : Inv X pins σ H { s with heap := h', toks := tk } := I.kept hx
    exact h h'.objs.size c' ((X.mg "__name__").getD .none) ctv H _ (ExtN.refl H) hT (I1.hok.fresh (Nat.le_refl _)) hco
      (I1.laid (a := h'.objs.size) (t' := tk) (fun b u e => Heap.get?_push_of_some _ e) (Nat.le_refl _) (lamO_ok (Heap.get?_push_size _ rfl)))
/-- the value of a lambda -/
def tLamE (X : Cx) (T : List (Addr × Str)) (params : Arguments) (body : Expr) (scope : Scope) : TE := fun _ H Q => Tabs T H ∧ ∀ (f c' : Addr) (pm ctv : Value) (H1 : Hp), ExtN H H1 → Tabs T H1 → H1 f = none → H1 c' = some (CodeO c' (X.env.qual ++ "<lambda>")) →
  Q (.ref f) (upd H1 f (LamO f (lamObj X params body scope pm c' ctv)))
theorem pe_lam1 {T : List (Addr × Str)} {c P : Addr} {params : Arguments} {body : Expr} {scope : Scope} {pos : Pos} (TB : TabB X.base X.mg c P) (hcode : X.env.code = .ref c)
    (hm : (P, X.env.qual ++ "<lambda>") ∈ T) (hu : ∀ p ∈ T, p.1 = P → p.2 = X.env.qual ++ "<lambda>") (hdef : defaultsOf params X.env = ([], [])) (hfree : ∀ (ok : X.Ok), ∀ y ∈ scope.names, y.2 = .free → ∃ c, X.env.cells.lookup y.1 = some c) :
    PE X (.Lambda params body scope pos) (tLamE X T params body scope) := by
  refine ⟨fun pins s σ H Q I ⟨hT, h⟩ => ?_⟩
  refine lam_make3 I TB hcode hm hu hT hdef (hfree I.ok) fun f c' pm ctv H1 s' e1 t1 n1 k1 I1 => ?_
  exact ⟨.ref f, _, I1, rfl, h f c' pm ctv H1 e1 t1 n1 k1⟩
end
/-! ### the lambda's names: one parameter, captured ones and globals -/
structure Lam1 (sc scope : Scope) (a : Str) : Prop where
  kind : scope.kind = .function
  co : scope.isCoroutine = false
  gen : scope.isGenerator = false
  par : scope.names.lookup a = some .local
  own : ∀ y ∈ scope.names, y.2 ≠ .cell ∧ (y.2 = .local → y.1 = a)
  free : ∀ y ∈ scope.names, y.2 = .free → sc.names.lookup y.1 = some .cell ∨ sc.names.lookup y.1 = some .free
def lam1B (sc scope : Scope) (a : Str) : Bool :=
  decide (scope.kind = .function) && !scope.isCoroutine && !scope.isGenerator && decide (scope.names.lookup a = some .local) && scope.names.all fun y => !decide (y.2 = .cell) && (!decide (y.2 = .local) || decide (y.1 = a)) && (!decide (y.2 = .free) || decide (sc.names.lookup y.1 = some .cell) || decide (sc.names.lookup y.1 = some .free))
theorem lam1_by {sc scope : Scope} {a : Str} (h : lam1B sc scope a = true) : Lam1 sc scope a := by
  unfold lam1B at h
  simp only [Bool.and_eq_true, Bool.or_eq_true, Bool.not_eq_true', decide_eq_true_eq, decide_eq_false_iff_not, List.all_eq_true] at h
  obtain ⟨⟨⟨⟨h1, h2⟩, h3⟩, h5⟩, h4⟩ := h
  refine ⟨h1, h2, h3, h5, fun y hy => ⟨(h4 y hy).1.1, fun e => ?_⟩, fun y hy e => ?_⟩
  · rcases (h4 y hy).1.2 with z | z
    · exact absurd e z
    · exact z
  · rcases (h4 y hy).2 with (z | z) | z
    · exact absurd e z
    · exact .inl z
    · exact .inr z
theorem Lam1.has {X : Cx} {scope : Scope} {a : Str} (L : Lam1 X.env.scope scope a) (ok : X.Ok) : ∀ y ∈ scope.names, y.2 = .free → ∃ c, X.env.cells.lookup y.1 = some c := fun y hy e => by
  rcases L.free y hy e with k | k
  · exact ok.has _ (.inl k)
  · exact ok.has _ (.inr k)
/-- the context of the lambda's body, entered at s from the frames outer -/
def lamCx1 (X : Cx) (a : Str) (A : Around) (outer : List Env) (s : Shared) (H : Hp) (scope : Scope) (f c' : Addr) : Cx where
  prog := X.prog
  w := X.w
  K := X.K
  mg := X.mg
  base := X.base
  A := A.deeper (lamEnv X scope s.heap.objs.size f c')
  N := a :: X.N
  s_0 := s
  H_0 := H
  env := lamEnv X scope s.heap.objs.size f c'
  outer := outer
  stack := lamEnv X scope s.heap.objs.size f c' :: outer
  ex := []
  fn := fun _ => false
  calm := true
  pn := []
  xe := fun _ _ => False
section
variable {X : Cx} {pins : List (Addr × Obj)} {σ : L2.St} {H HZ : Hp} {s s1 : Shared}
theorem lam_start1 {a : Str} {A : Around} {outer : List Env} {scope : Scope} {f c' : Addr} {h₁ : Heap} {tk : Nat} {x : V} {u : Value} (I : Inv X pins σ H s) (L : Lam1 X.env.scope scope a) (ha : a ∉ X.N) (rx : RelV x u) (e0 : Env0 X.prog X.w X.K X.mg X.base A outer s1 HZ) (hd : A.handled = none)
    (un : Un (frs X.stack) [] H HZ s.heap s1.heap) (hns : h₁.Ns s1.heap.objs.size fun y => ([(a, u)] : List (Str × Value)).reverse.lookup y) (kp : ∀ b o, s1.heap.get? b = some o → h₁.get? b = some o) :
    Inv (lamCx1 X a A outer s1 HZ scope f c') [] (some x :: σ) HZ { s1 with heap := h₁, toks := tk } := by
  have hfree := L.has I.ok
  have cm : ∀ {y c}, (cloFrom X.env.cells scope.names []).lookup y = some c → X.env.cells.lookup y = some c := fun {y c} e => by
    rcases cloFrom_mem (PySem.mem_of_lookup e) with hm | ⟨h1, h2⟩
    · cases hm
    · obtain ⟨c1, hc⟩ := hfree _ h1 rfl
      have hc : X.env.cells.lookup y = some c1 := hc
      have e2 : c = c1 := by
        rw [h2, hc] <;> rfl
      rw [e2]
      exact hc
  have look : ∀ {y}, scope.names.lookup y = some .free → ∃ c, (cloFrom X.env.cells scope.names []).lookup y = some c := fun {y} hl => by
    have hy : (y, NameKind.free) ∈ scope.names := PySem.mem_of_lookup hl
    exact mem_lookup (cloFrom_has (cells := X.env.cells) (acc := []) hy)
  have cellK : ∀ {c : Addr} {v : Option Value}, H c = none → s.heap.IsCell c v → h₁.IsCell c v := fun {c v} n ⟨o, ho, hd⟩ => by
    obtain ⟨sl, q⟩ := un.any ho n (by simp)
    exact ⟨_, kp _ _ q, hd⟩
  have noA : ∀ b : Addr, b ∉ (lamCx1 X a A outer s1 HZ scope f c').ex := fun b z => absurd (show b ∈ ([] : List Addr) from z) (by simp)
  refine ⟨⟨e0.mod, L.kind, rfl, rfl, Nat.le_refl _, fun y z c e1 e2 => I.ok.inj y z c (cm e1) (cm e2), fun y hy => ?_, fun y c z _ => ?_, fun _ => hd, Around.frames_deeper e0.frames, .inr ⟨rfl, rfl⟩, fun b z => absurd z (noA b), e0.bs, e0.bsz, fun b _ _ => noA b,
      fun b z => absurd z (noA b), e0.funs, e0.frf⟩,
    rfl, e0.bare, Un.kept kp, ⟨_, hns, fun i y v e1 e2 e3 => ?_⟩, fun y c e => ?_, e0.hok.fresh (Nat.le_refl _), fun y c e => ?_, fun q hq => absurd (show q ∈ ([] : List (Addr × Obj)) ++ [] from hq) (by simp), e0.hok.kept kp, ?_⟩
  · have hy : scope.names.lookup y = some .cell ∨ scope.names.lookup y = some .free := hy
    rcases hy with hy | hy
    · exact absurd rfl (L.own _ (PySem.mem_of_lookup hy)).1
    · exact look hy
  · have z : false = true := z
    cases z
  · have e3 : Vis scope y := e3
    cases i with
    | zero =>
      have ey : a = y := by simpa using (show (a :: X.N)[0]? = some y from e1)
      subst ey
      have ev : x = v := by
        have : (some x :: σ)[0]? = some (some v) := e2
        simpa using this
      subst ev
      refine ⟨u, rx, .inl ⟨L.par, ?_⟩⟩
      show List.lookup a [(a, u)] = some u
      simp [List.lookup]
    | succ i =>
      have e1 : X.N[i]? = some y := e1
      have e2 : σ[i]? = some (some v) := e2
      have nya : y ≠ a := fun z => ha (by rw [← z]; exact List.mem_of_getElem? e1)
      rcases e3 with k | k | k
      · exact absurd ((L.own _ (PySem.mem_of_lookup k)).2 rfl) nya
      · exact absurd rfl (L.own _ (PySem.mem_of_lookup k)).1
      · obtain ⟨m, hn, hl⟩ := I.loc
        have hvis : Vis X.env.scope y := (L.free _ (PySem.mem_of_lookup k) rfl).elim (fun k => .inr (.inl k)) (fun k => .inr (.inr k))
        obtain ⟨w', r, q⟩ := hl i y v e1 e2 hvis
        obtain ⟨c2, h2⟩ := look k
        refine ⟨w', r, .inr ⟨.inr k, c2, h2, ?_⟩⟩
        have c1 := cm h2
        rcases q with ⟨k', _⟩ | ⟨_, c3, e', z⟩
        · have k' : X.env.scope.names.lookup y = some .local := k'
          rcases L.free _ (PySem.mem_of_lookup k) rfl with k2 | k2 <;> rw [show X.env.scope.names.lookup y = _ from k2] at k' <;> cases k'
        · rw [c1] at e'
          cases e'
          exact cellK (I.freeC y _ c1) z
  · obtain ⟨w', z⟩ := I.cell y c (cm e)
    exact ⟨w', cellK (I.freeC y c (cm e)) z⟩
  · obtain ⟨v, o, ho, hd⟩ := I.cell y c (cm e)
    exact un.free c o ho (I.freeC y c (cm e)) (by simp)
  · show (some x :: σ).length = (a :: X.N).length
    rw [List.length_cons, List.length_cons, I.len]
/-- back(e), in the def that got the lambda: Z is that def's context, entered at s -/
def tAct1 (i : Nat) (f c' : Addr) (q : Str) (o : Obj) (σ : L2.St) (te tb : TE) : TE := fun σZ HZ Q => σZ[i]? = some (some (.ref f)) ∧ HZ f = some (LamO f o) ∧ te σZ HZ fun x H1 => [x].length = 1 ∧ H1 f = some (LamO f o) ∧ H1 c' = some (CodeO c' q) ∧ tb (some x :: σ) H1 Q
theorem pe_act1 {CXg : CXT} {Eg : XK} {Ng : List Str} {qg : Str} {sg : Scope} {g f c' : Addr} {cdg pm ctv : Value} {params : Arguments} {body : Expr} {scope : Scope} {k i : Nat} {a b : Str} {te tb : TE} {e : Expr} {p1 p2 : Pos}
    (I : Inv X pins σ H s) (L : Lam1 X.env.scope scope a) (ha : a ∉ X.N)
    (hbind : ∀ u, bindArgs (PySem.W.kla_fn "<lambda>" (X.env.qual ++ "<lambda>") params body scope (cloFrom X.env.cells scope.names []) pm (.ref c') ctv) ⟨[u], []⟩ = pure [(a, u)])
    (hr : Room (k + 1) (X.A.deeper (envOfC qg sg s.heap.objs.size g cdg)))
    (hbody : ∀ (A : Around) (outer : List Env) (s : Shared) (H : Hp), Room k (A.deeper (lamEnv X scope s.heap.objs.size f c')) → PE (lamCx1 X a A outer s H scope f c') body tb)
    (he : PE (cxOf CXg X.prog X.w X.K X.mg X.base Ng qg sg g cdg X.A X.stack s H Eg).nox e te)
    (hN : Ng[i]? = some b) (hv : Vis sg b) (hd : (b == ("__debug__" : Str)) = false := by decide) (hcd : (b == ("__classdict__" : Str)) = false := by decide)
    (hst : starEach [e] (cxOf CXg X.prog X.w X.K X.mg X.base Ng qg sg g cdg X.A X.stack s H Eg).nox.env = (false, eval e (cxOf CXg X.prog X.w X.K X.mg X.base Ng qg sg g cdg X.A X.stack s H Eg).nox.env) :: starEach [] (cxOf CXg X.prog X.w X.K X.mg X.base Ng qg sg g cdg X.A X.stack s H Eg).nox.env := by rfl) :
    PE (cxOf CXg X.prog X.w X.K X.mg X.base Ng qg sg g cdg X.A X.stack s H Eg).nox (.Call (.Name b p1) [e] [] p2) (tAct1 i f c' (X.env.qual ++ "<lambda>") (lamObj X params body scope pm c' ctv) σ te tb) := by
  refine ⟨fun pinsZ sZ σZ HZ Q IZ h => ?_⟩
  obtain ⟨hs, h0, h⟩ := h
  refine wpAny_Call_Name_kw (thn ((pe_var (pos := p1) (i := i) hN hv hd hcd).run pinsZ sZ σZ HZ (fun v H1 => v = .ref f ∧ H1 = HZ) IZ ⟨.ref f, hs, rfl, rfl⟩) fun u s1 ⟨v, H1, I1, r1, q1⟩ => ?_)
  obtain ⟨ev, eH⟩ := q1
  subst ev
  rw [eH] at I1
  obtain rfl : u = Value.ref f := r1
  have pa := pa_cons he pa_nil hst
  refine PySem.W.callWith_F ⟨_, _, _, _, lamO_at I1.hok h0⟩ (thn (pa.run p2 pinsZ s1 σZ HZ (fun vs H1 => vs.length = 1 ∧ H1 f = some (LamO f (lamObj X params body scope pm c' ctv)) ∧ H1 c' = some (CodeO c' (X.env.qual ++ "<lambda>")) ∧ tb (some (vs.headD .non) :: σ) H1 Q) I1 h) fun us s2 ⟨vs, H2, I2, r2, hl1, hf2, hc2, q2⟩ => ?_) hst
  obtain ⟨x, rfl⟩ := List.length_eq_one_iff.mp hl1
  obtain ⟨u, rfl, rx⟩ := vals1 r2
  have q2 : tb (some x :: σ) H2 Q := q2
  have of2 : s2.heap.get? f = some (lamObj X params body scope pm c' ctv) := lamO_at I2.hok hf2
  refine ⟨⟨_, _, _, _, of2⟩, ?_⟩
  have un : Un (frs X.stack) [] H H2 s.heap s2.heap := I2.base
  obtain ⟨⟨oc, vs, t, hoc, hdc, hvc⟩, _, _⟩ := I2.hok c' _ hc2
  have e0 : Env0 X.prog X.w X.K X.mg X.base (X.A.deeper (envOfC qg sg s.heap.objs.size g cdg)) (envOfC qg sg s.heap.objs.size g cdg :: X.stack) s2 H2 := I2.env0
  have rc : codeAny (model X.prog X.w) (X.A.deeper (envOfC qg sg s.heap.objs.size g cdg)) (.call (.ref f) ⟨[u], []⟩) (fun r s' => match r with | .ok (.ret v) => CE (envOfC qg sg s.heap.objs.size g cdg :: X.stack) X.prog X.w H2 s2 Q v s' | _ => False) s2 := by
    refine PySem.W.kla_callFunE hr.depth of2 rfl L.co L.gen rfl ⟨c', oc, vs, t, rfl, hoc, hdc, hvc⟩ ?_
    rw [hbind]
    refine wpAny_pure (wpAny_newFunctionEnv (fun y hy => (L.own y hy).1) (fun y hy => by rw [List.mem_singleton.mp hy]; exact L.par) (fun h₁ hns hsb => ⟨I2.nolimit.fresh _ hsb, ?_⟩) L.kind)
    show codeAny _ _ (.expr body (lamEnv X scope s2.heap.objs.size f c')) _ _
    have kp : ∀ b o, s2.heap.get? b = some o → h₁.get? b = some o := fun b o e => hsb.extBut b o (Nat.ne_of_lt (Heap.lt_size e)) (Heap.get?_push_of_some _ e)
    have J : Inv (lamCx1 X a (X.A.deeper (envOfC qg sg s.heap.objs.size g cdg)) (envOfC qg sg s.heap.objs.size g cdg :: X.stack) s2 H2 scope f c') [] (some x :: σ) H2 { s2 with heap := h₁, toks := s2.toks + ([(a, u)] : List (Str × Value)).length } :=
      lam_start1 I L ha rx e0 hr.hd un hns kp
    refine PySem.W.kla_codeExpr (wpAny_mono ((hbody _ _ s2 H2 (hr.deeper _)).run [] _ _ H2 Q J q2) (fun v s' hq => ?_) fun e s' hq => hq.elim)
    obtain ⟨w', H', J', rv, q⟩ := hq
    exact ⟨w', H', J'.os, J'.bare, J'.base, J'.hok, rv, q⟩
  refine wpAny_call (codeAny_mono rc fun r s' hq => ?_)
  cases r with
  | error e => exact hq.elim
  | ok fl =>
    cases fl with
    | ret u => exact I2.after hq
    | next => exact False.elim hq
    | brk => exact False.elim hq
    | cont => exact False.elim hq
/-- g(..) from within X, its body seen from the very state of X: SP, what is known of X's slots and of the arguments -/
theorem pe_gives {x : Str} {g : Addr} {st : Stmt} {N ps : List Str} {k j : Nat} {SP : L2.St → List V → Hp → VK → Prop} {e : Expr} {es : List Expr} {t : TA} {p pos : Pos} (D : DefF X.K x x st g) (hm : X.mg x = some (.ref g)) (S : FnScope N ps (defScope st))
    (hb : ∀ (kV doc pm : Value) (an : Option Addr) (cdv ct : Value) (us : List Value), us.length = ps.length → bindArgs (PySem.W.fnOf x x (defArgs st) (defBody st) (defScope st) .none kV doc pm an cdv ct) ⟨us, []⟩ = pure (ps.zip us))
    (hr : Room j X.A) (hk : k + 1 ≤ j) (hg : Gl X x) (ha : PA X (e :: es) t)
    (hG : ∀ (pins : List (Addr × Obj)) (s : Shared) (σ : L2.St) (H : Hp) (cdv : Value) (vs : List V) (Q : VK), Inv X pins σ H s → Room k (X.A.deeper (envOfC x (defScope st) s.heap.objs.size g cdv)) → SP σ vs H Q →
      ∃ t', PSs (cxOf C8.CX0 X.prog X.w X.K X.mg X.base N x (defScope st) g cdv X.A X.stack s H C8.E0).nox (defBody st) t' ∧ t' { nx := fun _ H' => Q .non H', rt := Q } (start N vs) H)
    (hdb : (x == ("__debug__" : Str)) = false := by decide) (he : starEach (e :: es) X.env = (false, eval e X.env) :: starEach es X.env := by rfl) (hpl : (backTo pos (starEach es X.env)).any (·.1) = false := by rfl) :
    PE X (.Call (.Name x p) (e :: es) [] pos) (fun σ H Q => t σ H fun vs H1 => vs.length = ps.length ∧ SP σ vs H1 Q) := by
  obtain ⟨fd, F⟩ := D
  have hbn := F.bindsN hb
  have hkp := F.kp
  obtain ⟨oc, od, dV, kV, doc, pm, an, cdv, ct, osl, rfl, lk, hcd, _, _⟩ := F.ex
  refine ⟨fun pins s σ H Q I h => ?_⟩
  refine wpAny_Call_Name_kw (ld_glob I hg hm ?_ hdb)
  refine PySem.W.callWith_K (h₀ := X.base) I.ok.mod.kin hkp (thn (ha.run pos pins s σ H _ I h) fun us s1 ⟨vs, H1, I1, r, hl, q⟩ => ⟨I1.kIn, ?_⟩) he hpl
  have rc : codeAny (model X.prog X.w) X.A (.call (.ref g) ⟨us, []⟩) (CR C8.CX0 X.stack X.prog X.w H1 s1 Q C8.E0) s1 := by
    refine run_ofS (N := N) (ps := ps) (us := us) (vs := vs) lk hcd S (hr.mono hk) I1.env0 (by
      have hu : us.length = ps.length := by rw [← r.length]; exact hl
      have := hbn s1 us I1.kIn (by simpa using hu)
      simpa using this) r hl fun hr' => ?_
    obtain ⟨t', ht', hq'⟩ := hG pins s1 σ H1 cdv vs Q I1 hr' q
    exact ⟨t', ht'.nox, hq'⟩
  refine wpAny_call (codeAny_mono rc fun r s2 hq => ?_)
  cases r with
  | error e => exact (show False from hq).elim
  | ok fl =>
    cases fl with
    | ret u => exact I1.after hq
    | next => exact False.elim hq
    | brk => exact False.elim hq
    | cont => exact False.elim hq
end
end My
/-! *** R6 -/
/-! texts: repeated, read by a step -/
namespace My
open PySem PySem.Spec PyProof.Rows L2
section
variable {X : Cx} {e : Expr} {te : TE} {st : Expr} {ts : TE} {pos p2 : Pos}
/-- the text n times -/
def repS (z : Str) (n : Nat) : Str := ⟨(List.replicate n z.cps).foldl (· ++ ·) #[]⟩
theorem fold_size (a : Array Nat) : ∀ (n : Nat) (acc : Array Nat), ((List.replicate n a).foldl (· ++ ·) acc).size = acc.size + a.size * n
  | 0, acc => by simp
  | n + 1, acc => by
    rw [List.replicate_succ, List.foldl_cons, fold_size a n, Array.size_append, Nat.mul_succ]; omega
theorem repS_len (z : Str) (n : Nat) : (repS z n).length = z.length * n := by
  show ((List.replicate n z.cps).foldl (· ++ ·) #[]).size = _
  rw [fold_size]
  show 0 + z.cps.size * n = z.cps.size * n
  omega
/-- z * n for 2 ≤ n ≤ 1000, z not empty -/
def rMulS : R2 := fun x y H Q => ∃ (z : Str) (n : Nat), x = .str z ∧ y = .int (n : Int) ∧ 2 ≤ n ∧ n ≤ 1000 ∧ 0 < z.length ∧ z.length ≤ 1000 ∧ Q (.str (repS z n)) H
theorem op_mulS : OpR X (binaryOp .Mult) rMulS := by
  intro pins s σ H x y v u Q I rx ry h
  obtain ⟨z, n, rfl, rfl, h2, hn, h0, hz, q⟩ := h
  obtain ⟨t, rfl⟩ := rx
  obtain ⟨t2, rfl⟩ := ry
  refine P.mul_str ?_ (fun _ _ => ?_) (fun _ _ => ?_) ?_
  · rw [decide_eq_false (by omega), decide_eq_false (by omega)]; rfl
  · have h1 : (2 ^ 63 - 1 : Int) / 1000 ≤ (2 ^ 63 - 1 : Int) / (n : Int) := Int.le_ediv_of_mul_le (by omega) (by
      have h3 : ((2 ^ 63 - 1 : Int) / 1000) * (n : Int) ≤ ((2 ^ 63 - 1 : Int) / 1000) * 1000 := Int.mul_le_mul_of_nonneg_left (by omega) (by decide)
      exact Int.le_trans h3 (by decide))
    have h2 : ((z.length : Nat) : Int) ≤ (2 ^ 63 - 1 : Int) / 1000 := Int.le_trans (by omega : ((z.length : Nat) : Int) ≤ 1000) (by decide)
    omega
  · rw [Int.toNat_natCast]
    have h3 : z.length * n ≤ 1000 * 1000 := Nat.mul_le_mul hz hn
    unfold Builtin.Str.tooLong
    exact decide_eq_false (Nat.not_lt.mpr (Nat.le_trans h3 (by decide)))
  · rw [if_neg (by omega), if_neg (by simp; omega), Int.toNat_natCast]
    have h3 : z.length * n ≤ 1000 * 1000 := Nat.mul_le_mul hz hn
    have hs : (repS z n).length = z.length * n := repS_len z n
    exact ⟨by show (repS z n).length ≤ sizeLine; rw [hs]; exact Nat.le_trans h3 (by decide), .str (repS z n), H, I.tok _, ⟨_, rfl⟩, q⟩
/-- z[::k] -/
def tRev (te ts : TE) : TE := fun σ H Q => te σ H fun x H1 => ts σ H1 fun y H2 => ∃ (z : Str) (k : Int), x = .str z ∧ y = .int k ∧ (k == 0) = false ∧ z.length ≤ sizeLine ∧ Q (.str (Txt.sliceBy z none none (k, 0))) H2
theorem pe_rev (he : PE X e te) (hs : PE X st ts) : PE X (.Subscript e (.Slice none none (some st) p2) pos) (tRev te ts) := by
  refine ⟨fun pins s σ H Q I h => ?_⟩
  refine Subscript_ (thn (he.run pins s σ H _ I h) fun v s1 ⟨x, H1, I1, r1, q1⟩ => ?_)
  refine wpAny_Slice ?_
  rw [evalPart_none]
  refine wpAny_pure (wpAny_pure ?_)
  rw [evalPart_some]
  refine thn (hs.run pins s1 σ H1 _ I1 q1) fun u s2 ⟨y, H2, I2, r2, q2⟩ => ?_
  obtain ⟨z, k, rfl, rfl, hk, hz, q⟩ := q2
  obtain ⟨t, rfl⟩ := r1
  obtain ⟨t2, rfl⟩ := r2
  have I4 : Inv X pins σ H2 { s2 with heap := s2.heap.push { cls := .type "slice", data := .fields #[.none, .none, .int k t2] } } := I2.kept (t' := s2.toks) fun b ob q => Heap.get?_push_of_some _ q
  show wpAny (model X.prog X.w) X.A (subscriptTail e (.Slice none none (some st) p2) (.str z t) (.ref s2.heap.objs.size)) (EP X pins σ Q) X.xe { s2 with heap := s2.heap.push { cls := .type "slice", data := .fields #[.none, .none, .int k t2] } }
  refine tail_any (T := "str") (ops := [.ref s2.heap.objs.size, .str z t]) (typeIs_str _ _ _) F.slot_str_getitem.lookup ?_ (by with_unfolding_all rfl)
  refine wpAny_getItem_str_slice (l := none) (u := none) (st := some (k, t2)) ⟨_, Heap.get?_push_size _ rfl, rfl, rfl⟩ hk ?_
  have hle := Txt.sliceBy_le z none none (k, t2) (by simpa using hk)
  have q : Q (.str (Txt.sliceBy z none none (k, t2))) H2 := q
  unfold Txt.sliceBy at q hle
  unfold sliceMade
  by_cases c : ((((some (k, t2)).map (·.1)).getD 1 == 1 && (slicePicked z none none (some (k, t2))).length == z.length) = true)
  · rw [if_pos c] at q ⊢
    exact ⟨.str z, H2, I4, ⟨t, rfl⟩, q⟩
  · rw [if_neg c] at q hle ⊢
    exact ⟨Nat.le_trans hle hz, .str _, H2, I4.tok _, ⟨_, rfl⟩, q⟩
end
end My
/-! *** R7 -/
/-! zip of two texts -/
namespace My
open PySem PySem.Spec PyProof.Rows L2
/-- two texts, the letters in new pairs -/
def Itzs (x y : Str) : It :=
  ⟨fun i _ => i < x.cps.size ∧ i < y.cps.size, fun i H v H' => ∃ T c d, v = .ref T ∧ H T = none ∧ H' = upd H T (.tup [.str ⟨#[c]⟩, .str ⟨#[d]⟩]) ∧ x.cps[i]? = some c ∧ y.cps[i]? = some d, fun i _ => i ≤ x.cps.size ∧ i ≤ y.cps.size ∧ (i = x.cps.size ∨ i = y.cps.size)⟩
theorem siter_at {h h' : Heap} {i : Addr} {T : String} {x : Str} {t : Tok} {n : Nat} (st : h.IsStrIter i T x t n) (k : ∀ o, h.get? i = some o → h'.get? i = some o) : h'.IsStrIter i T x t n := by
  obtain ⟨o, e, c, d⟩ := st
  exact ⟨o, k o e, c, d⟩
theorem turn_zips {P : Program} {w : World} {K : PySem.W.Frag} {elts : List Expr} {kk : Nat} {tpos : Pos} {z TI TO i1 i2 : Addr} (x y : Str) (tx ty : Tok) (D : ZipSep2 z TI TO i1 i2 [i1] [i2]) :
    Turn P w K (.Tuple elts kk tpos) (Itzs x y) [z, TI, TO, i1, i2] z (fun i h => IsZip h z TI TO .none ∧ IsTupOf2 h TI (.ref i1) (.ref i2) ∧ (∃ a b, IsTupOf2 h TO a b) ∧ h.IsStrIter i1 (strIterType x) x tx i ∧ h.IsStrIter i2 (strIterType y) y ty i) where
  mem := by simp
  obj := fun i h st c hc => by
    obtain ⟨hz, hTI, ⟨a, b, hTO⟩, ⟨o1, e1, _, d1⟩, ⟨o2, e2, _, d2⟩⟩ := st
    have e' : c = z ∨ c = TI ∨ c = TO ∨ c = i1 ∨ c = i2 := by simpa using hc
    rcases e' with q | q | q | q | q
    · rw [q]; exact ⟨_, hz, fun v q => nomatch q⟩
    · rw [q]; exact ⟨_, hTI, fun v q => nomatch q⟩
    · rw [q]; exact ⟨_, hTO, fun v q => nomatch q⟩
    · rw [q]; exact ⟨o1, e1, fun v q => by rw [d1] at q; cases q⟩
    · rw [q]; exact ⟨o2, e2, fun v q => by rw [d2] at q; cases q⟩
  keep := fun i h h' st k => by
    obtain ⟨hz, hTI, ⟨a, b, hTO⟩, h1, h2⟩ := st
    exact ⟨k z (by simp) _ hz, k TI (by simp) _ hTI, ⟨a, b, k TO (by simp) _ hTO⟩, siter_at h1 fun o q => k i1 (by simp) o q, siter_at h2 fun o q => k i2 (by simp) o q⟩
  item := by
    intro X hP hw hK hc i pins s σ H E I hf st hg
    subst hP hw hK
    obtain ⟨hz, hTI, ⟨a0, b0, hTO⟩, h1, h2⟩ := st
    obtain ⟨hg1, hg2⟩ := hg
    have hzl : z < s.heap.objs.size := Heap.lt_size hz
    have D1 := Draws.text (prog := X.prog) (w := X.w) (A := X.A.in1) (I.ok.hd hc) i1 x tx
    have D2 := Draws.text (prog := X.prog) (w := X.w) (A := X.A.in1) (I.ok.hd hc) i2 y ty
    refine wpAny_pyNext_zipD2_item D D1 D2 hz hTI hTO h1 h2 hg1 hg2 fun v1 v2 h' tk ⟨c1, u1, hc1, e1⟩ ⟨c2, u2, hc2, e2⟩ z' TO' h1' h2' hT hsz hk => ?_
    subst e1 e2
    refine ⟨_, rfl, wpAny_letOwnedTupleGo_zip (s := { s with heap := h', toks := tk }) z' fun h'' z'' sb => ?_⟩
    have hT2 : h''.get? s.heap.objs.size = some { cls := .type "tuple", data := .seq #[.str ⟨#[c1]⟩ u1, .str ⟨#[c2]⟩ u2] } := (sb.2 _ (Nat.ne_of_gt hzl)).trans hT
    have new : ObjOk X.prog X.w (upd H s.heap.objs.size (.tup [.str ⟨#[c1]⟩, .str ⟨#[c2]⟩])) h'' s.heap.objs.size (.tup [.str ⟨#[c1]⟩, .str ⟨#[c2]⟩]) :=
      ⟨by show 2 ≤ sizeLine; decide, [.str ⟨#[c1]⟩ u1, .str ⟨#[c2]⟩ u2], .cons ⟨_, rfl⟩ (.cons ⟨_, rfl⟩ .nil), ⟨_, hT2, rfl, _, rfl⟩⟩
    have I1 : Inv X pins σ (upd H s.heap.objs.size (.tup [.str ⟨#[c1]⟩, .str ⟨#[c2]⟩])) { s with heap := h'', toks := tk } :=
      I.turnedNew (t' := tk) (ch := [z, TI, TO, i1, i2]) (fun c o hb q => (sb.2 c (fun q' => hb (by simp [q']))).trans (hk c o (fun q' => hb (by simp [q'])) (fun q' => hb (by simp [q'])) (fun q' => hb (by simp [q'])) (fun q' => hb (by simp [q'])) q)) hf (Nat.le_refl _) new
    refine ⟨.ref s.heap.objs.size, _, I1, rfl, ⟨_, c1, c2, rfl, I.hok.fresh (Nat.le_refl _), rfl, hc1, hc2⟩, ⟨z'', ?_, ⟨.str ⟨#[c1]⟩ u1, .str ⟨#[c2]⟩ u2, ?_⟩, ?_, ?_⟩, fun c hcm => ?_⟩
    · exact (sb.2 _ D.TIz).trans (hk _ _ D.TIz (Ne.symm D.TITO |> fun z => D.TITO) D.TIi1 D.TIi2 hTI)
    · exact (sb.2 _ D.TOz).trans TO'
    · exact siter_at h1' fun o q => (sb.2 _ (Ne.symm D.zi1)).trans q
    · exact siter_at h2' fun o q => (sb.2 _ (Ne.symm D.zi2)).trans q
    · have hlt : c < s.heap.objs.size := by
        have e' : c = z ∨ c = TI ∨ c = TO ∨ c = i1 ∨ c = i2 := by simpa using hcm
        rcases e' with q | q | q | q | q
        · rw [q]; exact hzl
        · rw [q]; exact Heap.lt_size hTI
        · rw [q]; exact Heap.lt_size hTO
        · rw [q]; obtain ⟨_, e1, _⟩ := h1; exact Heap.lt_size e1
        · rw [q]; obtain ⟨_, e2, _⟩ := h2; exact Heap.lt_size e2
      rw [upd_ne (Nat.ne_of_lt hlt)]
      exact (hf c hcm).1
  done := by
    intro X hP hw hK hc i pins s σ H E I hf st hg
    subst hP hw hK
    obtain ⟨hz, hTI, ⟨a0, b0, hTO⟩, h1, h2⟩ := st
    obtain ⟨hle1, hle2, hend⟩ := hg
    have D1 := Draws.text (prog := X.prog) (w := X.w) (A := X.A.in1) (I.ok.hd hc) i1 x tx
    have D2 := Draws.text (prog := X.prog) (w := X.w) (A := X.A.in1) (I.ok.hd hc) i2 y ty
    exact wpAny_pyNext_zipD2_end D D1 D2 hz hTI hTO h1 h2 hle1 hle2 hend fun h' tk hk => ⟨rfl, I.turnedL (t' := tk) (ch := [z, TI, TO, i1, i2]) (fun c o hb q =>
      hk c o (fun q' => hb (by simp [q'])) (fun q' => hb (by simp [q'])) (fun q' => hb (by simp [q'])) (fun q' => hb (by simp [q'])) q) hf⟩
  self := fun A i s Q E st h => wpAny_pyIter_zip st.1 h
def iZips (ta : TA) : TI := fun σ H R => ta σ H fun vs H1 => ∃ x y : Str, vs = [.str x, .str y] ∧ R (Itzs x y) H1
theorem zip_sep (n : Nat) : ZipSep2 (n + 4) (n + 2) (n + 3) n (n + 1) [n] [n + 1] := by
  constructor <;> simp
theorem pi_zips {X : Cx} {e e2 : Expr} {ta : TA} {p pos tpos : Pos} {elts : List Expr} {kk : Nat} (hg : Gl X "zip") (hm : X.mg "zip" = none) (ha : PA X [e, e2] ta)
    (hs : starEach [e, e2] X.env = (false, eval e X.env) :: starEach [e2] X.env := by rfl) (hpl : (backTo pos (starEach [e2] X.env)).any (·.1) = false := by rfl) :
    PI X (.Tuple elts kk tpos) (.Call (.Name "zip" p) [e, e2] [] pos) (iZips ta) := by
  refine ⟨fun pins s σ H R I h => ?_⟩
  refine Call_ (ld_blt I hg hm PyProof.Rows.boot_zip (PyProof.Rows.callWith_type1 (thn (ha.run pos pins s σ H _ I h) fun us s1 ⟨vs, H1, I1, r1, q1⟩ => ?_) hs hpl))
  obtain ⟨x, y, ex, q⟩ := q1
  subst ex
  cases r1 with
  | cons r rr =>
    cases rr with
    | cons r' rr =>
      cases rr
      obtain ⟨tx, rfl⟩ := r
      obtain ⟨ty, rfl⟩ := r'
      refine zip_begins2 (begins_text x tx) (begins_text y ty) trivial trivial fun h' hz hTI hTO h1 h2 hsz hk => wpAny_pyIter_zip hz ?_
      have I2 : Inv X pins σ H1 { s1 with heap := h' } := I1.kept (t' := s1.toks) hk
      refine ⟨s1.heap.objs.size + 4, [s1.heap.objs.size + 4, s1.heap.objs.size + 2, s1.heap.objs.size + 3, s1.heap.objs.size, s1.heap.objs.size + 1], _, _, H1, rfl, I2, turn_zips x y tx ty (zip_sep s1.heap.objs.size), ⟨hz, hTI, ⟨_, _, hTO⟩, ⟨_, h1, rfl, rfl⟩, ⟨_, h2, rfl, rfl⟩⟩, fun c hcm => ?_, q⟩
      have e' : c = s1.heap.objs.size + 4 ∨ c = s1.heap.objs.size + 2 ∨ c = s1.heap.objs.size + 3 ∨ c = s1.heap.objs.size ∨ c = s1.heap.objs.size + 1 := by simpa using hcm
      have hle : s1.heap.objs.size ≤ c := by
        rcases e' with z | z | z | z | z
        · rw [z]; exact Nat.le_add_right _ _
        · rw [z]; exact Nat.le_add_right _ _
        · rw [z]; exact Nat.le_add_right _ _
        · rw [z]; exact Nat.le_refl _
        · rw [z]; exact Nat.le_add_right _ _
      exact I1.fpOk hle (I1.hok.fresh hle)
/-- the walk of it -/
theorem walk_zips {x y : Str} (hl : y.cps.size = x.cps.size) : Walk (Itzs x y) x.cps.size (fun _ => True) (fun i H v H' => ∃ T c d, v = .ref T ∧ H T = none ∧ H' = upd H T (.tup [.str ⟨#[c]⟩, .str ⟨#[d]⟩]) ∧ x.cps[i]? = some c ∧ y.cps[i]? = some d) :=
  ⟨fun i H h _ => ⟨h, by rw [hl]; exact h⟩, fun H _ => ⟨Nat.le_refl _, by rw [hl]; exact Nat.le_refl _, .inl rfl⟩, fun i H x H' h _ y => y⟩
end My
/-! *** M5 -/
/-! the choice of a name: plain mathematics -/
namespace My
open PySem PySem.Spec PyProof.Rows L2
theorem pigeon : ∀ (B L : List Str), L.Nodup → B.length < L.length → ∃ x ∈ L, x ∉ B
  | [], L, _, h => ⟨L[0]'(by simpa using h), List.getElem_mem _, by simp⟩
  | b :: B, L, nd, h => by
    by_cases hb : b ∈ L
    · have hl : (L.erase b).length = L.length - 1 := List.length_erase_of_mem hb
      rw [List.length_cons] at h
      obtain ⟨x, hx, hn⟩ := pigeon B (L.erase b) (nd.erase b) (by omega)
      have h2 := (nd.mem_erase_iff).mp hx
      exact ⟨x, h2.2, fun z => (List.mem_cons.mp z).elim h2.1 hn⟩
    · rw [List.length_cons] at h
      obtain ⟨x, hx, hn⟩ := pigeon B L nd (by omega)
      exact ⟨x, hx, fun z => (List.mem_cons.mp z).elim (fun e => hb (e ▸ hx)) hn⟩
abbrev lettersS : Str := "abcdefghijklmnopqrstuvwxyz"
/-- the two texts that are read side by side -/
abbrev zipA : Str := repS lettersS 2
abbrev zipB : Str := Txt.sliceBy lettersS none none (-1, 0) ++ lettersS
def pairsL : List (Nat × Nat) := zipA.cps.toList.zip zipB.cps.toList
theorem pairs_len : pairsL.length = 52 := by decide +kernel
theorem pairs_nodup : pairsL.Nodup := by decide +kernel
theorem pairs_in : ∀ p ∈ pairsL, p.1 ∈ lettersL ∧ p.2 ∈ lettersL := by decide +kernel
/-- the names tried behind the word -/
def tried (w : Str) (p : Nat × Nat) : Str := cutS w none (some 6) ++ ⟨#[p.1]⟩ ++ ⟨#[p.2]⟩
theorem cps_app (a b : Str) : (a ++ b).cps.toList = a.cps.toList ++ b.cps.toList := by
  show (a.cps ++ b.cps).toList = _
  simp
theorem tried_cps (w : Str) (p : Nat × Nat) : (tried w p).cps.toList = (cutS w none (some 6)).cps.toList ++ [p.1, p.2] := by
  unfold tried
  rw [cps_app, cps_app, List.append_assoc]; rfl
theorem tried_inj {w : Str} {p q : Nat × Nat} (h : tried w p = tried w q) : p = q := by
  have h2 := congrArg (fun s : Str => s.cps.toList) h
  simp only [tried_cps] at h2
  have h3 := List.append_cancel_left h2
  injection h3 with h4 h5
  injection h5 with h5 _
  exact Prod.ext h4 h5
theorem tried_nodup (w : Str) : (pairsL.map (tried w)).Nodup := List.Pairwise.map _ (fun _ _ h z => h (tried_inj z)) pairs_nodup
/-- one is free -/
theorem tried_free (w : Str) (bad : List Str) (h : bad.length < 52) : ∃ x ∈ w :: pairsL.map (tried w), x ∉ bad := by
  obtain ⟨x, hx, hn⟩ := pigeon bad (pairsL.map (tried w)) (tried_nodup w) (by rw [List.length_map, pairs_len]; exact h)
  exact ⟨x, List.mem_cons_of_mem _ hx, hn⟩
/-- what a candidate is, but for its not being the word self -/
structure CandOk (s : Str) : Prop where
  lo : 1 ≤ s.length
  hi : s.length ≤ 8
  ch : ∀ c ∈ s.cps.toList, c ∈ lettersL
theorem CandOk.name {s : Str} (h : CandOk s) (n : s ≠ "self") : NameOk s := ⟨h.lo, h.hi, n, h.ch⟩
theorem len_cps (s : Str) : s.length = s.cps.toList.length := by simp [Str.length]
theorem join_aux : ∀ (rest : List Str) (acc : Array Nat), (∀ y ∈ rest, ∃ c ∈ lettersL, y = ⟨#[c]⟩) → (∀ c ∈ acc.toList, c ∈ lettersL) →
    (rest.foldl (fun acc p => acc ++ ("" : Str).cps ++ p.cps) acc).size = acc.size + rest.length ∧ ∀ c ∈ (rest.foldl (fun acc p => acc ++ ("" : Str).cps ++ p.cps) acc).toList, c ∈ lettersL
  | [], acc, _, h => ⟨rfl, h⟩
  | y :: rest, acc, hy, h => by
    obtain ⟨c, hc, rfl⟩ := hy y (List.mem_cons_self ..)
    have e0 : ("" : Str).cps = #[] := rfl
    have h1 := join_aux rest (acc ++ ("" : Str).cps ++ #[c]) (fun y q => hy y (List.mem_cons_of_mem _ q)) (fun d hd => by
      rw [e0] at hd
      simp at hd
      rcases hd with hd | hd
      · exact h d (by simpa using hd)
      · rw [hd]; exact hc)
    refine ⟨?_, h1.2⟩
    rw [List.foldl_cons, h1.1, e0, List.length_cons]
    simp
    omega
theorem join_ok {ys : List Str} (h : ∀ y ∈ ys, ∃ c ∈ lettersL, y = ⟨#[c]⟩) (h1 : 1 ≤ ys.length) (h8 : ys.length ≤ 8) : CandOk (Txt.join "" ys) := by
  match ys, h, h1, h8 with
  | y :: ys, h, _, h8 =>
    obtain ⟨c, hc, rfl⟩ := h y (List.mem_cons_self ..)
    have := join_aux ys #[c] (fun y q => h y (List.mem_cons_of_mem _ q)) (fun d hd => by
      have : d = c := by simpa using hd
      rw [this]; exact hc)
    have hs : (Txt.join "" (⟨#[c]⟩ :: ys)).length = 1 + ys.length := this.1
    rw [List.length_cons] at h8
    exact ⟨by omega, by omega, this.2⟩
theorem sum_ones {ys : List Str} (h : ∀ y ∈ ys, ∃ c ∈ lettersL, y = ⟨#[c]⟩) : (ys.map (·.length)).sum = ys.length := by
  induction ys with
  | nil => rfl
  | cons y ys ih =>
    obtain ⟨c, _, rfl⟩ := h y (List.mem_cons_self ..)
    rw [List.map_cons, List.sum_cons, ih fun y q => h y (List.mem_cons_of_mem _ q), List.length_cons, Nat.add_comm]; rfl
theorem cut6 (w : Str) : (cutS w none (some 6)).cps.toList = w.cps.toList.take (min 6 w.length) := by
  unfold cutS
  rw [HT.sIx_none, show (some (6 : Int)) = some ((6 : Nat) : Int) from rfl, HT.sIx_nat, List.drop_zero, Nat.sub_zero, List.toList_toArray]
theorem tried_ok {w : Str} (h : CandOk w) {p : Nat × Nat} (hp : p ∈ pairsL) : CandOk (tried w p) := by
  obtain ⟨h1, h2⟩ := pairs_in p hp
  have hc : ∀ c ∈ (cutS w none (some 6)).cps.toList, c ∈ w.cps.toList := fun c hc => by
    rw [cut6] at hc
    exact List.mem_of_mem_take hc
  refine ⟨?_, ?_, fun c hm => ?_⟩
  · rw [len_cps, tried_cps, List.length_append]; simp
  · rw [len_cps, tried_cps, List.length_append, cut6, List.length_take]
    show _ + 2 ≤ 8
    omega
  · rw [tried_cps] at hm
    rcases List.mem_append.mp hm with hm | hm
    · exact h.ch c (hc c hm)
    · rcases List.mem_cons.mp hm with e | e
      · rw [e]; exact h1
      · rw [List.mem_singleton.mp e]; exact h2
end My
/-! *** W19b -/
namespace My
open PySem PySem.Spec PyProof.Rows L2 He
section
variable {P : Program} {w : World} {K : PySem.W.Frag} {mg : Str → Option Value} {base : Heap}
abbrev spNames : Sp := spF3 fun a b c H Q => ∃ (p u : Addr) (m : Nat) (us : List Str), a = .ref p ∧ b = vN m ∧ c = .ref u ∧ u ≠ p ∧ PotAt H p ∧ m ≤ 5 ∧ H u = some (.lst (us.map V.str)) ∧ us.length ≤ 30 ∧
  ∀ (q : Addr) (H' : Hp) (fs : List Str), H q = none → Fp p H H' → PotAt H' p → H' q = some (.lst (fs.map V.str)) → fs.length = m → (∀ f ∈ fs, NameOk f) → fs.Nodup → (∀ f ∈ fs, f ∉ us) → Q (.ref q) H'
theorem sc_law_names : FnScope ["_law_pot_here", "_law_many", "_law_used", "_law_letters", "_law_found", "_law_turn", "_law_size", "_law_word", "_law_some", "_law_k", "_law_one", "_law_two"] ["_law_pot_here", "_law_many", "_law_used"] (defScope s_law_names) := C8.fnScope_by (by decide +kernel)
theorem c_law_names (T : Tx K mg) : C8.Cal P w K mg base 3 "_law_names" spNames [] := by
  refine cal_of T.d_law_names T.g_law_names sc_law_names (by intro _ _ _ _ _ _ us hl; match us, hl with | [_, _, _], _ => rfl) (fun _ _ _ _ h => len3 h) (fun cdv A outer s H vs Q E hr h => ?_)
  obtain ⟨_, _, _, rfl, p, u, m, us, rfl, rfl, rfl, hup, hp, hm, hu, hun, h⟩ := h
  refine ⟨_, (pss_cons (ps_asg (pe_tup (pa_cons pe_str (pa_cons (pe_lst pa_nil) pa_nil))) (pg_tup rfl (pgs_cons (pg_name (i := 3) sc_law_names.nd rfl (Or.inr rfl)) (pgs_cons (pg_name (i := 4) sc_law_names.nd rfl (Or.inr rfl)) pgs_nil)))) (pss_cons (ps_for PassesOwn.never rfl (pi_range1 (by rfl) T.b_range (pa_cons (pv 1) pa_nil)) (pg_name (i := 5) sc_law_names.nd rfl (Or.inl rfl)) (pss_cons (ps_set (i := 6) sc_law_names.nd rfl (Or.inl rfl) (pe_ix ix_list (pe_lst (pa_cons pe_int (pa_cons pe_int (pa_cons pe_int (pa_cons pe_int pa_nil))))) (C8.pe_c (c_law_digit T) hr (by decide) (by rfl) (pa_cons (pv 0) (pa_cons pe_int pa_nil))) (fun _ _ => rfl))) (pss_cons (ps_set (i := 7) sc_law_names.nd rfl (Or.inr rfl) (pe_join pe_str (pe_lc (own := [("_law_k", 9)]) (g := gName 9) rfl sc_law_names.nd (pi_range1 (by rfl) T.b_range (pa_cons (pv 6) pa_nil)) (blkOk_by (own := [("_law_k", 9)]) (N := ["_law_pot_here", "_law_many", "_law_used", "_law_letters", "_law_found", "_law_turn", "_law_size", "_law_word", "_law_some", "_law_k", "_law_one", "_law_two"]) (sc := defScope s_law_names) (by decide +kernel)) (fun _ _ _ _ _ => (pg_name (i := 9) sc_law_names.nd rfl (Or.inl rfl))) (fun _ _ _ _ _ => pts_nil) (fun _ _ _ _ _ => (C8.pe_c (c_law_pick T) hr (by decide) (by rfl) (pa_cons (pv 0) (pa_cons (pv 3) pa_nil))))))) (pss_cons (ps_set (i := 8) sc_law_names.nd rfl (Or.inl rfl) (pe_op op_cat (pe_lst (pa_cons (pv 7) pa_nil)) (pe_lc (own := [("_law_one", 10), ("_law_two", 11)]) (g := gTup K 2 (gCons (gName 10) (gCons (gName 11) gNil))) rfl sc_law_names.nd (pi_zips (by rfl) T.b_zip (pa_cons (pe_op op_mulS (pv 3) pe_int) (pa_cons (pe_op op_add_str (pe_rev (pv 3) (pe_un un_neg pe_int)) (pv 3)) pa_nil))) (blkOk_by (own := [("_law_one", 10), ("_law_two", 11)]) (N := ["_law_pot_here", "_law_many", "_law_used", "_law_letters", "_law_found", "_law_turn", "_law_size", "_law_word", "_law_some", "_law_k", "_law_one", "_law_two"]) (sc := defScope s_law_names) (by decide +kernel)) (fun _ _ _ _ _ => (pg_tup rfl (pgs_cons (pg_name (i := 10) sc_law_names.nd rfl (Or.inl rfl)) (pgs_cons (pg_name (i := 11) sc_law_names.nd rfl (Or.inl rfl)) pgs_nil)))) (fun _ _ _ _ _ => pts_nil) (fun _ _ _ _ _ => (pe_op op_add_str (pe_op op_add_str (pe_slice sl_str (pv 7) po_none (po_some pe_int)) (pv 10)) (pv 11)))))) (pss_one (ps_expr (pe_bm PySem.F.plainAttrs_list PySem.F.slot_list_append PySem.F.type_list_append mt_append (pv 4) (pa_cons (pe_ix ix_list (pe_lc (own := [("_law_one", 10)]) (g := gName 10) rfl sc_law_names.nd (pi_list (pv 8)) (blkOk_by (own := [("_law_one", 10)]) (N := ["_law_pot_here", "_law_many", "_law_used", "_law_letters", "_law_found", "_law_turn", "_law_size", "_law_word", "_law_some", "_law_k", "_law_one", "_law_two"]) (sc := defScope s_law_names) (by decide +kernel)) (fun _ _ _ _ _ => (pg_name (i := 10) sc_law_names.nd rfl (Or.inl rfl))) (fun _ _ _ _ _ => (pts_one (pt_cmpR (op_notIn_seqK K) (pv 10) (pe_op op_cat (pe_op op_cat (pv 4) (pv 2)) (pe_lst (pa_cons pe_str pa_nil))) (by with_unfolding_all rfl)))) (fun _ _ _ _ _ => (pv 10))) pe_int (fun _ _ => rfl)) pa_nil)))))))) (pss_one (ps_ret (pv 4))))), ?_⟩
  refine ⟨Nat.zero_le _, fun l hl => ⟨by show 2 ≤ sizeLine; decide, fun z hz => ?_⟩⟩
  refine ⟨z, _, rfl, .of upd_same, rfl, _, _, rfl, _, _, rfl, rfl, ?_⟩
  have e1 : Ex H (upd H l (.lst [])) := Ex.new hl
  have hl1 : upd H l (.lst []) l = some (.lst (([] : List Str).map V.str)) := upd_same
  generalize upd H l (.lst []) = H1 at e1 hl1 hz ⊢
  have e2 : Ex H1 (upd H1 z (.tup [.str lettersS, .ref l])) := Ex.new hz
  have hl2 := e2 _ _ hl1
  have e02 := Same.trans e1 e2
  show tSeq _ _ _ _ (upd H1 z (.tup [.str lettersS, .ref l]))
  generalize upd H1 z (.tup [.str lettersS, .ref l]) = H2 at e2 hl2 e02 ⊢
  have hlp : l ≠ p := fun y => by obtain ⟨_, _, w⟩ := hp; rw [y, w] at hl; cases hl
  refine ⟨_, rfl, _, rfl, by omega, by omega, ?_⟩
  rw [Int.toNat_natCast]
  refine for_range (fun i σ' H' => (∃ x5 x6 x7 x8 x9 x10 x11, σ' = [some (.ref p), some (vN m), some (.ref u), some (.str lettersS), some (.ref l), x5, x6, x7, x8, x9, x10, x11]) ∧ Fp p H H' ∧ PotAt H' p ∧
    ∃ fs : List Str, H' l = some (.lst (fs.map V.str)) ∧ fs.length = i ∧ (∀ f ∈ fs, NameOk f) ∧ fs.Nodup ∧ ∀ f ∈ fs, f ∉ us)
    ⟨⟨_, _, _, _, _, _, _, rfl⟩, Fp.of e02, hp.ex e02, [], hl2, rfl, fun _ y => absurd y (by simp), List.nodup_nil, fun _ y => absurd y (by simp)⟩ ?_ ?_
  · rintro i σ' H3 hi ⟨⟨x5, x6, x7, x8, x9, x10, x11, rfl⟩, e3, hp3, fs, hl3, hfl, hfn, hfd, hfu⟩
    have hu3 := e3 _ _ hup hu
    refine ⟨by show 4 ≤ sizeLine; decide, fun z1 hz1 => ?_⟩
    have e4 : Ex H3 (upd H3 z1 (.lst (vL [1, 2, 3, 8]))) := Ex.new hz1
    have hz1v : upd H3 z1 (.lst (vL [1, 2, 3, 8])) z1 = some (.lst (vL [1, 2, 3, 8])) := upd_same
    have hz1p : z1 ≠ p := fun y => by obtain ⟨_, _, w⟩ := hp3; rw [y, w] at hz1; cases hz1
    show tCall spDigit [] C8.E0 (tCons (tVar 0) (tCons (tC (V.int 4)) tNil)) _ (upd H3 z1 (.lst (vL [1, 2, 3, 8]))) _
    generalize upd H3 z1 (.lst (vL [1, 2, 3, 8])) = H4 at e4 hz1v ⊢
    refine ⟨_, rfl, _, _, rfl, p, 4, rfl, rfl, hp3.ex e4, by decide, by decide, fun d H5 hd e5 hp5 => ?_⟩
    obtain ⟨n, hn⟩ : ∃ n, [1, 2, 3, 8][d]? = some n := ⟨_, List.getElem?_eq_getElem (by simpa using hd)⟩
    have hn8 : 1 ≤ n ∧ n ≤ 8 := by
      match d, hn with
      | 0, hn => cases hn; omega
      | 1, hn => cases hn; omega
      | 2, hn => cases hn; omega
      | 3, hn => cases hn; omega
      | d + 4, hn => simp at hn
    refine ⟨z1, _, _, _, rfl, rfl, .of (e5 _ _ hz1p hz1v), atI_nat (j := d) (by rw [List.getElem?_map, hn]; rfl), ?_⟩
    have e35 : Fp p H3 H5 := (Fp.of e4).trans e5
    have hp5' := hp5
    refine ⟨⟨_, rfl⟩, _, rfl, _, rfl, by omega, by omega, fun D hD => ?_⟩
    have hDp : D ≠ p := fun y => by obtain ⟨_, _, w⟩ := hp5; rw [y, w] at hD; cases hD
    rw [Int.toNat_natCast]
    refine lc_range (lo := 0) (n := n) (fun j H' => Fp p H5 H' ∧ PotAt H' p ∧ ∃ ys : List Str, H' D = some (.lst (ys.map V.str)) ∧ ys.length = j ∧ ∀ y ∈ ys, ∃ c ∈ lettersL, y = ⟨#[c]⟩) ⟨Fp.of (Ex.new hD), hp5.ex (Ex.new hD), [], upd_same, rfl, fun _ y => absurd y (by simp)⟩ ?_ ?_
    · rintro j H6 hj ⟨e6, hp6, ys, hD6, hyl, hys⟩
      refine ⟨rfl, _, rfl, _, rfl, _, _, rfl, p, rfl, hp6, .inr ⟨lettersS, rfl, by decide, by decide, fun c H7 hc e7 hp7 => ?_⟩⟩
      have hD7 := e7 _ _ hDp hD6
      refine ⟨_, hD7, ?_, ?_, ?_, ys ++ [⟨#[c]⟩], ?_, ?_, ?_⟩
      · rw [List.length_map]; exact Nat.lt_of_le_of_lt (by omega : _ ≤ 256) (by decide)
      · exact fun b o nb hb => by
          rw [upd_ne (ne_of_none hb hD)]; exact e7 _ _ nb (e6 _ _ nb hb)
      · obtain ⟨a, b, w⟩ := hp7
        exact ⟨a, b, by rw [upd_ne (Ne.symm hDp)]; exact w⟩
      · rw [upd_same, List.map_append]; rfl
      · rw [List.length_append, hyl]; rfl
      · intro y hy
        rcases List.mem_append.mp hy with hy | hy
        · exact hys y hy
        · exact ⟨c, hc, List.mem_singleton.mp hy⟩
    · rintro H6 ⟨e6, hp6, ys, hD6, hyl, hys⟩
      have hsum : (ys.map (·.length)).sum = ys.length := sum_ones hys
      refine ⟨_, D, ys, rfl, rfl, .inl (.of hD6), ?_, ?_⟩
      · rw [hsum]; show ys.length + ys.length * 0 ≤ _; omega
      have hw : CandOk (Txt.join "" ys) := join_ok hys (by omega) (by omega)
      generalize Txt.join "" ys = wd at hw ⊢
      have e36 : Fp p H3 H6 := e35.trans e6
      have hl6 := e36 _ _ hlp hl3
      have hu6 := e36 _ _ hup hu3
      refine ⟨_, rfl, by show 1 ≤ sizeLine; decide, fun z2 hz2 => ?_⟩
      have e7 : Ex H6 (upd H6 z2 (.lst (([wd] : List Str).map V.str))) := Ex.new hz2
      have hz2v : upd H6 z2 (.lst (([wd] : List Str).map V.str)) z2 = some (.lst (([wd] : List Str).map V.str)) := upd_same
      show tLc _ _ _ _ _ _ (upd H6 z2 (.lst (([wd] : List Str).map V.str))) _
      generalize upd H6 z2 (.lst (([wd] : List Str).map V.str)) = H7 at e7 hz2v ⊢
      refine ⟨_, rfl, lettersS, 2, rfl, rfl, by decide, by decide, by decide, by decide, ?_⟩
      refine ⟨_, rfl, _, rfl, lettersS, -1, rfl, rfl, by decide, by decide, ?_⟩
      refine ⟨_, rfl, _, _, rfl, rfl, by decide +kernel, zipA, zipB, rfl, fun D2 hD2 => ?_⟩
      refine lc_it (walk_zips (x := zipA) (y := zipB) (by decide +kernel)) (fun j H' => Ex H7 H' ∧ H' D2 = some (.lst (((pairsL.take j).map (tried wd)).map V.str))) ⟨Ex.new hD2, upd_same⟩ (fun _ _ _ _ => trivial) ?_ ?_
      · rintro j x H8 H9 hj ⟨e8, hD8⟩ ⟨t, c, d, rfl, ht, rfl, hc, hd⟩
        have hpj : pairsL[j]? = some (c, d) := by
          show (zipA.cps.toList.zip zipB.cps.toList)[j]? = _
          rw [List.getElem?_zip_eq_some]
          exact ⟨by simpa using hc, by simpa using hd⟩
        refine ⟨t, _, rfl, .of upd_same, rfl, _, _, rfl, _, _, rfl, rfl, rfl, ?_⟩
        have e9 : Ex H8 (upd H8 t (.tup [.str ⟨#[c]⟩, .str ⟨#[d]⟩])) := Ex.new ht
        generalize upd H8 t (.tup [.str ⟨#[c]⟩, .str ⟨#[d]⟩]) = H9 at e9 ⊢
        have hD9 := e9 _ _ hD8
        have hwl : wd.length ≤ 8 := hw.hi
        have hcl : (cutS wd none (some 6)).length ≤ 8 := Nat.le_trans (cutS_length _ _ _) hwl
        have one : ∀ c : Nat, (⟨#[c]⟩ : Str).length = 1 := fun _ => rfl
        refine ⟨_, rfl, _, rfl, wd, rfl, Nat.le_trans hwl (by decide), _, rfl, _, _, rfl, rfl, by rw [one]; exact Nat.le_trans (by omega : _ ≤ 20) (by decide), _, rfl, _, _, rfl, rfl, ?_, ?_⟩
        · rw [strLen_append, one, one]; exact Nat.le_trans (by omega : _ ≤ 20) (by decide)
        refine ⟨_, hD9, ?_, Ex.mut (Same.trans e8 e9) hD2, ?_⟩
        · rw [List.length_map, List.length_map, List.length_take]; exact Nat.lt_of_le_of_lt (by have := pairs_len; omega : _ ≤ 256) (by decide)
        · rw [upd_same, List.take_add_one, hpj, List.map_append, List.map_append]; rfl
      · rintro H8 ⟨e8, hD8⟩
        rw [show zipA.cps.size = 52 by decide +kernel, List.take_of_length_le (by rw [pairs_len]; exact Nat.le_refl _)] at hD8
        refine ⟨z2, D2, _, _, rfl, rfl, e8 _ _ hz2v, hD8, ?_, fun z3 hz3 => ?_⟩
        · rw [List.length_map, List.length_map, List.length_map, pairs_len]; show 1 + 52 ≤ sizeLine; decide
        have e9 : Ex H8 (upd H8 z3 (.lst (([wd] : List Str).map V.str ++ (pairsL.map (tried wd)).map V.str))) := Ex.new hz3
        have hz3v : upd H8 z3 (.lst (([wd] : List Str).map V.str ++ (pairsL.map (tried wd)).map V.str)) z3 = some (.lst ((wd :: pairsL.map (tried wd)).map V.str)) := upd_same
        generalize upd H8 z3 (.lst (([wd] : List Str).map V.str ++ (pairsL.map (tried wd)).map V.str)) = H9 at e9 hz3v ⊢
        have e69 := Same.trans e7 (Same.trans e8 e9)
        have hl9 := e69 _ _ hl6
        have hu9 := e69 _ _ hu6
        generalize hcands : wd :: pairsL.map (tried wd) = cands at hz3v
        refine ⟨_, rfl, .inl ⟨rfl, _, .of hl9⟩, ?_⟩
        refine ⟨_, rfl, z3, rfl, ⟨_, .of hz3v⟩, fun D3 hD3 => ?_⟩
        refine lc_it (walk_list (K := K) (a := z3) (xs := cands.map V.str)) (fun j H' => Ex H9 H' ∧ H' D3 = some (.lst (((cands.take j).filter fun x => decide (x ∉ fs ++ us ++ [("self" : Str)])).map V.str))) ⟨Ex.new hD3, upd_same⟩ (fun i H' _ ⟨e, _⟩ => .of (e _ _ hz3v)) ?_ ?_
        · rintro j x HA HB hj ⟨eA, hDA⟩ ⟨rfl, hx⟩
          obtain ⟨sx, hsx, rfl⟩ : ∃ sx, cands[j]? = some sx ∧ x = V.str sx := by
            rw [List.getElem?_map] at hx
            cases hq : cands[j]? with
            | none => rw [hq] at hx; cases hx
            | some sx => rw [hq] at hx; exact ⟨sx, rfl, (Option.some.inj hx).symm⟩
          have hlA := eA _ _ hl9
          have huA := eA _ _ hu9
          refine ⟨rfl, _, rfl, _, rfl, _, rfl, l, u, _, _, rfl, rfl, hlA, huA, ?_, fun z4 hz4 => ?_⟩
          · rw [List.length_map, List.length_map]; exact Nat.le_trans (by omega : _ ≤ 200) (by decide)
          have f4 : Ex HB (upd HB z4 (.lst (fs.map V.str ++ us.map V.str))) := Ex.new hz4
          have hz4v : upd HB z4 (.lst (fs.map V.str ++ us.map V.str)) z4 = some (.lst (fs.map V.str ++ us.map V.str)) := upd_same
          generalize upd HB z4 (.lst (fs.map V.str ++ us.map V.str)) = HC at f4 hz4v ⊢
          refine ⟨by show 1 ≤ sizeLine; decide, fun z5 hz5 => ?_⟩
          have f5 : Ex HC (upd HC z5 (.lst [V.str "self"])) := Ex.new hz5
          have hz5v : upd HC z5 (.lst [V.str "self"]) z5 = some (.lst [V.str "self"]) := upd_same
          have hz4w := f5 _ _ hz4v
          generalize upd HC z5 (.lst [V.str "self"]) = HD at f5 hz5v hz4w ⊢
          refine ⟨z4, z5, _, _, rfl, rfl, hz4w, hz5v, ?_, fun z6 hz6 => ?_⟩
          · rw [List.length_append, List.length_map, List.length_map]; show fs.length + us.length + 1 ≤ _; exact Nat.le_trans (by omega : _ ≤ 200) (by decide)
          have f6 : Ex HD (upd HD z6 (.lst (fs.map V.str ++ us.map V.str ++ [V.str "self"]))) := Ex.new hz6
          have hz6v : upd HD z6 (.lst (fs.map V.str ++ us.map V.str ++ [V.str "self"])) z6 = some (.lst ((fs ++ us ++ [("self" : Str)]).map V.str)) := by rw [upd_same]; simp
          generalize upd HD z6 (.lst (fs.map V.str ++ us.map V.str ++ [V.str "self"])) = HE at f6 hz6v ⊢
          have fAE := Same.trans f4 (Same.trans f5 f6)
          refine ⟨z6, _, rfl, .inl (.of hz6v), rfl, flat_names _, _, rfl, ?_⟩
          have hDE := fAE _ _ hDA
          have eE := Same.trans eA fAE
          by_cases hb : sx ∈ fs ++ us ++ [("self" : Str)]
          · have hfl : (cands.take (j + 1)).filter (fun x => decide (x ∉ fs ++ us ++ [("self" : Str)])) = (cands.take j).filter (fun x => decide (x ∉ fs ++ us ++ [("self" : Str)])) := by
              rw [List.take_add_one, hsx, List.filter_append]
              show _ ++ [sx].filter _ = _
              rw [List.filter_cons, if_neg (fun z => (of_decide_eq_true z) hb), List.filter_nil, List.append_nil]
            rw [hfl, inV_in hb]
            exact iteF ⟨eE, hDE⟩
          · have hfl : (cands.take (j + 1)).filter (fun x => decide (x ∉ fs ++ us ++ [("self" : Str)])) = (cands.take j).filter (fun x => decide (x ∉ fs ++ us ++ [("self" : Str)])) ++ [sx] := by
              rw [List.take_add_one, hsx, List.filter_append]
              show _ ++ [sx].filter _ = _
              rw [List.filter_cons, if_pos (decide_eq_true hb), List.filter_nil]
            rw [hfl, inV_names hb]
            refine iteT ⟨_, rfl, _, hDE, ?_, Ex.mut eE hD3, ?_⟩
            · rw [List.length_map]
              have h1 := List.length_filter_le (fun x => decide (x ∉ fs ++ us ++ [("self" : Str)])) (cands.take j)
              rw [List.length_take] at h1
              have h2 : cands.length = 53 := by rw [← hcands, List.length_cons, List.length_map, pairs_len]
              exact Nat.lt_of_le_of_lt (by omega : _ ≤ 256) (by decide)
            · rw [upd_same, List.map_append]; rfl
        · rintro HA ⟨eA, hDA⟩
          rw [List.length_map, List.take_length] at hDA
          have hlA := eA _ _ hl9
          have hbad : (fs ++ us ++ [("self" : Str)]).length < 52 := by rw [List.length_append, List.length_append]; show fs.length + us.length + 1 < 52; omega
          obtain ⟨f, hf⟩ : ∃ f, (cands.filter fun x => decide (x ∉ fs ++ us ++ [("self" : Str)]))[0]? = some f := by
            obtain ⟨x, hx, hn⟩ := tried_free wd _ hbad
            rw [hcands] at hx
            have hm : x ∈ cands.filter fun x => decide (x ∉ fs ++ us ++ [("self" : Str)]) := List.mem_filter.mpr ⟨hx, decide_eq_true hn⟩
            exact ⟨_, List.getElem?_eq_getElem (List.length_pos_of_mem hm)⟩
          have hfm := List.mem_filter.mp (List.mem_of_getElem? hf)
          have hfb : f ∉ fs ++ us ++ [("self" : Str)] := of_decide_eq_true hfm.2
          have hfc : CandOk f := by
            have h0 := hfm.1
            rw [← hcands] at h0
            rcases List.mem_cons.mp h0 with e | e
            · rw [e]; exact hw
            · obtain ⟨pq, hpq, rfl⟩ := List.mem_map.mp e
              exact tried_ok hw hpq
          refine ⟨D3, _, 0, _, rfl, rfl, .of hDA, atI_nat (j := 0) (by rw [List.getElem?_map, hf]; rfl), ?_⟩
          refine ⟨l, _, _, rfl, rfl, hlA, ?_, ⟨_, _, _, _, _, _, _, rfl⟩, ?_, ?_, fs ++ [f], ?_, ?_, ?_, ?_, ?_⟩
          · rw [List.length_map]; exact Nat.lt_of_le_of_lt (by omega : _ ≤ 200) (by decide)
          · exact fun b o nb hb => by
              rw [upd_ne (ne_of_none hb hl)]; exact (Same.trans e69 eA) _ _ (e36 _ _ nb (e3 _ _ nb hb))
          · obtain ⟨a, b, w⟩ := hp6.ex (Same.trans e69 eA)
            exact ⟨a, b, by rw [upd_ne (Ne.symm hlp)]; exact w⟩
          · rw [upd_same, List.map_append]; rfl
          · rw [List.length_append, hfl]; rfl
          · intro y hy
            rcases List.mem_append.mp hy with hy | hy
            · exact hfn y hy
            · rw [List.mem_singleton.mp hy]
              exact hfc.name fun z => hfb (by rw [z]; simp)
          · refine List.nodup_append.mpr ⟨hfd, by simp, fun a ha b hb z => ?_⟩
            rw [List.mem_singleton.mp hb] at z
            exact hfb (by rw [← z]; simp [ha])
          · intro y hy
            rcases List.mem_append.mp hy with hy | hy
            · exact hfu y hy
            · rw [List.mem_singleton.mp hy]
              exact fun z => hfb (by simp [z])
  · rintro σ' H3 ⟨⟨x5, x6, x7, x8, x9, x10, x11, rfl⟩, e3, hp3, fs, hl3, hfl, hfn, hfd, hfu⟩
    exact ⟨_, rfl, h l H3 fs hl e3 hp3 hl3 hfl hfn hfd hfu⟩
end
end My
/-! *** W19 -/
namespace My
open PySem PySem.Spec PyProof.Rows L2 He
local macro_rules | `(tactic| walk_at "go") => `(tactic| repeat (first | refine And.intro rfl ?_ | refine iteT ?_ | refine iteF ?_ | refine iteNS (by assumption) ?_ | apply Exists.intro | refine And.intro (by assumption) ?_))
theorem RowV.fp {p : Addr} {H H' : Hp} {x : V} {r : Row} (hp : PotAt H p) (e : Fp p H H') : RowV H x r → RowV H' x r := fun ⟨t, a, b⟩ => ⟨t, a, e _ _ (pot_ne hp b (fun xs z => by cases z)) b⟩
theorem RowsV.fp {p : Addr} {H H' : Hp} {xs : List V} {rows : List Row} (hp : PotAt H p) (e : Fp p H H') (h : RowsV H xs rows) : RowsV H' xs rows :=
  ⟨h.len, fun i x hx => let ⟨r, a, b⟩ := h.at_ i x hx; ⟨r, a, b.fp hp e⟩⟩
section
variable {P : Program} {w : World} {K : PySem.W.Frag} {mg : Str → Option Value} {base : Heap}
abbrev spAxes : Sp := spF2 fun a b H Q => ∃ (p : Addr) (m : Nat), a = .ref p ∧ b = vN m ∧ PotAt H p ∧ m ≤ 6 ∧
  ∀ q H' xs rows, H q = none → Fp p H H' → PotAt H' p → H' q = some (.lst xs) → RowsV H' xs rows → RowsOk rows → tot rows ≤ m → rows.length ≤ 5 → Q (.ref q) H'
theorem sc_law_axes : FnScope ["_law_pot_here", "_law_most", "_law_found", "_law_left", "_law_each", "_law_size"] ["_law_pot_here", "_law_most"] (defScope s_law_axes) := C8.fnScope_by (by decide +kernel)
theorem c_law_axes (T : Tx K mg) : C8.Cal P w K mg base 4 "_law_axes" spAxes [] := by
  refine cal_of T.d_law_axes T.g_law_axes sc_law_axes (by intro _ _ _ _ _ _ us hl; match us, hl with | [_, _], _ => rfl) (fun _ _ _ _ h => len2 h) (fun cdv A outer s H vs Q E hr h => ?_)
  obtain ⟨_, _, rfl, p, m, rfl, rfl, hp, hm, h⟩ := h
  refine ⟨_, (pss_cons (ps_par (i := 2) (j := 3) rfl sc_law_axes.nd rfl rfl (by decide) rfl rfl (pa_cons (pe_lst pa_nil) (pa_cons (pv 1) pa_nil)) (by rfl)) (pss_cons (ps_for PassesOwn.never rfl (pi_list (C8.pe_c (c_law_names T) hr (by decide) (by rfl) (pa_cons (pv 0) (pa_cons (C8.pe_c (c_law_digit T) hr (by decide) (by rfl) (pa_cons (pv 0) (pa_cons pe_int pa_nil))) (pa_cons (pe_lst pa_nil) pa_nil))))) (pg_name (i := 4) sc_law_axes.nd rfl (Or.inl rfl)) (pss_cons (ps_set (i := 5) sc_law_axes.nd rfl (Or.inl rfl) (pe_callB (id := "min") (call_min2 rfl) (by rfl) T.b_min (by decide +kernel) (pa_cons (pv 3) (pa_cons (pe_ix ix_list (pe_lst (pa_cons pe_int (pa_cons pe_int (pa_cons pe_int (pa_cons pe_int (pa_cons pe_int (pa_cons (pv 3) pa_nil))))))) (C8.pe_c (c_law_digit T) hr (by decide) (by rfl) (pa_cons (pv 0) (pa_cons pe_int pa_nil))) (fun _ _ => rfl)) pa_nil)))) (pss_cons (ps_expr (pe_bm PySem.F.plainAttrs_list PySem.F.slot_list_append PySem.F.type_list_append mt_append (pv 2) (pa_cons (pe_tup (pa_cons (pv 4) (pa_cons (pv 5) pa_nil))) pa_nil))) (pss_one (ps_set (i := 3) sc_law_axes.nd rfl (Or.inl rfl) (pe_op op_sub (pv 3) (pv 5))))))) (pss_one (ps_ret (pv 2))))), ?_⟩
  refine ⟨Nat.zero_le _, fun l hl => ?_⟩
  have hlp : l ≠ p := fun z => by obtain ⟨_, _, q⟩ := hp; rw [z, q] at hl; cases hl
  have e1 : Ex H (upd H l (.lst [])) := Ex.new hl
  have hl1 : upd H l (.lst []) l = some (.lst []) := upd_same
  generalize upd H l (.lst []) = H1 at e1 hl1 ⊢
  refine ⟨_, rfl, _, _, rfl, _, rfl, _, rfl, _, _, rfl, p, 5, rfl, rfl, hp.ex e1, by decide, by decide, fun k H2 hk e2 hp2 => ?_⟩
  refine ⟨Nat.zero_le _, fun u hu => ?_⟩
  have hu0 : H u = none := by
    have h1 : H2 u = none := hu
    have hup : u ≠ p := fun z => by obtain ⟨_, _, q⟩ := hp2; rw [z, q] at h1; cases h1
    exact Same.free e1 (e2.free hup h1)
  have hup : u ≠ p := fun z => by obtain ⟨_, _, q⟩ := hp; rw [z, q] at hu0; cases hu0
  have e3 : Ex H2 (upd H2 u (.lst [])) := Ex.new hu
  have huv : upd H2 u (.lst []) u = some (.lst (([] : List Str).map V.str)) := upd_same
  generalize upd H2 u (.lst []) = H3 at e3 huv ⊢
  have hp3 : PotAt H3 p := hp2.ex e3
  have hl3 : H3 l = some (.lst []) := e3 _ _ (e2 _ _ hlp hl1)
  have e03 : Fp p H H3 := (Fp.of e1).trans (e2.trans (Fp.of e3))
  refine ⟨_, _, _, rfl, p, u, k, [], rfl, rfl, rfl, hup, hp3, by omega, huv, by decide, fun q H4 fs hq e4 hp4 hqv hfl hfn hfd _ => ?_⟩
  have hqp : q ≠ p := fun z => by obtain ⟨_, _, y⟩ := hp3; rw [z, y] at hq; cases hq
  have hql : q ≠ l := fun z => by rw [z, hl3] at hq; cases hq
  have e04 := e03.trans e4
  have hl4 : H4 l = some (.lst []) := e4 _ _ hlp hl3
  refine ⟨q, rfl, ⟨_, .of hqv⟩, ?_⟩
  refine for_it (walk_list (K := K) (a := q) (xs := fs.map V.str)) (fun i σ H' => ∃ (rows : List Row) (xs : List V) (left : Nat) (x y : Option V), σ = [some (.ref p), some (vN m), some (.ref l), some (vN left), x, y] ∧
      left + tot rows = m ∧ H' l = some (.lst xs) ∧ RowsV H' xs rows ∧ nms rows = fs.take i ∧ Fp p H H' ∧ PotAt H' p ∧ H' q = some (.lst (fs.map V.str)))
    ⟨[], [], m, _, _, rfl, rfl, hl4, RowsV.nil, rfl, e04, hp4, hqv⟩ (fun i σ H' _ ⟨_, _, _, _, _, _, _, _, _, _, _, _, z⟩ => .of z) ?_ ?_
  · rintro i x σ H5 H6 hi ⟨rows, xs, left, u1, u2, rfl, hlt, hl5, hR, hnm, e, hp5, hq5⟩ ⟨rfl, hx⟩
    have hi' : i < fs.length := by simpa using hi
    have ex : x = .str fs[i] := by
      rw [List.getElem?_map, List.getElem?_eq_getElem hi'] at hx
      exact (Option.some.inj hx).symm
    subst ex
    refine ⟨_, rfl, _, rfl, by show 6 ≤ sizeLine; decide, fun z hz => ?_⟩
    have hzp : z ≠ p := fun y => by obtain ⟨_, _, w⟩ := hp5; rw [y, w] at hz; cases hz
    have e7 : Ex H6 (upd H6 z (.lst (vL [0, 1, 2, 3, 1, left]))) := Ex.new hz
    have hzv : upd H6 z (.lst (vL [0, 1, 2, 3, 1, left])) z = some (.lst (vL [0, 1, 2, 3, 1, left])) := upd_same
    show tCall spDigit [] C8.E0 (tCons (tVar 0) (tCons (tC (V.int 6)) tNil)) _ (upd H6 z (.lst (vL [0, 1, 2, 3, 1, left]))) _
    generalize upd H6 z (.lst (vL [0, 1, 2, 3, 1, left])) = H7 at e7 hzv ⊢
    have hp7 := hp5.ex e7
    refine ⟨_, rfl, _, _, rfl, p, 6, rfl, rfl, hp7, by decide, by decide, fun d H8 hd e8 hp8 => ?_⟩
    obtain ⟨c, hc⟩ : ∃ c, [0, 1, 2, 3, 1, left][d]? = some c := ⟨_, List.getElem?_eq_getElem (by simpa using hd)⟩
    refine ⟨z, _, _, _, rfl, rfl, .of (e8 _ _ hzp hzv), atI_nat (j := d) (by rw [List.getElem?_map, hc]; rfl), ?_⟩
    have e68 : Fp p H6 H8 := (Fp.of e7).trans e8
    have hmin : (if (c : Int) < (left : Int) then V.int (c : Int) else V.int (left : Int)) = vN (min left c) := by
      by_cases hh : (c : Int) < (left : Int)
      · rw [if_pos hh, Nat.min_eq_right (by omega)]
      · rw [if_neg hh, Nat.min_eq_left (by omega)]
    refine ⟨_, _, rfl, ?_⟩
    show gName 5 (V.int (if (c : Int) < (left : Int) then (c : Int) else (left : Int))) _ _ _
    rw [show V.int (if (c : Int) < (left : Int) then (c : Int) else (left : Int)) = vN (min left c) from by rw [← hmin]; split <;> rfl]
    have hl8 : H8 l = some (.lst xs) := e68 _ _ hlp hl5
    refine ⟨_, rfl, .inl ⟨rfl, _, .of hl8⟩, _, rfl, _, rfl, by show 2 ≤ sizeLine; decide, fun t ht => ?_⟩
    have e9 : Ex H8 (upd H8 t (.tup [.str fs[i], vN (min left c)])) := Ex.new ht
    have htv : upd H8 t (.tup [.str fs[i], vN (min left c)]) t = some (.tup [.str fs[i], vN (min left c)]) := upd_same
    generalize upd H8 t (.tup [.str fs[i], vN (min left c)]) = H9 at e9 htv ⊢
    have hl9 := e9 _ _ hl8
    have hR9 : RowsV H9 xs rows := (hR.fp hp5 e68).ex e9
    have hxl : xs.length = rows.length := hR.len
    have hrl : rows.length = i := by
      have : (nms rows).length = (fs.take i).length := by rw [hnm]
      rw [List.length_map, List.length_take] at this; omega
    refine ⟨l, _, _, rfl, rfl, hl9, Nat.lt_of_le_of_lt (by omega : xs.length ≤ 1000) (by decide), ?_⟩
    refine ⟨_, rfl, _, rfl, _, _, rfl, rfl, rows ++ [(fs[i], min left c)], xs ++ [.ref t], left - min left c, some (.str fs[i]), some (vN (min left c)), ?_, ?_, upd_same, ?_, ?_, ?_, ?_, ?_⟩
    · show [some (V.ref p), some (vN m), some (V.ref l), some (V.int ((left : Int) - ((min left c : Nat) : Int))), _, _] = _
      rw [show ((left : Int) - ((min left c : Nat) : Int)) = ((left - min left c : Nat) : Int) by have := Nat.min_le_left left c; omega]
    · rw [tot_app, tot_cons, tot_nil]
      have := Nat.min_le_left left c
      show left - min left c + (tot rows + (min left c + 0)) = m
      omega
    · have hne : ∀ b ys, H9 b = some (.tup ys) → b ≠ l := fun b ys hb => ne_of hb hl9 (by intro z; cases z)
      have hR10 := hR9.app (RowsV.one (r := (fs[i], min left c)) ⟨t, rfl, htv⟩)
      refine ⟨hR10.len, fun j y hy => ?_⟩
      obtain ⟨r, h1, t', rfl, h2⟩ := hR10.at_ j y hy
      exact ⟨r, h1, t', rfl, by rw [upd_ne (hne _ _ h2)]; exact h2⟩
    · show (rows ++ [(fs[i], min left c)]).map (·.1) = fs.take (i + 1)
      rw [List.map_append, show rows.map (·.1) = nms rows from rfl, hnm, List.take_add_one, List.getElem?_eq_getElem hi']; rfl
    · exact fun b o n hb => by
        rw [upd_ne (ne_of_none hb hl)]
        exact e9 _ _ (e68 _ _ n (e _ _ n hb))
    · obtain ⟨x, y, q⟩ := hp8.ex e9
      exact ⟨x, y, by rw [upd_ne (Ne.symm hlp)]; exact q⟩
    · rw [upd_ne hql]
      exact e9 _ _ (e68 _ _ hqp hq5)
  · rintro σ H5 ⟨rows, xs, left, u1, u2, rfl, hlt, hl5, hR, hnm, e, hp5, hq5⟩
    have hf : fs.take (fs.map V.str).length = fs := by rw [List.length_map, List.take_length]
    rw [hf] at hnm
    have hrl : rows.length = fs.length := by rw [← hnm, List.length_map]
    refine ⟨_, rfl, h l H5 xs rows hl e hp5 hl5 hR ⟨fun r hr => hfn _ (by rw [← hnm]; exact List.mem_map.mpr ⟨r, hr, rfl⟩), by rw [show rows.map (·.1) = nms rows from rfl, hnm]; exact hfd, by omega, by omega⟩ (by omega) (by omega)⟩
end
end My
/-! *** W20 -/
namespace My
open PySem PySem.Spec PyProof.Rows L2 He
def allBits (rows : List Row) : List Row := rows.flatMap fun r => (List.range r.2).map fun k => (r.1, k)
theorem RowsV.cons {H : Hp} {x : V} {xs : List V} {b : Row} {bs : List Row} (h : RowV H x b) (hs : RowsV H xs bs) : RowsV H (x :: xs) (b :: bs) := (RowsV.one h).app hs
theorem RowsV.uncons {H : Hp} {x : V} {xs : List V} {bs : List Row} (h : RowsV H (x :: xs) bs) : ∃ b bs', bs = b :: bs' ∧ RowV H x b ∧ RowsV H xs bs' := by
  cases bs with
  | nil => exact absurd h.len (by simp)
  | cons b bs =>
    refine ⟨b, bs, rfl, ?_, ?_⟩
    · obtain ⟨r, h1, h2⟩ := h.at_ 0 x rfl
      have : b = r := by simpa using h1
      exact this ▸ h2
    · have := h.drop 1
      simpa using this
theorem RowsV.perm {H : Hp} {xs ys : List V} (p : ys.Perm xs) : ∀ {bs : List Row}, RowsV H xs bs → ∃ bs', RowsV H ys bs' ∧ bs'.Perm bs := by
  induction p with
  | nil => exact fun {bs} h => ⟨bs, h, .refl _⟩
  | @cons x ys xs _ ih =>
    intro bs h
    obtain ⟨b, bs1, rfl, h1, h2⟩ := h.uncons
    obtain ⟨bs2, h3, h4⟩ := ih h2
    exact ⟨b :: bs2, h3.cons h1 |> fun z => z, h4.cons b⟩
  | swap x y l =>
    intro bs h
    obtain ⟨b, bs1, rfl, h1, h2⟩ := h.uncons
    obtain ⟨c, bs2, rfl, h3, h4⟩ := h2.uncons
    exact ⟨c :: b :: bs2, RowsV.cons h3 (RowsV.cons h1 h4), .swap ..⟩
  | trans _ _ ih1 ih2 =>
    intro bs h
    obtain ⟨b1, h1, p1⟩ := ih2 h
    obtain ⟨b2, h2, p2⟩ := ih1 h1
    exact ⟨b2, h2, p2.trans p1⟩
theorem allBits_nil : allBits [] = [] := rfl
theorem allBits_snoc (rows : List Row) (r : Row) : allBits (rows ++ [r]) = allBits rows ++ (List.range r.2).map fun k => (r.1, k) := by
  unfold allBits
  rw [List.flatMap_append]; simp
theorem mem_allBits {rows : List Row} {b : Row} (h : b ∈ allBits rows) : ∃ r ∈ rows, r.1 = b.1 ∧ b.2 < r.2 := by
  obtain ⟨r, hr, hb⟩ := List.mem_flatMap.mp h
  obtain ⟨k, hk, rfl⟩ := List.mem_map.mp hb
  exact ⟨r, hr, rfl, List.mem_range.mp hk⟩
theorem allBits_len (rows : List Row) : (allBits rows).length = tot rows := by
  induction rows with
  | nil => rfl
  | cons r rows ih =>
    unfold allBits at *
    rw [List.flatMap_cons, List.length_append, ih, List.length_map, List.length_range, tot_cons]
theorem allBits_nodup {rows : List Row} (h : (nms rows).Nodup) : (allBits rows).Nodup := by
  induction rows with
  | nil => exact List.nodup_nil
  | cons r rows ih =>
    have h' : r.1 ∉ nms rows ∧ (nms rows).Nodup := List.nodup_cons.mp h
    unfold allBits
    rw [List.flatMap_cons]
    refine List.nodup_append.mpr ⟨?_, ih h'.2, ?_⟩
    · refine List.Pairwise.map _ (fun a b hab => ?_) (List.nodup_range (n := r.2))
      exact fun z => hab (by injection z)
    · intro a ha b hb z
      obtain ⟨k, _, rfl⟩ := List.mem_map.mp ha
      obtain ⟨r2, hr2, e, _⟩ := mem_allBits (rows := rows) hb
      exact h'.1 (List.mem_map.mpr ⟨r2, hr2, by rw [e, ← z]⟩)
section
variable {P : Program} {w : World} {K : PySem.W.Frag} {mg : Str → Option Value} {base : Heap}
abbrev spBitsOf : Sp := spF2 fun a b H Q => ∃ (p l : Addr) (xs : List V) (rows : List Row), a = .ref p ∧ b = .ref l ∧ PotAt H p ∧ Sq H l xs ∧ RowsV H xs rows ∧ RowsOk rows ∧ l ≠ p ∧
  ∀ (q : Addr) (H' : Hp) (ys : List V) (bs : List Row), H q = none → Fp p H H' → PotAt H' p → bs.Perm (allBits rows) → H' q = some (.lst (ys.take 2)) → RowsV H' ys bs → Q (.ref q) H'
theorem sc_law_bits : FnScope ["_law_pot_here", "_law_rows", "_law_bits_here", "_law_word", "_law_size", "_law_k"] ["_law_pot_here", "_law_rows"] (defScope s_law_bits) := C8.fnScope_by (by decide +kernel)
theorem c_law_bits (T : Tx K mg) : C8.Cal P w K mg base 3 "_law_bits" spBitsOf [] := by
  refine cal_of T.d_law_bits T.g_law_bits sc_law_bits (by intro _ _ _ _ _ _ us hl; match us, hl with | [_, _], _ => rfl) (fun _ _ _ _ h => len2 h) (fun cdv A outer s H vs Q E hr h => ?_)
  obtain ⟨_, _, rfl, p, l, xs, rows, rfl, rfl, hp, hl, hR, ok, hlp, h⟩ := h
  refine ⟨_, (pss_cons (ps_set (i := 2) sc_law_bits.nd rfl (Or.inl rfl) (pe_lst pa_nil)) (pss_cons (ps_for PassesOwn.never rfl (pi_sq (pv 1)) (pg_tup rfl (pgs_cons (pg_name (i := 3) sc_law_bits.nd rfl (Or.inr rfl)) (pgs_cons (pg_name (i := 4) sc_law_bits.nd rfl (Or.inl rfl)) pgs_nil))) (pss_one (ps_expr (pe_bm PySem.F.plainAttrs_list PySem.F.slot_list_extend PySem.F.type_list_extend mt_extend (pv 2) (pa_cons (pe_lc (own := [("_law_k", 5)]) (g := gName 5) rfl sc_law_bits.nd (pi_range1 (by rfl) T.b_range (pa_cons (pv 4) pa_nil)) (blkOk_by (own := [("_law_k", 5)]) (N := ["_law_pot_here", "_law_rows", "_law_bits_here", "_law_word", "_law_size", "_law_k"]) (sc := defScope s_law_bits) (by decide +kernel)) (fun _ _ _ _ _ => (pg_name (i := 5) sc_law_bits.nd rfl (Or.inl rfl))) (fun _ _ _ _ _ => pts_nil) (fun _ _ _ _ _ => (pe_tup (pa_cons (pv 3) (pa_cons (pv 5) pa_nil))))) pa_nil))))) (pss_one (ps_ret (pe_slice sl_list (C8.pe_c (c_law_mixed T) hr (by decide) (by rfl) (pa_cons (pv 0) (pa_cons (pv 2) pa_nil))) po_none (po_some pe_int)))))), ?_⟩
  refine ⟨Nat.zero_le _, fun z hz => ?_⟩
  have hzp : z ≠ p := fun y => by obtain ⟨_, _, w⟩ := hp; rw [y, w] at hz; cases hz
  have e1 : Ex H (upd H z (.lst [])) := Ex.new hz
  have hz1 : upd H z (.lst []) z = some (.lst []) := upd_same
  generalize upd H z (.lst []) = H1 at e1 hz1 ⊢
  refine ⟨_, rfl, l, xs, rfl, hl.ex e1, fun J G W hG => ?_⟩
  refine for_it W (fun i σ H' => ∃ (ys : List V) (x y c : Option V), σ = [some (.ref p), some (.ref l), some (.ref z), x, y, c] ∧ Ex H H' ∧ H' z = some (.lst ys) ∧ RowsV H' ys (allBits (rows.take i)))
    ⟨[], _, _, _, rfl, e1, hz1, RowsV.nil⟩ (fun i σ H' _ ⟨_, _, _, _, _, e, _⟩ => hG H' (by rw [hl.same e, hl.same e1])) ?_ ?_
  · rintro i x σ H2 H3 hi ⟨ys, u1, u2, u3, rfl, e, hz3, hY⟩ ⟨rfl, hx⟩
    obtain ⟨r, hr1, tr, rfl, htr⟩ := hR.at_ i x hx
    have hsum : low rows i + r.2 ≤ 16 := by
      have h1 := low_snoc hr1
      have h2 := low_le (rows := rows) (i + 1)
      have h3 := ok.tt
      omega
    refine ⟨tr, _, rfl, .of (e _ _ htr), rfl, _, _, rfl, _, _, rfl, rfl, ?_⟩
    refine ⟨_, rfl, .inl ⟨rfl, _, .of hz3⟩, ?_⟩
    refine ⟨_, rfl, _, rfl, by omega, by omega, ?_⟩
    rw [Int.toNat_natCast]
    intro D hD
    have hDz : D ≠ z := fun y => by rw [y, hz3] at hD; cases hD
    have hD0 : H D = none := Same.free e hD
    refine lc_range (lo := 0) (n := r.2) (fun j H' => Ex H3 H' ∧ ∃ as, H' D = some (.lst as) ∧ RowsV H' as ((List.range j).map fun k => (r.1, k))) ⟨Ex.new hD, [], upd_same, RowsV.nil⟩ ?_ ?_
    · rintro j H4 hj ⟨e4, as, hD4, hA⟩
      refine ⟨rfl, _, rfl, _, rfl, by show 2 ≤ sizeLine; decide, fun t ht => ?_⟩
      rw [Int.zero_add]
      have e5 : Ex H4 (upd H4 t (.tup [.str r.1, vN j])) := Ex.new ht
      have htv : upd H4 t (.tup [.str r.1, vN j]) t = some (.tup [.str r.1, vN j]) := upd_same
      generalize upd H4 t (.tup [.str r.1, vN j]) = H5 at e5 htv ⊢
      have hal := hA.len
      rw [List.length_map, List.length_range] at hal
      have hD5 := e5 _ _ hD4
      refine ⟨as, hD5, Nat.lt_of_le_of_lt (by omega : as.length ≤ 1000) (by decide), Ex.mut (Same.trans e4 e5) hD, as ++ [.ref t], upd_same, ?_⟩
      rw [range_snoc, List.map_append]
      have hA2 := (hA.ex e5).app (RowsV.one (r := (r.1, j)) ⟨t, rfl, htv⟩)
      refine ⟨hA2.len, fun i2 y hy => ?_⟩
      obtain ⟨r2, h1, t', rfl, h2⟩ := hA2.at_ i2 y hy
      exact ⟨r2, h1, t', rfl, by rw [upd_ne (ne_of h2 hD5 (by intro y; cases y))]; exact h2⟩
    · rintro H4 ⟨e4, as, hD4, hA⟩
      have hz4 := e4 _ _ hz3
      have hal := hA.len
      rw [List.length_map, List.length_range] at hal
      have hyl := hY.len
      have hbl : (allBits (rows.take i)).length ≤ 16 := by rw [allBits_len]; exact Nat.le_trans (low_le i) ok.tt
      refine ⟨z, D, ys, as, rfl, rfl, hz4, hD4, Nat.le_trans (by omega : _ ≤ 1000) (by decide), ys ++ as, _, _, _, rfl, Ex.mut (Same.trans e e4) hz, upd_same, ?_⟩
      have hb : allBits (rows.take (i + 1)) = allBits (rows.take i) ++ (List.range r.2).map fun k => (r.1, k) := by
        rw [List.take_add_one, hr1]; exact allBits_snoc _ _
      rw [hb]
      have hY2 := (hY.ex e4).app hA
      refine ⟨hY2.len, fun i2 y hy => ?_⟩
      obtain ⟨r2, h1, t', rfl, h2⟩ := hY2.at_ i2 y hy
      exact ⟨r2, h1, t', rfl, by rw [upd_ne (ne_of h2 hz4 (by intro y; cases y))]; exact h2⟩
  · rintro σ H2 ⟨ys, u1, u2, u3, rfl, e, hz2, hY⟩
    have hf : rows.take xs.length = rows := by rw [hR.len, List.take_length]
    rw [hf] at hY
    have ht := ok.tt
    have hyl := hY.len
    rw [allBits_len] at hyl
    refine ⟨_, rfl, _, rfl, _, _, rfl, p, z, ys, rfl, rfl, hzp, hp.ex e, hz2, by omega, fun q H3 ws hperm hq e3 hp3 hqv => ?_⟩
    have hqp : q ≠ p := fun y => by obtain ⟨_, _, w⟩ := hp.ex e; rw [y, w] at hq; cases hq
    refine ⟨_, rfl, q, ws, rfl, .of hqv, fun q2 hq2 => ?_⟩
    have hc : cutV ws none (some (2 : Int)) = ws.take 2 := by
      unfold cutV
      rw [HT.sIx_none, show (2 : Int) = ((2 : Nat) : Int) from rfl, HT.sIx_nat, List.drop_zero, Nat.sub_zero]
      rcases Nat.le_total 2 ws.length with y | y
      · rw [Nat.min_eq_left y]
      · rw [Nat.min_eq_right y, List.take_of_length_le (Nat.le_refl _), List.take_of_length_le y]
    have e03 : Fp p H H3 := (Fp.of e).trans e3
    have hq2p : q2 ≠ p := fun y => by obtain ⟨_, _, w⟩ := hp3; rw [y, w] at hq2; cases hq2
    obtain ⟨bs, hB, hpb⟩ := RowsV.perm hperm (hY.fp (hp.ex e) e3)
    refine h q2 _ ws bs (e03.free hq2p hq2) (e03.trans (Fp.of (Ex.new hq2))) (hp3.ex (Ex.new hq2)) hpb (by rw [upd_same, hc]) (hB.ex (Ex.new hq2))
end
end My
/-! *** W21 -/
namespace My
open PySem PySem.Spec PyProof.Rows L2 He LamX
local macro_rules | `(tactic| walk_at "go") => `(tactic| repeat (first | refine And.intro rfl ?_ | refine iteT ?_ | refine iteF ?_ | refine iteNS (by assumption) ?_ | apply Exists.intro | refine And.intro (by assumption) ?_))
/-- a lambda of one parameter, told in the def X -/
structure LamIn (X : Cx) (params : Arguments) (body : Expr) (scope : Scope) (a : Str) (k : Nat) (tb : TE) : Prop where
  lam : Lam1 X.env.scope scope a
  na : a ∉ X.N
  bind : ∀ (pm : Value) (c' : Addr) (ctv u : Value), bindArgs (PySem.W.kla_fn "<lambda>" (X.env.qual ++ "<lambda>") params body scope (cloFrom X.env.cells scope.names []) pm (.ref c') ctv) ⟨[u], []⟩ = pure [(a, u)]
  body : ∀ (A : Around) (outer : List Env) (s : Shared) (H : Hp) (f c' : Addr), Room k (A.deeper (lamEnv X scope s.heap.objs.size f c')) → PE (lamCx1 X a A outer s H scope f c') body tb
/-- the places told anew, by a lambda back at f -/
def spRedone (X : Cx) (params : Arguments) (body : Expr) (scope : Scope) (tb : TE) : L2.St → List V → Hp → VK → Prop := fun σ vs H Q =>
  ∃ (t rl cl nl f c' : Addr) (xs ys : List V) (cells : List Nat) (rows rows' : List Row) (pm ctv : Value) (back : Nat → Nat), vs = [.ref t, .ref nl, .ref f] ∧ H t = some (.tup [.ref rl, .ref cl]) ∧ Sq H rl xs ∧ RowsV H xs rows ∧ RowsOk rows ∧
    H cl = some (.lst (vL cells)) ∧ Sq H nl ys ∧ RowsV H ys rows' ∧ RowsOk rows' ∧ H f = some (LamO f (lamObj X params body scope pm c' ctv)) ∧ H c' = some (CodeO c' (X.env.qual ++ "<lambda>")) ∧
    (∀ p, p < 2 ^ tot rows' → back p < cells.length) ∧ cells.length ≤ 1000 ∧ tot rows' ≤ 9 ∧
    (∀ (p : Nat) (d : Addr) (H1 : Hp) (QQ : VK), p < 2 ^ tot rows' → Ex H H1 → H1 d = some (.dK (dkv (idxR rows' p))) →
      (∀ (d2 : Addr) (kvs : List (Key × V)) (ix : Str → Nat) (H2 : Hp), Ex H1 H2 → IxD H2 d2 kvs rows ix → (∀ r ∈ rows, ix r.1 < 2 ^ 60) → packR rows ix = back p → QQ (.ref d2) H2) → tb (some (.ref d) :: σ) H1 QQ) ∧
    ∀ (q c : Addr) (H' : Hp), H q = none → Ex H H' → H' q = some (.tup [.ref nl, .ref c]) → H c = none → H' c = some (.lst (vL ((List.range (2 ^ tot rows')).map fun p => (cells[back p]?).getD 0))) → Q (.ref q) H'
theorem sc_law_redone : FnScope ["_law_old", "_law_rows", "_law_back", "_law_cells", "_law_place_here"] ["_law_old", "_law_rows", "_law_back"] (defScope s_law_redone) := C8.fnScope_by (by decide +kernel)
section
variable {X : Cx} {j k : Nat}
theorem pe_redone {params : Arguments} {body : Expr} {scope : Scope} {a : Str} {tb : TE} {e : Expr} {es : List Expr} {t : TA} {p pos : Pos} (T : Tx X.K X.mg) (LI : LamIn X params body scope a 2 tb) (hr : Room j X.A) (hk : 4 ≤ j) (hg : Gl X "_law_redone") (ha : PA X (e :: es) t)
    (he : starEach (e :: es) X.env = (false, eval e X.env) :: starEach es X.env := by rfl) (hpl : (backTo pos (starEach es X.env)).any (·.1) = false := by rfl) :
    PE X (.Call (.Name "_law_redone" p) (e :: es) [] pos) (fun σ H Q => t σ H fun vs H1 => vs.length = 3 ∧ spRedone X params body scope tb σ vs H1 Q) := by
  refine pe_gives (k := 3) (ps := ["_law_old", "_law_rows", "_law_back"]) T.d_law_redone T.g_law_redone sc_law_redone (by intro _ _ _ _ _ _ us hl; match us, hl with | [_, _, _], _ => rfl) hr hk hg ha ?_ (he := he) (hpl := hpl)
  intro pins s σ H cdv vs Q I hr ⟨t, rl, cl, nl, f, c', xs, ys, cells, rows, rows', pm, ctv, back, hvs, ht, hrl, hR, ok, hcl, hnl, hR', ok', hf, hc', hb, hcn, htt, hlam, h⟩
  subst hvs
  refine ⟨_, (pss_cons (ps_set (i := 3) sc_law_redone.nd rfl (Or.inl rfl) (pe_lst pa_nil)) (pss_cons (ps_for PassesOwn.never rfl (pi_range1 (by rfl) T.b_range (pa_cons (pe_op op_shl pe_int (C8.pe_c (c_law_total T) hr (by decide) (by rfl) (pa_cons (pv 1) pa_nil))) pa_nil)) (pg_name (i := 4) sc_law_redone.nd rfl (Or.inl rfl)) (pss_one (ps_expr (pe_bm PySem.F.plainAttrs_list PySem.F.slot_list_append PySem.F.type_list_append mt_append (pv 3) (pa_cons (pe_ix ix_list (pe_ix ix_tup (pv 0) pe_int (fun _ _ => rfl)) (C8.pe_c (c_law_place T) hr (by decide) (by rfl) (pa_cons (pe_ix ix_tup (pv 0) pe_int (fun _ _ => rfl)) (pa_cons (pe_act1 (i := 2) I LI.lam LI.na (LI.bind pm c' ctv) hr (fun A outer s H hr => LI.body A outer s H f c' hr) (C8.pe_c (c_law_indexes T) hr (by decide) (by rfl) (pa_cons (pv 1) (pa_cons (pv 4) pa_nil))) rfl (Or.inl (by rfl))) pa_nil))) (fun _ _ => rfl)) pa_nil))))) (pss_one (ps_ret (pe_tup (pa_cons (pv 1) (pa_cons (pv 3) pa_nil))))))), ?_⟩
  refine ⟨Nat.zero_le _, fun l hl => ?_⟩
  have e1 : Ex H (upd H l (.lst [])) := Ex.new hl
  have hl1 : upd H l (.lst []) l = some (.lst (vL [])) := upd_same
  generalize upd H l (.lst []) = H1 at e1 hl1 ⊢
  have h1p : (1 : Int) * 2 ^ ((tot rows' : Int).toNat) = ((2 ^ tot rows' : Nat) : Int) := two_shl _
  have h9 : 2 ^ tot rows' ≤ 512 := Nat.pow_le_pow_right (by decide : 2 > 0) (by omega : tot rows' ≤ 9)
  refine ⟨_, rfl, _, rfl, nl, ys, rows', rfl, hnl.ex e1, hR'.ex e1, ok'.ln, fun H2 e2 => ?_⟩
  refine ⟨_, _, rfl, rfl, cpow (n := tot rows') (by omega), ?_⟩
  refine ⟨_, rfl, by rw [h1p]; exact Int.le_trans (by decide) (Int.natCast_nonneg _), by rw [h1p]; exact Int.lt_of_le_of_lt (Int.ofNat_le.mpr h9) (by decide), ?_⟩
  rw [h1p, Int.toNat_natCast]
  refine for_range (fun i σ' H' => ∃ x, σ' = [some (.ref t), some (.ref nl), some (.ref f), some (.ref l), x] ∧ Ex H H' ∧ H' l = some (.lst (vL ((List.range i).map fun p => (cells[back p]?).getD 0))))
    ⟨_, rfl, Same.trans e1 e2, e2 _ _ hl1⟩ ?_ ?_
  · rintro i σ' H3 hi ⟨x, rfl, e3, hl3⟩
    rw [show (0 : Int) + (i : Int) = ((i : Nat) : Int) by omega]
    refine ⟨_, rfl, .inl ⟨rfl, _, .of hl3⟩, ?_⟩
    refine ⟨_, rfl, t, _, 1, _, rfl, rfl, .of (e3 _ _ ht), rfl, ?_⟩
    refine ⟨_, rfl, t, _, 0, _, rfl, rfl, .of (e3 _ _ ht), rfl, ?_⟩
    refine ⟨rfl, e3 _ _ hf, ?_⟩
    refine ⟨_, rfl, _, rfl, _, _, rfl, nl, ys, rows', i, rfl, rfl, hnl.ex e3, hR'.ex e3, ok', fun d H4 hd e4 hd4 => ?_⟩
    have e04 : Ex H H4 := Same.trans e3 e4
    refine ⟨rfl, e04 _ _ hf, e04 _ _ hc', hlam i d H4 _ hi e04 hd4 fun d2 kvs ix H5 e5 hix hib hpk => ?_⟩
    have e05 : Ex H H5 := Same.trans e04 e5
    refine ⟨_, _, rfl, rl, d2, xs, rows, kvs, ix, rfl, rfl, hrl.ex e05, hR.ex e05, ok, hix, hib, fun H6 e6 => ?_⟩
    have e06 : Ex H H6 := Same.trans e05 e6
    have hbk := hb i hi
    have hx : cells[back i]? = some cells[back i] := List.getElem?_eq_getElem hbk
    have hix' : atI (vL cells) ((packR rows ix : Nat) : Int) = some (vN cells[back i]) := by
      rw [hpk]; exact atI_nat (by rw [List.getElem?_map, hx]; rfl)
    refine ⟨cl, _, _, _, rfl, rfl, .of (e06 _ _ hcl), hix', ?_⟩
    have hl6 := (Same.trans e4 (Same.trans e5 e6)) _ _ hl3
    refine ⟨l, _, _, rfl, rfl, hl6, ?_, some (vN i), rfl, ?_, ?_⟩
    · rw [List.length_map, List.length_map, List.length_range]
      exact Nat.lt_of_le_of_lt (by omega : i ≤ 512) (by decide)
    · exact Ex.mut e06 hl
    · rw [upd_same, List.range_succ, List.map_append]
      unfold vL
      rw [List.map_append]
      show _ = some (HO.lst (_ ++ [vN ((cells[back i]?).getD 0)]))
      rw [hx]; rfl
  · rintro σ' H3 ⟨x, rfl, e3, hl3⟩
    refine ⟨_, rfl, _, rfl, by show 2 ≤ sizeLine; decide, fun q hq => ?_⟩
    refine h q l _ ?_ (Same.trans e3 (Ex.new hq)) upd_same hl ?_
    · exact Same.free e3 hq
    · rw [upd_ne (ne_of_none hl3 hq)]; exact hl3
end
end My
/-! *** W22 -/
namespace My
open PySem PySem.Spec PyProof.Rows L2 He
/-! ### places packed: plain mathematics -/
theorem low_cons (r : Row) (rows : List Row) (j : Nat) : low (r :: rows) (j + 1) = r.2 + low rows j := by
  unfold low; rw [List.take_succ_cons, tot_cons]
theorem packR_of {ix : Str → Nat} : ∀ (rows : List Row) (q : Nat), (∀ (j : Nat) (r : Row), rows[j]? = some r → ix r.1 = (q >>> low rows j) % 2 ^ r.2) → packR rows ix = q % 2 ^ tot rows
  | [], q, _ => by simp [packR, tot, Nat.mod_one]
  | r :: rows, q, h => by
    have h0 : ix r.1 = q % 2 ^ r.2 := by simpa [low, tot] using h 0 r rfl
    have ih := packR_of rows (q >>> r.2) (fun j x hx => by
      have := h (j + 1) x (by simpa using hx)
      rw [low_cons, Nat.shiftRight_add] at this; exact this)
    rw [packR, ih, h0, tot_cons, Nat.shiftLeft_eq, Nat.pow_add, Nat.shiftRight_eq_div_pow, Nat.mod_mul, Nat.mul_comm (2 ^ r.2)]
theorem packR_app (A B : List Row) (ix : Str → Nat) : packR (A ++ B) ix = packR A ix + packR B ix <<< tot A := by
  induction A with
  | nil => simp [packR, tot]
  | cons x A ih =>
    rw [List.cons_append, packR, packR, ih, tot_cons]
    simp only [Nat.shiftLeft_eq]
    rw [Nat.add_mul, Nat.add_assoc, Nat.mul_assoc, ← Nat.pow_add, Nat.add_comm x.2]
def seg (a s b q x : Nat) : Nat := q % 2 ^ a + x <<< a + (q >>> b) <<< (a + s)
theorem packR_seg {A B : List Row} {r : Row} {ix : Str → Nat} {b q : Nat} (hA : ∀ (j : Nat) (x : Row), A[j]? = some x → ix x.1 = (q >>> low A j) % 2 ^ x.2) (hB : ∀ (j : Nat) (x : Row), B[j]? = some x → ix x.1 = (q >>> (b + low B j)) % 2 ^ x.2)
    (hq : q >>> b < 2 ^ tot B) : packR (A ++ r :: B) ix = seg (tot A) r.2 b q (ix r.1) := by
  rw [packR_app, packR, packR_of A q hA, packR_of B (q >>> b) (fun j x hx => by rw [← Nat.shiftRight_add]; exact hB j x hx), Nat.mod_eq_of_lt hq]
  unfold seg
  simp only [Nat.shiftLeft_eq]
  rw [Nat.add_mul, ← Nat.add_assoc, Nat.mul_assoc, ← Nat.pow_add, Nat.add_comm r.2]
theorem seg_bit {a s b q x : Nat} (hx : x < 2 ^ s) (m : Nat) : (seg a s b q x).testBit m = if m < a then q.testBit m else if m < a + s then x.testBit (m - a) else q.testBit (b + (m - (a + s))) := by
  unfold seg
  have h1 : q % 2 ^ a < 2 ^ a := Nat.mod_lt _ (Nat.two_pow_pos a)
  have h2 : x <<< a + q % 2 ^ a < 2 ^ (a + s) := by
    rw [Nat.shiftLeft_eq, Nat.pow_add]
    have : (x + 1) * 2 ^ a ≤ 2 ^ s * 2 ^ a := Nat.mul_le_mul_right _ hx
    rw [Nat.add_mul, Nat.mul_comm (2 ^ s)] at this
    omega
  rw [Nat.add_comm (q % 2 ^ a), Nat.add_comm, Nat.shiftLeft_add_eq_or_of_lt h2, Nat.shiftLeft_add_eq_or_of_lt h1]
  simp only [Nat.testBit_or, Nat.testBit_shiftLeft, Nat.testBit_shiftRight, Nat.testBit_mod_two_pow]
  by_cases c1 : m < a
  · rw [if_pos c1]; simp [c1, show ¬ (a ≤ m) by omega, show ¬ (a + s ≤ m) by omega]
  · rw [if_neg c1]
    by_cases c2 : m < a + s
    · rw [if_pos c2]; simp [c1, show a ≤ m by omega, show ¬ (a + s ≤ m) by omega]
    · rw [if_neg c2]
      have hz : x.testBit (m - a) = false := Nat.testBit_lt_two_pow (Nat.lt_of_lt_of_le hx (Nat.pow_le_pow_right (by decide) (by omega)))
      simp [c1, show a ≤ m by omega, show a + s ≤ m by omega, hz]
theorem cmb_app (A B : List Nat) (q : Nat) : cmb (A ++ B) q = cmb A q ^^^ cmb B (q >>> A.length) := by
  induction A generalizing q with
  | nil => simp [cmb]
  | cons x A ih =>
    rw [List.cons_append]
    show (if q.testBit 0 then x else 0) ^^^ cmb (A ++ B) (q / 2) = ((if q.testBit 0 then x else 0) ^^^ cmb A (q / 2)) ^^^ _
    rw [ih, Nat.xor_assoc, List.length_cons, Nat.add_comm A.length 1, Nat.shiftRight_add]; rfl
theorem cmb_pows (c t q : Nat) : cmb ((List.range t).map fun k => 2 ^ (c + k)) q = (q % 2 ^ t) <<< c := by
  induction t with
  | zero => simp [cmb, Nat.mod_one]
  | succ t ih =>
    rw [List.range_succ, List.map_append]
    show cmb (_ ++ [2 ^ (c + t)]) q = _
    rw [cmb_snoc, ih, List.length_map, List.length_range]
    apply Nat.eq_of_testBit_eq
    intro m
    rw [Nat.testBit_xor, Nat.testBit_shiftLeft, Nat.testBit_shiftLeft, Nat.testBit_mod_two_pow, Nat.testBit_mod_two_pow]
    by_cases h1 : m < c
    · have h0 : Nat.testBit (if q.testBit t = true then 2 ^ (c + t) else 0) m = false := by
        split
        · rw [Nat.testBit_two_pow]; simp; omega
        · simp
      simp [show ¬ c ≤ m by omega, h0]
    · by_cases h2 : m = c + t
      · subst h2
        rcases Bool.eq_false_or_eq_true (q.testBit t) with e | e <;> simp [e, Nat.testBit_two_pow]
      · have h0 : Nat.testBit (if q.testBit t = true then 2 ^ (c + t) else 0) m = false := by
          split
          · rw [Nat.testBit_two_pow]; simp; omega
          · simp
        rw [h0, Bool.xor_false]
        congr 2
        have : (m - c < t) ↔ (m - c < t + 1) := by omega
        simp [this]
theorem cmb_units (n q : Nat) : cmb (units n) q = q % 2 ^ n := by
  have := cmb_pows 0 n q
  simpa using this
theorem cmb_zeros (v q : Nat) : cmb (List.replicate v 0) q = 0 := by
  induction v generalizing q with
  | zero => rfl
  | succ v ih =>
    rw [List.replicate_succ]
    show (if q.testBit 0 then 0 else 0) ^^^ cmb (List.replicate v 0) (q / 2) = 0
    rw [ih]; simp
theorem cmb_set (L : List Nat) (a x q : Nat) (y : Nat) (h : L[a]? = some y) : cmb (L.set a x) q = cmb L q ^^^ (if q.testBit a then y ^^^ x else 0) := by
  induction L generalizing a q with
  | nil => simp at h
  | cons z L ih =>
    cases a with
    | zero =>
      have : z = y := by simpa using h
      subst this
      show (if q.testBit 0 then x else 0) ^^^ cmb L (q / 2) = ((if q.testBit 0 then z else 0) ^^^ cmb L (q / 2)) ^^^ _
      generalize cmb L (q / 2) = c
      split
      · rw [Nat.xor_comm z c, Nat.xor_assoc, ← Nat.xor_assoc z z, Nat.xor_self, Nat.zero_xor, Nat.xor_comm]
      · simp
    | succ a =>
      show (if q.testBit 0 then z else 0) ^^^ cmb (L.set a x) (q / 2) = ((if q.testBit 0 then z else 0) ^^^ cmb L (q / 2)) ^^^ _
      rw [ih a (q / 2) (by simpa using h), Nat.xor_assoc, Nat.testBit_div_two]
theorem cmb_mix {n a b q : Nat} (ha : a < n) (hab : a ≠ b) : cmb (mixCols n a b) q = q % 2 ^ n ^^^ (if q.testBit a then 2 ^ b else 0) := by
  have hy : (units n)[a]? = some (2 ^ a) := by
    rw [List.getElem?_map, List.getElem?_range ha]; rfl
  rw [show mixCols n a b = (units n).set a (2 ^ a ||| 2 ^ b) from rfl, cmb_set _ _ _ _ _ hy, cmb_units]
  congr 2
  apply Nat.eq_of_testBit_eq
  intro m
  simp only [Nat.testBit_xor, Nat.testBit_or, Nat.testBit_two_pow]
  by_cases h1 : a = m <;> by_cases h2 : b = m <;> simp [h1, h2]
  omega
theorem cmb_rest {n a s q : Nat} (hn : a + s ≤ n) (hq : q < 2 ^ (n - s)) (v : Nat) (hv : v < 2 ^ s) : cmb ((restIx n a s).map (2 ^ ·)) q ^^^ v <<< a = seg a s a q v := by
  rw [List.map_append, cmb_app, List.map_map, List.length_map, List.length_range]
  have e2 : cmb ((List.range (n - a - s)).map ((2 ^ ·) ∘ (a + s + ·))) (q >>> a) = (q >>> a) <<< (a + s) := by
    have := cmb_pows (a + s) (n - a - s) (q >>> a)
    rw [Nat.mod_eq_of_lt (a := q >>> a)] at this
    · exact this
    · rw [Nat.shiftRight_eq_div_pow]
      apply Nat.div_lt_of_lt_mul
      rw [← Nat.pow_add]
      have : a + (n - a - s) = n - s := by omega
      rw [this]; exact hq
  rw [e2, show (List.range a).map (2 ^ ·) = units a from rfl, cmb_units]
  apply Nat.eq_of_testBit_eq
  intro m
  rw [seg_bit hv]
  simp only [Nat.testBit_xor, Nat.testBit_shiftLeft, Nat.testBit_shiftRight, Nat.testBit_mod_two_pow]
  by_cases c1 : m < a
  · rw [if_pos c1]; simp [c1, show ¬ (a ≤ m) by omega, show ¬ (a + s ≤ m) by omega]
  · rw [if_neg c1]
    by_cases c2 : m < a + s
    · rw [if_pos c2]; simp [c1, show a ≤ m by omega, show ¬ (a + s ≤ m) by omega]
    · rw [if_neg c2]
      have hz : v.testBit (m - a) = false := Nat.testBit_lt_two_pow (Nat.lt_of_lt_of_le hv (Nat.pow_le_pow_right (by decide) (by omega)))
      simp [c1, show a ≤ m by omega, show a + s ≤ m by omega, hz]
theorem seg_flip {a s q v : Nat} (hv : v < 2 ^ s) : seg a s (a + s) q ((q >>> a) % 2 ^ s ^^^ v) = q ^^^ v <<< a := by
  have hx : (q >>> a) % 2 ^ s ^^^ v < 2 ^ s := Nat.xor_lt_two_pow (Nat.mod_lt _ (Nat.two_pow_pos s)) hv
  apply Nat.eq_of_testBit_eq
  intro m
  rw [seg_bit hx]
  simp only [Nat.testBit_xor, Nat.testBit_shiftLeft, Nat.testBit_shiftRight, Nat.testBit_mod_two_pow]
  by_cases c1 : m < a
  · rw [if_pos c1]; simp [show ¬ (a ≤ m) by omega]
  · rw [if_neg c1]
    by_cases c2 : m < a + s
    · rw [if_pos c2]; simp [show a ≤ m by omega, show m - a < s by omega]
    · rw [if_neg c2]
      have hz : v.testBit (m - a) = false := Nat.testBit_lt_two_pow (Nat.lt_of_lt_of_le hv (Nat.pow_le_pow_right (by decide) (by omega)))
      rw [show a + s + (m - (a + s)) = m by omega]
      simp [hz]
theorem seg_cut {a s k q v : Nat} (hk : k < s) (hv : v < 2) : seg a s (a + (s - 1)) q ((((q >>> a) % 2 ^ (s - 1)) >>> k * 2 + v) <<< k ||| ((q >>> a) % 2 ^ (s - 1)) % 2 ^ k) = seg (a + k) 1 (a + k) q v := by
  have hb : ∀ m, ((((q >>> a) % 2 ^ (s - 1)) >>> k * 2 + v) <<< k ||| ((q >>> a) % 2 ^ (s - 1)) % 2 ^ k).testBit m = if m < k then q.testBit (a + m) else if m = k then v.testBit 0 else if m < s then q.testBit (a + (m - 1)) else false := by
    intro m
    have e : ((q >>> a) % 2 ^ (s - 1)) >>> k * 2 + v = (((q >>> a) % 2 ^ (s - 1)) >>> k) <<< 1 ||| v := by
      rw [← Nat.shiftLeft_add_eq_or_of_lt (by simpa using hv), Nat.shiftLeft_eq, Nat.pow_one]
    rw [e]
    simp only [Nat.testBit_or, Nat.testBit_shiftLeft, Nat.testBit_shiftRight, Nat.testBit_mod_two_pow]
    by_cases c1 : m < k
    · rw [if_pos c1]; simp [c1, show ¬ (k ≤ m) by omega, show m < s - 1 by omega]
    · rw [if_neg c1]
      by_cases c2 : m = k
      · rw [if_pos c2, c2]; simp
      · rw [if_neg c2]
        have hz : v.testBit (m - k) = false := Nat.testBit_lt_two_pow (Nat.lt_of_lt_of_le hv (Nat.pow_le_pow_right (n := 2) (i := 1) (by decide) (by omega)))
        rw [hz]
        by_cases c3 : m < s
        · rw [if_pos c3]
          simp [c1, show k ≤ m by omega, show 1 ≤ m - k by omega, show k + (m - k - 1) = m - 1 by omega, show m - 1 < s - 1 by omega]
        · rw [if_neg c3]
          simp [c1, show k ≤ m by omega, show 1 ≤ m - k by omega, show k + (m - k - 1) = m - 1 by omega, show ¬ (m - 1 < s - 1) by omega]
  have hx : ((((q >>> a) % 2 ^ (s - 1)) >>> k * 2 + v) <<< k ||| ((q >>> a) % 2 ^ (s - 1)) % 2 ^ k) < 2 ^ s := by
    apply Nat.lt_pow_two_of_testBit
    intro m hm
    rw [hb, if_neg (by omega), if_neg (by omega), if_neg (by omega)]
  apply Nat.eq_of_testBit_eq
  intro m
  rw [seg_bit hx, seg_bit (by simpa using hv), hb]
  by_cases c1 : m < a
  · rw [if_pos c1, if_pos (by omega)]
  · rw [if_neg c1]
    by_cases c2 : m < a + k
    · rw [if_pos (by omega), if_pos (by omega), if_pos c2, show a + (m - a) = m by omega]
    · rw [if_neg c2]
      by_cases c3 : m = a + k
      · rw [if_pos (by omega), if_neg (by omega), if_pos (by omega), if_pos (by omega), show m - (a + k) = 0 by omega]
      · rw [if_neg (show ¬ m < a + k + 1 by omega)]
        by_cases c4 : m < a + s
        · rw [if_pos c4, if_neg (by omega), if_neg (by omega), if_pos (by omega)]
          congr 1; omega
        · rw [if_neg c4]
          congr 1; omega
end My
/-! *** W23 -/
namespace My
open PySem PySem.Spec PyProof.Rows L2 He LamX
local macro_rules | `(tactic| walk_at "lk") => `(tactic| (repeat (first | exact lk1 | exact lk0 | refine (lk2 (by decide +kernel)).trans ?_)))
local macro_rules | `(tactic| walk_at "go") => `(tactic| repeat (first | refine And.intro rfl ?_ | refine iteT ?_ | refine iteF ?_ | refine iteNS (by assumption) ?_ | apply Exists.intro | refine And.intro (by assumption) ?_))
/-! ### the five defs that make a lambda -/
abbrev five : List Str := ["_law_flipped", "_law_stirred", "_law_fixed", "_law_cut", "_law_repeated"]
/-- their code objects and the tables of these -/
structure TbF (K : PySem.W.Frag) (mg : Str → Option Value) (base : Heap) (tf : Str → Addr × Addr) : Prop where
  code : ∀ x ∈ five, ∃ (oc : Value) (od : Option Addr) (fd : FuncData) (osl : Array (Option Value)), K.lookup (ga K x) = some ⟨oc, od, .func fd, osl⟩ ∧ fd.code = .ref (tf x).1
  tb : ∀ x ∈ five, TabB base mg (tf x).1 (tf x).2
  nd : ∀ x ∈ five, ∀ y ∈ five, (tf x).2 = (tf y).2 → x = y
abbrev lamQ (x : Str) : Str := (x ++ ".<locals>.") ++ "<lambda>"
def tbl5 (tf : Str → Addr × Addr) : List (Addr × Str) := five.map fun x => ((tf x).2, lamQ x)
theorem tbl5_mem {tf : Str → Addr × Addr} {x : Str} (h : x ∈ five) : ((tf x).2, lamQ x) ∈ tbl5 tf := List.mem_map.mpr ⟨x, h, rfl⟩
theorem TbF.un {K : PySem.W.Frag} {mg : Str → Option Value} {base : Heap} {tf : Str → Addr × Addr} (B : TbF K mg base tf) {x : Str} (h : x ∈ five) : ∀ p ∈ tbl5 tf, p.1 = (tf x).2 → p.2 = lamQ x := fun p hp e => by
  obtain ⟨y, hy, rfl⟩ := List.mem_map.mp hp
  rw [B.nd y hy x h e]
theorem tabs_fp {T : List (Addr × Str)} {p : Addr} {H H' : Hp} (hp : PotAt H p) (e : Fp p H H') (t : Tabs T H) : Tabs T H' := fun q hq => by
  obtain ⟨ps, h1, h2, h3⟩ := t q hq
  refine ⟨ps, e _ _ (pot_ne hp h1 fun xs z => by cases z) h1, h2, fun pos cv hc => ?_⟩
  obtain ⟨c, e1, e2⟩ := h3 pos cv hc
  exact ⟨c, e1, e _ _ (pot_ne hp e2 fun xs z => by unfold CodeO at z; cases z) e2⟩
/-- a lambda's object stands, as all but the tables does -/
theorem codeO_lst {c : Addr} {q : Str} : ∀ xs, CodeO c q ≠ .lst xs := fun xs z => by unfold CodeO at z; cases z
theorem lamO_lst {c : Addr} {o : Obj} : ∀ xs, LamO c o ≠ .lst xs := fun xs z => by unfold LamO at z; cases z
/-- H without the pot -/
def hid (H : Hp) (p : Addr) : Hp := fun b => if b = p then none else H b
theorem hid_ne {H : Hp} {p b : Addr} {o : HO} (h : hid H p b = some o) : b ≠ p := fun z => by unfold hid at h; rw [if_pos z] at h; cases h
theorem hid_at {H : Hp} {p b : Addr} (h : b ≠ p) : hid H p b = H b := by unfold hid; rw [if_neg h]
theorem hid_ex (H : Hp) (p : Addr) : Ex (hid H p) H := fun b o h => by
  have z := hid_ne h
  rw [hid_at z] at h
  exact h
theorem hid_some {H : Hp} {p b : Addr} {o : HO} (h : H b = some o) (n : b ≠ p) : hid H p b = some o := by rw [hid_at n]; exact h
theorem hid_upd (H : Hp) (p : Addr) (o : HO) : hid (upd H p o) p = hid H p := by
  funext b
  by_cases z : b = p
  · subst z; unfold hid; rw [if_pos rfl, if_pos rfl]
  · rw [hid_at z, hid_at z, upd_ne z]
theorem Fp.hid {p : Addr} {H H' : Hp} (e : Fp p H H') : Ex (hid H p) (hid H' p) := fun b o h => hid_some (e b o (hid_ne h) (hid_ex H p b o h)) (hid_ne h)
theorem Fn.ofN {p : Addr} {H H' : Hp} (e : ExtN H H') : Fn p H H' := fun b o _ h q => e b o h q
theorem Fn.hid {p : Addr} {H H' : Hp} (e : Fn p H H') : ExtN (hid H p) (hid H' p) := fun b o h n => hid_some (e b o (hid_ne h) (hid_ex H p b o h) n) (hid_ne h)
theorem Ex.hid {H H' : Hp} (e : Ex H H') (p : Addr) : Ex (hid H p) (hid H' p) := fun b o h => hid_some (e b o (hid_ex H p b o h)) (hid_ne h)
theorem hid_frz {H : Hp} {p b : Addr} {od : Obj} {u o : HO} (hf : H p = some (.frz od u)) (h : H b = some o) (n : ∀ od u, o ≠ .frz od u) : hid H p b = some o := hid_some h fun z => by
  rw [z, hf] at h; exact n _ _ (Option.some.inj h).symm
theorem RowsV.frz {H : Hp} {p : Addr} {od : Obj} {u : HO} (hf : H p = some (.frz od u)) {xs : List V} {rows : List Row} (h : RowsV H xs rows) : RowsV (hid H p) xs rows :=
  ⟨h.len, fun i x hx => let ⟨r, a, t, b, c⟩ := h.at_ i x hx; ⟨r, a, t, b, hid_frz hf c (fun _ _ z => by cases z)⟩⟩
/-- what is seen with the pot locked is seen without it -/
theorem LayoutAt.frz {K : PySem.W.Frag} {H : Hp} {p : Addr} {od : Obj} {u : HO} (hf : H p = some (.frz od u)) {l : Addr} {rows : List Row} {cols : List Nat} {k off : Nat} (h : LayoutAt K H l rows cols k off) : LayoutAt K (hid H p) l rows cols k off := by
  obtain ⟨ok, dx, a, m, h1, ⟨xs, h2, h3⟩, ⟨mo, dm, lc, h4, h5⟩⟩ := h
  exact ⟨ok, dx, a, m, hid_frz hf h1 (fun _ _ z => by cases z), ⟨xs, hid_frz hf h2 (fun _ _ z => by cases z), h3.frz hf⟩, ⟨mo, dm, lc, hid_frz hf h4 (fun _ _ z => by cases z), hid_frz hf h5 (fun _ _ z => by cases z)⟩⟩
theorem RowsV.exN {H H' : Hp} (e : ExtN H H') {xs : List V} {rows : List Row} (h : RowsV H xs rows) : RowsV H' xs rows :=
  ⟨h.len, fun i x hx => let ⟨r, a, t, b, c⟩ := h.at_ i x hx; ⟨r, a, t, b, e _ _ c (fun _ z => by cases z)⟩⟩
theorem LayoutAt.exN {K : PySem.W.Frag} {H H' : Hp} (e : ExtN H H') {l : Addr} {rows : List Row} {cols : List Nat} {k off : Nat} (h : LayoutAt K H l rows cols k off) : LayoutAt K H' l rows cols k off := by
  obtain ⟨ok, dx, a, m, h1, ⟨xs, h2, h3⟩, ⟨mo, dm, lc, h4, h5⟩⟩ := h
  exact ⟨ok, dx, a, m, e _ _ h1 (fun _ z => by cases z), ⟨xs, e _ _ h2 (fun _ z => by cases z), h3.exN e⟩, ⟨mo, dm, lc, e _ _ h4 (fun _ z => by cases z), e _ _ h5 (fun _ z => by cases z)⟩⟩
/-- the model: rows and cells -/
def OldAt (H : Hp) (t : Addr) (rows : List Row) (cells : List Nat) : Prop := ∃ (rl cl : Addr) (xs : List V), H t = some (.tup [.ref rl, .ref cl]) ∧ H rl = some (.lst xs) ∧ RowsV H xs rows ∧ H cl = some (.lst (vL cells))
theorem OldAt.exN {H H' : Hp} (e : ExtN H H') {t : Addr} {rows : List Row} {cells : List Nat} (h : OldAt H t rows cells) : OldAt H' t rows cells := by
  obtain ⟨rl, cl, xs, h1, h2, h3, h4⟩ := h
  exact ⟨rl, cl, xs, e _ _ h1 (fun _ z => by cases z), e _ _ h2 (fun _ z => by cases z), h3.exN e, e _ _ h4 (fun _ z => by cases z)⟩
section
variable {P : Program} {w : World} {K : PySem.W.Frag} {mg : Str → Option Value} {base : Heap} {tf : Str → Addr × Addr}
/-- a def that makes a lambda, by its body: its code object is known -/
theorem cal_ofC {x : Str} {st : Stmt} {N ps : List Str} {k : Nat} {sp : Sp} (D : DefF K x x st (ga K x)) (g : mg x = some (.ref (ga K x))) (B : TbF K mg base tf) (h5 : x ∈ five) (S : FnScope N ps (defScope st))
    (hb : ∀ (kV doc pm : Value) (an : Option Addr) (cdv ct : Value) (us : List Value), us.length = ps.length → bindArgs (PySem.W.fnOf x x (defArgs st) (defBody st) (defScope st) .none kV doc pm an cdv ct) ⟨us, []⟩ = pure (ps.zip us))
    (len : ∀ vs H Q E, sp vs H Q E → vs.length = ps.length)
    (hbody : ∀ (A : Around) (outer : List Env) (s : Shared) (H : Hp) (vs : List V) (Q : VK) (E : XK), Room k (A.deeper (envOfC x (defScope st) s.heap.objs.size (ga K x) (.ref (tf x).1))) → sp vs H Q E →
      ∃ t, PSs (cxOf C8.CX0 P w K mg base N x (defScope st) (ga K x) (.ref (tf x).1) A outer s H E).nox (defBody st) t ∧ t { nx := fun _ H' => Q .non H', rt := Q } (start N vs) H) : C8.Cal P w K mg base (k + 1) x sp [] := by
  obtain ⟨fd, F⟩ := D
  have hbn := F.bindsN hb
  have hkp := F.kp
  obtain ⟨oc, od, dV, kV, doc, pm, an, cdv, ct, osl, rfl, lk, hcd, _, _⟩ := F.ex
  obtain ⟨oc2, od2, fd2, osl2, lk2, hc2⟩ := B.code x h5
  have ec : cdv = .ref (tf x).1 := by
    rw [lk2] at lk
    injection lk with lk
    injection lk with _ _ lk _
    injection lk with lk
    rw [← hc2, lk]
  subst ec
  refine ⟨ga K x, _, ps, [], fn_of lk hcd S len fun A outer s H vs Q E hr h => ?_, g, hkp, hbn, .nil⟩
  obtain ⟨t, ht, q⟩ := hbody A outer s H vs Q E hr h
  exact ⟨t, PSs.nox ht, q⟩
/-- what a dict of indexes tells of a name -/
def ixV (kvs : List (Key × V)) (n : Str) : Nat := match valV kvs (.inr n) with
  | some (.int i) => i.toNat
  | _ => 0
theorem ixV_of {kvs : List (Key × V)} {n : Str} {m : Nat} (h : valV kvs (.inr n) = some (vN m)) : ixV kvs n = m := by
  unfold ixV; rw [h]; simp [vN]
theorem dkv_val : ∀ (rows : List Row) (p : Nat) {j : Nat} {r : Row}, (nms rows).Nodup → rows[j]? = some r → valV (dkv (idxR rows p)) (.inr r.1) = some (vN ((p >>> low rows j) % 2 ^ r.2))
  | [], _, _, _, _, h => by simp at h
  | x :: rows, p, 0, r, _, h => by
    have : x = r := by simpa using h
    subst this
    show valV (((Sum.inr x.1, vN (p % 2 ^ x.2)) : Key × V) :: _) _ = _
    rw [valV_pos rfl]; simp [low, tot]
  | x :: rows, p, j + 1, r, nd, h => by
    have h' : rows[j]? = some r := by simpa using h
    have nd' : x.1 ∉ nms rows ∧ (nms rows).Nodup := List.nodup_cons.mp nd
    have hne : ¬ (Sum.inr x.1 : Key) = .inr r.1 := fun z => nd'.1 (by
      injection z with z
      rw [z]; exact List.mem_map.mpr ⟨r, List.mem_of_getElem? h', rfl⟩)
    show valV (((Sum.inr x.1, vN (p % 2 ^ x.2)) : Key × V) :: dkv (idxR rows (p >>> x.2))) _ = _
    rw [valV_neg hne, dkv_val rows (p >>> x.2) nd'.2 h', low_cons, Nat.shiftRight_add]
theorem low_take {rows : List Row} {i j : Nat} (h : j ≤ i) : low (rows.take i) j = low rows j := by
  unfold low; rw [List.take_take, Nat.min_eq_left h]
theorem low_drop (rows : List Row) (i j : Nat) : low rows (i + j) = low rows i + low (rows.drop i) j := by
  unfold low; rw [List.take_add, tot_app]
theorem rows_split {rows : List Row} {i : Nat} {r : Row} (h : rows[i]? = some r) : rows = rows.take i ++ r :: rows.drop (i + 1) := by
  have hi : i < rows.length := (List.getElem?_eq_some_iff.mp h).1
  have e : rows[i] = r := (List.getElem?_eq_some_iff.mp h).2
  rw [← e, ← List.drop_eq_getElem_cons hi, List.take_append_drop]
theorem packR_at {rows : List Row} {i : Nat} {r : Row} {ix : Str → Nat} {b q : Nat} (h : rows[i]? = some r) (hA : ∀ (j : Nat) (x : Row), j < i → rows[j]? = some x → ix x.1 = (q >>> low rows j) % 2 ^ x.2)
    (hB : ∀ (j : Nat) (x : Row), rows[i + 1 + j]? = some x → ix x.1 = (q >>> (b + low (rows.drop (i + 1)) j)) % 2 ^ x.2) (hq : q >>> b < 2 ^ tot (rows.drop (i + 1))) : packR rows ix = seg (low rows i) r.2 b q (ix r.1) := by
  have e := rows_split h
  have := packR_seg (A := rows.take i) (B := rows.drop (i + 1)) (r := r) (ix := ix) (b := b) (q := q) (fun j x hx => ?_) (fun j x hx => hB j x (by rw [List.getElem?_drop] at hx; exact hx)) hq
  · rw [← e] at this; exact this
  · rw [List.getElem?_take] at hx
    split at hx
    · rename_i hj
      rw [low_take (Nat.le_of_lt hj)]; exact hA j x hj hx
    · cases hx
theorem shr_lt {q b t : Nat} (h : q < 2 ^ (b + t)) : q >>> b < 2 ^ t := by
  rw [Nat.shiftRight_eq_div_pow]
  exact Nat.div_lt_of_lt_mul (by rw [← Nat.pow_add]; exact h)
theorem cellsL_get {cols : List Nat} {off p : Nat} (h : p < 2 ^ cols.length) : ((cellsL cols off)[p]?).getD 0 = cell cols off p := by
  unfold cellsL
  rw [List.getElem?_map, List.getElem?_range h]; rfl
theorem cellsL_len (cols : List Nat) (off : Nat) : (cellsL cols off).length = 2 ^ cols.length := by simp [cellsL]
/-! ### a change told: the new layout and the new model -/
abbrev spChg (K : PySem.W.Frag) (T : List (Addr × Str)) (pre : List Row → Prop) : Sp := spF3 fun a b c H Q => ∃ (p l t : Addr) (rows : List Row) (cols : List Nat) (k off : Nat), a = .ref p ∧ b = .ref l ∧ c = .ref t ∧ PotAt H p ∧ Tabs T H ∧
  LayoutAt K (hid H p) l rows cols k off ∧ OldAt (hid H p) t rows (cellsL cols off) ∧ tot rows ≤ 7 ∧ rows.length ≤ 20 ∧ pre rows ∧
  ∀ (q l' t' : Addr) (H' : Hp) (rows' : List Row) (cols' : List Nat) (off' : Nat), Fn p H H' → PotAt H' p → Tabs T H' → H' q = some (.tup [.ref l', .ref t']) → LayoutAt K (hid H' p) l' rows' cols' k off' → OldAt (hid H' p) t' rows' (cellsL cols' off') →
    tot rows' ≤ 7 → rows'.length ≤ rows.length + 1 → Q (.ref q) H'
theorem lock_fp {p : Addr} {H H' : Hp} {od : Obj} {u : HO} (e : Ex (upd H p (.frz od u)) H') : Fp p H (upd H' p u) := fun b o n h => by
  rw [upd_ne n]; exact e b o (by rw [upd_ne n]; exact h)
/-- the end of a change -/
theorem chg_end {p l' nl q2 c2 q : Addr} {H H7 H8 : Hp} {T : List (Addr × Str)} {rows' : List Row} {cols' : List Nat} {k off' : Nat} {ys : List V} {cells' : List Nat} {Q : VK} {n : Nat} (e07 : Fn p H H7) (hp : PotAt H7 p) (hT : Tabs T H7)
    (L : LayoutAt K (hid H7 p) l' rows' cols' k off') (e8 : Ex H7 H8) (hq2 : H8 q2 = some (.tup [.ref nl, .ref c2])) (nq2 : H7 q2 = none) (hc2 : H8 c2 = some (.lst (vL cells'))) (nc2 : H7 c2 = none) (hnl : hid H7 p nl = some (.lst ys)) (hR : RowsV (hid H7 p) ys rows')
    (ec : cells' = cellsL cols' off') (ht : tot rows' ≤ 7) (hn : rows'.length ≤ n) (hq : H8 q = none)
    (h : ∀ (q l' t' : Addr) (H' : Hp) (rows' : List Row) (cols' : List Nat) (off' : Nat), Fn p H H' → PotAt H' p → Tabs T H' → H' q = some (.tup [.ref l', .ref t']) → LayoutAt K (hid H' p) l' rows' cols' k off' → OldAt (hid H' p) t' rows' (cellsL cols' off') →
      tot rows' ≤ 7 → rows'.length ≤ n → Q (.ref q) H') : Q (.ref q) (upd H8 q (.tup [.ref l', .ref q2])) := by
  have e9 : Ex H8 (upd H8 q (.tup [.ref l', .ref q2])) := Ex.new hq
  have e79 := Same.trans e8 e9
  have ne : ∀ {b : Addr}, H7 b = none → b ≠ p := fun {b} hb z => by obtain ⟨_, _, w⟩ := hp; rw [z, w] at hb; cases hb
  have eh : Ex (hid H7 p) (hid (upd H8 q (.tup [.ref l', .ref q2])) p) := Ex.hid e79 p
  refine h q l' q2 _ rows' cols' off' (e07.trans (Fn.of e79)) (hp.ex e79) (hT.ext e79) upd_same (L.ex eh) ⟨nl, c2, ys, hid_some (e9 _ _ hq2) (ne nq2), eh _ _ hnl, hR.ex eh, ?_⟩ ht hn
  rw [← ec]
  exact hid_some (e9 _ _ hc2) (ne nc2)
abbrev lamP (x : Stmt) : Arguments := match x with
  | .Assign _ (.Lambda p _ _ _) _ => p
  | _ => default
abbrev lamB (x : Stmt) : Expr := match x with
  | .Assign _ (.Lambda _ b _ _) _ => b
  | _ => default
abbrev lamSc (x : Stmt) : Scope := match x with
  | .Assign _ (.Lambda _ _ s _) _ => s
  | _ => default
abbrev bodyAt (st : Stmt) (i : Nat) : Stmt := ((defBody st)[i]?).getD default
theorem sc_law_flipped : FnScope ["_law_pot_here", "_law_made", "_law_old", "_law_word", "_law_size", "_law_change", "_law_back"] ["_law_pot_here", "_law_made", "_law_old"] (defScope s_law_flipped) := C8.fnScope_by (by decide +kernel)
theorem c_law_flipped (T : Tx K mg) (B : TbF K mg base tf) : C8.Cal P w K mg base 9 "_law_flipped" (spChg K (tbl5 tf) fun rows => rows ≠ []) [] := by
  have h5 : ("_law_flipped" : Str) ∈ five := by decide
  refine cal_ofC T.d_law_flipped T.g_law_flipped B h5 sc_law_flipped (by intro _ _ _ _ _ _ us hl; match us, hl with | [_, _, _], _ => rfl) (fun _ _ _ _ h => len3 h) (fun A outer s H vs Q E hr h => ?_)
  obtain ⟨_, _, _, rfl, p, l, t, rows, cols, k, off, rfl, rfl, rfl, hp, hT, L, hO, htt, hln, hne, h⟩ := h
  have LI : LamIn (cxOf C8.CX0 P w K mg base ["_law_pot_here", "_law_made", "_law_old", "_law_word", "_law_size", "_law_change", "_law_back"] "_law_flipped" (defScope s_law_flipped) (ga K "_law_flipped") (.ref (tf "_law_flipped").1) A outer s H E).nox (lamP (bodyAt s_law_flipped 2)) (lamB (bodyAt s_law_flipped 2)) (lamSc (bodyAt s_law_flipped 2)) "_law_indexes_here" 2 _ :=
    ⟨lam1_by (sc := defScope s_law_flipped) (by decide +kernel), (by decide : ("_law_indexes_here" : Str) ∉ (["_law_pot_here", "_law_made", "_law_old", "_law_word", "_law_size", "_law_change", "_law_back"] : List Str)), fun pm c' ctv u => rfl, fun A1 outer1 s1 H1 f c' hr => (C8.pe_c (c_law_put T) hr (by decide) (by rfl) (pa_cons (pv 0) (pa_cons (pv 4) (pa_cons (pe_op op_xor (pe_dget (hu1 hr) (pv 0) (pv 4) (fun _ _ => rfl)) (pv 6)) pa_nil))))⟩
  refine ⟨_, (pss_cons (ps_asg (C8.pe_c (c_law_pick T) hr (by decide) (by rfl) (pa_cons (pv 0) (pa_cons (pe_ix ix_tup (pv 2) pe_int (fun _ _ => rfl)) pa_nil))) (pg_tup rfl (pgs_cons (pg_name (i := 3) sc_law_flipped.nd rfl (Or.inr rfl)) (pgs_cons (pg_name (i := 4) sc_law_flipped.nd rfl (Or.inl rfl)) pgs_nil)))) (pss_cons (ps_set (i := 5) sc_law_flipped.nd rfl (Or.inr rfl) (C8.pe_c (c_law_digit T) hr (by decide) (by rfl) (pa_cons (pv 0) (pa_cons (pe_op op_shl pe_int (pv 4)) pa_nil)))) (pss_cons (ps_set (i := 6) sc_law_flipped.nd rfl (Or.inl rfl) (pe_lam1 (T := tbl5 tf) (B.tb _ h5) rfl (tbl5_mem h5) (B.un h5) rfl (fun ok => LI.lam.has ok))) (pss_one (ps_ret (pe_tup (pa_cons (pe_lock (C8.pe_mt (m_Layout_flipped T) hr (by decide) (pv 1) (pa_cons (pv 3) (pa_cons (pv 5) pa_nil)))) (pa_cons (pe_redone T LI hr (by decide) (by rfl) (pa_cons (pv 2) (pa_cons (pe_ix ix_tup (pv 2) pe_int (fun _ _ => rfl)) (pa_cons (pv 6) pa_nil)))) pa_nil)))))))), ?_⟩
  obtain ⟨rl, cl, xs, ht', hrl', hR', hcl'⟩ := id hO
  have ht := hid_ex _ _ _ _ ht'
  have hrl := hid_ex _ _ _ _ hrl'
  have hcl := hid_ex _ _ _ _ hcl'
  have hlR := hR'.len
  have hx0 : 0 < xs.length := by rw [hlR]; exact List.length_pos_iff.mpr hne
  refine ⟨_, rfl, _, rfl, t, _, 0, _, rfl, rfl, .of ht, rfl, ?_⟩
  refine ⟨_, _, rfl, p, rfl, hp, .inl ⟨rl, xs, rfl, hid_ne hrl', hrl, hx0, by omega, fun d y H1 hd e1 hp1 => ?_⟩⟩
  obtain ⟨r, hr1, tr, rfl, htr'⟩ := hR'.at_ d y hd
  have htr := hid_ex _ _ _ _ htr'
  have htr1 := e1 _ _ (hid_ne htr') htr
  refine ⟨tr, _, rfl, .of htr1, rfl, _, _, rfl, _, _, rfl, rfl, ?_⟩
  have ok := L.1.ro
  have htl := L.1.tl
  have hat : At rows r.1 d r := ⟨hr1, rfl⟩
  have hsz := hat.sz
  have h16 : 2 ^ r.2 ≤ 128 := Nat.pow_le_pow_right (n := 2) (j := 7) (by decide) (by omega)
  refine ⟨_, rfl, _, rfl, _, _, rfl, rfl, cpow (n := r.2) (by omega), ?_⟩
  refine ⟨_, _, rfl, p, 2 ^ r.2, rfl, congrArg V.int (two_shl r.2), hp1, Nat.two_pow_pos _, by omega, fun v H2 hv e2 hp2 => ?_⟩
  have e02 := e1.trans e2
  have hT2 := tabs_fp hp e02 hT
  refine ⟨hT2, fun f c' pm ctv H3 e3 t3 n3 k3 => ?_⟩
  have hp3 : PotAt H3 p := by obtain ⟨a, b, z⟩ := hp2; exact ⟨a, b, e3 _ _ z (fun _ z => by cases z)⟩
  have hpf : f ≠ p := fun z => by obtain ⟨_, _, w⟩ := hp3; rw [z, w] at n3; cases n3
  have hcp : c' ≠ p := pot_ne hp3 k3 codeO_lst
  generalize hlo : lamObj _ _ _ _ pm c' ctv = lo
  have e4 : Ex H3 (upd H3 f (LamO f lo)) := Ex.new n3
  have hf4 : upd H3 f (LamO f lo) f = some (LamO f lo) := upd_same
  generalize upd H3 f (LamO f lo) = H4 at e4 hf4 ⊢
  subst hlo
  have hp4 := hp3.ex e4
  have hT4 := t3.ext e4
  have hc4 := e4 _ _ k3
  have e04 : Fn p H H4 := e02.fn.trans ((Fn.ofN e3).trans (Fn.of e4))
  obtain ⟨pa, pb, hpv⟩ := hp4
  refine ⟨p, _, hpv, trivial, fun od => ?_⟩
  have L5 : LayoutAt K (upd H4 p (.frz od (.lst [vN pa, vN pb]))) l rows cols k off := by
    have := (L.exN e04.hid).ex (hid_ex H4 p)
    have z := (L.exN e04.hid)
    rw [← hid_upd H4 p (.frz od (.lst [vN pa, vN pb]))] at z
    exact z.ex (hid_ex _ p)
  have e45 : ∀ H6, Ex (upd H4 p (.frz od (.lst [vN pa, vN pb]))) H6 → Fp p H4 (upd H6 p (.lst [vN pa, vN pb])) := fun H6 e => lock_fp e
  have hz5 : upd H4 p (.frz od (.lst [vN pa, vN pb])) p = some (.frz od (.lst [vN pa, vN pb])) := upd_same
  generalize upd H4 p (.frz od (.lst [vN pa, vN pb])) = H5 at L5 hz5 e45 ⊢
  obtain ⟨_, dx, am, mm, hl5, _⟩ := id L5
  refine ⟨_, rfl, l, dx, _, rfl, hl5, (by walk_at "lk"), _, rfl, _, rfl, ?_⟩
  refine ⟨_, _, _, rfl, l, rows, cols, k, off, r.1, d, r, v, rfl, rfl, rfl, L5, hat, hv, fun l' H6 hl' e6 L6 => ⟨e6 _ _ hz5, ?_⟩⟩
  have e46 := e45 H6 e6
  have L7 := L6.frz (e6 _ _ hz5)
  rw [← hid_upd H6 p (.lst [vN pa, vN pb])] at L7
  have hp7 : PotAt (upd H6 p (.lst [vN pa, vN pb])) p := ⟨pa, pb, upd_same⟩
  generalize upd H6 p (.lst [vN pa, vN pb]) = H7 at e46 L7 hp7 ⊢
  have hT7 := tabs_fp ⟨pa, pb, hpv⟩ e46 hT4
  have e07 := e04.trans e46.fn
  have hO7 := hO.exN e07.hid
  have hf7 := e46 _ _ hpf hf4
  have hc7 := e46 _ _ hcp hc4
  have hR7 := hR'.exN e07.hid
  have hrl7' := e07.hid _ _ hrl' (fun _ z => by cases z)
  have hrl7 := hid_ex _ _ _ _ hrl7'
  have ht7 := hid_ex _ _ _ _ (e07.hid _ _ ht' (fun _ z => by cases z))
  have hcl7 := hid_ex _ _ _ _ (e07.hid _ _ hcl' (fun _ z => by cases z))
  have hq : tot rows = low rows d + r.2 + tot (rows.drop (d + 1)) := tot_split hr1
  have hback : ∀ q, q < 2 ^ tot rows → q ^^^ v <<< low rows d < 2 ^ tot rows := fun q hq' => by
    refine Nat.xor_lt_two_pow hq' ?_
    rw [Nat.shiftLeft_eq]
    have h1 : v * 2 ^ low rows d < 2 ^ r.2 * 2 ^ low rows d := Nat.mul_lt_mul_of_pos_right hv (Nat.two_pow_pos _)
    rw [← Nat.pow_add] at h1
    exact Nat.lt_of_lt_of_le h1 (Nat.pow_le_pow_right (by decide) (by omega))
  refine ⟨_, rfl, _, rfl, t, _, 0, _, rfl, rfl, .of ht7, rfl, _, rfl, rfl, ?_⟩
  refine ⟨t, rl, cl, rl, f, c', xs, xs, cellsL cols off, rows, rows, pm, ctv, fun q => q ^^^ v <<< low rows d, rfl, ht7, .inl hrl7, hR7.ex (hid_ex _ _), ok, hcl7, .inl hrl7, hR7.ex (hid_ex _ _), ok, hf7, hc7, fun q hq' => ?_, ?_, by omega, ?_, ?_⟩
  · rw [cellsL_len, ← htl]; exact hback q hq'
  · rw [cellsL_len, ← htl]
    exact Nat.le_trans (Nat.pow_le_pow_right (n := 2) (j := 7) (by decide) (by omega)) (by decide)
  · intro q dd H9 QQ hq' e9 hd9 hcont
    have hg := dkv_val rows q ok.nd hr1
    have hpp := tot_split hr1
    have hlow1 := low_snoc hr1
    refine ⟨_, rfl, _, rfl, _, rfl, _, rfl, dd, _, rfl, .inl ⟨_, .inr r.1, .inl hd9, rfl, hg.symm⟩, _, rfl, _, _, rfl, rfl, ?_⟩
    refine ⟨_, _, _, rfl, dd, _, r.1, (q >>> low rows d) % 2 ^ r.2 ^^^ v, rfl, rfl, congrArg V.int (xor_N _ _), hd9, ?_, fun d' H10 _ e10 hd10 => ?_⟩
    · rw [List.length_map, idxR_len]; omega
    have hval : ∀ (j : Nat) (x : Row), rows[j]? = some x → valV (putK (dkv (idxR rows q)) (.inr r.1) (vN ((q >>> low rows d) % 2 ^ r.2 ^^^ v))) (.inr x.1) = some (vN (if j = d then (q >>> low rows d) % 2 ^ r.2 ^^^ v else (q >>> low rows j) % 2 ^ x.2)) := fun j x hx => by
      rw [valV_put]
      by_cases hj : j = d
      · subst hj
        rw [hr1] at hx
        cases hx
        rw [if_pos rfl, if_pos rfl]
      · rw [if_neg hj, if_neg, dkv_val rows q ok.nd hx]
        intro z
        injection z with z
        exact hj (nd_ix ok.nd (by rw [List.getElem?_map, hx]; rfl) (by rw [List.getElem?_map, hr1]; exact congrArg some z.symm))
    refine hcont d' _ (ixV (putK (dkv (idxR rows q)) (.inr r.1) (vN ((q >>> low rows d) % 2 ^ r.2 ^^^ v)))) H10 e10 ⟨hd10, fun x hx => ?_⟩ (fun x hx => ?_) ?_
    · obtain ⟨j, hj⟩ := List.getElem?_of_mem hx
      have := hval j x hj
      rw [this, ixV_of this]
    · obtain ⟨j, hj⟩ := List.getElem?_of_mem hx
      rw [ixV_of (hval j x hj)]
      have hb1 : ∀ y s, y % 2 ^ s < 2 ^ s := fun y s => Nat.mod_lt _ (Nat.two_pow_pos s)
      split
      · exact Nat.lt_of_lt_of_le (Nat.xor_lt_two_pow (hb1 _ _) hv) (Nat.pow_le_pow_right (n := 2) (j := 60) (by decide) (by omega))
      · have hxs : x.2 ≤ 60 := by
          have := (At.sz ⟨hj, rfl⟩ : low rows j + x.2 ≤ tot rows); omega
        exact Nat.lt_of_lt_of_le (hb1 _ _) (Nat.pow_le_pow_right (n := 2) (j := 60) (by decide) hxs)
    · rw [packR_at (b := low rows d + r.2) (q := q) hr1 (fun j x hj hx => ?_) (fun j x hx => ?_) (shr_lt (by rw [← hpp]; exact hq')), ixV_of (hval d r hr1), if_pos rfl, seg_flip hv]
      · rw [ixV_of (hval j x hx), if_neg (by omega)]
      · rw [ixV_of (hval _ x hx), if_neg (by omega), low_drop, hlow1]
  · intro q2 c2 H8 nq2 e8 hq2 nc2 hc2
    refine ⟨by show 2 ≤ sizeLine; decide, fun q hqn => ?_⟩
    refine chg_end e07 hp7 hT7 L7 e8 hq2 nq2 hc2 nc2 hrl7' hR7 ?_ htt (by omega) hqn h
    rw [show cellsL ((units cols.length).map (cmb cols)) (cell cols off (v <<< low rows d)) = (List.range (2 ^ tot rows)).map (cell ((units cols.length).map (cmb cols)) (cell cols off (v <<< low rows d))) from by
      unfold cellsL; rw [List.length_map, List.length_map, List.length_range, htl]]
    refine List.map_congr_left fun q hq' => ?_
    have hq2 : q < 2 ^ tot rows := List.mem_range.mp hq'
    rw [cellsL_get (by rw [← htl]; exact hback q hq2), cell_then]
    congr 1
    unfold cell
    rw [cmb_units, ← htl, Nat.mod_eq_of_lt hq2]
end
end My
/-! *** W24 -/
namespace My
open PySem PySem.Spec PyProof.Rows L2 He LamX
local macro_rules | `(tactic| walk_at "lk") => `(tactic| (repeat (first | exact lk1 | exact lk0 | refine (lk2 (by decide +kernel)).trans ?_)))

theorem put_vals {rows : List Row} {q d wv : Nat} {r : Row} (nd : (nms rows).Nodup) (hr1 : rows[d]? = some r) (j : Nat) (x : Row) (hx : rows[j]? = some x) :
    valV (putK (dkv (idxR rows q)) (.inr r.1) (vN wv)) (.inr x.1) = some (vN (if j = d then wv else (q >>> low rows j) % 2 ^ x.2)) := by
  rw [valV_put]
  by_cases hj : j = d
  · subst hj
    rw [hr1] at hx
    cases hx
    rw [if_pos rfl, if_pos rfl]
  · rw [if_neg hj, if_neg, dkv_val rows q nd hx]
    intro z
    injection z with z
    exact hj (nd_ix nd (by rw [List.getElem?_map, hx]; rfl) (by rw [List.getElem?_map, hr1]; exact congrArg some z.symm))
theorem low_mono {rows : List Row} {i j : Nat} (h : i ≤ j) : low rows i ≤ low rows j := by
  obtain ⟨d, rfl⟩ := Nat.le.dest h
  rw [low_drop]; omega
theorem bit_ne {rows : List Row} {i1 i2 k1 k2 : Nat} {r1 r2 : Row} (h1 : rows[i1]? = some r1) (h2 : rows[i2]? = some r2) (hk1 : k1 < r1.2) (hk2 : k2 < r2.2) (he : low rows i1 + k1 = low rows i2 + k2) : i1 = i2 ∧ k1 = k2 := by
  rcases Nat.lt_trichotomy i1 i2 with q | q | q
  · have := low_mono (rows := rows) (show i1 + 1 ≤ i2 from q)
    rw [low_snoc h1] at this; omega
  · subst q; exact ⟨rfl, by omega⟩
  · have := low_mono (rows := rows) (show i2 + 1 ≤ i1 from q)
    rw [low_snoc h2] at this; omega
theorem mod_lt_60 {y s : Nat} (h : s ≤ 60) : y % 2 ^ s < 2 ^ 60 := Nat.lt_of_lt_of_le (Nat.mod_lt _ (Nat.two_pow_pos s)) (Nat.pow_le_pow_right (by decide) h)
section
variable {P : Program} {w : World} {K : PySem.W.Frag} {mg : Str → Option Value} {base : Heap} {tf : Str → Addr × Addr}
theorem sc_law_stirred : FnScope ["_law_pot_here", "_law_made", "_law_old", "_law_word", "_law_k", "_law_far", "_law_j", "_law_back"] ["_law_pot_here", "_law_made", "_law_old"] (defScope s_law_stirred) := C8.fnScope_by (by decide +kernel)
theorem c_law_stirred (T : Tx K mg) (B : TbF K mg base tf) : C8.Cal P w K mg base 9 "_law_stirred" (spChg K (tbl5 tf) fun rows => 2 ≤ tot rows) [] := by
  have h5 : ("_law_stirred" : Str) ∈ five := by decide
  refine cal_ofC T.d_law_stirred T.g_law_stirred B h5 sc_law_stirred (by intro _ _ _ _ _ _ us hl; match us, hl with | [_, _, _], _ => rfl) (fun _ _ _ _ h => len3 h) (fun A outer s H vs Q E hr h => ?_)
  obtain ⟨_, _, _, rfl, p, l, t, rows, cols, k, off, rfl, rfl, rfl, hp, hT, L, hO, htt, hln, hne, h⟩ := h
  have LI : LamIn (cxOf C8.CX0 P w K mg base ["_law_pot_here", "_law_made", "_law_old", "_law_word", "_law_k", "_law_far", "_law_j", "_law_back"] "_law_stirred" (defScope s_law_stirred) (ga K "_law_stirred") (.ref (tf "_law_stirred").1) A outer s H E).nox (lamP (bodyAt s_law_stirred 1)) (lamB (bodyAt s_law_stirred 1)) (lamSc (bodyAt s_law_stirred 1)) "_law_indexes_here" 2 _ :=
    ⟨lam1_by (sc := defScope s_law_stirred) (by decide +kernel), (by decide : ("_law_indexes_here" : Str) ∉ (["_law_pot_here", "_law_made", "_law_old", "_law_word", "_law_k", "_law_far", "_law_j", "_law_back"] : List Str)), fun pm c' ctv u => rfl, fun A1 outer1 s1 H1 f c' hr => (C8.pe_c (c_law_put T) hr (by decide) (by rfl) (pa_cons (pv 0) (pa_cons (pv 4) (pa_cons (pe_op op_xor (pe_dget (hu1 hr) (pv 0) (pv 4) (fun _ _ => rfl)) (pe_op op_shl (pe_op op_and (pe_op op_shr (pe_dget (hu1 hr) (pv 0) (pv 6) (fun _ _ => rfl)) (pv 7)) pe_int) (pv 5))) pa_nil))))⟩
  refine ⟨_, (pss_cons (ps_asg (C8.pe_c (c_law_bits T) hr (by decide) (by rfl) (pa_cons (pv 0) (pa_cons (pe_ix ix_tup (pv 2) pe_int (fun _ _ => rfl)) pa_nil))) (L2.pg_unl rfl (pgs_cons (pg_tup rfl (pgs_cons (pg_name (i := 3) sc_law_stirred.nd rfl (Or.inr rfl)) (pgs_cons (pg_name (i := 4) sc_law_stirred.nd rfl (Or.inr rfl)) pgs_nil))) (pgs_cons (pg_tup rfl (pgs_cons (pg_name (i := 5) sc_law_stirred.nd rfl (Or.inr rfl)) (pgs_cons (pg_name (i := 6) sc_law_stirred.nd rfl (Or.inr rfl)) pgs_nil))) pgs_nil)))) (pss_cons (ps_set (i := 7) sc_law_stirred.nd rfl (Or.inl rfl) (pe_lam1 (T := tbl5 tf) (B.tb _ h5) rfl (tbl5_mem h5) (B.un h5) rfl (fun ok => LI.lam.has ok))) (pss_one (ps_ret (pe_tup (pa_cons (pe_lock (C8.pe_mt (m_Layout_mixed T) hr (by decide) (pv 1) (pa_cons (pv 3) (pa_cons (pv 4) (pa_cons (pv 5) (pa_cons (pv 6) pa_nil)))))) (pa_cons (pe_redone T LI hr (by decide) (by rfl) (pa_cons (pv 2) (pa_cons (pe_ix ix_tup (pv 2) pe_int (fun _ _ => rfl)) (pa_cons (pv 7) pa_nil)))) pa_nil))))))), ?_⟩
  obtain ⟨rl, cl, xs, ht', hrl', hR', hcl'⟩ := id hO
  have ht := hid_ex _ _ _ _ ht'
  have hrl := hid_ex _ _ _ _ hrl'
  have hcl := hid_ex _ _ _ _ hcl'
  have hlR := hR'.len
  have hR := hR'.ex (hid_ex H p)
  have ok := L.1.ro
  have htl := L.1.tl
  refine ⟨_, rfl, _, rfl, t, _, 0, _, rfl, rfl, .of ht, rfl, ?_⟩
  refine ⟨_, _, rfl, p, rl, xs, rows, rfl, rfl, hp, .inl hrl, hR, ok, hid_ne hrl', fun q H2 ys bs nq e02 hp2 hperm hq hys => ?_⟩
  have hbl : bs.length = tot rows := by rw [hperm.length_eq, allBits_len]
  have hnd : bs.Nodup := hperm.nodup_iff.mpr (allBits_nodup ok.nd)
  match ys, hys.len, hq, hys with
  | [], hl, _, _ => rw [hbl] at hl; have : (0 : Nat) = tot rows := hl; omega
  | [_], hl, _, _ => rw [hbl] at hl; have : (1 : Nat) = tot rows := hl; omega
  | y0 :: y1 :: ys', _, hq, hys =>
  obtain ⟨⟨n1, k1⟩, bs1, rfl, ⟨t0, rfl, ht0⟩, hys1⟩ := hys.uncons
  obtain ⟨⟨n2, k2⟩, bs2, rfl, ⟨t1, rfl, ht1⟩, _⟩ := hys1.uncons
  obtain ⟨r1, hm1, rfl, hk1⟩ := mem_allBits (hperm.mem_iff.mp (List.mem_cons_self ..))
  obtain ⟨r2, hm2, rfl, hk2⟩ := mem_allBits (hperm.mem_iff.mp (List.mem_cons_of_mem _ (List.mem_cons_self ..)))
  obtain ⟨i1, hi1⟩ := List.getElem?_of_mem hm1
  obtain ⟨i2, hi2⟩ := List.getElem?_of_mem hm2
  have hk1 : k1 < r1.2 := hk1
  have hk2 : k2 < r2.2 := hk2
  have hbn : low rows i1 + k1 ≠ low rows i2 + k2 := fun z => by
    obtain ⟨z1, z2⟩ := bit_ne hi1 hi2 hk1 hk2 z
    subst z1 z2
    rw [hi1] at hi2
    cases hi2
    exact (List.nodup_cons.mp hnd).1 (List.mem_cons_self ..)
  refine ⟨q, _, rfl, .of hq, rfl, _, _, rfl, t0, _, rfl, .of ht0, rfl, _, _, rfl, _, _, rfl, rfl, _, _, rfl, t1, _, rfl, .of ht1, rfl, _, _, rfl, _, _, rfl, rfl, rfl, ?_⟩
  have hat1 : At rows r1.1 i1 r1 := ⟨hi1, rfl⟩
  have hat2 : At rows r2.1 i2 r2 := ⟨hi2, rfl⟩
  have hsz1 := hat1.sz
  have hsz2 := hat2.sz
  have hT2 := tabs_fp hp e02 hT
  refine ⟨hT2, fun f c' pm ctv H3 e3 t3 n3 k3 => ?_⟩
  have hp3 : PotAt H3 p := by obtain ⟨a, b, z⟩ := hp2; exact ⟨a, b, e3 _ _ z (fun _ z => by cases z)⟩
  have hpf : f ≠ p := fun z => by obtain ⟨_, _, w⟩ := hp3; rw [z, w] at n3; cases n3
  have hcp : c' ≠ p := pot_ne hp3 k3 codeO_lst
  generalize hlo : lamObj _ _ _ _ pm c' ctv = lo
  have e4 : Ex H3 (upd H3 f (LamO f lo)) := Ex.new n3
  have hf4 : upd H3 f (LamO f lo) f = some (LamO f lo) := upd_same
  generalize upd H3 f (LamO f lo) = H4 at e4 hf4 ⊢
  subst hlo
  have hp4 := hp3.ex e4
  have hT4 := t3.ext e4
  have hc4 := e4 _ _ k3
  have e04 : Fn p H H4 := e02.fn.trans ((Fn.ofN e3).trans (Fn.of e4))
  obtain ⟨pa, pb, hpv⟩ := hp4
  refine ⟨p, _, hpv, trivial, fun od => ?_⟩
  have L5 : LayoutAt K (upd H4 p (.frz od (.lst [vN pa, vN pb]))) l rows cols k off := by
    have z := (L.exN e04.hid)
    rw [← hid_upd H4 p (.frz od (.lst [vN pa, vN pb]))] at z
    exact z.ex (hid_ex _ p)
  have e45 : ∀ H6, Ex (upd H4 p (.frz od (.lst [vN pa, vN pb]))) H6 → Fp p H4 (upd H6 p (.lst [vN pa, vN pb])) := fun H6 e => lock_fp e
  have hz5 : upd H4 p (.frz od (.lst [vN pa, vN pb])) p = some (.frz od (.lst [vN pa, vN pb])) := upd_same
  generalize upd H4 p (.frz od (.lst [vN pa, vN pb])) = H5 at L5 hz5 e45 ⊢
  obtain ⟨_, dx, am, mm, hl5, _⟩ := id L5
  refine ⟨_, rfl, l, dx, _, rfl, hl5, (by walk_at "lk"), _, rfl, _, rfl, _, rfl, _, rfl, ?_⟩
  refine ⟨_, _, _, _, _, rfl, l, rows, cols, k, off, r1.1, r2.1, i1, i2, r1, r2, k1, k2, rfl, rfl, rfl, rfl, rfl, L5, hat1, hat2, hk1, hk2, hbn, fun l' H6 hl' e6 L6 => ⟨e6 _ _ hz5, ?_⟩⟩
  have e46 := e45 H6 e6
  have L7 := L6.frz (e6 _ _ hz5)
  rw [← hid_upd H6 p (.lst [vN pa, vN pb])] at L7
  have hp7 : PotAt (upd H6 p (.lst [vN pa, vN pb])) p := ⟨pa, pb, upd_same⟩
  generalize upd H6 p (.lst [vN pa, vN pb]) = H7 at e46 L7 hp7 ⊢
  have hT7 := tabs_fp ⟨pa, pb, hpv⟩ e46 hT4
  have e07 := e04.trans e46.fn
  have hf7 := e46 _ _ hpf hf4
  have hc7 := e46 _ _ hcp hc4
  have hR7 := hR'.exN e07.hid
  have hrl7' := e07.hid _ _ hrl' (fun _ z => by cases z)
  have hrl7 := hid_ex _ _ _ _ hrl7'
  have ht7 := hid_ex _ _ _ _ (e07.hid _ _ ht' (fun _ z => by cases z))
  have hcl7 := hid_ex _ _ _ _ (e07.hid _ _ hcl' (fun _ z => by cases z))
  have hcm : ∀ q, q < 2 ^ tot rows → cmb (mixCols cols.length (low rows i2 + k2) (low rows i1 + k1)) q = q ^^^ ((((q >>> low rows i2) % 2 ^ r2.2) >>> k2 &&& 1) <<< k1) <<< low rows i1 := fun q hq' => by
    rw [cmb_mix (by omega) (Ne.symm hbn), ← htl, Nat.mod_eq_of_lt hq', Nat.and_one_is_mod]
    congr 1
    have hb : (((q >>> low rows i2) % 2 ^ r2.2) >>> k2) % 2 = (q.testBit (low rows i2 + k2)).toNat := by
      have h1 : ((q >>> low rows i2) % 2 ^ r2.2).testBit k2 = q.testBit (low rows i2 + k2) := by
        rw [Nat.testBit_mod_two_pow, Nat.testBit_shiftRight]; simp [hk2]
      rw [← h1, Nat.toNat_testBit, Nat.shiftRight_eq_div_pow]
    rw [hb, Nat.add_comm (low rows i1)]
    cases q.testBit (low rows i2 + k2) <;> simp [Nat.shiftLeft_eq, Nat.pow_add]
  have hpw : 2 ^ cols.length = 2 ^ tot rows := by rw [htl]
  have hbt : ∀ y : Nat, (y &&& 1) <<< k1 < 2 ^ r1.2 := fun y => by
    rw [Nat.and_one_is_mod, Nat.shiftLeft_eq]
    have h2 : y % 2 < 2 := Nat.mod_lt _ (by decide)
    have h1 : y % 2 * 2 ^ k1 < 2 * 2 ^ k1 := Nat.mul_lt_mul_of_pos_right h2 (Nat.two_pow_pos _)
    rw [Nat.mul_comm 2, ← Nat.pow_succ] at h1
    exact Nat.lt_of_lt_of_le h1 (Nat.pow_le_pow_right (by decide) hk1)
  have hback : ∀ q, q < 2 ^ tot rows → cmb (mixCols cols.length (low rows i2 + k2) (low rows i1 + k1)) q < 2 ^ tot rows := fun q hq' => by
    rw [hcm q hq']
    refine Nat.xor_lt_two_pow hq' ?_
    rw [Nat.shiftLeft_eq]
    have h1 : ((((q >>> low rows i2) % 2 ^ r2.2) >>> k2 &&& 1) <<< k1) * 2 ^ low rows i1 < 2 ^ r1.2 * 2 ^ low rows i1 := Nat.mul_lt_mul_of_pos_right (hbt _) (Nat.two_pow_pos _)
    rw [← Nat.pow_add] at h1
    exact Nat.lt_of_lt_of_le h1 (Nat.pow_le_pow_right (by decide) (by omega))
  refine ⟨_, rfl, _, rfl, t, _, 0, _, rfl, rfl, .of ht7, rfl, _, rfl, rfl, ?_⟩
  refine ⟨t, rl, cl, rl, f, c', xs, xs, cellsL cols off, rows, rows, pm, ctv, cmb (mixCols cols.length (low rows i2 + k2) (low rows i1 + k1)), rfl, ht7, .inl hrl7, hR7.ex (hid_ex _ _), ok, hcl7, .inl hrl7, hR7.ex (hid_ex _ _), ok, hf7, hc7, fun q hq' => ?_, ?_, by omega, ?_, ?_⟩
  · rw [cellsL_len, hpw]; exact hback q hq'
  · rw [cellsL_len, ← htl]
    exact Nat.le_trans (Nat.pow_le_pow_right (n := 2) (j := 7) (by decide) (by omega)) (by decide)
  · intro q dd H9 QQ hq' e9 hd9 hcont
    have hg1 := dkv_val rows q ok.nd hi1
    have hg2 := dkv_val rows q ok.nd hi2
    have hpp := tot_split hi1
    have hlow1 := low_snoc hi1
    have es : Builtin.bitAnd ((((q >>> low rows i2) % 2 ^ r2.2 : Nat) : Int) / 2 ^ ((k2 : Int).toNat)) 1 = (((((q >>> low rows i2) % 2 ^ r2.2) >>> k2 &&& 1 : Nat)) : Int) := by
      rw [shr_N, show (1 : Int) = ((1 : Nat) : Int) from rfl, and_N]
    refine ⟨_, rfl, _, rfl, _, rfl, _, rfl, dd, _, rfl, .inl ⟨_, .inr r1.1, .inl hd9, rfl, hg1.symm⟩, _, rfl, _, rfl, dd, _, rfl, .inl ⟨_, .inr r2.1, .inl hd9, rfl, hg2.symm⟩, _, rfl, _, _, rfl, rfl, Int.natCast_nonneg k2, _, _, rfl, rfl, _, rfl, _, _, rfl, rfl, ?_⟩
    refine ⟨by rw [es]; exact cpowN (Nat.lt_of_le_of_lt Nat.and_le_right (by decide)) (by omega), _, _, rfl, rfl, ?_⟩
    refine ⟨_, _, _, rfl, dd, _, r1.1, (q >>> low rows i1) % 2 ^ r1.2 ^^^ (((q >>> low rows i2) % 2 ^ r2.2) >>> k2 &&& 1) <<< k1, rfl, rfl, congrArg V.int (by rw [es, shl_N, xor_N]), hd9, ?_, fun d' H10 _ e10 hd10 => ?_⟩
    · rw [List.length_map, idxR_len]; omega
    have hval := put_vals (q := q) (wv := (q >>> low rows i1) % 2 ^ r1.2 ^^^ (((q >>> low rows i2) % 2 ^ r2.2) >>> k2 &&& 1) <<< k1) ok.nd hi1
    refine hcont d' _ (ixV (putK (dkv (idxR rows q)) (.inr r1.1) (vN ((q >>> low rows i1) % 2 ^ r1.2 ^^^ (((q >>> low rows i2) % 2 ^ r2.2) >>> k2 &&& 1) <<< k1)))) H10 e10 ⟨hd10, fun x hx => ?_⟩ (fun x hx => ?_) ?_
    · obtain ⟨j, hj⟩ := List.getElem?_of_mem hx
      have := hval j x hj
      rw [this, ixV_of this]
    · obtain ⟨j, hj⟩ := List.getElem?_of_mem hx
      rw [ixV_of (hval j x hj)]
      have hxs : x.2 ≤ 60 := by
        have := (At.sz ⟨hj, rfl⟩ : low rows j + x.2 ≤ tot rows); omega
      split
      · exact Nat.lt_of_lt_of_le (Nat.xor_lt_two_pow (Nat.mod_lt _ (Nat.two_pow_pos _)) (hbt _)) (Nat.pow_le_pow_right (n := 2) (j := 60) (by decide) (by omega))
      · exact mod_lt_60 hxs
    · rw [packR_at (b := low rows i1 + r1.2) (q := q) hi1 (fun j x hj hx => ?_) (fun j x hx => ?_) (shr_lt (by rw [← hpp]; exact hq')), ixV_of (hval i1 r1 hi1), if_pos rfl, seg_flip (hbt _), hcm q hq']
      · rw [ixV_of (hval j x hx), if_neg (by omega)]
      · rw [ixV_of (hval _ x hx), if_neg (by omega), low_drop, hlow1]
  · intro q2 c2 H8 nq2 e8 hq2 nc2 hc2
    refine ⟨by show 2 ≤ sizeLine; decide, fun q hqn => ?_⟩
    refine chg_end e07 hp7 hT7 L7 e8 hq2 nq2 hc2 nc2 hrl7' hR7 ?_ htt (by omega) hqn h
    rw [show cellsL ((mixCols cols.length (low rows i2 + k2) (low rows i1 + k1)).map (cmb cols)) (cell cols off 0) = (List.range (2 ^ tot rows)).map (cell ((mixCols cols.length (low rows i2 + k2) (low rows i1 + k1)).map (cmb cols)) (cell cols off 0)) from by
      unfold cellsL; rw [List.length_map, List.length_set, List.length_map, List.length_range, htl]]
    refine List.map_congr_left fun q hq' => ?_
    have hq2 : q < 2 ^ tot rows := List.mem_range.mp hq'
    rw [cellsL_get (by rw [hpw]; exact hback q hq2), cell_then]
    congr 1
    unfold cell
    rw [Nat.xor_zero]
end
end My
/-! *** W25 -/
namespace My
open PySem PySem.Spec PyProof.Rows L2 He LamX
local macro_rules | `(tactic| walk_at "lk") => `(tactic| (repeat (first | exact lk1 | exact lk0 | refine (lk2 (by decide +kernel)).trans ?_)))

theorem low_appL {A C : List Row} {j : Nat} (h : j ≤ A.length) : low (A ++ C) j = low A j := by
  unfold low; rw [List.take_append_of_le_length h]
theorem low_appR (A C : List Row) (j : Nat) : low (A ++ C) (A.length + j) = tot A + low C j := by
  unfold low; rw [List.take_length_add_append, tot_app]
theorem name_ne {rows : List Row} (nd : (nms rows).Nodup) {j d : Nat} {x r : Row} (hx : rows[j]? = some x) (hr : rows[d]? = some r) (h : j ≠ d) : x.1 ≠ r.1 := fun z =>
  h (nd_ix nd (by rw [List.getElem?_map, hx]; rfl) (by rw [List.getElem?_map, hr]; exact congrArg some z.symm))
theorem key_ne {a b : Str} (h : a ≠ b) : ¬ (Sum.inr a : Key) = .inr b := fun z => h (by injection z)
/-- the rows about the d-th, with others in its place -/
theorem vals_mid {rows M : List Row} {q d wv : Nat} {r : Row} (nd : (nms rows).Nodup) (nd' : (nms (rows.take d ++ M ++ rows.drop (d + 1))).Nodup) (hr1 : rows[d]? = some r) :
    (∀ (j : Nat) (x : Row), j < d → rows[j]? = some x → valV (putK (dkv (idxR (rows.take d ++ M ++ rows.drop (d + 1)) q)) (.inr r.1) (vN wv)) (.inr x.1) = some (vN ((q >>> low rows j) % 2 ^ x.2))) ∧
    (∀ (j : Nat) (x : Row), rows[d + 1 + j]? = some x → valV (putK (dkv (idxR (rows.take d ++ M ++ rows.drop (d + 1)) q)) (.inr r.1) (vN wv)) (.inr x.1) = some (vN ((q >>> (low rows d + tot M + low (rows.drop (d + 1)) j)) % 2 ^ x.2))) ∧
    valV (putK (dkv (idxR (rows.take d ++ M ++ rows.drop (d + 1)) q)) (.inr r.1) (vN wv)) (.inr r.1) = some (vN wv) := by
  have hd : d < rows.length := (List.getElem?_eq_some_iff.mp hr1).1
  have hA : (rows.take d).length = d := by rw [List.length_take]; omega
  refine ⟨fun j x hj hx => ?_, fun j x hx => ?_, by rw [valV_put, if_pos rfl]⟩
  · rw [valV_put, if_neg (key_ne (name_ne nd hx hr1 (by omega)))]
    rw [dkv_val (j := j) (r := x) _ q nd' (by rw [List.append_assoc, List.getElem?_append_left (by omega), List.getElem?_take, if_pos hj]; exact hx)]
    rw [List.append_assoc, low_appL (by omega), low_take (by omega)]
  · rw [valV_put, if_neg (key_ne (name_ne nd hx hr1 (by omega)))]
    have hl : (rows.take d ++ M).length = d + M.length := by rw [List.length_append, hA]
    rw [dkv_val (j := (rows.take d ++ M).length + j) (r := x) _ q nd' (by rw [List.getElem?_append_right (by omega), Nat.add_sub_cancel_left, List.getElem?_drop]; exact hx)]
    rw [low_appR, tot_app]; rfl
theorem seg_lt {a s b q x n : Nat} (hx : x < 2 ^ s) (hn : a + s ≤ n) (hq : q < 2 ^ (b + (n - (a + s)))) (hb : a ≤ b) (hbs : b ≤ a + s) : seg a s b q x < 2 ^ n := by
  apply Nat.lt_pow_two_of_testBit
  intro m hm
  rw [seg_bit hx, if_neg (by omega), if_neg (by omega)]
  exact Nat.testBit_lt_two_pow (Nat.lt_of_lt_of_le hq (Nat.pow_le_pow_right (by decide) (by omega)))
theorem cut_take {xs : List V} {i : Nat} (h : i ≤ xs.length) : cutV xs none (some (i : Int)) = xs.take i := by
  unfold cutV
  rw [HT.sIx_none, HT.sIx_nat, List.drop_zero, Nat.sub_zero, Nat.min_eq_left h]
theorem cut_drop1 {xs : List V} {i : Nat} (h : i < xs.length) : cutV xs (some ((i : Int) + 1)) none = xs.drop (i + 1) := by
  show cutV xs (some (((i + 1 : Nat) : Int))) none = _
  unfold cutV
  rw [HT.sIx_none, HT.sIx_nat, Nat.min_eq_left (by omega), List.take_of_length_le (by rw [List.length_drop]; omega)]
section
variable {P : Program} {w : World} {K : PySem.W.Frag} {mg : Str → Option Value} {base : Heap} {tf : Str → Addr × Addr}
theorem sc_law_fixed : FnScope ["_law_pot_here", "_law_made", "_law_old", "_law_at", "_law_word", "_law_size", "_law_index", "_law_back"] ["_law_pot_here", "_law_made", "_law_old"] (defScope s_law_fixed) := C8.fnScope_by (by decide +kernel)
theorem c_law_fixed (T : Tx K mg) (B : TbF K mg base tf) : C8.Cal P w K mg base 9 "_law_fixed" (spChg K (tbl5 tf) fun rows => rows ≠ []) [] := by
  have h5 : ("_law_fixed" : Str) ∈ five := by decide
  refine cal_ofC T.d_law_fixed T.g_law_fixed B h5 sc_law_fixed (by intro _ _ _ _ _ _ us hl; match us, hl with | [_, _, _], _ => rfl) (fun _ _ _ _ h => len3 h) (fun A outer s H vs Q E hr h => ?_)
  obtain ⟨_, _, _, rfl, p, l, t, rows, cols, k, off, rfl, rfl, rfl, hp, hT, L, hO, htt, hln, hne, h⟩ := h
  have LI : LamIn (cxOf C8.CX0 P w K mg base ["_law_pot_here", "_law_made", "_law_old", "_law_at", "_law_word", "_law_size", "_law_index", "_law_back"] "_law_fixed" (defScope s_law_fixed) (ga K "_law_fixed") (.ref (tf "_law_fixed").1) A outer s H E).nox (lamP (bodyAt s_law_fixed 3)) (lamB (bodyAt s_law_fixed 3)) (lamSc (bodyAt s_law_fixed 3)) "_law_indexes_here" 2 _ :=
    ⟨lam1_by (sc := defScope s_law_fixed) (by decide +kernel), (by decide : ("_law_indexes_here" : Str) ∉ (["_law_pot_here", "_law_made", "_law_old", "_law_at", "_law_word", "_law_size", "_law_index", "_law_back"] : List Str)), fun pm c' ctv u => rfl, fun A1 outer1 s1 H1 f c' hr => (C8.pe_c (c_law_put T) hr (by decide) (by rfl) (pa_cons (pv 0) (pa_cons (pv 5) (pa_cons (pv 7) pa_nil))))⟩
  refine ⟨_, (pss_cons (ps_set (i := 3) sc_law_fixed.nd rfl (Or.inl rfl) (C8.pe_c (c_law_digit T) hr (by decide) (by rfl) (pa_cons (pv 0) (pa_cons (pe_callB (id := "len") call_len (by rfl) T.b_len (by decide +kernel) (pa_cons (pe_ix ix_tup (pv 2) pe_int (fun _ _ => rfl)) pa_nil)) pa_nil)))) (pss_cons (ps_asg (pe_ix ix_list (pe_ix ix_tup (pv 2) pe_int (fun _ _ => rfl)) (pv 3) (fun _ _ => rfl)) (pg_tup rfl (pgs_cons (pg_name (i := 4) sc_law_fixed.nd rfl (Or.inr rfl)) (pgs_cons (pg_name (i := 5) sc_law_fixed.nd rfl (Or.inl rfl)) pgs_nil)))) (pss_cons (ps_set (i := 6) sc_law_fixed.nd rfl (Or.inr rfl) (C8.pe_c (c_law_digit T) hr (by decide) (by rfl) (pa_cons (pv 0) (pa_cons (pe_op op_shl pe_int (pv 5)) pa_nil)))) (pss_cons (ps_set (i := 7) sc_law_fixed.nd rfl (Or.inl rfl) (pe_lam1 (T := tbl5 tf) (B.tb _ h5) rfl (tbl5_mem h5) (B.un h5) rfl (fun ok => LI.lam.has ok))) (pss_one (ps_ret (pe_tup (pa_cons (pe_lock (C8.pe_mt (m_Layout_fixed T) hr (by decide) (pv 1) (pa_cons (pv 4) (pa_cons (pv 6) pa_nil)))) (pa_cons (pe_redone T LI hr (by decide) (by rfl) (pa_cons (pv 2) (pa_cons (pe_op op_cat (pe_slice sl_list (pe_ix ix_tup (pv 2) pe_int (fun _ _ => rfl)) po_none (po_some (pv 3))) (pe_slice sl_list (pe_ix ix_tup (pv 2) pe_int (fun _ _ => rfl)) (po_some (pe_op op_add (pv 3) pe_int)) po_none)) (pa_cons (pv 7) pa_nil)))) pa_nil))))))))), ?_⟩
  obtain ⟨rl, cl, xs, ht', hrl', hR', hcl'⟩ := id hO
  have ht := hid_ex _ _ _ _ ht'
  have hrl := hid_ex _ _ _ _ hrl'
  have hcl := hid_ex _ _ _ _ hcl'
  have hlR := hR'.len
  have hR := hR'.ex (hid_ex H p)
  have ok := L.1.ro
  have htl := L.1.tl
  have hx0 : 0 < xs.length := by rw [hlR]; exact List.length_pos_iff.mpr hne
  refine ⟨_, rfl, _, rfl, t, _, 0, _, rfl, rfl, .of ht, rfl, _, _, rfl, .inl ⟨_, .of hrl, rfl⟩, ?_⟩
  refine ⟨_, _, rfl, p, xs.length, rfl, rfl, hp, hx0, by omega, fun d H1 hd e1 hp1 => ?_⟩
  have ht1 := e1 _ _ (hid_ne ht') ht
  have hrl1 := e1 _ _ (hid_ne hrl') hrl
  have hx : xs[d]? = some xs[d] := List.getElem?_eq_getElem hd
  obtain ⟨r, hr1, tr, hxd, htr'⟩ := hR'.at_ d _ hx
  rw [hxd] at hx
  have htr1 := e1 _ _ (hid_ne htr') (hid_ex _ _ _ _ htr')
  refine ⟨_, rfl, t, _, 0, _, rfl, rfl, .of ht1, rfl, _, rfl, rl, _, _, _, rfl, rfl, .of hrl1, atI_nat (j := d) hx, ?_⟩
  refine ⟨tr, _, rfl, .of htr1, rfl, _, _, rfl, _, _, rfl, rfl, ?_⟩
  have hat : At rows r.1 d r := ⟨hr1, rfl⟩
  have hsz := hat.sz
  have h16 : 2 ^ r.2 ≤ 128 := Nat.pow_le_pow_right (n := 2) (j := 7) (by decide) (by omega)
  refine ⟨_, rfl, _, rfl, _, _, rfl, rfl, cpow (n := r.2) (by omega), ?_⟩
  refine ⟨_, _, rfl, p, 2 ^ r.2, rfl, congrArg V.int (two_shl r.2), hp1, Nat.two_pow_pos _, by omega, fun v H2 hv e2 hp2 => ?_⟩
  have e02 := e1.trans e2
  have hT2 := tabs_fp hp e02 hT
  refine ⟨hT2, fun f c' pm ctv H3 e3 t3 n3 k3 => ?_⟩
  have hp3 : PotAt H3 p := by obtain ⟨a, b, z⟩ := hp2; exact ⟨a, b, e3 _ _ z (fun _ z => by cases z)⟩
  have hpf : f ≠ p := fun z => by obtain ⟨_, _, w⟩ := hp3; rw [z, w] at n3; cases n3
  have hcp : c' ≠ p := pot_ne hp3 k3 codeO_lst
  generalize hlo : lamObj _ _ _ _ pm c' ctv = lo
  have e4 : Ex H3 (upd H3 f (LamO f lo)) := Ex.new n3
  have hf4 : upd H3 f (LamO f lo) f = some (LamO f lo) := upd_same
  generalize upd H3 f (LamO f lo) = H4 at e4 hf4 ⊢
  subst hlo
  have hp4 := hp3.ex e4
  have hT4 := t3.ext e4
  have hc4 := e4 _ _ k3
  have e04 : Fn p H H4 := e02.fn.trans ((Fn.ofN e3).trans (Fn.of e4))
  obtain ⟨pa, pb, hpv⟩ := hp4
  refine ⟨p, _, hpv, trivial, fun od => ?_⟩
  have L5 : LayoutAt K (upd H4 p (.frz od (.lst [vN pa, vN pb]))) l rows cols k off := by
    have z := (L.exN e04.hid)
    rw [← hid_upd H4 p (.frz od (.lst [vN pa, vN pb]))] at z
    exact z.ex (hid_ex _ p)
  have e45 : ∀ H6, Ex (upd H4 p (.frz od (.lst [vN pa, vN pb]))) H6 → Fp p H4 (upd H6 p (.lst [vN pa, vN pb])) := fun H6 e => lock_fp e
  have hz5 : upd H4 p (.frz od (.lst [vN pa, vN pb])) p = some (.frz od (.lst [vN pa, vN pb])) := upd_same
  generalize upd H4 p (.frz od (.lst [vN pa, vN pb])) = H5 at L5 hz5 e45 ⊢
  obtain ⟨_, dx, am, mm, hl5, _⟩ := id L5
  refine ⟨_, rfl, l, dx, _, rfl, hl5, (by walk_at "lk"), _, rfl, _, rfl, ?_⟩
  refine ⟨_, _, _, rfl, l, rows, cols, k, off, r.1, d, r, v, rfl, rfl, rfl, L5, hat, hv, fun l' H6 hl' e6 L6 => ⟨e6 _ _ hz5, ?_⟩⟩
  have e46 := e45 H6 e6
  have L7 := L6.frz (e6 _ _ hz5)
  rw [← hid_upd H6 p (.lst [vN pa, vN pb])] at L7
  have hp7 : PotAt (upd H6 p (.lst [vN pa, vN pb])) p := ⟨pa, pb, upd_same⟩
  generalize upd H6 p (.lst [vN pa, vN pb]) = H7 at e46 L7 hp7 ⊢
  have hT7 := tabs_fp ⟨pa, pb, hpv⟩ e46 hT4
  have e07 := e04.trans e46.fn
  have hf7 := e46 _ _ hpf hf4
  have hc7 := e46 _ _ hcp hc4
  have hR7 := hR'.exN e07.hid
  have hrl7' := e07.hid _ _ hrl' (fun _ z => by cases z)
  have hrl7 := hid_ex _ _ _ _ hrl7'
  have ht7 := hid_ex _ _ _ _ (e07.hid _ _ ht' (fun _ z => by cases z))
  have hcl7 := hid_ex _ _ _ _ (e07.hid _ _ hcl' (fun _ z => by cases z))
  have hdl : d < rows.length := by omega
  have hpp := tot_split hr1
  have hro : rows.eraseIdx d = rows.take d ++ rows.drop (d + 1) := List.eraseIdx_eq_take_drop_succ rows d
  have ok' := ok.erase d
  have hte := tot_erase hr1
  have hpw : 2 ^ cols.length = 2 ^ tot rows := by rw [htl]
  have hback : ∀ q, q < 2 ^ tot (rows.eraseIdx d) → seg (low rows d) r.2 (low rows d) q v < 2 ^ tot rows := fun q hq' => by
    rw [hte] at hq'
    exact seg_lt hv (by omega) (by rw [show low rows d + (tot rows - (low rows d + r.2)) = tot rows - r.2 by omega]; exact hq') (Nat.le_refl _) (by omega)
  refine ⟨_, rfl, ?_⟩
  refine ⟨_, rfl, t, _, 0, _, rfl, rfl, .of ht7, rfl, _, rfl, _, rfl, rl, xs, rfl, .of hrl7, fun z1 hz1 => ?_⟩
  rw [cut_take (Nat.le_of_lt hd)] at *
  have e8 : Ex H7 (upd H7 z1 (.lst (xs.take d))) := Ex.new hz1
  have hz1v : upd H7 z1 (.lst (xs.take d)) z1 = some (.lst (xs.take d)) := upd_same
  generalize upd H7 z1 (.lst (xs.take d)) = H8 at e8 hz1v ⊢
  refine ⟨_, rfl, t, _, 0, _, rfl, rfl, .of (e8 _ _ ht7), rfl, _, rfl, _, _, rfl, rfl, _, rfl, rl, xs, rfl, .of (e8 _ _ hrl7), fun z2 hz2 => ?_⟩
  rw [cut_drop1 hd] at *
  have e9 : Ex H8 (upd H8 z2 (.lst (xs.drop (d + 1)))) := Ex.new hz2
  have hz2v : upd H8 z2 (.lst (xs.drop (d + 1))) z2 = some (.lst (xs.drop (d + 1))) := upd_same
  generalize upd H8 z2 (.lst (xs.drop (d + 1))) = H9 at e9 hz2v ⊢
  refine ⟨z1, z2, _, _, rfl, rfl, e9 _ _ hz1v, hz2v, ?_, fun z3 hz3 => ?_⟩
  · rw [List.length_take, List.length_drop]; exact Nat.le_trans (by omega : _ ≤ 200) (by decide)
  have e10 : Ex H9 (upd H9 z3 (.lst (xs.take d ++ xs.drop (d + 1)))) := Ex.new hz3
  have hz3v : upd H9 z3 (.lst (xs.take d ++ xs.drop (d + 1))) z3 = some (.lst (xs.take d ++ xs.drop (d + 1))) := upd_same
  generalize upd H9 z3 (.lst (xs.take d ++ xs.drop (d + 1))) = H10 at e10 hz3v ⊢
  have eA : Ex H7 H10 := Same.trans e8 (Same.trans e9 e10)
  have hpA := hp7.ex eA
  have hzp : z3 ≠ p := fun y => by obtain ⟨_, _, w⟩ := (hp7.ex e8).ex e9; rw [y, w] at hz3; cases hz3
  have e0A := e07.trans (Fn.of eA)
  have hRA := hR7.ex (Ex.hid eA p)
  have hRn : RowsV (hid H10 p) (xs.take d ++ xs.drop (d + 1)) (rows.eraseIdx d) := by rw [hro]; exact (hRA.take d).app (hRA.drop (d + 1))
  refine ⟨_, rfl, rfl, ?_⟩
  refine ⟨t, rl, cl, z3, f, c', xs, xs.take d ++ xs.drop (d + 1), cellsL cols off, rows, rows.eraseIdx d, pm, ctv, fun q => seg (low rows d) r.2 (low rows d) q v, rfl, eA _ _ ht7, .inl (eA _ _ hrl7), hRA.ex (hid_ex _ _), ok, eA _ _ hcl7, .inl hz3v, hRn.ex (hid_ex _ _), ok', eA _ _ hf7, eA _ _ hc7, fun q hq' => ?_, ?_, by omega, ?_, ?_⟩
  · rw [cellsL_len, hpw]; exact hback q hq'
  · rw [cellsL_len, ← htl]
    exact Nat.le_trans (Nat.pow_le_pow_right (n := 2) (j := 7) (by decide) (by omega)) (by decide)
  · intro q dd HB QQ hq' eB hdB hcont
    have nd' : (nms (rows.take d ++ [] ++ rows.drop (d + 1))).Nodup := by rw [List.append_nil, ← hro]; exact ok'.nd
    obtain ⟨v1, v2, v3⟩ := vals_mid (M := []) (q := q) (wv := v) ok.nd nd' hr1
    rw [List.append_nil, ← hro] at v1 v2 v3
    refine ⟨_, rfl, _, rfl, _, rfl, ?_⟩
    refine ⟨_, _, _, rfl, dd, _, r.1, v, rfl, rfl, rfl, hdB, ?_, fun d' HC _ eC hdC => ?_⟩
    · rw [List.length_map, idxR_len]; have := ok'.ln; omega
    refine hcont d' _ (ixV (putK (dkv (idxR (rows.eraseIdx d) q)) (.inr r.1) (vN v))) HC eC ⟨hdC, fun x hx => ?_⟩ (fun x hx => ?_) ?_
    · obtain ⟨j, hj⟩ := List.getElem?_of_mem hx
      rcases Nat.lt_trichotomy j d with z | z | z
      · rw [v1 j x z hj, ixV_of (v1 j x z hj)]
      · subst z; rw [hr1] at hj; cases hj; rw [v3, ixV_of v3]
      · obtain ⟨i, rfl⟩ := Nat.le.dest (show d + 1 ≤ j from z)
        rw [v2 i x hj, ixV_of (v2 i x hj)]
    · obtain ⟨j, hj⟩ := List.getElem?_of_mem hx
      have hxs : x.2 ≤ 60 := by
        have := (At.sz ⟨hj, rfl⟩ : low rows j + x.2 ≤ tot rows); omega
      rcases Nat.lt_trichotomy j d with z | z | z
      · rw [ixV_of (v1 j x z hj)]; exact mod_lt_60 hxs
      · subst z; rw [hr1] at hj; cases hj; rw [ixV_of v3]
        exact Nat.lt_of_lt_of_le hv (Nat.pow_le_pow_right (by decide) hxs)
      · obtain ⟨i, rfl⟩ := Nat.le.dest (show d + 1 ≤ j from z)
        rw [ixV_of (v2 i x hj)]; exact mod_lt_60 hxs
    · rw [packR_at (b := low rows d) (q := q) hr1 (fun j x hj hx => ixV_of (v1 j x hj hx)) (fun j x hx => ixV_of (v2 j x hx)) (shr_lt (by rw [hte] at hq'; rw [show low rows d + tot (rows.drop (d + 1)) = tot rows - r.2 by omega]; exact hq')), ixV_of v3]
  · intro q2 c2 HD nq2 eD hq2 nc2 hc2
    refine ⟨by show 2 ≤ sizeLine; decide, fun q hqn => ?_⟩
    refine chg_end e0A hpA (hT7.ext eA) (L7.ex (Ex.hid eA p)) eD hq2 nq2 hc2 nc2 (hid_some hz3v hzp) hRn ?_ (by omega) ?_ hqn h
    · rw [show cellsL (((restIx cols.length (low rows d) r.2).map (2 ^ ·)).map (cmb cols)) (cell cols off (v <<< low rows d)) = (List.range (2 ^ tot (rows.eraseIdx d))).map (cell (((restIx cols.length (low rows d) r.2).map (2 ^ ·)).map (cmb cols)) (cell cols off (v <<< low rows d))) from by
        unfold cellsL; rw [List.length_map, List.length_map, restIx_len (by omega), hte, htl]]
      refine List.map_congr_left fun q hq' => ?_
      have hq2 : q < 2 ^ tot (rows.eraseIdx d) := List.mem_range.mp hq'
      rw [cellsL_get (by rw [hpw]; exact hback q hq2), cell_then]
      congr 1
      unfold cell
      rw [cmb_rest (by omega) (by rw [← htl, ← hte]; exact hq2) v hv]
    · rw [List.length_eraseIdx]; split <;> omega
end
end My
/-! *** W26 -/
namespace My
open PySem PySem.Spec PyProof.Rows L2 He LamX
local macro_rules | `(tactic| walk_at "lk") => `(tactic| (repeat (first | exact lk1 | exact lk0 | refine (lk2 (by decide +kernel)).trans ?_)))

def cutRow (n : Str) (r : Row) : Row := (r.1, r.2 - if r.1 = n then 1 else 0)
theorem cut_rows {rows : List Row} {d : Nat} {r : Row} (nd : (nms rows).Nodup) (hr : rows[d]? = some r) : rows.map (cutRow r.1) = rows.set d (r.1, r.2 - 1) := by
  apply List.ext_getElem?
  intro j
  have hd : d < rows.length := (List.getElem?_eq_some_iff.mp hr).1
  rw [List.getElem?_map, List.getElem?_set]
  by_cases h : d = j
  · subst h
    rw [if_pos rfl, if_pos hd, hr]
    simp [cutRow]
  · rw [if_neg h]
    cases hx : rows[j]? with
    | none => rfl
    | some x =>
      have := name_ne nd hx hr (Ne.symm h)
      simp [cutRow, this]
section
variable {P : Program} {w : World} {K : PySem.W.Frag} {mg : Str → Option Value} {base : Heap} {tf : Str → Addr × Addr}
theorem sc_law_cut : FnScope ["_law_pot_here", "_law_made", "_law_old", "_law_word", "_law_k", "_law_bit", "_law_rows", "_law_back", "_law_one", "_law_size"] ["_law_pot_here", "_law_made", "_law_old"] (defScope s_law_cut) := C8.fnScope_by (by decide +kernel)
theorem c_law_cut (T : Tx K mg) (B : TbF K mg base tf) : C8.Cal P w K mg base 9 "_law_cut" (spChg K (tbl5 tf) fun rows => 2 ≤ tot rows) [] := by
  have h5 : ("_law_cut" : Str) ∈ five := by decide
  refine cal_ofC T.d_law_cut T.g_law_cut B h5 sc_law_cut (by intro _ _ _ _ _ _ us hl; match us, hl with | [_, _, _], _ => rfl) (fun _ _ _ _ h => len3 h) (fun A outer s H vs Q E hr h => ?_)
  obtain ⟨_, _, _, rfl, p, l, t, rows, cols, k, off, rfl, rfl, rfl, hp, hT, L, hO, htt, hln, hne, h⟩ := h
  have LI : LamIn (cxOf C8.CX0 P w K mg base ["_law_pot_here", "_law_made", "_law_old", "_law_word", "_law_k", "_law_bit", "_law_rows", "_law_back", "_law_one", "_law_size"] "_law_cut" (defScope s_law_cut) (ga K "_law_cut") (.ref (tf "_law_cut").1) A outer s H E).nox (lamP (bodyAt s_law_cut 2)) (lamB (bodyAt s_law_cut 2)) (lamSc (bodyAt s_law_cut 2)) "_law_indexes_here" 2 _ :=
    ⟨lam1_by (sc := defScope s_law_cut) (by decide +kernel), (by decide : ("_law_indexes_here" : Str) ∉ (["_law_pot_here", "_law_made", "_law_old", "_law_word", "_law_k", "_law_bit", "_law_rows", "_law_back", "_law_one", "_law_size"] : List Str)), fun pm c' ctv u => rfl, fun A1 outer1 s1 H1 f c' hr => (C8.pe_c (c_law_put T) hr (by decide) (by rfl) (pa_cons (pv 0) (pa_cons (pv 4) (pa_cons (C8.pe_c (c_law_widened T) hr (by decide) (by rfl) (pa_cons (pe_dget (hu1 hr) (pv 0) (pv 4) (fun _ _ => rfl)) (pa_cons (pv 5) (pa_cons (pv 6) pa_nil)))) pa_nil))))⟩
  refine ⟨_, (pss_cons (ps_asg (pe_ix ix_list (C8.pe_c (c_law_bits T) hr (by decide) (by rfl) (pa_cons (pv 0) (pa_cons (pe_ix ix_tup (pv 2) pe_int (fun _ _ => rfl)) pa_nil))) pe_int (fun _ _ => rfl)) (pg_tup rfl (pgs_cons (pg_name (i := 3) sc_law_cut.nd rfl (Or.inr rfl)) (pgs_cons (pg_name (i := 4) sc_law_cut.nd rfl (Or.inr rfl)) pgs_nil)))) (pss_cons (ps_asg (pe_tup (pa_cons (C8.pe_c (c_law_digit T) hr (by decide) (by rfl) (pa_cons (pv 0) (pa_cons pe_int pa_nil))) (pa_cons (pe_lc (own := [("_law_one", 8), ("_law_size", 9)]) (g := gTup K 2 (gCons (gName 8) (gCons (gName 9) gNil))) rfl sc_law_cut.nd (pi_sq (pe_ix ix_tup (pv 2) pe_int (fun _ _ => rfl))) (blkOk_by (own := [("_law_one", 8), ("_law_size", 9)]) (N := ["_law_pot_here", "_law_made", "_law_old", "_law_word", "_law_k", "_law_bit", "_law_rows", "_law_back", "_law_one", "_law_size"]) (sc := defScope s_law_cut) (by decide +kernel)) (fun _ _ _ _ _ => (pg_tup rfl (pgs_cons (pg_name (i := 8) sc_law_cut.nd rfl (Or.inl rfl)) (pgs_cons (pg_name (i := 9) sc_law_cut.nd rfl (Or.inl rfl)) pgs_nil)))) (fun _ _ _ _ _ => pts_nil) (fun _ _ _ _ _ => (pe_tup (pa_cons (pv 8) (pa_cons (pe_op op_sub (pv 9) (pe_callTy (T := "int") call_int1 (by rfl) T.b_int (by decide +kernel) (pa_cons (pe_cmpR op_eq (pv 8) (pv 3) (nomark _)) pa_nil))) pa_nil))))) pa_nil))) (pg_tup rfl (pgs_cons (pg_name (i := 5) sc_law_cut.nd rfl (Or.inr rfl)) (pgs_cons (pg_name (i := 6) sc_law_cut.nd rfl (Or.inl rfl)) pgs_nil)))) (pss_cons (ps_set (i := 7) sc_law_cut.nd rfl (Or.inl rfl) (pe_lam1 (T := tbl5 tf) (B.tb _ h5) rfl (tbl5_mem h5) (B.un h5) rfl (fun ok => LI.lam.has ok))) (pss_one (ps_ret (pe_tup (pa_cons (pe_lock (C8.pe_mt (m_Layout_cut T) hr (by decide) (pv 1) (pa_cons (pv 3) (pa_cons (pv 4) (pa_cons (pv 5) pa_nil))))) (pa_cons (pe_redone T LI hr (by decide) (by rfl) (pa_cons (pv 2) (pa_cons (pv 6) (pa_cons (pv 7) pa_nil)))) pa_nil)))))))), ?_⟩
  obtain ⟨rl, cl, xs, ht', hrl', hR', hcl'⟩ := id hO
  have ht := hid_ex _ _ _ _ ht'
  have hrl := hid_ex _ _ _ _ hrl'
  have hcl := hid_ex _ _ _ _ hcl'
  have hlR := hR'.len
  have hR := hR'.ex (hid_ex H p)
  have ok := L.1.ro
  have htl := L.1.tl
  refine ⟨_, rfl, _, rfl, t, _, 0, _, rfl, rfl, .of ht, rfl, ?_⟩
  refine ⟨_, _, rfl, p, rl, xs, rows, rfl, rfl, hp, .inl hrl, hR, ok, hid_ne hrl', fun q H1 ys bs nq e1 hp1 hperm hq hys => ?_⟩
  have hbl : bs.length = tot rows := by rw [hperm.length_eq, allBits_len]
  match ys, hys.len, hq, hys with
  | [], hl, _, _ => rw [hbl] at hl; have : (0 : Nat) = tot rows := hl; omega
  | [_], hl, _, _ => rw [hbl] at hl; have : (1 : Nat) = tot rows := hl; omega
  | y0 :: y1 :: ys', _, hq, hys =>
  obtain ⟨⟨n1, j1⟩, bs1, rfl, ⟨t0, rfl, ht0⟩, hys1⟩ := hys.uncons
  obtain ⟨r, hm1, rfl, hj1⟩ := mem_allBits (hperm.mem_iff.mp (List.mem_cons_self ..))
  obtain ⟨d, hr1⟩ := List.getElem?_of_mem hm1
  have hj1 : j1 < r.2 := hj1
  refine ⟨q, _, 0, _, rfl, rfl, .of hq, rfl, t0, _, rfl, .of ht0, rfl, _, _, rfl, _, _, rfl, rfl, ?_⟩
  have hat : At rows r.1 d r := ⟨hr1, rfl⟩
  have hsz := hat.sz
  refine ⟨_, rfl, _, _, rfl, p, 2, rfl, rfl, hp1, by decide, by decide, fun v Ha hv ea hpa => ?_⟩
  have e0a := e1.trans ea
  have hta := e0a _ _ (hid_ne ht') ht
  have hrla := e0a _ _ (hid_ne hrl') hrl
  have hRa : RowsV Ha xs rows := (hR'.ex e0a.hid).ex (hid_ex _ _)
  refine ⟨_, rfl, t, _, 0, _, rfl, rfl, .of hta, rfl, rl, xs, rfl, .inl hrla, fun J G W hG => fun D hD => ?_⟩
  have hDp : D ≠ p := fun y => by obtain ⟨_, _, w⟩ := hpa; rw [y, w] at hD; cases hD
  refine lc_it W (fun i H' => Ex Ha H' ∧ ∃ as, H' D = some (.lst as) ∧ RowsV H' as ((rows.take i).map (cutRow r.1))) ⟨Ex.new hD, [], upd_same, RowsV.nil⟩ (fun i H' _ ⟨e, _⟩ => hG H' (by rw [e _ _ hrla, hrla])) ?_ ?_
  · rintro i x Hb Hc hi ⟨e, as, hDb, hA⟩ ⟨rfl, hx⟩
    obtain ⟨x1, hx1, tr, rfl, htr⟩ := hRa.at_ i x hx
    refine ⟨tr, _, rfl, .of (e _ _ htr), rfl, _, _, rfl, _, _, rfl, rfl, rfl, ?_⟩
    refine ⟨_, rfl, _, rfl, _, rfl, _, rfl, rfl, .inr ⟨_, rfl, _, _, rfl, rfl, ?_⟩⟩
    refine ⟨by show 2 ≤ sizeLine; decide, fun z hz => ?_⟩
    have hval : V.int ((x1.2 : Int) - (if decide (V.str x1.1 = V.str r.1) = true then 1 else 0)) = vN (cutRow r.1 x1).2 := by
      unfold cutRow
      by_cases hn : x1.1 = r.1
      · have hx2 : x1 = r := by
          have := nd_ix ok.nd (i := i) (j := d) (by rw [List.getElem?_map, hx1]; rfl) (by rw [List.getElem?_map, hr1]; exact congrArg some hn.symm)
          subst this
          rw [hx1] at hr1
          exact Option.some.inj hr1
        subst hx2
        simp [vN]
        omega
      · have hn2 : ¬ (V.str x1.1 = V.str r.1) := fun z => hn (by injection z)
        simp [hn, vN]
    generalize hH5 : upd Hc z (.tup _) = H5
    have hzv : H5 z = some (.tup [.str x1.1, vN (cutRow r.1 x1).2]) := by rw [← hH5, upd_same, ← hval]
    have e5 : Ex Hc H5 := by rw [← hH5]; exact Ex.new hz
    have hD5 := e5 _ _ hDb
    have hal := hA.len
    rw [List.length_map, List.length_take] at hal
    refine ⟨as, hD5, Nat.lt_of_le_of_lt (by omega : as.length ≤ 1000) (by decide), Ex.mut (Same.trans e e5) hD, as ++ [.ref z], upd_same, ?_⟩
    rw [List.take_add_one, hx1, List.map_append]
    have hA2 := (hA.ex e5).app (RowsV.one (r := cutRow r.1 x1) ⟨z, rfl, hzv⟩)
    refine ⟨hA2.len, fun i2 y hy => ?_⟩
    obtain ⟨r2, h1, t', rfl, h2⟩ := hA2.at_ i2 y hy
    exact ⟨r2, h1, t', rfl, by rw [upd_ne (ne_of h2 hD5 (by intro y; cases y))]; exact h2⟩
  · rintro Hb ⟨eb, as, hDb, hA⟩
    rw [hlR, List.take_length, cut_rows ok.nd hr1] at hA
    refine ⟨by show 2 ≤ sizeLine; decide, fun z hz => ?_⟩
    refine ⟨z, _, rfl, .of upd_same, rfl, _, _, rfl, _, _, rfl, rfl, ?_⟩
    have ez : Ex Hb (upd Hb z (.tup [vN v, .ref D])) := Ex.new hz
    have hp2 := (hpa.ex eb).ex ez
    have hD2 := ez _ _ hDb
    have hA2 := hA.ex ez
    have e02 : Fp p H (upd Hb z (.tup [vN v, .ref D])) := e0a.trans (Fp.of (Same.trans eb ez))
    generalize upd Hb z (.tup [vN v, .ref D]) = H2 at hp2 hD2 hA2 e02 ⊢
    have hA2h : RowsV (hid H2 p) as (rows.set d (r.1, r.2 - 1)) := ⟨hA2.len, fun i2 y hy => by
      obtain ⟨r2, h1, t', rfl, h2⟩ := hA2.at_ i2 y hy
      exact ⟨r2, h1, t', rfl, hid_some h2 (pot_ne hp2 h2 (fun _ z => by cases z))⟩⟩
    have hT2 := tabs_fp hp e02 hT
    refine ⟨hT2, fun f c' pm ctv H3 e3 t3 n3 k3 => ?_⟩
    have hp3 : PotAt H3 p := by obtain ⟨a, b, z⟩ := hp2; exact ⟨a, b, e3 _ _ z (fun _ z => by cases z)⟩
    have hpf : f ≠ p := fun z => by obtain ⟨_, _, w⟩ := hp3; rw [z, w] at n3; cases n3
    have hcp : c' ≠ p := pot_ne hp3 k3 codeO_lst
    generalize hlo : lamObj _ _ _ _ pm c' ctv = lo
    have e4 : Ex H3 (upd H3 f (LamO f lo)) := Ex.new n3
    have hf4 : upd H3 f (LamO f lo) f = some (LamO f lo) := upd_same
    generalize upd H3 f (LamO f lo) = H4 at e4 hf4 ⊢
    subst hlo
    have hp4 := hp3.ex e4
    have hT4 := t3.ext e4
    have hc4 := e4 _ _ k3
    have e04 : Fn p H H4 := e02.fn.trans ((Fn.ofN e3).trans (Fn.of e4))
    obtain ⟨pa, pb, hpv⟩ := hp4
    refine ⟨p, _, hpv, trivial, fun od => ?_⟩
    have L5 : LayoutAt K (upd H4 p (.frz od (.lst [vN pa, vN pb]))) l rows cols k off := by
      have z := (L.exN e04.hid)
      rw [← hid_upd H4 p (.frz od (.lst [vN pa, vN pb]))] at z
      exact z.ex (hid_ex _ p)
    have e45 : ∀ H6, Ex (upd H4 p (.frz od (.lst [vN pa, vN pb]))) H6 → Fp p H4 (upd H6 p (.lst [vN pa, vN pb])) := fun H6 e => lock_fp e
    have hz5 : upd H4 p (.frz od (.lst [vN pa, vN pb])) p = some (.frz od (.lst [vN pa, vN pb])) := upd_same
    generalize upd H4 p (.frz od (.lst [vN pa, vN pb])) = H5 at L5 hz5 e45 ⊢
    obtain ⟨_, dx, am, mm, hl5, _⟩ := id L5
    refine ⟨_, rfl, l, dx, _, rfl, hl5, (by walk_at "lk"), _, rfl, _, rfl, _, rfl, ?_⟩
    refine ⟨_, _, _, _, rfl, l, rows, cols, k, off, r.1, d, r, j1, v, rfl, rfl, rfl, rfl, L5, hat, hj1, hv, fun l' H6 hl' e6 L6 => ⟨e6 _ _ hz5, ?_⟩⟩
    have e46 := e45 H6 e6
    have L7 := L6.frz (e6 _ _ hz5)
    rw [← hid_upd H6 p (.lst [vN pa, vN pb])] at L7
    have hp7 : PotAt (upd H6 p (.lst [vN pa, vN pb])) p := ⟨pa, pb, upd_same⟩
    generalize upd H6 p (.lst [vN pa, vN pb]) = H7 at e46 L7 hp7 ⊢
    have hT7 := tabs_fp ⟨pa, pb, hpv⟩ e46 hT4
    have e07 := e04.trans e46.fn
    have hf7 := e46 _ _ hpf hf4
    have hc7 := e46 _ _ hcp hc4
    have hR7 := hR'.exN e07.hid
    have hrl7' := e07.hid _ _ hrl' (fun _ z => by cases z)
    have hrl7 := hid_ex _ _ _ _ hrl7'
    have ht7 := hid_ex _ _ _ _ (e07.hid _ _ ht' (fun _ z => by cases z))
    have hcl7 := hid_ex _ _ _ _ (e07.hid _ _ hcl' (fun _ z => by cases z))
    have hdl : d < rows.length := (List.getElem?_eq_some_iff.mp hr1).1
    have hpp := tot_split hr1
    have hro : rows.set d (r.1, r.2 - 1) = rows.take d ++ [(r.1, r.2 - 1)] ++ rows.drop (d + 1) := set_take _ hdl
    have ok' := ok.set hr1 (s := r.2 - 1) (by omega)
    have hte := tot_set hr1 (r.1, r.2 - 1)
    have hpw : 2 ^ cols.length = 2 ^ tot rows := by rw [htl]
    have hv1 : v < 2 ^ 1 := by omega
    have hback : ∀ q, q < 2 ^ tot (rows.set d (r.1, r.2 - 1)) → seg (low rows d + j1) 1 (low rows d + j1) q v < 2 ^ tot rows := fun q hq' => by
      rw [hte] at hq'
      exact seg_lt hv1 (by omega) (by rw [show low rows d + j1 + (tot rows - (low rows d + j1 + 1)) = tot rows - r.2 + (r.2 - 1) by omega]; exact hq') (Nat.le_refl _) (by omega)
    have e27 : Fn p H2 H7 := ((Fn.ofN e3).trans (Fn.of e4)).trans e46.fn
    have hRn := hA2h.exN e27.hid
    have hDp7 := e27 _ _ hDp hD2 (fun _ z => by cases z)
    refine ⟨_, rfl, _, rfl, _, rfl, rfl, ?_⟩
    refine ⟨t, rl, cl, D, f, c', xs, as, cellsL cols off, rows, rows.set d (r.1, r.2 - 1), pm, ctv, fun q => seg (low rows d + j1) 1 (low rows d + j1) q v, rfl, ht7, .inl hrl7, hR7.ex (hid_ex _ _), ok, hcl7, .inl hDp7, hRn.ex (hid_ex _ _), ok', hf7, hc7, fun q hq' => ?_, ?_, by rw [hte]; omega, ?_, ?_⟩
    · rw [cellsL_len, hpw]; exact hback q hq'
    · rw [cellsL_len, ← htl]
      exact Nat.le_trans (Nat.pow_le_pow_right (n := 2) (j := 7) (by decide) (by omega)) (by decide)
    · intro q dd HB QQ hq' eB hdB hcont
      have nd' : (nms (rows.take d ++ [(r.1, r.2 - 1)] ++ rows.drop (d + 1))).Nodup := by rw [← hro]; exact ok'.nd
      have hA0 : (rows.take d).length = d := by rw [List.length_take]; omega
      have hlw : low (rows.set d (r.1, r.2 - 1)) d = low rows d := by rw [hro, List.append_assoc, low_appL (by omega), low_take (Nat.le_refl _)]
      have hg := dkv_val (rows.set d (r.1, r.2 - 1)) q ok'.nd (j := d) (r := (r.1, r.2 - 1)) (by rw [List.getElem?_set, if_pos rfl, if_pos hdl])
      rw [hlw] at hg
      have hx40 : (q >>> low rows d) % 2 ^ (r.2 - 1) < 2 ^ 40 := Nat.lt_of_lt_of_le (Nat.mod_lt _ (Nat.two_pow_pos _)) (Nat.pow_le_pow_right (by decide) (by omega))
      refine ⟨_, rfl, _, rfl, _, rfl, _, rfl, dd, _, rfl, .inl ⟨_, .inr r.1, .inl hdB, rfl, hg.symm⟩, _, rfl, _, rfl, ?_⟩
      refine ⟨_, _, _, rfl, (q >>> low rows d) % 2 ^ (r.2 - 1), j1, v, rfl, rfl, rfl, hx40, by omega, hv, ?_⟩
      have hcut := seg_cut (a := low rows d) (q := q) hj1 hv
      have hwlt : (((q >>> low rows d) % 2 ^ (r.2 - 1)) >>> j1 * 2 + v) <<< j1 ||| ((q >>> low rows d) % 2 ^ (r.2 - 1)) % 2 ^ j1 < 2 ^ 60 := by
        have h0 : ((q >>> low rows d) % 2 ^ (r.2 - 1)) >>> j1 ≤ (q >>> low rows d) % 2 ^ (r.2 - 1) := Nat.shiftRight_le _ _
        refine Nat.or_lt_two_pow ?_ ?_
        · rw [Nat.shiftLeft_eq]
          have h1 : (((q >>> low rows d) % 2 ^ (r.2 - 1)) >>> j1 * 2 + v) * 2 ^ j1 < 2 ^ 42 * 2 ^ 8 := Nat.mul_lt_mul_of_lt_of_le (by omega) (Nat.pow_le_pow_right (by decide) (by omega)) (by decide)
          exact Nat.lt_of_lt_of_le h1 (by decide)
        · exact mod_lt_60 (by omega)
      generalize hw : (((q >>> low rows d) % 2 ^ (r.2 - 1)) >>> j1 * 2 + v) <<< j1 ||| ((q >>> low rows d) % 2 ^ (r.2 - 1)) % 2 ^ j1 = wv at hcut hwlt ⊢
      obtain ⟨v1, v2, v3⟩ := vals_mid (M := [(r.1, r.2 - 1)]) (q := q) (wv := wv) ok.nd nd' hr1
      have htM : tot [(r.1, r.2 - 1)] = r.2 - 1 := by rw [tot_cons, tot_nil]; omega
      rw [← hro] at v1 v2 v3
      rw [htM] at v2
      refine ⟨_, _, _, rfl, dd, _, r.1, wv, rfl, rfl, rfl, hdB, ?_, fun d' HC _ eC hdC => ?_⟩
      · rw [List.length_map, idxR_len]; have := ok'.ln; omega
      refine hcont d' _ (ixV (putK (dkv (idxR (rows.set d (r.1, r.2 - 1)) q)) (.inr r.1) (vN wv))) HC eC ⟨hdC, fun x hx => ?_⟩ (fun x hx => ?_) ?_
      · obtain ⟨j, hj⟩ := List.getElem?_of_mem hx
        rcases Nat.lt_trichotomy j d with z | z | z
        · rw [v1 j x z hj, ixV_of (v1 j x z hj)]
        · subst z; rw [hr1] at hj; cases hj; rw [v3, ixV_of v3]
        · obtain ⟨i, rfl⟩ := Nat.le.dest (show d + 1 ≤ j from z)
          rw [v2 i x hj, ixV_of (v2 i x hj)]
      · obtain ⟨j, hj⟩ := List.getElem?_of_mem hx
        have hxs : x.2 ≤ 60 := by
          have := (At.sz ⟨hj, rfl⟩ : low rows j + x.2 ≤ tot rows); omega
        rcases Nat.lt_trichotomy j d with z | z | z
        · rw [ixV_of (v1 j x z hj)]; exact mod_lt_60 hxs
        · subst z; rw [hr1] at hj; cases hj; rw [ixV_of v3]; exact hwlt
        · obtain ⟨i, rfl⟩ := Nat.le.dest (show d + 1 ≤ j from z)
          rw [ixV_of (v2 i x hj)]; exact mod_lt_60 hxs
      · rw [packR_at (b := low rows d + (r.2 - 1)) (q := q) hr1 (fun j x hj hx => ixV_of (v1 j x hj hx)) (fun j x hx => ixV_of (v2 j x hx)) (shr_lt (by rw [hte] at hq'; rw [show low rows d + (r.2 - 1) + tot (rows.drop (d + 1)) = tot rows - r.2 + (r.2 - 1) by omega]; exact hq')), ixV_of v3, hcut]
    · intro q2 c2 HD nq2 eD hq2 nc2 hc2
      refine ⟨by show 2 ≤ sizeLine; decide, fun q hqn => ?_⟩
      refine chg_end e07 hp7 hT7 L7 eD hq2 nq2 hc2 nc2 (hid_some hDp7 hDp) hRn ?_ (by rw [hte]; omega) ?_ hqn h
      · rw [show cellsL (((restIx cols.length (low rows d + j1) 1).map (2 ^ ·)).map (cmb cols)) (cell cols off (v <<< (low rows d + j1))) = (List.range (2 ^ tot (rows.set d (r.1, r.2 - 1)))).map (cell (((restIx cols.length (low rows d + j1) 1).map (2 ^ ·)).map (cmb cols)) (cell cols off (v <<< (low rows d + j1)))) from by
          unfold cellsL; rw [List.length_map, List.length_map, restIx_len (by omega), hte, htl, show cols.length - 1 = cols.length - r.2 + (r.2 - 1) by omega]]
        refine List.map_congr_left fun q hq' => ?_
        have hq2 : q < 2 ^ tot (rows.set d (r.1, r.2 - 1)) := List.mem_range.mp hq'
        rw [cellsL_get (by rw [hpw]; exact hback q hq2), cell_then]
        congr 1
        unfold cell
        rw [cmb_rest (by omega) (by rw [← htl, show tot rows - 1 = tot rows - r.2 + (r.2 - 1) by omega, ← hte]; exact hq2) v hv1]
      · rw [List.length_set]; omega
end
end My
/-! *** W27 -/
namespace My
open PySem PySem.Spec PyProof.Rows L2 He LamX
local macro_rules | `(tactic| walk_at "lk") => `(tactic| (repeat (first | exact lk1 | exact lk0 | refine (lk2 (by decide +kernel)).trans ?_)))

/-! ### rows as plain data -/
abbrev dRow (r : Row) : PyData := .tuple [.str r.1, .int (r.2 : Int)]
abbrev dRows (rows : List Row) : PyData := .list (rows.map dRow)
theorem dpAll_rows {K : PySem.W.Frag} {H : Hp} : ∀ {rows : List Row} {xs : List V}, RowsV H xs rows → DpAll K H xs (rows.map dRow)
  | [], [], _ => .nil
  | [], x :: xs, h => absurd h.len (by simp)
  | r :: rows, [], h => absurd h.len (by simp)
  | r :: rows, x :: xs, h => by
    obtain ⟨b, bs, e, ⟨t, rfl, ht⟩, h2⟩ := h.uncons
    injection e with e1 e2
    subst e1 e2
    exact .cons (.tup (.of ht) (.cons (.str _) (.cons (.int _) .nil))) (dpAll_rows h2)
theorem dpRows {K : PySem.W.Frag} {H : Hp} {a : Addr} {rows : List Row} {xs : List V} (h : H a = some (.lst xs)) (hR : RowsV H xs rows) : Dp K H (.ref a) (dRows rows) := .lst (.of h) (dpAll_rows hR)
theorem strOk_name {s : Str} (h : NameOk s) : PyData.strOk s = true := by
  unfold PyData.strOk
  rw [← Array.all_toList, List.all_eq_true]
  have h0 : ∀ c ∈ lettersL, decide (c < 0x110000) = true := by decide +kernel
  exact fun c hc => h0 c (h.ch c hc)
theorem canLay_rows : ∀ l : List Row, (∀ r ∈ l, NameOk r.1) → PyData.canLayAll0 (l.map dRow) = true
  | [], _ => rfl
  | n :: l, h => by
    rw [List.map_cons, PyData.canLayAll0, canLay_rows l fun r hr => h r (List.mem_cons_of_mem _ hr)]
    simp [PyData.canLay0, PyData.canLayAll0, strOk_name (h n (List.mem_cons_self ..))]
theorem depth_rows : ∀ l : List Row, PyData.depthAll (l.map dRow) ≤ 1
  | [] => Nat.zero_le _
  | n :: l => by
    rw [List.map_cons, PyData.depthAll]
    exact Nat.max_le.mpr ⟨by simp [dRow, PyData.depth, PyData.depthAll], depth_rows l⟩
theorem shaped_rows {l : List Row} (h : ∀ r ∈ l, NameOk r.1) : SeqAt.shaped (dRows l) = true := by
  unfold SeqAt.shaped
  have := depth_rows l
  rw [PyData.canLay0, canLay_rows l h, PyData.depth]
  simp
  omega
section
variable {P : Program} {w : World} {K : PySem.W.Frag} {mg : Str → Option Value} {base : Heap} {tf : Str → Addr × Addr}
theorem sc_law_repeated : FnScope ["_law_pot_here", "_law_made", "_law_old", "_law_word", "_law_size", "_law_back", "_law_one"] ["_law_pot_here", "_law_made", "_law_old"] (defScope s_law_repeated) := C8.fnScope_by (by decide +kernel)
theorem c_law_repeated (T : Tx K mg) (B : TbF K mg base tf) : C8.Cal P w K mg base 9 "_law_repeated" (spChg K (tbl5 tf) fun rows => True) [] := by
  have h5 : ("_law_repeated" : Str) ∈ five := by decide
  refine cal_ofC T.d_law_repeated T.g_law_repeated B h5 sc_law_repeated (by intro _ _ _ _ _ _ us hl; match us, hl with | [_, _, _], _ => rfl) (fun _ _ _ _ h => len3 h) (fun A outer s H vs Q E hr h => ?_)
  obtain ⟨_, _, _, rfl, p, l, t, rows, cols, k, off, rfl, rfl, rfl, hp, hT, L, hO, htt, hln, hne, h⟩ := h
  have LI : LamIn (cxOf C8.CX0 P w K mg base ["_law_pot_here", "_law_made", "_law_old", "_law_word", "_law_size", "_law_back", "_law_one"] "_law_repeated" (defScope s_law_repeated) (ga K "_law_repeated") (.ref (tf "_law_repeated").1) A outer s H E).nox (lamP (bodyAt s_law_repeated 2)) (lamB (bodyAt s_law_repeated 2)) (lamSc (bodyAt s_law_repeated 2)) "_law_indexes_here" 2 _ :=
    ⟨lam1_by (sc := defScope s_law_repeated) (by decide +kernel), (by decide : ("_law_indexes_here" : Str) ∉ (["_law_pot_here", "_law_made", "_law_old", "_law_word", "_law_size", "_law_back", "_law_one"] : List Str)), fun pm c' ctv u => rfl, fun A1 outer1 s1 H1 f c' hr => (C8.pe_c (c_law_dropped T) hr (by decide) (by rfl) (pa_cons (pv 0) (pa_cons (pv 4) pa_nil)))⟩
  refine ⟨_, (pss_cons (ps_set (i := 3) sc_law_repeated.nd rfl (Or.inr rfl) (pe_ix ix_list (C8.pe_c (c_law_names T) hr (by decide) (by rfl) (pa_cons (pv 0) (pa_cons pe_int (pa_cons (pe_lc (own := [("_law_one", 6), ("_law_size", 4)]) (g := gTup K 2 (gCons (gName 6) (gCons (gName 4) gNil))) rfl sc_law_repeated.nd (pi_sq (pe_ix ix_tup (pv 2) pe_int (fun _ _ => rfl))) (blkOk_by (own := [("_law_one", 6), ("_law_size", 4)]) (N := ["_law_pot_here", "_law_made", "_law_old", "_law_word", "_law_size", "_law_back", "_law_one"]) (sc := defScope s_law_repeated) (by decide +kernel)) (fun _ _ _ _ _ => (pg_tup rfl (pgs_cons (pg_name (i := 6) sc_law_repeated.nd rfl (Or.inl rfl)) (pgs_cons (pg_name (i := 4) sc_law_repeated.nd rfl (Or.inl rfl)) pgs_nil)))) (fun _ _ _ _ _ => pts_nil) (fun _ _ _ _ _ => (pv 6))) pa_nil)))) pe_int (fun _ _ => rfl))) (pss_cons (ps_set (i := 4) sc_law_repeated.nd rfl (Or.inl rfl) (pe_callB (id := "min") (call_min2 rfl) (by rfl) T.b_min (by decide +kernel) (pa_cons (C8.pe_c (c_law_digit T) hr (by decide) (by rfl) (pa_cons (pv 0) (pa_cons pe_int pa_nil))) (pa_cons (pe_op op_sub pe_int (C8.pe_c (c_law_total T) hr (by decide) (by rfl) (pa_cons (pe_ix ix_tup (pv 2) pe_int (fun _ _ => rfl)) pa_nil))) pa_nil)))) (pss_cons (ps_set (i := 5) sc_law_repeated.nd rfl (Or.inl rfl) (pe_lam1 (T := tbl5 tf) (B.tb _ h5) rfl (tbl5_mem h5) (B.un h5) rfl (fun ok => LI.lam.has ok))) (pss_one (ps_ret (pe_tup (pa_cons (pe_lock (C8.pe_mt (m_Layout_repeated T) hr (by decide) (pv 1) (pa_cons (pv 3) (pa_cons (pv 4) pa_nil)))) (pa_cons (pe_redone T LI hr (by decide) (by rfl) (pa_cons (pv 2) (pa_cons (pe_op op_cat (pe_ix ix_tup (pv 2) pe_int (fun _ _ => rfl)) (pe_lst (pa_cons (pe_tup (pa_cons (pv 3) (pa_cons (pv 4) pa_nil))) pa_nil))) (pa_cons (pv 5) pa_nil)))) pa_nil)))))))), ?_⟩
  obtain ⟨rl, cl, xs, ht', hrl', hR', hcl'⟩ := id hO
  have ht := hid_ex _ _ _ _ ht'
  have hrl := hid_ex _ _ _ _ hrl'
  have hcl := hid_ex _ _ _ _ hcl'
  have hlR := hR'.len
  have hR := hR'.ex (hid_ex H p)
  have ok := L.1.ro
  have htl := L.1.tl
  refine ⟨_, rfl, _, rfl, t, _, 0, _, rfl, rfl, .of ht, rfl, rl, xs, rfl, .inl hrl, fun J G W hG => fun D hD => ?_⟩
  have hDp : D ≠ p := fun y => by obtain ⟨_, _, w⟩ := hp; rw [y, w] at hD; cases hD
  refine lc_it W (fun i H' => Ex H H' ∧ H' D = some (.lst ((nms (rows.take i)).map V.str))) ⟨Ex.new hD, upd_same⟩ (fun i H' _ ⟨e, _⟩ => hG H' (by rw [e _ _ hrl, hrl])) ?_ ?_
  · rintro i x Hb Hc hi ⟨e, hDb⟩ ⟨rfl, hx⟩
    obtain ⟨x1, hx1, tr, rfl, htr⟩ := hR.at_ i x hx
    refine ⟨tr, _, rfl, .of (e _ _ htr), rfl, _, _, rfl, _, _, rfl, rfl, rfl, ?_⟩
    refine ⟨_, rfl, _, hDb, ?_, e.mut hD, ?_⟩
    · rw [List.length_map, List.length_map, List.length_take]
      exact Nat.lt_of_le_of_lt (by omega : _ ≤ 100) (by decide)
    · rw [upd_same, List.take_add_one, hx1]; simp [nms]
  · rintro Ha ⟨ea, hDa⟩
    rw [hlR, List.take_length] at hDa
    have hpa := hp.ex ea
    refine ⟨_, _, _, rfl, p, D, 1, nms rows, rfl, rfl, rfl, hDp, hpa, by decide, hDa, ?_, fun q H1 fs nq e1 hp1 hq hfl hfn hfd hfu => ?_⟩
    · rw [List.length_map]; omega
    obtain ⟨n, rfl⟩ := List.length_eq_one_iff.mp hfl
    have hnok : NameOk n := hfn n (List.mem_cons_self ..)
    have hnn : n ∉ nms rows := hfu n (List.mem_cons_self ..)
    have e01 : Fp p H H1 := (Fp.of ea).trans e1
    refine ⟨q, _, 0, _, rfl, rfl, .of hq, rfl, ?_⟩
    refine ⟨_, rfl, _, _, rfl, p, 3, rfl, rfl, hp1, by decide, by decide, fun d Hd hd ed hpd => ?_⟩
    have e0d := e01.trans ed
    have htd := e0d _ _ (hid_ne ht') ht
    have hrld := e0d _ _ (hid_ne hrl') hrl
    have hRd : RowsV Hd xs rows := (hR'.ex e0d.hid).ex (hid_ex _ _)
    refine ⟨_, rfl, t, _, 0, _, rfl, rfl, .of htd, rfl, _, rfl, rl, xs, rows, rfl, .inl hrld, hRd, ok.ln, fun H2 e2b => ?_⟩
    have hp2 := hpd.ex e2b
    have e02 := e0d.trans (Fp.of e2b)
    refine ⟨_, _, rfl, rfl, _, _, rfl, ?_⟩
    have hmin : V.int (if ((7 : Int) - ((tot rows : Nat) : Int)) < ((d : Nat) : Int) then ((7 : Int) - ((tot rows : Nat) : Int)) else ((d : Nat) : Int)) = vN (min d (7 - tot rows)) := by
      by_cases hh : ((7 : Int) - ((tot rows : Nat) : Int)) < ((d : Nat) : Int)
      · rw [if_pos hh, Nat.min_eq_right (by omega)]
        show V.int _ = V.int _
        congr 1; omega
      · rw [if_neg hh, Nat.min_eq_left (by omega)]
    show gName 4 (V.int (if ((7 : Int) - ((tot rows : Nat) : Int)) < ((d : Nat) : Int) then ((7 : Int) - ((tot rows : Nat) : Int)) else ((d : Nat) : Int))) _ _ _
    rw [hmin]
    generalize hvv : min d (7 - tot rows) = v
    have hv7 : tot rows + v ≤ 7 := by omega
    have hT2 := tabs_fp hp e02 hT
    refine ⟨hT2, fun f c' pm ctv H3 e3 t3 n3 k3 => ?_⟩
    have hp3 : PotAt H3 p := by obtain ⟨a, b, z⟩ := hp2; exact ⟨a, b, e3 _ _ z (fun _ z => by cases z)⟩
    have hpf : f ≠ p := fun z => by obtain ⟨_, _, w⟩ := hp3; rw [z, w] at n3; cases n3
    have hcp : c' ≠ p := pot_ne hp3 k3 codeO_lst
    generalize hlo : lamObj _ _ _ _ pm c' ctv = lo
    have e4 : Ex H3 (upd H3 f (LamO f lo)) := Ex.new n3
    have hf4 : upd H3 f (LamO f lo) f = some (LamO f lo) := upd_same
    generalize upd H3 f (LamO f lo) = H4 at e4 hf4 ⊢
    subst hlo
    have hp4 := hp3.ex e4
    have hT4 := t3.ext e4
    have hc4 := e4 _ _ k3
    have e04 : Fn p H H4 := e02.fn.trans ((Fn.ofN e3).trans (Fn.of e4))
    obtain ⟨pa, pb, hpv⟩ := hp4
    refine ⟨p, _, hpv, trivial, fun od => ?_⟩
    have L5 : LayoutAt K (upd H4 p (.frz od (.lst [vN pa, vN pb]))) l rows cols k off := by
      have z := (L.exN e04.hid)
      rw [← hid_upd H4 p (.frz od (.lst [vN pa, vN pb]))] at z
      exact z.ex (hid_ex _ p)
    have e45 : ∀ H6, Ex (upd H4 p (.frz od (.lst [vN pa, vN pb]))) H6 → Fp p H4 (upd H6 p (.lst [vN pa, vN pb])) := fun H6 e => lock_fp e
    have hz5 : upd H4 p (.frz od (.lst [vN pa, vN pb])) p = some (.frz od (.lst [vN pa, vN pb])) := upd_same
    generalize upd H4 p (.frz od (.lst [vN pa, vN pb])) = H5 at L5 hz5 e45 ⊢
    obtain ⟨_, dx, am, mm, hl5, _⟩ := id L5
    refine ⟨_, rfl, l, dx, _, rfl, hl5, (by walk_at "lk"), _, rfl, _, rfl, ?_⟩
    refine ⟨_, _, _, rfl, l, rows, cols, k, off, n, v, rfl, rfl, rfl, L5, hnok, hnn, by omega, by omega, fun l' H6 hl' e6 L6 => ⟨e6 _ _ hz5, ?_⟩⟩
    have e46 := e45 H6 e6
    have L7 := L6.frz (e6 _ _ hz5)
    rw [← hid_upd H6 p (.lst [vN pa, vN pb])] at L7
    have hp7 : PotAt (upd H6 p (.lst [vN pa, vN pb])) p := ⟨pa, pb, upd_same⟩
    generalize upd H6 p (.lst [vN pa, vN pb]) = H7 at e46 L7 hp7 ⊢
    have hT7 := tabs_fp ⟨pa, pb, hpv⟩ e46 hT4
    have e07 := e04.trans e46.fn
    have hf7 := e46 _ _ hpf hf4
    have hc7 := e46 _ _ hcp hc4
    have hR7 := hR'.exN e07.hid
    have hrl7' := e07.hid _ _ hrl' (fun _ z => by cases z)
    have hrl7 := hid_ex _ _ _ _ hrl7'
    have ht7 := hid_ex _ _ _ _ (e07.hid _ _ ht' (fun _ z => by cases z))
    have hcl7 := hid_ex _ _ _ _ (e07.hid _ _ hcl' (fun _ z => by cases z))
    have ok' := L7.1.ro
    have hte : tot (rows ++ [(n, v)]) = tot rows + v := by rw [tot_app, tot_cons, tot_nil]; rfl
    have hpw : 2 ^ cols.length = 2 ^ tot rows := by rw [htl]
    refine ⟨_, rfl, ?_⟩
    refine ⟨_, rfl, t, _, 0, _, rfl, rfl, .of ht7, rfl, ?_⟩
    refine ⟨_, rfl, _, rfl, by show 2 ≤ sizeLine; decide, fun z1 hz1 => ⟨by show 1 ≤ sizeLine; decide, fun z2 hz2 => ?_⟩⟩
    have e8 : Ex H7 (upd H7 z1 (.tup [.str n, vN v])) := Ex.new hz1
    have hz1v : upd H7 z1 (.tup [.str n, vN v]) z1 = some (.tup [.str n, vN v]) := upd_same
    generalize upd H7 z1 (.tup [.str n, vN v]) = H8 at e8 hz1v hz2 ⊢
    have e9 : Ex H8 (upd H8 z2 (.lst [.ref z1])) := Ex.new hz2
    have hz2v : upd H8 z2 (.lst [.ref z1]) z2 = some (.lst [.ref z1]) := upd_same
    generalize upd H8 z2 (.lst [.ref z1]) = H9 at e9 hz2v ⊢
    have e79 := Same.trans e8 e9
    refine ⟨rl, z2, _, _, rfl, rfl, e79 _ _ hrl7, hz2v, ?_, fun z3 hz3 => ?_⟩
    · show xs.length + 1 ≤ _; exact Nat.le_trans (by omega : _ ≤ 200) (by decide)
    have e10 : Ex H9 (upd H9 z3 (.lst (xs ++ [.ref z1]))) := Ex.new hz3
    have hz3v : upd H9 z3 (.lst (xs ++ [.ref z1])) z3 = some (.lst (xs ++ [.ref z1])) := upd_same
    generalize upd H9 z3 (.lst (xs ++ [.ref z1])) = H10 at e10 hz3v ⊢
    have eA : Ex H7 H10 := Same.trans e79 e10
    have hpA := hp7.ex eA
    have hzp : z3 ≠ p := fun y => by obtain ⟨_, _, w⟩ := hp7.ex e79; rw [y, w] at hz3; cases hz3
    have hz1p : z1 ≠ p := fun y => by obtain ⟨_, _, w⟩ := hp7; rw [y, w] at hz1; cases hz1
    have e0A := e07.trans (Fn.of eA)
    have hRA := hR7.ex (Ex.hid eA p)
    have hRn : RowsV (hid H10 p) (xs ++ [.ref z1]) (rows ++ [(n, v)]) := hRA.app (RowsV.one (r := (n, v)) ⟨z1, rfl, hid_some (e10 _ _ (e9 _ _ hz1v)) hz1p⟩)
    refine ⟨_, rfl, rfl, ?_⟩
    refine ⟨t, rl, cl, z3, f, c', xs, xs ++ [.ref z1], cellsL cols off, rows, rows ++ [(n, v)], pm, ctv, fun q => q % 2 ^ tot rows, rfl, eA _ _ ht7, .inl (eA _ _ hrl7), hRA.ex (hid_ex _ _), ok, eA _ _ hcl7, .inl hz3v, hRn.ex (hid_ex _ _), ok', eA _ _ hf7, eA _ _ hc7, fun q hq' => ?_, ?_, by omega, ?_, ?_⟩
    · rw [cellsL_len, hpw]; exact Nat.mod_lt _ (Nat.two_pow_pos _)
    · rw [cellsL_len, ← htl]
      exact Nat.le_trans (Nat.pow_le_pow_right (n := 2) (j := 7) (by decide) (by omega)) (by decide)
    · intro q dd HB QQ hq' eB hdB hcont
      have hvals : ∀ (j : Nat) (x : Row), rows[j]? = some x → valV (dropK (dkv (idxR (rows ++ [(n, v)]) q)) (.inr n)) (.inr x.1) = some (vN ((q >>> low rows j) % 2 ^ x.2)) := fun j x hx => by
        have hj : j < rows.length := (List.getElem?_eq_some_iff.mp hx).1
        have hxn : x.1 ≠ n := fun z => hnn (by rw [← z]; exact List.mem_map.mpr ⟨x, List.mem_of_getElem? hx, rfl⟩)
        rw [valV_drop (fun z => hxn (by injection z)), dkv_val (j := j) (r := x) _ q ok'.nd (by rw [List.getElem?_append_left hj]; exact hx), low_appL (Nat.le_of_lt hj)]
      have hgn := dkv_val (rows ++ [(n, v)]) q ok'.nd (j := rows.length) (r := (n, v)) (by rw [List.getElem?_append_right (Nat.le_refl _), Nat.sub_self]; rfl)
      refine ⟨_, rfl, _, rfl, ?_⟩
      refine ⟨_, _, rfl, dd, _, n, _, rfl, rfl, hdB, hgn, fun d' HC _ eC hdC => ?_⟩
      refine hcont d' _ (ixV (dropK (dkv (idxR (rows ++ [(n, v)]) q)) (.inr n))) HC eC ⟨hdC, fun x hx => ?_⟩ (fun x hx => ?_) ?_
      · obtain ⟨j, hj⟩ := List.getElem?_of_mem hx
        rw [hvals j x hj, ixV_of (hvals j x hj)]
      · obtain ⟨j, hj⟩ := List.getElem?_of_mem hx
        have hxs : x.2 ≤ 60 := by
          have := (At.sz ⟨hj, rfl⟩ : low rows j + x.2 ≤ tot rows); omega
        rw [ixV_of (hvals j x hj)]; exact mod_lt_60 hxs
      · exact packR_of rows q fun j x hx => ixV_of (hvals j x hx)
    · intro q2 c2 HD nq2 eD hq2 nc2 hc2
      refine ⟨by show 2 ≤ sizeLine; decide, fun q hqn => ?_⟩
      refine chg_end e0A hpA (hT7.ext eA) (L7.ex (Ex.hid eA p)) eD hq2 nq2 hc2 nc2 (hid_some hz3v hzp) hRn ?_ (by omega) ?_ hqn h
      · rw [show cellsL ((selCols cols.length v).map (cmb cols)) (cell cols off 0) = (List.range (2 ^ tot (rows ++ [(n, v)]))).map (cell ((selCols cols.length v).map (cmb cols)) (cell cols off 0)) from by
          unfold cellsL; rw [List.length_map, List.length_append, List.length_map, List.length_range, List.length_replicate, hte, htl]]
        refine List.map_congr_left fun q hq' => ?_
        rw [cellsL_get (by rw [hpw]; exact Nat.mod_lt _ (Nat.two_pow_pos _)), cell_then]
        congr 1
        unfold cell
        rw [cmb_app, cmb_zeros, cmb_units, Nat.xor_zero, Nat.xor_zero, htl]
      · rw [List.length_append]; exact Nat.le_refl _
abbrev spChanged (K : PySem.W.Frag) (T : List (Addr × Str)) : Sp := spChg K T fun _ => True
theorem sc_law_changed : FnScope ["_law_pot_here", "_law_made", "_law_old", "_law_way"] ["_law_pot_here", "_law_made", "_law_old"] (defScope s_law_changed) := C8.fnScope_by (by decide +kernel)
theorem c_law_changed (T : Tx K mg) (B : TbF K mg base tf) : C8.Cal P w K mg base 10 "_law_changed" (spChanged K (tbl5 tf)) [] := by
  refine cal_of T.d_law_changed T.g_law_changed sc_law_changed (by intro _ _ _ _ _ _ us hl; match us, hl with | [_, _, _], _ => rfl) (fun _ _ _ _ h => by obtain ⟨a, b, c, rfl, _⟩ := h; rfl) (fun cdv A outer s H vs Q E hr h => ?_)
  obtain ⟨_, _, _, rfl, p, l, t, rows, cols, k, off, rfl, rfl, rfl, hp, hT, L, hO, htt, hln, _, h⟩ := h
  refine ⟨_, (pss_cons (ps_set (i := 3) sc_law_changed.nd rfl (Or.inl rfl) (C8.pe_c (c_law_digit T) hr (by decide) (by rfl) (pa_cons (pv 0) (pa_cons pe_int pa_nil)))) (pss_cons (ps_if (PW.pt (pw_or (pt_cmpR op_eq (pv 3) pe_int (nomark _)) (pw_or1 (pt_cmpR (op_eqD hr.units) (pe_ix ix_tup (pv 2) pe_int (fun _ _ => rfl)) (pe_lst pa_nil) (nomark _))))) (pss_one (ps_ret (C8.pe_c (c_law_repeated T B) hr (by decide) (by rfl) (pa_cons (pv 0) (pa_cons (pv 1) (pa_cons (pv 2) pa_nil)))))) pss_nil) (pss_cons (ps_if (pt_cmpR op_eq (pv 3) pe_int (nomark _)) (pss_one (ps_ret (C8.pe_c (c_law_flipped T B) hr (by decide) (by rfl) (pa_cons (pv 0) (pa_cons (pv 1) (pa_cons (pv 2) pa_nil)))))) pss_nil) (pss_cons (ps_if (pt_cmpR op_eq (pv 3) pe_int (nomark _)) (pss_one (ps_ret (C8.pe_c (c_law_fixed T B) hr (by decide) (by rfl) (pa_cons (pv 0) (pa_cons (pv 1) (pa_cons (pv 2) pa_nil)))))) pss_nil) (pss_cons (ps_if (pt_cmpR op_lt (C8.pe_c (c_law_total T) hr (by decide) (by rfl) (pa_cons (pe_ix ix_tup (pv 2) pe_int (fun _ _ => rfl)) pa_nil)) pe_int (nomark _)) (pss_one (ps_ret (C8.pe_c (c_law_repeated T B) hr (by decide) (by rfl) (pa_cons (pv 0) (pa_cons (pv 1) (pa_cons (pv 2) pa_nil)))))) pss_nil) (pss_one (ps_ret (pe_ifExp (pt_cmpR op_eq (pv 3) pe_int (nomark _)) (C8.pe_c (c_law_stirred T B) hr (by decide) (by rfl) (pa_cons (pv 0) (pa_cons (pv 1) (pa_cons (pv 2) pa_nil)))) (C8.pe_c (c_law_cut T B) hr (by decide) (by rfl) (pa_cons (pv 0) (pa_cons (pv 1) (pa_cons (pv 2) pa_nil)))))))))))), ?_⟩
  have pw : 0 < 5 := by decide
  obtain ⟨rl, cl, xs, ht', hrl', hR', hcl'⟩ := id hO
  have hlR := hR'.len
  have ok := L.1.ro
  refine ⟨_, rfl, _, _, rfl, p, 5, rfl, rfl, hp, by decide, by decide, fun wy H1 hw e1 hp1 => ?_⟩
  have go : ∀ (pre : List Row → Prop) (H2 : Hp), Fp p H H2 → PotAt H2 p → pre rows → spChg K (tbl5 tf) pre [.ref p, .ref l, .ref t] H2 Q C8.E0 := fun pre H2 e hp2 hpre =>
    ⟨_, _, _, rfl, p, l, t, rows, cols, k, off, rfl, rfl, rfl, hp2, tabs_fp hp e hT, L.exN e.fn.hid, hO.exN e.fn.hid, htt, hln, hpre,
      fun q l' t' H' rows' cols' off' e' hp' hT' hq L' hO' h1 h2 => h q l' t' H' rows' cols' off' (e.fn.trans e') hp' hT' hq L' hO' h1 h2⟩
  have ht1 := e1 _ _ (hid_ne ht') (hid_ex _ _ _ _ ht')
  have hrl1 := e1 _ _ (hid_ne hrl') (hid_ex _ _ _ _ hrl')
  have hR1 : RowsV H1 xs rows := (hR'.ex e1.hid).ex (hid_ex _ _)
  refine ⟨_, rfl, rfl, _, rfl, ite2 (fun q0 => iteT ⟨_, rfl, _, rfl, _, rfl, go _ H1 e1 hp1 trivial⟩) (fun q0 => ?_)⟩
  refine ⟨_, rfl, t, _, 0, _, rfl, rfl, .of ht1, rfl, Nat.zero_le _, fun z hz => ?_⟩
  have ez : Ex H1 (upd H1 z (.lst [])) := Ex.new hz
  have e02 : Fp p H (upd H1 z (.lst [])) := e1.trans (Fp.of ez)
  refine ⟨dRows rows, .list [], dpRows (ez _ _ hrl1) (hR1.ex ez), .lst (.of upd_same) .nil, shaped_rows ok.nm, rfl, _, rfl, ?_⟩
  have hp2 := hp1.ex ez
  have ht2 := ez _ _ ht1
  have hrl2 := ez _ _ hrl1
  have hR2 := hR1.ex ez
  generalize upd H1 z (.lst []) = H2 at e02 hp2 ht2 hrl2 hR2 ⊢
  refine ite2 (fun q1 => ⟨_, rfl, _, rfl, _, rfl, go _ H2 e02 hp2 trivial⟩) (fun q1 => ?_)
  have hne : rows ≠ [] := fun y => q1 (by subst y; rfl)
  refine ⟨_, rfl, rfl, _, rfl, ite2 (fun q2 => ⟨_, rfl, _, rfl, _, rfl, go _ H2 e02 hp2 hne⟩) (fun q2 => ?_)⟩
  refine ⟨_, rfl, rfl, _, rfl, ite2 (fun q2 => ⟨_, rfl, _, rfl, _, rfl, go _ H2 e02 hp2 hne⟩) (fun q2 => ?_)⟩
  refine ⟨_, rfl, t, _, 0, _, rfl, rfl, .of ht2, rfl, _, rfl, rl, xs, rows, rfl, .inl hrl2, hR2, ok.ln, fun H3 e3 => ?_⟩
  have e03 := e02.trans (Fp.of e3)
  have hp3 := hp2.ex e3
  refine ⟨_, _, rfl, rfl, _, rfl, ite2 (fun q3 => ⟨_, rfl, _, rfl, _, rfl, go _ H3 e03 hp3 trivial⟩) (fun q3 => ?_)⟩
  have h2 : 2 ≤ tot rows := by
    have q3 : ¬ (decide (((tot rows : Nat) : Int) < 2) = true) := q3
    rw [decide_eq_true_iff] at q3; omega
  exact ⟨_, rfl, rfl, _, rfl, ite2 (fun q3 => ⟨_, rfl, _, rfl, _, rfl, go _ H3 e03 hp3 h2⟩) (fun q3 => ⟨_, rfl, _, rfl, _, rfl, go _ H3 e03 hp3 h2⟩)⟩
end
end My
/-! *** G1 -/
/-! for in a generator def -/
namespace My
open PySem PySem.Spec PyProof.Rows L2 GenW
section
variable {M : Model} {A : Around} {R : GenEnd} {Y : Protocol} {n : Nat} {s₀ : Shared} {c : Code} {fs : List Frame} {s : Shared} {env : Env}
  {K : Flow → Sem PySem.Fin} {H : Value → Sem PySem.Fin} {gd : Bool → Bool} {lv : List Value → List Value}
theorem seg_For {target iter : Expr} {body orelse : List Stmt} {pos : Pos} (hs : ∀ x, foldedSetIterable iter env x = pure x)
    (h : wpAny M (A.over c fs) (eval iter env) (fun x s1 => wpAny M (A.over c fs) (pyIter x) (fun it s2 => ∀ p, Seg M A R Y n s₀ (.forLoop target it body orelse env) (M.den (.forLoop target it body orelse env))
      (.ret (fun r => ((match r with | .ok f => (.pure f : Sem Flow) | .error e => .raise e).onRaise (cameBack env)).wrap K H gd lv) none (gd false) (lv []) c p [] :: fs) s2)
      (fun e s' => Seg M A R Y n s₀ c (H e) fs s') s1) (fun e s' => Seg M A R Y n s₀ c (H e) fs s') s) :
    Seg M A R Y n s₀ c ((exec (.For target iter body orelse pos) env).wrap K H gd lv) fs s := by
  rw [exec_For]
  refine seg_bind_wrap (wpAny_standAt ?_)
  refine seg_bind_wrap (wpAny_mono h (fun x s1 h1 => ?_) fun _ _ z => z)
  rw [hs x]
  refine seg_bind_wrap (wpAny_pure ?_)
  refine seg_bind_wrap (wpAny_standAt ?_)
  refine seg_bind_wrap (wpAny_holding (wpAny_mono h1 (fun it s2 h2 => ?_) fun _ _ z => z))
  exact seg_call h2
end
section
variable {prog : Program} {w : World} {A : Around} {R : GenEnd} {Y : Protocol} {n : Nat} {s₀ : Shared} {fs : List Frame} {s : Shared} {env : Env}
abbrev notedK (env : Env) : Value → Sem PySem.Fin := fun e => (do noteFrame e env; theTreesLotGoes e : Sem Unit).wrap (fun _ => .raise e) .raise id id
theorem seg_block_nil (h : Seg (model prog w) A R Y n s₀ (.block [] env) (.pure (.done .next)) fs s) : Seg (model prog w) A R Y n s₀ (.block [] env) ((model prog w).den (.block [] env)) fs s := by
  show Seg _ A R Y n s₀ _ (do return Fin.done (← (execs [] env).onRaise (fun x => do noteFrame x env; theTreesLotGoes x))) fs s
  exact h
theorem seg_forLoop {target : Expr} {it : Value} {body : List Stmt}
    (h : wpAny (model prog w) (A.over (.forLoop target it body [] env) fs) (pyNext it) (fun r s1 => match r with
        | none => Seg (model prog w) A R Y n s₀ (.forLoop target it body [] env) (.pure (.again (.block [] env))) fs s1
        | some v => wpAny (model prog w) (A.over (.forLoop target it body [] env) fs) (letOwnedTupleGo target it v) (fun _ s2 =>
            wpAny (model prog w) (A.over (.forLoop target it body [] env) fs) (assign target env v) (fun _ s3 =>
              Seg (model prog w) A R Y n s₀ (.forLoop target it body [] env) ((execs body env).wrap (fun f => match f with
                | .next | .cont => .pure (.again (.forLoop target it body [] env))
                | .brk => .pure (.done .next)
                | .ret v => .pure (.done (.ret v))) (notedK env) id id) fs s3)
              (fun x s' => Seg (model prog w) A R Y n s₀ (.forLoop target it body [] env) (notedK env x) fs s') s2)
            (fun x s' => Seg (model prog w) A R Y n s₀ (.forLoop target it body [] env) (notedK env x) fs s') s1)
      (fun x s' => Seg (model prog w) A R Y n s₀ (.forLoop target it body [] env) (notedK env x) fs s') s) :
    Seg (model prog w) A R Y n s₀ (.forLoop target it body [] env) ((model prog w).den (.forLoop target it body [] env)) fs s := by
  have eN : ∀ x : Value, (do noteFrame x env; theTreesLotGoes x : Sem Unit).bind (fun _ => (.raise x : Sem PySem.Fin)) = notedK env x := fun x => Sem.bind_eq_wrap _ _
  show Seg _ A R Y n s₀ _ ((forTurn target it body [] env).onRaise (fun x => do noteFrame x env; theTreesLotGoes x)) fs s
  rw [Sem.onRaise_eq_wrap]
  unfold forTurn
  refine seg_bind_wrap (wpAny_standAt ?_)
  refine seg_bind_wrap (wpAny_onRaise (wpAny_mono h (fun r s1 h1 => ?_) fun x s' hx => wpAny_standAt (by rw [eN]; exact hx)))
  cases r with
  | none => exact h1
  | some v =>
    refine seg_bind_wrap (wpAny_mono h1 (fun _ s2 h2 => ?_) fun x s' hx => by rw [eN]; exact hx)
    refine seg_bind_wrap (wpAny_mono h2 (fun _ s3 h3 => ?_) fun x s' hx => by rw [eN]; exact hx)
    rw [Sem.bind_eq_wrap', Sem.wrap_wrap]
    rw [Sem.wrap_congr (execs body env) _ _ (K' := fun f => match f with
            | .next | .cont => .pure (.again (.forLoop target it body [] env))
            | .brk => .pure (.done .next)
            | .ret v => .pure (.done (.ret v))) (H' := notedK env)
        (fun f => by cases f <;> rfl) (fun e => by exact eN e)]
    exact h3
end
/-! ### the rule -/
def tGFor (wi : TI) (g : TG) (tb : TGn) : TGn := fun D ys σ H => wi σ H fun J H1 => ∃ W : Nat → Nat → List V → L2.St → Hp → Prop, (∃ m, W 0 m ys σ H1) ∧ ∀ i m ys σ H, W i m ys σ H →
  (J.stop i H ∧ D.nx ys σ H) ∨ (J.go i H ∧ ∃ N : List V → L2.St → Hp → Prop, (∀ ys' σ' H', N ys' σ' H' → ∃ m', m' < m ∧ W (i + 1) m' ys' σ' H') ∧ ∀ x H', J.yld i H x H' → g x σ H' fun σ2 H2 => tb { D with nx := N, ct := N, bk := D.nx } ys σ2 H2)
section
variable {X : Cx}
theorem gs_for {tg iter : Expr} {body : List Stmt} {wi : TI} {g : TG} {tb : TGn} {pos : Pos} (hp : PassesOwn (model X.prog X.w) X.A X.env X.xe) (hc : X.calm = true) (hi : PI X tg iter wi) (hg : PG X tg g) (hb : GSs X body tb)
    (hs : ∀ x, foldedSetIterable iter X.env x = pure x := by intro _; rfl) : GS X (.For tg iter body [] pos) (tGFor wi g tb) := by
  refine ⟨fun A S ip R n ys s₀ c fs K J gd lv s σ H D gg hn k hI ht => ?_⟩
  obtain ⟨acc0, cc0, r0, I0⟩ := hI
  refine seg_For hs ?_
  rw [gg.over]
  refine wpAny_mono (hi.run _ s σ H _ I0 ht) (fun v s1 h1 => ?_) fun x s' hx => k.exc n s₀ x s' hx
  refine wpAny_mono h1 (fun itv s2 h2 => ?_) fun x s' hx => k.exc n s₀ x s' hx
  obtain ⟨it, fp, tn, Jt, H2, e, I2, T, st2, f2, W, ⟨m0, w0⟩, turn⟩ := h2
  subst e
  intro p
  have stat : ∀ {H' : Hp}, (∀ b ∈ fp, H' b = none) → ∀ b ∈ fp, FpOk X ((S, lstObj acc0 cc0) :: ip) H' b := fun hn b hb => ⟨hn b hb, (f2 b hb).2⟩
  have fpS : ∀ b ∈ fp, b ≠ S := fun b hb z => (f2 b hb).2.2.2.2.2 (S, lstObj acc0 cc0) (List.mem_append_right _ List.mem_cons_self) z.symm
  have stat2 : ∀ {H' : Hp} {acc : Array Value} {cc : Nat}, (∀ b ∈ fp, H' b = none) → ∀ b ∈ fp, FpOk X ((S, lstObj acc cc) :: ip) H' b := fun {H' acc cc} hn b hb => by
    obtain ⟨_, a2, a3, a4, a5, a6⟩ := f2 b hb
    refine ⟨hn b hb, a2, a3, a4, a5, fun q hq => ?_⟩
    rcases List.mem_append.mp hq with hq | hq
    · exact a6 q (List.mem_append_left _ hq)
    · rcases List.mem_cons.mp hq with hq | hq
      · rw [hq]; exact Ne.symm (fpS b hb)
      · exact a6 q (List.mem_append_right _ (List.mem_cons_of_mem _ hq))
  have gl := fun (kk : Result → Sem PySem.Fin) => gc_loop (k := kk) (c' := .forLoop tg (.ref it) body [] X.env) (l := lv []) (kp := []) (p := p) gg rfl rfl
  have gb := fun (kk : Result → Sem PySem.Fin) => gc_loop (k := kk) (c' := .block [] X.env) (l := lv []) (kp := []) (p := p) gg rfl rfl
  have loop : ∀ (m i n : Nat) (ys : List V) (s₀ s : Shared) (σ : L2.St) (H : Hp), n + ys.length = sizeLine → W i m ys σ H → GI X S ip ys σ H s → tn i s.heap → (∀ b ∈ fp, H b = none) →
      Seg (model X.prog X.w) A R (GY X S) n s₀ (.forLoop tg (.ref it) body [] X.env) ((model X.prog X.w).den (.forLoop tg (.ref it) body [] X.env))
        (.ret (fun r => ((match r with | .ok f => (.pure f : Sem Flow) | .error e => .raise e).onRaise (cameBack X.env)).wrap K J gd lv) none (gd false) (lv []) c p [] :: fs) s := by
    intro m
    induction m using Nat.strongRecOn with
    | ind m ih =>
      intro i n ys s₀ s σ H hn w hI hst hfr
      have ee : ∀ (n : Nat) (s₀ : Shared) (x : Value) (s' : Shared), X.xe x s' → Seg (model X.prog X.w) A R (GY X S) n s₀ (.forLoop tg (.ref it) body [] X.env) (notedK X.env x)
          (.ret (fun r => ((match r with | .ok f => (.pure f : Sem Flow) | .error e => .raise e).onRaise (cameBack X.env)).wrap K J gd lv) none (gd false) (lv []) c p [] :: fs) s' := fun n s₀ x s' hx => by
        refine seg_wrap ?_
        rw [(gl _).over]
        refine wpAny_bind (wpAny_mono (hp x s' hx) (fun _ s'' hcb => wpAny_theTreesLotGoes ?_) fun y s'' hcb => ?_)
        · exact seg_leaf (.error x) (seg_cameBack gg k hcb)
        · exact seg_leaf (.error y) (seg_cameBack gg k hcb)
      refine seg_forLoop ?_
      rw [(gl _).over]
      obtain ⟨acc, cc, r, I⟩ := hI
      rcases turn i m ys σ H w with ⟨stop, qn⟩ | ⟨go, N, hN, step⟩
      · refine wpAny_mono (T.done X rfl rfl rfl hc i _ s σ H X.xe I (stat2 hfr) hst stop) (fun r4 s4 hr4 => ?_) fun x s' hx => ee n s₀ x s' hx
        obtain ⟨hr, I4⟩ := hr4
        subst hr
        refine seg_again rfl (seg_block_nil ?_)
        exact seg_leaf (.ok .next) (k.ok n ys s₀ s4 .next hn ⟨σ, H, ⟨acc, cc, r, I4⟩, qn⟩)
      · refine wpAny_mono (T.item X rfl rfl rfl hc i _ s σ H X.xe I (stat2 hfr) hst go) (fun r4 s4 hr4 => ?_) fun x s' hx => ee n s₀ x s' hx
        obtain ⟨u, hr, h4⟩ := hr4
        subst hr
        refine wpAny_mono h4 (fun _ s5 h5 => ?_) fun x s' hx => ee n s₀ x s' hx
        obtain ⟨x, H5, I5, r5, y5, st5, fr5⟩ := h5
        have I5' := I5.pinned (stat2 fr5) (T.obj _ _ st5)
        refine wpAny_mono (hg.run _ s5 σ H5 x u _ I5' r5 (step x H5 y5)) (fun _ s6 h6 => ?_) fun x s' hx => ee n s₀ x s' hx
        obtain ⟨σ6, H6, I6, q6⟩ := h6
        have G6 : GI X S (ip ++ pinsAt fp s5.heap) ys σ6 H6 s6 := ⟨acc, cc, r, I6⟩
        have ipS : ∀ p ∈ ip ++ pinsAt fp s5.heap, p.1 ≠ S := fun q hq => by
          rcases List.mem_append.mp hq with hq | hq
          · exact gg.ip q hq
          · exact fpS _ (of_pinsAt hq).1
        have again : ∀ {n' : Nat} {ys' : List V} {s₀' s7 : Shared} {σ7 : L2.St} {H7 : Hp}, n' + ys'.length = sizeLine → GI X S (ip ++ pinsAt fp s5.heap) ys' σ7 H7 s7 → N ys' σ7 H7 →
            Seg (model X.prog X.w) A R (GY X S) n' s₀' (.forLoop tg (.ref it) body [] X.env) (.pure (.again (.forLoop tg (.ref it) body [] X.env)))
              (.ret (fun r => ((match r with | .ok f => (.pure f : Sem Flow) | .error e => .raise e).onRaise (cameBack X.env)).wrap K J gd lv) none (gd false) (lv []) c p [] :: fs) s7 := fun {n' ys' s₀' s7 σ7 H7} hn' I7 n7 => by
          obtain ⟨m', hm, w7⟩ := hN ys' σ7 H7 n7
          obtain ⟨acc7, cc7, r7, J7⟩ := I7
          refine seg_again rfl (ih m' hm (i + 1) n' ys' s₀' s7 σ7 H7 hn' w7 ⟨acc7, cc7, r7, ?_⟩ ?_ ?_)
          · exact J7.pins_of fun q hq => J7.pin q (List.mem_append_right _ (by
              rcases List.mem_cons.mp hq with z | z
              · rw [z]; exact List.mem_cons_self
              · exact List.mem_cons_of_mem _ (List.mem_append_left _ z)))
          · exact T.keep _ _ _ st5 fun b hb o e => (J7.pin (b, o) (List.mem_append_right _ (List.mem_cons_of_mem _ (List.mem_append_right _ (mem_pinsAt hb e))))).1
          · intro b hb
            obtain ⟨o, e, d⟩ := T.obj _ _ st5 b hb
            exact (J7.pin (b, o) (List.mem_append_right _ (List.mem_cons_of_mem _ (List.mem_append_right _ (mem_pinsAt hb e))))).2.1
        have back : ∀ {ys' : List V} {s7 : Shared} {σ7 : L2.St} {H7 : Hp}, GI X S (ip ++ pinsAt fp s5.heap) ys' σ7 H7 s7 → GI X S ip ys' σ7 H7 s7 := fun {ys' s7 σ7 H7} I7 => by
          obtain ⟨acc7, cc7, r7, J7⟩ := I7
          exact ⟨acc7, cc7, r7, J7.pins_of fun q hq => J7.pin q (List.mem_append_right _ (by
              rcases List.mem_cons.mp hq with z | z
              · rw [z]; exact List.mem_cons_self
              · exact List.mem_cons_of_mem _ (List.mem_append_left _ z)))⟩
        have gl2 : GC X S (ip ++ pinsAt fp s5.heap) A (.forLoop tg (.ref it) body [] X.env) (.ret (fun r => ((match r with | .ok f => (.pure f : Sem Flow) | .error e => .raise e).onRaise (cameBack X.env)).wrap K J gd lv) none (gd false) (lv []) c p [] :: fs) id :=
          ⟨gg.pn, ipS, gg.apart, (gl _).over, (gl _).split, (gl _).guard, rfl⟩
        refine hb.run A S (ip ++ pinsAt fp s5.heap) R n ys s₀ _ _ _ _ id id s6 σ6 H6 { D with nx := N, ct := N, bk := D.nx } gl2 hn ⟨fun n' ys' s₀' s7 f hn' hs => ?_, fun n' s₀' x s3 hx => ee n' s₀' x s3 hx⟩ G6 q6
        cases f with
        | next => obtain ⟨σ7, H7, I7, n7⟩ := hs; exact again hn' I7 n7
        | cont => obtain ⟨σ7, H7, I7, n7⟩ := hs; exact again hn' I7 n7
        | brk =>
          obtain ⟨σ7, H7, I7, q7⟩ := hs
          exact seg_leaf (.ok .next) (k.ok n' ys' s₀' s7 .next hn' ⟨σ7, H7, back I7, q7⟩)
        | ret v =>
          obtain ⟨x7, σ7, H7, I7, r7, q7⟩ := hs
          exact seg_leaf (.ok (.ret v)) (k.ok n' ys' s₀' s7 (.ret v) hn' ⟨x7, σ7, H7, back I7, r7, q7⟩)
  exact loop m0 0 n ys s₀ s2 σ H2 hn w0 ⟨acc0, cc0, r0, I2⟩ st2 fun b hb => (f2 b hb).1
end
end My
/-! *** G2 -/
namespace My
open PySem PySem.Spec PyProof.Rows L2 He
def gsC (N P : List Str) (sc : Scope) : Bool :=
  decide (sc.kind = .function) && !sc.isCoroutine && sc.isGenerator && decide N.Nodup && decide (N.take P.length = P) && P.all (fun x => decide (sc.names.lookup x = some .local) || decide (sc.names.lookup x = some .cell)) && sc.names.all (fun y => decide (y.2 ≠ .free))
theorem gScope_by {N P : List Str} {sc : Scope} (h : gsC N P sc = true) : GScope N P sc := by
  unfold gsC at h
  simp only [Bool.and_eq_true, Bool.not_eq_true', decide_eq_true_eq, List.all_eq_true, Bool.or_eq_true] at h
  obtain ⟨⟨⟨⟨⟨⟨h1, h2⟩, h3⟩, h4⟩, h5⟩, h6⟩, h7⟩ := h
  exact ⟨h1, h2, h3, h4, h5, h6, h7⟩
/-- a generator method of an own class -/
structure Gme (P : Program) (w : World) (K : PySem.W.Frag) (mg : Str → Option Value) (base : Heap) (k : Nat) (C : Addr) (m : Str) (sp : SpG) : Prop where
  ex : ∃ (f : Addr) (fd : FuncData) (ps : List Str), Cls K C ∧ Meth K C m f ∧ GFn P w K mg base k f fd ps sp ∧ Binds K fd ps []
section
variable {P : Program} {w : World} {K : PySem.W.Frag} {mg : Str → Option Value} {base : Heap}
theorem gme_of {C f : Addr} {m qual : Str} {st : Stmt} {N ps : List Str} {k : Nat} {sp : SpG} (c : Cls K C) (me : Meth K C m f) (D : DefF K m qual st f) (S : GScope N ps (defScope st))
    (hb : ∀ (kV doc pm : Value) (an : Option Addr) (cdv ct : Value) (us : List Value), us.length = ps.length → bindArgs (PySem.W.fnOf m qual (defArgs st) (defBody st) (defScope st) .none kV doc pm an cdv ct) ⟨us, []⟩ = pure (ps.zip us))
    (len : ∀ vs H Q E, sp vs H Q E → vs.length = ps.length)
    (hbody : ∀ (cdv : Value) (A : Around) (outer : List Env) (s : Shared) (H : Hp) (vs : List V) (Q : List V → Hp → Prop) (E : XK) (pn : List (Addr × Obj)), Room k (A.deeper (envOfC qual (defScope st) s.heap.objs.size f cdv)) → sp vs H Q E →
      ∃ t, GSs (gcxOf P w K mg base N qual (defScope st) f cdv A outer s H E pn) (defBody st) t ∧ t { nx := fun ys _ H' => Q ys H', rt := fun ys v H' => v = .non ∧ Q ys H' } [] (start N vs) H) : Gme P w K mg base (k + 1) C m sp := by
  obtain ⟨fd, F⟩ := D
  have b := F.bindsN hb
  obtain ⟨oc, od, dV, kV, doc, pm, an, cdv, ct, osl, rfl, lk, hcd, _, _⟩ := F.ex
  exact ⟨f, _, ps, c, me, gfn_of lk hcd S len fun A outer s H vs Q E pn hr h => hbody cdv A outer s H vs Q E pn hr h, b⟩
end
section
variable {X : Cx} {k j : Nat} {C : Addr} {m : Str} {sp : SpG} {o : Expr} {ta : TE} {p pos pos' apos : Pos} {pl : Sem Bool}
theorem noStop0 {K : PySem.W.Frag} : NoStop K C8.E0 := fun _ _ _ h => h.elim
theorem passX {P : Program} {w : World} {X : Cx} : Passes (CX P w) X C8.E0 := fun _ _ _ _ _ _ _ h => by
  obtain ⟨_, _, _, _, _, _, _, _, _, _, _, _, _, z⟩ := h
theorem gfor_it {J : It} {n : Nat} {G : Hp → Prop} {Y : Nat → Hp → V → Hp → Prop} (w : Walk J n G Y) {g : TG} {tb : TGn} {D : GEnds} {ys : List V} {σ : L2.St} {H : Hp} (Pv : Nat → List V → L2.St → Hp → Prop) (h0 : Pv 0 ys σ H) (hG : ∀ i ys σ H, i ≤ n → Pv i ys σ H → G H)
    (hs : ∀ i x ys σ H H', i < n → Pv i ys σ H → Y i H x H' → g x σ H' fun σ2 H2 => tb { D with nx := Pv (i + 1), ct := Pv (i + 1), bk := D.nx } ys σ2 H2) (hd : ∀ ys σ H, Pv n ys σ H → D.nx ys σ H) :
    ∃ W : Nat → Nat → List V → L2.St → Hp → Prop, (∃ m, W 0 m ys σ H) ∧ ∀ i m ys σ H, W i m ys σ H →
      (J.stop i H ∧ D.nx ys σ H) ∨ (J.go i H ∧ ∃ N : List V → L2.St → Hp → Prop, (∀ ys' σ' H', N ys' σ' H' → ∃ m', m' < m ∧ W (i + 1) m' ys' σ' H') ∧ ∀ x H', J.yld i H x H' → g x σ H' fun σ2 H2 => tb { D with nx := N, ct := N, bk := D.nx } ys σ2 H2) := by
  refine ⟨fun i m ys σ H => m = n - i ∧ i ≤ n ∧ Pv i ys σ H, ⟨n, by simp, Nat.zero_le _, h0⟩, ?_⟩
  rintro i m ys σ H ⟨rfl, hi, p⟩
  have q := hG i ys σ H hi p
  by_cases hlt : i < n
  · exact .inr ⟨w.goes i H hlt q, Pv (i + 1), fun ys' σ' H' p' => ⟨n - (i + 1), by omega, rfl, hlt, p'⟩, fun x H' y => hs i x ys σ H H' hlt p (w.yields i H x H' hlt q y)⟩
  · have e : i = n := by omega
    subst e
    exact .inl ⟨w.stops H q, hd ys σ H p⟩
/-- list(o.m()) of a generator method -/
theorem pe_lg (c : Gme X.prog X.w X.K X.mg X.base k C m sp) (hr : Room j X.A) (hk : k + 3 ≤ j) (hg : Gl X "list") (hmg : X.mg "list" = none) (he : PE X o ta)
    (ht : eval (.Call (.Attribute o m apos) [] [] pos') X.env = (do
      let ov ← eval o X.env
      standAt apos.atName
      let (f, first) ← holding [ov] (getMethod ov m pl)
      callWith pos' f first (backTo pos' (starEach [] X.env)) (backToKw pos' (keywordEach [] X.env))) := by rfl)
    (hst : starEach [.Call (.Attribute o m apos) [] [] pos'] X.env = (false, eval (.Call (.Attribute o m apos) [] [] pos') X.env) :: starEach [] X.env := by rfl) :
    PE X (.Call (.Name "list" p) [.Call (.Attribute o m apos) [] [] pos'] [] pos) (tListG (tMethG C m sp [] C8.E0 ta tNil)) := by
  obtain ⟨f, fd, ps, cl, hm, F, b⟩ := c.ex
  exact pe_listG (pgen_meth0 he cl hm F (hr.mono (by omega)) b .nil ht) passX noStop0 (hr.mono hk) hg hmg (by first | exact boot_list | decide +kernel) (by decide) (by decide) hst
end
section
local macro_rules | `(tactic| walk_at "lk") => `(tactic| (repeat (first | exact lk1 | exact lk0 | refine (lk2 (by decide +kernel)).trans ?_)))
variable {P : Program} {w : World} {K : PySem.W.Frag} {mg : Str → Option Value} {base : Heap}
abbrev spFWalk (K : PySem.W.Frag) : SpG := fun vs H Q _ => ∃ (f : Addr) (k : Nat) (B : List Nat) (pt : Nat), vs = [.ref f] ∧ FlatAt K H f k B pt ∧ B.length ≤ 16 ∧ ∀ H', Ex H H' → Q (vL (walkL pt B)) H'
theorem sc_Flat_walk : GScope ["self", "number"] ["self"] (defScope s_Flat_walk) := gScope_by (by decide +kernel)
theorem gm_Flat_walk (T : Tx K mg) : Gme P w K mg base 2 (CF K) "walk" (spFWalk K) := by
  refine gme_of T.i_Flat.cl T.q_Flat_walk T.d_Flat_walk sc_Flat_walk (by intro _ _ _ _ _ _ us hl; match us, hl with | [_], _ => rfl) (fun _ _ _ _ h => by obtain ⟨_, _, _, _, rfl, _⟩ := h; rfl) (fun cdv A outer s H vs Q E pn hr h => ?_)
  obtain ⟨f, k, B, pt, rfl, F, hB, h⟩ := h
  obtain ⟨dx, sa, hf, dxs, lb, hs, hb⟩ := id F
  refine ⟨_, (gss_cons (gs_for owns_gcx rfl (pi_range1 (by rfl) T.b_range (pa_cons (pe_op op_shl pe_int (pe_callB (id := "len") call_len (by rfl) T.b_len (by decide +kernel) (pa_cons (pe_fld (pe_fld (pv 0) rfl) rfl) pa_nil))) pa_nil)) (pg_name (i := 1) sc_Flat_walk.nd rfl (Or.inl rfl)) (gss_cons (gs_yield (pe_op op_xor (pe_fld (pv 0) rfl) (C8.pe_c (c_combined T) hr (by decide) (by rfl) (pa_cons (pe_fld (pe_fld (pv 0) rfl) rfl) (pa_cons (pv 1) pa_nil))))) gss_nil)) gss_nil), ?_⟩
  refine ⟨_, rfl, f, CF K, dx, _, _, rfl, hf, T.i_Flat.cl, T.n_Flat_own_space, fsF_space, sa, CS K, dxs, _, _, rfl, hs, T.i_Space.cl, T.n_Space_own_basis, fsS_basis, _, _, rfl, .inl ⟨_, .of hb, rfl⟩, ?_⟩
  rw [show (vL B).length = B.length from List.length_map _]
  refine ⟨_, _, rfl, rfl, cpow (n := B.length) (by omega), ?_⟩
  have hp : (1 : Int) * 2 ^ ((B.length : Int).toNat) = ((2 ^ B.length : Nat) : Int) := two_shl _
  have hsm : 2 ^ B.length ≤ 65536 := Nat.pow_le_pow_right (by decide : 2 > 0) hB
  have hd : sizeLine ≥ 65536 := by decide
  have h62 : ((2 ^ B.length : Nat) : Int) < 2 ^ 62 := by omega
  refine ⟨((2 ^ B.length : Nat) : Int), congrArg (fun z => [V.int z]) hp, Int.le_trans (by decide) (Int.natCast_nonneg _), h62, ?_⟩
  rw [Int.toNat_natCast]
  refine gfor_it (walk_range (lo := 0) (n := 2 ^ B.length)) (fun i ys σ H' => ys = vL ((List.range i).map (word pt B)) ∧ (∃ x, σ = [some (.ref f), x]) ∧ Ex H H') ⟨rfl, ⟨_, rfl⟩, Same.refl H⟩ (fun _ _ _ _ _ _ => True.intro) ?_ ?_
  · rintro i x ys σ H2 H3 hi ⟨rfl, ⟨y, rfl⟩, e⟩ ⟨rfl, rfl⟩
    show gName 1 (V.int (0 + (i : Int))) _ _ _
    rw [Int.zero_add]
    refine ⟨?_, _, rfl, f, CF K, dx, _, _, rfl, e _ _ hf, T.i_Flat.cl, T.n_Flat_own_point, fsF_point, ?_⟩
    · rw [List.length_map, List.length_map, List.length_range]; omega
    refine ⟨_, rfl, f, CF K, dx, _, _, rfl, e _ _ hf, T.i_Flat.cl, T.n_Flat_own_space, fsF_space, sa, CS K, dxs, _, _, rfl, e _ _ hs, T.i_Space.cl, T.n_Space_own_basis, fsS_basis, _, rfl, _, _, rfl, lb, B, i, rfl, rfl, e _ _ hb, ?_⟩
    refine ⟨_, _, rfl, rfl, ?_, ⟨_, rfl⟩, e⟩
    rw [range_snoc, List.map_append, vL_app]
    exact congrArg (fun z => vL ((List.range i).map (word pt B)) ++ [V.int z]) (xor_N _ _)
  · rintro ys σ H2 ⟨rfl, ⟨y, rfl⟩, e⟩
    exact h H2 e
/-- the pairs of a layout's walk -/
def PairsV (H : Hp) (xs : List V) (n : Nat) (rows : List Row) (f : Nat → Nat) : Prop :=
  xs.length = n ∧ ∀ i x, xs[i]? = some x → ∃ t d, x = .ref t ∧ H t = some (.tup [.ref d, vN (f i)]) ∧ H d = some (.dK (dkv (idxR rows i)))
theorem PairsV.ex {H H' : Hp} {xs : List V} {n : Nat} {rows : List Row} {f : Nat → Nat} (e : Ex H H') (h : PairsV H xs n rows f) : PairsV H' xs n rows f :=
  ⟨h.1, fun i x hx => let ⟨t, d, a, b, c⟩ := h.2 i x hx; ⟨t, d, a, e _ _ b, e _ _ c⟩⟩
theorem PairsV.snoc {H : Hp} {xs : List V} {n : Nat} {rows : List Row} {f : Nat → Nat} (h : PairsV H xs n rows f) {t d : Addr} (ht : H t = some (.tup [.ref d, vN (f n)])) (hd : H d = some (.dK (dkv (idxR rows n)))) : PairsV H (xs ++ [.ref t]) (n + 1) rows f := by
  refine ⟨by rw [List.length_append, h.1]; rfl, fun i x hx => ?_⟩
  rw [List.getElem?_append] at hx
  split at hx
  · exact h.2 i x hx
  · rename_i q
    have hi : i = n := by
      have h1 := h.1
      cases z : i - xs.length with
      | zero => omega
      | succ j => rw [z] at hx; simp at hx
    subst hi
    rw [h.1, Nat.sub_self] at hx
    exact ⟨t, d, (Option.some.inj hx).symm, ht, hd⟩
abbrev spLWalk (K : PySem.W.Frag) : SpG := fun vs H Q _ => ∃ (l : Addr) (rows : List Row) (cols : List Nat) (k off : Nat), vs = [.ref l] ∧ LayoutAt K H l rows cols k off ∧ cols.length ≤ 16 ∧ ∀ H' xs, Ex H H' → PairsV H' xs (2 ^ cols.length) rows (cell cols off) → Q xs H'
theorem sc_Layout_walk : GScope ["self", "place"] ["self"] (defScope s_Layout_walk) := gScope_by (by decide +kernel)
theorem gm_Layout_walk (T : Tx K mg) : Gme P w K mg base 5 (CL K) "walk" (spLWalk K) := by
  refine gme_of T.i_Layout.cl T.q_Layout_walk T.d_Layout_walk sc_Layout_walk (by intro _ _ _ _ _ _ us hl; match us, hl with | [_], _ => rfl) (fun _ _ _ _ h => by obtain ⟨_, _, _, _, _, rfl, _⟩ := h; rfl) (fun cdv A outer s H vs Q E pn hr h => ?_)
  obtain ⟨l, rows, cols, k, off, rfl, L, hn, h⟩ := h
  obtain ⟨ok, dx, a, m, hl, hA, M⟩ := id L
  obtain ⟨mo, dm, lc, hm, hc⟩ := id M
  refine ⟨_, (gss_cons (gs_for owns_gcx rfl (pi_range1 (by rfl) T.b_range (pa_cons (pe_op op_shl pe_int (pe_pp (p_Layout_bits T) hr (by decide) (pv 0) rfl)) pa_nil)) (pg_name (i := 1) sc_Layout_walk.nd rfl (Or.inl rfl)) (gss_cons (gs_yield (pe_tup (pa_cons (C8.pe_c (c_split_place T) hr (by decide) (by rfl) (pa_cons (pe_fld (pv 0) rfl) (pa_cons (pv 1) pa_nil))) (pa_cons (C8.pe_mt (m_Map_at T) hr (by decide) (pe_fld (pv 0) rfl) (pa_cons (pv 1) pa_nil)) pa_nil)))) gss_nil)) gss_nil), ?_⟩
  refine ⟨_, rfl, l, dx, _, rfl, hl, _, rfl, l, rows, cols, k, off, rfl, L, ?_⟩
  refine ⟨_, _, rfl, rfl, cpow (n := cols.length) (by omega), ?_⟩
  have hp : (1 : Int) * 2 ^ ((cols.length : Int).toNat) = ((2 ^ cols.length : Nat) : Int) := two_shl _
  have hsm : 2 ^ cols.length ≤ 65536 := Nat.pow_le_pow_right (by decide : 2 > 0) hn
  have hd : sizeLine ≥ 65536 := by decide
  have h62 : ((2 ^ cols.length : Nat) : Int) < 2 ^ 62 := by omega
  refine ⟨((2 ^ cols.length : Nat) : Int), congrArg (fun z => [V.int z]) hp, Int.le_trans (by decide) (Int.natCast_nonneg _), h62, ?_⟩
  rw [Int.toNat_natCast]
  refine gfor_it (walk_range (lo := 0) (n := 2 ^ cols.length)) (fun i ys σ H' => PairsV H' ys i rows (cell cols off) ∧ (∃ x, σ = [some (.ref l), x]) ∧ Ex H H') ⟨⟨rfl, fun i x hx => by simp at hx⟩, ⟨_, rfl⟩, Same.refl H⟩ (fun _ _ _ _ _ _ => True.intro) ?_ ?_
  · rintro i x ys σ H2 H3 hi ⟨hP, ⟨y, rfl⟩, e⟩ ⟨rfl, rfl⟩
    show gName 1 (V.int (0 + (i : Int))) _ _ _
    rw [Int.zero_add]
    refine ⟨by rw [hP.1]; omega, ?_⟩
    refine ⟨_, rfl, l, CL K, dx, _, _, rfl, e _ _ hl, T.i_Layout.cl, T.n_Layout_own_axes, fsL_ax, _, rfl, _, _, rfl, a, rows, i, rfl, rfl, hA.ex e, ok.ro, fun d H4 hd4 e4 hdv => ?_⟩
    have e14 := Same.trans e e4
    refine ⟨_, rfl, l, CL K, dx, _, _, rfl, e14 _ _ hl, T.i_Layout.cl, T.n_Layout_own_mapping, fsL_mp, m, dm, _, rfl, e14 _ _ hm, (by walk_at "lk"), _, rfl, _, _, rfl, m, cols, k, off, i, rfl, rfl, M.ex e14, hi, fun H5 e5 => ?_⟩
    refine ⟨by show 2 ≤ sizeLine; decide, fun t ht => ?_⟩
    have e15 := Same.trans e14 e5
    have e6 : Ex H5 (upd H5 t (.tup [.ref d, vN (cell cols off i)])) := Ex.new ht
    have ht6 : upd H5 t (.tup [.ref d, vN (cell cols off i)]) t = some (.tup [.ref d, vN (cell cols off i)]) := upd_same
    exact ⟨PairsV.snoc (hP.ex (Same.trans (Same.trans e4 e5) e6)) ht6 (e6 _ _ (e5 _ _ hdv)), ⟨_, rfl⟩, Same.trans e15 e6⟩
  · rintro ys σ H2 ⟨hP, ⟨y, rfl⟩, e⟩
    exact h H2 ys e hP
end
end My
/-! *** W28 -/
namespace My
open PySem PySem.Spec PyProof.Rows L2 He
local macro_rules | `(tactic| walk_at "lk") => `(tactic| (repeat (first | exact lk1 | exact lk0 | refine (lk2 (by decide +kernel)).trans ?_)))
section
variable {P : Program} {w : World} {K : PySem.W.Frag} {mg : Str → Option Value} {base : Heap}
/-- a flat as the program makes them -/
structure FlatOk (k : Nat) (B : List Nat) (pt : Nat) : Prop where
  bas : Bas B
  red : ∀ b ∈ B, pt.testBit b.log2 = false
  k8 : k ≤ 8
  lt : ∀ b ∈ B, b < 2 ^ k
  pl : pt < 2 ^ k
  n8 : B.length ≤ 8
abbrev spFBits (K : PySem.W.Frag) : Sp := spF1 fun a H Q => ∃ (f : Addr) (k : Nat) (B : List Nat) (pt : Nat), a = .ref f ∧ FlatAt K H f k B pt ∧ Q (vN k) H
theorem sc_Flat_bits : FnScope ["self"] ["self"] (defScope s_Flat_bits) := C8.fnScope_by (by decide +kernel)
theorem p_Flat_bits (T : Tx K mg) : Prp P w K mg base 1 (CF K) "bits" (spFBits K) := by
  obtain ⟨p, g, hp, D⟩ := T.q_Flat_bits
  refine prp_of T.i_Flat.cl hp D sc_Flat_bits (by intro _ _ _ _ _ _ us hl; match us, hl with | [_], _ => rfl) (fun _ _ _ _ h => len1 h) (fun cdv A outer s H vs Q E hr h => ?_)
  obtain ⟨_, rfl, f, k, B, pt, rfl, ⟨dx, sa, hf, ds, lb, hs, hb⟩, h⟩ := h
  refine ⟨_, (pss_one (ps_ret (pe_fld (pe_fld (pv 0) rfl) rfl))), ?_⟩
  exact ⟨_, rfl, f, CF K, dx, _, _, rfl, hf, T.i_Flat.cl, T.n_Flat_own_space, fsF_space, sa, CS K, ds, _, _, rfl, hs, T.i_Space.cl, T.n_Space_own_bits, fsS_bits, h⟩
abbrev spPlain (K : PySem.W.Frag) : Sp := spF1 fun a H Q => ∃ (f : Addr) (k : Nat) (B : List Nat) (pt : Nat), a = .ref f ∧ FlatAt K H f k B pt ∧ FlatOk k B pt ∧ ∀ H', Ex H H' → Q (.bl true) H'
theorem sc_law_is_plain : FnScope ["_law_told", "_law_words", "_law_same", "_law_word"] ["_law_told"] (defScope s_law_is_plain) := C8.fnScope_by (by decide +kernel)
theorem c_law_is_plain (T : Tx K mg) : CalG P w K mg base 7 "_law_is_plain" (spPlain K) := by
  refine calG_of T.d_law_is_plain T.g_law_is_plain sc_law_is_plain (by intro _ _ _ _ _ _ us hl; match us, hl with | [_], _ => rfl) (fun _ _ _ _ h => len1 h) (fun cdv A outer s H vs Q E hr hgd h => ?_)
  obtain ⟨_, rfl, f, k, B, pt, rfl, F, ok, h⟩ := h
  refine ⟨_, (pss_cons (ps_set (i := 1) sc_law_is_plain.nd rfl (Or.inr rfl) (pe_lg (gm_Flat_walk T) hr (by decide) (by rfl) T.b_list (pv 0))) (pss_cons (ps_set (i := 2) sc_law_is_plain.nd rfl (Or.inl rfl) (C8.pe_mk (c_Flat T) hr (by decide) (by rfl) (pa_cons (pe_ix ix_list (pv 1) (pe_un un_neg pe_int) (fun _ _ => rfl)) (pa_cons (C8.pe_mk (c_Space T) hr (by decide) (by rfl) (pa_cons (pe_lc (own := [("_law_word", 3)]) (g := gName 3) rfl sc_law_is_plain.nd (pi_list (pv 1)) (blkOk_by (own := [("_law_word", 3)]) (N := ["_law_told", "_law_words", "_law_same", "_law_word"]) (sc := defScope s_law_is_plain) (by decide +kernel)) (fun _ _ _ _ _ => (pg_name (i := 3) sc_law_is_plain.nd rfl (Or.inl rfl))) (fun _ _ _ _ _ => pts_nil) (fun _ _ _ _ _ => (pe_op op_xor (pe_ix (ix_listK K) (pv 1) pe_int (fun _ _ => rfl)) (pv 3)))) (pa_cons (pe_pp (p_Flat_bits T) hr (by decide) (pv 0) rfl) pa_nil))) pa_nil)))) (pss_one (ps_ret (pe_and (pe_cmpR (op_eqI (e_Flat T) hr (by decide)) (pv 0) (pv 2) (nomark _)) (pe_one (pe_cmpR op_eq (pe_callB (id := "repr") (call_reprO (r_Flat T) hr (by decide) hgd) (by rfl) T.b_repr (by decide +kernel) (pa_cons (pv 0) pa_nil)) (pe_callB (id := "repr") (call_reprO (r_Flat T) hr (by decide) hgd) (by rfl) T.b_repr (by decide +kernel) (pa_cons (pv 2) pa_nil)) (nomark _)))))))), ?_⟩
  obtain ⟨dx, sa, hf, hsa⟩ := id F
  have hn8 := ok.n8
  refine ⟨_, rfl, f, dx, _, rfl, hf, (by walk_at "lk"), f, k, B, pt, rfl, F, by omega, fun H1 e1 z hz => ?_⟩
  have e2 : Ex H1 (upd H1 z (.lst (vL (walkL pt B)))) := Ex.new hz
  have hzv : upd H1 z (.lst (vL (walkL pt B))) z = some (.lst (vL (walkL pt B))) := upd_same
  generalize upd H1 z (.lst (vL (walkL pt B))) = H2 at e2 hzv ⊢
  have e02 := Same.trans e1 e2
  have F2 := F.ex e02
  have hwl : (walkL pt B).length = 2 ^ B.length := by unfold walkL; rw [List.length_map, List.length_range]
  have hpos := Nat.two_pow_pos B.length
  have h256 : 2 ^ B.length ≤ 256 := Nat.pow_le_pow_right (n := 2) (j := 8) (by decide) hn8
  have hget : ∀ i, i < 2 ^ B.length → (walkL pt B)[i]? = some (word pt B i) := fun i hi => by
    unfold walkL; rw [List.getElem?_map, List.getElem?_range hi]; rfl
  refine ⟨_, rfl, _, rfl, z, _, -1, vN (word pt B (2 ^ B.length - 1)), rfl, rfl, .of hzv, ?_, ?_⟩
  · have hs : vL (walkL pt B) = (vL (walkL pt B)).take (2 ^ B.length - 1) ++ [vN (word pt B (2 ^ B.length - 1))] := by
      have h1 := hget (2 ^ B.length - 1) (by omega)
      have h2 : (vL (walkL pt B))[2 ^ B.length - 1]? = some (vN (word pt B (2 ^ B.length - 1))) := by rw [List.getElem?_map, h1]; rfl
      have h3 : (vL (walkL pt B)).take (2 ^ B.length - 1 + 1) = vL (walkL pt B) := List.take_of_length_le (by rw [List.length_map, hwl]; omega)
      rw [List.take_add_one, h2] at h3
      exact h3.symm
    rw [hs]
    exact atI_last _ _
  refine ⟨_, rfl, z, rfl, ⟨_, .of hzv⟩, fun D hD => ?_⟩
  refine lc_it (walk_list (K := K) (a := z) (xs := vL (walkL pt B))) (fun i H' => Ex H2 H' ∧ H' D = some (.lst (vL (((walkL pt B).take i).map (word pt B 0 ^^^ ·))))) ⟨Ex.new hD, upd_same⟩ (fun i H' _ ⟨e, _⟩ => .of (e _ _ hzv)) ?_ ?_
  · rintro i x H3 H4 hi ⟨e, hDv⟩ ⟨rfl, hx⟩
    obtain ⟨c, hc, rfl⟩ := vL_at hx
    refine ⟨rfl, _, rfl, z, _, 0, vN (word pt B 0), rfl, rfl, .of (e _ _ hzv), ?_, _, rfl, _, _, rfl, rfl, _, hDv, ?_, e.mut hD, ?_⟩
    · exact atI_nat (j := 0) (by rw [List.getElem?_map, hget 0 hpos]; rfl)
    · rw [List.length_map, List.length_map, List.length_take]
      exact Nat.lt_of_le_of_lt (by omega : _ ≤ 256) (by decide)
    · rw [upd_same, List.take_add_one, hc]
      show some (HO.lst (_ ++ [V.int (Builtin.bitXor ((word pt B 0 : Nat) : Int) (c : Int))])) = _
      rw [xor_N]
      unfold vL
      rw [List.map_append, List.map_append]; rfl
  · rintro H3 ⟨e, hDv⟩
    have e03 := Same.trans e02 e
    have F3 := F2.ex e
    rw [show (vL (walkL pt B)).length = (walkL pt B).length from List.length_map _, List.take_length] at hDv
    refine ⟨_, rfl, f, dx, _, rfl, e03 _ _ hf, _, rfl, f, k, B, pt, rfl, F3, ?_⟩
    have hwlt : ∀ y ∈ walkL pt B, y < 2 ^ k := fun y hy => by
      obtain ⟨i, _, rfl⟩ := List.mem_map.mp hy
      exact Nat.xor_lt_two_pow ok.pl (cmb_lt _ _ fun b hb => ok.lt b (List.mem_reverse.mp hb))
    have hw0 : word pt B 0 < 2 ^ k := hwlt _ (List.mem_of_getElem? (hget 0 hpos))
    have hk8 := ok.k8
    refine fun s2 ds2 ns nd _ => mk_space hDv (by rw [List.length_map, hwl]; omega) (by omega) (fun y hy => ?_) ns nd fun H4 B2 hB2 e4 S4 => ⟨rfl, ?_⟩
    · obtain ⟨c, hc, rfl⟩ := List.mem_map.mp hy
      exact Nat.xor_lt_two_pow hw0 (hwlt c hc)
    obtain rfl : B2 = B := plain_bas ok.bas hB2
    refine fun f2 df2 nf ndf _ => mk_flat S4 (by omega) (hwlt _ (List.mem_of_getElem? (hget (2 ^ B2.length - 1) (by omega)))) nf ndf fun H5 e5 F5 => ⟨rfl, ?_⟩
    rw [plain_point ok.bas ok.red] at F5
    have e05 := Same.trans e03 (Same.trans e4 e5)
    obtain ⟨df, sb, hf2, hsb⟩ := id F5
    have h256k : 2 ^ k ≤ 256 := Nat.pow_le_pow_right (n := 2) (j := 8) (by decide) hk8
    have hB256 : ∀ x ∈ B2, x < 256 := fun x hx => Nat.lt_of_lt_of_le (ok.lt x hx) h256k
    have hp256 : pt < 256 := Nat.lt_of_lt_of_le ok.pl h256k
    refine ⟨_, rfl, _, rfl, ⟨f, f2, dx, df, _, _, rfl, rfl, e05 _ _ hf, hf2, k, B2, pt, F.ex e05, F5⟩, fun H6 e6 => ⟨true, rfl, iteT ?_⟩⟩
    have e06 := Same.trans e05 e6
    refine ⟨_, rfl, f, dx, _, rfl, e06 _ _ hf, _, rfl, f, k, B2, pt, rfl, F.ex e06, hk8, hB256, hn8, hp256, fun t ht => ⟨t, rfl, ?_⟩⟩
    refine ⟨_, rfl, f2, df, _, rfl, e6 _ _ hf2, _, rfl, f2, k, B2, pt, rfl, F5.ex e6, hk8, hB256, hn8, hp256, fun t2 ht2 => ⟨t2, rfl, rfl, ?_⟩⟩
    subst ht ht2
    rw [decide_eq_true rfl]
    exact h H6 e06
end
end My
/-! *** W28b -/
namespace My
open PySem PySem.Spec PyProof.Rows L2 He
theorem weight_rows : ∀ l : List Row, (∀ r ∈ l, NameOk r.1) → (∀ r ∈ l, r.2 < 256) → PyData.weightAll (l.map dRow) ≤ 40 * l.length
  | [], _, _ => Nat.zero_le _
  | r :: l, h, h2 => by
    have h1 : (dN r.2).weight ≤ 9 := weight_small (h2 r List.mem_cons_self)
    have h3 := weight_rows l (fun x hx => h x (List.mem_cons_of_mem _ hx)) (fun x hx => h2 x (List.mem_cons_of_mem _ hx))
    have h4 := (h r List.mem_cons_self).hi
    have h5 : (dRow r).weight ≤ 30 := by
      simp only [dRow, PyData.weight, PyData.weightAll]
      unfold PyData.weight at h1
      unfold Str.length at h4
      omega
    rw [List.map_cons, PyData.weightAll, List.length_cons]; omega
theorem short_rows : ∀ l : List Row, (∀ r ∈ l, r.2 < 256) → PyData.intsShortAll 13 (l.map dRow) = true
  | [], _ => by simp only [List.map_nil, PyData.intsShortAll]
  | n :: l, h => by
    have h1 := short_int n.2 (h n List.mem_cons_self)
    simp only [dRow, List.map_cons, PyData.intsShortAll, PyData.intsShort, short_rows l fun x hx => h x (List.mem_cons_of_mem _ hx), decide_eq_true h1, Bool.and_self, Bool.true_and]
theorem show_rows : ∀ l : List Row, (∀ r ∈ l, r.2 < 256) → PyData.showableAll (l.map dRow) = true
  | [], _ => by simp only [List.map_nil, PyData.showableAll]
  | n :: l, h => by
    simp only [dRow, List.map_cons, PyData.showableAll, PyData.showable, show_rows l fun x hx => h x (List.mem_cons_of_mem _ hx), decide_eq_true (log_small (h n List.mem_cons_self)), Bool.and_self, Bool.true_and]
abbrev dTold (rows : List Row) (n : Nat) (cells : List Nat) : PyData := .list [dRows rows, .int (n : Int), dNums cells]
theorem shn_told {rows : List Row} {n : Nat} {cells : List Nat} (h : ∀ r ∈ rows, NameOk r.1) (h2 : ∀ r ∈ rows, r.2 < 256) (hr : rows.length ≤ 100) (hn : n < 256) (hc : ∀ x ∈ cells, x < 256) (hl : cells.length ≤ 1000) : Shn (dTold rows n cells) := by
  refine shn_of ?_ ?_ ?_ ?_ ?_
  · simp only [PyData.showable, PyData.showableAll, show_rows rows h2, show_nums cells hc, decide_eq_true (log_small hn), Bool.and_self]
  · simp only [PyData.canLay0, PyData.canLayAll0, canLay_rows rows h, canLay_nums cells, Bool.and_self]
  · simp only [PyData.depth, PyData.depthAll, depth_nums]
    have := depth_rows rows
    omega
  · have h1 := weight_rows rows h h2
    have h3 := weight_nums cells hc
    have h4 : (dN n).weight ≤ 9 := weight_small hn
    have e : (dTold rows n cells).weight = PyData.weightAll (rows.map dRow) + 1 + ((dN n).weight + 1 + (PyData.weightAll (cells.map dN) + 1 + 0)) := by
      simp only [PyData.weight, PyData.weightAll]
    rw [e]
    omega
  · simp only [PyData.intsShort, PyData.intsShortAll, short_rows rows h2, short_nums cells hc, decide_eq_true (short_int n hn), Bool.and_self]
theorem rising_ge {xs : List Nat} (h : xs.Pairwise (· < ·)) : ∀ (i : Nat) (hi : i < xs.length), i ≤ xs[i]
  | 0, _ => Nat.zero_le _
  | i + 1, hi => by
    have h1 := rising_ge h i (by omega)
    have h2 := List.pairwise_iff_getElem.mp h i (i + 1) (by omega) hi (by omega)
    omega
theorem rising_len {xs : List Nat} {n : Nat} (h : xs.Pairwise (· < ·)) (hn : ∀ x ∈ xs, x < n) : xs.length ≤ n := by
  by_cases h0 : xs.length = 0
  · omega
  · have h1 := rising_ge h (xs.length - 1) (by omega)
    have h2 := hn _ (List.getElem_mem (l := xs) (n := xs.length - 1) (by omega))
    omega
theorem pow_le_inv {a b : Nat} (h : 2 ^ a ≤ 2 ^ b) : a ≤ b := (Nat.pow_le_pow_iff_right (by decide)).mp h
theorem spn_lt {cols : List Nat} {k x : Nat} (h : ∀ c ∈ cols, c < 2 ^ k) (hx : Spn cols x) : x < 2 ^ k := by
  obtain ⟨n, _, rfl⟩ := cmb_spn hx
  exact cmb_lt cols n h
theorem bas_words {B : List Nat} {pt k : Nat} (hB : ∀ b ∈ B, b < 2 ^ k) (hp : pt < 2 ^ k) : ∀ x ∈ walkL pt B, x < 2 ^ k := fun x hx => by
  obtain ⟨i, _, rfl⟩ := List.mem_map.mp hx
  exact Nat.xor_lt_two_pow hp (cmb_lt _ _ fun b hb => hB b (List.mem_reverse.mp hb))
theorem bas_len {B : List Nat} {pt k : Nat} (b : Bas B) (hr : ∀ b ∈ B, pt.testBit b.log2 = false) (hB : ∀ b ∈ B, b < 2 ^ k) (hp : pt < 2 ^ k) : B.length ≤ k := by
  have := rising_len (walk_rising b hr) (bas_words hB hp)
  rw [walk_len] at this
  exact pow_le_inv this
theorem flat_ok {cols B : List Nat} {k off : Nat} (hB : IsBas cols B) (mok : MapOk cols k off) (hk : k ≤ 8) : FlatOk k B (leastSum off B) := by
  have hb : ∀ b ∈ B, b < 2 ^ k := fun b h => spn_lt mok.cl ((hB.spn b).mp (.mem h))
  have hr := least_out hB.bas.rb off
  have hl := least_lt B off mok.ol hb
  exact ⟨hB.bas, hr, hk, hb, hl, Nat.le_trans (bas_len hB.bas hr hb hl) hk⟩
theorem ints_vL (l : List Nat) : (l.map fun n => ((n : Nat) : Int)).map V.int = vL l := by
  unfold vL; rw [List.map_map]; rfl
theorem rising_int {l : List Nat} (h : l.Pairwise (· < ·)) : (l.map fun n => ((n : Nat) : Int)).Pairwise (· < ·) :=
  List.Pairwise.map _ (fun a b hab => by omega) h
theorem mem_int {l m : List Nat} (h : ∀ x, x ∈ l ↔ x ∈ m) (k : Int) : k ∈ (l.map fun n => ((n : Nat) : Int)) ↔ k ∈ (m.map fun n => ((n : Nat) : Int)) := by
  rw [List.mem_map, List.mem_map]
  exact ⟨fun ⟨a, b, c⟩ => ⟨a, (h a).mp b, c⟩, fun ⟨a, b, c⟩ => ⟨a, (h a).mpr b, c⟩⟩
end My
/-! *** W29 -/
namespace My
open PySem PySem.Spec PyProof.Rows L2 He
local macro_rules | `(tactic| walk_at "lk") => `(tactic| (repeat (first | exact lk1 | exact lk0 | refine (lk2 (by decide +kernel)).trans ?_)))
theorem PairsV.mut {H : Hp} {xs zs : List V} {n : Nat} {rows : List Row} {f : Nat → Nat} {D : Addr} {o : HO} (h : PairsV H xs n rows f) (hD : H D = some (.lst zs)) : PairsV (upd H D o) xs n rows f :=
  ⟨h.1, fun i x hx => let ⟨t, d, a, b, c⟩ := h.2 i x hx; ⟨t, d, a, by rw [upd_ne (ne_of b hD (by intro z; cases z))]; exact b, by rw [upd_ne (ne_of c hD (by intro z; cases z))]; exact c⟩⟩
theorem pairs_eq {K : PySem.W.Frag} {H : Hp} {xs ys : List V} {n : Nat} {rows : List Row} {f : Nat → Nat} (nd : (nms rows).Nodup) (h1 : PairsV H xs n rows f) (h2 : PairsV H ys n rows f) : Prs (DPair K) xs ys H := by
  refine ⟨h1.1.trans h2.1.symm, fun i x y hx hy => ?_⟩
  obtain ⟨t, d, rfl, ht, hd⟩ := h1.2 i x hx
  obtain ⟨t2, d2, rfl, ht2, hd2⟩ := h2.2 i y hy
  refine ⟨t, t2, _, _, rfl, rfl, .of ht, .of ht2, rfl, fun j a b ha hb => ?_⟩
  match j, ha, hb with
  | 0, ha, hb =>
    obtain rfl := Option.some.inj ha
    obtain rfl := Option.some.inj hb
    exact .inl ⟨d, d2, idxR rows i, rfl, rfl, hd, hd2, by rw [idxR_names]; exact nd⟩
  | 1, ha, hb =>
    obtain rfl := Option.some.inj ha
    obtain rfl := Option.some.inj hb
    exact .inr ⟨rfl, rfl, by simp [eqV, vN]⟩
  | j + 2, ha, hb => simp at ha
section
variable {P : Program} {w : World} {K : PySem.W.Frag} {mg : Str → Option Value} {base : Heap}
abbrev spShows (K : PySem.W.Frag) : Sp := spF3 fun a b c H Q => ∃ (p l t : Addr) (rows : List Row) (cols : List Nat) (k off : Nat), a = .ref p ∧ b = .ref l ∧ c = .ref t ∧ PotAt H p ∧
  LayoutAt K (hid H p) l rows cols k off ∧ OldAt (hid H p) t rows (cellsL cols off) ∧ tot rows ≤ 7 ∧ rows.length ≤ 20 ∧ k ≤ 8 ∧
  ∀ H', Fp p H H' → PotAt H' p → Q (.bl true) H'
theorem sc_law_shows : FnScope ["_law_pot_here", "_law_made", "_law_model", "_law_rows", "_law_cells", "_law_told", "_law_place_here", "_law_alike", "_law_cell_here", "_law_one"] ["_law_pot_here", "_law_made", "_law_model"] (defScope s_law_shows) := C8.fnScope_by (by decide +kernel)
theorem c_law_shows (T : Tx K mg) : CalG P w K mg base 10 "_law_shows" (spShows K) := by
  refine calG_of T.d_law_shows T.g_law_shows sc_law_shows (by intro _ _ _ _ _ _ us hl; match us, hl with | [_, _, _], _ => rfl) (fun _ _ _ _ h => len3 h) (fun cdv A outer s H vs Q E hr hgd h => ?_)
  obtain ⟨_, _, _, rfl, p, l, t, rows, cols, k, off, rfl, rfl, rfl, hp, L, hO, htt, hln, hk8, h⟩ := h
  refine ⟨_, (pss_cons (ps_asg (pv 2) (pg_tup rfl (pgs_cons (pg_name (i := 3) sc_law_shows.nd rfl (Or.inr rfl)) (pgs_cons (pg_name (i := 4) sc_law_shows.nd rfl (Or.inr rfl)) pgs_nil)))) (pss_cons (ps_set (i := 5) sc_law_shows.nd rfl (Or.inl rfl) (pe_lst (pa_cons (C8.pe_mt0 (m_Layout_axes T) hr (by decide) (pv 1)) (pa_cons (pe_pp (p_Layout_bits T) hr (by decide) (pv 1) rfl) (pa_cons (pe_lc (own := [("_law_place_here", 6)]) (g := gName 6) rfl sc_law_shows.nd (pi_range1 (by rfl) T.b_range (pa_cons (pe_callB (id := "len") call_len (by rfl) T.b_len (by decide +kernel) (pa_cons (pv 4) pa_nil)) pa_nil)) (blkOk_by (own := [("_law_place_here", 6)]) (N := ["_law_pot_here", "_law_made", "_law_model", "_law_rows", "_law_cells", "_law_told", "_law_place_here", "_law_alike", "_law_cell_here", "_law_one"]) (sc := defScope s_law_shows) (by decide +kernel)) (fun _ _ _ _ _ => (pg_name (i := 6) sc_law_shows.nd rfl (Or.inl rfl))) (fun _ _ _ _ _ => pts_nil) (fun _ _ _ _ _ => (C8.pe_mt (m_Layout_cell_at T) hr (by decide) (pv 1) (pa_cons (pv 6) pa_nil)))) pa_nil))))) (pss_cons (ps_if (pt_cmpR op_ne (pe_callB (id := "repr") (call_reprD hr hgd) (by rfl) T.b_repr (by decide +kernel) (pa_cons (pv 5) pa_nil)) (pe_callB (id := "repr") (call_reprD hr hgd) (by rfl) T.b_repr (by decide +kernel) (pa_cons (pe_lst (pa_cons (pv 3) (pa_cons (C8.pe_c (c_law_total T) hr (by decide) (by rfl) (pa_cons (pv 3) pa_nil)) (pa_cons (pv 4) pa_nil)))) pa_nil)) (nomark _)) (pss_one (ps_ret pe_bl)) pss_nil) (pss_cons (ps_if (PW.pt (pw_or (pt_cmpR (op_neD hr.units) (pe_lg (gm_Flat_walk T) hr (by decide) (by rfl) T.b_list (C8.pe_mt0 (m_Layout_cells T) hr (by decide) (pv 1))) (pe_sortSet (by rfl) T.b_sorted (by rfl) T.b_set (pv 4)) (nomark _)) (pw_or1 (pt_cmpR op_ne (pe_pp (p_Layout_is_injective T) hr (by decide) (pv 1) rfl) (pe_cmpR op_eq (pe_lenSetD (by rfl) T.b_len (by rfl) T.b_set (pv 4)) (pe_callB (id := "len") call_len (by rfl) T.b_len (by decide +kernel) (pa_cons (pv 4) pa_nil)) (nomark _)) (nomark _))))) (pss_one (ps_ret pe_bl)) pss_nil) (pss_cons (ps_if (pt_cmpR (op_neG mon_pair eqG_pair hr (by decide)) (pe_lg (gm_Layout_walk T) hr (by decide) (by rfl) T.b_list (pv 1)) (pe_lc (own := [("_law_place_here", 6), ("_law_cell_here", 8)]) (g := gTup K 2 (gCons (gName 6) (gCons (gName 8) gNil))) rfl sc_law_shows.nd (pi_enum (by rfl) T.b_enumerate (pa_cons (pv 4) pa_nil)) (blkOk_by (own := [("_law_place_here", 6), ("_law_cell_here", 8)]) (N := ["_law_pot_here", "_law_made", "_law_model", "_law_rows", "_law_cells", "_law_told", "_law_place_here", "_law_alike", "_law_cell_here", "_law_one"]) (sc := defScope s_law_shows) (by decide +kernel)) (fun _ _ _ _ _ => (pg_tup rfl (pgs_cons (pg_name (i := 6) sc_law_shows.nd rfl (Or.inl rfl)) (pgs_cons (pg_name (i := 8) sc_law_shows.nd rfl (Or.inl rfl)) pgs_nil)))) (fun _ _ _ _ _ => pts_nil) (fun _ _ _ _ _ => (pe_tup (pa_cons (C8.pe_c (c_law_indexes T) hr (by decide) (by rfl) (pa_cons (pv 3) (pa_cons (pv 6) pa_nil))) (pa_cons (pv 8) pa_nil))))) (nomark _)) (pss_one (ps_ret pe_bl)) pss_nil) (pss_cons (ps_if (pt_not (pt_val (pe_cg (c_law_is_plain T) hr (by decide) hgd (by rfl) (pa_cons (C8.pe_mt0 (m_Layout_cells T) hr (by decide) (pv 1)) pa_nil)))) (pss_one (ps_ret pe_bl)) pss_nil) (pss_cons (ps_set (i := 6) sc_law_shows.nd rfl (Or.inr rfl) (C8.pe_c (c_law_digit T) hr (by decide) (by rfl) (pa_cons (pv 0) (pa_cons (pe_callB (id := "len") call_len (by rfl) T.b_len (by decide +kernel) (pa_cons (pv 4) pa_nil)) pa_nil)))) (pss_cons (ps_setLc (i := 7) (own := [("_law_one", 9), ("_law_cell_here", 8)]) (g := gTup K 2 (gCons (gName 9) (gCons (gName 8) gNil))) rfl sc_law_shows.nd rfl rfl (sw_true rfl rfl rfl (by decide +kernel)) (pi_enum (by rfl) T.b_enumerate (pa_cons (pv 4) pa_nil)) (blkOk_by (own := [("_law_one", 9), ("_law_cell_here", 8)]) (N := ["_law_pot_here", "_law_made", "_law_model", "_law_rows", "_law_cells", "_law_told", "_law_place_here", "_law_alike", "_law_cell_here", "_law_one"]) (sc := defScope s_law_shows) (by decide +kernel)) (fun _ _ _ _ _ => (pg_tup rfl (pgs_cons (pg_name (i := 9) sc_law_shows.nd rfl (Or.inl rfl)) (pgs_cons (pg_name (i := 8) sc_law_shows.nd rfl (Or.inl rfl)) pgs_nil)))) (fun _ _ _ _ _ => (pts_one (pt_cmpR op_eq (pv 8) (pe_ix (ix_listK K) (pv 4) (pv 6) (fun _ _ => rfl)) (nomark _)))) (fun _ _ _ _ _ => (pv 9))) (pss_one (ps_ret (pe_and (pe_cmpR (op_eqV hr.units) (C8.pe_mt (m_Layout_indexes_of T) hr (by decide) (pv 1) (pa_cons (pv 6) pa_nil)) (C8.pe_c (c_law_indexes T) hr (by decide) (by rfl) (pa_cons (pv 3) (pa_cons (pv 6) pa_nil))) (nomark _)) (pe_one (pe_cmpR (op_eqD hr.units) (pe_lg (gm_Flat_walk T) hr (by decide) (by rfl) T.b_list (C8.pe_mt (m_Layout_places_of T) hr (by decide) (pv 1) (pa_cons (pe_ix ix_list (pv 4) (pv 6) (fun _ _ => rfl)) pa_nil))) (pv 7) (nomark _)))))))))))))), ?_⟩
  obtain ⟨rl, cl, xs, ht', hrl', hR', hcl'⟩ := id hO
  have ht := hid_ex _ _ _ _ ht'
  have hrl := hid_ex _ _ _ _ hrl'
  have hcl := hid_ex _ _ _ _ hcl'
  have hR := hR'.ex (hid_ex H p)
  have L0 := L.ex (hid_ex H p)
  obtain ⟨lok, dx, ax, mm, hl, _⟩ := id L0
  have ok := lok.ro
  have htl := lok.tl
  have hcc : (cellsL cols off).length = 2 ^ cols.length := cellsL_len cols off
  have h128 : 2 ^ cols.length ≤ 128 := Nat.pow_le_pow_right (n := 2) (j := 7) (by decide) (by omega)
  have hget : ∀ i, i < 2 ^ cols.length → (cellsL cols off)[i]? = some (cell cols off i) := fun i hi => by
    unfold cellsL; rw [List.getElem?_map, List.getElem?_range hi]; rfl
  have hlen : (vL (cellsL cols off)).length = 2 ^ cols.length := by rw [List.length_map, hcc]
  refine ⟨_, rfl, t, _, rfl, .of ht, rfl, _, _, rfl, _, _, rfl, rfl, ?_⟩
  refine ⟨_, rfl, l, dx, _, rfl, hl, (by walk_at "lk"), _, rfl, l, rows, cols, k, off, rfl, L0, fun q H1 xs1 nq e1 hq hR1 => ?_⟩
  refine ⟨_, rfl, l, dx, _, rfl, e1 _ _ hl, _, rfl, l, rows, cols, k, off, rfl, L0.ex e1, ?_⟩
  refine ⟨_, rfl, _, _, rfl, .inl ⟨_, .of (e1 _ _ hcl), rfl⟩, _, rfl, ?_, ?_, fun D hD => ?_⟩
  · rw [hlen]; omega
  · rw [hlen]; omega
  refine lc_range (lo := 0) (n := ((vL (cellsL cols off)).length : Int).toNat) (fun i H' => Ex H1 H' ∧ H' D = some (.lst (vL ((cellsL cols off).take i)))) ⟨Ex.new hD, upd_same⟩ ?_ ?_
  · rintro i H3 hi ⟨e, hDv⟩
    rw [Int.toNat_natCast, hlen] at hi
    refine ⟨rfl, _, rfl, l, dx, _, rfl, e _ _ (e1 _ _ hl), (by walk_at "lk"), _, rfl, ?_⟩
    rw [Int.zero_add]
    refine ⟨_, _, rfl, l, rows, cols, k, off, i, rfl, rfl, (L0.ex e1).ex e, hi, fun H4 e4 => ?_⟩
    refine ⟨_, e4 _ _ hDv, ?_, Ex.mut (Same.trans e e4) hD, ?_⟩
    · rw [List.length_map, List.length_take]
      exact Nat.lt_of_le_of_lt (by omega : _ ≤ 256) (by decide)
    · rw [upd_same, List.take_add_one, hget i hi]
      unfold vL
      rw [List.map_append]; rfl
  · rintro H3 ⟨e, hDv⟩
    rw [Int.toNat_natCast, hlen, ← hcc, List.take_length] at hDv
    have hsz : ∀ r ∈ rows, r.2 < 256 := fun r hr => by
      obtain ⟨j, hj⟩ := List.getElem?_of_mem hr
      have := (At.sz ⟨hj, rfl⟩ : low rows j + r.2 ≤ tot rows)
      omega
    obtain ⟨_, mok, _⟩ := (show AxT H ax rows ∧ MapAt K H mm cols k off from by assumption)
    have h256k : 2 ^ k ≤ 256 := Nat.pow_le_pow_right (n := 2) (j := 8) (by decide) hk8
    have hcl256 : ∀ x ∈ cellsL cols off, x < 256 := fun x hx => by
      obtain ⟨i, _, rfl⟩ := List.mem_map.mp hx
      exact Nat.lt_of_lt_of_le (cell_lt mok.cl mok.ol) h256k
    have hS : Shn (dTold rows cols.length (cellsL cols off)) := shn_told ok.nm hsz (by omega) (by omega) hcl256 (by omega)
    refine ⟨by show 3 ≤ sizeLine; decide, fun z hz => ?_⟩
    have e13 : Ex H H3 := Same.trans e1 e
    have ez : Ex H3 (upd H3 z (.lst [.ref q, vN cols.length, .ref D])) := Ex.new hz
    have hzv : upd H3 z (.lst [.ref q, vN cols.length, .ref D]) z = some (.lst [.ref q, vN cols.length, .ref D]) := upd_same
    show tSeq _ _ _ _ (upd H3 z (.lst [.ref q, vN cols.length, .ref D]))
    generalize upd H3 z (.lst [.ref q, vN cols.length, .ref D]) = H4 at ez hzv ⊢
    have e04 := Same.trans e13 ez
    have hD4 : Dp K H4 (.ref z) (dTold rows cols.length (cellsL cols off)) := .lst (.of hzv) (.cons (dpRows (ez _ _ (e _ _ hq)) ((hR1.ex e).ex ez)) (.cons (.int _) (.cons (dpNums (ez _ _ hDv)) .nil)))
    refine ⟨_, rfl, z, _, rfl, hD4, hS, ?_⟩
    refine ⟨_, rfl, _, rfl, _, rfl, rl, xs, rows, rfl, .inl (e04 _ _ hrl), hR.ex e04, ok.ln, fun H5 e5 => ?_⟩
    have e05 := Same.trans e04 e5
    refine ⟨_, rfl, by show 3 ≤ sizeLine; decide, fun z2 hz2 => ?_⟩
    have ez2 : Ex H5 (upd H5 z2 (.lst [.ref rl, vN (tot rows), .ref cl])) := Ex.new hz2
    have hz2v : upd H5 z2 (.lst [.ref rl, vN (tot rows), .ref cl]) z2 = some (.lst [.ref rl, vN (tot rows), .ref cl]) := upd_same
    have hD5 : Dp K (upd H5 z2 (.lst [.ref rl, vN (tot rows), .ref cl])) (.ref z2) (dTold rows cols.length (cellsL cols off)) := by
      rw [← htl]
      exact .lst (.of hz2v) (.cons (dpRows (ez2 _ _ (e05 _ _ hrl)) ((hR.ex e05).ex ez2)) (.cons (.int _) (.cons (dpNums (ez2 _ _ (e05 _ _ hcl))) .nil)))
    refine ⟨z2, _, rfl, hD5, hS, rfl, _, rfl, ?_⟩
    rw [decide_eq_true rfl]
    refine iteF ?_
    have e06 := Same.trans e05 ez2
    generalize upd H5 z2 (.lst [.ref rl, vN (tot rows), .ref cl]) = H6 at e06
    clear hD5 hz2v ez2
    refine ⟨_, rfl, l, dx, _, rfl, e06 _ _ hl, (by walk_at "lk"), ?_⟩
    refine ⟨_, rfl, l, rows, cols, k, off, rfl, L0.ex e06, fun f H7 B hB nf e7 F7 => ?_⟩
    have fok := flat_ok hB mok hk8
    have fn8 := fok.n8
    obtain ⟨df, sf, hf7, _⟩ := id F7
    have hwr := walk_rising fok.bas fok.red
    have hwm : ∀ x, x ∈ walkL (leastSum off B) B ↔ x ∈ cellsL cols off := fun x => mem_image hB
    refine ⟨f, df, _, rfl, hf7, (by walk_at "lk"), f, k, B, leastSum off B, rfl, F7, by omega, fun H8 e8 z3 hz3 => ?_⟩
    have e08 := Same.trans e06 (Same.trans e7 e8)
    have ez3 : Ex H8 (upd H8 z3 (.lst (vL (walkL (leastSum off B) B)))) := Ex.new hz3
    have hz3v : upd H8 z3 (.lst (vL (walkL (leastSum off B) B))) z3 = some (.lst (vL (walkL (leastSum off B) B))) := upd_same
    generalize upd H8 z3 (.lst (vL (walkL (leastSum off B) B))) = H9 at ez3 hz3v ⊢
    have e09 := Same.trans e08 ez3
    refine ⟨_, rfl, cl, (cellsL cols off).map fun n => ((n : Nat) : Int), (walkL (leastSum off B) B).map fun n => ((n : Nat) : Int), rfl, ?_, ?_, rising_int hwr, mem_int hwm, fun z4 hz4 => ?_⟩
    · rw [ints_vL]; exact .of (e09 _ _ hcl)
    · rw [List.length_map, hcc]; omega
    rw [ints_vL]
    have ez4 : Ex H9 (upd H9 z4 (.lst (vL (walkL (leastSum off B) B)))) := Ex.new hz4
    refine ⟨_, _, dpNums (ez4 _ _ hz3v), dpNums upd_same, shaped_nums _, shaped_nums _, _, rfl, ?_⟩
    rw [eqv_nums]
    refine iteF ?_
    have e0A := Same.trans e09 ez4
    generalize upd H9 z4 (.lst (vL (walkL (leastSum off B) B))) = HA at e0A ⊢
    refine ⟨_, rfl, l, dx, _, rfl, e0A _ _ hl, _, rfl, l, rows, cols, k, off, rfl, L0.ex e0A, fun HB B2 hB2 eB => ?_⟩
    have e0B := Same.trans e0A eB
    have fok2 := flat_ok hB2 mok hk8
    have hwr2 := walk_rising fok2.bas fok2.red
    have hwm2 : ∀ x, x ∈ walkL (leastSum off B2) B2 ↔ x ∈ cellsL cols off := fun x => mem_image hB2
    refine ⟨_, rfl, cl, (cellsL cols off).map fun n => ((n : Nat) : Int), (walkL (leastSum off B2) B2).map fun n => ((n : Nat) : Int), rfl, ?_, ?_, (rising_int hwr2).imp Int.ne_of_lt, mem_int hwm2, ?_⟩
    · rw [ints_vL]; exact .of (e0B _ _ hcl)
    · rw [List.length_map, hcc]; omega
    refine ⟨_, rfl, _, _, rfl, .inl ⟨_, .of (e0B _ _ hcl), rfl⟩, rfl, rfl, _, rfl, ?_⟩
    have heq : decide (B2.length = cols.length) = decide (V.int ((((walkL (leastSum off B2) B2).map fun n => ((n : Nat) : Int)).length : Nat) : Int) = V.int (((vL (cellsL cols off)).length : Nat) : Int)) := by
      have hi := image_len hB2 hwr2 hwm2
      apply Bool.eq_iff_iff.mpr
      rw [decide_eq_true_iff, decide_eq_true_iff, hi, hlen, hcc, List.length_map]
      exact ⟨fun y => by rw [y], fun y => by injection y with y; omega⟩
    have hz : (!decide (V.bl (decide (B2.length = cols.length)) = V.bl (decide (V.int ((((walkL (leastSum off B2) B2).map fun n => ((n : Nat) : Int)).length : Nat) : Int) = V.int (((vL (cellsL cols off)).length : Nat) : Int))))) = false := by
      rw [heq, decide_eq_true rfl]; rfl
    rw [hz]
    refine iteF ?_
    refine ⟨_, rfl, l, dx, _, rfl, e0B _ _ hl, (by walk_at "lk"), l, rows, cols, k, off, rfl, L0.ex e0B, by omega, fun HC ys eC hP z5 hz5 => ?_⟩
    have ez5 : Ex HC (upd HC z5 (.lst ys)) := Ex.new hz5
    have hz5v : upd HC z5 (.lst ys) z5 = some (.lst ys) := upd_same
    generalize upd HC z5 (.lst ys) = HD at ez5 hz5v ⊢
    have e0D := Same.trans e0B (Same.trans eC ez5)
    have hPD := hP.ex ez5
    refine ⟨_, rfl, cl, vL (cellsL cols off), rfl, .of (e0D _ _ hcl), fun D2 hD2 => ?_⟩
    refine lc_it (walk_enum (K := K) (a := cl) (xs := vL (cellsL cols off))) (fun i H' => Ex HD H' ∧ ∃ ws, H' D2 = some (.lst ws) ∧ PairsV H' ws i rows (cell cols off)) ⟨Ex.new hD2, [], upd_same, rfl, fun i x hx => by simp at hx⟩ (fun i H' _ ⟨e, _⟩ => .of (e _ _ (e0D _ _ hcl))) ?_ ?_
    · rintro i x HE HF hi ⟨eE, ws, hDE, hPE⟩ ⟨t6, a6, b6, rfl, ht6, rfl, ha6, hb6⟩
      obtain ⟨c, hc, rfl⟩ := vL_at hb6
      obtain rfl := Option.some.inj ha6
      have hi2 : i < 2 ^ cols.length := by rw [hlen] at hi; exact hi
      rw [hget i hi2] at hc
      obtain rfl := Option.some.inj hc
      refine ⟨t6, _, rfl, .of upd_same, rfl, _, _, rfl, _, _, rfl, rfl, rfl, ?_⟩
      have e7' : Ex HE (upd HE t6 (.tup [.int (i : Nat), vN (cell cols off i)])) := Ex.new ht6
      generalize upd HE t6 (.tup [.int (i : Nat), vN (cell cols off i)]) = HG at e7' ⊢
      have eG := Same.trans eE e7'
      have e0G := Same.trans e0D eG
      refine ⟨_, rfl, _, rfl, _, _, rfl, rl, xs, rows, i, rfl, rfl, .inl (e0G _ _ hrl), hR.ex e0G, ok, fun d HH hd eH hdv => ?_⟩
      refine ⟨_, rfl, by show 2 ≤ sizeLine; decide, fun t7 ht7 => ?_⟩
      have e8' : Ex HH (upd HH t7 (.tup [.ref d, vN (cell cols off i)])) := Ex.new ht7
      have ht7v : upd HH t7 (.tup [.ref d, vN (cell cols off i)]) t7 = some (.tup [.ref d, vN (cell cols off i)]) := upd_same
      show ∃ acc, upd HH t7 (.tup [.ref d, vN (cell cols off i)]) D2 = some (.lst acc) ∧ _
      generalize upd HH t7 (.tup [.ref d, vN (cell cols off i)]) = HI at e8' ht7v ⊢
      have eEI := Same.trans e7' (Same.trans eH e8')
      have hDI := eEI _ _ hDE
      have hwl := hPE.1
      refine ⟨ws, hDI, Nat.lt_of_le_of_lt (by omega : ws.length ≤ 256) (by decide), Ex.mut (Same.trans eE eEI) hD2, ws ++ [.ref t7], upd_same, ?_⟩
      exact ((hPE.ex eEI).snoc ht7v (e8' _ _ hdv)).mut hDI
    · rintro HE ⟨eE, ws, hDE, hPE⟩
      rw [hlen] at hPE
      have e0E := Same.trans e0D eE
      refine ⟨⟨z5, D2, ys, ws, rfl, rfl, eE _ _ hz5v, hDE, pairs_eq ok.nd (hPD.ex eE) hPE⟩, fun HF eF => ⟨_, rfl, iteF ?_⟩⟩
      have e0F := Same.trans e0E eF
      refine ⟨_, rfl, l, dx, _, rfl, e0F _ _ hl, (by walk_at "lk"), _, rfl, l, rows, cols, k, off, rfl, L0.ex e0F, fun f2 HG B3 hB3 nf2 eG F3 => ?_⟩
      refine ⟨_, rfl, f2, k, B3, _, rfl, F3, flat_ok hB3 mok hk8, fun HH eH => ⟨true, rfl, iteF ?_⟩⟩
      have e0H := Same.trans e0F (Same.trans eG eH)
      have hpH := hp.ex e0H
      refine ⟨_, rfl, _, rfl, _, _, rfl, .inl ⟨_, .of (e0H _ _ hcl), rfl⟩, _, _, rfl, p, (vL (cellsL cols off)).length, rfl, rfl, hpH, by rw [hlen]; exact Nat.two_pow_pos _, by rw [hlen]; omega, fun v HI hv eI hpI => ?_⟩
      rw [hlen] at hv
      have e0I : Fp p H HI := (Fp.of e0H).trans eI
      have LI := (L.ex e0I.hid).ex (hid_ex HI p)
      have hclI := e0I _ _ (hid_ne hcl') hcl
      have hrlI := e0I _ _ (hid_ne hrl') hrl
      have hRI : RowsV HI xs rows := (hR'.ex e0I.hid).ex (hid_ex _ _)
      obtain ⟨_, dxI, axI, mmI, hlI, _⟩ := id LI
      refine ⟨_, rfl, cl, vL (cellsL cols off), rfl, .of hclI, fun D3 hD3 => ?_⟩
      refine lc_it (walk_enum (K := K) (a := cl) (xs := vL (cellsL cols off))) (fun i H' => Ex HI H' ∧ H' D3 = some (.lst (vL ((List.range i).filter fun q => cell cols off q == cell cols off v)))) ⟨Ex.new hD3, upd_same⟩ (fun i H' _ ⟨e, _⟩ => .of (e _ _ hclI)) ?_ ?_
      · rintro i x HJ HK hi ⟨eJ, hDJ⟩ ⟨t6, a6, b6, rfl, ht6, rfl, ha6, hb6⟩
        obtain ⟨c, hc, rfl⟩ := vL_at hb6
        obtain rfl := Option.some.inj ha6
        have hi2 : i < 2 ^ cols.length := by rw [hlen] at hi; exact hi
        rw [hget i hi2] at hc
        obtain rfl := Option.some.inj hc
        refine ⟨t6, _, rfl, .of upd_same, rfl, _, _, rfl, _, _, rfl, rfl, ?_⟩
        have e7' : Ex HJ (upd HJ t6 (.tup [.int (i : Nat), vN (cell cols off i)])) := Ex.new ht6
        generalize upd HJ t6 (.tup [.int (i : Nat), vN (cell cols off i)]) = HL at e7' ⊢
        have eL := Same.trans eJ e7'
        have hDL := e7' _ _ hDJ
        have hgv : atI (vL (cellsL cols off)) ((v : Nat) : Int) = some (vN (cell cols off v)) := atI_nat (by rw [List.getElem?_map, hget v hv]; rfl)
        refine ⟨rfl, _, rfl, _, rfl, _, rfl, cl, _, _, _, rfl, rfl, .of (eL _ _ hclI), hgv, rfl, _, rfl, ?_⟩
        rw [dec_N]
        have hfl : (List.range (i + 1)).filter (fun q => cell cols off q == cell cols off v) = (List.range i).filter (fun q => cell cols off q == cell cols off v) ++ (if cell cols off i = cell cols off v then [i] else []) := by
          rw [List.range_succ, List.filter_append]
          congr 1
          by_cases hh : cell cols off i = cell cols off v <;> simp [hh]
        rw [hfl]
        refine ite2 (fun q1 => ?_) (fun q1 => ?_)
        · have q1 : cell cols off i = cell cols off v := of_decide_eq_true q1
          rw [if_pos q1]
          refine ⟨_, rfl, _, hDL, ?_, Ex.mut eL hD3, ?_⟩
          · rw [List.length_map]
            have := List.length_filter_le (fun q => cell cols off q == cell cols off v) (List.range i)
            rw [List.length_range] at this
            exact Nat.lt_of_le_of_lt (by omega : _ ≤ 256) (by decide)
          · rw [upd_same]
            unfold vL
            rw [List.map_append]; rfl
        · have q1 : ¬ cell cols off i = cell cols off v := fun z => q1 (decide_eq_true z)
          rw [if_neg q1, List.append_nil]
          exact ⟨eL, hDL⟩
      · rintro HJ ⟨eJ, hDJ⟩
        rw [hlen] at hDJ
        have e0J := e0I.trans (Fp.of eJ)
        have hpJ := hpI.ex eJ
        refine ⟨_, rfl, l, dxI, _, rfl, eJ _ _ hlI, (by walk_at "lk"), _, rfl, _, _, rfl, l, rows, cols, k, off, v, rfl, rfl, LI.ex eJ, hv, fun d1 HK nd1 eK hd1 => ?_⟩
        have eJK := Same.trans eJ eK
        refine ⟨_, rfl, _, rfl, _, _, rfl, rl, xs, rows, v, rfl, rfl, .inl (eJK _ _ hrlI), hRI.ex eJK, ok, fun d2 HM nd2 eM hd2 => ?_⟩
        have eIM := Same.trans eJK eM
        refine ⟨1, by decide, eqR_dict ⟨d1, d2, idxR rows v, rfl, rfl, eM _ _ hd1, hd2, by rw [idxR_names]; exact ok.nd⟩, true, rfl, iteT ?_⟩
        have hgv : atI (vL (cellsL cols off)) ((v : Nat) : Int) = some (vN (cell cols off v)) := atI_nat (by rw [List.getElem?_map, hget v hv]; rfl)
        refine ⟨_, rfl, l, dxI, _, rfl, eIM _ _ hlI, (by walk_at "lk"), _, rfl, _, rfl, cl, _, _, _, rfl, rfl, .of (eIM _ _ hclI), hgv, ?_⟩
        refine ⟨_, _, rfl, l, rows, cols, k, off, v, rfl, rfl, LI.ex eIM, hv, fun f4 HN B4 pt4 hB4 hr4 hw4 nf4 eN F4 => ?_⟩
        have h4n : B4.length ≤ 7 := by
          have h1 := walk_len (pt := pt4) (B := B4)
          have h2 : (alike cols off (cell cols off v)).length ≤ 2 ^ cols.length := by
            unfold alike
            have := List.length_filter_le (fun q => cell cols off q == cell cols off v) (List.range (2 ^ cols.length))
            rwa [List.length_range] at this
          rw [← hw4, h1] at h2
          have := pow_le_inv h2
          omega
        obtain ⟨d4, s4, hf4, _⟩ := id F4
        refine ⟨f4, d4, _, rfl, hf4, (by walk_at "lk"), f4, cols.length, B4, pt4, rfl, F4, by omega, fun HO1 eO z9 hz9 => ?_⟩
        rw [hw4] at *
        have ez9 : Ex HO1 (upd HO1 z9 (.lst (vL (alike cols off (cell cols off v))))) := Ex.new hz9
        have eIO := Same.trans eIM (Same.trans eN (Same.trans eO ez9))
        have hDO := (Same.trans eK (Same.trans eM (Same.trans eN (Same.trans eO ez9)))) _ _ hDJ
        refine ⟨_, rfl, _, _, dpNums upd_same, dpNums hDO, shaped_nums _, shaped_nums _, ?_⟩
        rw [show ((List.range (2 ^ cols.length)).filter fun q => cell cols off q == cell cols off v) = alike cols off (cell cols off v) from rfl, eqv_nums]
        exact h _ (e0I.trans (Fp.of eIO)) (hpI.ex eIO)
end
end My
/-! *** W30 -/
namespace My
open PySem PySem.Spec PyProof.Rows L2 He LamX
local macro_rules | `(tactic| walk_at "lk") => `(tactic| (repeat (first | exact lk1 | exact lk0 | refine (lk2 (by decide +kernel)).trans ?_)))
section
variable {P : Program} {w : World} {K : PySem.W.Frag} {mg : Str → Option Value} {base : Heap} {tf : Str → Addr × Addr}
abbrev spRight (T : List (Addr × Str)) : Sp := spF1 fun a H Q => ∃ p : Addr, a = .ref p ∧ PotAt H p ∧ Tabs T H ∧ ∀ H', Fn p H H' → Tabs T H' → Q (.bl true) H'
/-- one of the layouts made, with its model -/
def MadeAt (K : PySem.W.Frag) (p : Addr) (k b : Nat) (H : Hp) (x : V) : Prop := ∃ (q l t : Addr) (rows : List Row) (cols : List Nat) (off : Nat), x = .ref q ∧ hid H p q = some (.tup [.ref l, .ref t]) ∧ LayoutAt K (hid H p) l rows cols k off ∧ OldAt (hid H p) t rows (cellsL cols off) ∧ tot rows ≤ 7 ∧ rows.length ≤ b
theorem MadeAt.fn {p : Addr} {k b : Nat} {H H' : Hp} {x : V} (e : Fn p H H') (h : MadeAt K p k b H x) : MadeAt K p k b H' x := by
  obtain ⟨q, l, t, rows, cols, off, rfl, h1, h2, h3, h4, h5⟩ := h
  exact ⟨q, l, t, rows, cols, off, rfl, e.hid _ _ h1 (fun _ z => by cases z), h2.exN e.hid, h3.exN e.hid, h4, h5⟩
theorem MadeAt.more {p : Addr} {k b b' : Nat} {H : Hp} {x : V} (h : MadeAt K p k b H x) (hb : b ≤ b') : MadeAt K p k b' H x := by
  obtain ⟨q, l, t, rows, cols, off, rfl, h1, h2, h3, h4, h5⟩ := h
  exact ⟨q, l, t, rows, cols, off, rfl, h1, h2, h3, h4, Nat.le_trans h5 hb⟩
theorem MadeAt.put {p m : Addr} {k b : Nat} {H : Hp} {x : V} {ys zs : List V} (h : MadeAt K p k b H x) (hm : H m = some (.lst ys)) (hy : ∃ q0 l0 t0 : Addr, ys[0]? = some (.ref q0) ∧ H q0 = some (.tup [.ref l0, .ref t0])) : MadeAt K p k b (upd H m (.lst zs)) x := by
  obtain ⟨q0, l0, t0, hy0, hq0⟩ := hy
  have A : ∀ c o, hid H p c = some o → c ≠ m → hid (upd H m (.lst zs)) p c = some o := fun c o hc n => by
    rw [hid_at (hid_ne hc), upd_ne n]; exact hid_ex _ _ _ _ hc
  have A1 : ∀ c o, hid H p c = some o → (∀ xs, o ≠ .lst xs) → hid (upd H m (.lst zs)) p c = some o := fun c o hc n => A c o hc fun z => by
    have := hid_ex _ _ _ _ hc
    rw [z, hm] at this
    exact n _ (Option.some.inj this).symm
  have A2 : ∀ c (cs : List Nat), hid H p c = some (.lst (vL cs)) → hid (upd H m (.lst zs)) p c = some (.lst (vL cs)) := fun c cs hc => A c _ hc fun z => by
    have := hid_ex _ _ _ _ hc
    rw [z, hm] at this
    injection Option.some.inj this with this
    rw [this, List.getElem?_map] at hy0
    cases hcs : cs[0]? with
    | none => rw [hcs] at hy0; cases hy0
    | some v => rw [hcs] at hy0; cases hy0
  have A3 : ∀ (xs : List V) (rows : List Row), RowsV (hid H p) xs rows → RowsV (hid (upd H m (.lst zs)) p) xs rows := fun xs rows hR =>
    ⟨hR.len, fun i x hx => let ⟨r, a, t, b, c⟩ := hR.at_ i x hx; ⟨r, a, t, b, A1 _ _ c (fun _ z => by cases z)⟩⟩
  obtain ⟨q, l, t, rows, cols, off, rfl, h1, ⟨lok, dx, a, mm, h21, ⟨ax, h22, h23⟩, mok, dm, lc, h24, h25⟩, ⟨rl, cl, xs, h31, h32, h33, h34⟩, h4, h5⟩ := h
  refine ⟨q, l, t, rows, cols, off, rfl, A1 _ _ h1 (fun _ z => by cases z), ⟨lok, dx, a, mm, A1 _ _ h21 (fun _ z => by cases z), ⟨ax, A1 _ _ h22 (fun _ z => by cases z), A3 _ _ h23⟩, mok, dm, lc, A1 _ _ h24 (fun _ z => by cases z), A2 _ _ h25⟩,
    ⟨rl, cl, xs, A1 _ _ h31 (fun _ z => by cases z), A _ _ h32 fun z => ?_, A3 _ _ h33, A2 _ _ h34⟩, h4, h5⟩
  have := hid_ex _ _ _ _ h32
  rw [z, hm] at this
  injection Option.some.inj this with this
  rw [this] at hy0
  obtain ⟨r, _, t', e, ht'⟩ := h33.at_ 0 _ hy0
  injection e with e
  have h9 := hid_ex _ _ _ _ ht'
  rw [← e, hq0] at h9
  cases h9
theorem sc_law_right : FnScope ["_law_pot_here", "_law_rows", "_law_cell_size", "_law_columns", "_law_shift", "_law_first", "_law_made", "_law_turn", "_law_k", "_law_place_here", "_law_one", "_law_model"] ["_law_pot_here"] (defScope s_law_right) := C8.fnScope_by (by decide +kernel)
theorem c_law_right (T : Tx K mg) (B : TbF K mg base tf) : CalG P w K mg base 11 "_law_right" (spRight (tbl5 tf)) := by
  refine calG_of T.d_law_right T.g_law_right sc_law_right (by intro _ _ _ _ _ _ us hl; match us, hl with | [_], _ => rfl) (fun _ _ _ _ h => len1 h) (fun cdv A outer s H vs Q E hr hgd h => ?_)
  obtain ⟨_, rfl, p, rfl, hp, hT, h⟩ := h
  refine ⟨_, (pss_cons (ps_asg (pe_tup (pa_cons (C8.pe_c (c_law_axes T) hr (by decide) (by rfl) (pa_cons (pv 0) (pa_cons pe_int pa_nil))) (pa_cons (C8.pe_c (c_law_digit T) hr (by decide) (by rfl) (pa_cons (pv 0) (pa_cons pe_int pa_nil))) pa_nil))) (pg_tup rfl (pgs_cons (pg_name (i := 1) sc_law_right.nd rfl (Or.inl rfl)) (pgs_cons (pg_name (i := 2) sc_law_right.nd rfl (Or.inr rfl)) pgs_nil)))) (pss_cons (ps_set (i := 3) sc_law_right.nd rfl (Or.inr rfl) (pe_lc (own := [("_law_k", 8)]) (g := gName 8) rfl sc_law_right.nd (pi_range1 (by rfl) T.b_range (pa_cons (C8.pe_c (c_law_total T) hr (by decide) (by rfl) (pa_cons (pv 1) pa_nil)) pa_nil)) (blkOk_by (own := [("_law_k", 8)]) (N := ["_law_pot_here", "_law_rows", "_law_cell_size", "_law_columns", "_law_shift", "_law_first", "_law_made", "_law_turn", "_law_k", "_law_place_here", "_law_one", "_law_model"]) (sc := defScope s_law_right) (by decide +kernel)) (fun _ _ _ _ _ => (pg_name (i := 8) sc_law_right.nd rfl (Or.inl rfl))) (fun _ _ _ _ _ => pts_nil) (fun _ _ _ _ _ => (C8.pe_c (c_law_digit T) hr (by decide) (by rfl) (pa_cons (pv 0) (pa_cons (pe_op op_shl pe_int (pv 2)) pa_nil)))))) (pss_cons (ps_set (i := 4) sc_law_right.nd rfl (Or.inr rfl) (C8.pe_c (c_law_digit T) hr (by decide) (by rfl) (pa_cons (pv 0) (pa_cons (pe_op op_shl pe_int (pv 2)) pa_nil)))) (pss_cons (ps_set (i := 5) sc_law_right.nd rfl (Or.inl rfl) (pe_lock (C8.pe_mk (c_Layout T) hr (by decide) (by rfl) (pa_cons (pv 1) (pa_cons (C8.pe_mk (c_Map T) hr (by decide) (by rfl) (pa_cons (pv 3) (pa_cons (pv 2) (pa_cons (pv 4) pa_nil)))) pa_nil))))) (pss_cons (ps_set (i := 6) sc_law_right.nd rfl (Or.inl rfl) (pe_lst (pa_cons (pe_tup (pa_cons (pv 5) (pa_cons (pe_tup (pa_cons (pv 1) (pa_cons (pe_lc (own := [("_law_place_here", 9)]) (g := gName 9) rfl sc_law_right.nd (pi_range1 (by rfl) T.b_range (pa_cons (pe_op op_shl pe_int (C8.pe_c (c_law_total T) hr (by decide) (by rfl) (pa_cons (pv 1) pa_nil))) pa_nil)) (blkOk_by (own := [("_law_place_here", 9)]) (N := ["_law_pot_here", "_law_rows", "_law_cell_size", "_law_columns", "_law_shift", "_law_first", "_law_made", "_law_turn", "_law_k", "_law_place_here", "_law_one", "_law_model"]) (sc := defScope s_law_right) (by decide +kernel)) (fun _ _ _ _ _ => (pg_name (i := 9) sc_law_right.nd rfl (Or.inl rfl))) (fun _ _ _ _ _ => pts_nil) (fun _ _ _ _ _ => (C8.pe_c (c_law_cell T) hr (by decide) (by rfl) (pa_cons (pv 3) (pa_cons (pv 4) (pa_cons (pv 9) pa_nil)))))) pa_nil))) pa_nil))) pa_nil))) (pss_cons (ps_for PassesOwn.never rfl (pi_range1 (by rfl) T.b_range (pa_cons (pe_op op_add pe_int (C8.pe_c (c_law_digit T) hr (by decide) (by rfl) (pa_cons (pv 0) (pa_cons pe_int pa_nil)))) pa_nil)) (pg_name (i := 7) sc_law_right.nd rfl (Or.inl rfl)) (pss_cons (ps_expr (pe_bm PySem.F.plainAttrs_list PySem.F.slot_list_append PySem.F.type_list_append mt_append (pv 6) (pa_cons (C8.pe_c (c_law_changed T B) hr (by decide) (by rfl) (pa_cons (pv 0) (pa_cons (pe_ix ix_tup (pe_ix ix_list (pv 6) (pe_un un_neg pe_int) (fun _ _ => rfl)) pe_int (fun _ _ => rfl)) (pa_cons (pe_ix ix_tup (pe_ix ix_list (pv 6) (pe_un un_neg pe_int) (fun _ _ => rfl)) pe_int (fun _ _ => rfl)) pa_nil)))) pa_nil))) (pss_one (ps_if (pt_not (pt_val (pe_cg (c_law_shows T) hr (by decide) hgd (by rfl) (pa_cons (pv 0) (pa_cons (pe_ix ix_tup (pe_ix ix_list (pv 6) (pe_un un_neg pe_int) (fun _ _ => rfl)) pe_int (fun _ _ => rfl)) (pa_cons (pe_ix ix_tup (pe_ix ix_list (pv 6) (pe_un un_neg pe_int) (fun _ _ => rfl)) pe_int (fun _ _ => rfl)) pa_nil)))))) (pss_one (ps_ret pe_bl)) pss_nil)))) (pss_one (ps_ret (pe_callB (id := "all") (cr_all rfl) (by rfl) T.b_all (by decide +kernel) (pa_cons (pe_lc (own := [("_law_one", 10), ("_law_model", 11)]) (g := gTup K 2 (gCons (gName 10) (gCons (gName 11) gNil))) rfl sc_law_right.nd (pi_list (pv 6)) (blkOk_by (own := [("_law_one", 10), ("_law_model", 11)]) (N := ["_law_pot_here", "_law_rows", "_law_cell_size", "_law_columns", "_law_shift", "_law_first", "_law_made", "_law_turn", "_law_k", "_law_place_here", "_law_one", "_law_model"]) (sc := defScope s_law_right) (by decide +kernel)) (fun _ _ _ _ _ => (pg_tup rfl (pgs_cons (pg_name (i := 10) sc_law_right.nd rfl (Or.inl rfl)) (pgs_cons (pg_name (i := 11) sc_law_right.nd rfl (Or.inl rfl)) pgs_nil)))) (fun _ _ _ _ _ => pts_nil) (fun _ _ _ _ _ => (pe_and (pe_cg (c_law_shows T) hr (by decide) hgd (by rfl) (pa_cons (pv 0) (pa_cons (pv 10) (pa_cons (pv 11) pa_nil)))) (pe_one (pe_cmpR op_eq (pe_pp (p_Layout_cell_bits T) hr (by decide) (pv 10) rfl) (pv 2) (nomark _)))))) pa_nil)))))))))), ?_⟩
  refine ⟨_, rfl, _, _, rfl, p, 6, rfl, rfl, hp, by decide, fun q H1 xs rows nq e1 hp1 hq hR ok htt hln => ?_⟩
  refine ⟨_, rfl, _, _, rfl, p, 9, rfl, rfl, hp1, by decide, by decide, fun k H2 hk e2 hp2 => ?_⟩
  refine ⟨by show 2 ≤ sizeLine; decide, fun z hz => ?_⟩
  refine ⟨z, _, rfl, .of upd_same, rfl, _, _, rfl, _, _, rfl, rfl, ?_⟩
  have hqp : q ≠ p := fun y => by obtain ⟨_, _, w⟩ := hp; rw [y, w] at nq; cases nq
  have ez : Ex H2 (upd H2 z (.tup [.ref q, vN k])) := Ex.new hz
  have e03 : Fp p H (upd H2 z (.tup [.ref q, vN k])) := e1.trans (e2.trans (Fp.of ez))
  have hp3 := hp2.ex ez
  have hq3 := ez _ _ (e2 _ _ hqp hq)
  have hR3 := (hR.fp hp1 e2).ex ez
  generalize upd H2 z (.tup [.ref q, vN k]) = H3 at e03 hp3 hq3 hR3 ⊢
  have hk8 : k ≤ 8 := by omega
  have h256k : 2 ^ k ≤ 256 := Nat.pow_le_pow_right (n := 2) (j := 8) (by decide) hk8
  have h1p : (1 : Int) * 2 ^ ((k : Int).toNat) = ((2 ^ k : Nat) : Int) := two_shl _
  refine ⟨_, rfl, _, rfl, q, xs, rows, rfl, .inl hq3, hR3, ok.ln, fun H4 e4 => ?_⟩
  have hp4 := hp3.ex e4
  refine ⟨_, rfl, by omega, by omega, fun D hD => ?_⟩
  have hDp : D ≠ p := fun y => by obtain ⟨_, _, w⟩ := hp4; rw [y, w] at hD; cases hD
  refine lc_range (lo := 0) (n := ((tot rows : Nat) : Int).toNat) (fun i H' => Fp p H4 H' ∧ PotAt H' p ∧ ∃ cs : List Nat, H' D = some (.lst (vL cs)) ∧ cs.length = i ∧ ∀ c ∈ cs, c < 2 ^ k) ⟨Fp.of (Ex.new hD), hp4.ex (Ex.new hD), [], upd_same, rfl, fun _ h => absurd h (by simp)⟩ ?_ ?_
  · rintro i H5 hi ⟨e5, hp5, cs, hDv, hcl, hcs⟩
    refine ⟨rfl, _, rfl, _, rfl, _, _, rfl, rfl, cpow (n := k) (by omega), ?_⟩
    refine ⟨_, _, rfl, p, 2 ^ k, rfl, congrArg V.int h1p, hp5, Nat.two_pow_pos _, by omega, fun d H6 hd e6 hp6 => ?_⟩
    have hD6 := e6 _ _ hDp hDv
    rw [Int.toNat_natCast] at hi
    refine ⟨_, hD6, ?_, ?_, ?_, cs ++ [d], ?_, ?_, ?_⟩
    · rw [List.length_map]; exact Nat.lt_of_le_of_lt (by omega : _ ≤ 256) (by decide)
    · exact fun b o n hb => by
        rw [upd_ne (ne_of_none hb hD)]
        exact e6 _ _ n (e5 _ _ n hb)
    · obtain ⟨a, b, y⟩ := hp6
      exact ⟨a, b, by rw [upd_ne (Ne.symm hDp)]; exact y⟩
    · rw [upd_same]; unfold vL; rw [List.map_append]; rfl
    · rw [List.length_append, hcl]; rfl
    · intro c hc
      rcases List.mem_append.mp hc with hc | hc
      · exact hcs c hc
      · rw [List.mem_singleton.mp hc]; exact hd
  · rintro H5 ⟨e5, hp5, cols, hDv, hcl, hcs⟩
    rw [Int.toNat_natCast] at hcl
    refine ⟨_, rfl, _, rfl, _, _, rfl, rfl, cpow (n := k) (by omega), ?_⟩
    refine ⟨_, _, rfl, p, 2 ^ k, rfl, congrArg V.int h1p, hp5, Nat.two_pow_pos _, by omega, fun off H6 hoff e6 hp6 => ?_⟩
    have e06 : Fp p H H6 := e03.trans ((Fp.of e4).trans (e5.trans e6))
    have e36 : Fp p H3 H6 := (Fp.of e4).trans (e5.trans e6)
    have hq6 := e36 _ _ hqp hq3
    have hR6 := hR3.fp hp3 e36
    have hD6 := e6 _ _ hDp hDv
    have hT6 := tabs_fp hp e06 hT
    obtain ⟨pa, pb, hpv⟩ := id hp6
    refine ⟨p, _, hpv, trivial, fun od => ?_⟩
    have hz7 : upd H6 p (.frz od (.lst [vN pa, vN pb])) p = some (.frz od (.lst [vN pa, vN pb])) := upd_same
    have hq7 : upd H6 p (.frz od (.lst [vN pa, vN pb])) q = some (.lst xs) := by rw [upd_ne hqp]; exact hq6
    have hD7 : upd H6 p (.frz od (.lst [vN pa, vN pb])) D = some (.lst (vL cols)) := by rw [upd_ne hDp]; exact hD6
    have hR7 : RowsV (upd H6 p (.frz od (.lst [vN pa, vN pb]))) xs rows := ⟨hR6.len, fun i x hx => let ⟨r, a, t, b, c⟩ := hR6.at_ i x hx; ⟨r, a, t, b, by rw [upd_ne (pot_ne hp6 c (fun _ z => by cases z))]; exact c⟩⟩
    have e78 : ∀ H8, Ex (upd H6 p (.frz od (.lst [vN pa, vN pb]))) H8 → Fp p H6 (upd H8 p (.lst [vN pa, vN pb])) := fun H8 e => lock_fp e
    generalize upd H6 p (.frz od (.lst [vN pa, vN pb])) = H7 at hz7 hq7 hD7 hR7 e78 ⊢
    refine ⟨_, rfl, _, rfl, _, rfl, _, rfl, fun m dm nm ndm _ => ?_⟩
    refine mk_map hD7 ⟨by omega, by omega, hcs, hoff⟩ nm ndm fun H8 e8 M8 => ⟨rfl, ?_⟩
    refine fun l dl nl ndl _ => mk_layout (.inl (e8 _ _ hq7)) (hR7.ex e8) M8 ⟨ok, hcl.symm, by omega⟩ nl ndl fun H9 e9 L9 => ⟨rfl, ?_⟩
    have e79 := Same.trans e8 e9
    refine ⟨e79 _ _ hz7, ?_⟩
    have hza := e79 _ _ hz7
    have L10 := L9.frz hza
    rw [← hid_upd H9 p (.lst [vN pa, vN pb])] at L10
    have e6A := e78 H9 e79
    have hpA : PotAt (upd H9 p (.lst [vN pa, vN pb])) p := ⟨pa, pb, upd_same⟩
    generalize upd H9 p (.lst [vN pa, vN pb]) = HA at e6A L10 hpA ⊢
    have e0A := e06.trans e6A
    have hqA := e6A _ _ hqp hq6
    have hRA := hR6.fp hp6 e6A
    have hDA := e6A _ _ hDp hD6
    have h1q : (1 : Int) * 2 ^ ((tot rows : Int).toNat) = ((2 ^ tot rows : Nat) : Int) := two_shl _
    have h7 : 2 ^ tot rows ≤ 128 := Nat.pow_le_pow_right (n := 2) (j := 7) (by decide) (by omega)
    refine ⟨_, rfl, _, rfl, _, rfl, _, rfl, q, xs, rows, rfl, .inl hqA, hRA, ok.ln, fun HB eB => ?_⟩
    refine ⟨_, _, rfl, rfl, cpow (n := tot rows) (by omega), _, rfl, by rw [h1q]; exact Int.le_trans (by decide) (Int.natCast_nonneg _), by rw [h1q]; exact Int.lt_of_le_of_lt (Int.ofNat_le.mpr h7) (by decide), fun D2 hD2 => ?_⟩
    rw [h1q, Int.toNat_natCast]
    refine lc_range (lo := 0) (n := 2 ^ tot rows) (fun i H' => Ex HB H' ∧ H' D2 = some (.lst (vL ((List.range i).map (cell cols off))))) ⟨Ex.new hD2, upd_same⟩ ?_ ?_
    · rintro i HC hi ⟨eC, hDC⟩
      refine ⟨rfl, _, rfl, _, rfl, _, rfl, ?_⟩
      rw [Int.zero_add]
      refine ⟨_, _, _, rfl, D, cols, off, i, rfl, rfl, rfl, eC _ _ (eB _ _ hDA), fun HD eD => ?_⟩
      refine ⟨_, eD _ _ hDC, ?_, Ex.mut (Same.trans eC eD) hD2, ?_⟩
      · rw [List.length_map, List.length_map, List.length_range]; exact Nat.lt_of_le_of_lt (by omega : _ ≤ 256) (by decide)
      · rw [upd_same, List.range_succ, List.map_append]; unfold vL; rw [List.map_append]; rfl
    · rintro HC ⟨eC, hDC⟩
      refine ⟨by show 2 ≤ sizeLine; decide, fun t1 ht1 => ⟨by show 2 ≤ sizeLine; decide, fun t2 ht2 => ⟨by show 1 ≤ sizeLine; decide, fun m1 hm1 => ?_⟩⟩⟩
      have e1' : Ex HC (upd HC t1 (.tup [.ref q, .ref D2])) := Ex.new ht1
      have ht1v : upd HC t1 (.tup [.ref q, .ref D2]) t1 = some (.tup [.ref q, .ref D2]) := upd_same
      generalize upd HC t1 (.tup [.ref q, .ref D2]) = HD at e1' ht1v ht2 hm1 ⊢
      have e2' : Ex HD (upd HD t2 (.tup [.ref l, .ref t1])) := Ex.new ht2
      have ht2v : upd HD t2 (.tup [.ref l, .ref t1]) t2 = some (.tup [.ref l, .ref t1]) := upd_same
      generalize upd HD t2 (.tup [.ref l, .ref t1]) = HE at e2' ht2v hm1 ⊢
      have e3' : Ex HE (upd HE m1 (.lst [.ref t2])) := Ex.new hm1
      have hm1v : upd HE m1 (.lst [.ref t2]) m1 = some (.lst [.ref t2]) := upd_same
      generalize upd HE m1 (.lst [.ref t2]) = HF at e3' hm1v ⊢
      have eAC := Same.trans eB eC
      have eAF := Same.trans eAC (Same.trans e1' (Same.trans e2' e3'))
      have e0F := e0A.trans (Fp.of eAF)
      have hpF := hpA.ex eAF
      have nep : ∀ {b : Addr} {Hx : Hp}, Ex HA Hx → Hx b = none → b ≠ p := fun {b Hx} e hb y => by
        obtain ⟨_, _, w⟩ := hpA.ex e
        rw [y, w] at hb; cases hb
      have hcell : cellsL cols off = (List.range (2 ^ tot rows)).map (cell cols off) := by unfold cellsL; rw [hcl]
      have hMade : MadeAt K p k 5 HF (.ref t2) := by
        refine ⟨t2, l, t1, rows, cols, off, rfl, hid_some (e3' _ _ ht2v) (nep (Same.trans eAC e1') ht2), L10.ex (Ex.hid eAF p), ⟨q, D2, xs, hid_some (e3' _ _ (e2' _ _ ht1v)) (nep eAC ht1), hid_some (eAF _ _ hqA) hqp, ?_, ?_⟩, by omega, hln⟩
        · have hRF := hRA.ex eAF
          exact ⟨hRF.len, fun i x hx => let ⟨r, a, t, b, c⟩ := hRF.at_ i x hx; ⟨r, a, t, b, hid_some c (pot_ne hpF c (fun _ z => by cases z))⟩⟩
        · rw [hcell]
          exact hid_some (e3' _ _ (e2' _ _ (e1' _ _ hDC))) (nep eB hD2)
      have hm1p : m1 ≠ p := nep (Same.trans eAC (Same.trans e1' e2')) hm1
      have hm10 : H m1 = none := (e0A.trans (Fp.of (Same.trans eAC (Same.trans e1' e2')))).free hm1p hm1
      have hTF := tabs_fp hp e0F hT
      refine ⟨_, rfl, _, _, rfl, p, 6, rfl, rfl, hpF, by decide, by decide, fun d HG hd eG hpG => ?_⟩
      have h1d : (1 : Int) + (d : Int) = ((1 + d : Nat) : Int) := by omega
      refine ⟨_, _, rfl, rfl, _, rfl, by omega, by omega, ?_⟩
      rw [h1d, Int.toNat_natCast]
      have hm1G := eG _ _ hm1p hm1v
      refine for_range (fun i σ' H' => (∃ x7 x8 x9 x10 x11, σ' = [some (.ref p), some (.ref q), some (vN k), some (.ref D), some (vN off), some (.ref l), some (.ref m1), x7, x8, x9, x10, x11]) ∧ Fn p H H' ∧ PotAt H' p ∧ Tabs (tbl5 tf) H' ∧
        ∃ ys, H' m1 = some (.lst ys) ∧ ys.length = i + 1 ∧ ∀ y ∈ ys, MadeAt K p k (5 + i) H' y)
        ⟨⟨_, _, _, _, _, rfl⟩, (e0F.trans eG).fn, hpG, tabs_fp hpF eG hTF, [.ref t2], hm1G, rfl, fun y hy => by rw [List.mem_singleton.mp hy]; exact hMade.fn eG.fn⟩ ?_ ?_
      · rintro i σ' HI hi ⟨⟨x7, x8, x9, x10, x11, rfl⟩, e0I, hpI, hTI, ys, hmI, hyl, hys⟩
        obtain ⟨ys0, y, rfl⟩ : ∃ ys0 y, ys = ys0 ++ [y] := ⟨ys.dropLast, ys.getLast (by intro z; rw [z] at hyl; cases hyl), (List.dropLast_concat_getLast _).symm⟩
        obtain ⟨qy, ly, ty, rowsy, colsy, offy, rfl, hqy', Ly, Oy, hty, hly⟩ := hys y (List.mem_append_right _ (List.mem_singleton.mpr rfl))
        have hqy := hid_ex _ _ _ _ hqy'
        refine ⟨_, rfl, .inl ⟨rfl, _, .of hmI⟩, ?_⟩
        refine ⟨_, rfl, _, rfl, _, rfl, m1, _, -1, _, rfl, rfl, .of hmI, atI_last _ _, qy, _, 0, _, rfl, rfl, .of hqy, rfl, ?_⟩
        refine ⟨_, rfl, _, rfl, m1, _, -1, _, rfl, rfl, .of hmI, atI_last _ _, qy, _, 1, _, rfl, rfl, .of hqy, rfl, ?_⟩
        refine ⟨_, _, _, rfl, p, ly, ty, rowsy, colsy, k, offy, rfl, rfl, rfl, hpI, hTI, Ly, Oy, hty, by omega, trivial, fun q2 l2 t2 HJ rows2 cols2 off2 eJ hpJ hTJ hq2 L2 O2 ht2' hl2 => ?_⟩
        have hmJ := eJ _ _ hm1p hmI (fun _ z => by cases z)
        refine ⟨m1, _, _, rfl, rfl, hmJ, Nat.lt_of_le_of_lt (by omega : _ ≤ 256) (by decide), ?_⟩
        have hq0 : ∃ q0 l0 t0 : Addr, (ys0 ++ [V.ref qy])[0]? = some (.ref q0) ∧ HJ q0 = some (.tup [.ref l0, .ref t0]) := by
          have h0 : (ys0 ++ [V.ref qy])[0]? = some ((ys0 ++ [V.ref qy])[0]'(by omega)) := List.getElem?_eq_getElem _
          obtain ⟨q9, l9, t9, _, _, _, e9, h9, _⟩ := hys _ (List.mem_of_getElem? h0)
          exact ⟨q9, l9, t9, by rw [h0, e9], eJ _ _ (hid_ne h9) (hid_ex _ _ _ _ h9) (fun _ z => by cases z)⟩
        have hM2 : MadeAt K p k (5 + (i + 1)) HJ (.ref q2) := ⟨q2, l2, t2, rows2, cols2, off2, rfl, hid_some hq2 (pot_ne hpJ hq2 (fun _ z => by cases z)), L2, O2, ht2', by omega⟩
        have hK : ∀ y ∈ ys0 ++ [V.ref qy] ++ [V.ref q2], MadeAt K p k (5 + (i + 1)) (upd HJ m1 (.lst (ys0 ++ [V.ref qy] ++ [V.ref q2]))) y := fun y hy => by
          refine MadeAt.put ?_ hmJ hq0
          rcases List.mem_append.mp hy with hy | hy
          · exact ((hys y hy).fn eJ).more (by omega)
          · rw [List.mem_singleton.mp hy]; exact hM2
        have eJK : Fn p H (upd HJ m1 (.lst (ys0 ++ [V.ref qy] ++ [V.ref q2]))) := fun b o n hb nt => by
          have hbm : b ≠ m1 := ne_of_none hb hm10
          rw [upd_ne hbm]; exact (e0I.trans eJ) b o n hb nt
        have hmK : upd HJ m1 (.lst (ys0 ++ [V.ref qy] ++ [V.ref q2])) m1 = some (.lst (ys0 ++ [V.ref qy] ++ [V.ref q2])) := upd_same
        have hpK : PotAt (upd HJ m1 (.lst (ys0 ++ [V.ref qy] ++ [V.ref q2]))) p := by
          obtain ⟨a, b, w⟩ := hpJ
          exact ⟨a, b, by rw [upd_ne (Ne.symm hm1p)]; exact w⟩
        have hTK : Tabs (tbl5 tf) (upd HJ m1 (.lst (ys0 ++ [V.ref qy] ++ [V.ref q2]))) := fun g hg => by
          obtain ⟨ps, h1, h2, h3⟩ := hTJ g hg
          refine ⟨ps, by rw [upd_ne (ne_of h1 hmJ (by intro z; cases z))]; exact h1, h2, fun pos cv hc => ?_⟩
          obtain ⟨c, e1, e2⟩ := h3 pos cv hc
          exact ⟨c, e1, by rw [upd_ne (ne_of e2 hmJ (codeO_lst _))]; exact e2⟩
        generalize upd HJ m1 (.lst (ys0 ++ [V.ref qy] ++ [V.ref q2])) = HK at hK eJK hmK hpK hTK ⊢
        obtain ⟨q3, l3, t3, rows3, cols3, off3, e3, hq3', L3, O3, ht3, hl3⟩ := hK (.ref q2) (List.mem_append_right _ (List.mem_singleton.mpr rfl))
        injection e3 with e3
        subst e3
        have hq3 := hid_ex _ _ _ _ hq3'
        refine ⟨_, rfl, _, rfl, _, rfl, m1, _, -1, _, rfl, rfl, .of hmK, atI_last _ _, q2, _, 0, _, rfl, rfl, .of hq3, rfl, ?_⟩
        refine ⟨_, rfl, _, rfl, m1, _, -1, _, rfl, rfl, .of hmK, atI_last _ _, q2, _, 1, _, rfl, rfl, .of hq3, rfl, ?_⟩
        refine ⟨_, _, _, rfl, p, l3, t3, rows3, cols3, k, off3, rfl, rfl, rfl, hpK, L3, O3, ht3, by omega, hk8, fun HL eL hpL => ⟨true, rfl, iteF ?_⟩⟩
        refine ⟨⟨_, _, _, _, _, rfl⟩, eJK.trans eL.fn, hpL, tabs_fp hpK eL hTK, _, eL _ _ hm1p hmK, by rw [List.length_append, hyl]; rfl, fun y hy => (hK y hy).fn eL.fn⟩
      · rintro σ' HI ⟨⟨x7, x8, x9, x10, x11, rfl⟩, e0I, hpI, hTI, ys, hmI, hyl, hys⟩
        refine ⟨_, rfl, m1, rfl, ⟨_, .of hmI⟩, fun D9 hD9 => ?_⟩
        have hD9p : D9 ≠ p := fun y => by obtain ⟨_, _, w⟩ := hpI; rw [y, w] at hD9; cases hD9
        refine lc_it (walk_list (K := K) (a := m1) (xs := ys)) (fun i H' => Fp p HI H' ∧ PotAt H' p ∧ H' D9 = some (.lst (List.replicate i (V.bl true)))) ⟨Fp.of (Ex.new hD9), hpI.ex (Ex.new hD9), upd_same⟩ (fun i H' _ ⟨e, _⟩ => .of (e _ _ hm1p hmI)) ?_ ?_
        · rintro i x HJ HK hi ⟨eJ, hpJ, hDJ⟩ ⟨rfl, hx⟩
          obtain ⟨qy, ly, ty, rowsy, colsy, offy, rfl, hqy', Ly, Oy, hty, hly⟩ := (hys x (List.mem_of_getElem? hx)).fn eJ.fn
          refine ⟨qy, _, rfl, .of (hid_ex _ _ _ _ hqy'), rfl, _, _, rfl, _, _, rfl, rfl, rfl, ?_⟩
          refine ⟨_, rfl, _, rfl, _, rfl, ?_⟩
          refine ⟨_, _, _, rfl, p, ly, ty, rowsy, colsy, k, offy, rfl, rfl, rfl, hpJ, Ly, Oy, hty, by omega, hk8, fun HL eL hpL => ⟨true, rfl, iteT ?_⟩⟩
          have LL := (Ly.ex eL.hid).ex (hid_ex HL p)
          obtain ⟨_, dxy, _, _, hlyL, _⟩ := id LL
          refine ⟨_, rfl, ly, dxy, _, rfl, hlyL, _, rfl, ly, rowsy, colsy, k, offy, rfl, LL, _, rfl, rfl, ?_⟩
          rw [decide_eq_true rfl]
          have hDL := eL _ _ hD9p hDJ
          refine ⟨_, hDL, ?_, ?_, ?_, ?_⟩
          · rw [List.length_replicate]; exact Nat.lt_of_le_of_lt (by omega : _ ≤ 256) (by decide)
          · exact fun b o n hb => by
              rw [upd_ne (ne_of_none hb hD9)]; exact eL _ _ n (eJ _ _ n hb)
          · obtain ⟨a, b, w⟩ := hpL
            exact ⟨a, b, by rw [upd_ne (Ne.symm hD9p)]; exact w⟩
          · rw [upd_same, List.replicate_succ']
        · rintro HJ ⟨eJ, hpJ, hDJ⟩
          refine ⟨D9, List.replicate ys.length true, rfl, .of (by rw [List.map_replicate]; exact hDJ), ?_⟩
          rw [show (List.replicate ys.length true).all id = true from by simp]
          exact h HJ (e0I.trans eJ.fn) (tabs_fp hpI eJ hTI)
end
end My
/-! *** W31 -/
namespace My
open PySem PySem.Spec PyProof.Rows L2 He LamX
theorem sqL_exN {K : PySem.W.Frag} {H H' : Hp} {a : Addr} {xs : List V} (e : ExtN H H') (h : SqL K H a xs) : SqL K H' a xs := by
  rcases h with (h | ⟨o, h⟩) | h
  · exact .inl (.inl (e _ _ h (fun _ z => by cases z)))
  · exact .inl (.inr ⟨o, e _ _ h (fun _ z => by cases z)⟩)
  · exact .inr h
section
variable {P : Program} {w : World} {K : PySem.W.Frag} {mg : Str → Option Value} {base : Heap} {tf : Str → Addr × Addr}
abbrev spLaw (K : PySem.W.Frag) (T : List (Addr × Str)) : Sp := spF1 fun a H Q => ∃ (l : Addr) (ns : List Int), a = .ref l ∧ SqL K H l (ns.map V.int) ∧ Tabs T H ∧ ∀ H', Q (.bl true) H'
theorem sc_law : FnScope ["_law_script", "_law_k"] ["_law_script"] (defScope s_law) := C8.fnScope_by (by decide +kernel)
theorem c_law (T : Tx K mg) (B : TbF K mg base tf) : CalG P w K mg base 12 "law" (spLaw K (tbl5 tf)) := by
  refine calG_of T.d_law T.g_law sc_law (by intro _ _ _ _ _ _ us hl; match us, hl with | [_], _ => rfl) (fun _ _ _ _ h => len1 h) (fun cdv A outer s H vs Q E hr hgd h => ?_)
  obtain ⟨_, rfl, l, ns, rfl, hl, hT, h⟩ := h
  refine ⟨_, (pss_one (ps_ret (pe_callB (id := "all") (cr_all rfl) (by rfl) T.b_all (by decide +kernel) (pa_cons (pe_lc (own := [("_law_k", 1)]) (g := gName 1) rfl sc_law.nd (pi_range1 (by rfl) T.b_range (pa_cons (pe_callB (id := "max") (call_max2 rfl) (by rfl) T.b_max (by decide +kernel) (pa_cons pe_int (pa_cons (pe_callB (id := "min") (call_min2 rfl) (by rfl) T.b_min (by decide +kernel) (pa_cons pe_int (pa_cons (pe_callB (id := "len") call_len (by rfl) T.b_len (by decide +kernel) (pa_cons (pv 0) pa_nil)) pa_nil))) pa_nil))) pa_nil)) (blkOk_by (own := [("_law_k", 1)]) (N := ["_law_script", "_law_k"]) (sc := defScope s_law) (by decide +kernel)) (fun _ _ _ _ _ => (pg_name (i := 1) sc_law.nd rfl (Or.inl rfl))) (fun _ _ _ _ _ => pts_nil) (fun _ _ _ _ _ => (pe_cg (c_law_right T B) hr (by decide) hgd (by rfl) (pa_cons (C8.pe_c (c_law_pot T) hr (by decide) (by rfl) (pa_cons (pv 0) (pa_cons (pv 1) pa_nil))) pa_nil)))) pa_nil)))), ?_⟩
  have hk : ∀ n : Nat, ∃ m : Nat, 1 ≤ m ∧ m ≤ 3 ∧ (if (if ((n : Int)) < 3 then ((n : Int)) else 3) > 1 then (if ((n : Int)) < 3 then ((n : Int)) else 3) else 1) = (m : Int) := fun n => by
    by_cases h1 : (n : Int) < 3
    · rw [if_pos h1]
      by_cases h2 : (n : Int) > 1
      · rw [if_pos h2]; exact ⟨n, by omega, by omega, rfl⟩
      · rw [if_neg h2]; exact ⟨1, by omega, by omega, rfl⟩
    · rw [if_neg h1]
      exact ⟨3, by omega, by omega, rfl⟩
  obtain ⟨m, hm1, hm3, hm⟩ := hk (ns.map V.int).length
  refine ⟨_, rfl, _, _, rfl, .inl ⟨_, hl, rfl⟩, _, _, rfl, _, _, rfl, _, rfl, ?_, ?_, fun D hD => ?_⟩
  · rw [hm]; omega
  · rw [hm]; omega
  rw [hm, Int.toNat_natCast]
  refine lc_range (lo := 0) (n := m) (fun i H' => ExtN H H' ∧ Tabs (tbl5 tf) H' ∧ H' D = some (.lst (List.replicate i (V.bl true)))) ⟨ExtN.of (Ex.new hD), hT.ext (Ex.new hD), upd_same⟩ ?_ ?_
  · rintro i H2 hi ⟨e, hT2, hD2⟩
    refine ⟨rfl, _, rfl, _, rfl, ?_⟩
    rw [Int.zero_add]
    refine ⟨_, _, rfl, l, ns, i, rfl, rfl, sqL_exN e hl, fun q H3 nq e3 hp3 => ?_⟩
    have hDq : D ≠ q := fun y => by rw [← y, hD2] at nq; cases nq
    refine ⟨_, rfl, q, rfl, hp3, hT2.ext e3, fun H4 e4 hT4 => ?_⟩
    have hD4 := e4 _ _ hDq (e3 _ _ hD2) (fun _ z => by cases z)
    refine ⟨_, hD4, ?_, ?_, ?_, ?_⟩
    · rw [List.length_replicate]; exact Nat.lt_of_le_of_lt (by omega : _ ≤ 256) (by decide)
    · intro b o hb nt
      have h2 := e _ _ hb nt
      rw [upd_ne (ne_of_none hb hD)]
      exact e4 _ _ (fun y => by rw [y, nq] at h2; cases h2) (e3 _ _ h2) nt
    · intro g hg
      obtain ⟨ps, h1, h2, h3⟩ := hT4 g hg
      refine ⟨ps, by rw [upd_ne (ne_of h1 hD4 (by intro z; cases z))]; exact h1, h2, fun pos cv hc => ?_⟩
      obtain ⟨c, e1, e2⟩ := h3 pos cv hc
      exact ⟨c, e1, by rw [upd_ne (ne_of e2 hD4 (codeO_lst _))]; exact e2⟩
    · rw [upd_same, List.replicate_succ']
  · rintro H2 ⟨e, hT2, hD2⟩
    refine ⟨D, List.replicate m true, rfl, .of (by rw [List.map_replicate]; exact hD2), ?_⟩
    rw [show (List.replicate m true).all id = true from by simp]
    exact h H2
end
end My
/-! *** HdB -/
namespace My
open PySem PySem.Spec PyProof.Rows L2 He LamX
/-! ### what the program's top leaves -/
theorem tx_of {K : PySem.W.Frag} {h : Heap} {mg : Str → Option Value} (X : K.In h) (G : h.Ns mainGlobals mg) (c : He5.SaysA faL fnL K) (m : exB K = true) : Tx K mg where
    b_len := free_ok X G (c.fact 0 (f := .free "len") rfl)
    b_abs := free_ok X G (c.fact 1 (f := .free "abs") rfl)
    b_isinstance := free_ok X G (c.fact 2 (f := .free "isinstance") rfl)
    b_max := free_ok X G (c.fact 3 (f := .free "max") rfl)
    b_min := free_ok X G (c.fact 4 (f := .free "min") rfl)
    b_divmod := free_ok X G (c.fact 5 (f := .free "divmod") rfl)
    b_sum := free_ok X G (c.fact 6 (f := .free "sum") rfl)
    b_all := free_ok X G (c.fact 7 (f := .free "all") rfl)
    b_repr := free_ok X G (c.fact 8 (f := .free "repr") rfl)
    b_sorted := free_ok X G (c.fact 9 (f := .free "sorted") rfl)
    b_range := free_ok X G (c.fact 10 (f := .free "range") rfl)
    b_enumerate := free_ok X G (c.fact 11 (f := .free "enumerate") rfl)
    b_reversed := free_ok X G (c.fact 12 (f := .free "reversed") rfl)
    b_zip := free_ok X G (c.fact 13 (f := .free "zip") rfl)
    b_list := free_ok X G (c.fact 14 (f := .free "list") rfl)
    b_tuple := free_ok X G (c.fact 15 (f := .free "tuple") rfl)
    b_int := free_ok X G (c.fact 16 (f := .free "int") rfl)
    b_dict := free_ok X G (c.fact 17 (f := .free "dict") rfl)
    b_set := free_ok X G (c.fact 18 (f := .free "set") rfl)
    b_bool := free_ok X G (c.fact 19 (f := .free "bool") rfl)
    b_str := free_ok X G (c.fact 20 (f := .free "str") rfl)
    c_MOST_BITS := let ⟨t, e⟩ := int_ok X G (c.fact 21 (f := .int "MOST_BITS" 80) rfl); ⟨_, e, t, rfl⟩
    c_MOST_LETTERS := let ⟨t, e⟩ := int_ok X G (c.fact 22 (f := .int "MOST_LETTERS" 8) rfl); ⟨_, e, t, rfl⟩
    c_MOST_AXIS_BITS := let ⟨t, e⟩ := int_ok X G (c.fact 23 (f := .int "MOST_AXIS_BITS" 40) rfl); ⟨_, e, t, rfl⟩
    c_LETTERS := let ⟨t, e⟩ := str_ok X G (c.fact 24 (f := .str "LETTERS" "abcdefghijklmnopqrstuvwxyz") rfl); ⟨_, e, t, rfl⟩
    c_HALVES := ⟨_, glo_ok X G (c.fact 25 (f := .glo "HALVES") rfl), rfl⟩
    t_HALVES := fun H => tupB_ok (exAt m 0 (f := X_HALVES) rfl) H
    g_is_integer := glo_ok X G (c.fact 26 (f := .glo "is_integer") rfl)
    d_is_integer := c.def_ 0 (d := D_is_integer) rfl
    g_want_bits := glo_ok X G (c.fact 27 (f := .glo "want_bits") rfl)
    d_want_bits := c.def_ 1 (d := D_want_bits) rfl
    g_fits := glo_ok X G (c.fact 28 (f := .glo "fits") rfl)
    d_fits := c.def_ 2 (d := D_fits) rfl
    g_want_word := glo_ok X G (c.fact 29 (f := .glo "want_word") rfl)
    d_want_word := c.def_ 3 (d := D_want_word) rfl
    g_is_list := glo_ok X G (c.fact 30 (f := .glo "is_list") rfl)
    d_is_list := c.def_ 4 (d := D_is_list) rfl
    g_want_words := glo_ok X G (c.fact 31 (f := .glo "want_words") rfl)
    d_want_words := c.def_ 5 (d := D_want_words) rfl
    g_leading_of := glo_ok X G (c.fact 32 (f := .glo "leading_of") rfl)
    d_leading_of := c.def_ 6 (d := D_leading_of) rfl
    g_bits_of := glo_ok X G (c.fact 33 (f := .glo "bits_of") rfl)
    d_bits_of := c.def_ 7 (d := D_bits_of) rfl
    g_least_sum := glo_ok X G (c.fact 34 (f := .glo "least_sum") rfl)
    d_least_sum := c.def_ 8 (d := D_least_sum) rfl
    g_reduced := glo_ok X G (c.fact 35 (f := .glo "reduced") rfl)
    d_reduced := c.def_ 9 (d := D_reduced) rfl
    g_combined := glo_ok X G (c.fact 36 (f := .glo "combined") rfl)
    d_combined := c.def_ 10 (d := D_combined) rfl
    g_summed := glo_ok X G (c.fact 37 (f := .glo "summed") rfl)
    d_summed := c.def_ 11 (d := D_summed) rfl
    g_selecting_rows := glo_ok X G (c.fact 38 (f := .glo "selecting_rows") rfl)
    d_selecting_rows := c.def_ 12 (d := D_selecting_rows) rfl
    g_kernel_words := glo_ok X G (c.fact 39 (f := .glo "kernel_words") rfl)
    d_kernel_words := c.def_ 13 (d := D_kernel_words) rfl
    g_selected_by := glo_ok X G (c.fact 40 (f := .glo "selected_by") rfl)
    d_selected_by := c.def_ 14 (d := D_selected_by) rfl
    g_selected := glo_ok X G (c.fact 41 (f := .glo "selected") rfl)
    d_selected := c.def_ 15 (d := D_selected) rfl
    g_want_columns := glo_ok X G (c.fact 42 (f := .glo "want_columns") rfl)
    d_want_columns := c.def_ 16 (d := D_want_columns) rfl
    g_want_positions := glo_ok X G (c.fact 43 (f := .glo "want_positions") rfl)
    d_want_positions := c.def_ 17 (d := D_want_positions) rfl
    g_want_same := glo_ok X G (c.fact 44 (f := .glo "want_same") rfl)
    d_want_same := c.def_ 18 (d := D_want_same) rfl
    g_want_map := glo_ok X G (c.fact 45 (f := .glo "want_map") rfl)
    d_want_map := c.def_ 19 (d := D_want_map) rfl
    g_is_name := glo_ok X G (c.fact 46 (f := .glo "is_name") rfl)
    d_is_name := c.def_ 20 (d := D_is_name) rfl
    g_is_axis := glo_ok X G (c.fact 47 (f := .glo "is_axis") rfl)
    d_is_axis := c.def_ 21 (d := D_is_axis) rfl
    g_wrong_axis := glo_ok X G (c.fact 48 (f := .glo "wrong_axis") rfl)
    d_wrong_axis := c.def_ 22 (d := D_wrong_axis) rfl
    g_want_axes := glo_ok X G (c.fact 49 (f := .glo "want_axes") rfl)
    d_want_axes := c.def_ 23 (d := D_want_axes) rfl
    g_want_name := glo_ok X G (c.fact 50 (f := .glo "want_name") rfl)
    d_want_name := c.def_ 24 (d := D_want_name) rfl
    g_names_of := glo_ok X G (c.fact 51 (f := .glo "names_of") rfl)
    d_names_of := c.def_ 25 (d := D_names_of) rfl
    g_total_bits := glo_ok X G (c.fact 52 (f := .glo "total_bits") rfl)
    d_total_bits := c.def_ 26 (d := D_total_bits) rfl
    g_has_axis := glo_ok X G (c.fact 53 (f := .glo "has_axis") rfl)
    d_has_axis := c.def_ 27 (d := D_has_axis) rfl
    g_want_axis := glo_ok X G (c.fact 54 (f := .glo "want_axis") rfl)
    d_want_axis := c.def_ 28 (d := D_want_axis) rfl
    g_want_free := glo_ok X G (c.fact 55 (f := .glo "want_free") rfl)
    d_want_free := c.def_ 29 (d := D_want_free) rfl
    g_number_of := glo_ok X G (c.fact 56 (f := .glo "number_of") rfl)
    d_number_of := c.def_ 30 (d := D_number_of) rfl
    g_axis_size := glo_ok X G (c.fact 57 (f := .glo "axis_size") rfl)
    d_axis_size := c.def_ 31 (d := D_axis_size) rfl
    g_lowest_bit := glo_ok X G (c.fact 58 (f := .glo "lowest_bit") rfl)
    d_lowest_bit := c.def_ 32 (d := D_lowest_bit) rfl
    g_axis_positions := glo_ok X G (c.fact 59 (f := .glo "axis_positions") rfl)
    d_axis_positions := c.def_ 33 (d := D_axis_positions) rfl
    g_want_index := glo_ok X G (c.fact 60 (f := .glo "want_index") rfl)
    d_want_index := c.def_ 34 (d := D_want_index) rfl
    g_want_axis_position := glo_ok X G (c.fact 61 (f := .glo "want_axis_position") rfl)
    d_want_axis_position := c.def_ 35 (d := D_want_axis_position) rfl
    g_split_place := glo_ok X G (c.fact 62 (f := .glo "split_place") rfl)
    d_split_place := c.def_ 36 (d := D_split_place) rfl
    g_spread := glo_ok X G (c.fact 63 (f := .glo "spread") rfl)
    d_spread := c.def_ 37 (d := D_spread) rfl
    g_replaced := glo_ok X G (c.fact 64 (f := .glo "replaced") rfl)
    d_replaced := c.def_ 38 (d := D_replaced) rfl
    g_mixing_map := glo_ok X G (c.fact 65 (f := .glo "mixing_map") rfl)
    d_mixing_map := c.def_ 39 (d := D_mixing_map) rfl
    g_without_bits := glo_ok X G (c.fact 66 (f := .glo "without_bits") rfl)
    d_without_bits := c.def_ 40 (d := D_without_bits) rfl
    g_want_cell_map := glo_ok X G (c.fact 67 (f := .glo "want_cell_map") rfl)
    d_want_cell_map := c.def_ 41 (d := D_want_cell_map) rfl
    g_law_pot := glo_ok X G (c.fact 68 (f := .glo "_law_pot") rfl)
    d_law_pot := c.def_ 42 (d := D_law_pot) rfl
    g_law_digit := glo_ok X G (c.fact 69 (f := .glo "_law_digit") rfl)
    d_law_digit := c.def_ 43 (d := D_law_digit) rfl
    g_law_pick := glo_ok X G (c.fact 70 (f := .glo "_law_pick") rfl)
    d_law_pick := c.def_ 44 (d := D_law_pick) rfl
    g_law_mixed := glo_ok X G (c.fact 71 (f := .glo "_law_mixed") rfl)
    d_law_mixed := c.def_ 45 (d := D_law_mixed) rfl
    g_law_names := glo_ok X G (c.fact 72 (f := .glo "_law_names") rfl)
    d_law_names := c.def_ 46 (d := D_law_names) rfl
    g_law_axes := glo_ok X G (c.fact 73 (f := .glo "_law_axes") rfl)
    d_law_axes := c.def_ 47 (d := D_law_axes) rfl
    g_law_total := glo_ok X G (c.fact 74 (f := .glo "_law_total") rfl)
    d_law_total := c.def_ 48 (d := D_law_total) rfl
    g_law_cell := glo_ok X G (c.fact 75 (f := .glo "_law_cell") rfl)
    d_law_cell := c.def_ 49 (d := D_law_cell) rfl
    g_law_indexes := glo_ok X G (c.fact 76 (f := .glo "_law_indexes") rfl)
    d_law_indexes := c.def_ 50 (d := D_law_indexes) rfl
    g_law_place := glo_ok X G (c.fact 77 (f := .glo "_law_place") rfl)
    d_law_place := c.def_ 51 (d := D_law_place) rfl
    g_law_put := glo_ok X G (c.fact 78 (f := .glo "_law_put") rfl)
    d_law_put := c.def_ 52 (d := D_law_put) rfl
    g_law_dropped := glo_ok X G (c.fact 79 (f := .glo "_law_dropped") rfl)
    d_law_dropped := c.def_ 53 (d := D_law_dropped) rfl
    g_law_redone := glo_ok X G (c.fact 80 (f := .glo "_law_redone") rfl)
    d_law_redone := c.def_ 54 (d := D_law_redone) rfl
    g_law_flipped := glo_ok X G (c.fact 81 (f := .glo "_law_flipped") rfl)
    d_law_flipped := c.def_ 55 (d := D_law_flipped) rfl
    g_law_bits := glo_ok X G (c.fact 82 (f := .glo "_law_bits") rfl)
    d_law_bits := c.def_ 56 (d := D_law_bits) rfl
    g_law_stirred := glo_ok X G (c.fact 83 (f := .glo "_law_stirred") rfl)
    d_law_stirred := c.def_ 57 (d := D_law_stirred) rfl
    g_law_fixed := glo_ok X G (c.fact 84 (f := .glo "_law_fixed") rfl)
    d_law_fixed := c.def_ 58 (d := D_law_fixed) rfl
    g_law_widened := glo_ok X G (c.fact 85 (f := .glo "_law_widened") rfl)
    d_law_widened := c.def_ 59 (d := D_law_widened) rfl
    g_law_cut := glo_ok X G (c.fact 86 (f := .glo "_law_cut") rfl)
    d_law_cut := c.def_ 60 (d := D_law_cut) rfl
    g_law_repeated := glo_ok X G (c.fact 87 (f := .glo "_law_repeated") rfl)
    d_law_repeated := c.def_ 61 (d := D_law_repeated) rfl
    g_law_changed := glo_ok X G (c.fact 88 (f := .glo "_law_changed") rfl)
    d_law_changed := c.def_ 62 (d := D_law_changed) rfl
    g_law_is_plain := glo_ok X G (c.fact 89 (f := .glo "_law_is_plain") rfl)
    d_law_is_plain := c.def_ 63 (d := D_law_is_plain) rfl
    g_law_shows := glo_ok X G (c.fact 90 (f := .glo "_law_shows") rfl)
    d_law_shows := c.def_ 64 (d := D_law_shows) rfl
    g_law_right := glo_ok X G (c.fact 91 (f := .glo "_law_right") rfl)
    d_law_right := c.def_ 65 (d := D_law_right) rfl
    g_law := glo_ok X G (c.fact 92 (f := .glo "law") rfl)
    d_law := c.def_ 66 (d := D_law) rfl
    g_Space := glo_ok X G (c.fact 93 (f := .glo "Space") rfl)
    k_Space := ⟨_, glo_ok X G (c.fact 93 (f := .glo "Space") rfl), rfl⟩
    i_Space := insB_ok (cls_ok (c.fact 94 (f := .cls "Space") rfl)) (exAt m 1 (f := X_ISpace) rfl)
    m_Space := mkr_ok (c.fact 95 (f := .mkr "Space") rfl)
    n_Space_own_bits := noat_ok (c.fact 96 (f := .noat "Space" "own_bits") rfl)
    n_Space_own_basis := noat_ok (c.fact 97 (f := .noat "Space" "own_basis") rfl)
    g_Flat := glo_ok X G (c.fact 98 (f := .glo "Flat") rfl)
    k_Flat := ⟨_, glo_ok X G (c.fact 98 (f := .glo "Flat") rfl), rfl⟩
    i_Flat := insB_ok (cls_ok (c.fact 99 (f := .cls "Flat") rfl)) (exAt m 2 (f := X_IFlat) rfl)
    m_Flat := mkr_ok (c.fact 100 (f := .mkr "Flat") rfl)
    n_Flat_own_space := noat_ok (c.fact 101 (f := .noat "Flat" "own_space") rfl)
    n_Flat_own_point := noat_ok (c.fact 102 (f := .noat "Flat" "own_point") rfl)
    g_Map := glo_ok X G (c.fact 103 (f := .glo "Map") rfl)
    k_Map := ⟨_, glo_ok X G (c.fact 103 (f := .glo "Map") rfl), rfl⟩
    i_Map := insB_ok (cls_ok (c.fact 104 (f := .cls "Map") rfl)) (exAt m 3 (f := X_IMap) rfl)
    m_Map := mkr_ok (c.fact 105 (f := .mkr "Map") rfl)
    n_Map_own_columns := noat_ok (c.fact 106 (f := .noat "Map" "own_columns") rfl)
    n_Map_own_bits := noat_ok (c.fact 107 (f := .noat "Map" "own_bits") rfl)
    n_Map_own_offset := noat_ok (c.fact 108 (f := .noat "Map" "own_offset") rfl)
    g_Layout := glo_ok X G (c.fact 109 (f := .glo "Layout") rfl)
    k_Layout := ⟨_, glo_ok X G (c.fact 109 (f := .glo "Layout") rfl), rfl⟩
    i_Layout := insB_ok (cls_ok (c.fact 110 (f := .cls "Layout") rfl)) (exAt m 4 (f := X_ILayout) rfl)
    m_Layout := mkr_ok (c.fact 111 (f := .mkr "Layout") rfl)
    n_Layout_own_axes := noat_ok (c.fact 112 (f := .noat "Layout" "own_axes") rfl)
    n_Layout_own_mapping := noat_ok (c.fact 113 (f := .noat "Layout" "own_mapping") rfl)
    d_Space_init := c.def_ 67 (d := D_Space_init) rfl
    q_Space_eq := meth_ok (c.fact 114 (f := .meth "Space" "__eq__") rfl)
    d_Space_eq := c.def_ 68 (d := D_Space_eq) rfl
    q_Space_repr := meth_ok (c.fact 115 (f := .meth "Space" "__repr__") rfl)
    d_Space_repr := c.def_ 69 (d := D_Space_repr) rfl
    d_Flat_init := c.def_ 70 (d := D_Flat_init) rfl
    q_Flat_bits := ⟨_, _, propB_ok (exAt m 5 (f := X_Flat_bits) rfl), c.def_ 71 (d := D_Flat_bits) rfl⟩
    q_Flat_walk := meth_ok (c.fact 116 (f := .meth "Flat" "walk") rfl)
    d_Flat_walk := c.def_ 72 (d := D_Flat_walk) rfl
    q_Flat_eq := meth_ok (c.fact 117 (f := .meth "Flat" "__eq__") rfl)
    d_Flat_eq := c.def_ 73 (d := D_Flat_eq) rfl
    q_Flat_repr := meth_ok (c.fact 118 (f := .meth "Flat" "__repr__") rfl)
    d_Flat_repr := c.def_ 74 (d := D_Flat_repr) rfl
    d_Map_init := c.def_ 75 (d := D_Map_init) rfl
    q_Map_selecting := ⟨(cmB_ok (exAt m 6 (f := X_Map_selecting) rfl)).1, _, _, (cmB_ok (exAt m 6 (f := X_Map_selecting) rfl)).2, c.def_ 76 (d := D_Map_selecting) rfl⟩
    q_Map_bits_in := ⟨_, _, propB_ok (exAt m 7 (f := X_Map_bits_in) rfl), c.def_ 77 (d := D_Map_bits_in) rfl⟩
    q_Map_bits := ⟨_, _, propB_ok (exAt m 8 (f := X_Map_bits) rfl), c.def_ 78 (d := D_Map_bits) rfl⟩
    q_Map_is_injective := ⟨_, _, propB_ok (exAt m 9 (f := X_Map_is_injective) rfl), c.def_ 79 (d := D_Map_is_injective) rfl⟩
    q_Map_at := meth_ok (c.fact 119 (f := .meth "Map" "at") rfl)
    d_Map_at := c.def_ 80 (d := D_Map_at) rfl
    q_Map_then := meth_ok (c.fact 120 (f := .meth "Map" "then") rfl)
    d_Map_then := c.def_ 81 (d := D_Map_then) rfl
    q_Map_kernel := meth_ok (c.fact 121 (f := .meth "Map" "kernel") rfl)
    d_Map_kernel := c.def_ 82 (d := D_Map_kernel) rfl
    q_Map_image := meth_ok (c.fact 122 (f := .meth "Map" "image") rfl)
    d_Map_image := c.def_ 83 (d := D_Map_image) rfl
    q_Map_before := meth_ok (c.fact 123 (f := .meth "Map" "before") rfl)
    d_Map_before := c.def_ 84 (d := D_Map_before) rfl
    d_Layout_init := c.def_ 85 (d := D_Layout_init) rfl
    q_Layout_bits := ⟨_, _, propB_ok (exAt m 10 (f := X_Layout_bits) rfl), c.def_ 86 (d := D_Layout_bits) rfl⟩
    q_Layout_cell_bits := ⟨_, _, propB_ok (exAt m 11 (f := X_Layout_cell_bits) rfl), c.def_ 87 (d := D_Layout_cell_bits) rfl⟩
    q_Layout_is_injective := ⟨_, _, propB_ok (exAt m 12 (f := X_Layout_is_injective) rfl), c.def_ 88 (d := D_Layout_is_injective) rfl⟩
    q_Layout_axes := meth_ok (c.fact 124 (f := .meth "Layout" "axes") rfl)
    d_Layout_axes := c.def_ 89 (d := D_Layout_axes) rfl
    q_Layout_indexes_of := meth_ok (c.fact 125 (f := .meth "Layout" "indexes_of") rfl)
    d_Layout_indexes_of := c.def_ 90 (d := D_Layout_indexes_of) rfl
    q_Layout_cell_at := meth_ok (c.fact 126 (f := .meth "Layout" "cell_at") rfl)
    d_Layout_cell_at := c.def_ 91 (d := D_Layout_cell_at) rfl
    q_Layout_places_of := meth_ok (c.fact 127 (f := .meth "Layout" "places_of") rfl)
    d_Layout_places_of := c.def_ 92 (d := D_Layout_places_of) rfl
    q_Layout_cells := meth_ok (c.fact 128 (f := .meth "Layout" "cells") rfl)
    d_Layout_cells := c.def_ 93 (d := D_Layout_cells) rfl
    q_Layout_walk := meth_ok (c.fact 129 (f := .meth "Layout" "walk") rfl)
    d_Layout_walk := c.def_ 94 (d := D_Layout_walk) rfl
    q_Layout_flipped := meth_ok (c.fact 130 (f := .meth "Layout" "flipped") rfl)
    d_Layout_flipped := c.def_ 95 (d := D_Layout_flipped) rfl
    q_Layout_mixed := meth_ok (c.fact 131 (f := .meth "Layout" "mixed") rfl)
    d_Layout_mixed := c.def_ 96 (d := D_Layout_mixed) rfl
    q_Layout_fixed := meth_ok (c.fact 132 (f := .meth "Layout" "fixed") rfl)
    d_Layout_fixed := c.def_ 97 (d := D_Layout_fixed) rfl
    q_Layout_cut := meth_ok (c.fact 133 (f := .meth "Layout" "cut") rfl)
    d_Layout_cut := c.def_ 98 (d := D_Layout_cut) rfl
    q_Layout_repeated := meth_ok (c.fact 134 (f := .meth "Layout" "repeated") rfl)
    d_Layout_repeated := c.def_ 99 (d := D_Layout_repeated) rfl
theorem code_of {K : PySem.W.Frag} {x : Str} {st : Stmt} (D : DefF K x x st (ga K x)) : ∃ (oc : Value) (od : Option Addr) (fd : FuncData) (osl : Array (Option Value)), K.lookup (ga K x) = some ⟨oc, od, .func fd, osl⟩ ∧ fd.code = .ref (cT K (x, none)).1 := by
  obtain ⟨fd, F⟩ := D
  obtain ⟨oc, od, dV, kV, doc, pm, an, cdv, ct, osl, rfl, lk, hcd, _, _⟩ := F.ex
  obtain ⟨c, rfl⟩ := codeIn_ref hcd
  have e : codeOf K (x, none) = c := codeOf_eq (p := (x, none)) lk rfl
  exact ⟨oc, od, _, osl, lk, by rw [show (cT K (x, none)).1 = c from e] <;> rfl⟩
abbrev tfM (K : PySem.W.Frag) (x : Str) : Addr × Addr := cT K (x, none)
theorem five_D {x : Str} (h : x ∈ five) : ((x, none) : Defn) ∈ fiveD := by
  rw [show fiveD = five.map fun x => (x, none) from rfl]
  exact List.mem_map.mpr ⟨x, h, rfl⟩
theorem tbf_of {K : PySem.W.Frag} {base : Heap} {mg : Str → Option Value} (T : Tx K mg) (ap : apart K = true) (tb : ∀ p ∈ fiveD, LamX.TabB base mg (cT K p).1 (cT K p).2) : TbF K mg base (tfM K) where
  code x hx := by
    rcases List.mem_cons.mp hx with rfl | hx
    · exact code_of T.d_law_flipped
    rcases List.mem_cons.mp hx with rfl | hx
    · exact code_of T.d_law_stirred
    rcases List.mem_cons.mp hx with rfl | hx
    · exact code_of T.d_law_fixed
    rcases List.mem_cons.mp hx with rfl | hx
    · exact code_of T.d_law_cut
    rcases List.mem_cons.mp hx with rfl | hx
    · exact code_of T.d_law_repeated
    · cases hx
  tb x hx := tb _ (five_D hx)
  nd x hx y hy e := by
    have h := List.all_eq_true.mp (List.all_eq_true.mp ap _ (five_D hx)) _ (five_D hy)
    rcases Bool.or_eq_true_iff.mp h with h | h
    · exact of_decide_eq_true h
    · have e' : (cT K (x, none)).2 = (cT K (y, none)).2 := e
      rw [e'] at h
      simp at h
/-! ### the law's call -/
/-- the script's object -/
abbrev scrO (vs : List Value) : Obj := { cls := .type "list", data := .seq vs.toArray }
abbrev mtO : Obj := { cls := .none, data := .fields #[] }
/-- what is tracked from the start: the script, the five tables -/
def startH (K : PySem.W.Frag) (a : Addr) (vs : List Value) (ns : List Int) : Hp := fun b =>
  if b = a then some (.frz (scrO vs) (.lst (ns.map V.int))) else if b ∈ fiveD.map (fun p => (cT K p).2) then some (.tbl #[]) else none
section
variable {K : PySem.W.Frag} {h : Heap} {a : Addr} {vs : List Value} {ns : List Int}
theorem startH_a : startH K a vs ns a = some (.frz (scrO vs) (.lst (ns.map V.int))) := if_pos rfl
theorem tabs_at (S : SaysM h K) {b : Addr} (hb : b ∈ fiveD.map (fun p => (cT K p).2)) : h.get? b = some mtO ∧ K.lookup b = none := by
  obtain ⟨p, hp, rfl⟩ := List.mem_map.mp hb
  exact ⟨S.em p hp, S.out p hp⟩
theorem tab_ne (S : SaysM h K) (ha : h.get? a = some (scrO vs)) {b : Addr} (hb : b ∈ fiveD.map (fun p => (cT K p).2)) : b ≠ a := fun e => by
  have z := (tabs_at S hb).1
  rw [e, ha] at z
  cases z
theorem startH_t (S : SaysM h K) (ha : h.get? a = some (scrO vs)) {b : Addr} (hb : b ∈ fiveD.map (fun p => (cT K p).2)) : startH K a vs ns b = some (.tbl #[]) :=
  (if_neg (tab_ne S ha hb)).trans (if_pos hb)
theorem startH_n {b : Addr} (h1 : b ≠ a) (h2 : b ∉ fiveD.map (fun p => (cT K p).2)) : startH K a vs ns b = none := (if_neg h1).trans (if_neg h2)
/-- an object of another kind is not tracked -/
theorem startH_o (S : SaysM h K) (ha : h.get? a = some (scrO vs)) {b : Addr} {o : Obj} (e : h.get? b = some o) (n1 : o ≠ scrO vs) (n2 : o ≠ mtO) : startH K a vs ns b = none := by
  refine startH_n (fun z => ?_) fun z => ?_
  · rw [z, ha] at e
    exact n1 (Option.some.inj e).symm
  · rw [(tabs_at S z).1] at e
    exact n2 (Option.some.inj e).symm
theorem startH_k (X : K.In h) (S : SaysM h K) (ha : h.get? a = some (scrO vs)) {b : Addr} {o : Obj} (e : K.lookup b = some o) : startH K a vs ns b = none := by
  refine startH_n (fun z => ?_) fun z => ?_
  · have q := X b o e
    rw [z, ha] at q
    have l := List.all_eq_true.mp S.nl (b, o) (lookup_mem e)
    rw [← Option.some.inj q] at l
    cases l
  · rw [(tabs_at S z).2] at e
    cases e
theorem startH_cases {b : Addr} {u : HO} (z : startH K a vs ns b = some u) : (b = a ∧ u = .frz (scrO vs) (.lst (ns.map V.int))) ∨ (b ∈ fiveD.map (fun p => (cT K p).2) ∧ u = .tbl #[]) := by
  unfold startH at z
  split at z
  · exact .inl ⟨‹_›, (Option.some.inj z).symm⟩
  · split at z
    · exact .inr ⟨‹_›, (Option.some.inj z).symm⟩
    · cases z
end
theorem law_end {P : Program} {w : World} {K : PySem.W.Frag} {mg mb : Str → Option Value} {s : Shared} {a : Addr} {vs : List Value} {ns : List Int} (X : K.In s.heap) (S : SaysM s.heap K) (G : s.heap.Ns mainGlobals mg) (hb : s.heap.Ns builtinsNs mb)
    (hbb : ∀ x : Str, x ≠ "__name__" → mb x = bootBuiltins x) (lim : s.heap.NoLimit) (hg : s.gens = #[])
    (hbm : ∃ (bm : Addr) (ob : Obj), mg "__builtins__" = some (.ref bm) ∧ bm ≠ builtinsNs ∧ s.heap.get? bm = some ob ∧ ob.cls = .type "module" ∧ ob.dict = some builtinsNs ∧ ob.data = .plain)
    (ha : s.heap.get? a = some (scrO vs)) (hi : IntsAre vs ns) (hl : ns.length ≤ sizeLine) :
    codeAny (model P w) callerA (.call (.ref (ga K "law")) ⟨[.ref a], []⟩) (fun r s' => r = .ok (.ret (.bool true)) ∧ OldK s.heap s'.heap ∧ s'.os = s.os ∧ AllBare s'.gens) s := by
  have rv := vals_ints hi
  -- the base: all that is not tracked
  have get_b : ∀ {b : Addr} {o : Obj}, s.heap.get? b = some o → o ≠ scrO vs → o ≠ mtO → (hidT s.heap (startH K a vs ns)).get? b = some o := fun e n1 n2 => hidT_get e (startH_o S ha e n1 n2)
  have kb : K.In (hidT s.heap (startH K a vs ns)) := fun b o e => hidT_get (X b o e) (startH_k X S ha e)
  have ns_b : ∀ {b : Addr} {m : Str → Option Value}, s.heap.Ns b m → (hidT s.heap (startH K a vs ns)).Ns b m := fun ⟨o, es, ep, e, d, r⟩ =>
    ⟨o, es, ep, get_b e (fun z => by rw [z] at d; cases d) (fun z => by rw [z] at d; cases d), d, r⟩
  have md : L2.Mod K mg (hidT s.heap (startH K a vs ns)) := ⟨kb, ns_b G, ⟨mb, ns_b hb, hbb⟩, lim.elim fun mc z => ⟨mc, ns_b z.1, z.2⟩⟩
  have gne : ∀ {b : Addr} {o : Obj}, s.heap.get? b = some o → (∀ es ep, o.data ≠ .dict es ep) → mainGlobals ≠ b := fun {b o} e n z => by
    obtain ⟨o', es, ep, e', d, _⟩ := G
    rw [z, e] at e'
    rw [← Option.some.inj e'] at d
    exact n _ _ d
  have tb : ∀ p ∈ fiveD, LamX.TabB (hidT s.heap (startH K a vs ns)) mg (cT K p).1 (cT K p).2 := fun p hp => by
    have em := S.em p hp
    refine ⟨PySem.W.codeHd_of_K kb (S.hd p hp), ?_, gne em fun es ep z => by cases z⟩
    obtain ⟨bm, ob, b1, b2, b3, b4, b5, b6⟩ := hbm
    refine ⟨bm, ob, b1, b2, (gne b3 fun es ep z => by rw [b6] at z; cases z).symm, fun z => ?_, get_b b3 (fun z => ?_) (fun z => ?_), b4, b5, b6⟩
    · rw [z, em] at b3
      rw [← Option.some.inj b3] at b6
      cases b6
    · rw [z] at b6
      cases b6
    · rw [z] at b6
      cases b6
  have T : Tx K mg := tx_of X G S.a S.m
  have hok : HOk P w (startH K a vs ns) s.heap := fun b u z => by
    rcases startH_cases z with ⟨rfl, rfl⟩ | ⟨q, rfl⟩
    · exact ⟨ha, by rw [List.length_map]; exact hl, vs, _, rv, ha⟩
    · exact (tabs_at S q).1
  have e0 : Env0 P w K mg (hidT s.heap (startH K a vs ns)) callerA [] s (startH K a vs ns) :=
    { frames := rfl, mod := md, bs := fun b o e => of_hidT e, bsz := Nat.le_of_eq (hidT_size _ _), funs := trivial, frf := fun b q => absurd (show b ∈ ([] : List Addr) from q) List.not_mem_nil, hok := hok, bare := .of_eq hg }
  obtain ⟨f, fd, ps, F, hm, _, bi⟩ := (c_law (P := P) (w := w) T (tbf_of T S.ap tb)).ex
  have ef : f = ga K "law" := by
    rw [T.g_law] at hm
    injection hm with hm
    injection hm with hm
    exact hm.symm
  subst ef
  have hsp : spLaw K (tbl5 (tfM K)) [.ref a] (startH K a vs ns) (fun v _ => v = .bl true) (fun _ _ _ => False) :=
    ⟨_, rfl, a, ns, rfl, .inl (.inr ⟨scrO vs, startH_a⟩), fun q hq => by
      obtain ⟨x, hx, rfl⟩ := List.mem_map.mp hq
      exact TabS.nil (startH_t S ha (List.mem_map.mpr ⟨_, five_D hx, rfl⟩)), fun _ => rfl⟩
  have len := F.len _ _ _ _ hsp
  have bt := bi s [.ref a] X len
  rw [List.append_nil] at bt
  refine codeAny_mono (F.run callerA [] s _ _ _ [.ref a] _ _ ⟨rfl, by decide, by decide⟩ rfl e0 bt (.cons rfl .nil) hsp) fun r s' q => ?_
  cases r with
  | error e => exact q.elim
  | ok fl =>
    cases fl with
    | next => exact q.elim
    | brk => exact q.elim
    | cont => exact q.elim
    | ret u =>
      obtain ⟨v, H', os, bare, un, hok', r', rfl⟩ := q
      obtain rfl : u = Value.bool true := r'
      have hold : ∀ b o, b ∉ fiveD.map (fun p => (cT K p).2) → s.heap.get? b = some o → s'.heap.get? b = some o := fun b o nb e => by
        by_cases z : b = a
        · subst z
          rw [ha] at e
          rw [← Option.some.inj e]
          exact (hok' b _ (un.frzs b _ _ startH_a)).1
        · exact un.keep b o e (startH_n z nb) (fun q => nomatch (show b ∈ ([] : List Addr) from q)) (fun q => nomatch (show b ∈ ([] : List Addr) from q))
      have grow : ∀ p ∈ fiveD, ∃ more : Array Value, s'.heap.get? (cT K p).2 = some { cls := .none, data := .fields more } := fun p hp => by
        obtain ⟨more, z⟩ := un.tbls _ _ (startH_t (ns := ns) S ha (List.mem_map.mpr ⟨p, hp, rfl⟩))
        exact ⟨_, hok' _ _ z⟩
      refine ⟨rfl, ⟨fun b o e => ?_, fun b o e => ?_⟩, os, bare⟩
      · by_cases nb : b ∈ fiveD.map (fun p => (cT K p).2)
        · obtain ⟨p, hp, rfl⟩ := List.mem_map.mp nb
          obtain ⟨more, z⟩ := grow p hp
          have em := S.em p hp
          rw [em] at e
          cases e
          exact .inr (.inl ⟨((PySem.W.codeHd_of_K X (S.hd p hp)).tab em).isCodeTable, rfl, #[], more, rfl, by rw [Array.empty_append]; exact z⟩)
        · exact .inl (hold b o nb e)
      · by_cases nb : b ∈ fiveD.map (fun p => (cT K p).2)
        · obtain ⟨p, hp, rfl⟩ := List.mem_map.mp nb
          obtain ⟨more, z⟩ := grow p hp
          exact ⟨_, z⟩
        · exact ⟨o, hold b o nb e⟩
theorem law_name : (HandSHeadRun.topDef R0.prog 111).name = ("law" : PySem.Str) := by kernel_rfl
theorem law_walk : PySem.W.WalkO qv namesM (PySem.W.XL qv []) hookM.says PySem.Challenge.rw_bitlaid_k25_whole_places_changed.row.toRowW (HandSHeadRun.topDef R0.prog 111) [] (fun f vs => PySem.call f vs) := by
  refine Att.attach_callB (n := 63) rfl (by kernel_rfl) fun w s₀ s₁ mg mb fa o pm cd doc a vs ns G Y ho hd hcd hmg hobj hints hlen hbits hg => ?_
  obtain ⟨K, X, S⟩ := Y
  rw [law_name] at hmg
  have e := (tx_of X G.T.g S.a S.m).g_law
  rw [hmg] at e
  injection e with e
  injection e with e
  subst e
  exact law_end X S G.T.g G.T.b G.T.builtins G.T.nolimit hg G.T.bmain hobj hints (Nat.le_trans hlen (by decide))
end My
open PySem PySem.W PySem.Calls PyProof.Rows
theorem PySem.Challenge.cw_bitlaid_k25_whole_places_changed_holds : PySem.Challenge.rw_bitlaid_k25_whole_places_changed.Holds := by
  w_on; o_law
  refine HandSHeadRun.head_any (r := OpenLaw.row PySem.Challenge.rw_bitlaid_k25_whole_places_changed) (q := My.qv) (H := My.hookM) (ob := My.obM) (M := 20000) (loose := My.namesM) (d := HandSHeadRun.topDef My.R0.prog 111) (kwd := []) My.obM_eq
    (by kernel_rfl) (fun s => by kernel_rfl) My.runM (by kernel_rfl) (by kernel_rfl) (by kernel_rfl) (by rfl) (by first | assumption | decide +kernel) (by decide +kernel) ⟨rfl, rfl, rfl, rfl, rfl, by decide +kernel⟩ ?hw ?hc
  case hw => w_witness2
  case hc => exact My.law_walk

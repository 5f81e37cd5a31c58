import PyProof.Rows.All
import Wide.All
import OpenK.AllK
import Wide.FinOn
import Lean
import PySem.Challenge.RW_sa0217_01
open PySem PySem.W PySem.Spec PySem.Calls PyProof.Rows
set_option Elab.async false
set_option rowWalk.seconds 0
set_option pp.deepTerms false
set_option pp.maxSteps 20000
set_option linter.all false
namespace Mine
section
local macro_rules | `(tactic| o_head $_) => `(tactic| assumption)
set_option maxRecDepth 100000 in
set_option maxHeartbeats 8000000 in
theorem frag (h : PySem.Challenge.rw_sa0217_01.row.Holds) : PySem.Challenge.rw_sa0217_01.row.Holds := by k_head
end

section
/-- a call's contract: for all frames and ledgers -/
abbrev Ct (w : World) (mg mb : Str → Option Value) (p : Program) (loose : List Str) (mean : ExcName → Option Value) (d : Nat) (f : Addr) (vs : List Value)
    (news : List (Addr × Obj)) (Ret : Heap → Addr → (Str → Option Value) → Shared → (Value → Shared → Prop) → Prop) : Prop :=
  ∀ (dp un : Nat) (gd : Option (List Code)) (cn : Str) (cs : Scope) (a : Addr) (ccd : Value) (cl : List (Str × Addr)) (outer : List Env) (A₀ : Around) (base h₀ : Heap) (L : Addr) (m : Str → Option Value) (s : Shared) (Q E : Value → Shared → Prop),
    Below A₀ base outer h₀ → Fr h₀ L s.heap m → (frag.heap_1 w.params).In h₀ → News h₀ L s.heap news → Top p loose mean mg mb h₀ → cs.kind = .function →
    dp + d < recursionLimit → un + 8 * d < cLine → Ret h₀ L m s Q →
      wpAny (model PySem.Challenge.rw_sa0217_01.row.prog w) (ktrTop dp un gd cn cs L a ccd cl outer) (call (.ref f) vs) Q E s

/-- a plain value comes back, the ledger as it was -/
abbrev RetP (news : List (Addr × Obj)) (V : Tok → Value) (h₀ : Heap) (L : Addr) (m : Str → Option Value) (s : Shared) (Q : Value → Shared → Prop) : Prop :=
  ∀ (t : Tok) (h' : Heap) (tk' : Nat), Fr h₀ L h' m → News h₀ L h' news → Q (V t) { s with heap := h', toks := tk' }

/-- a fact besides -/
abbrev RetF (fact : Prop) (news : List (Addr × Obj)) (V : Tok → Value) (h₀ : Heap) (L : Addr) (m : Str → Option Value) (s : Shared) (Q : Value → Shared → Prop) : Prop :=
  fact → RetP news V h₀ L m s Q
abbrev tupO (vs : Array Value) : Obj := { cls := .type "tuple", data := .seq vs }
/-- a new tuple comes back -/
abbrev RetT (news : List (Addr × Obj)) (V : Tok → Tok → Tok → Array Value) (h₀ : Heap) (L : Addr) (m : Str → Option Value) (s : Shared) (Q : Value → Shared → Prop) : Prop :=
  ∀ (q : Addr) (t1 t2 t3 : Tok) (h' : Heap) (tk' : Nat), Fr h₀ L h' m → News h₀ L h' ((q, tupO (V t1 t2 t3)) :: news) → (∀ p ∈ news, p.1 < q) → Q (.ref q) { s with heap := h', toks := tk' }

theorem room9 {dp d d' r : Nat} (h : dp + d < r) (hd : Nat.ble (d' + 1) d = true) : dp + 1 + d' < r := by
  have := Nat.le_of_ble_eq_true hd; (clear hd; omega)
theorem units9 {un d d' r : Nat} (h : un + 8 * d < r) (hd : Nat.ble (d' + 1) d = true) : un + 3 + 8 * d' < r := by
  have := Nat.le_of_ble_eq_true hd; (clear hd; omega)
/-! texts as lists of numbers -/
noncomputable def cs (x : Str) : List Nat := x.cps.toList
noncomputable def S (l : List Nat) : Str := ⟨l.toArray⟩
@[simp] theorem cs_S (l : List Nat) : cs (S l) = l := rfl
@[simp] theorem S_cs (x : Str) : S (cs x) = x := by cases x; rfl
theorem len_cs (x : Str) : x.length = (cs x).length := by show x.cps.size = _; unfold cs; simp
@[simp] theorem len_S (l : List Nat) : (S l).length = l.length := by rw [len_cs, cs_S]
theorem S_ext {x y : Str} (h : cs x = cs y) : x = y := by rw [← S_cs x, ← S_cs y, h]
theorem eq_S {x : Str} {l : List Nat} (h : cs x = l) : x = S l := by rw [← h, S_cs]
@[simp] theorem S_inj {l k : List Nat} : S l = S k ↔ l = k := ⟨fun h => congrArg cs h, fun h => h ▸ rfl⟩
@[simp] theorem cs_append (x y : Str) : cs (x ++ y) = cs x ++ cs y := by
  show (x.cps ++ y.cps).toList = _; simp [cs]
theorem S_append (l k : List Nat) : S l ++ S k = S (l ++ k) := S_ext (by simp)
theorem beq_cs (x y : Str) : (x == y) = (cs x == cs y) := by
  by_cases h : x = y
  · subst h; simp
  · have h' : ¬ cs x = cs y := fun e => h (S_ext e)
    rw [beq_eq_false_iff_ne.mpr h, beq_eq_false_iff_ne.mpr h']
theorem bne_cs (x y : Str) : (x != y) = (cs x != cs y) := by simp only [bne, beq_cs]
theorem foldl_cat (a : Array Nat) : ∀ (n : Nat) (acc : Array Nat), ((List.replicate n a).foldl (· ++ ·) acc).toList = acc.toList ++ (List.replicate n a.toList).flatten
  | 0, acc => by simp
  | n + 1, acc => by
    rw [List.replicate_succ, List.foldl_cons, foldl_cat a n, List.replicate_succ, List.flatten_cons]
    simp
@[simp] theorem cs_mul (x : Str) (n : Int) : cs (Txt.mul x n) = (List.replicate n.toNat (cs x)).flatten := by
  unfold Txt.mul
  by_cases h1 : n < 1
  · rw [if_pos h1, show n.toNat = 0 by omega]; rfl
  · rw [if_neg h1]
    by_cases h2 : (n == 1 || x.length == 0) = true
    · rw [if_pos h2]
      rcases Bool.or_eq_true_iff.mp h2 with h | h
      · have : n = 1 := by simpa using h
        subst this; simp
      · have hx : cs x = [] := by
          have : x.length = 0 := by simpa using h
          rw [len_cs] at this
          exact List.length_eq_zero_iff.mp this
        rw [hx]; simp
    · rw [if_neg h2]
      show ((List.replicate n.toNat x.cps).foldl (· ++ ·) #[]).toList = _
      rw [foldl_cat]; simp [cs]
theorem flat_one (c : Nat) : ∀ n : Nat, (List.replicate n [c]).flatten = List.replicate n c
  | 0 => rfl
  | n + 1 => by rw [List.replicate_succ, List.flatten_cons, flat_one c n]; rfl

@[simp] theorem lit_e : cs (Str.ofString "") = [] := by decide +kernel
@[simp] theorem lit_em : cs Str.empty = [] := rfl
@[simp] theorem lit_minus : cs (Str.ofString "-") = [45] := by decide +kernel
@[simp] theorem lit_plus : cs (Str.ofString "+") = [43] := by decide +kernel
@[simp] theorem lit_sp : cs (Str.ofString " ") = [32] := by decide +kernel
@[simp] theorem lit_0 : cs (Str.ofString "0") = [48] := by decide +kernel
@[simp] theorem lit_pt : cs (Str.ofString ".") = [46] := by decide +kernel
@[simp] theorem lit_0pt : cs (Str.ofString "0.") = [48, 46] := by decide +kernel
@[simp] theorem lit_star : cs (Str.ofString "*") = [42] := by decide +kernel
@[simp] theorem lit_E : cs (Str.ofString "E") = [69] := by decide +kernel
@[simp] theorem lit_D : cs (Str.ofString "D") = [68] := by decide +kernel
@[simp] theorem lit_T : cs (Str.ofString "T") = [84] := by decide +kernel
@[simp] theorem lit_F : cs (Str.ofString "F") = [70] := by decide +kernel
@[simp] theorem lit_I : cs (Str.ofString "I") = [73] := by decide +kernel
@[simp] theorem lit_L : cs (Str.ofString "L") = [76] := by decide +kernel
@[simp] theorem lit_A : cs (Str.ofString "A") = [65] := by decide +kernel
@[simp] theorem lit_figs : cs (Str.ofString "0123456789") = [48, 49, 50, 51, 52, 53, 54, 55, 56, 57] := by decide +kernel
@[simp] theorem lit_abs : cs (Str.ofString "ab *'+") = [97, 98, 32, 42, 39, 43] := by decide +kernel

theorem cs_slice_to {x : Str} {j : Int} (h0 : 0 ≤ j) (h1 : j ≤ (cs x).length) : cs (Txt.slice x none (some j)) = (cs x).take j.toNat := by
  have h := eq_of_beq (PyProof.Rows.slice_closes_to (x := x) (j := j) ⟨h0, h1⟩)
  rw [h]; simp [cs]
theorem cs_slice_from {x : Str} {i : Int} (h0 : 0 ≤ i) : cs (Txt.slice x (some i) none) = (cs x).drop i.toNat := by
  by_cases h : (x.length : Int) ≤ i
  · rw [PyProof.Rows.slice_beyond h]
    rw [List.drop_eq_nil_of_le (by rw [← len_cs]; (clear h0; omega))]; rfl
  · have h := PyProof.Rows.slice_from_eq (x := x) (i := i) (b := x.length) h0 (by (clear h0; omega)) rfl
    rw [h]
    show (List.take _ (List.drop _ _)) = _
    rw [List.take_of_length_le]
    · rfl
    · rw [List.length_drop]
      have := len_cs x
      unfold cs at this
      (clear h h0; omega)
theorem cs_slice_mid {x : Str} {i j : Int} (h0 : 0 ≤ i) (h1 : i ≤ j) (h2 : j ≤ (cs x).length) : cs (Txt.slice x (some i) (some j)) = ((cs x).drop i.toNat).take (j - i).toNat := by
  have h := eq_of_beq (PyProof.Rows.slice_closes (x := x) (i := i) (j := j) ⟨h0, h1, h2⟩)
  rw [h]; rfl
theorem cs_slice_1 (x : Str) : cs (Txt.slice x none (some 1)) = (cs x).take 1 := by
  by_cases h : 1 ≤ (cs x).length
  · exact cs_slice_to (by decide) (by omega)
  · have hx : cs x = [] := List.length_eq_zero_iff.mp (by omega)
    have hle := Txt.slice_le x none (some 1)
    rw [len_cs, len_cs x, hx] at hle
    rw [hx]
    exact List.length_eq_zero_iff.mp (Nat.le_zero.mp hle)
theorem cs_item {x : Str} {i : Int} {n : Nat} (h0 : 0 ≤ i) (hn : (cs x)[i.toNat]? = some n) : cs (Txt.item x i) = [n] := by
  have := PyProof.Rows.item_meets (x := x) (i := i) (n := n) h0 (by rw [← Array.getElem?_toList]; exact hn)
  rw [this]; rfl

end
section
/-! decimal figures -/
noncomputable def decR (n : Nat) : List Nat := if n < 10 then [48 + n] else decR (n / 10) ++ [48 + n % 10]
termination_by n
decreasing_by (first | lia | omega)
theorem decR_lt {n : Nat} (h : n < 10) : decR n = [48 + n] := by rw [decR, if_pos h]
theorem decR_ge {n : Nat} (h : ¬ n < 10) : decR n = decR (n / 10) ++ [48 + n % 10] := by rw [decR, if_neg h]
theorem digitChar_toNat {d : Nat} (h : d < 10) : (Nat.digitChar d).toNat = 48 + d :=
  (by decide : ∀ d, d < 10 → (Nat.digitChar d).toNat = 48 + d) d h
theorem toDigits_decR : ∀ (k n : Nat), n ≤ k → (Nat.toDigits 10 n).map Char.toNat = decR n := by
  intro k
  induction k with
  | zero =>
    intro n h
    have : n = 0 := by (first | lia | omega)
    subst this; rw [decR_lt (by decide)]; decide
  | succ k ih =>
    intro n h
    by_cases h10 : n < 10
    · rw [decR_lt h10, Nat.toDigits_of_lt_base h10]; simp [digitChar_toNat h10]
    · rw [decR_ge h10, ← ih (n / 10) (by (clear ih h10; (first | lia | omega)))]
      rw [Nat.toDigits_of_base_le (by decide) (by (clear h ih; (first | lia | omega)))]
      simp [digitChar_toNat (Nat.mod_lt n (by decide : 10 > 0))]
theorem cs_ofString (s : String) : cs (Str.ofString s) = s.toList.map Char.toNat := by rw [Str.ofString_eq_toList]; rfl
theorem cs_toString {n : Int} (h : 0 ≤ n) : cs (Str.ofString (toString n)) = decR n.toNat := by
  obtain ⟨k, rfl⟩ := Int.eq_ofNat_of_zero_le h
  rw [cs_ofString]
  have : (toString (k : Int)).toList = Nat.toDigits 10 k := by
    show (Nat.repr k).toList = _
    rw [Nat.repr, String.toList_ofList]
  rw [this, toDigits_decR k k (Nat.le_refl _)]; rfl

theorem snocInd {P : List Nat → Prop} (nil : P []) (snoc : ∀ l c, P l → P (l ++ [c])) : ∀ l, P l := by
  have : ∀ l : List Nat, P l.reverse := by
    intro l
    induction l with
    | nil => exact nil
    | cons c l ih => rw [List.reverse_cons]; exact snoc _ _ ih
  intro l
  have h := this l.reverse
  rwa [List.reverse_reverse] at h
def Dig (l : List Nat) : Prop := ∀ c ∈ l, 48 ≤ c ∧ c ≤ 57
noncomputable def valL (l : List Nat) : Nat := l.foldl (fun a c => a * 10 + (c - 48)) 0
theorem valL_nil : valL [] = 0 := rfl
theorem valL_snoc (l : List Nat) (c : Nat) : valL (l ++ [c]) = valL l * 10 + (c - 48) := by simp [valL]
theorem foldl_val (l : List Nat) : ∀ a : Nat, l.foldl (fun a c => a * 10 + (c - 48)) a = a * 10 ^ l.length + valL l := by
  induction l with
  | nil => intro a; simp [valL]
  | cons c l ih =>
    intro a
    show l.foldl _ (a * 10 + (c - 48)) = a * 10 ^ (l.length + 1) + l.foldl _ (0 * 10 + (c - 48))
    rw [ih, ih (0 * 10 + (c - 48)), Nat.pow_succ, Nat.add_mul, Nat.zero_mul, Nat.zero_add]
    rw [← Nat.add_assoc, Nat.mul_assoc, Nat.mul_comm 10]
theorem valL_append (a b : List Nat) : valL (a ++ b) = valL a * 10 ^ b.length + valL b := by
  show (a ++ b).foldl _ 0 = _
  rw [List.foldl_append]; exact foldl_val b _
theorem valL_zeros (k : Nat) : valL (List.replicate k 48) = 0 := by
  induction k with
  | zero => rfl
  | succ k ih => rw [List.replicate_succ', valL_snoc, ih]
theorem valL_pad (k : Nat) (l : List Nat) : valL (List.replicate k 48 ++ l) = valL l := by rw [valL_append, valL_zeros]; (first | lia | omega)
theorem Dig.append {a b : List Nat} (ha : Dig a) (hb : Dig b) : Dig (a ++ b) := fun c hc => (List.mem_append.mp hc).elim (ha c) (hb c)
theorem Dig.left {a b : List Nat} (h : Dig (a ++ b)) : Dig a := fun c hc => h c (List.mem_append.mpr (.inl hc))
theorem Dig.right {a b : List Nat} (h : Dig (a ++ b)) : Dig b := fun c hc => h c (List.mem_append.mpr (.inr hc))
theorem dig_nil : Dig [] := fun _ h => nomatch h
theorem dig_zeros (k : Nat) : Dig (List.replicate k 48) := fun c hc => by
  have := List.eq_of_mem_replicate hc
  (clear hc; (first | lia | omega))
theorem dig_decR : ∀ (k n : Nat), n ≤ k → Dig (decR n) := by
  intro k
  induction k with
  | zero =>
    intro n h c hc
    rw [decR_lt (by (clear hc; (first | lia | omega)))] at hc
    have := List.mem_singleton.mp hc
    (clear hc; (first | lia | omega))
  | succ k ih =>
    intro n h
    by_cases h10 : n < 10
    · intro c hc
      rw [decR_lt h10] at hc
      have := List.mem_singleton.mp hc
      (clear h hc ih; (first | lia | omega))
    · rw [decR_ge h10]
      refine (ih _ (by (clear ih h10; (first | lia | omega)))).append fun c hc => ?_
      have := List.mem_singleton.mp hc
      (clear hc ih h h10; (first | lia | omega))
theorem digR (n : Nat) : Dig (decR n) := dig_decR n n (Nat.le_refl _)
theorem val_decR : ∀ (k n : Nat), n ≤ k → valL (decR n) = n := by
  intro k
  induction k with
  | zero =>
    intro n h
    have : n = 0 := by (first | lia | omega)
    subst this; rw [decR_lt (by decide)]; rfl
  | succ k ih =>
    intro n h
    by_cases h10 : n < 10
    · rw [decR_lt h10]; show 0 * 10 + (48 + n - 48) = n; (clear h10 h ih; (first | lia | omega))
    · rw [decR_ge h10, valL_snoc, ih _ (by (clear ih h10; (first | lia | omega)))]; (clear h10 h ih; (first | lia | omega))
theorem valR (n : Nat) : valL (decR n) = n := val_decR n n (Nat.le_refl _)
theorem valL_lt {l : List Nat} (h : Dig l) : valL l < 10 ^ l.length := by
  induction l using snocInd with
  | nil => decide
  | snoc l c ih =>
    have h1 := ih h.left
    have h2 := h c (by simp)
    rw [valL_snoc, List.length_append, List.length_singleton, Nat.pow_succ]
    (clear ih h; (first | lia | omega))

/-- the count of figures: none of nought -/
noncomputable def cdN (n : Nat) : Nat := if n = 0 then 0 else cdN (n / 10) + 1
termination_by n
decreasing_by (first | lia | omega)
theorem cdN_0 : cdN 0 = 0 := by rw [cdN]; rfl
theorem cdN_pos {n : Nat} (h : n ≠ 0) : cdN n = cdN (n / 10) + 1 := by rw [cdN, if_neg h]
theorem len_decR : ∀ (k n : Nat), n ≤ k → n ≠ 0 → (decR n).length = cdN n := by
  intro k
  induction k with
  | zero => intro n h h0; (first | lia | omega)
  | succ k ih =>
    intro n h h0
    by_cases h10 : n < 10
    · rw [decR_lt h10, cdN_pos h0, show n / 10 = 0 by (clear h h0 ih; (first | lia | omega)), cdN_0]; rfl
    · rw [decR_ge h10, cdN_pos h0, List.length_append, ih (n / 10) (by (clear h0 ih h10; (first | lia | omega))) (by (clear h h0 ih; (first | lia | omega)))]; rfl
theorem lenR {n : Nat} (h : n ≠ 0) : (decR n).length = cdN n := len_decR n n (Nat.le_refl _) h
theorem cdN_lt {n k : Nat} : n < 10 ^ k → cdN n ≤ k := by
  induction k generalizing n with
  | zero => intro h; have : n = 0 := by simpa using h
            subst this; rw [cdN_0]; exact Nat.le_refl 0
  | succ k ih =>
    intro h
    by_cases h0 : n = 0
    · subst h0; rw [cdN_0]; (clear h ih; (first | lia | omega))
    · rw [cdN_pos h0]
      have := ih (n := n / 10) (by rw [Nat.pow_succ] at h; (clear ih h0; (first | lia | omega)))
      (clear h ih h0; (first | lia | omega))
theorem lt_cdN : ∀ (k n : Nat), n ≤ k → n < 10 ^ cdN n := by
  intro k
  induction k with
  | zero => intro n h; have : n = 0 := by (first | lia | omega)
            subst this; rw [cdN_0]; decide
  | succ k ih =>
    intro n h
    by_cases h0 : n = 0
    · subst h0; rw [cdN_0]; decide
    · rw [cdN_pos h0, Nat.pow_succ]
      have := ih (n / 10) (by (clear ih h0; (first | lia | omega)))
      (clear ih h h0; (first | lia | omega))
theorem ltN_cdN (n : Nat) : n < 10 ^ cdN n := lt_cdN n n (Nat.le_refl _)
theorem ge_cdN : ∀ (k n : Nat), n ≤ k → n ≠ 0 → 10 ^ (cdN n - 1) ≤ n := by
  intro k
  induction k with
  | zero => intro n h h0; (first | lia | omega)
  | succ k ih =>
    intro n h h0
    rw [cdN_pos h0, Nat.add_sub_cancel]
    by_cases h10 : n / 10 = 0
    · rw [h10, cdN_0]; (clear ih h10 h; (first | lia | omega))
    · have := ih (n / 10) (by (clear h10 h0 ih; (first | lia | omega))) h10
      have e : cdN (n / 10) = (cdN (n / 10) - 1) + 1 := by
        rw [cdN_pos h10]; (clear h h10 h0 this ih; (first | lia | omega))
      rw [e, Nat.pow_succ]
      (clear ih e h0 h10 h; (first | lia | omega))
theorem geN_cdN {n : Nat} (h : n ≠ 0) : 10 ^ (cdN n - 1) ≤ n := ge_cdN n n (Nat.le_refl _) h
theorem cdN_eq {n k : Nat} (h1 : 10 ^ k ≤ n) (h2 : n < 10 ^ (k + 1)) : cdN n = k + 1 := by
  have a := cdN_lt h2
  have b := ltN_cdN n
  by_cases h : cdN n ≤ k
  · have := Nat.pow_le_pow_right (by decide : 0 < 10) h
    (clear h2 a h; (first | lia | omega))
  · (clear h1 b h2; (first | lia | omega))
theorem cdN_mul10 {n : Nat} (h : n ≠ 0) (k : Nat) : cdN (n * 10 ^ k) = cdN n + k := by
  induction k with
  | zero => simp
  | succ k ih =>
    have h1 : n * 10 ^ (k + 1) ≠ 0 := Nat.mul_ne_zero h (Nat.ne_of_gt (Nat.pow_pos (by decide)))
    rw [cdN_pos h1, Nat.pow_succ, ← Nat.mul_assoc, Nat.mul_div_cancel _ (by decide : 0 < 10), ih]
    (clear h ih h1; (first | lia | omega))
theorem decR_mul10 {n : Nat} (h : n ≠ 0) (k : Nat) : decR (n * 10 ^ k) = decR n ++ List.replicate k 48 := by
  induction k with
  | zero => simp
  | succ k ih =>
    have h1 : 1 ≤ n * 10 ^ k := Nat.pos_of_ne_zero (Nat.mul_ne_zero h (Nat.ne_of_gt (Nat.pow_pos (by decide))))
    rw [Nat.pow_succ, ← Nat.mul_assoc, decR_ge (by (clear ih h; (first | lia | omega))), Nat.mul_div_cancel _ (by decide : 0 < 10), ih, Nat.mul_mod_left, List.replicate_succ', List.append_assoc]
/-- a row of figures that does not open with nought is the figures of its value -/
theorem decR_valL : ∀ (l : List Nat) (c : Nat), Dig (c :: l) → c ≠ 48 → decR (valL (c :: l)) = c :: l := by
  intro l
  induction l using snocInd with
  | nil =>
    intro c h hc
    have := h c (by simp)
    show decR (0 * 10 + (c - 48)) = _
    rw [decR_lt (by (clear hc h; (first | lia | omega)))]
    congr 1; (clear hc h; (first | lia | omega))
  | snoc l d ih =>
    intro c h hc
    have h1 : Dig (c :: l) := fun x hx => h x (by rcases List.mem_cons.mp hx with e | e <;> simp [e])
    have h2 := h d (by simp)
    have h3 := ih c h1 hc
    have h4 : 1 ≤ valL (c :: l) := by
      have := h c (by simp)
      show 1 ≤ valL ([c] ++ l)
      rw [valL_append]
      have : 1 ≤ valL [c] := by show 1 ≤ 0 * 10 + (c - 48); (clear ih h h2 h3 h1; (first | lia | omega))
      have := Nat.mul_le_mul this (Nat.one_le_iff_ne_zero.mpr (Nat.ne_of_gt (Nat.pow_pos (by decide : 0 < 10) (n := l.length))))
      (clear ih hc h h2 h3 h1; (first | lia | omega))
    show decR (valL ((c :: l) ++ [d])) = (c :: l) ++ [d]
    rw [valL_snoc, decR_ge (by (clear h3 h2 h hc ih h1; (first | lia | omega))), show (valL (c :: l) * 10 + (d - 48)) / 10 = valL (c :: l) by (clear h hc ih h3 h4 h1; (first | lia | omega)), h3]
    congr 2; (clear h hc ih h3 h4 h1; (first | lia | omega))

/-- trailing noughts struck -/
noncomputable def stM (n : Nat) : Nat := if n = 0 then 0 else if n % 10 = 0 then stM (n / 10) else n
termination_by n
decreasing_by (first | lia | omega)
noncomputable def stJ (n : Nat) : Nat := if n = 0 then 0 else if n % 10 = 0 then stJ (n / 10) + 1 else 0
termination_by n
decreasing_by (first | lia | omega)
theorem stM_no {n : Nat} (h : n % 10 ≠ 0) : stM n = n := by
  rw [stM, if_neg (by (first | lia | omega)), if_neg h]
theorem stJ_no {n : Nat} (h : n % 10 ≠ 0) : stJ n = 0 := by
  rw [stJ, if_neg (by (first | lia | omega)), if_neg h]
theorem stM_yes {n : Nat} (h : n ≠ 0) : stM (n * 10) = stM n := by
  rw [stM, if_neg (by (first | lia | omega)), if_pos (by (clear h; (first | lia | omega))), Nat.mul_div_cancel _ (by decide : 0 < 10)]
theorem stJ_yes {n : Nat} (h : n ≠ 0) : stJ (n * 10) = stJ n + 1 := by
  rw [stJ, if_neg (by (first | lia | omega)), if_pos (by (clear h; (first | lia | omega))), Nat.mul_div_cancel _ (by decide : 0 < 10)]
theorem st_spec : ∀ (k n : Nat), n ≤ k → n ≠ 0 → n = stM n * 10 ^ stJ n ∧ stM n % 10 ≠ 0 := by
  intro k
  induction k with
  | zero => intro n h h0; (first | lia | omega)
  | succ k ih =>
    intro n h h0
    by_cases h1 : n % 10 = 0
    · obtain ⟨q, rfl⟩ : ∃ q, n = q * 10 := ⟨n / 10, by (clear h0 ih h; (first | lia | omega))⟩
      have := ih q (by (clear h1 h0 ih; (first | lia | omega))) (by (clear ih h1 h; (first | lia | omega)))
      rw [stM_yes (by (clear this ih h1 h; (first | lia | omega))), stJ_yes (by (clear this ih h1 h; (first | lia | omega))), Nat.pow_succ, ← Nat.mul_assoc, ← this.1]
      exact ⟨rfl, this.2⟩
    · rw [stM_no h1, stJ_no h1]; exact ⟨by (clear h h1 h0 ih; (first | lia | omega)), h1⟩
theorem st_is {n : Nat} (h : n ≠ 0) : n = stM n * 10 ^ stJ n ∧ stM n % 10 ≠ 0 := st_spec n n (Nat.le_refl _) h
theorem stM_mul {n : Nat} (h : n ≠ 0) (k : Nat) : stM (n * 10 ^ k) = stM n := by
  induction k with
  | zero => simp
  | succ k ih => rw [Nat.pow_succ, ← Nat.mul_assoc, stM_yes (Nat.mul_ne_zero h (Nat.ne_of_gt (Nat.pow_pos (by decide)))), ih]
theorem stJ_mul {n : Nat} (h : n ≠ 0) (k : Nat) : stJ (n * 10 ^ k) = stJ n + k := by
  induction k with
  | zero => simp
  | succ k ih => rw [Nat.pow_succ, ← Nat.mul_assoc, stJ_yes (Nat.mul_ne_zero h (Nat.ne_of_gt (Nat.pow_pos (by decide)))), ih]; (clear h ih; (first | lia | omega))
theorem stM_pos {n : Nat} (h : n ≠ 0) : stM n ≠ 0 := fun e => by have := (st_is h).2; (clear h; (first | lia | omega))
theorem cdN_st {n : Nat} (h : n ≠ 0) : cdN n = cdN (stM n) + stJ n := by
  have := cdN_mul10 (stM_pos h) (stJ n)
  rw [← (st_is h).1] at this
  exact this

end
local macro_rules | `(tactic| walk_at $s:str) => `(tactic| k_extra $s)
local macro_rules | `(tactic| k_mem) => `(tactic| k_extra "k_mem")
local macro_rules | `(tactic| k_all) => `(tactic| k_extra "k_all")
local macro_rules | `(tactic| k_ne) => `(tactic| k_extra "k_ne")
local macro_rules | `(tactic| ke_room) => `(tactic| k_extra "ke_room")
local macro_rules | `(tactic| omega) => `(tactic| k_extra "omega")
section
theorem lnC1_1 : True := by
  k_with_none
  k_with "omega" => ((try clear hret); (try clear hk); (try clear hd); (try clear hu); first | lia | omega +splitDisjunctions)
  trivial
theorem lnC1_2 : True := by
  k_with "execs cons" => ((with_reducible refine wpAny_execs_cons ?_); try dsimp only)
  k_with "execs nil" => refine wpAny_execs_nil ?_
  trivial

noncomputable def signL (neg plus : Bool) : List Nat := if neg then [45] else if plus then [43] else []
noncomputable def fieldL (l : List Nat) (n : Int) : List Nat := if n < (l.length : Int) then List.replicate n.toNat 42 else List.replicate (n - (l.length : Int)).toNat 32 ++ l
theorem cs_field1 (x : Str) (n : Int) (h : n < (x.length : Int)) : Txt.mul (Str.ofString "*") n = S (fieldL (cs x) n) := by
  rw [len_cs] at h
  exact eq_S (by rw [cs_mul, lit_star, flat_one, fieldL, if_pos h])
theorem cs_field2 (x : Str) (n : Int) (h : ¬ n < (x.length : Int)) : Txt.mul (Str.ofString " ") (n - (x.length : Int)) ++ x = S (fieldL (cs x) n) := by
  rw [len_cs] at h ⊢
  exact eq_S (by rw [cs_append, cs_mul, lit_sp, flat_one, fieldL, if_neg h])
set_option maxRecDepth 100000 in
set_option maxHeartbeats 8000000 in
theorem c_sign_text {w : World} {mg mb p loose mean news} {b1 b2 : Bool}  :
    Ct w mg mb p loose mean 1 226 [.bool b1, .bool b2] news (RetF ((S (signL b1 b2)).length ≤ 1) news fun t => .str (S (signL b1 b2)) t) := by
  dsimp only [Ct, RetP, RetT, RetF]
  k_fill
  intro dp un gd cn cz a ccd cl outer A₀ base h₀ L m s Q E B F X N T hk hd hu hret
  refine wpAny_call ?_
  k_dflt (refine' code_def (binds := [(Str.ofString "is_minus", .bool b1), (Str.ofString "is_plus", .bool b2)]) ?k1 ?k2 ?k3 ?k4 ?k5 ?kA ?kF ?kK ?k6 ?k7 ?k8 ?k9 ?kB ?_ ?c2 ?c3 ?c4 ?c5; (case kA => exact rfl); (case kF => exact rfl); (case kK => assumption); (case k1 => k_asm); (case k2 => k_asm); (case k3 => k_asm); (case k4 => k_asm); (case k5 => k_asm); (case k6 => k_is); (case k7 => k_is); (case k8 => ktr_room); (case k9 => exact BindsTo.of_eq rfl); (case c5 => decide); (case kB => exact locs rfl); (case c2 => exact rfl); (case c3 => exact rfl); (case c4 => exact rfl); k_whole; intro g' L' h' FG' F' N' B' X' T'; (try dsimp only); (try k_lift B'); (try k_fold))
  replace hret := hret (by rw [len_S]; unfold signL; split; decide; split <;> decide)
  k_steps
  all_goals (refine cb_retS hret ?_ (by k_asm) (by k_asm); exact eq_S (by simp [signL, *]))

theorem lnC1_3 : True := by
  k_with "call ref" => (k_here; (with_reducible show wpAny _ _ (PySem.call (Value.ref 226) _) _ _ _); (rename News _ _ _ _ => cN9); k_dflt (refine' c_sign_text  _ _ _ _ _ _ _ _ _ _ _ _ _ _ _ _ _ (by k_asm) (by k_asm) (by k_asm) cN9 (by k_asm) (by first | exact rfl | assumption) (by first | exact room9 (by assumption) (by rfl) | ktr_room) (by first | exact units9 (by assumption) (by rfl) | ktr_units) ?_); (try dsimp only [RetP, RetT, RetF]); intro hf9 t9 h9 tk9 F9 N9; (try dsimp only); (try k_fold))
  trivial
set_option maxRecDepth 100000 in
set_option maxHeartbeats 8000000 in
theorem c_field {w : World} {mg mb p loose mean news} {x : Str} {t u : Tok} {n : Int} (hx : x.length ≤ 200) (h0 : 0 ≤ n) (h1 : n ≤ 100) :
    Ct w mg mb p loose mean 1 219 [.str x t, .int n u] news (RetP news fun t => .str (S (fieldL (cs x) n)) t) := by
  dsimp only [Ct, RetP, RetT, RetF]
  k_fill
  intro dp un gd cn cz a ccd cl outer A₀ base h₀ L m s Q E B F X N T hk hd hu hret
  refine wpAny_call ?_
  k_dflt (refine' code_def (binds := [(Str.ofString "text", .str x t), (Str.ofString "width", .int n u)]) ?k1 ?k2 ?k3 ?k4 ?k5 ?kA ?kF ?kK ?k6 ?k7 ?k8 ?k9 ?kB ?_ ?c2 ?c3 ?c4 ?c5; (case kA => exact rfl); (case kF => exact rfl); (case kK => assumption); (case k1 => k_asm); (case k2 => k_asm); (case k3 => k_asm); (case k4 => k_asm); (case k5 => k_asm); (case k6 => k_is); (case k7 => k_is); (case k8 => ktr_room); (case k9 => exact BindsTo.of_eq rfl); (case c5 => decide); (case kB => exact locs rfl); (case c2 => exact rfl); (case c3 => exact rfl); (case c4 => exact rfl); k_whole; intro g' L' h' FG' F' N' B' X' T'; (try dsimp only); (try k_lift B'); (try k_fold))
  k_steps
  all_goals (refine cb_retS hret ?_ (by k_asm) (by k_asm); first | exact cs_field1 _ _ (by assumption) | exact cs_field2 _ _ (by assumption))

theorem lnC1_4 : True := by
  k_with "call ref" => (k_here; (with_reducible show wpAny _ _ (PySem.call (Value.ref 219) _) _ _ _); (rename News _ _ _ _ => cN9); k_dflt (refine' c_field (by first | omega | size_fits) (by omega) (by omega) _ _ _ _ _ _ _ _ _ _ _ _ _ _ _ _ _ (by k_asm) (by k_asm) (by k_asm) cN9 (by k_asm) (by first | exact rfl | assumption) (by first | exact room9 (by assumption) (by rfl) | ktr_room) (by first | exact units9 (by assumption) (by rfl) | ktr_units) ?_); (try dsimp only [RetP, RetT, RetF]); intro t9 h9 tk9 F9 N9; (try dsimp only); (try k_fold))
  trivial
set_option maxRecDepth 100000 in
set_option maxHeartbeats 8000000 in
theorem c_edit_logical {w : World} {mg mb p loose mean news} {b : Bool} {u : Tok} {n : Int} (h0 : 0 ≤ n) (h1 : n ≤ 100) :
    Ct w mg mb p loose mean 2 303 [.bool b, .int n u] news (RetP news fun t => .str (S (fieldL (if b then [84] else [70]) n)) t) := by
  dsimp only [Ct, RetP, RetT, RetF]
  k_fill
  intro dp un gd cn cz a ccd cl outer A₀ base h₀ L m s Q E B F X N T hk hd hu hret
  refine wpAny_call ?_
  k_dflt (refine' code_def (binds := [(Str.ofString "value", .bool b), (Str.ofString "width", .int n u)]) ?k1 ?k2 ?k3 ?k4 ?k5 ?kA ?kF ?kK ?k6 ?k7 ?k8 ?k9 ?kB ?_ ?c2 ?c3 ?c4 ?c5; (case kA => exact rfl); (case kF => exact rfl); (case kK => assumption); (case k1 => k_asm); (case k2 => k_asm); (case k3 => k_asm); (case k4 => k_asm); (case k5 => k_asm); (case k6 => k_is); (case k7 => k_is); (case k8 => ktr_room); (case k9 => exact BindsTo.of_eq rfl); (case c5 => decide); (case kB => exact locs rfl); (case c2 => exact rfl); (case c3 => exact rfl); (case c4 => exact rfl); k_whole; intro g' L' h' FG' F' N' B' X' T'; (try dsimp only); (try k_lift B'); (try k_fold))
  k_steps
  all_goals (refine cb_retS hret ?_ (by k_asm) (by k_asm); simp [*])

theorem lnC1_5 : True := by
  k_with "call ref" => (k_here; (with_reducible show wpAny _ _ (PySem.call (Value.ref 303) _) _ _ _); (rename News _ _ _ _ => cN9); k_dflt (refine' c_edit_logical (by omega) (by omega) _ _ _ _ _ _ _ _ _ _ _ _ _ _ _ _ _ (by k_asm) (by k_asm) (by k_asm) cN9 (by k_asm) (by first | exact rfl | assumption) (by first | exact room9 (by assumption) (by rfl) | ktr_room) (by first | exact units9 (by assumption) (by rfl) | ktr_units) ?_); (try dsimp only [RetP, RetT, RetF]); intro t9 h9 tk9 F9 N9; (try dsimp only); (try k_fold))
  trivial

end
section
theorem lnC2_1 : True := by
  k_with_none
  k_with "omega" => ((try clear hret); (try clear hk); (try clear hd); (try clear hu); first | lia | omega +splitDisjunctions)
  trivial
theorem lnC2_2 : True := by
  k_with "execs cons" => ((with_reducible refine wpAny_execs_cons ?_); try dsimp only)
  k_with "execs nil" => refine wpAny_execs_nil ?_
  trivial

theorem abs_toNat (n : Int) : (if n < 0 then -n else n).toNat = n.natAbs := by split <;> omega
/-- the scaled number, rounded half up -/
noncomputable def scN (n : Nat) (k : Int) : Nat := if 0 ≤ k then n * 10 ^ k.toNat else (2 * n + 10 ^ (-k).toNat) / (2 * 10 ^ (-k).toNat)
theorem scN_le {n : Nat} {k : Int} (h : k ≤ 0) : scN n k ≤ n := by
  unfold scN
  split
  · rw [show k = 0 by omega]; simp
  · obtain ⟨j, hj⟩ : ∃ j : Nat, (-k).toNat = j + 1 := ⟨(-k).toNat - 1, by (clear h; omega)⟩
    rw [hj, Nat.pow_succ]
    have h1 : 1 ≤ 10 ^ j := Nat.pow_pos (by decide)
    generalize 10 ^ j = u at h1
    by_cases hn : n = 0
    · subst hn
      rw [Nat.div_eq_of_lt (by (clear h hj; omega))]; exact Nat.le_refl _
    · have h2 : n * (2 * (u * 10)) ≥ 2 * n + u * 10 := by
        have : n * (2 * (u * 10)) = n * (u * 10) + n * (u * 10) := by rw [Nat.mul_left_comm, Nat.two_mul]
        have h3 : n * 10 ≤ n * (u * 10) := Nat.mul_le_mul_left _ (by (clear hn h hj this; omega))
        have h4 : 1 * (u * 10) ≤ n * (u * 10) := Nat.mul_le_mul_right _ (by (clear hj h3 this h h1; omega))
        (clear hj h h1 hn; omega)
      calc (2 * n + u * 10) / (2 * (u * 10)) ≤ n * (2 * (u * 10)) / (2 * (u * 10)) := Nat.div_le_div_right h2
        _ = n := Nat.mul_div_cancel _ (by (clear hn h hj h2; omega))
noncomputable def dz (n : Nat) : List Nat := if n = 0 then [] else decR n
theorem dz_nought {n k : Int} (h : n = 0) (hk : 0 < k) : dz (scN n.toNat k) = [] := by
  subst h; unfold scN; rw [if_pos (by omega)]; simp [dz]
theorem fdiv_pos (x : Int) {k : Int} (h : 0 ≤ k) : Int.fdiv x k = x / k := Int.fdiv_eq_ediv_of_nonneg x h
theorem fmod_pos (x : Int) {k : Int} (h : 0 ≤ k) : Int.fmod x k = x % k := Int.fmod_eq_emod_of_nonneg x h
theorem dz_pow {n : Int} {k : Int} (h0 : 0 ≤ n) (hn : n ≠ 0) (hk : 0 < k) : decR n.toNat ++ List.replicate k.toNat 48 = dz (scN n.toNat k) := by
  have h1 : n.toNat ≠ 0 := by (clear hk; omega)
  have h2 : n.toNat * 10 ^ k.toNat ≠ 0 := Nat.mul_ne_zero h1 (Nat.ne_of_gt (Nat.pow_pos (by decide)))
  have e : scN n.toNat k = n.toNat * 10 ^ k.toNat := by unfold scN; rw [if_pos (by (clear h0 hn h1 h2; omega))]
  rw [e]; unfold dz
  rw [if_neg h2, decR_mul10 h1]
theorem noPy {x y : Int} (h : y.natAbs < 4611686018427387904) : Builtin.divisionGoesByPylong x y = false := by
  refine PyProof.noPylong_of_log2 ?_
  by_cases h0 : y.natAbs = 0
  · rw [h0]; decide +kernel
  · have : y.natAbs.log2 < 62 := (Nat.log2_lt h0).mpr h
    (clear h h0; omega)
theorem cd1 {x : Int} (h : 0 < x) : (cdN (Int.fdiv x 10).toNat : Int) + 1 = cdN x.toNat := by
  rw [fdiv_pos _ (by decide), cdN_pos (n := x.toNat) (by omega), show (x / 10).toNat = x.toNat / 10 by (clear h; omega)]; (clear h; omega)
theorem cdN_div : ∀ (k n : Nat), 10 ^ k ≤ n → cdN (n / 10 ^ k) + k = cdN n
  | 0, n, _ => by simp
  | k + 1, n, h => by
    rw [Nat.pow_succ] at h
    have h1 : n ≠ 0 := fun e => by
      rw [e] at h
      exact absurd h (Nat.not_le.mpr (Nat.mul_pos (Nat.pow_pos (by decide)) (by decide)))
    have h2 := cdN_div k (n / 10) ((Nat.le_div_iff_mul_le (by decide)).mpr h)
    rw [cdN_pos h1, ← h2, Nat.div_div_eq_div_mul, Nat.pow_succ, Nat.mul_comm (10 ^ k) 10, Nat.add_assoc]
theorem cd9 {x : Int} (h : 1000000000 ≤ x) : (cdN (Int.fdiv x 1000000000).toNat : Int) + 9 = cdN x.toNat := by
  have e9 : (10 : Nat) ^ 9 = 1000000000 := by decide
  have h2 := cdN_div 9 x.toNat (by rw [e9]; (clear e9; omega))
  have h3 : (x / 1000000000).toNat = x.toNat / 10 ^ 9 := by rw [e9]; (clear h e9 h2; omega)
  rw [fdiv_pos _ (by decide), h3, ← h2]
  exact (Int.natCast_add _ _).symm
theorem cd_turn9 {x c k : Int} (h : 1000000000 ≤ x) (h2 : x < 1000000000000000000) (hc : 0 ≤ c) (e : c + (cdN x.toNat : Int) = k) :
    0 ≤ Int.fdiv x 1000000000 ∧ Int.fdiv x 1000000000 < 1000000000000000000 ∧ 0 ≤ c + 9 ∧ c + 9 + (cdN (Int.fdiv x 1000000000).toNat : Int) = k := by
  have := cd9 h
  rw [fdiv_pos _ (by decide)] at this ⊢
  omega
theorem cd_turn1 {x c k : Int} (h : 0 < x) (h2 : x < 1000000000000000000) (hc : 0 ≤ c) (e : c + (cdN x.toNat : Int) = k) :
    0 ≤ Int.fdiv x 10 ∧ Int.fdiv x 10 < 1000000000000000000 ∧ 0 ≤ c + 1 ∧ c + 1 + (cdN (Int.fdiv x 10).toNat : Int) = k := by
  have := cd1 h
  rw [fdiv_pos _ (by decide)] at this ⊢
  omega
theorem dz_len48 {n : Nat} {k : Int} (h : n < 1000000000000000000) (hk : k ≤ 30) : (S (dz (scN n k))).length ≤ 48 := by
  have h1 : scN n k < 10 ^ 48 := by
    by_cases h0 : 0 ≤ k
    · have e : scN n k = n * 10 ^ k.toNat := by unfold scN; rw [if_pos h0]
      rw [e]
      have h2 : 10 ^ k.toNat ≤ 10 ^ 30 := Nat.pow_le_pow_right (by decide) (by (clear h h0 e; omega))
      calc n * 10 ^ k.toNat ≤ n * 10 ^ 30 := Nat.mul_le_mul_left _ h2
        _ < 10 ^ 18 * 10 ^ 30 := Nat.mul_lt_mul_of_pos_right (by (clear hk e h2 h0; omega)) (by decide)
        _ = 10 ^ 48 := by decide
    · have := scN_le (n := n) (k := k) (by (clear h hk; omega))
      (clear hk h0; omega)
  rw [len_S]; unfold dz
  split
  · decide
  · rw [lenR (by assumption)]; exact cdN_lt h1
theorem decR_len18 {n : Nat} (h : n < 1000000000000000000) : 1 ≤ (S (decR n)).length ∧ (S (decR n)).length ≤ 18 := by
  rw [len_S]
  by_cases h0 : n = 0
  · subst h0; rw [decR_lt (by decide)]; decide
  · rw [lenR h0]
    have := cdN_lt (n := n) (k := 18) (by (clear h0; omega))
    rw [cdN_pos h0] at this ⊢
    (clear h h0; omega)
theorem cd_start {n : Int} (h : n.natAbs < 1000000000000000000) : 0 ≤ (if n < 0 then -n else n) ∧ (if n < 0 then -n else n) < 1000000000000000000 ∧ (0 : Int) ≤ 0 ∧ 0 + (cdN (if n < 0 then -n else n).toNat : Int) = (cdN n.natAbs : Int) := by
  rw [abs_toNat]
  refine ⟨?_, ?_, by decide, by (clear h; omega)⟩ <;> split <;> (omega)
theorem cd_end {x c k : Int} (e : c + (cdN x.toNat : Int) = k) (h2 : ¬ 0 < x) : c = k := by
  rw [show x.toNat = 0 by (clear e; omega), cdN_0] at e; (clear h2; omega)
set_option maxRecDepth 100000 in
set_option maxHeartbeats 8000000 in
theorem c_whole_figures {w : World} {mg mb p loose mean news} {n : Int} {t : Tok} (h0 : 0 ≤ n) (h1 : n < 1000000000000000000) :
    Ct w mg mb p loose mean 1 212 [.int n t] news (RetF (1 ≤ (S (decR n.toNat)).length ∧ (S (decR n.toNat)).length ≤ 18) news fun t => .str (S (decR n.toNat)) t) := by
  dsimp only [Ct, RetP, RetT, RetF]
  k_fill
  intro dp un gd cn cz a ccd cl outer A₀ base h₀ L m s Q E B F X N T hk hd hu hret
  refine wpAny_call ?_
  k_dflt (refine' code_def (binds := [(Str.ofString "n", .int n t)]) ?k1 ?k2 ?k3 ?k4 ?k5 ?kA ?kF ?kK ?k6 ?k7 ?k8 ?k9 ?kB ?_ ?c2 ?c3 ?c4 ?c5; (case kA => exact rfl); (case kF => exact rfl); (case kK => assumption); (case k1 => k_asm); (case k2 => k_asm); (case k3 => k_asm); (case k4 => k_asm); (case k5 => k_asm); (case k6 => k_is); (case k7 => k_is); (case k8 => ktr_room); (case k9 => exact BindsTo.of_eq rfl); (case c5 => decide); (case kB => exact locs rfl); (case c2 => exact rfl); (case c3 => exact rfl); (case c4 => exact rfl); k_whole; intro g' L' h' FG' F' N' B' X' T'; (try dsimp only); (try k_lift B'); (try k_fold))
  replace hret := hret (decR_len18 (by (clear hd B' hu F' hret h0 T' T N F X' N' X B FG' hk; omega)))
  have h2 : n < 10 ^ Int.toNat 18 := by rw [show (10 : Int) ^ Int.toNat 18 = 1000000000000000000 by decide]; exact h1
  k_steps
  all_goals (refine cb_retS hret ?_ (by k_asm) (by k_asm); exact eq_S (cs_toString h0))

theorem lnC2_3 : True := by
  k_with "call ref" => (k_here; (with_reducible show wpAny _ _ (PySem.call (Value.ref 212) _) _ _ _); (rename News _ _ _ _ => cN9); k_dflt (refine' c_whole_figures (by first | with_reducible assumption | omega | (split <;> omega)) (by first | with_reducible assumption | omega | (split <;> omega)) _ _ _ _ _ _ _ _ _ _ _ _ _ _ _ _ _ (by k_asm) (by k_asm) (by k_asm) cN9 (by k_asm) (by first | exact rfl | assumption) (by first | exact room9 (by assumption) (by rfl) | ktr_room) (by first | exact units9 (by assumption) (by rfl) | ktr_units) ?_); (try dsimp only [RetP, RetT, RetF]); intro hf9 t9 h9 tk9 F9 N9; (try dsimp only); (try k_fold))
  trivial
theorem pw_le {k : Int} (h : -9 ≤ k) : 1 ≤ (10 : Int) ^ (-k).toNat ∧ (10 : Int) ^ (-k).toNat ≤ 1000000000 :=
  (by decide : ∀ j, j < 10 → 1 ≤ (10 : Int) ^ j ∧ (10 : Int) ^ j ≤ 1000000000) _ (by omega)
set_option maxRecDepth 100000 in
set_option maxHeartbeats 8000000 in
theorem c_scaled {w : World} {mg mb p loose mean news} {n k : Int} {t u : Tok} (h0 : 0 ≤ n) (h1 : n < 1000000000000000000) (h2 : -9 ≤ k) (h3 : k ≤ 0) :
    Ct w mg mb p loose mean 1 233 [.int n t, .int k u] news (RetF (((scN n.toNat k : Nat) : Int) ≤ n) news fun t => .int ((scN n.toNat k : Nat) : Int) t) := by
  dsimp only [Ct, RetP, RetT, RetF]
  k_fill
  intro dp un gd cn cz a ccd cl outer A₀ base h₀ L m s Q E B F X N T hk hd hu hret
  refine wpAny_call ?_
  k_dflt (refine' code_def (binds := [(Str.ofString "number", .int n t), (Str.ofString "power", .int k u)]) ?k1 ?k2 ?k3 ?k4 ?k5 ?kA ?kF ?kK ?k6 ?k7 ?k8 ?k9 ?kB ?_ ?c2 ?c3 ?c4 ?c5; (case kA => exact rfl); (case kF => exact rfl); (case kK => assumption); (case k1 => k_asm); (case k2 => k_asm); (case k3 => k_asm); (case k4 => k_asm); (case k5 => k_asm); (case k6 => k_is); (case k7 => k_is); (case k8 => ktr_room); (case k9 => exact BindsTo.of_eq rfl); (case c5 => decide); (case kB => exact locs rfl); (case c2 => exact rfl); (case c3 => exact rfl); (case c4 => exact rfl); k_whole; intro g' L' h' FG' F' N' B' X' T'; (try dsimp only); (try k_lift B'); (try k_fold))
  replace hret := hret (by have := scN_le (n := n.toNat) h3; (clear h2 hd B' hu F' hret h1 h3 T' T F N X' N' X B hk FG'; omega))
  have hU := pw_le (k := k) h2
  obtain ⟨hU1, hU2⟩ := hU
  have hU0 : ((10 ^ (-k).toNat : Nat) : Int) = (10 : Int) ^ (-k).toNat := by simp
  k_steps
  · refine cb_retI hret ?_ (by k_asm) (by k_asm)
    have hk0 : k = 0 := by (clear h1 h2 hd B' hu F' hU1 hU2 hU0 hret h0 T' T F N X' N' X B hk FG'; omega)
    subst hk0
    unfold scN
    rw [if_pos (by decide)]
    simp; (clear h1 h3 h2 hd B' hu F' hU1 hU2 hU0 hret T' T F N X' N' X B FG' hk; omega)
  · refine floordiv_int ?_ ?_ (Or.inl (noPy ?_))
    · (clear hU2 hU0 hret hu B' hd h2 h1 h3 h0 T' T F N X' FG' B hk X; omega)
    rotate_left
    · (clear hU0 hret hu B' hd h2 h1 h3 h0 T' T F N X' FG' B hk X; omega)
    k_steps
    refine cb_retI hret ?_ (by k_asm) (by k_asm)
    unfold scN
    rw [if_neg (by assumption), fdiv_pos _ (by (clear hU2 hU0 hret hu B' hd h2 h1 h3 h0 T' T F N X' FG' B hk X; omega)), Int.natCast_ediv, Int.natCast_add, Int.natCast_mul, Int.natCast_mul, hU0, Int.toNat_of_nonneg h0]
    rfl

theorem lnC2_4 : True := by
  k_with "call ref" => (k_here; (with_reducible show wpAny _ _ (PySem.call (Value.ref 233) _) _ _ _); (rename News _ _ _ _ => cN9); k_dflt (refine' c_scaled (by first | with_reducible assumption | omega | (split <;> omega)) (by first | with_reducible assumption | omega | (split <;> omega)) (by omega) (by omega) _ _ _ _ _ _ _ _ _ _ _ _ _ _ _ _ _ (by k_asm) (by k_asm) (by k_asm) cN9 (by k_asm) (by first | exact rfl | assumption) (by first | exact room9 (by assumption) (by rfl) | ktr_room) (by first | exact units9 (by assumption) (by rfl) | ktr_units) ?_); (try dsimp only [RetP, RetT, RetF]); intro hf9 t9 h9 tk9 F9 N9; (try dsimp only); (try k_fold))
  trivial
set_option maxRecDepth 100000 in
set_option maxHeartbeats 8000000 in
theorem c_figures_of {w : World} {mg mb p loose mean news} {n k : Int} {t u : Tok} (h0 : 0 ≤ n) (h1 : n < 1000000000000000000) (h2 : -9 ≤ k) (h3 : k ≤ 30) :
    Ct w mg mb p loose mean 3 240 [.int n t, .int k u] news (RetF ((S (dz (scN n.toNat k))).length ≤ 48) news fun t => .str (S (dz (scN n.toNat k))) t) := by
  dsimp only [Ct, RetP, RetT, RetF]
  k_fill
  intro dp un gd cn cz a ccd cl outer A₀ base h₀ L m s Q E B F X N T hk hd hu hret
  refine wpAny_call ?_
  k_dflt (refine' code_def (binds := [(Str.ofString "number", .int n t), (Str.ofString "power", .int k u)]) ?k1 ?k2 ?k3 ?k4 ?k5 ?kA ?kF ?kK ?k6 ?k7 ?k8 ?k9 ?kB ?_ ?c2 ?c3 ?c4 ?c5; (case kA => exact rfl); (case kF => exact rfl); (case kK => assumption); (case k1 => k_asm); (case k2 => k_asm); (case k3 => k_asm); (case k4 => k_asm); (case k5 => k_asm); (case k6 => k_is); (case k7 => k_is); (case k8 => ktr_room); (case k9 => exact BindsTo.of_eq rfl); (case c5 => decide); (case kB => exact locs rfl); (case c2 => exact rfl); (case c3 => exact rfl); (case c4 => exact rfl); k_whole; intro g' L' h' FG' F' N' B' X' T'; (try dsimp only); (try k_lift B'); (try k_fold))
  replace hret := hret (dz_len48 (by (clear h3 h2 hd B' hu F' hret h0 T T' F N X' N' X B hk FG'; omega)) h3)
  k_steps
  all_goals (refine cb_retS hret ?_ (by k_asm) (by k_asm))
  · exact eq_S (by rw [lit_e, dz_nought (by assumption) (by assumption)])
  · exact eq_S (by rw [cs_append, cs_mul, lit_0, flat_one, cs_S]; exact dz_pow h0 (by assumption) (by assumption))
  · exact eq_S (by rw [lit_e]; unfold dz; rw [if_pos (by (clear hk X B FG' X' N F T T' h0 h1 h3 h2 hd B' hu hret; omega))])
  · exact eq_S (by rw [cs_S]; unfold dz; rw [if_neg (by (clear hk X B FG' X' N F T T' h0 h1 h3 h2 hd B' hu hret; omega))]; simp)

set_option maxRecDepth 100000 in
set_option maxHeartbeats 8000000 in
theorem c_count_digits {w : World} {mg mb p loose mean news} {n : Int} {t : Tok} (h1 : n.natAbs < 1000000000000000000) :
    Ct w mg mb p loose mean 1 92 [.int n t] news (RetP news fun t => .int ((cdN n.natAbs : Nat) : Int) t) := by
  dsimp only [Ct, RetP, RetT, RetF]
  k_fill
  intro dp un gd cn cz a ccd cl outer A₀ base h₀ L m s Q E B F X N T hk hd hu hret
  refine wpAny_call ?_
  k_dflt (refine' code_def (binds := [(Str.ofString "n", .int n t)]) ?k1 ?k2 ?k3 ?k4 ?k5 ?kA ?kF ?kK ?k6 ?k7 ?k8 ?k9 ?kB ?_ ?c2 ?c3 ?c4 ?c5; (case kA => exact rfl); (case kF => exact rfl); (case kK => assumption); (case k1 => k_asm); (case k2 => k_asm); (case k3 => k_asm); (case k4 => k_asm); (case k5 => k_asm); (case k6 => k_is); (case k7 => k_is); (case k8 => ktr_room); (case k9 => exact BindsTo.of_eq rfl); (case c5 => decide); (case kB => exact locs rfl); (case c2 => exact rfl); (case c3 => exact rfl); (case c4 => exact rfl); k_whole; intro g' L' h' FG' F' N' B' X' T'; (try dsimp only); (try k_lift B'); (try k_fold))
  (k_with "state" => first | exact cd_start (by assumption) | exact cd_turn9 (by assumption) (by assumption) (by assumption) (by assumption) | exact cd_turn1 (by assumption) (by assumption) (by assumption) (by assumption))
  (k_with "measure" => ((try simp only [fdiv_pos _ (show (0 : Int) ≤ 1000000000 by decide), fdiv_pos _ (show (0 : Int) ≤ 10 by decide)]); omega))
  (k_with "exec While Compare cons nil" => k_while (fun (_ : List Int) v c => 0 ≤ v ∧ v < 1000000000000000000 ∧ 0 ≤ c ∧ c + (cdN v.toNat : Int) = (cdN n.natAbs : Int)) (fun _ v _ => v.toNat) "n" "count")
  k_steps
  all_goals (refine cb_retI hret ?_ (by k_asm) (by k_asm); exact cd_end (by assumption) (by assumption))

theorem lnC2_5 : True := by
  k_with "call ref" => (k_here; (with_reducible show wpAny _ _ (PySem.call (Value.ref 92) _) _ _ _); (rename News _ _ _ _ => cN9); k_dflt (refine' c_count_digits (by first | with_reducible assumption | omega | (split <;> omega)) _ _ _ _ _ _ _ _ _ _ _ _ _ _ _ _ _ (by k_asm) (by k_asm) (by k_asm) cN9 (by k_asm) (by first | exact rfl | assumption) (by first | exact room9 (by assumption) (by rfl) | ktr_room) (by first | exact units9 (by assumption) (by rfl) | ktr_units) ?_); (try dsimp only [RetP, RetT, RetF]); intro t9 h9 tk9 F9 N9; (try dsimp only); (try k_fold))
  k_with "call ref" => (k_here; (with_reducible show wpAny _ _ (PySem.call (Value.ref 240) _) _ _ _); (rename News _ _ _ _ => cN9); k_dflt (refine' c_figures_of (by first | with_reducible assumption | omega | (split <;> omega)) (by first | with_reducible assumption | omega | (split <;> omega)) (by first | with_reducible assumption | omega | (split <;> omega)) (by first | with_reducible assumption | omega | (split <;> omega)) _ _ _ _ _ _ _ _ _ _ _ _ _ _ _ _ _ (by k_asm) (by k_asm) (by k_asm) cN9 (by k_asm) (by first | exact rfl | assumption) (by first | exact room9 (by assumption) (by rfl) | ktr_room) (by first | exact units9 (by assumption) (by rfl) | ktr_units) ?_); (try dsimp only [RetP, RetT, RetF]); intro hf9 t9 h9 tk9 F9 N9; (try dsimp only); (try k_fold))
  trivial

end
section
theorem lnC3_1 : True := by
  k_with_none
  k_with "omega" => ((try clear hret); (try clear hk); (try clear hd); (try clear hu); first | lia | omega +splitDisjunctions)
  trivial
theorem lnC3_2 : True := by
  k_with "execs cons" => ((with_reducible refine wpAny_execs_cons ?_); try dsimp only)
  k_with "execs nil" => refine wpAny_execs_nil ?_
  k_with "call ref" => (k_here; (with_reducible show wpAny _ _ (PySem.call (Value.ref 212) _) _ _ _); (rename News _ _ _ _ => cN9); k_dflt (refine' c_whole_figures (by first | with_reducible assumption | omega | (split <;> omega)) (by first | with_reducible assumption | omega | (split <;> omega)) _ _ _ _ _ _ _ _ _ _ _ _ _ _ _ _ _ (by k_asm) (by k_asm) (by k_asm) cN9 (by k_asm) (by first | exact rfl | assumption) (by first | exact room9 (by assumption) (by rfl) | ktr_room) (by first | exact units9 (by assumption) (by rfl) | ktr_units) ?_); (try dsimp only [RetP, RetT, RetF]); intro hf9 t9 h9 tk9 F9 N9; (try dsimp only); (try k_fold))
  k_with "call ref" => (k_here; (with_reducible show wpAny _ _ (PySem.call (Value.ref 233) _) _ _ _); (rename News _ _ _ _ => cN9); k_dflt (refine' c_scaled (by first | with_reducible assumption | omega | (split <;> omega)) (by first | with_reducible assumption | omega | (split <;> omega)) (by omega) (by omega) _ _ _ _ _ _ _ _ _ _ _ _ _ _ _ _ _ (by k_asm) (by k_asm) (by k_asm) cN9 (by k_asm) (by first | exact rfl | assumption) (by first | exact room9 (by assumption) (by rfl) | ktr_room) (by first | exact units9 (by assumption) (by rfl) | ktr_units) ?_); (try dsimp only [RetP, RetT, RetF]); intro hf9 t9 h9 tk9 F9 N9; (try dsimp only); (try k_fold))
  k_with "call ref" => (k_here; (with_reducible show wpAny _ _ (PySem.call (Value.ref 92) _) _ _ _); (rename News _ _ _ _ => cN9); k_dflt (refine' c_count_digits (by first | with_reducible assumption | omega | (split <;> omega)) _ _ _ _ _ _ _ _ _ _ _ _ _ _ _ _ _ (by k_asm) (by k_asm) (by k_asm) cN9 (by k_asm) (by first | exact rfl | assumption) (by first | exact room9 (by assumption) (by rfl) | ktr_room) (by first | exact units9 (by assumption) (by rfl) | ktr_units) ?_); (try dsimp only [RetP, RetT, RetF]); intro t9 h9 tk9 F9 N9; (try dsimp only); (try k_fold))
  k_with "call ref" => (k_here; (with_reducible show wpAny _ _ (PySem.call (Value.ref 240) _) _ _ _); (rename News _ _ _ _ => cN9); k_dflt (refine' c_figures_of (by first | with_reducible assumption | omega | (split <;> omega)) (by first | with_reducible assumption | omega | (split <;> omega)) (by first | with_reducible assumption | omega | (split <;> omega)) (by first | with_reducible assumption | omega | (split <;> omega)) _ _ _ _ _ _ _ _ _ _ _ _ _ _ _ _ _ (by k_asm) (by k_asm) (by k_asm) cN9 (by k_asm) (by first | exact rfl | assumption) (by first | exact room9 (by assumption) (by rfl) | ktr_room) (by first | exact units9 (by assumption) (by rfl) | ktr_units) ?_); (try dsimp only [RetP, RetT, RetF]); intro hf9 t9 h9 tk9 F9 N9; (try dsimp only); (try k_fold))
  trivial

def HasT (news : List (Addr × Obj)) (a : Addr) (m e : Int) : Prop :=
  (∃ t1 t2, (a, tupO #[.int m t1, .int e t2]) ∈ news) ∨ (a = 85 ∧ m = 0 ∧ e = 0)
/-- the ends of round and strip: nought's own tuple, or a new one -/
abbrev RetM (zero : Prop) (news : List (Addr × Obj)) (m e : Int) (h₀ : Heap) (L : Addr) (f : Str → Option Value) (s : Shared) (Q : Value → Shared → Prop) : Prop :=
  (zero → ∀ (h' : Heap) (tk' : Nat), Fr h₀ L h' f → News h₀ L h' news → Q (.ref 85) { s with heap := h', toks := tk' }) ∧
  (¬ zero → ∀ (q : Addr) (t1 t2 : Tok) (h' : Heap) (tk' : Nat), Fr h₀ L h' f → News h₀ L h' ((q, tupO #[.int m t1, .int e t2]) :: news) → (∀ p ∈ news, p.1 < q) → Q (.ref q) { s with heap := h', toks := tk' })
noncomputable def sg (n : Int) : Int := if n < 0 then -1 else 1
theorem st_turn {v c n e : Int} (h0 : v ≠ 0) (h1 : v.natAbs < 1000000000000000000) (h2 : sg v = sg n) (h3 : stM v.natAbs = stM n.natAbs) (h4 : c + (stJ v.natAbs : Int) = e + (stJ n.natAbs : Int)) (hm : Int.fmod v 10 = 0) :
    Int.fdiv v 10 ≠ 0 ∧ (Int.fdiv v 10).natAbs < 1000000000000000000 ∧ sg (Int.fdiv v 10) = sg n ∧ stM (Int.fdiv v 10).natAbs = stM n.natAbs ∧ (c + 1) + (stJ (Int.fdiv v 10).natAbs : Int) = e + (stJ n.natAbs : Int) := by
  rw [fmod_pos _ (by decide)] at hm
  rw [fdiv_pos _ (by decide)]
  have e1 : v.natAbs = (v / 10).natAbs * 10 := by (clear h4 h0 h1 h3 h2; omega)
  have e2 : (v / 10).natAbs ≠ 0 := by (clear h4 e1 h1 h3 h2; omega)
  rw [e1, stM_yes e2] at h3
  rw [e1, stJ_yes e2] at h4
  refine ⟨by (clear e2 h4 e1 h3 h1 h2; omega), by (clear h3 hm e1 h0 e2 h4 h2; omega), ?_, h3, by (clear e2 h0 e1 hm h3 h1 h2; omega)⟩
  rw [← h2]; unfold sg
  by_cases hv : v < 0
  · rw [if_pos hv, if_pos (by (clear h1 h3 hm e1 h0 e2 h4 h2; omega))]
  · rw [if_neg hv, if_neg (by (clear h3 hm e1 h0 e2 h4 h1 h2; omega))]
theorem st_endM {v n : Int} (h2 : sg v = sg n) (h3 : stM v.natAbs = stM n.natAbs) (hm : Int.fmod v 10 ≠ 0) : v = sg n * (stM n.natAbs : Int) := by
  rw [fmod_pos _ (by decide)] at hm
  rw [stM_no (by (clear h3 h2; omega))] at h3
  rw [← h2, ← h3]; unfold sg
  split <;> (clear h2 h3 hm; omega)
theorem st_endJ {v c n e : Int} (h4 : c + (stJ v.natAbs : Int) = e + (stJ n.natAbs : Int)) (hm : Int.fmod v 10 ≠ 0) : c = e + (stJ n.natAbs : Int) := by
  rw [fmod_pos _ (by decide)] at hm
  rw [stJ_no (n := v.natAbs) (by (clear h4; omega))] at h4; (clear hm; omega)
theorem st_less {v : Int} (h0 : v ≠ 0) (hm : Int.fmod v 10 = 0) : (Int.fdiv v 10).natAbs < v.natAbs := by
  rw [fmod_pos _ (by decide)] at hm
  rw [fdiv_pos _ (by decide)]; omega
set_option maxRecDepth 100000 in
set_option maxHeartbeats 8000000 in
theorem c_strip_zeros {w : World} {mg mb p loose mean news} {n e : Int} {t u : Tok} (h1 : n.natAbs < 1000000000000000000) :
    Ct w mg mb p loose mean 1 99 [.int n t, .int e u] news (RetM (n = 0) news (sg n * (stM n.natAbs : Int)) (e + (stJ n.natAbs : Int))) := by
  dsimp only [Ct, RetP, RetT, RetF]
  k_fill
  intro dp un gd cn cz a ccd cl outer A₀ base h₀ L m s Q E B F X N T hk hd hu hret
  refine wpAny_call ?_
  k_dflt (refine' code_def (binds := [(Str.ofString "m", .int n t), (Str.ofString "e", .int e u)]) ?k1 ?k2 ?k3 ?k4 ?k5 ?kA ?kF ?kK ?k6 ?k7 ?k8 ?k9 ?kB ?_ ?c2 ?c3 ?c4 ?c5; (case kA => exact rfl); (case kF => exact rfl); (case kK => assumption); (case k1 => k_asm); (case k2 => k_asm); (case k3 => k_asm); (case k4 => k_asm); (case k5 => k_asm); (case k6 => k_is); (case k7 => k_is); (case k8 => ktr_room); (case k9 => exact BindsTo.of_eq rfl); (case c5 => decide); (case kB => exact locs rfl); (case c2 => exact rfl); (case c3 => exact rfl); (case c4 => exact rfl); k_whole; intro g' L' h' FG' F' N' B' X' T'; (try dsimp only); (try k_lift B'); (try k_fold))
  (try dsimp only [RetM] at hret)
  obtain ⟨hret0, hret1⟩ := hret
  (k_with "state" => first | exact ⟨by assumption, by assumption, rfl, rfl, rfl⟩ | exact st_turn (by assumption) (by assumption) (by assumption) (by assumption) (by assumption) (by assumption))
  (k_with "measure" => exact st_less (by assumption) (by assumption))
  (k_with "exec While Compare cons nil" => k_while (fun (_ : List Int) v c => v ≠ 0 ∧ v.natAbs < 1000000000000000000 ∧ sg v = sg n ∧ stM v.natAbs = stM n.natAbs ∧ c + (stJ v.natAbs : Int) = e + (stJ n.natAbs : Int)) (fun _ v _ => v.natAbs) "m" "e")
  k_steps
  · exact hret0 (by assumption) _ _ (by k_asm) (by k_asm)
  · have e1 := st_endM (by assumption) (by assumption) (by assumption)
    have e2 := st_endJ (by assumption) (by assumption)
    subst e1
    subst e2
    exact hret1 (by assumption) _ _ _ _ _ (by k_asm) (by k_asm) (by assumption)

end
section
theorem lnC4_1 : True := by
  k_with_none
  k_with "omega" => ((try clear hret); (try clear hk); (try clear hd); (try clear hu); first | lia | omega +splitDisjunctions)
  trivial
theorem lnC4_2 : True := by
  k_with "execs cons" => ((with_reducible refine wpAny_execs_cons ?_); try dsimp only)
  k_with "execs nil" => refine wpAny_execs_nil ?_
  k_with "call ref" => (k_here; (with_reducible show wpAny _ _ (PySem.call (Value.ref 212) _) _ _ _); (rename News _ _ _ _ => cN9); k_dflt (refine' c_whole_figures (by first | with_reducible assumption | omega | (split <;> omega)) (by first | with_reducible assumption | omega | (split <;> omega)) _ _ _ _ _ _ _ _ _ _ _ _ _ _ _ _ _ (by k_asm) (by k_asm) (by k_asm) cN9 (by k_asm) (by first | exact rfl | assumption) (by first | exact room9 (by assumption) (by rfl) | ktr_room) (by first | exact units9 (by assumption) (by rfl) | ktr_units) ?_); (try dsimp only [RetP, RetT, RetF]); intro hf9 t9 h9 tk9 F9 N9; (try dsimp only); (try k_fold))
  k_with "call ref" => (k_here; (with_reducible show wpAny _ _ (PySem.call (Value.ref 233) _) _ _ _); (rename News _ _ _ _ => cN9); k_dflt (refine' c_scaled (by first | with_reducible assumption | omega | (split <;> omega)) (by first | with_reducible assumption | omega | (split <;> omega)) (by omega) (by omega) _ _ _ _ _ _ _ _ _ _ _ _ _ _ _ _ _ (by k_asm) (by k_asm) (by k_asm) cN9 (by k_asm) (by first | exact rfl | assumption) (by first | exact room9 (by assumption) (by rfl) | ktr_room) (by first | exact units9 (by assumption) (by rfl) | ktr_units) ?_); (try dsimp only [RetP, RetT, RetF]); intro hf9 t9 h9 tk9 F9 N9; (try dsimp only); (try k_fold))
  k_with "call ref" => (k_here; (with_reducible show wpAny _ _ (PySem.call (Value.ref 92) _) _ _ _); (rename News _ _ _ _ => cN9); k_dflt (refine' c_count_digits (by first | with_reducible assumption | omega | (split <;> omega)) _ _ _ _ _ _ _ _ _ _ _ _ _ _ _ _ _ (by k_asm) (by k_asm) (by k_asm) cN9 (by k_asm) (by first | exact rfl | assumption) (by first | exact room9 (by assumption) (by rfl) | ktr_room) (by first | exact units9 (by assumption) (by rfl) | ktr_units) ?_); (try dsimp only [RetP, RetT, RetF]); intro t9 h9 tk9 F9 N9; (try dsimp only); (try k_fold))
  k_with "call ref" => (k_here; (with_reducible show wpAny _ _ (PySem.call (Value.ref 240) _) _ _ _); (rename News _ _ _ _ => cN9); k_dflt (refine' c_figures_of (by first | with_reducible assumption | omega | (split <;> omega)) (by first | with_reducible assumption | omega | (split <;> omega)) (by first | with_reducible assumption | omega | (split <;> omega)) (by first | with_reducible assumption | omega | (split <;> omega)) _ _ _ _ _ _ _ _ _ _ _ _ _ _ _ _ _ (by k_asm) (by k_asm) (by k_asm) cN9 (by k_asm) (by first | exact rfl | assumption) (by first | exact room9 (by assumption) (by rfl) | ktr_room) (by first | exact units9 (by assumption) (by rfl) | ktr_units) ?_); (try dsimp only [RetP, RetT, RetF]); intro hf9 t9 h9 tk9 F9 N9; (try dsimp only); (try k_fold))
  k_with "call ref" => (k_here; (with_reducible show wpAny _ _ (PySem.call (Value.ref 99) _) _ _ _); (rename News _ _ _ _ => cN9); k_dflt (refine' c_strip_zeros (by first | with_reducible assumption | omega | (split <;> omega)) _ _ _ _ _ _ _ _ _ _ _ _ _ _ _ _ _ (by k_asm) (by k_asm) (by k_asm) cN9 (by k_asm) (by first | exact rfl | assumption) (by first | exact room9 (by assumption) (by rfl) | ktr_room) (by first | exact units9 (by assumption) (by rfl) | ktr_units) ?_); (try dsimp only [RetP, RetT, RetF]); (refine ⟨fun hz9 h9 tk9 F9 N9 => ?_, fun hz9 q9 t91 t92 h9 tk9 F9 N9 l9 => ?_⟩) <;> ((try dsimp only); (try k_fold)))
  trivial

theorem lnC4_3 : True := by
  k_with "call builtin:divmod" => ((with_reducible show wpAny _ _ (PySem.call (Value.builtin _) [Value.int _ _, Value.int _ _]) _ _ _); (rename Fr _ _ _ _ => dF'); (rename News _ _ _ _ => dN'); refine divmod_N dF' dN' (by omega) ?_ (Or.inl (noPy (by omega))); intro dh' dF2' dN2'; (try k_fold))
  trivial
theorem sg_st {n q : Int} {j : Nat} (h0 : q ≠ 0) (hs : sg q = sg n) (h : n.natAbs = q.natAbs * 10 ^ j) : sg q * (stM q.natAbs : Int) = sg n * (stM n.natAbs : Int) ∧ (j : Int) + (stJ q.natAbs : Int) = (stJ n.natAbs : Int) := by
  rw [h, stM_mul (by (clear h hs; omega)), stJ_mul (by (clear h hs; omega)), hs]
  exact ⟨rfl, by (clear hs h0 h; omega)⟩
theorem rd_hx {n P : Int} (hP : 1 ≤ P) (hr : Int.fmod (if n < 0 then -n else n) P = 0) : (n.natAbs : Int) = Int.fdiv (if n < 0 then -n else n) P * P ∧ 0 ≤ Int.fdiv (if n < 0 then -n else n) P ∧ Int.fdiv (if n < 0 then -n else n) P ≤ (n.natAbs : Int) := by
  have e : (if n < 0 then -n else n) = (n.natAbs : Int) := by split <;> (clear hP hr; omega)
  rw [e] at hr ⊢
  rw [fmod_pos _ (by (clear hr e; omega))] at hr
  rw [fdiv_pos _ (by (clear hr e; omega))]
  refine ⟨?_, Int.ediv_nonneg (by (clear hP hr e; omega)) (by (clear hr e; omega)), ?_⟩
  · have := Int.mul_ediv_add_emod (n.natAbs : Int) P
    rw [hr, Int.mul_comm] at this; (clear e hr hP; omega)
  · exact Int.ediv_le_self _ (by (clear hP hr e; omega))
theorem rd_abs {q : Int} {j N : Nat} (h : (N : Int) = q * 10 ^ j) : N = q.natAbs * 10 ^ j := by
  have : (N : Int).natAbs = (q * 10 ^ j).natAbs := by rw [h]
  rw [Int.natAbs_mul, Int.natAbs_pow] at this
  simpa using this
theorem rd_ne {q : Int} {j : Nat} {n : Int} (h : (n.natAbs : Int) = q * 10 ^ j) (hn : n ≠ 0) : q ≠ 0 := by
  rintro rfl; rw [Int.zero_mul] at h; omega
theorem rd_pos {n q e dd : Int} (hn : 0 < n) (h0 : 0 ≤ q) (h : (n.natAbs : Int) = q * 10 ^ dd.toNat) (hd : 0 < dd) : sg q * (stM q.natAbs : Int) = sg n * (stM n.natAbs : Int) ∧ e + dd + (stJ q.natAbs : Int) = e + (stJ n.natAbs : Int) := by
  have hq := rd_ne h (by (clear h0 h hd; omega))
  have := sg_st (n := n) hq (by unfold sg; rw [if_neg (by (clear hn hd hq h; omega)), if_neg (by (clear hd hq h h0; omega))]) (rd_abs h)
  exact ⟨this.1, by (clear h hq h0 hn; omega)⟩
theorem rd_neg {n q e dd : Int} (hn : ¬ 0 < n) (hz : n ≠ 0) (h0 : 0 ≤ q) (h : (n.natAbs : Int) = q * 10 ^ dd.toNat) (hd : 0 < dd) : sg (-q) * (stM (-q).natAbs : Int) = sg n * (stM n.natAbs : Int) ∧ e + dd + (stJ (-q).natAbs : Int) = e + (stJ n.natAbs : Int) := by
  have hq := rd_ne h hz
  have := sg_st (n := n) (q := -q) (by (clear hz h hn h0 hd; omega)) (by unfold sg; rw [if_pos (by (clear hz h hn hd; omega)), if_pos (by (clear h hq h0 hd; omega))]) (by rw [Int.natAbs_neg]; exact rd_abs h)
  exact ⟨this.1, by (clear h hz hq hn h0; omega)⟩
theorem pow_bounds {k : Int} (h : k ≤ 18) : 1 ≤ (10 : Int) ^ k.toNat ∧ (10 : Int) ^ k.toNat ≤ 1000000000000000000 := by
  have h1 : (10 : Nat) ^ k.toNat ≤ 10 ^ 18 := Nat.pow_le_pow_right (by decide) (by omega)
  have h2 : 1 ≤ (10 : Nat) ^ k.toNat := Nat.pow_pos (by decide)
  have e : (10 : Int) ^ k.toNat = ((10 ^ k.toNat : Nat) : Int) := by simp
  rw [e]; (clear e h; omega)
set_option maxRecDepth 100000 in
set_option maxHeartbeats 8000000 in
theorem c_round_digits {w : World} {mg mb p loose mean news} {n e d : Int} {t u v : Tok} (h1 : n.natAbs < 1000000000000000000) (h2 : 1 ≤ d) (h3 : d ≤ 20) (hr : Int.fmod (if n < 0 then -n else n) (10 ^ ((cdN n.natAbs : Int) - d).toNat) = 0) :
    Ct w mg mb p loose mean 2 106 [.int n t, .int e u, .int d v] news (RetM (n = 0) news (sg n * (stM n.natAbs : Int)) (e + (stJ n.natAbs : Int))) := by
  dsimp only [Ct, RetP, RetT, RetF]
  k_fill
  intro dp un gd cn cz a ccd cl outer A₀ base h₀ L m s Q E B F X N T hk hd hu hret
  refine wpAny_call ?_
  k_dflt (refine' code_def (binds := [(Str.ofString "m", .int n t), (Str.ofString "e", .int e u), (Str.ofString "digits", .int d v)]) ?k1 ?k2 ?k3 ?k4 ?k5 ?kA ?kF ?kK ?k6 ?k7 ?k8 ?k9 ?kB ?_ ?c2 ?c3 ?c4 ?c5; (case kA => exact rfl); (case kF => exact rfl); (case kK => assumption); (case k1 => k_asm); (case k2 => k_asm); (case k3 => k_asm); (case k4 => k_asm); (case k5 => k_asm); (case k6 => k_is); (case k7 => k_is); (case k8 => ktr_room); (case k9 => exact BindsTo.of_eq rfl); (case c5 => decide); (case kB => exact locs rfl); (case c2 => exact rfl); (case c3 => exact rfl); (case c4 => exact rfl); k_whole; intro g' L' h' FG' F' N' B' X' T'; (try dsimp only); (try k_lift B'); (try k_fold))
  (try dsimp only [RetM] at hret)
  obtain ⟨hret0, hret1⟩ := hret
  have hcd := cdN_lt (n := n.natAbs) (k := 18) (by (clear hd B' hu F' hret0 hr hret1 h3 h2 T' T F N X' N' X B hk FG'; omega))
  obtain ⟨hP1, hP2⟩ := pow_bounds (k := (cdN n.natAbs : Int) - d) (by (clear hd B' hu F' hret0 hr hret1 h1 h3 T' T F N X' N' X B hk FG'; omega))
  obtain ⟨hx1, hx2, hx3⟩ := rd_hx hP1 hr
  k_steps
  all_goals first
    | (exfalso; (clear hx3 hx2 hx1 hret1 hret0 hP2 hu B' hd hcd h1 h2 h3 T' T F N X' FG' B X hk; omega))
    | (exfalso; (clear hx3 hx2 hx1 hret1 hret0 hP2 hu B' hd hcd h1 h2 h3 T' T F N X' FG' B X hk; omega))
    | (exfalso; exact rd_ne hx1 (by (clear hk X B FG' X' N F T T' h3 h2 h1 hcd hd B' hu hP2 hP1 hret0 hr hx3 hx2 hx1 hret1; omega)) (by assumption))
    | (obtain ⟨e1, e2⟩ := rd_pos (e := e) (by first | assumption | omega) hx2 hx1 (by first | assumption | omega); (rename News _ _ _ _ => hN'); rw [e1, e2] at hN'; exact hret1 (by (clear hk X B FG' X' N F T T' h3 h2 h1 hcd hd B' hu hP2 hP1 hret0 hr hx3 hx2 hx1 e2 hret1 e1 hN'; omega)) _ _ _ _ _ (by k_asm) (cb_drop hN' (by kcj_all)) (fun p hp => by (with_reducible rename ∀ p ∈ _, _ => hl9); exact hl9 p (List.mem_cons_of_mem _ hp)))
    | (refine hret0 (Decidable.byContradiction fun hz => ?_) _ _ (by k_asm) (cb_drop (by assumption) (by kcj_all)); have := rd_ne hx1 hz; (clear hx2 hx3 hx1 hret1 hr hret0 hP2 hP1 hu B' hd hcd h1 h2 hz h3 T' T F N X' hk B FG' X; omega))
    | (have hz : n ≠ 0 := (by (clear hx1 hret1 hr hret0 hP1 hP2 hu B' hd hcd h1 h2 h3 T' T F N X' FG' B X hk; omega)); obtain ⟨e1, e2⟩ := rd_neg (e := e) (by first | assumption | omega) hz hx2 hx1 (by first | assumption | omega); (rename News _ _ _ _ => hN'); rw [e1, e2] at hN'; exact hret1 (by (clear hP1 hP2 hret0 hr hx3 hx2 hx1 e2 hret1 e1 hN' hu B' hd hcd h1 h2 h3 T' T F N X' FG' B X hk; omega)) _ _ _ _ _ (by k_asm) (cb_drop hN' (by kcj_all)) (fun p hp => by (with_reducible rename ∀ p ∈ _, _ => hl9); exact hl9 p (List.mem_cons_of_mem _ hp)))
    | (exact hret0 (by assumption) _ _ (by k_asm) (by k_asm))
    | (exact hret1 (by assumption) _ _ _ _ _ (by k_asm) (by k_asm) (by assumption))

end
section
theorem lnC5_1 : True := by
  k_with_none
  k_with "omega" => ((try clear hret); (try clear hk); (try clear hd); (try clear hu); first | lia | omega +splitDisjunctions)
  trivial
theorem lnC5_2 : True := by
  k_with "execs cons" => ((with_reducible refine wpAny_execs_cons ?_); try dsimp only)
  k_with "execs nil" => refine wpAny_execs_nil ?_
  k_with "call ref" => (k_here; (with_reducible show wpAny _ _ (PySem.call (Value.ref 212) _) _ _ _); (rename News _ _ _ _ => cN9); k_dflt (refine' c_whole_figures (by first | with_reducible assumption | omega | (split <;> omega)) (by first | with_reducible assumption | omega | (split <;> omega)) _ _ _ _ _ _ _ _ _ _ _ _ _ _ _ _ _ (by k_asm) (by k_asm) (by k_asm) cN9 (by k_asm) (by first | exact rfl | assumption) (by first | exact room9 (by assumption) (by rfl) | ktr_room) (by first | exact units9 (by assumption) (by rfl) | ktr_units) ?_); (try dsimp only [RetP, RetT, RetF]); intro hf9 t9 h9 tk9 F9 N9; (try dsimp only); (try k_fold))
  k_with "call ref" => (k_here; (with_reducible show wpAny _ _ (PySem.call (Value.ref 233) _) _ _ _); (rename News _ _ _ _ => cN9); k_dflt (refine' c_scaled (by first | with_reducible assumption | omega | (split <;> omega)) (by first | with_reducible assumption | omega | (split <;> omega)) (by omega) (by omega) _ _ _ _ _ _ _ _ _ _ _ _ _ _ _ _ _ (by k_asm) (by k_asm) (by k_asm) cN9 (by k_asm) (by first | exact rfl | assumption) (by first | exact room9 (by assumption) (by rfl) | ktr_room) (by first | exact units9 (by assumption) (by rfl) | ktr_units) ?_); (try dsimp only [RetP, RetT, RetF]); intro hf9 t9 h9 tk9 F9 N9; (try dsimp only); (try k_fold))
  k_with "call ref" => (k_here; (with_reducible show wpAny _ _ (PySem.call (Value.ref 92) _) _ _ _); (rename News _ _ _ _ => cN9); k_dflt (refine' c_count_digits (by first | with_reducible assumption | omega | (split <;> omega)) _ _ _ _ _ _ _ _ _ _ _ _ _ _ _ _ _ (by k_asm) (by k_asm) (by k_asm) cN9 (by k_asm) (by first | exact rfl | assumption) (by first | exact room9 (by assumption) (by rfl) | ktr_room) (by first | exact units9 (by assumption) (by rfl) | ktr_units) ?_); (try dsimp only [RetP, RetT, RetF]); intro t9 h9 tk9 F9 N9; (try dsimp only); (try k_fold))
  k_with "call ref" => (k_here; (with_reducible show wpAny _ _ (PySem.call (Value.ref 240) _) _ _ _); (rename News _ _ _ _ => cN9); k_dflt (refine' c_figures_of (by first | with_reducible assumption | omega | (split <;> omega)) (by first | with_reducible assumption | omega | (split <;> omega)) (by first | with_reducible assumption | omega | (split <;> omega)) (by first | with_reducible assumption | omega | (split <;> omega)) _ _ _ _ _ _ _ _ _ _ _ _ _ _ _ _ _ (by k_asm) (by k_asm) (by k_asm) cN9 (by k_asm) (by first | exact rfl | assumption) (by first | exact room9 (by assumption) (by rfl) | ktr_room) (by first | exact units9 (by assumption) (by rfl) | ktr_units) ?_); (try dsimp only [RetP, RetT, RetF]); intro hf9 t9 h9 tk9 F9 N9; (try dsimp only); (try k_fold))
  trivial

theorem ne_all_of_lt {d : Addr} {l : List (Addr × Obj)} (h : ∀ p ∈ l, p.1 < d) : ∀ p ∈ l, p.1 ≠ d := fun p hp => Nat.ne_of_lt (h p hp)
abbrev limE (w : World) (k : Nat → Tok) : List DictEntry := [{ hash := PyData.keyHash w.params (Str.ofString "width"), key := .str (Str.ofString "width") (k 0), val := .int 32 698 }, { hash := PyData.keyHash w.params (Str.ofString "real_digits"), key := .str (Str.ofString "real_digits") (k 1), val := .int 7 699 }, { hash := PyData.keyHash w.params (Str.ofString "double_digits"), key := .str (Str.ofString "double_digits") (k 2), val := .int 15 700 }, { hash := PyData.keyHash w.params (Str.ofString "top_exponent"), key := .str (Str.ofString "top_exponent") (k 3), val := .int 38 701 }, { hash := PyData.keyHash w.params (Str.ofString "steps"), key := .str (Str.ofString "steps") (k 4), val := .int 1000000 702 }, { hash := PyData.keyHash w.params (Str.ofString "continuations"), key := .str (Str.ofString "continuations") (k 5), val := .int 19 703 }, { hash := PyData.keyHash w.params (Str.ofString "columns"), key := .str (Str.ofString "columns") (k 6), val := .int 72 704 }, { hash := PyData.keyHash w.params (Str.ofString "depth"), key := .str (Str.ofString "depth") (k 7), val := .int 40 705 }]
def LimIn (w : World) (news : List (Addr × Obj)) (x : Addr) : Prop := ∃ dx ks, (x, instObj 342 dx) ∈ news ∧ (dx, dictOf (limE w ks) 8) ∈ news
noncomputable def limO (w : World) (k : Nat → Tok) : Obj := dictOf (limE w k) 8
noncomputable def tokAt : List Tok → Nat → Tok := fun l i => l.getD i 0

section
theorem lnC5_3 : True := by
  k_with "k_all" => exact ne_all_of_lt (by assumption)
  trivial
set_option maxRecDepth 100000 in
set_option maxHeartbeats 8000000 in
theorem c_Limits {w : World} {mg mb p loose mean news} :
    Ct w mg mb p loose mean 3 342 [] news (fun h₀ L m s Q => ∀ (x dx : Addr) (ks : Nat → Tok) (h' : Heap) (tk' : Nat), @LT.lt Nat _ dx x → (∀ p ∈ news, p.1 < dx) → Fr h₀ L h' m → News h₀ L h' ((x, instObj 342 dx) :: (dx, limO w ks) :: news) → Q (.ref x) { s with heap := h', toks := tk' }) := by
  dsimp only [Ct]
  k_fill
  intro dp un gd cn cz a ccd cl outer A₀ base h₀ L m s Q E B F X N T hk hd hu hret
  k_here
  k_dflt (refine' call_cls ?q1 ?q2 ?q3 ?q4 ?q5 ?q6 ?_; (case q1 => k_asm); (case q2 => k_asm); (case q3 => k_asm); (case q4 => k_is); (case q5 => k_is); (case q6 => k_is); k_whole)
  intro x' d' h' F' N' l1 l2; have l0 := l1; have l2' : @LT.lt Nat _ d' x' := l2; (try k_lt l1); (try k_lt2 l2)
  k_dflt (refine' code_def ?k1 ?k2 ?k3 ?k4 ?k5 ?kA ?kF ?kK ?k6 ?k7 ?k8 ?k9 ?kB ?_ ?c2 ?c3 ?c4 ?c5; (case kA => exact rfl); (case kF => exact rfl); (case kK => assumption); (case k1 => k_asm); (case k2 => k_asm); (case k3 => k_asm); (case k4 => k_asm); (case k5 => k_asm); (case k6 => k_is); (case k7 => k_is); (case k8 => ktr_room); (case k9 => first | exact BindsTo.of_eq rfl | exact binds_K (by k_in) rfl (by k_is) rfl rfl rfl); (case c5 => decide); (case kB => exact locs rfl); (case c2 => exact rfl); (case c3 => exact rfl); (case c4 => exact rfl); k_whole; intro g' L' h' FG' F' N' B' X' T'; (try dsimp only); (try k_lift B'); (try k_fold))
  k_steps
  (rename News _ _ _ _ => hN9)
  exact hret _ d' (tokAt [_, _, _, _, _, _, _, _]) _ _ l2' l0 (by k_asm) hN9
end
theorem lnC5_4 : True := by
  k_with_none
  k_with "omega" => ((try clear hret); (try clear hk); (try clear hd); (try clear hu); first | lia | omega +splitDisjunctions)
  k_with "execs cons" => ((with_reducible refine wpAny_execs_cons ?_); try dsimp only)
  k_with "execs nil" => refine wpAny_execs_nil ?_
  k_with "call ref" => (k_here; (with_reducible show wpAny _ _ (PySem.call (Value.ref 212) _) _ _ _); (rename News _ _ _ _ => cN9); k_dflt (refine' c_whole_figures (by first | with_reducible assumption | omega | (split <;> omega)) (by first | with_reducible assumption | omega | (split <;> omega)) _ _ _ _ _ _ _ _ _ _ _ _ _ _ _ _ _ (by k_asm) (by k_asm) (by k_asm) cN9 (by k_asm) (by first | exact rfl | assumption) (by first | exact room9 (by assumption) (by rfl) | ktr_room) (by first | exact units9 (by assumption) (by rfl) | ktr_units) ?_); (try dsimp only [RetP, RetT, RetF]); intro hf9 t9 h9 tk9 F9 N9; (try dsimp only); (try k_fold))
  k_with "call ref" => (k_here; (with_reducible show wpAny _ _ (PySem.call (Value.ref 233) _) _ _ _); (rename News _ _ _ _ => cN9); k_dflt (refine' c_scaled (by first | with_reducible assumption | omega | (split <;> omega)) (by first | with_reducible assumption | omega | (split <;> omega)) (by omega) (by omega) _ _ _ _ _ _ _ _ _ _ _ _ _ _ _ _ _ (by k_asm) (by k_asm) (by k_asm) cN9 (by k_asm) (by first | exact rfl | assumption) (by first | exact room9 (by assumption) (by rfl) | ktr_room) (by first | exact units9 (by assumption) (by rfl) | ktr_units) ?_); (try dsimp only [RetP, RetT, RetF]); intro hf9 t9 h9 tk9 F9 N9; (try dsimp only); (try k_fold))
  k_with "call ref" => (k_here; (with_reducible show wpAny _ _ (PySem.call (Value.ref 92) _) _ _ _); (rename News _ _ _ _ => cN9); k_dflt (refine' c_count_digits (by first | with_reducible assumption | omega | (split <;> omega)) _ _ _ _ _ _ _ _ _ _ _ _ _ _ _ _ _ (by k_asm) (by k_asm) (by k_asm) cN9 (by k_asm) (by first | exact rfl | assumption) (by first | exact room9 (by assumption) (by rfl) | ktr_room) (by first | exact units9 (by assumption) (by rfl) | ktr_units) ?_); (try dsimp only [RetP, RetT, RetF]); intro t9 h9 tk9 F9 N9; (try dsimp only); (try k_fold))
  k_with "call ref" => (k_here; (with_reducible show wpAny _ _ (PySem.call (Value.ref 240) _) _ _ _); (rename News _ _ _ _ => cN9); k_dflt (refine' c_figures_of (by first | with_reducible assumption | omega | (split <;> omega)) (by first | with_reducible assumption | omega | (split <;> omega)) (by first | with_reducible assumption | omega | (split <;> omega)) (by first | with_reducible assumption | omega | (split <;> omega)) _ _ _ _ _ _ _ _ _ _ _ _ _ _ _ _ _ (by k_asm) (by k_asm) (by k_asm) cN9 (by k_asm) (by first | exact rfl | assumption) (by first | exact room9 (by assumption) (by rfl) | ktr_room) (by first | exact units9 (by assumption) (by rfl) | ktr_units) ?_); (try dsimp only [RetP, RetT, RetF]); intro hf9 t9 h9 tk9 F9 N9; (try dsimp only); (try k_fold))
  trivial
set_option maxRecDepth 100000 in
set_option maxHeartbeats 8000000 in
theorem c_digits_of {w : World} {mg mb p loose mean news} {k : Int} {t : Tok} {x : Addr} (hk9 : k = 1 ∨ k = 2) (hl : LimIn w news x) :
    Ct w mg mb p loose mean 1 120 [.int k t, .ref x] news (RetP news fun t => .int (if k = 1 then 7 else 15) t) := by
  dsimp only [Ct, RetP, RetT, RetF]
  k_fill
  intro dp un gd cn cz a ccd cl outer A₀ base h₀ L m s Q E B F X N T hk hd hu hret
  refine wpAny_call ?_
  k_dflt (refine' code_def (binds := [(Str.ofString "kind", .int k t), (Str.ofString "limits", .ref x)]) ?k1 ?k2 ?k3 ?k4 ?k5 ?kA ?kF ?kK ?k6 ?k7 ?k8 ?k9 ?kB ?_ ?c2 ?c3 ?c4 ?c5; (case kA => exact rfl); (case kF => exact rfl); (case kK => assumption); (case k1 => k_asm); (case k2 => k_asm); (case k3 => k_asm); (case k4 => k_asm); (case k5 => k_asm); (case k6 => k_is); (case k7 => k_is); (case k8 => ktr_room); (case k9 => exact BindsTo.of_eq rfl); (case c5 => decide); (case kB => exact locs rfl); (case c2 => exact rfl); (case c3 => exact rfl); (case c4 => exact rfl); k_whole; intro g' L' h' FG' F' N' B' X' T'; (try dsimp only); (try k_lift B'); (try k_fold))
  obtain ⟨dx, ks, hl1, hl2⟩ := hl
  k_steps
  · refine cb_retI hret ?_ (by k_asm) (by k_asm)
    rw [if_pos (by assumption)]
  · refine cb_retI hret ?_ (by k_asm) (by k_asm)
    rw [if_neg (by assumption)]

theorem lnC5_5 : True := by
  k_with "call ref" => (k_here; (with_reducible show wpAny _ _ (PySem.call (Value.ref 120) _) _ _ _); (rename News _ _ _ _ => cN9); k_dflt (refine' c_digits_of (by first | with_reducible assumption | omega) (by with_reducible assumption) _ _ _ _ _ _ _ _ _ _ _ _ _ _ _ _ _ (by k_asm) (by k_asm) (by k_asm) cN9 (by k_asm) (by first | exact rfl | assumption) (by first | exact room9 (by assumption) (by rfl) | ktr_room) (by first | exact units9 (by assumption) (by rfl) | ktr_units) ?_); (try dsimp only [RetP, RetT, RetF]); intro t9 h9 tk9 F9 N9; (try dsimp only); (try k_fold))
  k_with "call ref" => (k_here; (with_reducible show wpAny _ _ (PySem.call (Value.ref 106) _) _ _ _); (rename News _ _ _ _ => cN9); k_dflt (refine' c_round_digits (by first | with_reducible assumption | omega | (split <;> omega)) (by first | with_reducible assumption | omega | (split <;> omega)) (by first | with_reducible assumption | omega | (split <;> omega)) (by first | with_reducible assumption | omega | (split <;> omega)) _ _ _ _ _ _ _ _ _ _ _ _ _ _ _ _ _ (by k_asm) (by k_asm) (by k_asm) cN9 (by k_asm) (by first | exact rfl | assumption) (by first | exact room9 (by assumption) (by rfl) | ktr_room) (by first | exact units9 (by assumption) (by rfl) | ktr_units) ?_); (try dsimp only [RetP, RetT, RetF]); (refine ⟨fun hz9 h9 tk9 F9 N9 => ?_, fun hz9 q9 t91 t92 h9 tk9 F9 N9 l9 => ?_⟩) <;> ((try dsimp only); (try k_fold)))
  trivial

theorem natAbs_sg (n : Int) (k : Nat) : (sg n * (k : Int)).natAbs = k := by unfold sg; split <;> omega
theorem sg_mul_ne {n : Int} (h : n ≠ 0) : sg n * (stM n.natAbs : Int) ≠ 0 := by
  have := stM_pos (n := n.natAbs) (by omega)
  unfold sg; split <;> (clear h; omega)
theorem stM_le (n : Nat) : stM n ≤ n := by
  by_cases h : n = 0
  · subst h; rw [stM]; simp
  · have := (st_is h).1
    have h1 : 1 ≤ 10 ^ stJ n := Nat.pow_pos (by decide)
    have := Nat.le_mul_of_pos_right (stM n) h1
    (clear h1 h; omega)
set_option maxRecDepth 100000 in
set_option maxHeartbeats 8000000 in
theorem c_round_real {w : World} {mg mb p loose mean news} {n e d : Int} {t u v v4 : Tok} (h1 : n.natAbs < 1000000000000000000) (h2 : 1 ≤ d) (h3 : d ≤ 20) (hr : Int.fmod (if n < 0 then -n else n) (10 ^ ((cdN n.natAbs : Int) - d).toNat) = 0) (hlo : n ≠ 0 → -38 ≤ e + (cdN n.natAbs : Int) - 1) (hhi : n ≠ 0 → e + (cdN n.natAbs : Int) - 1 ≤ 38) :
    Ct w mg mb p loose mean 3 113 [.int n t, .int e u, .int d v, .int 38 v4] news (RetM (n = 0) news (sg n * (stM n.natAbs : Int)) (e + (stJ n.natAbs : Int))) := by
  dsimp only [Ct, RetP, RetT, RetF]
  k_fill
  intro dp un gd cn cz a ccd cl outer A₀ base h₀ L m s Q E B F X N T hk hd hu hret
  refine wpAny_call ?_
  k_dflt (refine' code_def (binds := [(Str.ofString "m", .int n t), (Str.ofString "e", .int e u), (Str.ofString "digits", .int d v), (Str.ofString "top", .int 38 v4)]) ?k1 ?k2 ?k3 ?k4 ?k5 ?kA ?kF ?kK ?k6 ?k7 ?k8 ?k9 ?kB ?_ ?c2 ?c3 ?c4 ?c5; (case kA => exact rfl); (case kF => exact rfl); (case kK => assumption); (case k1 => k_asm); (case k2 => k_asm); (case k3 => k_asm); (case k4 => k_asm); (case k5 => k_asm); (case k6 => k_is); (case k7 => k_is); (case k8 => ktr_room); (case k9 => exact BindsTo.of_eq rfl); (case c5 => decide); (case kB => exact locs rfl); (case c2 => exact rfl); (case c3 => exact rfl); (case c4 => exact rfl); k_whole; intro g' L' h' FG' F' N' B' X' T'; (try dsimp only); (try k_lift B'); (try k_fold))
  (try dsimp only [RetM] at hret)
  obtain ⟨hret0, hret1⟩ := hret
  have hb := stM_le n.natAbs
  have hab := natAbs_sg n (stM n.natAbs)
  have hcd : n ≠ 0 → (cdN (sg n * (stM n.natAbs : Int)).natAbs : Int) + (stJ n.natAbs : Int) = (cdN n.natAbs : Int) := fun h => by
    rw [hab]; have := cdN_st (n := n.natAbs) (by (clear F' hret0 hr hhi hlo hret1 hu B' hab hd h1 h3 h2 hb T' T F N X' N' X B hk FG'; omega)); (clear hab B' hu h F' hret0 hr hhi hlo hret1 hd h1 h3 h2 hb T' T F N X' N' X B hk FG'; omega)
  have hmn : n ≠ 0 → sg n * (stM n.natAbs : Int) ≠ 0 := sg_mul_ne
  by_cases hz : n = 0
  · k_steps
    all_goals first
      | (exact hret0 hz _ _ (by k_asm) (cb_drop (by assumption) (by kcj_all)))
      | (exact absurd hz (by assumption))
  · have hcd := hcd hz
    have hmn := hmn hz
    have hlo := hlo hz
    have hhi := hhi hz
    k_steps
    all_goals first
      | (exact absurd (by assumption) hz)
      | (exact absurd (by assumption) hmn)
      | (exact hret1 hz _ _ _ _ _ (by k_asm) (cb_drop (by assumption) (by kcj_all)) (fun p hp => by (with_reducible rename _ ∧ AllLt _ _ => hl9); exact ktn_ltOf hl9.2 p hp))

theorem lnC5_6 : True := by
  k_with "call ref" => (k_here; (with_reducible show wpAny _ _ (PySem.call (Value.ref 113) _) _ _ _); (rename News _ _ _ _ => cN9); k_dflt (refine' c_round_real (by first | with_reducible assumption | omega | (split <;> omega)) (by first | with_reducible assumption | omega | (split <;> omega)) (by first | with_reducible assumption | omega | (split <;> omega)) (by first | with_reducible assumption | omega | (split <;> omega)) (by first | with_reducible assumption | omega | (split <;> omega)) (by first | with_reducible assumption | omega | (split <;> omega)) _ _ _ _ _ _ _ _ _ _ _ _ _ _ _ _ _ (by k_asm) (by k_asm) (by k_asm) cN9 (by k_asm) (by first | exact rfl | assumption) (by first | exact room9 (by assumption) (by rfl) | ktr_room) (by first | exact units9 (by assumption) (by rfl) | ktr_units) ?_); (try dsimp only [RetP, RetT, RetF]); (refine ⟨fun hz9 h9 tk9 F9 N9 => ?_, fun hz9 q9 t91 t92 h9 tk9 F9 N9 l9 => ?_⟩) <;> ((try dsimp only); (try k_fold)))
  trivial

end
section
theorem lnC6_1 : True := by
  k_with_none
  k_with "omega" => ((try clear hret); (try clear hk); (try clear hd); (try clear hu); first | lia | omega +splitDisjunctions)
  trivial
theorem lnC6_2 : True := by
  k_with "execs cons" => ((with_reducible refine wpAny_execs_cons ?_); try dsimp only)
  k_with "execs nil" => refine wpAny_execs_nil ?_
  trivial

noncomputable def dropB (pre : List Int) : Str := S ((pre.map Int.toNat).dropWhile (· == 32))
noncomputable def valI (pre : List Int) : Int := (valL (pre.map Int.toNat) : Int)
theorem codes_map (x : Str) : (KStt.codes x).map Int.toNat = cs x := by
  unfold KStt.codes cs
  rw [List.map_map]
  conv => rhs; rw [← List.map_id x.cps.toList]
  exact List.map_congr_left fun c _ => by simp
theorem codes_split {x : Str} {pre post : List Int} {n : Nat} (h : KStt.codes x = pre ++ (n : Int) :: post) : cs x = pre.map Int.toNat ++ n :: post.map Int.toNat := by
  have := congrArg (List.map Int.toNat) h
  rw [codes_map] at this
  simpa using this
theorem dropB_nil : Str.ofString "" = dropB [] := eq_S (by rw [lit_e]; rfl)
theorem solid_start : (Str.ofString "").length ≤ ([] : List Int).length ∧ Str.ofString "" = dropB [] := ⟨by rw [len_cs, lit_e]; exact Nat.le_refl _, dropB_nil⟩
theorem sp_ne {n : Nat} (h : (({ cps := #[n] } : Str) != Str.ofString " ") = true) : n ≠ 32 := by
  rintro rfl
  rw [bne_cs, lit_sp] at h
  revert h; decide
theorem sp_eq {n : Nat} (h : (({ cps := #[n] } : Str) != Str.ofString " ") = false) : n = 32 := by
  rw [bne_cs, lit_sp] at h
  have h' : cs ({ cps := #[n] } : Str) = [32] := by simpa [bne] using h
  exact (List.cons.inj h').1
theorem solid_no {pre : List Int} {n : Nat} {out : Str} (h : (({ cps := #[n] } : Str) != Str.ofString " ") = true) (hP : out.length ≤ pre.length) (hD : out = dropB pre) :
    (out ++ { cps := #[n] }).length ≤ (pre ++ [(n : Int)]).length ∧ out ++ { cps := #[n] } = dropB (pre ++ [(n : Int)]) := by
  constructor
  · rw [Str.length_append, List.length_append]; exact Nat.add_le_add hP (Nat.le_refl _)
  · have hn := sp_ne h
    refine eq_S ?_
    rw [cs_append, hD]
    show (pre.map Int.toNat).dropWhile (· == 32) ++ [n] = _
    rw [List.map_append, List.dropWhile_append]
    have e : List.dropWhile (· == 32) (List.map Int.toNat [(n : Int)]) = [n] := by
      show List.dropWhile (· == 32) [Int.toNat (n : Int)] = [n]
      rw [Int.toNat_natCast, List.dropWhile_cons_of_neg (by simpa using hn)]
    rw [e]
    split
    · rename_i h9
      rw [List.isEmpty_iff.mp h9]; rfl
    · rfl
theorem solid_sp {x out : Str} {pre post : List Int} {n k : Nat} {l : List Nat} (he : KStt.codes x = pre ++ (n : Int) :: post) (hxl : cs x = List.replicate k 32 ++ l) (hl : ∀ c ∈ l, c ≠ 32)
    (h : (({ cps := #[n] } : Str) != Str.ofString " ") = false) (hP : out.length ≤ pre.length) (hD : out = dropB pre) :
    out = Str.ofString "" ∧ (out.length ≤ (pre ++ [(n : Int)]).length ∧ out = dropB (pre ++ [(n : Int)])) := by
  have hn := sp_eq h
  subst hn
  have h1 := codes_split he
  rw [hxl] at h1
  have hlen : pre.length < k := by
    refine Nat.lt_of_not_le fun hk => ?_
    have h2 : (List.replicate k 32 ++ l)[pre.length]? = some 32 := by
      rw [h1, List.getElem?_append_right (by simp)]
      simp
    rw [List.getElem?_append_right (by simpa using hk)] at h2
    exact hl 32 (List.mem_of_getElem? h2) rfl
  have h3 : pre.map Int.toNat = List.replicate pre.length 32 := by
    have := congrArg (List.take pre.length) h1
    rw [List.take_append_of_le_length (by simpa using Nat.le_of_lt hlen), List.take_append_of_le_length (by simp), List.take_replicate, List.take_of_length_le (by simp)] at this
    rw [← this, Nat.min_eq_left (Nat.le_of_lt hlen)]
  have h4 : ∀ j : Nat, (List.replicate j 32).dropWhile (· == 32) = [] := by
    intro j
    induction j with
    | zero => rfl
    | succ j ih => rw [List.replicate_succ, List.dropWhile_cons_of_pos (by decide), ih]
  have h5 : dropB pre = Str.ofString "" := by rw [dropB_nil]; unfold dropB; rw [h3, h4]; rfl
  have h6 : dropB (pre ++ [((32 : Nat) : Int)]) = Str.ofString "" := by
    rw [dropB_nil]; unfold dropB
    rw [List.map_append, h3, show List.map Int.toNat [((32 : Nat) : Int)] = [32] from rfl, ← List.replicate_succ', h4]; rfl
  refine ⟨by rw [hD, h5], ?_, by rw [hD, h5, h6]⟩
  rw [List.length_append]; (clear h3 h hxl he h6 h1 h4 hl hlen h5 hD; omega)
theorem solid_bad {out : Str} (h : out = Str.ofString "") (h2 : (out != Str.ofString "") = true) : False := by
  subst h; simp at h2
theorem solid_end {x out : Str} {k : Nat} {l : List Nat} (hD : out = dropB (KStt.codes x)) (hxl : cs x = List.replicate k 32 ++ l) (hl : ∀ c ∈ l, c ≠ 32) : out = S l := by
  rw [hD]; unfold dropB
  rw [codes_map, hxl]
  congr 1
  clear hxl hD
  induction k with
  | zero =>
    cases l with
    | nil => rfl
    | cons c l => exact List.dropWhile_cons_of_neg (by simpa using hl c (by simp))
  | succ k ih => rw [List.replicate_succ, List.cons_append, List.dropWhile_cons_of_pos (by decide)]; exact ih
theorem find_dig {n : Nat} (h : 48 ≤ n ∧ n ≤ 57) : Txt.find (Str.ofString "0123456789") { cps := #[n] } = (n : Int) - 48 := by
  have h2 : ∀ m, m < 10 → Txt.find (Str.ofString "0123456789") { cps := #[48 + m] } = ((48 + m : Nat) : Int) - 48 := by decide +kernel
  obtain ⟨m, rfl⟩ := Nat.exists_eq_add_of_le h.1
  exact h2 m (Nat.lt_of_add_lt_add_left (n := 48) (Nat.lt_succ_of_le h.2))
theorem dig_at {x : Str} {pre post : List Int} {n : Nat} (he : KStt.codes x = pre ++ (n : Int) :: post) (hd : Dig (cs x)) : 48 ≤ n ∧ n ≤ 57 := by
  have h1 := codes_split he
  exact hd n (by rw [h1]; simp)
theorem whole_turn {x : Str} {pre post : List Int} {n : Nat} {k : Int} (he : KStt.codes x = pre ++ (n : Int) :: post) (hd : Dig (cs x)) (h0 : 0 ≤ k) (hv : k = valI pre) :
    0 ≤ k * 10 + Txt.find (Str.ofString "0123456789") { cps := #[n] } ∧ k * 10 + Txt.find (Str.ofString "0123456789") { cps := #[n] } = valI (pre ++ [(n : Int)]) := by
  have h1 := dig_at he hd
  rw [find_dig h1]
  unfold valI at hv ⊢
  rw [List.map_append, show List.map Int.toNat [(n : Int)] = [n] from rfl, valL_snoc]
  (clear he h0 hd; omega)
theorem whole_start : (0 : Int) ≤ 0 ∧ (0 : Int) = valI [] := ⟨by decide, rfl⟩
theorem whole_bad {x : Str} {pre post : List Int} {n : Nat} (he : KStt.codes x = pre ++ (n : Int) :: post) (hd : Dig (cs x)) (h : Txt.find (Str.ofString "0123456789") { cps := #[n] } < 0) : False := by
  have h1 := dig_at he hd
  rw [find_dig h1] at h; (clear he hd; omega)
theorem empty_bad {x : Str} (hne : cs x ≠ []) (h : (x == Str.ofString "") = true) : False := by
  rw [eq_of_beq h, lit_e] at hne; exact hne rfl
noncomputable def cutG (l : List Nat) : Int := if l.take 1 = [45] then -1 else 1
noncomputable def cutR (l : List Nat) : List Nat := if l.take 1 = [45] ∨ l.take 1 = [43] then l.drop 1 else l
theorem cutR_le (l : List Nat) : (cutR l).length ≤ l.length := by unfold cutR; split <;> simp
theorem slice1_eq {x y : Str} {c : Nat} (hy : cs y = [c]) : (Txt.slice x none (some 1) == y) = decide ((cs x).take 1 = [c]) := by
  rw [beq_cs, cs_slice_1, hy]
  exact Bool.eq_iff_iff.mpr (by simp)
theorem minus_is {x : Str} (h : (Txt.slice x none (some 1) == Str.ofString "-") = true) : (cs x).take 1 = [45] := by
  rw [slice1_eq lit_minus] at h; exact of_decide_eq_true h
theorem minus_not {x : Str} (h : (Txt.slice x none (some 1) == Str.ofString "-") = false) : ¬ (cs x).take 1 = [45] := by
  rw [slice1_eq lit_minus] at h; exact of_decide_eq_false h
theorem plus_is {x : Str} (h : (Txt.slice x none (some 1) == Str.ofString "+") = true) : (cs x).take 1 = [43] := by
  rw [slice1_eq lit_plus] at h; exact of_decide_eq_true h
theorem plus_not {x : Str} (h : (Txt.slice x none (some 1) == Str.ofString "+") = false) : ¬ (cs x).take 1 = [43] := by
  rw [slice1_eq lit_plus] at h; exact of_decide_eq_false h
theorem drop_1 (x : Str) : Txt.slice x (some 1) none = S ((cs x).drop 1) := eq_S (cs_slice_from (by decide))
set_option maxRecDepth 100000 in
set_option maxHeartbeats 8000000 in
theorem c_solid_field {w : World} {mg mb p loose mean news} {x : Str} {t : Tok} {b : Bool} {k : Nat} {l : List Nat} (hx : x.length ≤ 200) (hxl : cs x = List.replicate k 32 ++ l) (hl : ∀ c ∈ l, c ≠ 32) :
    Ct w mg mb p loose mean 1 128 [.str x t, .bool b] news (RetP news fun t => .str (S l) t) := by
  dsimp only [Ct, RetP, RetT, RetF]
  k_fill
  intro dp un gd cn cz a ccd cl outer A₀ base h₀ L m s Q E B F X N T hk hd hu hret
  refine wpAny_call ?_
  k_dflt (refine' code_def (binds := [(Str.ofString "field", .str x t), (Str.ofString "is_zero", .bool b)]) ?k1 ?k2 ?k3 ?k4 ?k5 ?kA ?kF ?kK ?k6 ?k7 ?k8 ?k9 ?kB ?_ ?c2 ?c3 ?c4 ?c5; (case kA => exact rfl); (case kF => exact rfl); (case kK => assumption); (case k1 => k_asm); (case k2 => k_asm); (case k3 => k_asm); (case k4 => k_asm); (case k5 => k_asm); (case k6 => k_is); (case k7 => k_is); (case k8 => ktr_room); (case k9 => exact BindsTo.of_eq rfl); (case c5 => decide); (case kB => exact locs rfl); (case c2 => exact rfl); (case c3 => exact rfl); (case c4 => exact rfl); k_whole; intro g' L' h' FG' F' N' B' X' T'; (try dsimp only); (try k_lift B'); (try k_fold))
  (k_with "state" => first | exact solid_start | exact solid_no (by assumption) (by assumption) (by assumption) | exact (solid_sp kEq hxl hl (by assumption) (by assumption) (by assumption)).2 | exact (solid_bad (solid_sp kEq hxl hl (by assumption) (by assumption) (by assumption)).1 (by assumption)).elim)
  (k_with "pyIter str" => k_state (fun pre (out : Str) => out.length ≤ pre.length ∧ out = dropB pre) "out")
  k_steps
  all_goals (refine cb_retS hret ?_ (by k_asm) (by k_asm); exact solid_end (by assumption) hxl hl)

theorem lnC6_3 : True := by
  k_with "call ref" => (k_here; (with_reducible show wpAny _ _ (PySem.call (Value.ref 128) _) _ _ _); (rename News _ _ _ _ => cN9); k_dflt (refine' c_solid_field (by first | with_reducible assumption | size_fits) (by first | assumption | (fail "hxl")) (by first | assumption | (fail "hl")) _ _ _ _ _ _ _ _ _ _ _ _ _ _ _ _ _ (by k_asm) (by k_asm) (by k_asm) cN9 (by k_asm) (by first | exact rfl | assumption) (by first | exact room9 (by assumption) (by rfl) | ktr_room) (by first | exact units9 (by assumption) (by rfl) | ktr_units) ?_); (try dsimp only [RetP, RetT, RetF]); intro t9 h9 tk9 F9 N9; (try dsimp only); (try k_fold))
  trivial
set_option maxRecDepth 100000 in
set_option maxHeartbeats 8000000 in
theorem c_whole_of {w : World} {mg mb p loose mean news} {x : Str} {t : Tok} (hx : x.length ≤ 200) (hd9 : Dig (cs x)) (hne : cs x ≠ []) :
    Ct w mg mb p loose mean 1 135 [.str x t] news (RetP news fun t => .int (valL (cs x) : Int) t) := by
  dsimp only [Ct, RetP, RetT, RetF]
  k_fill
  intro dp un gd cn cz a ccd cl outer A₀ base h₀ L m s Q E B F X N T hk hd hu hret
  refine wpAny_call ?_
  k_dflt (refine' code_def (binds := [(Str.ofString "figures", .str x t)]) ?k1 ?k2 ?k3 ?k4 ?k5 ?kA ?kF ?kK ?k6 ?k7 ?k8 ?k9 ?kB ?_ ?c2 ?c3 ?c4 ?c5; (case kA => exact rfl); (case kF => exact rfl); (case kK => assumption); (case k1 => k_asm); (case k2 => k_asm); (case k3 => k_asm); (case k4 => k_asm); (case k5 => k_asm); (case k6 => k_is); (case k7 => k_is); (case k8 => ktr_room); (case k9 => exact BindsTo.of_eq rfl); (case c5 => decide); (case kB => exact locs rfl); (case c2 => exact rfl); (case c3 => exact rfl); (case c4 => exact rfl); k_whole; intro g' L' h' FG' F' N' B' X' T'; (try dsimp only); (try k_lift B'); (try k_fold))
  (k_with "state" => first | exact whole_start | exact whole_turn kEq hd9 (by assumption) (by assumption))
  (k_with "pyIter str" => k_state (fun pre (k : Int) => 0 ≤ k ∧ k = valI pre) "number")
  k_steps
  · exact (whole_bad kEq hd9 (by assumption)).elim
  · exact (empty_bad hne (by assumption)).elim
  · refine cb_retI hret ?_ (by k_asm) (by k_asm)
    (rename _ = valI (KStt.codes _) => hv9)
    rw [hv9]; unfold valI; rw [codes_map]

set_option maxRecDepth 100000 in
set_option maxHeartbeats 8000000 in
theorem c_cut_sign {w : World} {mg mb p loose mean news} {x : Str} {t : Tok} (hx : x.length ≤ 200) :
    Ct w mg mb p loose mean 1 142 [.str x t] news (RetT news fun t1 t2 _ => #[.int (cutG (cs x)) t1, .str (S (cutR (cs x))) t2]) := by
  dsimp only [Ct, RetP, RetT, RetF]
  k_fill
  intro dp un gd cn cz a ccd cl outer A₀ base h₀ L m s Q E B F X N T hk hd hu hret
  refine wpAny_call ?_
  k_dflt (refine' code_def (binds := [(Str.ofString "text", .str x t)]) ?k1 ?k2 ?k3 ?k4 ?k5 ?kA ?kF ?kK ?k6 ?k7 ?k8 ?k9 ?kB ?_ ?c2 ?c3 ?c4 ?c5; (case kA => exact rfl); (case kF => exact rfl); (case kK => assumption); (case k1 => k_asm); (case k2 => k_asm); (case k3 => k_asm); (case k4 => k_asm); (case k5 => k_asm); (case k6 => k_is); (case k7 => k_is); (case k8 => ktr_room); (case k9 => exact BindsTo.of_eq rfl); (case c5 => decide); (case kB => exact locs rfl); (case c2 => exact rfl); (case c3 => exact rfl); (case c4 => exact rfl); k_whole; intro g' L' h' FG' F' N' B' X' T'; (try dsimp only); (try k_lift B'); (try k_fold))
  k_steps
  all_goals (rename News _ _ _ _ => hN')
  · have h9 := minus_is (by assumption)
    rw [drop_1] at hN'
    have hG : cutG (cs x) = -1 := if_pos h9
    have hR : cutR (cs x) = (cs x).drop 1 := if_pos (.inl h9)
    rw [hG, hR] at hret
    exact hret _ _ _ 0 _ _ (by k_asm) hN' (by assumption)
  · have h8 := minus_not (by assumption)
    have h9 := plus_is (by assumption)
    rw [drop_1] at hN'
    have hG : cutG (cs x) = 1 := if_neg h8
    have hR : cutR (cs x) = (cs x).drop 1 := if_pos (.inr h9)
    rw [hG, hR] at hret
    exact hret _ _ _ 0 _ _ (by k_asm) hN' (by assumption)
  · have h8 := minus_not (by assumption)
    have h9 := plus_not (by assumption)
    have hG : cutG (cs x) = 1 := if_neg h8
    have hR : cutR (cs x) = cs x := if_neg (fun h => h.elim h8 h9)
    rw [hG, hR, S_cs] at hret
    exact hret _ _ _ 0 _ _ (by k_asm) hN' (by assumption)

end
section
theorem lnC7_1 : True := by
  k_with_none
  k_with "omega" => ((try clear hret); (try clear hk); (try clear hd); (try clear hu); first | lia | omega +splitDisjunctions)
  trivial
theorem lnC7_2 : True := by
  k_with "execs cons" => ((with_reducible refine wpAny_execs_cons ?_); try dsimp only)
  k_with "execs nil" => refine wpAny_execs_nil ?_
  trivial

theorem lnC7_3 : True := by
  k_with "InvEndN" => ((rename News _ _ _ _ => nE'); (try simp only [List.push_toArray] at nE'); (refine kst_end () (by assumption) nE' (by first | kst_in | kst_inAny) (by first | (intro p hp; kst_mem) | kst_anyIn) (by rfl) True.intro (List.forall_mem_nil _) (by kst_same) (by ksr_p)))
  trivial
def NotExp (c : Nat) : Prop := c ≠ 69 ∧ c ≠ 68 ∧ c ≠ 43 ∧ c ≠ 45
def IsExp (c : Nat) : Prop := c = 69 ∨ c = 68 ∨ c = 43 ∨ c = 45
theorem item_at {x : Str} {i : Int} {j : Nat} {p q : List Nat} {c : Nat} (hx : cs x = p ++ c :: q) (hi : i = 0 + (j : Int)) (hj : j = p.length) : Txt.item x i = S [c] :=
  eq_S (cs_item (by (clear hx hj; omega)) (by rw [hx, show i.toNat = p.length by (clear hx; omega), List.getElem?_append_right (Nat.le_refl _)]; simp))
theorem item_get {x : Str} {i : Int} {j : Nat} (hi : i = 0 + (j : Int)) (hj : j < ((x.length : Int) - 0).toNat) : ∃ c, (cs x)[j]? = some c ∧ Txt.item x i = S [c] := by
  have hlt : j < (cs x).length := by rw [← len_cs]; (clear hi; omega)
  exact ⟨(cs x)[j], List.getElem?_eq_getElem hlt, eq_S (cs_item (by (clear hj hlt; omega)) (by rw [show i.toNat = j by (clear hj hlt; omega)]; exact List.getElem?_eq_getElem hlt))⟩
theorem one_eq {c d : Nat} {y : Str} (hy : cs y = [d]) : (S [c] == y) = decide (c = d) := by
  rw [beq_cs, cs_S, hy]; exact Bool.eq_iff_iff.mpr (by simp)
theorem exp_true {x : Str} {i : Int} {c : Nat} (e : Txt.item x i = S [c]) (h : (Txt.item x i == Str.ofString "E") = true ∨ (Txt.item x i == Str.ofString "D") = true ∨ (Txt.item x i == Str.ofString "+") = true ∨ (Txt.item x i == Str.ofString "-") = true) : IsExp c := by
  rw [e, one_eq lit_E, one_eq lit_D, one_eq lit_plus, one_eq lit_minus] at h
  rcases h with h | h | h | h
  · exact .inl (of_decide_eq_true h)
  · exact .inr (.inl (of_decide_eq_true h))
  · exact .inr (.inr (.inl (of_decide_eq_true h)))
  · exact .inr (.inr (.inr (of_decide_eq_true h)))
theorem exp_false {x : Str} {i : Int} {c : Nat} (e : Txt.item x i = S [c]) (h1 : (Txt.item x i == Str.ofString "E") = false) (h2 : (Txt.item x i == Str.ofString "D") = false) (h3 : (Txt.item x i == Str.ofString "+") = false) (h4 : (Txt.item x i == Str.ofString "-") = false) : ¬ IsExp c := by
  rw [e, one_eq lit_E] at h1
  rw [e, one_eq lit_D] at h2
  rw [e, one_eq lit_plus] at h3
  rw [e, one_eq lit_minus] at h4
  have a1 := of_decide_eq_false h1
  have a2 := of_decide_eq_false h2
  have a3 := of_decide_eq_false h3
  have a4 := of_decide_eq_false h4
  rintro (h | h | h | h) <;> contradiction
theorem notExp_not {c : Nat} (h : NotExp c) : ¬ IsExp c := by
  obtain ⟨h1, h2, h3, h4⟩ := h
  rintro (h | h | h | h) <;> contradiction
/-- at a sign of the exponent the place is pl's end -/
theorem exp_place {x : Str} {i : Int} {j : Nat} {p q : List Nat} {c : Nat} (hx : cs x = p ++ c :: q) (hp : ∀ c ∈ p, NotExp c) (hi : i = 0 + (j : Int)) (hj : j < ((x.length : Int) - 0).toNat) (hle : (j : Int) ≤ (p.length : Int))
    (h : (Txt.item x i == Str.ofString "E") = true ∨ (Txt.item x i == Str.ofString "D") = true ∨ (Txt.item x i == Str.ofString "+") = true ∨ (Txt.item x i == Str.ofString "-") = true) : j = p.length ∧ Txt.item x i = S [c] := by
  obtain ⟨d, hd, he⟩ := item_get hi hj
  have hE := exp_true he h
  by_cases hjl : j = p.length
  · exact ⟨hjl, item_at hx hi hjl⟩
  · exfalso
    rw [hx, List.getElem?_append_left (by (clear hi hj hx hd hp h he hE; omega))] at hd
    exact notExp_not (hp d (List.mem_of_getElem? hd)) hE
theorem exp_next {x : Str} {i : Int} {j : Nat} {p q : List Nat} {c : Nat} (hx : cs x = p ++ c :: q) (hc : IsExp c) (hi : i = 0 + (j : Int)) (hle : (j : Int) ≤ (p.length : Int))
    (h1 : (Txt.item x i == Str.ofString "E") = false) (h2 : (Txt.item x i == Str.ofString "D") = false) (h3 : (Txt.item x i == Str.ofString "+") = false) (h4 : (Txt.item x i == Str.ofString "-") = false) : ((j : Int) + 1) ≤ (p.length : Int) := by
  by_cases hjl : j = p.length
  · exact absurd hc (exp_false (item_at hx hi hjl) h1 h2 h3 h4)
  · (clear h4 h3 hi hx h2 h1 hc; omega)
theorem exp_next' {x : Str} {i v : Int} {pre : List Int} {p q : List Nat} {c : Nat} (hx : cs x = p ++ c :: q) (hc : IsExp c) (hi : i = 0 + (pre.length : Int)) (hle : (pre.length : Int) ≤ (p.length : Int))
    (h1 : (Txt.item x i == Str.ofString "E") = false) (h2 : (Txt.item x i == Str.ofString "D") = false) (h3 : (Txt.item x i == Str.ofString "+") = false) (h4 : (Txt.item x i == Str.ofString "-") = false) : (((pre ++ [v]).length : Nat) : Int) ≤ (p.length : Int) := by
  have := exp_next hx hc hi hle h1 h2 h3 h4
  rw [List.length_append, List.length_singleton]; (clear hx hi hle h4 h3 h1 h2 hc; omega)
theorem cut_left {x : Str} {i : Int} {p q : List Nat} {c : Nat} (hx : cs x = p ++ c :: q) (hi : i = (p.length : Int)) : Txt.slice x none (some i) = S p :=
  eq_S (by rw [cs_slice_to (by (clear hx; omega)) (by rw [hx]; simp; (clear hx; omega)), hx, hi, Int.toNat_natCast, List.take_append_of_le_length (Nat.le_refl _), List.take_length])
theorem cut_from {x : Str} {i : Int} {p q : List Nat} {c : Nat} (hx : cs x = p ++ c :: q) (hi : i = (p.length : Int)) : Txt.slice x (some i) none = S (c :: q) :=
  eq_S (by rw [cs_slice_from (by (clear hx; omega)), hx, hi, Int.toNat_natCast, List.drop_append_of_le_length (Nat.le_refl _), List.drop_length, List.nil_append])
theorem cut_behind {x : Str} {i : Int} {p q : List Nat} {c : Nat} (hx : cs x = p ++ c :: q) (hi : i = (p.length : Int)) : Txt.slice x (some (i + 1)) none = S q :=
  eq_S (by
    rw [cs_slice_from (by (clear hx; omega)), hx, hi, show ((p.length : Int) + 1).toNat = p.length + 1 by (clear hi hx; omega)]
    rw [← List.drop_drop, List.drop_append_of_le_length (Nat.le_refl _), List.drop_length, List.nil_append]; rfl)
noncomputable def tailL (c : Nat) (q : List Nat) : List Nat := if c = 69 ∨ c = 68 then q else c :: q
theorem lit_nil : Str.ofString "" = S [] := eq_S lit_e
set_option maxRecDepth 100000 in
set_option maxHeartbeats 8000000 in
theorem c_cut_exponent_y {w : World} {mg mb p loose mean news} {x : Str} {t : Tok} {pl ql : List Nat} {c9 : Nat} (hx : x.length ≤ 200) (hxl : cs x = pl ++ c9 :: ql) (hp : ∀ c ∈ pl, NotExp c) (hc9 : IsExp c9) :
    Ct w mg mb p loose mean 1 163 [.str x t] news (RetT news fun t1 t2 _ => #[.str (S pl) t1, .str (S (tailL c9 ql)) t2, .bool true]) := by
  dsimp only [Ct, RetP, RetT, RetF]
  k_fill
  intro dp un gd cn cz a ccd cl outer A₀ base h₀ L m s Q E B F X N T hk hd hu hret
  refine wpAny_call ?_
  k_dflt (refine' code_def (binds := [(Str.ofString "text", .str x t)]) ?k1 ?k2 ?k3 ?k4 ?k5 ?kA ?kF ?kK ?k6 ?k7 ?k8 ?k9 ?kB ?_ ?c2 ?c3 ?c4 ?c5; (case kA => exact rfl); (case kF => exact rfl); (case kK => assumption); (case k1 => k_asm); (case k2 => k_asm); (case k3 => k_asm); (case k4 => k_asm); (case k5 => k_asm); (case k6 => k_is); (case k7 => k_is); (case k8 => ktr_room); (case k9 => exact BindsTo.of_eq rfl); (case c5 => decide); (case kB => exact locs rfl); (case c2 => exact rfl); (case c3 => exact rfl); (case c4 => exact rfl); k_whole; intro g' L' h' FG' F' N' B' X' T'; (try dsimp only); (try k_lift B'); (try k_fold))
  (k_with "state" => first | exact Int.ofNat_le.mpr (Nat.zero_le _) | exact exp_next' hxl hc9 kEq kInv (by assumption) (by assumption) (by assumption) (by assumption))
  (k_with "pyIter ref" => k_search (fun pre => (pre.length : Int) ≤ (pl.length : Int)))
  k_steps
  · obtain ⟨h8, h9⟩ := exp_place hxl hp kEq kLt kInv (.inl (by assumption))
    have hi : kN = (pl.length : Int) := by (clear hxl kLt B' hu hp hret hd kOff kInv h9 hx T' T F N B X' hk X FG' hc9 kFacts kMark; omega)
    (rename News _ _ _ _ => hN')
    rw [cut_left hxl hi, cut_behind hxl hi] at hN'
    (rename (Txt.item _ _ == Str.ofString "E") = true => ht')
    rw [h9, one_eq lit_E] at ht'
    have hc := of_decide_eq_true ht'
    have ht : tailL c9 ql = ql := if_pos (.inl hc)
    rw [ht] at hret
    exact hret _ _ _ 0 _ _ (by k_asm) (cb_drop hN' (by kcj_all)) (by first | assumption | (with_reducible rename ∀ p ∈ _, _ => hl9; exact fun p hp => hl9 p (List.mem_append_left _ hp)))
  · obtain ⟨h8, h9⟩ := exp_place hxl hp kEq kLt kInv (.inr (.inl (by assumption)))
    have hi : kN = (pl.length : Int) := by (clear hxl kLt B' hu hp hret hd kOff kInv h9 hx T' T F N B X' hk X FG' hc9 kFacts kMark; omega)
    (rename News _ _ _ _ => hN')
    rw [cut_left hxl hi, cut_behind hxl hi] at hN'
    (rename (Txt.item _ _ == Str.ofString "D") = true => ht')
    rw [h9, one_eq lit_D] at ht'
    have hc := of_decide_eq_true ht'
    have ht : tailL c9 ql = ql := if_pos (.inr hc)
    rw [ht] at hret
    exact hret _ _ _ 0 _ _ (by k_asm) (cb_drop hN' (by kcj_all)) (by first | assumption | (with_reducible rename ∀ p ∈ _, _ => hl9; exact fun p hp => hl9 p (List.mem_append_left _ hp)))
  · obtain ⟨h8, h9⟩ := exp_place hxl hp kEq kLt kInv (.inr (.inr (.inl (by assumption))))
    have hi : kN = (pl.length : Int) := by (clear hxl kLt B' hu hp hret hd kOff kInv h9 hx T' T F N B X' hk X FG' hc9 kFacts kMark; omega)
    (rename News _ _ _ _ => hN')
    rw [cut_left hxl hi, cut_from hxl hi] at hN'
    (rename (Txt.item _ _ == Str.ofString "+") = true => ht')
    rw [h9, one_eq lit_plus] at ht'
    have hc := of_decide_eq_true ht'
    have ht : tailL c9 ql = c9 :: ql := if_neg (by (clear h8 hi hx h9 kOff kInv hd ht' kEq hxl B' kLt hu hp hN' hret T' T F N B X' hk X FG' hc9 kFacts kMark; omega))
    rw [ht] at hret
    exact hret _ _ _ 0 _ _ (by k_asm) (cb_drop hN' (by kcj_all)) (by first | assumption | (with_reducible rename ∀ p ∈ _, _ => hl9; exact fun p hp => hl9 p (List.mem_append_left _ hp)))
  · obtain ⟨h8, h9⟩ := exp_place hxl hp kEq kLt kInv (.inr (.inr (.inr (by assumption))))
    have hi : kN = (pl.length : Int) := by (clear hxl kLt B' hu hp hret hd kOff kInv h9 hx T' T F N B X' hk X FG' hc9 kFacts kMark; omega)
    (rename News _ _ _ _ => hN')
    rw [cut_left hxl hi, cut_from hxl hi] at hN'
    (rename (Txt.item _ _ == Str.ofString "-") = true => ht')
    rw [h9, one_eq lit_minus] at ht'
    have hc := of_decide_eq_true ht'
    have ht : tailL c9 ql = c9 :: ql := if_neg (by (clear h8 hi hx h9 kOff kInv hd ht' kEq hxl B' kLt hu hp hN' hret T' T F N B X' hk X FG' hc9 kFacts kMark; omega))
    rw [ht] at hret
    exact hret _ _ _ 0 _ _ (by k_asm) (cb_drop hN' (by kcj_all)) (by first | assumption | (with_reducible rename ∀ p ∈ _, _ => hl9; exact fun p hp => hl9 p (List.mem_append_left _ hp)))
  · exfalso
    have h8 := len_cs x
    rw [hxl] at h8
    have h9 : (rangeKs 0 ((x.length : Int) - 0).toNat).length = ((x.length : Int) - 0).toNat := by simp [rangeKs]
    rw [h9] at kInv
    simp only [List.length_append, List.length_cons] at h8
    (clear h9 hp hret hu B' hxl hd hx T' T F N B X' hk X FG' hc9 kFacts kMark; omega)

theorem lnC7_4 : True := by
  k_with "call ref" => (k_here; (with_reducible show wpAny _ _ (PySem.call (Value.ref 163) _) _ _ _); (rename News _ _ _ _ => cN9); k_dflt (refine' c_cut_exponent_y (by first | with_reducible assumption | size_fits | (simp only [len_S, cs_S] at *; omega)) (by first | assumption | (simp only [cs_S]; assumption)) (by first | assumption | (simp only [cs_S]; assumption)) (by first | assumption | (simp only [cs_S]; assumption)) _ _ _ _ _ _ _ _ _ _ _ _ _ _ _ _ _ (by k_asm) (by k_asm) (by k_asm) cN9 (by k_asm) (by first | exact rfl | assumption) (by first | exact room9 (by assumption) (by rfl) | ktr_room) (by first | exact units9 (by assumption) (by rfl) | ktr_units) ?_); (try dsimp only [RetP, RetT, RetF]); intro q9 t91 t92 t93 h9 tk9 F9 N9 l9; (try k_lt l9); (try dsimp only); (try k_fold))
  trivial
set_option maxRecDepth 100000 in
set_option maxHeartbeats 8000000 in
theorem c_cut_exponent_n {w : World} {mg mb p loose mean news} {x : Str} {t : Tok} (hx : x.length ≤ 200) (hp : ∀ c ∈ cs x, NotExp c) :
    Ct w mg mb p loose mean 1 163 [.str x t] news (RetT news fun t1 t2 _ => #[.str x t1, .str (S []) t2, .bool false]) := by
  dsimp only [Ct, RetP, RetT, RetF]
  k_fill
  intro dp un gd cn cz a ccd cl outer A₀ base h₀ L m s Q E B F X N T hk hd hu hret
  refine wpAny_call ?_
  k_dflt (refine' code_def (binds := [(Str.ofString "text", .str x t)]) ?k1 ?k2 ?k3 ?k4 ?k5 ?kA ?kF ?kK ?k6 ?k7 ?k8 ?k9 ?kB ?_ ?c2 ?c3 ?c4 ?c5; (case kA => exact rfl); (case kF => exact rfl); (case kK => assumption); (case k1 => k_asm); (case k2 => k_asm); (case k3 => k_asm); (case k4 => k_asm); (case k5 => k_asm); (case k6 => k_is); (case k7 => k_is); (case k8 => ktr_room); (case k9 => exact BindsTo.of_eq rfl); (case c5 => decide); (case kB => exact locs rfl); (case c2 => exact rfl); (case c3 => exact rfl); (case c4 => exact rfl); k_whole; intro g' L' h' FG' F' N' B' X' T'; (try dsimp only); (try k_lift B'); (try k_fold))
  (k_with "pyIter ref" => k_search (fun (_ : List Int) => True))
  k_steps
  · obtain ⟨d, hd, he⟩ := item_get kEq kLt
    exact (notExp_not (hp d (List.mem_of_getElem? hd)) (exp_true he (.inl (by assumption)))).elim
  · obtain ⟨d, hd, he⟩ := item_get kEq kLt
    exact (notExp_not (hp d (List.mem_of_getElem? hd)) (exp_true he (.inr (.inl (by assumption))))).elim
  · obtain ⟨d, hd, he⟩ := item_get kEq kLt
    exact (notExp_not (hp d (List.mem_of_getElem? hd)) (exp_true he (.inr (.inr (.inl (by assumption)))))).elim
  · obtain ⟨d, hd, he⟩ := item_get kEq kLt
    exact (notExp_not (hp d (List.mem_of_getElem? hd)) (exp_true he (.inr (.inr (.inr (by assumption)))))).elim
  · (rename News _ _ _ _ => hN')
    rw [lit_nil] at hN'
    exact hret _ _ _ 0 _ _ (by k_asm) hN' (by assumption)

theorem lnC7_5 : True := by
  k_with "call ref" => (k_here; (with_reducible show wpAny _ _ (PySem.call (Value.ref 163) _) _ _ _); (rename News _ _ _ _ => cN9); k_dflt (refine' c_cut_exponent_n (by first | with_reducible assumption | size_fits | (simp only [len_S, cs_S] at *; omega)) (by first | assumption | (simp only [cs_S]; assumption)) _ _ _ _ _ _ _ _ _ _ _ _ _ _ _ _ _ (by k_asm) (by k_asm) (by k_asm) cN9 (by k_asm) (by first | exact rfl | assumption) (by first | exact room9 (by assumption) (by rfl) | ktr_room) (by first | exact units9 (by assumption) (by rfl) | ktr_units) ?_); (try dsimp only [RetP, RetT, RetF]); intro q9 t91 t92 t93 h9 tk9 F9 N9 l9; (try k_lt l9); (try dsimp only); (try k_fold))
  k_with "call ref" => (k_here; (with_reducible show wpAny _ _ (PySem.call (Value.ref 142) _) _ _ _); (rename News _ _ _ _ => cN9); k_dflt (refine' c_cut_sign (by first | with_reducible assumption | size_fits | (simp only [len_S, cs_S] at *; omega)) _ _ _ _ _ _ _ _ _ _ _ _ _ _ _ _ _ (by k_asm) (by k_asm) (by k_asm) cN9 (by k_asm) (by first | exact rfl | assumption) (by first | exact room9 (by assumption) (by rfl) | ktr_room) (by first | exact units9 (by assumption) (by rfl) | ktr_units) ?_); (try dsimp only [RetP, RetT, RetF]); intro q9 t91 t92 t93 h9 tk9 F9 N9 l9; (try k_lt l9); (try dsimp only); (try k_fold))
  k_with "call ref" => (k_here; (with_reducible show wpAny _ _ (PySem.call (Value.ref 135) _) _ _ _); (rename News _ _ _ _ => cN9); k_dflt (refine' c_whole_of (by first | with_reducible assumption | size_fits | (simp only [len_S, cs_S] at *; omega)) (by first | assumption | (simp only [cs_S]; assumption)) (by first | assumption | (simp only [cs_S]; assumption)) _ _ _ _ _ _ _ _ _ _ _ _ _ _ _ _ _ (by k_asm) (by k_asm) (by k_asm) cN9 (by k_asm) (by first | exact rfl | assumption) (by first | exact room9 (by assumption) (by rfl) | ktr_room) (by first | exact units9 (by assumption) (by rfl) | ktr_units) ?_); (try dsimp only [RetP, RetT, RetF]); intro t9 h9 tk9 F9 N9; (try dsimp only); (try k_fold))
  trivial

theorem cutG_or (l : List Nat) : cutG l = -1 ∨ cutG l = 1 := by unfold cutG; split <;> simp
theorem cutR_len (x : Str) : (S (cutR (cs x))).length ≤ x.length := by rw [len_S, len_cs]; exact cutR_le _
set_option maxRecDepth 100000 in
set_option maxHeartbeats 8000000 in
theorem c_field_exponent {w : World} {mg mb p loose mean news} {x : Str} {t : Tok} (hx : x.length ≤ 200) (hd9 : Dig (cutR (cs x))) (hne : cutR (cs x) ≠ []) (hv : valL (cutR (cs x)) < 1000000) :
    Ct w mg mb p loose mean 2 170 [.str x t] news (RetP news fun t => .int (cutG (cs x) * (valL (cutR (cs x)) : Int)) t) := by
  dsimp only [Ct, RetP, RetT, RetF]
  k_fill
  intro dp un gd cn cz a ccd cl outer A₀ base h₀ L m s Q E B F X N T hk hd hu hret
  refine wpAny_call ?_
  k_dflt (refine' code_def (binds := [(Str.ofString "text", .str x t)]) ?k1 ?k2 ?k3 ?k4 ?k5 ?kA ?kF ?kK ?k6 ?k7 ?k8 ?k9 ?kB ?_ ?c2 ?c3 ?c4 ?c5; (case kA => exact rfl); (case kF => exact rfl); (case kK => assumption); (case k1 => k_asm); (case k2 => k_asm); (case k3 => k_asm); (case k4 => k_asm); (case k5 => k_asm); (case k6 => k_is); (case k7 => k_is); (case k8 => ktr_room); (case k9 => exact BindsTo.of_eq rfl); (case c5 => decide); (case kB => exact locs rfl); (case c2 => exact rfl); (case c3 => exact rfl); (case c4 => exact rfl); k_whole; intro g' L' h' FG' F' N' B' X' T'; (try dsimp only); (try k_lift B'); (try k_fold))
  have hcl := cutR_len x
  have hcG := cutG_or (cs x)
  have hcG1 : (cutG (cs x)).natAbs ≤ 1 := by (clear hret hne F' hu B' hd hv hcl hx T' T F N X' FG' N' B X hk hd9; omega)
  k_steps
  refine cb_retI hret ?_ (by k_asm) (cb_drop (by assumption) (by kcj_all))
  rw [cs_S]

theorem lnC7_6 : True := by
  k_with "call ref" => (k_here; (with_reducible show wpAny _ _ (PySem.call (Value.ref 170) _) _ _ _); (rename News _ _ _ _ => cN9); k_dflt (refine' c_field_exponent (by first | with_reducible assumption | size_fits | (simp only [len_S, cs_S] at *; omega)) (by first | assumption | (simp only [cs_S]; assumption)) (by first | assumption | (simp only [cs_S]; assumption)) (by first | with_reducible assumption | (simp only [cs_S]; with_reducible assumption) | (simp only [cs_S]; omega)) _ _ _ _ _ _ _ _ _ _ _ _ _ _ _ _ _ (by k_asm) (by k_asm) (by k_asm) cN9 (by k_asm) (by first | exact rfl | assumption) (by first | exact room9 (by assumption) (by rfl) | ktr_room) (by first | exact units9 (by assumption) (by rfl) | ktr_units) ?_); (try dsimp only [RetP, RetT, RetF]); intro t9 h9 tk9 F9 N9; (try dsimp only); (try k_fold))
  trivial
set_option maxRecDepth 100000 in
set_option maxHeartbeats 8000000 in
theorem c_in_width {w : World} {mg mb p loose mean news} {n : Int} {t u : Tok} (h0 : -2147483648 ≤ n) (h1 : n < 2147483648) :
    Ct w mg mb p loose mean 2 149 [.int n t, .int 32 u] news (RetP news fun t => .bool true) := by
  dsimp only [Ct, RetP, RetT, RetF]
  k_fill
  intro dp un gd cn cz a ccd cl outer A₀ base h₀ L m s Q E B F X N T hk hd hu hret
  refine wpAny_call ?_
  k_dflt (refine' code_def (binds := [(Str.ofString "number", .int n t), (Str.ofString "width", .int 32 u)]) ?k1 ?k2 ?k3 ?k4 ?k5 ?kA ?kF ?kK ?k6 ?k7 ?k8 ?k9 ?kB ?_ ?c2 ?c3 ?c4 ?c5; (case kA => exact rfl); (case kF => exact rfl); (case kK => assumption); (case k1 => k_asm); (case k2 => k_asm); (case k3 => k_asm); (case k4 => k_asm); (case k5 => k_asm); (case k6 => k_is); (case k7 => k_is); (case k8 => ktr_room); (case k9 => exact BindsTo.of_eq rfl); (case c5 => decide); (case kB => exact locs rfl); (case c2 => exact rfl); (case c3 => exact rfl); (case c4 => exact rfl); k_whole; intro g' L' h' FG' F' N' B' X' T'; (try dsimp only); (try k_lift B'); (try k_fold))
  have e9 : (1 : Int) * 2 ^ (32 - 1 : Int).toNat = 2147483648 := by decide
  k_steps
  all_goals (refine cb_retB hret ?_ (by k_asm) (by k_asm))
  all_goals (exact decide_eq_true (by rw [e9]; (clear h0 hd B' hu hret e9 T' T F N X' FG' B hk X; omega)))

theorem lnC7_7 : True := by
  k_with "call ref" => (k_here; (with_reducible show wpAny _ _ (PySem.call (Value.ref 149) _) _ _ _); (rename News _ _ _ _ => cN9); k_dflt (refine' c_in_width (by first | with_reducible assumption | omega | (split <;> omega)) (by first | with_reducible assumption | omega | (split <;> omega)) _ _ _ _ _ _ _ _ _ _ _ _ _ _ _ _ _ (by k_asm) (by k_asm) (by k_asm) cN9 (by k_asm) (by first | exact rfl | assumption) (by first | exact room9 (by assumption) (by rfl) | ktr_room) (by first | exact units9 (by assumption) (by rfl) | ktr_units) ?_); (try dsimp only [RetP, RetT, RetF]); intro t9 h9 tk9 F9 N9; (try dsimp only); (try k_fold))
  trivial

end
section
theorem lnC8_1 : True := by
  k_with_none
  k_with "omega" => ((try clear hret); (try clear hk); (try clear hd); (try clear hu); first | lia | omega +splitDisjunctions)
  trivial
theorem lnC8_2 : True := by
  k_with "execs cons" => ((with_reducible refine wpAny_execs_cons ?_); try dsimp only)
  k_with "execs nil" => refine wpAny_execs_nil ?_
  k_with "call ref" => (k_here; (with_reducible show wpAny _ _ (PySem.call (Value.ref 212) _) _ _ _); (rename News _ _ _ _ => cN9); k_dflt (refine' c_whole_figures (by first | with_reducible assumption | omega | (split <;> omega)) (by first | with_reducible assumption | omega | (split <;> omega)) _ _ _ _ _ _ _ _ _ _ _ _ _ _ _ _ _ (by k_asm) (by k_asm) (by k_asm) cN9 (by k_asm) (by first | exact rfl | assumption) (by first | exact room9 (by assumption) (by rfl) | ktr_room) (by first | exact units9 (by assumption) (by rfl) | ktr_units) ?_); (try dsimp only [RetP, RetT, RetF]); intro hf9 t9 h9 tk9 F9 N9; (try dsimp only); (try k_fold))
  k_with "call ref" => (k_here; (with_reducible show wpAny _ _ (PySem.call (Value.ref 233) _) _ _ _); (rename News _ _ _ _ => cN9); k_dflt (refine' c_scaled (by first | with_reducible assumption | omega | (split <;> omega)) (by first | with_reducible assumption | omega | (split <;> omega)) (by omega) (by omega) _ _ _ _ _ _ _ _ _ _ _ _ _ _ _ _ _ (by k_asm) (by k_asm) (by k_asm) cN9 (by k_asm) (by first | exact rfl | assumption) (by first | exact room9 (by assumption) (by rfl) | ktr_room) (by first | exact units9 (by assumption) (by rfl) | ktr_units) ?_); (try dsimp only [RetP, RetT, RetF]); intro hf9 t9 h9 tk9 F9 N9; (try dsimp only); (try k_fold))
  k_with "call ref" => (k_here; (with_reducible show wpAny _ _ (PySem.call (Value.ref 92) _) _ _ _); (rename News _ _ _ _ => cN9); k_dflt (refine' c_count_digits (by first | with_reducible assumption | omega | (split <;> omega)) _ _ _ _ _ _ _ _ _ _ _ _ _ _ _ _ _ (by k_asm) (by k_asm) (by k_asm) cN9 (by k_asm) (by first | exact rfl | assumption) (by first | exact room9 (by assumption) (by rfl) | ktr_room) (by first | exact units9 (by assumption) (by rfl) | ktr_units) ?_); (try dsimp only [RetP, RetT, RetF]); intro t9 h9 tk9 F9 N9; (try dsimp only); (try k_fold))
  k_with "call ref" => (k_here; (with_reducible show wpAny _ _ (PySem.call (Value.ref 240) _) _ _ _); (rename News _ _ _ _ => cN9); k_dflt (refine' c_figures_of (by first | with_reducible assumption | omega | (split <;> omega)) (by first | with_reducible assumption | omega | (split <;> omega)) (by first | with_reducible assumption | omega | (split <;> omega)) (by first | with_reducible assumption | omega | (split <;> omega)) _ _ _ _ _ _ _ _ _ _ _ _ _ _ _ _ _ (by k_asm) (by k_asm) (by k_asm) cN9 (by k_asm) (by first | exact rfl | assumption) (by first | exact room9 (by assumption) (by rfl) | ktr_room) (by first | exact units9 (by assumption) (by rfl) | ktr_units) ?_); (try dsimp only [RetP, RetT, RetF]); intro hf9 t9 h9 tk9 F9 N9; (try dsimp only); (try k_fold))
  k_with "call ref" => (k_here; (with_reducible show wpAny _ _ (PySem.call (Value.ref 120) _) _ _ _); (rename News _ _ _ _ => cN9); k_dflt (refine' c_digits_of (by first | with_reducible assumption | omega) (by with_reducible assumption) _ _ _ _ _ _ _ _ _ _ _ _ _ _ _ _ _ (by k_asm) (by k_asm) (by k_asm) cN9 (by k_asm) (by first | exact rfl | assumption) (by first | exact room9 (by assumption) (by rfl) | ktr_room) (by first | exact units9 (by assumption) (by rfl) | ktr_units) ?_); (try dsimp only [RetP, RetT, RetF]); intro t9 h9 tk9 F9 N9; (try dsimp only); (try k_fold))
  k_with "call ref" => (k_here; (with_reducible show wpAny _ _ (PySem.call (Value.ref 106) _) _ _ _); (rename News _ _ _ _ => cN9); k_dflt (refine' c_round_digits (by first | with_reducible assumption | omega | (split <;> omega)) (by first | with_reducible assumption | omega | (split <;> omega)) (by first | with_reducible assumption | omega | (split <;> omega)) (by first | with_reducible assumption | omega | (split <;> omega)) _ _ _ _ _ _ _ _ _ _ _ _ _ _ _ _ _ (by k_asm) (by k_asm) (by k_asm) cN9 (by k_asm) (by first | exact rfl | assumption) (by first | exact room9 (by assumption) (by rfl) | ktr_room) (by first | exact units9 (by assumption) (by rfl) | ktr_units) ?_); (try dsimp only [RetP, RetT, RetF]); (refine ⟨fun hz9 h9 tk9 F9 N9 => ?_, fun hz9 q9 t91 t92 h9 tk9 F9 N9 l9 => ?_⟩) <;> ((try dsimp only); (try k_fold)))
  k_with "call ref" => (k_here; (with_reducible show wpAny _ _ (PySem.call (Value.ref 113) _) _ _ _); (rename News _ _ _ _ => cN9); k_dflt (refine' c_round_real (by first | with_reducible assumption | omega | (split <;> omega)) (by first | with_reducible assumption | omega | (split <;> omega)) (by first | with_reducible assumption | omega | (split <;> omega)) (by first | with_reducible assumption | omega | (split <;> omega)) (by first | with_reducible assumption | omega | (split <;> omega)) (by first | with_reducible assumption | omega | (split <;> omega)) _ _ _ _ _ _ _ _ _ _ _ _ _ _ _ _ _ (by k_asm) (by k_asm) (by k_asm) cN9 (by k_asm) (by first | exact rfl | assumption) (by first | exact room9 (by assumption) (by rfl) | ktr_room) (by first | exact units9 (by assumption) (by rfl) | ktr_units) ?_); (try dsimp only [RetP, RetT, RetF]); (refine ⟨fun hz9 h9 tk9 F9 N9 => ?_, fun hz9 q9 t91 t92 h9 tk9 F9 N9 l9 => ?_⟩) <;> ((try dsimp only); (try k_fold)))
  k_with "call ref" => (k_here; (with_reducible show wpAny _ _ (PySem.call (Value.ref 128) _) _ _ _); (rename News _ _ _ _ => cN9); k_dflt (refine' c_solid_field (by first | with_reducible assumption | size_fits) (by first | assumption | (fail "hxl")) (by first | assumption | (fail "hl")) _ _ _ _ _ _ _ _ _ _ _ _ _ _ _ _ _ (by k_asm) (by k_asm) (by k_asm) cN9 (by k_asm) (by first | exact rfl | assumption) (by first | exact room9 (by assumption) (by rfl) | ktr_room) (by first | exact units9 (by assumption) (by rfl) | ktr_units) ?_); (try dsimp only [RetP, RetT, RetF]); intro t9 h9 tk9 F9 N9; (try dsimp only); (try k_fold))
  k_with "call ref" => (k_here; (with_reducible show wpAny _ _ (PySem.call (Value.ref 163) _) _ _ _); (rename News _ _ _ _ => cN9); k_dflt (refine' c_cut_exponent_y (by first | with_reducible assumption | size_fits | (simp only [len_S, cs_S] at *; omega)) (by first | assumption | (simp only [cs_S]; assumption)) (by first | assumption | (simp only [cs_S]; assumption)) (by first | assumption | (simp only [cs_S]; assumption)) _ _ _ _ _ _ _ _ _ _ _ _ _ _ _ _ _ (by k_asm) (by k_asm) (by k_asm) cN9 (by k_asm) (by first | exact rfl | assumption) (by first | exact room9 (by assumption) (by rfl) | ktr_room) (by first | exact units9 (by assumption) (by rfl) | ktr_units) ?_); (try dsimp only [RetP, RetT, RetF]); intro q9 t91 t92 t93 h9 tk9 F9 N9 l9; (try k_lt l9); (try dsimp only); (try k_fold))
  k_with "call ref" => (k_here; (with_reducible show wpAny _ _ (PySem.call (Value.ref 163) _) _ _ _); (rename News _ _ _ _ => cN9); k_dflt (refine' c_cut_exponent_n (by first | with_reducible assumption | size_fits | (simp only [len_S, cs_S] at *; omega)) (by first | assumption | (simp only [cs_S]; assumption)) _ _ _ _ _ _ _ _ _ _ _ _ _ _ _ _ _ (by k_asm) (by k_asm) (by k_asm) cN9 (by k_asm) (by first | exact rfl | assumption) (by first | exact room9 (by assumption) (by rfl) | ktr_room) (by first | exact units9 (by assumption) (by rfl) | ktr_units) ?_); (try dsimp only [RetP, RetT, RetF]); intro q9 t91 t92 t93 h9 tk9 F9 N9 l9; (try k_lt l9); (try dsimp only); (try k_fold))
  k_with "call ref" => (k_here; (with_reducible show wpAny _ _ (PySem.call (Value.ref 142) _) _ _ _); (rename News _ _ _ _ => cN9); k_dflt (refine' c_cut_sign (by first | with_reducible assumption | size_fits | (simp only [len_S, cs_S] at *; omega)) _ _ _ _ _ _ _ _ _ _ _ _ _ _ _ _ _ (by k_asm) (by k_asm) (by k_asm) cN9 (by k_asm) (by first | exact rfl | assumption) (by first | exact room9 (by assumption) (by rfl) | ktr_room) (by first | exact units9 (by assumption) (by rfl) | ktr_units) ?_); (try dsimp only [RetP, RetT, RetF]); intro q9 t91 t92 t93 h9 tk9 F9 N9 l9; (try k_lt l9); (try dsimp only); (try k_fold))
  k_with "call ref" => (k_here; (with_reducible show wpAny _ _ (PySem.call (Value.ref 135) _) _ _ _); (rename News _ _ _ _ => cN9); k_dflt (refine' c_whole_of (by first | with_reducible assumption | size_fits | (simp only [len_S, cs_S] at *; omega)) (by first | assumption | (simp only [cs_S]; assumption)) (by first | assumption | (simp only [cs_S]; assumption)) _ _ _ _ _ _ _ _ _ _ _ _ _ _ _ _ _ (by k_asm) (by k_asm) (by k_asm) cN9 (by k_asm) (by first | exact rfl | assumption) (by first | exact room9 (by assumption) (by rfl) | ktr_room) (by first | exact units9 (by assumption) (by rfl) | ktr_units) ?_); (try dsimp only [RetP, RetT, RetF]); intro t9 h9 tk9 F9 N9; (try dsimp only); (try k_fold))
  k_with "call ref" => (k_here; (with_reducible show wpAny _ _ (PySem.call (Value.ref 170) _) _ _ _); (rename News _ _ _ _ => cN9); k_dflt (refine' c_field_exponent (by first | with_reducible assumption | size_fits | (simp only [len_S, cs_S] at *; omega)) (by first | assumption | (simp only [cs_S]; assumption)) (by first | assumption | (simp only [cs_S]; assumption)) (by first | with_reducible assumption | (simp only [cs_S]; with_reducible assumption) | (simp only [cs_S]; omega)) _ _ _ _ _ _ _ _ _ _ _ _ _ _ _ _ _ (by k_asm) (by k_asm) (by k_asm) cN9 (by k_asm) (by first | exact rfl | assumption) (by first | exact room9 (by assumption) (by rfl) | ktr_room) (by first | exact units9 (by assumption) (by rfl) | ktr_units) ?_); (try dsimp only [RetP, RetT, RetF]); intro t9 h9 tk9 F9 N9; (try dsimp only); (try k_fold))
  k_with "call ref" => (k_here; (with_reducible show wpAny _ _ (PySem.call (Value.ref 149) _) _ _ _); (rename News _ _ _ _ => cN9); k_dflt (refine' c_in_width (by first | with_reducible assumption | omega | (split <;> omega)) (by first | with_reducible assumption | omega | (split <;> omega)) _ _ _ _ _ _ _ _ _ _ _ _ _ _ _ _ _ (by k_asm) (by k_asm) (by k_asm) cN9 (by k_asm) (by first | exact rfl | assumption) (by first | exact room9 (by assumption) (by rfl) | ktr_room) (by first | exact units9 (by assumption) (by rfl) | ktr_units) ?_); (try dsimp only [RetP, RetT, RetF]); intro t9 h9 tk9 F9 N9; (try dsimp only); (try k_fold))
  k_with "call ref" => (k_here; (with_reducible show wpAny _ _ (PySem.call (Value.ref 120) _) _ _ _); (rename News _ _ _ _ => cN9); k_dflt (refine' c_digits_of (by first | with_reducible assumption | omega) (by with_reducible assumption) _ _ _ _ _ _ _ _ _ _ _ _ _ _ _ _ _ (by k_asm) (by k_asm) (by k_asm) cN9 (by k_asm) (by first | exact rfl | assumption) (by first | exact room9 (by assumption) (by rfl) | ktr_room) (by first | exact units9 (by assumption) (by rfl) | ktr_units) ?_); (try dsimp only [RetP, RetT, RetF]); intro t9 h9 tk9 F9 N9; (try dsimp only); (try k_fold))
  trivial

theorem find_pt {x : Str} {al bl : List Nat} (hx : cs x = al ++ 46 :: bl) (ha : ∀ c ∈ al, c ≠ 46) : Txt.find x (Str.ofString ".") = (al.length : Int) := by
  have hp : Str.ofString "." = (⟨#[46]⟩ : Str) := eq_S lit_pt
  rw [hp]
  have at_ : ∀ i, StrLaws.At x ⟨#[46]⟩ x.length i ↔ (cs x)[i]? = some 46 := fun i => StrLaws.subAt_one x 46 i
  have hal : (cs x)[al.length]? = some 46 := by rw [hx, List.getElem?_append_right (Nat.le_refl _)]; simp
  rcases find_whole x ⟨#[46]⟩ with ⟨_, h⟩ | ⟨i, h1, h2, h3⟩
  · exact absurd ((at_ _).mpr hal) (h _)
  · rw [h1]
    congr 1
    have h4 := (at_ i).mp h2
    rcases Nat.lt_trichotomy i al.length with h | h | h
    · rw [hx, List.getElem?_append_left h] at h4
      exact absurd rfl (ha 46 (List.mem_of_getElem? h4))
    · exact h
    · exact absurd ((at_ _).mpr hal) (h3 _ h)
theorem nonempty_bad {l : List Nat} (h : l ≠ []) (h2 : (S l == Str.ofString "") = true) : False := by
  have := eq_of_beq h2
  rw [lit_nil, S_inj] at this
  exact h this
theorem empty_no (h : (S [] == Str.ofString "") = false) : False := by
  rw [lit_nil] at h; simp at h
theorem len_S_le {l : List Nat} {x : Str} {k : Nat} (hx : x.length ≤ 200) (h : cs x = List.replicate k 32 ++ l) : (S l).length ≤ 200 := by
  rw [len_cs, h] at hx
  rw [len_S]; simp at hx; (clear h; omega)
theorem fig_join {x : Str} {al bl : List Nat} (hx : cs x = al ++ 46 :: bl) {i : Int} (hi : i = (al.length : Int)) : Txt.slice x none (some i) ++ Txt.slice x (some (i + 1)) none = S (al ++ bl) := by
  rw [cut_left hx hi, cut_behind hx hi, S_append]
set_option maxRecDepth 100000 in
set_option maxHeartbeats 8000000 in
theorem c_read_int_0 {w : World} {mg mb p loose mean news} {x : Str} {t u : Tok} {b : Bool} {kk : Nat} (hx : x.length ≤ 200) (hxl : cs x = List.replicate kk 32 ++ []) :
    Ct w mg mb p loose mean 3 156 [.str x t, .bool b, .int 32 u] news (RetP news fun t => .int 0 t) := by
  dsimp only [Ct, RetP, RetT, RetF]
  k_fill
  intro dp un gd cn cz a ccd cl outer A₀ base h₀ L m s Q E B F X N T hk hd hu hret
  refine wpAny_call ?_
  k_dflt (refine' code_def (binds := [(Str.ofString "field", .str x t), (Str.ofString "is_zero", .bool b), (Str.ofString "width", .int 32 u)]) ?k1 ?k2 ?k3 ?k4 ?k5 ?kA ?kF ?kK ?k6 ?k7 ?k8 ?k9 ?kB ?_ ?c2 ?c3 ?c4 ?c5; (case kA => exact rfl); (case kF => exact rfl); (case kK => assumption); (case k1 => k_asm); (case k2 => k_asm); (case k3 => k_asm); (case k4 => k_asm); (case k5 => k_asm); (case k6 => k_is); (case k7 => k_is); (case k8 => ktr_room); (case k9 => exact BindsTo.of_eq rfl); (case c5 => decide); (case kB => exact locs rfl); (case c2 => exact rfl); (case c3 => exact rfl); (case c4 => exact rfl); k_whole; intro g' L' h' FG' F' N' B' X' T'; (try dsimp only); (try k_lift B'); (try k_fold))
  have hnil : ∀ c ∈ ([] : List Nat), c ≠ 32 := fun _ h => nomatch h
  have hl0 : (S []).length ≤ 200 := by rw [len_S]; decide
  k_steps
  · exact cb_retI hret rfl (by k_asm) (by k_asm)
  all_goals exact (empty_no (by assumption)).elim

set_option maxRecDepth 100000 in
set_option maxHeartbeats 8000000 in
theorem c_read_int_1 {w : World} {mg mb p loose mean news} {x : Str} {t u : Tok} {b : Bool} {kk : Nat} {l : List Nat} (hx : x.length ≤ 200) (hxl : cs x = List.replicate kk 32 ++ l) (hl : ∀ c ∈ l, c ≠ 32) (hne : l ≠ []) (hr : cutR l ≠ []) (hd9 : Dig (cutR l)) (hv1 : -2147483648 ≤ cutG l * (valL (cutR l) : Int)) (hv2 : cutG l * (valL (cutR l) : Int) < 2147483648) :
    Ct w mg mb p loose mean 3 156 [.str x t, .bool b, .int 32 u] news (RetP news fun t => .int (cutG l * (valL (cutR l) : Int)) t) := by
  dsimp only [Ct, RetP, RetT, RetF]
  k_fill
  intro dp un gd cn cz a ccd cl outer A₀ base h₀ L m s Q E B F X N T hk hd hu hret
  refine wpAny_call ?_
  k_dflt (refine' code_def (binds := [(Str.ofString "field", .str x t), (Str.ofString "is_zero", .bool b), (Str.ofString "width", .int 32 u)]) ?k1 ?k2 ?k3 ?k4 ?k5 ?kA ?kF ?kK ?k6 ?k7 ?k8 ?k9 ?kB ?_ ?c2 ?c3 ?c4 ?c5; (case kA => exact rfl); (case kF => exact rfl); (case kK => assumption); (case k1 => k_asm); (case k2 => k_asm); (case k3 => k_asm); (case k4 => k_asm); (case k5 => k_asm); (case k6 => k_is); (case k7 => k_is); (case k8 => ktr_room); (case k9 => exact BindsTo.of_eq rfl); (case c5 => decide); (case kB => exact locs rfl); (case c2 => exact rfl); (case c3 => exact rfl); (case c4 => exact rfl); k_whole; intro g' L' h' FG' F' N' B' X' T'; (try dsimp only); (try k_lift B'); (try k_fold))
  have hl0 : (S l).length ≤ 200 := len_S_le hx hxl
  have hl1 : (S (cutR (cs (S l)))).length ≤ 200 := Nat.le_trans (cutR_len _) hl0
  have hcG := cutG_or l
  have hcG1 : (cutG l).natAbs ≤ 1 := by (clear F' hret hl hr hne hu hv1 hxl B' hv2 hd hl1 hl0 hx T' T F N X' FG' N' B X hk hd9; omega)
  have hvb : valL (cutR l) ≤ 2147483648 := by rcases hcG with h | h <;> rw [h] at hv1 hv2 <;> (clear hne hr F' hret hl hu hxl B' hd hl1 h hl0 hcG1 hx T' T F N X' FG' N' B hk X hd9; omega)
  have hvc : valL (cs (S (cutR (cs (S l))))) = valL (cutR l) := by rw [cs_S, cs_S]
  have hgc : cutG (cs (S l)) = cutG l := by rw [cs_S]
  have hw1 : -2147483648 ≤ cutG (cs (S l)) * (valL (cs (S (cutR (cs (S l))))) : Int) := by rw [hgc, hvc]; exact hv1
  have hw2 : cutG (cs (S l)) * (valL (cs (S (cutR (cs (S l))))) : Int) < 2147483648 := by rw [hgc, hvc]; exact hv2
  k_steps
  · exact (nonempty_bad hne (by assumption)).elim
  · refine cb_retI hret ?_ (by k_asm) (cb_drop (by assumption) (by kcj_all))
    rw [hgc, hvc]

theorem lnC8_3 : True := by
  k_with "call ref" => (k_here; (with_reducible show wpAny _ _ (PySem.call (Value.ref 156) _) _ _ _); (rename News _ _ _ _ => cN9); k_dflt (refine' c_read_int_1 (by first | with_reducible assumption | size_fits | (simp only [len_S, cs_S] at *; omega)) (by assumption) (by assumption) (by assumption) (by assumption) (by assumption) (by assumption) (by assumption) _ _ _ _ _ _ _ _ _ _ _ _ _ _ _ _ _ (by k_asm) (by k_asm) (by k_asm) cN9 (by k_asm) (by first | exact rfl | assumption) (by first | exact room9 (by assumption) (by rfl) | ktr_room) (by first | exact units9 (by assumption) (by rfl) | ktr_units) ?_); (try dsimp only [RetP, RetT, RetF]); intro t9 h9 tk9 F9 N9; (try dsimp only); (try k_fold))
  k_with "call ref" => (k_here; (with_reducible show wpAny _ _ (PySem.call (Value.ref 156) _) _ _ _); (rename News _ _ _ _ => cN9); k_dflt (refine' c_read_int_0 (by first | with_reducible assumption | size_fits | (simp only [len_S, cs_S] at *; omega)) (by assumption) _ _ _ _ _ _ _ _ _ _ _ _ _ _ _ _ _ (by k_asm) (by k_asm) (by k_asm) cN9 (by k_asm) (by first | exact rfl | assumption) (by first | exact room9 (by assumption) (by rfl) | ktr_room) (by first | exact units9 (by assumption) (by rfl) | ktr_units) ?_); (try dsimp only [RetP, RetT, RetF]); intro t9 h9 tk9 F9 N9; (try dsimp only); (try k_fold))
  trivial
set_option maxRecDepth 100000 in
set_option maxHeartbeats 8000000 in
theorem c_read_figures {w : World} {mg mb p loose mean news} {x : Str} {t u : Tok} {d : Int} {al bl : List Nat} (hx : x.length ≤ 200) (hxl : cs x = al ++ 46 :: bl) (hal : ∀ c ∈ al, c ≠ 46) (hd9 : Dig (al ++ bl)) (hne : al ++ bl ≠ []) :
    Ct w mg mb p loose mean 2 177 [.str x t, .int d u] news (RetT news fun t1 t2 _ => #[.int (valL (al ++ bl) : Int) t1, .int (bl.length : Int) t2]) := by
  dsimp only [Ct, RetP, RetT, RetF]
  k_fill
  intro dp un gd cn cz a ccd cl outer A₀ base h₀ L m s Q E B F X N T hk hd hu hret
  refine wpAny_call ?_
  k_dflt (refine' code_def (binds := [(Str.ofString "text", .str x t), (Str.ofString "d", .int d u)]) ?k1 ?k2 ?k3 ?k4 ?k5 ?kA ?kF ?kK ?k6 ?k7 ?k8 ?k9 ?kB ?_ ?c2 ?c3 ?c4 ?c5; (case kA => exact rfl); (case kF => exact rfl); (case kK => assumption); (case k1 => k_asm); (case k2 => k_asm); (case k3 => k_asm); (case k4 => k_asm); (case k5 => k_asm); (case k6 => k_is); (case k7 => k_is); (case k8 => ktr_room); (case k9 => exact BindsTo.of_eq rfl); (case c5 => decide); (case kB => exact locs rfl); (case c2 => exact rfl); (case c3 => exact rfl); (case c4 => exact rfl); k_whole; intro g' L' h' FG' F' N' B' X' T'; (try dsimp only); (try k_lift B'); (try k_fold))
  have hfp := find_pt hxl hal
  have hfj := fig_join hxl hfp
  have hfc : cs (Txt.slice x none (some (Txt.find x (Str.ofString "."))) ++ Txt.slice x (some (Txt.find x (Str.ofString ".") + 1)) none) = al ++ bl := by rw [hfj, cs_S]
  have hfd : Dig (cs (Txt.slice x none (some (Txt.find x (Str.ofString "."))) ++ Txt.slice x (some (Txt.find x (Str.ofString ".") + 1)) none)) := by rw [hfc]; exact hd9
  have hfn : cs (Txt.slice x none (some (Txt.find x (Str.ofString "."))) ++ Txt.slice x (some (Txt.find x (Str.ofString ".") + 1)) none) ≠ [] := by rw [hfc]; exact hne
  have hfl : (Txt.slice x none (some (Txt.find x (Str.ofString "."))) ++ Txt.slice x (some (Txt.find x (Str.ofString ".") + 1)) none).length ≤ 200 := by
    rw [len_cs, hfc]
    have h8 := len_cs x
    rw [hxl] at h8; simp at h8 ⊢; (clear hu hfd F' hne hfj hfc hfn hal hret hxl B' hd hd9 hfp T' T F N X' N' X B hk FG'; omega)
  have hpl : (x.length : Int) - Txt.find x (Str.ofString ".") - 1 = (bl.length : Int) := by
    rw [hfp, len_cs, hxl]; simp; (clear FG' hk B X N' X' N F T T' hx hfp hd9 hd B' hxl hu hfd F' hfl hne hfj hfc hfn hal hret; omega)
  k_steps
  (rename News _ _ _ _ => hN')
  rw [hfc, hpl] at hN'
  exact hret _ _ _ 0 _ _ (by k_asm) (cb_drop hN' (by kcj_all)) (fun p hp => by first | (with_reducible rename ∀ p ∈ _, _ => hl9; exact hl9 p hp) | (with_reducible rename _ ∧ AllLt _ _ => hl9; exact ktn_ltOf hl9.2 p hp))

theorem lnC8_4 : True := by
  k_with_none
  k_with "omega" => ((try clear hret); (try clear hk); (try clear hd); (try clear hu); omega +splitDisjunctions)
  k_with "execs cons" => ((with_reducible refine wpAny_execs_cons ?_); try dsimp only)
  k_with "execs nil" => refine wpAny_execs_nil ?_
  k_with "call ref" => (k_here; (with_reducible show wpAny _ _ (PySem.call (Value.ref 212) _) _ _ _); (rename News _ _ _ _ => cN9); k_dflt (refine' c_whole_figures (by first | with_reducible assumption | omega | (split <;> omega)) (by first | with_reducible assumption | omega | (split <;> omega)) _ _ _ _ _ _ _ _ _ _ _ _ _ _ _ _ _ (by k_asm) (by k_asm) (by k_asm) cN9 (by k_asm) (by first | exact rfl | assumption) (by first | exact room9 (by assumption) (by rfl) | ktr_room) (by first | exact units9 (by assumption) (by rfl) | ktr_units) ?_); (try dsimp only [RetP, RetT, RetF]); intro hf9 t9 h9 tk9 F9 N9; (try dsimp only); (try k_fold))
  k_with "call ref" => (k_here; (with_reducible show wpAny _ _ (PySem.call (Value.ref 233) _) _ _ _); (rename News _ _ _ _ => cN9); k_dflt (refine' c_scaled (by first | with_reducible assumption | omega | (split <;> omega)) (by first | with_reducible assumption | omega | (split <;> omega)) (by omega) (by omega) _ _ _ _ _ _ _ _ _ _ _ _ _ _ _ _ _ (by k_asm) (by k_asm) (by k_asm) cN9 (by k_asm) (by first | exact rfl | assumption) (by first | exact room9 (by assumption) (by rfl) | ktr_room) (by first | exact units9 (by assumption) (by rfl) | ktr_units) ?_); (try dsimp only [RetP, RetT, RetF]); intro hf9 t9 h9 tk9 F9 N9; (try dsimp only); (try k_fold))
  k_with "call ref" => (k_here; (with_reducible show wpAny _ _ (PySem.call (Value.ref 92) _) _ _ _); (rename News _ _ _ _ => cN9); k_dflt (refine' c_count_digits (by first | with_reducible assumption | omega | (split <;> omega)) _ _ _ _ _ _ _ _ _ _ _ _ _ _ _ _ _ (by k_asm) (by k_asm) (by k_asm) cN9 (by k_asm) (by first | exact rfl | assumption) (by first | exact room9 (by assumption) (by rfl) | ktr_room) (by first | exact units9 (by assumption) (by rfl) | ktr_units) ?_); (try dsimp only [RetP, RetT, RetF]); intro t9 h9 tk9 F9 N9; (try dsimp only); (try k_fold))
  k_with "call ref" => (k_here; (with_reducible show wpAny _ _ (PySem.call (Value.ref 240) _) _ _ _); (rename News _ _ _ _ => cN9); k_dflt (refine' c_figures_of (by first | with_reducible assumption | omega | (split <;> omega)) (by first | with_reducible assumption | omega | (split <;> omega)) (by first | with_reducible assumption | omega | (split <;> omega)) (by first | with_reducible assumption | omega | (split <;> omega)) _ _ _ _ _ _ _ _ _ _ _ _ _ _ _ _ _ (by k_asm) (by k_asm) (by k_asm) cN9 (by k_asm) (by first | exact rfl | assumption) (by first | exact room9 (by assumption) (by rfl) | ktr_room) (by first | exact units9 (by assumption) (by rfl) | ktr_units) ?_); (try dsimp only [RetP, RetT, RetF]); intro hf9 t9 h9 tk9 F9 N9; (try dsimp only); (try k_fold))
  k_with "call ref" => (k_here; (with_reducible show wpAny _ _ (PySem.call (Value.ref 120) _) _ _ _); (rename News _ _ _ _ => cN9); k_dflt (refine' c_digits_of (by first | with_reducible assumption | omega) (by with_reducible assumption) _ _ _ _ _ _ _ _ _ _ _ _ _ _ _ _ _ (by k_asm) (by k_asm) (by k_asm) cN9 (by k_asm) (by first | exact rfl | assumption) (by first | exact room9 (by assumption) (by rfl) | ktr_room) (by first | exact units9 (by assumption) (by rfl) | ktr_units) ?_); (try dsimp only [RetP, RetT, RetF]); intro t9 h9 tk9 F9 N9; (try dsimp only); (try k_fold))
  k_with "call ref" => (k_here; (with_reducible show wpAny _ _ (PySem.call (Value.ref 106) _) _ _ _); (rename News _ _ _ _ => cN9); k_dflt (refine' c_round_digits (by first | with_reducible assumption | omega | (split <;> omega)) (by first | with_reducible assumption | omega | (split <;> omega)) (by first | with_reducible assumption | omega | (split <;> omega)) (by first | with_reducible assumption | omega | (split <;> omega)) _ _ _ _ _ _ _ _ _ _ _ _ _ _ _ _ _ (by k_asm) (by k_asm) (by k_asm) cN9 (by k_asm) (by first | exact rfl | assumption) (by first | exact room9 (by assumption) (by rfl) | ktr_room) (by first | exact units9 (by assumption) (by rfl) | ktr_units) ?_); (try dsimp only [RetP, RetT, RetF]); (refine ⟨fun hz9 h9 tk9 F9 N9 => ?_, fun hz9 q9 t91 t92 h9 tk9 F9 N9 l9 => ?_⟩) <;> ((try dsimp only); (try k_fold)))
  k_with "call ref" => (k_here; (with_reducible show wpAny _ _ (PySem.call (Value.ref 113) _) _ _ _); (rename News _ _ _ _ => cN9); k_dflt (refine' c_round_real (by first | with_reducible assumption | omega | (split <;> omega)) (by first | with_reducible assumption | omega | (split <;> omega)) (by first | with_reducible assumption | omega | (split <;> omega)) (by first | with_reducible assumption | omega | (split <;> omega)) (by first | with_reducible assumption | omega | (split <;> omega)) (by first | with_reducible assumption | omega | (split <;> omega)) _ _ _ _ _ _ _ _ _ _ _ _ _ _ _ _ _ (by k_asm) (by k_asm) (by k_asm) cN9 (by k_asm) (by first | exact rfl | assumption) (by first | exact room9 (by assumption) (by rfl) | ktr_room) (by first | exact units9 (by assumption) (by rfl) | ktr_units) ?_); (try dsimp only [RetP, RetT, RetF]); (refine ⟨fun hz9 h9 tk9 F9 N9 => ?_, fun hz9 q9 t91 t92 h9 tk9 F9 N9 l9 => ?_⟩) <;> ((try dsimp only); (try k_fold)))
  k_with "call ref" => (k_here; (with_reducible show wpAny _ _ (PySem.call (Value.ref 128) _) _ _ _); (rename News _ _ _ _ => cN9); k_dflt (refine' c_solid_field (by first | with_reducible assumption | size_fits) (by first | assumption | (fail "hxl")) (by first | assumption | (fail "hl")) _ _ _ _ _ _ _ _ _ _ _ _ _ _ _ _ _ (by k_asm) (by k_asm) (by k_asm) cN9 (by k_asm) (by first | exact rfl | assumption) (by first | exact room9 (by assumption) (by rfl) | ktr_room) (by first | exact units9 (by assumption) (by rfl) | ktr_units) ?_); (try dsimp only [RetP, RetT, RetF]); intro t9 h9 tk9 F9 N9; (try dsimp only); (try k_fold))
  k_with "call ref" => (k_here; (with_reducible show wpAny _ _ (PySem.call (Value.ref 163) _) _ _ _); (rename News _ _ _ _ => cN9); k_dflt (refine' c_cut_exponent_y (by first | with_reducible assumption | size_fits | (simp only [len_S, cs_S] at *; omega)) (by first | assumption | (simp only [cs_S]; assumption)) (by first | assumption | (simp only [cs_S]; assumption)) (by first | assumption | (simp only [cs_S]; assumption)) _ _ _ _ _ _ _ _ _ _ _ _ _ _ _ _ _ (by k_asm) (by k_asm) (by k_asm) cN9 (by k_asm) (by first | exact rfl | assumption) (by first | exact room9 (by assumption) (by rfl) | ktr_room) (by first | exact units9 (by assumption) (by rfl) | ktr_units) ?_); (try dsimp only [RetP, RetT, RetF]); intro q9 t91 t92 t93 h9 tk9 F9 N9 l9; (try k_lt l9); (try dsimp only); (try k_fold))
  k_with "call ref" => (k_here; (with_reducible show wpAny _ _ (PySem.call (Value.ref 163) _) _ _ _); (rename News _ _ _ _ => cN9); k_dflt (refine' c_cut_exponent_n (by first | with_reducible assumption | size_fits | (simp only [len_S, cs_S] at *; omega)) (by first | assumption | (simp only [cs_S]; assumption)) _ _ _ _ _ _ _ _ _ _ _ _ _ _ _ _ _ (by k_asm) (by k_asm) (by k_asm) cN9 (by k_asm) (by first | exact rfl | assumption) (by first | exact room9 (by assumption) (by rfl) | ktr_room) (by first | exact units9 (by assumption) (by rfl) | ktr_units) ?_); (try dsimp only [RetP, RetT, RetF]); intro q9 t91 t92 t93 h9 tk9 F9 N9 l9; (try k_lt l9); (try dsimp only); (try k_fold))
  k_with "call ref" => (k_here; (with_reducible show wpAny _ _ (PySem.call (Value.ref 142) _) _ _ _); (rename News _ _ _ _ => cN9); k_dflt (refine' c_cut_sign (by first | with_reducible assumption | size_fits | (simp only [len_S, cs_S] at *; omega)) _ _ _ _ _ _ _ _ _ _ _ _ _ _ _ _ _ (by k_asm) (by k_asm) (by k_asm) cN9 (by k_asm) (by first | exact rfl | assumption) (by first | exact room9 (by assumption) (by rfl) | ktr_room) (by first | exact units9 (by assumption) (by rfl) | ktr_units) ?_); (try dsimp only [RetP, RetT, RetF]); intro q9 t91 t92 t93 h9 tk9 F9 N9 l9; (try k_lt l9); (try dsimp only); (try k_fold))
  k_with "call ref" => (k_here; (with_reducible show wpAny _ _ (PySem.call (Value.ref 135) _) _ _ _); (rename News _ _ _ _ => cN9); k_dflt (refine' c_whole_of (by first | with_reducible assumption | size_fits | (simp only [len_S, cs_S] at *; omega)) (by first | assumption | (simp only [cs_S]; assumption)) (by first | assumption | (simp only [cs_S]; assumption)) _ _ _ _ _ _ _ _ _ _ _ _ _ _ _ _ _ (by k_asm) (by k_asm) (by k_asm) cN9 (by k_asm) (by first | exact rfl | assumption) (by first | exact room9 (by assumption) (by rfl) | ktr_room) (by first | exact units9 (by assumption) (by rfl) | ktr_units) ?_); (try dsimp only [RetP, RetT, RetF]); intro t9 h9 tk9 F9 N9; (try dsimp only); (try k_fold))
  k_with "call ref" => (k_here; (with_reducible show wpAny _ _ (PySem.call (Value.ref 170) _) _ _ _); (rename News _ _ _ _ => cN9); k_dflt (refine' c_field_exponent (by first | with_reducible assumption | size_fits | (simp only [len_S, cs_S] at *; omega)) (by first | assumption | (simp only [cs_S]; assumption)) (by first | assumption | (simp only [cs_S]; assumption)) (by first | with_reducible assumption | (simp only [cs_S]; with_reducible assumption) | (simp only [cs_S]; omega)) _ _ _ _ _ _ _ _ _ _ _ _ _ _ _ _ _ (by k_asm) (by k_asm) (by k_asm) cN9 (by k_asm) (by first | exact rfl | assumption) (by first | exact room9 (by assumption) (by rfl) | ktr_room) (by first | exact units9 (by assumption) (by rfl) | ktr_units) ?_); (try dsimp only [RetP, RetT, RetF]); intro t9 h9 tk9 F9 N9; (try dsimp only); (try k_fold))
  k_with "call ref" => (k_here; (with_reducible show wpAny _ _ (PySem.call (Value.ref 149) _) _ _ _); (rename News _ _ _ _ => cN9); k_dflt (refine' c_in_width (by first | with_reducible assumption | omega | (split <;> omega)) (by first | with_reducible assumption | omega | (split <;> omega)) _ _ _ _ _ _ _ _ _ _ _ _ _ _ _ _ _ (by k_asm) (by k_asm) (by k_asm) cN9 (by k_asm) (by first | exact rfl | assumption) (by first | exact room9 (by assumption) (by rfl) | ktr_room) (by first | exact units9 (by assumption) (by rfl) | ktr_units) ?_); (try dsimp only [RetP, RetT, RetF]); intro t9 h9 tk9 F9 N9; (try dsimp only); (try k_fold))
  k_with "call ref" => (k_here; (with_reducible show wpAny _ _ (PySem.call (Value.ref 120) _) _ _ _); (rename News _ _ _ _ => cN9); k_dflt (refine' c_digits_of (by first | with_reducible assumption | omega) (by with_reducible assumption) _ _ _ _ _ _ _ _ _ _ _ _ _ _ _ _ _ (by k_asm) (by k_asm) (by k_asm) cN9 (by k_asm) (by first | exact rfl | assumption) (by first | exact room9 (by assumption) (by rfl) | ktr_room) (by first | exact units9 (by assumption) (by rfl) | ktr_units) ?_); (try dsimp only [RetP, RetT, RetF]); intro t9 h9 tk9 F9 N9; (try dsimp only); (try k_fold))
  k_with "call ref" => (k_here; (with_reducible show wpAny _ _ (PySem.call (Value.ref 156) _) _ _ _); (rename News _ _ _ _ => cN9); k_dflt (refine' c_read_int_1 (by first | with_reducible assumption | size_fits | (simp only [len_S, cs_S] at *; omega)) (by assumption) (by assumption) (by assumption) (by assumption) (by assumption) (by assumption) (by assumption) _ _ _ _ _ _ _ _ _ _ _ _ _ _ _ _ _ (by k_asm) (by k_asm) (by k_asm) cN9 (by k_asm) (by first | exact rfl | assumption) (by first | exact room9 (by assumption) (by rfl) | ktr_room) (by first | exact units9 (by assumption) (by rfl) | ktr_units) ?_); (try dsimp only [RetP, RetT, RetF]); intro t9 h9 tk9 F9 N9; (try dsimp only); (try k_fold))
  k_with "call ref" => (k_here; (with_reducible show wpAny _ _ (PySem.call (Value.ref 156) _) _ _ _); (rename News _ _ _ _ => cN9); k_dflt (refine' c_read_int_0 (by first | with_reducible assumption | size_fits | (simp only [len_S, cs_S] at *; omega)) (by assumption) _ _ _ _ _ _ _ _ _ _ _ _ _ _ _ _ _ (by k_asm) (by k_asm) (by k_asm) cN9 (by k_asm) (by first | exact rfl | assumption) (by first | exact room9 (by assumption) (by rfl) | ktr_room) (by first | exact units9 (by assumption) (by rfl) | ktr_units) ?_); (try dsimp only [RetP, RetT, RetF]); intro t9 h9 tk9 F9 N9; (try dsimp only); (try k_fold))
  k_with "call ref" => (k_here; (with_reducible show wpAny _ _ (PySem.call (Value.ref 177) _) _ _ _); (rename News _ _ _ _ => cN9); k_dflt (refine' c_read_figures (by first | with_reducible assumption | size_fits | (simp only [len_S, cs_S] at *; omega)) (by first | assumption | (simp only [cs_S]; assumption)) (by first | assumption | (simp only [cs_S]; assumption)) (by first | assumption | (simp only [cs_S]; assumption)) (by first | assumption | (simp only [cs_S]; assumption)) _ _ _ _ _ _ _ _ _ _ _ _ _ _ _ _ _ (by k_asm) (by k_asm) (by k_asm) cN9 (by k_asm) (by first | exact rfl | assumption) (by first | exact room9 (by assumption) (by rfl) | ktr_room) (by first | exact units9 (by assumption) (by rfl) | ktr_units) ?_); (try dsimp only [RetP, RetT, RetF]); intro q9 t91 t92 t93 h9 tk9 F9 N9 l9; (try k_lt l9); (try dsimp only); (try k_fold))
  trivial

theorem dig_notExp {r al bl : List Nat} (h : r = al ++ 46 :: bl) (hd : Dig (al ++ bl)) : ∀ c ∈ r, NotExp c := by
  intro c hc
  rw [h] at hc
  rcases List.mem_append.mp hc with h1 | h1
  · have := hd c (List.mem_append.mpr (.inl h1)); unfold NotExp; (clear h hc hd h1; omega)
  · rcases List.mem_cons.mp h1 with h1 | h1
    · subst h1; unfold NotExp; (clear hd h1 h hc; omega)
    · have := hd c (List.mem_append.mpr (.inr h1)); unfold NotExp; (clear h hc hd h1; omega)
set_option maxRecDepth 100000 in
set_option maxHeartbeats 8000000 in
theorem c_read_real_f {w : World} {mg mb p loose mean news} {x : Str} {t u u1 u2 u3 : Tok} {d k dg M P : Int} {b : Bool} {kk : Nat} {l al bl : List Nat} (hx : x.length ≤ 200) (hxl : cs x = List.replicate kk 32 ++ l) (hl : ∀ c ∈ l, c ≠ 32) (hne : l ≠ []) (hr : cutR l = al ++ 46 :: bl) (hal : ∀ c ∈ al, c ≠ 46) (hd9 : Dig (al ++ bl)) (hnn : al ++ bl ≠ []) (hM : cutG l * (valL (al ++ bl) : Int) = M) (hP : -k - (bl.length : Int) = P) (hg1 : 1 ≤ dg) (hg2 : dg ≤ 20) (hb : M.natAbs < 1000000000000000000) (hfm : Int.fmod (if M < 0 then -M else M) (10 ^ ((cdN M.natAbs : Int) - dg).toNat) = 0) (hlo : M ≠ 0 → -38 ≤ P + (cdN M.natAbs : Int) - 1) (hhi : M ≠ 0 → P + (cdN M.natAbs : Int) - 1 ≤ 38) :
    Ct w mg mb p loose mean 4 184 [.str x t, .int d u, .int k u1, .bool b, .int dg u2, .int 38 u3] news (RetM (M = 0) news (sg M * (stM M.natAbs : Int)) (P + (stJ M.natAbs : Int))) := by
  dsimp only [Ct, RetP, RetT, RetF]
  k_fill
  intro dp un gd cn cz a ccd cl outer A₀ base h₀ L m s Q E B F X N T hk hd hu hret
  refine wpAny_call ?_
  k_dflt (refine' code_def (binds := [(Str.ofString "field", .str x t), (Str.ofString "d", .int d u), (Str.ofString "scale", .int k u1), (Str.ofString "is_zero", .bool b), (Str.ofString "digits", .int dg u2), (Str.ofString "top", .int 38 u3)]) ?k1 ?k2 ?k3 ?k4 ?k5 ?kA ?kF ?kK ?k6 ?k7 ?k8 ?k9 ?kB ?_ ?c2 ?c3 ?c4 ?c5; (case kA => exact rfl); (case kF => exact rfl); (case kK => assumption); (case k1 => k_asm); (case k2 => k_asm); (case k3 => k_asm); (case k4 => k_asm); (case k5 => k_asm); (case k6 => k_is); (case k7 => k_is); (case k8 => ktr_room); (case k9 => exact BindsTo.of_eq rfl); (case c5 => decide); (case kB => exact locs rfl); (case c2 => exact rfl); (case c3 => exact rfl); (case c4 => exact rfl); k_whole; intro g' L' h' FG' F' N' B' X' T'; (try dsimp only); (try k_lift B'); (try k_fold))
  (try dsimp only [RetM] at hret)
  obtain ⟨hret0, hret1⟩ := hret
  have hl0 : (S l).length ≤ 200 := len_S_le hx hxl
  have hl1 : (S (cutR (cs (S l)))).length ≤ 200 := Nat.le_trans (cutR_len _) hl0
  have hr2 : cs (S (cutR (cs (S l)))) = al ++ 46 :: bl := by rw [cs_S, cs_S]; exact hr
  have hnx := dig_notExp hr2 hd9
  have hgc : cutG (cs (S l)) = cutG l := by rw [cs_S]
  have hcG := cutG_or l
  have hvb : valL (al ++ bl) < 1000000000000000000 := by rcases hcG with h | h <;> rw [h] at hM <;> (clear hne hnn hnx hret0 hfm F' hl hal hhi hlo hret1 hr2 hu hr hxl B' hP hd hd9 hl1 h hl0 hx hg2 hg1 hgc T' T F N X' FG' N' B X hk; omega)
  have hcG1 : (cutG (cs (S l))).natAbs ≤ 1 := by rw [hgc]; (clear hnx hret0 hfm F' hal hl hhi hlo hret1 hnn hne hr2 hM hu hxl hr B' hvb hP hd hd9 hl1 hl0 hb hx hg2 hg1 hgc T' T F N X' N' X B hk FG'; omega)
  k_steps
  · exact (nonempty_bad hne (by assumption)).elim
  rw [hgc, hM, hP]
  k_steps
  · exact hret0 (by assumption) _ _ (by k_asm) (cb_drop (by assumption) (by kcj_all))
  · exact hret1 (by assumption) _ _ _ _ _ (by k_asm) (cb_drop (by assumption) (by kcj_all)) (fun p hp => by (with_reducible rename ∀ p ∈ _, _ => hl9); exact hl9 p (List.mem_cons_of_mem _ (List.mem_cons_of_mem _ (List.mem_cons_of_mem _ hp))))

set_option maxRecDepth 100000 in
set_option maxHeartbeats 8000000 in
theorem c_read_real_e {w : World} {mg mb p loose mean news} {x : Str} {t u u1 u2 u3 : Tok} {d k dg M P : Int} {b : Bool} {kk : Nat} {l al bl pl ql : List Nat} {c9 : Nat} (hx : x.length ≤ 200) (hxl : cs x = List.replicate kk 32 ++ l) (hl : ∀ c ∈ l, c ≠ 32) (hne : l ≠ []) (hr : cutR l = pl ++ c9 :: ql) (hc9 : IsExp c9) (hpl : pl = al ++ 46 :: bl) (hal : ∀ c ∈ al, c ≠ 46) (hd9 : Dig (al ++ bl)) (hnn : al ++ bl ≠ []) (hM : cutG l * (valL (al ++ bl) : Int) = M) (hed : Dig (cutR (tailL c9 ql))) (hen : cutR (tailL c9 ql) ≠ []) (hev : valL (cutR (tailL c9 ql)) < 1000000) (hP : cutG (tailL c9 ql) * (valL (cutR (tailL c9 ql)) : Int) - (bl.length : Int) = P) (hg1 : 1 ≤ dg) (hg2 : dg ≤ 20) (hb : M.natAbs < 1000000000000000000) (hfm : Int.fmod (if M < 0 then -M else M) (10 ^ ((cdN M.natAbs : Int) - dg).toNat) = 0) (hlo : M ≠ 0 → -38 ≤ P + (cdN M.natAbs : Int) - 1) (hhi : M ≠ 0 → P + (cdN M.natAbs : Int) - 1 ≤ 38) :
    Ct w mg mb p loose mean 4 184 [.str x t, .int d u, .int k u1, .bool b, .int dg u2, .int 38 u3] news (RetM (M = 0) news (sg M * (stM M.natAbs : Int)) (P + (stJ M.natAbs : Int))) := by
  dsimp only [Ct, RetP, RetT, RetF]
  k_fill
  intro dp un gd cn cz a ccd cl outer A₀ base h₀ L m s Q E B F X N T hk hd hu hret
  refine wpAny_call ?_
  k_dflt (refine' code_def (binds := [(Str.ofString "field", .str x t), (Str.ofString "d", .int d u), (Str.ofString "scale", .int k u1), (Str.ofString "is_zero", .bool b), (Str.ofString "digits", .int dg u2), (Str.ofString "top", .int 38 u3)]) ?k1 ?k2 ?k3 ?k4 ?k5 ?kA ?kF ?kK ?k6 ?k7 ?k8 ?k9 ?kB ?_ ?c2 ?c3 ?c4 ?c5; (case kA => exact rfl); (case kF => exact rfl); (case kK => assumption); (case k1 => k_asm); (case k2 => k_asm); (case k3 => k_asm); (case k4 => k_asm); (case k5 => k_asm); (case k6 => k_is); (case k7 => k_is); (case k8 => ktr_room); (case k9 => exact BindsTo.of_eq rfl); (case c5 => decide); (case kB => exact locs rfl); (case c2 => exact rfl); (case c3 => exact rfl); (case c4 => exact rfl); k_whole; intro g' L' h' FG' F' N' B' X' T'; (try dsimp only); (try k_lift B'); (try k_fold))
  (try dsimp only [RetM] at hret)
  obtain ⟨hret0, hret1⟩ := hret
  have hl0 : (S l).length ≤ 200 := len_S_le hx hxl
  have hl1 : (S (cutR (cs (S l)))).length ≤ 200 := Nat.le_trans (cutR_len _) hl0
  have hr2 : cs (S (cutR (cs (S l)))) = pl ++ c9 :: ql := by rw [cs_S, cs_S]; exact hr
  have hnx := dig_notExp hpl hd9
  have hlp : (S pl).length ≤ 200 := by
    rw [len_S] at hl1 ⊢
    rw [cs_S, hr] at hl1; simp at hl1; (clear hP hne hen hnn hnx hret0 hfm F' hl hal hhi hlo hret1 hM hu hr2 hxl hpl B' hr hd hd9 hev hl0 hb hx hg1 hg2 T' T F N X' FG' N' X B hed hk hc9; omega)
  have hlt : (S (tailL c9 ql)).length ≤ 200 := by
    rw [len_S] at hl1 ⊢
    rw [cs_S, hr] at hl1; simp at hl1; unfold tailL; split
    · (clear hP hne hen hnn hnx hret0 hfm F' hl hal hhi hlo hret1 hM hu hxl hr2 hpl B' hr hd hd9 hev hlp hl0 hb hx hg2 hg1 T' T F N X' FG' N' B hed X hk hc9; omega)
    · rw [List.length_cons]; (clear hP hne hen hnn hnx hret0 hfm F' hl hal hhi hlo hret1 hM hu hxl hr2 hpl B' hr hd hd9 hev hlp hl0 hb hx hg2 hg1 T' T F N X' FG' N' B hed X hk hc9; omega)
  have hpl2 : cs (S pl) = al ++ 46 :: bl := by rw [cs_S]; exact hpl
  have hgc : cutG (cs (S l)) = cutG l := by rw [cs_S]
  have hge : cutG (cs (S (tailL c9 ql))) * (valL (cutR (cs (S (tailL c9 ql)))) : Int) - (bl.length : Int) = P := by rw [cs_S]; exact hP
  have hcG := cutG_or l
  have hvb : valL (al ++ bl) < 1000000000000000000 := by rcases hcG with h | h <;> rw [h] at hM <;> (clear hen hge hnn hnx hret0 hfm F' hl hal hhi hlo hret1 hne hP hu hpl2 hr2 hxl hpl B' hr hd hd9 hl1 hlt hev h hlp hl0 hx hg1 hg2 hgc T T' F N X' FG' N' B hed X hk hc9; omega)
  have hcG1 : (cutG (cs (S l))).natAbs ≤ 1 := by rw [hgc]; (clear hnx hret0 hfm F' hal hl hhi hlo hret1 hnn hen hge hne hP hM hu hpl2 hr2 hxl hpl B' hvb hr hd hd9 hl1 hlt hev hlp hl0 hb hx hg1 hg2 hgc T T' F N X' FG' N' B hed X hk hc9; omega)
  k_steps
  · exact (nonempty_bad hne (by assumption)).elim
  rw [hge, hgc, hM]
  k_steps
  · exact hret0 (by assumption) _ _ (by k_asm) (cb_drop (by assumption) (by kcj_all))
  · exact hret1 (by assumption) _ _ _ _ _ (by k_asm) (cb_drop (by assumption) (by kcj_all)) (fun p hp => by (with_reducible rename ∀ p ∈ _, _ => hl9); exact hl9 p (List.mem_cons_of_mem _ (List.mem_cons_of_mem _ (List.mem_cons_of_mem _ hp))))

end
section
theorem mul_le20 {n : Nat} {i : Int} (h : i ≤ 20) (hZ : i < 0 → n = 0) (hN : 0 ≤ i → (n : Int) = ((1 : Nat) : Int) * i) : n ≤ 20 := by omega
theorem lnC9_1 : True := by
  k_with_none
  k_with "omega" => ((try clear hret); (try clear hk); (try clear hd); (try clear hu); first | lia | omega +splitDisjunctions)
  trivial
theorem lnC9_2 : True := by
  k_with "binaryOp Mult str int" => (k_here; (with_reducible show wpAny _ _ (binaryOp Operator.Mult (Value.str _ _) (Value.int _ _)) _ _ _); (refine KXi.mul (by kxi_len) (by decide) (by kxi_fact) (by kxi_fact) ?_); intro _ _ kxiZ kxiN; k_dflt (have kxiL := mul_le20 (by omega) kxiZ kxiN); clear kxiZ kxiN)
  k_with "execs cons" => ((with_reducible refine wpAny_execs_cons ?_); try dsimp only)
  k_with "execs nil" => refine wpAny_execs_nil ?_
  k_with "call ref" => (k_here; (with_reducible show wpAny _ _ (PySem.call (Value.ref 226) _) _ _ _); (rename News _ _ _ _ => cN9); k_dflt (refine' c_sign_text  _ _ _ _ _ _ _ _ _ _ _ _ _ _ _ _ _ (by k_asm) (by k_asm) (by k_asm) cN9 (by k_asm) (by first | exact rfl | assumption) (by first | exact room9 (by assumption) (by rfl) | ktr_room) (by first | exact units9 (by assumption) (by rfl) | ktr_units) ?_); (try dsimp only [RetP, RetT, RetF]); intro hf9 t9 h9 tk9 F9 N9; (try dsimp only); (try k_fold))
  k_with "call ref" => (k_here; (with_reducible show wpAny _ _ (PySem.call (Value.ref 219) _) _ _ _); (rename News _ _ _ _ => cN9); k_dflt (refine' c_field (by first | omega | size_fits) (by omega) (by omega) _ _ _ _ _ _ _ _ _ _ _ _ _ _ _ _ _ (by k_asm) (by k_asm) (by k_asm) cN9 (by k_asm) (by first | exact rfl | assumption) (by first | exact room9 (by assumption) (by rfl) | ktr_room) (by first | exact units9 (by assumption) (by rfl) | ktr_units) ?_); (try dsimp only [RetP, RetT, RetF]); intro t9 h9 tk9 F9 N9; (try dsimp only); (try k_fold))
  k_with "call ref" => (k_here; (with_reducible show wpAny _ _ (PySem.call (Value.ref 303) _) _ _ _); (rename News _ _ _ _ => cN9); k_dflt (refine' c_edit_logical (by omega) (by omega) _ _ _ _ _ _ _ _ _ _ _ _ _ _ _ _ _ (by k_asm) (by k_asm) (by k_asm) cN9 (by k_asm) (by first | exact rfl | assumption) (by first | exact room9 (by assumption) (by rfl) | ktr_room) (by first | exact units9 (by assumption) (by rfl) | ktr_units) ?_); (try dsimp only [RetP, RetT, RetF]); intro t9 h9 tk9 F9 N9; (try dsimp only); (try k_fold))
  k_with "call ref" => (k_here; (with_reducible show wpAny _ _ (PySem.call (Value.ref 212) _) _ _ _); (rename News _ _ _ _ => cN9); k_dflt (refine' c_whole_figures (by first | with_reducible assumption | omega | (split <;> omega)) (by first | with_reducible assumption | omega | (split <;> omega)) _ _ _ _ _ _ _ _ _ _ _ _ _ _ _ _ _ (by k_asm) (by k_asm) (by k_asm) cN9 (by k_asm) (by first | exact rfl | assumption) (by first | exact room9 (by assumption) (by rfl) | ktr_room) (by first | exact units9 (by assumption) (by rfl) | ktr_units) ?_); (try dsimp only [RetP, RetT, RetF]); intro hf9 t9 h9 tk9 F9 N9; (try dsimp only); (try k_fold))
  k_with "call ref" => (k_here; (with_reducible show wpAny _ _ (PySem.call (Value.ref 233) _) _ _ _); (rename News _ _ _ _ => cN9); k_dflt (refine' c_scaled (by first | with_reducible assumption | omega | (split <;> omega)) (by first | with_reducible assumption | omega | (split <;> omega)) (by omega) (by omega) _ _ _ _ _ _ _ _ _ _ _ _ _ _ _ _ _ (by k_asm) (by k_asm) (by k_asm) cN9 (by k_asm) (by first | exact rfl | assumption) (by first | exact room9 (by assumption) (by rfl) | ktr_room) (by first | exact units9 (by assumption) (by rfl) | ktr_units) ?_); (try dsimp only [RetP, RetT, RetF]); intro hf9 t9 h9 tk9 F9 N9; (try dsimp only); (try k_fold))
  k_with "call ref" => (k_here; (with_reducible show wpAny _ _ (PySem.call (Value.ref 92) _) _ _ _); (rename News _ _ _ _ => cN9); k_dflt (refine' c_count_digits (by first | with_reducible assumption | omega | (split <;> omega)) _ _ _ _ _ _ _ _ _ _ _ _ _ _ _ _ _ (by k_asm) (by k_asm) (by k_asm) cN9 (by k_asm) (by first | exact rfl | assumption) (by first | exact room9 (by assumption) (by rfl) | ktr_room) (by first | exact units9 (by assumption) (by rfl) | ktr_units) ?_); (try dsimp only [RetP, RetT, RetF]); intro t9 h9 tk9 F9 N9; (try dsimp only); (try k_fold))
  k_with "call ref" => (k_here; (with_reducible show wpAny _ _ (PySem.call (Value.ref 240) _) _ _ _); (rename News _ _ _ _ => cN9); k_dflt (refine' c_figures_of (by first | with_reducible assumption | omega | (split <;> omega)) (by first | with_reducible assumption | omega | (split <;> omega)) (by first | with_reducible assumption | omega | (split <;> omega)) (by first | with_reducible assumption | omega | (split <;> omega)) _ _ _ _ _ _ _ _ _ _ _ _ _ _ _ _ _ (by k_asm) (by k_asm) (by k_asm) cN9 (by k_asm) (by first | exact rfl | assumption) (by first | exact room9 (by assumption) (by rfl) | ktr_room) (by first | exact units9 (by assumption) (by rfl) | ktr_units) ?_); (try dsimp only [RetP, RetT, RetF]); intro hf9 t9 h9 tk9 F9 N9; (try dsimp only); (try k_fold))
  trivial

noncomputable def leastN : Value → Nat
  | .none => 1
  | .int i _ => i.toNat
  | _ => 0
def LeastOk (v : Value) : Prop := v = .none ∨ ∃ i t, v = .int i t ∧ 0 ≤ i ∧ i ≤ 4
noncomputable def digsI (v : Int) (le : Nat) : List Nat := List.replicate (le - (decR v.natAbs).length) 48 ++ decR v.natAbs
noncomputable def EI (v w : Int) (le : Nat) (plus : Bool) : List Nat := if v = 0 ∧ le = 0 then List.replicate w.toNat 32 else fieldL (signL (decide (v < 0)) plus ++ digsI v le) w
theorem absR (v : Int) : decR (if v < 0 then -v else v).toNat = decR v.natAbs := by rw [abs_toNat]
theorem ei_blank {v w : Int} {le : Nat} {plus : Bool} (h : v = 0) (h2 : le = 0) : Txt.mul (Str.ofString " ") w = S (EI v w le plus) :=
  eq_S (by rw [cs_mul, lit_sp, flat_one]; unfold EI; rw [if_pos ⟨h, h2⟩])
theorem ei_full {v w : Int} {le : Nat} {plus : Bool} (l : Int) (hl : (le : Int) = l) (h : ¬ (v = 0 ∧ le = 0)) {y : Str} (hy : y = S (signL (decide (v < 0)) plus) ++ (Txt.mul (Str.ofString "0") (l - ((S (decR (if v < 0 then -v else v).toNat)).length : Int)) ++ S (decR (if v < 0 then -v else v).toNat))) :
    S (fieldL (cs y) w) = S (EI v w le plus) := by
  unfold EI digsI
  rw [if_neg h, hy, cs_append, cs_append, cs_S, cs_S, cs_mul, lit_0, flat_one, absR, len_S]
  rw [show (l - ((decR v.natAbs).length : Int)).toNat = le - (decR v.natAbs).length by (clear h hy; omega)]
noncomputable def ptL (s wh r : List Nat) (n : Int) : List Nat :=
  if wh = [] ∧ r = [] then fieldL (s ++ [48, 46]) n else
  if wh = [] then (if ((s ++ [48, 46] ++ r).length : Int) ≤ n then fieldL (s ++ [48, 46] ++ r) n else fieldL (s ++ [46] ++ r) n) else fieldL (s ++ wh ++ [46] ++ r) n
theorem emp {y : Str} (h : (y == Str.ofString "") = true) : cs y = [] := by rw [eq_of_beq h, lit_e]
theorem nemp {y : Str} (h : (y == Str.ofString "") = false) : ¬ cs y = [] := fun e => by
  have := beq_eq_false_iff_ne.mp h
  exact this (S_ext (by rw [e, lit_e]))

theorem pt1 {x y z : Str} {n : Int} (hy : (y == Str.ofString "") = true) (hz : (z == Str.ofString "") = true) : S (fieldL (cs (x ++ Str.ofString "0" ++ Str.ofString "." ++ z)) n) = S (ptL (cs x) (cs y) (cs z) n) := by
  unfold ptL; rw [if_pos ⟨emp hy, emp hz⟩]; simp [emp hz]
theorem pt2 {x y z : Str} {n : Int} (hy : (y == Str.ofString "") = true) (hz : (z == Str.ofString "") = false) (h : ((x.length + (Str.ofString "0.").length + z.length : Nat) : Int) ≤ n) : S (fieldL (cs (x ++ Str.ofString "0." ++ z)) n) = S (ptL (cs x) (cs y) (cs z) n) := by
  unfold ptL; rw [if_neg (fun h => nemp hz h.2), if_pos (emp hy), if_pos]
  · simp
  · rw [len_cs, len_cs, len_cs z, lit_0pt] at h; simp at h ⊢; (clear hy hz; omega)
theorem pt3 {x y z : Str} {n : Int} (hy : (y == Str.ofString "") = true) (hz : (z == Str.ofString "") = false) (h : ¬ ((x.length + (Str.ofString "0.").length + z.length : Nat) : Int) ≤ n) : S (fieldL (cs (x ++ y ++ Str.ofString "." ++ z)) n) = S (ptL (cs x) (cs y) (cs z) n) := by
  unfold ptL; rw [if_neg (fun h => nemp hz h.2), if_pos (emp hy), if_neg]
  · simp [emp hy]
  · rw [len_cs, len_cs, len_cs z, lit_0pt] at h; simp at h ⊢; (clear hy hz; omega)
theorem pt4 {x y z : Str} {n : Int} (hy : (y == Str.ofString "") = false) : S (fieldL (cs (x ++ y ++ Str.ofString "." ++ z)) n) = S (ptL (cs x) (cs y) (cs z) n) := by
  unfold ptL; rw [if_neg (fun h => nemp hy h.1), if_neg (nemp hy)]; simp
set_option maxRecDepth 100000 in
set_option maxHeartbeats 8000000 in
theorem c_edit_int {w : World} {mg mb p loose mean news} {v n : Int} {lv : Value} {plus : Bool} {t u : Tok} (h1 : v.natAbs < 1000000000000000000) (hw0 : 0 ≤ n) (hw1 : n ≤ 100) (hlv : LeastOk lv) :
    Ct w mg mb p loose mean 3 247 [.int v t, .int n u, lv, .bool plus] news (RetP news fun t => .str (S (EI v n (leastN lv) plus)) t) := by
  dsimp only [Ct, RetP, RetT, RetF]
  k_fill
  intro dp un gd cn cz a ccd cl outer A₀ base h₀ L m s Q E B F X N T hk hd hu hret
  refine wpAny_call ?_
  k_dflt (refine' code_def (binds := [(Str.ofString "value", .int v t), (Str.ofString "width", .int n u), (Str.ofString "least", lv), (Str.ofString "is_plus", .bool plus)]) ?k1 ?k2 ?k3 ?k4 ?k5 ?kA ?kF ?kK ?k6 ?k7 ?k8 ?k9 ?kB ?_ ?c2 ?c3 ?c4 ?c5; (case kA => exact rfl); (case kF => exact rfl); (case kK => assumption); (case k1 => k_asm); (case k2 => k_asm); (case k3 => k_asm); (case k4 => k_asm); (case k5 => k_asm); (case k6 => k_is); (case k7 => k_is); (case k8 => ktr_room); (case k9 => exact BindsTo.of_eq rfl); (case c5 => decide); (case kB => exact locs rfl); (case c2 => exact rfl); (case c3 => exact rfl); (case c4 => exact rfl); k_whole; intro g' L' h' FG' F' N' B' X' T'; (try dsimp only); (try k_lift B'); (try k_fold))
  rcases hlv with rfl | ⟨i, ti, rfl, hi0, hi1⟩
  · k_steps
    all_goals (refine cb_retS hret ?_ (by k_asm) (by k_asm))
    all_goals exact ei_full 1 rfl (fun h => absurd h.2 (by decide)) rfl
  · k_steps
    all_goals (refine cb_retS hret ?_ (by k_asm) (by k_asm))
    · exact ei_blank (by assumption) (by show i.toNat = 0; (clear FG' hk B X N' X' N F T T' hi1 hw1 hw0 hi0 h1 hd B' hu F' hret; omega))
    · exact ei_full i (by show (i.toNat : Int) = i; (clear h1 hd B' hu hret hw0 hw1 hi1 T' T F N X' FG' B hk X; omega)) (fun h => by have h2 : i.toNat = 0 := h.2; (clear hw0 hi1 h1 hd h B' hu hret hw1 T' T F N X' FG' B X hk; omega)) rfl
    · exact ei_full i (by show (i.toNat : Int) = i; (clear h1 hd B' hu hret hw0 hw1 hi1 T' T F N X' FG' B hk X; omega)) (fun h => absurd h.1 (by assumption)) rfl

theorem lnC9_3 : True := by
  k_with "call ref" => (k_here; (with_reducible show wpAny _ _ (PySem.call (Value.ref 247) _) _ _ _); (rename News _ _ _ _ => cN9); k_dflt (refine' c_edit_int (by first | with_reducible assumption | omega | (split <;> omega)) (by first | with_reducible assumption | omega | (split <;> omega)) (by first | with_reducible assumption | omega | (split <;> omega)) (by first | assumption) _ _ _ _ _ _ _ _ _ _ _ _ _ _ _ _ _ (by k_asm) (by k_asm) (by k_asm) cN9 (by k_asm) (by first | exact rfl | assumption) (by first | exact room9 (by assumption) (by rfl) | ktr_room) (by first | exact units9 (by assumption) (by rfl) | ktr_units) ?_); (try dsimp only [RetP, RetT, RetF]); intro t9 h9 tk9 F9 N9; (try dsimp only); (try k_fold))
  trivial
set_option maxRecDepth 100000 in
set_option maxHeartbeats 8000000 in
theorem c_point_field {w : World} {mg mb p loose mean news} {x y z : Str} {n : Int} {t u v t4 : Tok} (hx : x.length ≤ 5) (hy : y.length ≤ 80) (hz : z.length ≤ 80) (hw0 : 0 ≤ n) (hw1 : n ≤ 100) :
    Ct w mg mb p loose mean 2 254 [.str x t, .str y u, .str z v, .int n t4] news (RetP news fun t => .str (S (ptL (cs x) (cs y) (cs z) n)) t) := by
  dsimp only [Ct, RetP, RetT, RetF]
  k_fill
  intro dp un gd cn cz a ccd cl outer A₀ base h₀ L m s Q E B F X N T hk hd hu hret
  refine wpAny_call ?_
  k_dflt (refine' code_def (binds := [(Str.ofString "sign", .str x t), (Str.ofString "whole", .str y u), (Str.ofString "rest", .str z v), (Str.ofString "width", .int n t4)]) ?k1 ?k2 ?k3 ?k4 ?k5 ?kA ?kF ?kK ?k6 ?k7 ?k8 ?k9 ?kB ?_ ?c2 ?c3 ?c4 ?c5; (case kA => exact rfl); (case kF => exact rfl); (case kK => assumption); (case k1 => k_asm); (case k2 => k_asm); (case k3 => k_asm); (case k4 => k_asm); (case k5 => k_asm); (case k6 => k_is); (case k7 => k_is); (case k8 => ktr_room); (case k9 => exact BindsTo.of_eq rfl); (case c5 => decide); (case kB => exact locs rfl); (case c2 => exact rfl); (case c3 => exact rfl); (case c4 => exact rfl); k_whole; intro g' L' h' FG' F' N' B' X' T'; (try dsimp only); (try k_lift B'); (try k_fold))
  k_steps
  all_goals (refine cb_retS hret ?_ (by k_asm) (by k_asm))
  · exact pt1 (by assumption) (by assumption)
  · exact pt2 (by assumption) (by assumption) (by assumption)
  · exact pt3 (by assumption) (by assumption) (by assumption)
  · exact pt4 (by assumption)

theorem lnC9_4 : True := by
  k_with "call ref" => (k_here; (with_reducible show wpAny _ _ (PySem.call (Value.ref 254) _) _ _ _); (rename News _ _ _ _ => cN9); k_dflt (refine' c_point_field (by first | omega | size_fits) (by first | omega | size_fits) (by first | omega | size_fits) (by first | with_reducible assumption | omega | (split <;> omega)) (by first | with_reducible assumption | omega | (split <;> omega)) _ _ _ _ _ _ _ _ _ _ _ _ _ _ _ _ _ (by k_asm) (by k_asm) (by k_asm) cN9 (by k_asm) (by first | exact rfl | assumption) (by first | exact room9 (by assumption) (by rfl) | ktr_room) (by first | exact units9 (by assumption) (by rfl) | ktr_units) ?_); (try dsimp only [RetP, RetT, RetF]); intro t9 h9 tk9 F9 N9; (try dsimp only); (try k_fold))
  trivial

end
section
theorem lnC10_1 : True := by
  k_with_none
  k_with "omega" => ((try clear hret); (try clear hk); (try clear hd); (try clear hu); first | lia | omega +splitDisjunctions)
  trivial
theorem lnC10_2 : True := by
  k_with "binaryOp Mult str int" => (k_here; (with_reducible show wpAny _ _ (binaryOp Operator.Mult (Value.str _ _) (Value.int _ _)) _ _ _); (refine KXi.mul (by kxi_len) (by decide) (by kxi_fact) (by kxi_fact) ?_); intro _ _ kxiZ kxiN; k_dflt (have kxiL := mul_le20 (by omega) kxiZ kxiN); clear kxiZ kxiN)
  k_with "execs cons" => ((with_reducible refine wpAny_execs_cons ?_); try dsimp only)
  k_with "execs nil" => refine wpAny_execs_nil ?_
  k_with "call ref" => (k_here; (with_reducible show wpAny _ _ (PySem.call (Value.ref 226) _) _ _ _); (rename News _ _ _ _ => cN9); k_dflt (refine' c_sign_text  _ _ _ _ _ _ _ _ _ _ _ _ _ _ _ _ _ (by k_asm) (by k_asm) (by k_asm) cN9 (by k_asm) (by first | exact rfl | assumption) (by first | exact room9 (by assumption) (by rfl) | ktr_room) (by first | exact units9 (by assumption) (by rfl) | ktr_units) ?_); (try dsimp only [RetP, RetT, RetF]); intro hf9 t9 h9 tk9 F9 N9; (try dsimp only); (try k_fold))
  k_with "call ref" => (k_here; (with_reducible show wpAny _ _ (PySem.call (Value.ref 219) _) _ _ _); (rename News _ _ _ _ => cN9); k_dflt (refine' c_field (by first | omega | size_fits) (by omega) (by omega) _ _ _ _ _ _ _ _ _ _ _ _ _ _ _ _ _ (by k_asm) (by k_asm) (by k_asm) cN9 (by k_asm) (by first | exact rfl | assumption) (by first | exact room9 (by assumption) (by rfl) | ktr_room) (by first | exact units9 (by assumption) (by rfl) | ktr_units) ?_); (try dsimp only [RetP, RetT, RetF]); intro t9 h9 tk9 F9 N9; (try dsimp only); (try k_fold))
  k_with "call ref" => (k_here; (with_reducible show wpAny _ _ (PySem.call (Value.ref 303) _) _ _ _); (rename News _ _ _ _ => cN9); k_dflt (refine' c_edit_logical (by omega) (by omega) _ _ _ _ _ _ _ _ _ _ _ _ _ _ _ _ _ (by k_asm) (by k_asm) (by k_asm) cN9 (by k_asm) (by first | exact rfl | assumption) (by first | exact room9 (by assumption) (by rfl) | ktr_room) (by first | exact units9 (by assumption) (by rfl) | ktr_units) ?_); (try dsimp only [RetP, RetT, RetF]); intro t9 h9 tk9 F9 N9; (try dsimp only); (try k_fold))
  k_with "call ref" => (k_here; (with_reducible show wpAny _ _ (PySem.call (Value.ref 212) _) _ _ _); (rename News _ _ _ _ => cN9); k_dflt (refine' c_whole_figures (by first | with_reducible assumption | omega | (split <;> omega)) (by first | with_reducible assumption | omega | (split <;> omega)) _ _ _ _ _ _ _ _ _ _ _ _ _ _ _ _ _ (by k_asm) (by k_asm) (by k_asm) cN9 (by k_asm) (by first | exact rfl | assumption) (by first | exact room9 (by assumption) (by rfl) | ktr_room) (by first | exact units9 (by assumption) (by rfl) | ktr_units) ?_); (try dsimp only [RetP, RetT, RetF]); intro hf9 t9 h9 tk9 F9 N9; (try dsimp only); (try k_fold))
  k_with "call ref" => (k_here; (with_reducible show wpAny _ _ (PySem.call (Value.ref 233) _) _ _ _); (rename News _ _ _ _ => cN9); k_dflt (refine' c_scaled (by first | with_reducible assumption | omega | (split <;> omega)) (by first | with_reducible assumption | omega | (split <;> omega)) (by omega) (by omega) _ _ _ _ _ _ _ _ _ _ _ _ _ _ _ _ _ (by k_asm) (by k_asm) (by k_asm) cN9 (by k_asm) (by first | exact rfl | assumption) (by first | exact room9 (by assumption) (by rfl) | ktr_room) (by first | exact units9 (by assumption) (by rfl) | ktr_units) ?_); (try dsimp only [RetP, RetT, RetF]); intro hf9 t9 h9 tk9 F9 N9; (try dsimp only); (try k_fold))
  k_with "call ref" => (k_here; (with_reducible show wpAny _ _ (PySem.call (Value.ref 92) _) _ _ _); (rename News _ _ _ _ => cN9); k_dflt (refine' c_count_digits (by first | with_reducible assumption | omega | (split <;> omega)) _ _ _ _ _ _ _ _ _ _ _ _ _ _ _ _ _ (by k_asm) (by k_asm) (by k_asm) cN9 (by k_asm) (by first | exact rfl | assumption) (by first | exact room9 (by assumption) (by rfl) | ktr_room) (by first | exact units9 (by assumption) (by rfl) | ktr_units) ?_); (try dsimp only [RetP, RetT, RetF]); intro t9 h9 tk9 F9 N9; (try dsimp only); (try k_fold))
  k_with "call ref" => (k_here; (with_reducible show wpAny _ _ (PySem.call (Value.ref 240) _) _ _ _); (rename News _ _ _ _ => cN9); k_dflt (refine' c_figures_of (by first | with_reducible assumption | omega | (split <;> omega)) (by first | with_reducible assumption | omega | (split <;> omega)) (by first | with_reducible assumption | omega | (split <;> omega)) (by first | with_reducible assumption | omega | (split <;> omega)) _ _ _ _ _ _ _ _ _ _ _ _ _ _ _ _ _ (by k_asm) (by k_asm) (by k_asm) cN9 (by k_asm) (by first | exact rfl | assumption) (by first | exact room9 (by assumption) (by rfl) | ktr_room) (by first | exact units9 (by assumption) (by rfl) | ktr_units) ?_); (try dsimp only [RetP, RetT, RetF]); intro hf9 t9 h9 tk9 F9 N9; (try dsimp only); (try k_fold))
  k_with "call ref" => (k_here; (with_reducible show wpAny _ _ (PySem.call (Value.ref 226) _) _ _ _); (rename News _ _ _ _ => cN9); k_dflt (refine' c_sign_text  _ _ _ _ _ _ _ _ _ _ _ _ _ _ _ _ _ (by k_asm) (by k_asm) (by k_asm) cN9 (by k_asm) (by first | exact rfl | assumption) (by first | exact room9 (by assumption) (by rfl) | ktr_room) (by first | exact units9 (by assumption) (by rfl) | ktr_units) ?_); (try dsimp only [RetP, RetT, RetF]); intro hf9 t9 h9 tk9 F9 N9; (try dsimp only); (try k_fold))
  k_with "call ref" => (k_here; (with_reducible show wpAny _ _ (PySem.call (Value.ref 219) _) _ _ _); (rename News _ _ _ _ => cN9); k_dflt (refine' c_field (by first | omega | size_fits) (by omega) (by omega) _ _ _ _ _ _ _ _ _ _ _ _ _ _ _ _ _ (by k_asm) (by k_asm) (by k_asm) cN9 (by k_asm) (by first | exact rfl | assumption) (by first | exact room9 (by assumption) (by rfl) | ktr_room) (by first | exact units9 (by assumption) (by rfl) | ktr_units) ?_); (try dsimp only [RetP, RetT, RetF]); intro t9 h9 tk9 F9 N9; (try dsimp only); (try k_fold))
  k_with "call ref" => (k_here; (with_reducible show wpAny _ _ (PySem.call (Value.ref 303) _) _ _ _); (rename News _ _ _ _ => cN9); k_dflt (refine' c_edit_logical (by omega) (by omega) _ _ _ _ _ _ _ _ _ _ _ _ _ _ _ _ _ (by k_asm) (by k_asm) (by k_asm) cN9 (by k_asm) (by first | exact rfl | assumption) (by first | exact room9 (by assumption) (by rfl) | ktr_room) (by first | exact units9 (by assumption) (by rfl) | ktr_units) ?_); (try dsimp only [RetP, RetT, RetF]); intro t9 h9 tk9 F9 N9; (try dsimp only); (try k_fold))
  k_with "call ref" => (k_here; (with_reducible show wpAny _ _ (PySem.call (Value.ref 212) _) _ _ _); (rename News _ _ _ _ => cN9); k_dflt (refine' c_whole_figures (by first | with_reducible assumption | omega | (split <;> omega)) (by first | with_reducible assumption | omega | (split <;> omega)) _ _ _ _ _ _ _ _ _ _ _ _ _ _ _ _ _ (by k_asm) (by k_asm) (by k_asm) cN9 (by k_asm) (by first | exact rfl | assumption) (by first | exact room9 (by assumption) (by rfl) | ktr_room) (by first | exact units9 (by assumption) (by rfl) | ktr_units) ?_); (try dsimp only [RetP, RetT, RetF]); intro hf9 t9 h9 tk9 F9 N9; (try dsimp only); (try k_fold))
  k_with "call ref" => (k_here; (with_reducible show wpAny _ _ (PySem.call (Value.ref 233) _) _ _ _); (rename News _ _ _ _ => cN9); k_dflt (refine' c_scaled (by first | with_reducible assumption | omega | (split <;> omega)) (by first | with_reducible assumption | omega | (split <;> omega)) (by omega) (by omega) _ _ _ _ _ _ _ _ _ _ _ _ _ _ _ _ _ (by k_asm) (by k_asm) (by k_asm) cN9 (by k_asm) (by first | exact rfl | assumption) (by first | exact room9 (by assumption) (by rfl) | ktr_room) (by first | exact units9 (by assumption) (by rfl) | ktr_units) ?_); (try dsimp only [RetP, RetT, RetF]); intro hf9 t9 h9 tk9 F9 N9; (try dsimp only); (try k_fold))
  k_with "call ref" => (k_here; (with_reducible show wpAny _ _ (PySem.call (Value.ref 92) _) _ _ _); (rename News _ _ _ _ => cN9); k_dflt (refine' c_count_digits (by first | with_reducible assumption | omega | (split <;> omega)) _ _ _ _ _ _ _ _ _ _ _ _ _ _ _ _ _ (by k_asm) (by k_asm) (by k_asm) cN9 (by k_asm) (by first | exact rfl | assumption) (by first | exact room9 (by assumption) (by rfl) | ktr_room) (by first | exact units9 (by assumption) (by rfl) | ktr_units) ?_); (try dsimp only [RetP, RetT, RetF]); intro t9 h9 tk9 F9 N9; (try dsimp only); (try k_fold))
  k_with "call ref" => (k_here; (with_reducible show wpAny _ _ (PySem.call (Value.ref 240) _) _ _ _); (rename News _ _ _ _ => cN9); k_dflt (refine' c_figures_of (by first | with_reducible assumption | omega | (split <;> omega)) (by first | with_reducible assumption | omega | (split <;> omega)) (by first | with_reducible assumption | omega | (split <;> omega)) (by first | with_reducible assumption | omega | (split <;> omega)) _ _ _ _ _ _ _ _ _ _ _ _ _ _ _ _ _ (by k_asm) (by k_asm) (by k_asm) cN9 (by k_asm) (by first | exact rfl | assumption) (by first | exact room9 (by assumption) (by rfl) | ktr_room) (by first | exact units9 (by assumption) (by rfl) | ktr_units) ?_); (try dsimp only [RetP, RetT, RetF]); intro hf9 t9 h9 tk9 F9 N9; (try dsimp only); (try k_fold))
  k_with "call ref" => (k_here; (with_reducible show wpAny _ _ (PySem.call (Value.ref 247) _) _ _ _); (rename News _ _ _ _ => cN9); k_dflt (refine' c_edit_int (by first | with_reducible assumption | omega | (split <;> omega)) (by first | with_reducible assumption | omega | (split <;> omega)) (by first | with_reducible assumption | omega | (split <;> omega)) (by first | assumption) _ _ _ _ _ _ _ _ _ _ _ _ _ _ _ _ _ (by k_asm) (by k_asm) (by k_asm) cN9 (by k_asm) (by first | exact rfl | assumption) (by first | exact room9 (by assumption) (by rfl) | ktr_room) (by first | exact units9 (by assumption) (by rfl) | ktr_units) ?_); (try dsimp only [RetP, RetT, RetF]); intro t9 h9 tk9 F9 N9; (try dsimp only); (try k_fold))
  k_with "call ref" => (k_here; (with_reducible show wpAny _ _ (PySem.call (Value.ref 254) _) _ _ _); (rename News _ _ _ _ => cN9); k_dflt (refine' c_point_field (by first | omega | size_fits) (by first | omega | size_fits) (by first | omega | size_fits) (by first | with_reducible assumption | omega | (split <;> omega)) (by first | with_reducible assumption | omega | (split <;> omega)) _ _ _ _ _ _ _ _ _ _ _ _ _ _ _ _ _ (by k_asm) (by k_asm) (by k_asm) cN9 (by k_asm) (by first | exact rfl | assumption) (by first | exact room9 (by assumption) (by rfl) | ktr_room) (by first | exact units9 (by assumption) (by rfl) | ktr_units) ?_); (try dsimp only [RetP, RetT, RetF]); intro t9 h9 tk9 F9 N9; (try dsimp only); (try k_fold))
  trivial

theorem HasT.tup {w : World} {news news' : List (Addr × Obj)} {h₀ h : Heap} {L q : Addr} {m e : Int} (hv : HasT news q m e) (N : News h₀ L h news') (hs : ∀ p ∈ news, p ∈ news') (X : (frag.heap_1 w.params).In h) : ∃ t1 t2, IsTup h q ([.int m t1, .int e t2] : List Value).toArray := by
  rcases hv with ⟨t1, t2, hq⟩ | ⟨rfl, rfl, rfl⟩
  · exact ⟨t1, t2, News.isTup N (hs _ hq)⟩
  · exact ⟨_, _, tupK X (by first | k_is | with_unfolding_all rfl)⟩
theorem item_T0 {prog : Program} {w : World} {A : Around} {E : Value → Shared → Prop} {s : Shared} {value slice : PySem.Expr} {news news' : List (Addr × Obj)} {h₀ : Heap} {L q : Addr} {m e : Int} {u : Tok} {Q : Value → Shared → Prop} (hv : HasT news q m e) (N : News h₀ L s.heap news') (hs : ∀ p ∈ news, p ∈ news') (X : (frag.heap_1 w.params).In s.heap)
    (h : ∀ t, Q (.int m t) s) (hs' : subscripted slice false (.ref q) (.int 0 u) = operate [.ref q, .int 0 u] (getItem (.ref q) (.int 0 u)) := by with_unfolding_all rfl) :
    wpAny (model prog w) A (subscriptTail value slice (.ref q) (.int 0 u)) Q E s := by
  obtain ⟨t1, t2, hT⟩ := HasT.tup hv N hs X
  exact item_tupleT hT (by decide) (by decide) rfl rfl (h _) hs'
theorem item_T1 {prog : Program} {w : World} {A : Around} {E : Value → Shared → Prop} {s : Shared} {value slice : PySem.Expr} {news news' : List (Addr × Obj)} {h₀ : Heap} {L q : Addr} {m e : Int} {u : Tok} {Q : Value → Shared → Prop} (hv : HasT news q m e) (N : News h₀ L s.heap news') (hs : ∀ p ∈ news, p ∈ news') (X : (frag.heap_1 w.params).In s.heap)
    (h : ∀ t, Q (.int e t) s) (hs' : subscripted slice false (.ref q) (.int 1 u) = operate [.ref q, .int 1 u] (getItem (.ref q) (.int 1 u)) := by with_unfolding_all rfl) :
    wpAny (model prog w) A (subscriptTail value slice (.ref q) (.int 1 u)) Q E s := by
  obtain ⟨t1, t2, hT⟩ := HasT.tup hv N hs X
  exact item_tupleT hT (by decide) (by decide) rfl rfl (h _) hs'
theorem lnC10_3 : True := by
  k_with "subscriptTail" => (k_here; (with_reducible show wpAny _ _ (subscriptTail _ _ (Value.ref _) (Value.int 0 _)) _ _ _); (with_unfolding_all refine' item_T0 (by assumption) (by k_asm) (by kcj_all) (by k_in) ?_ (by with_unfolding_all rfl)); intro tv9)
  k_with "subscriptTail" => (k_here; (with_reducible show wpAny _ _ (subscriptTail _ _ (Value.ref _) (Value.int 1 _)) _ _ _); (with_unfolding_all refine' item_T1 (by assumption) (by k_asm) (by kcj_all) (by k_in) ?_ (by with_unfolding_all rfl)); intro tv9)
  trivial
noncomputable def EFd (m e d k : Int) : List Nat := List.replicate (d - ((dz (scN m.natAbs (e + k + d))).length : Int)).toNat 48 ++ dz (scN m.natAbs (e + k + d))
noncomputable def EFs (m e d k : Int) (plus : Bool) : List Nat := signL (decide (m < 0) && decide (dz (scN m.natAbs (e + k + d)) ≠ [])) plus
noncomputable def EF (m e w d k : Int) (plus : Bool) : List Nat := ptL (EFs m e d k plus) ((EFd m e d k).take ((EFd m e d k).length - d.toNat)) ((EFd m e d k).drop ((EFd m e d k).length - d.toNat)) w
theorem cs_EFd {m e d k : Int} : cs (Txt.mul (Str.ofString "0") (d - ((S (dz (scN (if m < 0 then -m else m).toNat (e + k + d)))).length : Int)) ++ S (dz (scN (if m < 0 then -m else m).toNat (e + k + d)))) = EFd m e d k := by
  unfold EFd
  rw [cs_append, cs_S, cs_mul, lit_0, flat_one, abs_toNat, len_S]
theorem EFd_len {m e d k : Int} : d ≤ ((EFd m e d k).length : Int) := by
  unfold EFd
  rw [List.length_append, List.length_replicate]; omega
theorem ef_end {m e n d k : Int} {plus : Bool} {y s : Str} (hd : 0 ≤ d) (hy : cs y = EFd m e d k) (hs : cs s = EFs m e d k plus) :
    S (ptL (cs s) (cs (Txt.slice y none (some ((y.length : Int) - d)))) (cs (Txt.slice y (some ((y.length : Int) - d)) none)) n) = S (EF m e n d k plus) := by
  have hl := EFd_len (m := m) (e := e) (d := d) (k := k)
  have hly : (y.length : Int) = ((EFd m e d k).length : Int) := by rw [len_cs, hy]
  rw [cs_slice_to (by (clear hs hy hd; omega)) (by rw [hy]; (clear hl hs hy; omega)), cs_slice_from (by (clear hs hy hd; omega)), hy, hs, hly]
  unfold EF
  rw [show (((EFd m e d k).length : Int) - d).toNat = (EFd m e d k).length - d.toNat by (clear hy hs hl hly; omega)]
theorem efs_neg {m e d k : Int} {plus : Bool} (h : m < 0) : cs (S (signL (S (dz (scN (if m < 0 then -m else m).toNat (e + k + d))) != Str.ofString "") plus)) = EFs m e d k plus := by
  unfold EFs
  rw [cs_S, bne_cs, lit_e, cs_S, abs_toNat, decide_eq_true h, Bool.true_and]
  congr 1
  rw [Bool.eq_iff_iff, decide_eq_true_eq, bne_iff_ne]
theorem efs_pos {m e d k : Int} {plus : Bool} (h : ¬ m < 0) : cs (S (signL (decide (m < 0)) plus)) = EFs m e d k plus := by
  unfold EFs
  rw [cs_S, decide_eq_false h, Bool.false_and]
set_option maxRecDepth 100000 in
set_option maxHeartbeats 8000000 in
theorem c_edit_fixed {w : World} {mg mb p loose mean news} {q : Addr} {m9 e9 n d k : Int} {plus : Bool} {u1 u2 u3 : Tok} (hv : HasT news q m9 e9) (h1 : m9.natAbs < 1000000000000000000) (hp1 : -9 ≤ e9 + k + d) (hp2 : e9 + k + d ≤ 18) (he : e9.natAbs ≤ 1000) (hkk : k.natAbs ≤ 10) (hd0 : 0 ≤ d) (hd1 : d ≤ 10) (hw0 : 0 ≤ n) (hw1 : n ≤ 100) :
    Ct w mg mb p loose mean 4 261 [.ref q, .int n u1, .int d u2, .int k u3, .bool plus] news (RetP news fun t => .str (S (EF m9 e9 n d k plus)) t) := by
  dsimp only [Ct, RetP, RetT, RetF]
  k_fill
  intro dp un gd cn cz a ccd cl outer A₀ base h₀ L m s Q E B F X N T hk hd hu hret
  refine wpAny_call ?_
  k_dflt (refine' code_def (binds := [(Str.ofString "value", .ref q), (Str.ofString "width", .int n u1), (Str.ofString "places", .int d u2), (Str.ofString "scale", .int k u3), (Str.ofString "is_plus", .bool plus)]) ?k1 ?k2 ?k3 ?k4 ?k5 ?kA ?kF ?kK ?k6 ?k7 ?k8 ?k9 ?kB ?_ ?c2 ?c3 ?c4 ?c5; (case kA => exact rfl); (case kF => exact rfl); (case kK => assumption); (case k1 => k_asm); (case k2 => k_asm); (case k3 => k_asm); (case k4 => k_asm); (case k5 => k_asm); (case k6 => k_is); (case k7 => k_is); (case k8 => ktr_room); (case k9 => exact BindsTo.of_eq rfl); (case c5 => decide); (case kB => exact locs rfl); (case c2 => exact rfl); (case c3 => exact rfl); (case c4 => exact rfl); k_whole; intro g' L' h' FG' F' N' B' X' T'; (try dsimp only); (try k_lift B'); (try k_fold))
  k_steps
  all_goals (refine cb_retS hret ?_ (by k_asm) (by k_asm))
  · exact ef_end hd0 cs_EFd (efs_neg (by assumption))
  · exact ef_end hd0 cs_EFd (efs_pos (by assumption))

theorem lnC10_4 : True := by
  k_with "call ref" => (k_here; (with_reducible show wpAny _ _ (PySem.call (Value.ref 261) _) _ _ _); (rename News _ _ _ _ => cN9); k_dflt (refine' c_edit_fixed (by assumption) (by first | with_reducible assumption | omega | (split <;> omega)) (by first | with_reducible assumption | omega | (split <;> omega)) (by first | with_reducible assumption | omega | (split <;> omega)) (by first | with_reducible assumption | omega | (split <;> omega)) (by first | with_reducible assumption | omega | (split <;> omega)) (by first | with_reducible assumption | omega | (split <;> omega)) (by first | with_reducible assumption | omega | (split <;> omega)) (by first | with_reducible assumption | omega | (split <;> omega)) (by first | with_reducible assumption | omega | (split <;> omega)) _ _ _ _ _ _ _ _ _ _ _ _ _ _ _ _ _ (by k_asm) (by k_asm) (by k_asm) cN9 (by k_asm) (by first | exact rfl | assumption) (by first | exact room9 (by assumption) (by rfl) | ktr_room) (by first | exact units9 (by assumption) (by rfl) | ktr_units) ?_); (try dsimp only [RetP, RetT, RetF]); intro t9 h9 tk9 F9 N9; (try dsimp only); (try k_fold))
  trivial

noncomputable def ldD (m c : Int) : List Nat := if m = 0 then List.replicate c.toNat 48 else
  if c < ((dz (scN m.natAbs (c - (cdN m.natAbs : Int)))).length : Int) then (dz (scN m.natAbs (c - (cdN m.natAbs : Int)))).take c.toNat else dz (scN m.natAbs (c - (cdN m.natAbs : Int)))
noncomputable def ldP (m e c : Int) : Int := if m = 0 then 0 else
  if c < ((dz (scN m.natAbs (c - (cdN m.natAbs : Int)))).length : Int) then (cdN m.natAbs : Int) + e + 1 else (cdN m.natAbs : Int) + e

theorem ld_nought {m e c : Int} (hz : m = 0) : S (ldD m c) = Txt.mul (Str.ofString "0") c ∧ ldP m e c = 0 := by
  unfold ldD ldP
  rw [if_pos hz, if_pos hz]
  exact ⟨(eq_S (by rw [cs_mul, lit_0, flat_one])).symm, rfl⟩
theorem ld_len {m : Int} (hz : m ≠ 0) : ((S (decR (if m < 0 then -m else m).toNat)).length : Int) = (cdN m.natAbs : Int) := by
  rw [abs_toNat, len_S, lenR (by omega)]
theorem ld_long {m e c : Int} (hz : m ≠ 0) (hc : 1 ≤ c) (h : c < ((S (dz (scN (if m < 0 then -m else m).toNat (c - ((S (decR (if m < 0 then -m else m).toNat)).length : Int))))).length : Int)) :
    S (ldD m c) = Txt.slice (S (dz (scN (if m < 0 then -m else m).toNat (c - ((S (decR (if m < 0 then -m else m).toNat)).length : Int))))) none (some c) ∧ ldP m e c = ((S (decR (if m < 0 then -m else m).toNat)).length : Int) + e + 1 := by
  rw [ld_len hz] at h ⊢
  rw [abs_toNat, len_S] at h
  rw [abs_toNat]
  unfold ldD ldP
  rw [if_neg hz, if_neg hz, if_pos h, if_pos h]
  exact ⟨(eq_S (by rw [cs_slice_to (by (clear h hz; omega)) (by rw [cs_S]; (clear hz hc; omega)), cs_S])).symm, rfl⟩
theorem ld_short {m e c : Int} (hz : m ≠ 0) (h : ¬ c < ((S (dz (scN (if m < 0 then -m else m).toNat (c - ((S (decR (if m < 0 then -m else m).toNat)).length : Int))))).length : Int)) :
    S (ldD m c) = S (dz (scN (if m < 0 then -m else m).toNat (c - ((S (decR (if m < 0 then -m else m).toNat)).length : Int)))) ∧ ldP m e c = ((S (decR (if m < 0 then -m else m).toNat)).length : Int) + e := by
  rw [ld_len hz] at h ⊢
  rw [abs_toNat, len_S] at h
  rw [abs_toNat]
  unfold ldD ldP
  rw [if_neg hz, if_neg hz, if_neg h, if_neg h]
  exact ⟨rfl, rfl⟩
set_option maxRecDepth 100000 in
set_option maxHeartbeats 8000000 in
theorem c_leading {w : World} {mg mb p loose mean news} {q : Addr} {m9 e9 c : Int} {u1 : Tok} (hv : HasT news q m9 e9) (h1 : m9.natAbs < 1000000000) (he : e9.natAbs ≤ 1000) (hc0 : 1 ≤ c) (hc1 : c ≤ 20) :
    Ct w mg mb p loose mean 4 268 [.ref q, .int c u1] news (RetT news fun t1 t2 _ => #[.str (S (ldD m9 c)) t1, .int (ldP m9 e9 c) t2]) := by
  dsimp only [Ct, RetP, RetT, RetF]
  k_fill
  intro dp un gd cn cz a ccd cl outer A₀ base h₀ L m s Q E B F X N T hk hd hu hret
  refine wpAny_call ?_
  k_dflt (refine' code_def (binds := [(Str.ofString "value", .ref q), (Str.ofString "count", .int c u1)]) ?k1 ?k2 ?k3 ?k4 ?k5 ?kA ?kF ?kK ?k6 ?k7 ?k8 ?k9 ?kB ?_ ?c2 ?c3 ?c4 ?c5; (case kA => exact rfl); (case kF => exact rfl); (case kK => assumption); (case k1 => k_asm); (case k2 => k_asm); (case k3 => k_asm); (case k4 => k_asm); (case k5 => k_asm); (case k6 => k_is); (case k7 => k_is); (case k8 => ktr_room); (case k9 => exact BindsTo.of_eq rfl); (case c5 => decide); (case kB => exact locs rfl); (case c2 => exact rfl); (case c3 => exact rfl); (case c4 => exact rfl); k_whole; intro g' L' h' FG' F' N' B' X' T'; (try dsimp only); (try k_lift B'); (try k_fold))
  have hcd := cdN_lt (n := m9.natAbs) (k := 9) (by (clear he hd B' hu F' hret hc1 hc0 T T' F N X' FG' N' X B hv hk; omega))
  have hab : (if m9 < 0 then -m9 else m9) = (m9.natAbs : Int) := by split <;> (clear hk FG' hv B X N' X' N F T T' hc0 hc1 h1 he hcd hd B' hu F' hret; omega)
  have hlr : m9 ≠ 0 → ((S (decR (if m9 < 0 then -m9 else m9).toNat)).length : Int) = (cdN m9.natAbs : Int) := fun h => by rw [abs_toNat, len_S, lenR (by (clear F' hab hret hu B' hd hcd h1 he hc0 hc1 T' T F N X' FG' N' X B hv hk; omega))]
  by_cases hz : m9 = 0
  · obtain ⟨e1, e2⟩ := ld_nought (e := e9) (c := c) hz
    rw [e1, e2] at hret
    k_steps
    all_goals first
      | (exact hret _ _ _ 0 _ _ (by k_asm) (by k_asm) (fun p hp => by first | (with_reducible rename ∀ p ∈ _, _ => hl9; exact hl9 p hp) | (with_reducible rename _ ∧ AllLt _ _ => hl9; exact ktn_ltOf hl9.2 p hp)))
      | (exfalso; (clear hc1 hc0 he e1 h1 e2 hcd hd B' hu hab hlr hret T T' F N X' FG' X B hv hk; omega))
  · have hlr := hlr hz
    k_steps
    all_goals first
      | (exfalso; (clear hc0 h1 he hcd hd B' hu hab hlr hret hc1 T' T F N X' FG' B hv X hk; omega))
      | (obtain ⟨e1, e2⟩ := ld_long (e := e9) hz hc0 (by assumption); rw [e1, e2] at hret; exact hret _ _ _ 0 _ _ (by k_asm) (by k_asm) (fun p hp => by first | (with_reducible rename ∀ p ∈ _, _ => hl9; exact hl9 p hp) | (with_reducible rename _ ∧ AllLt _ _ => hl9; exact ktn_ltOf hl9.2 p hp)))
      | (obtain ⟨e1, e2⟩ := ld_short (e := e9) hz (by assumption); rw [e1, e2] at hret; exact hret _ _ _ 0 _ _ (by k_asm) (by k_asm) (fun p hp => by first | (with_reducible rename ∀ p ∈ _, _ => hl9; exact hl9 p hp) | (with_reducible rename _ ∧ AllLt _ _ => hl9; exact ktn_ltOf hl9.2 p hp)))

theorem lnC10_5 : True := by
  k_with "call ref" => (k_here; (with_reducible show wpAny _ _ (PySem.call (Value.ref 268) _) _ _ _); (rename News _ _ _ _ => cN9); k_dflt (refine' c_leading (by assumption) (by first | with_reducible assumption | omega | (split <;> omega)) (by first | with_reducible assumption | omega | (split <;> omega)) (by first | with_reducible assumption | omega | (split <;> omega)) (by first | with_reducible assumption | omega | (split <;> omega)) _ _ _ _ _ _ _ _ _ _ _ _ _ _ _ _ _ (by k_asm) (by k_asm) (by k_asm) cN9 (by k_asm) (by first | exact rfl | assumption) (by first | exact room9 (by assumption) (by rfl) | ktr_room) (by first | exact units9 (by assumption) (by rfl) | ktr_units) ?_); (try dsimp only [RetP, RetT, RetF]); intro q9 t91 t92 t93 h9 tk9 F9 N9 l9; (try k_lt l9); (try dsimp only); (try k_fold))
  trivial

noncomputable def szN : Value → Nat
  | .int i _ => i.toNat
  | _ => 2
def SizeOk (v : Value) : Prop := v = .none ∨ ∃ i t, v = .int i t ∧ 2 ≤ i ∧ i ≤ 3
noncomputable def exL (lt : List Nat) (p : Int) (sz : Nat) : List Nat := lt ++ (if p < 0 then [45] else [43]) ++ List.replicate (sz - (decR p.natAbs).length) 48 ++ decR p.natAbs
theorem len2 {n : Int} (h : n.natAbs < 100) : (Str.ofString (toString (if n < 0 then -n else n))).length = (decR n.natAbs).length ∧ (Str.ofString (toString (if n < 0 then -n else n))).length ≤ 2 := by
  have e : (Str.ofString (toString (if n < 0 then -n else n))).length = (decR n.natAbs).length := by
    rw [len_cs, cs_toString (by split <;> (clear h; omega)), abs_toNat]
  refine ⟨e, ?_⟩
  rw [e]
  by_cases h0 : n.natAbs = 0
  · rw [h0, decR_lt (by decide)]; decide
  · rw [lenR h0]; exact cdN_lt (by (clear e h0; omega))
theorem ex_end {x : Str} {n sz : Int} {k : Nat} {sn : Str} (hk : sz = (k : Int)) (hs : cs sn = if n < 0 then [45] else [43]) :
    x ++ sn ++ Txt.mul (Str.ofString "0") (sz - ((Str.ofString (toString (if n < 0 then -n else n))).length : Int)) ++ Str.ofString (toString (if n < 0 then -n else n)) = S (exL (cs x) n k) := by
  refine eq_S ?_
  rw [cs_append, cs_append, cs_append, cs_mul, lit_0, flat_one, hs]
  rw [len_cs, cs_toString (by split <;> (clear hk hs; omega)), abs_toNat]
  unfold exL
  rw [show (sz - ((decR n.natAbs).length : Int)).toNat = k - (decR n.natAbs).length by (clear hs; omega)]
set_option maxRecDepth 100000 in
set_option maxHeartbeats 8000000 in
theorem c_exponent_text {w : World} {mg mb p loose mean news} {x : Str} {n : Int} {sv : Value} {t u : Tok} (hx : x.length ≤ 1) (hn : n.natAbs < 100) (hsv : SizeOk sv) :
    Ct w mg mb p loose mean 2 275 [.str x t, .int n u, sv] news (RetF ((S (exL (cs x) n (szN sv))).length ≤ 8) news fun t => .str (S (exL (cs x) n (szN sv))) t) := by
  dsimp only [Ct, RetP, RetT, RetF]
  k_fill
  intro dp un gd cn cz a ccd cl outer A₀ base h₀ L m s Q E B F X N T hk hd hu hret
  refine wpAny_call ?_
  k_dflt (refine' code_def (binds := [(Str.ofString "letter", .str x t), (Str.ofString "power", .int n u), (Str.ofString "size", sv)]) ?k1 ?k2 ?k3 ?k4 ?k5 ?kA ?kF ?kK ?k6 ?k7 ?k8 ?k9 ?kB ?_ ?c2 ?c3 ?c4 ?c5; (case kA => exact rfl); (case kF => exact rfl); (case kK => assumption); (case k1 => k_asm); (case k2 => k_asm); (case k3 => k_asm); (case k4 => k_asm); (case k5 => k_asm); (case k6 => k_is); (case k7 => k_is); (case k8 => ktr_room); (case k9 => exact BindsTo.of_eq rfl); (case c5 => decide); (case kB => exact locs rfl); (case c2 => exact rfl); (case c3 => exact rfl); (case c4 => exact rfl); k_whole; intro g' L' h' FG' F' N' B' X' T'; (try dsimp only); (try k_lift B'); (try k_fold))
  obtain ⟨hlen, hlen2⟩ := len2 hn
  replace hret := hret (by
    rw [len_S]; unfold exL
    rw [← hlen]
    have := len_cs x
    have h3 : szN sv ≤ 3 := by
      rcases hsv with rfl | ⟨i, ti, rfl, hi0, hi1⟩
      · decide
      · show i.toNat ≤ 3; (clear hi0 hx hn hd B' hu F' hlen hlen2 hret this T' T F N X' N' X B FG' hk; omega)
    rw [List.length_append, List.length_append, List.length_append, List.length_replicate, ← hlen]
    have : (if n < 0 then [45] else [43] : List Nat).length = 1 := by split <;> rfl
    (clear hret hlen F' hu B' hd hn T' T F N X' FG' N' B hk X hsv; omega))
  rcases hsv with rfl | ⟨i, ti, rfl, hi0, hi1⟩
  · k_steps
    all_goals (refine cb_retS hret ?_ (by k_asm) (by k_asm))
    · exact ex_end (k := 2) rfl (by rw [lit_minus, if_pos (by assumption)])
    · exact ex_end (k := 2) rfl (by rw [lit_plus, if_neg (by assumption)])
  · k_steps
    all_goals (refine cb_retS hret ?_ (by k_asm) (by k_asm))
    · exact ex_end (k := i.toNat) (by (clear hx hn hd B' hu hlen hlen2 hret hi1 T' T F N X' FG' B X hk; omega)) (by rw [lit_minus, if_pos (by assumption)])
    · exact ex_end (k := i.toNat) (by (clear hx hn hd B' hu hlen hlen2 hret hi1 T' T F N X' FG' B X hk; omega)) (by rw [lit_plus, if_neg (by assumption)])

end
section
theorem lnC11_1 : True := by
  k_with_none
  k_with "omega" => ((try clear hret); (try clear hk); (try clear hd); (try clear hu); first | lia | omega +splitDisjunctions)
  trivial
theorem lnC11_2 : True := by
  k_with "binaryOp Mult str int" => (k_here; (with_reducible show wpAny _ _ (binaryOp Operator.Mult (Value.str _ _) (Value.int _ _)) _ _ _); (refine KXi.mul (by kxi_len) (by decide) (by kxi_fact) (by kxi_fact) ?_); intro _ _ kxiZ kxiN; k_dflt (have kxiL := mul_le20 (by omega) kxiZ kxiN); clear kxiZ kxiN)
  k_with "execs cons" => ((with_reducible refine wpAny_execs_cons ?_); try dsimp only)
  k_with "execs nil" => refine wpAny_execs_nil ?_
  k_with "call ref" => (k_here; (with_reducible show wpAny _ _ (PySem.call (Value.ref 226) _) _ _ _); (rename News _ _ _ _ => cN9); k_dflt (refine' c_sign_text  _ _ _ _ _ _ _ _ _ _ _ _ _ _ _ _ _ (by k_asm) (by k_asm) (by k_asm) cN9 (by k_asm) (by first | exact rfl | assumption) (by first | exact room9 (by assumption) (by rfl) | ktr_room) (by first | exact units9 (by assumption) (by rfl) | ktr_units) ?_); (try dsimp only [RetP, RetT, RetF]); intro hf9 t9 h9 tk9 F9 N9; (try dsimp only); (try k_fold))
  k_with "call ref" => (k_here; (with_reducible show wpAny _ _ (PySem.call (Value.ref 219) _) _ _ _); (rename News _ _ _ _ => cN9); k_dflt (refine' c_field (by first | omega | size_fits) (by omega) (by omega) _ _ _ _ _ _ _ _ _ _ _ _ _ _ _ _ _ (by k_asm) (by k_asm) (by k_asm) cN9 (by k_asm) (by first | exact rfl | assumption) (by first | exact room9 (by assumption) (by rfl) | ktr_room) (by first | exact units9 (by assumption) (by rfl) | ktr_units) ?_); (try dsimp only [RetP, RetT, RetF]); intro t9 h9 tk9 F9 N9; (try dsimp only); (try k_fold))
  k_with "call ref" => (k_here; (with_reducible show wpAny _ _ (PySem.call (Value.ref 303) _) _ _ _); (rename News _ _ _ _ => cN9); k_dflt (refine' c_edit_logical (by omega) (by omega) _ _ _ _ _ _ _ _ _ _ _ _ _ _ _ _ _ (by k_asm) (by k_asm) (by k_asm) cN9 (by k_asm) (by first | exact rfl | assumption) (by first | exact room9 (by assumption) (by rfl) | ktr_room) (by first | exact units9 (by assumption) (by rfl) | ktr_units) ?_); (try dsimp only [RetP, RetT, RetF]); intro t9 h9 tk9 F9 N9; (try dsimp only); (try k_fold))
  k_with "call ref" => (k_here; (with_reducible show wpAny _ _ (PySem.call (Value.ref 212) _) _ _ _); (rename News _ _ _ _ => cN9); k_dflt (refine' c_whole_figures (by first | with_reducible assumption | omega | (split <;> omega)) (by first | with_reducible assumption | omega | (split <;> omega)) _ _ _ _ _ _ _ _ _ _ _ _ _ _ _ _ _ (by k_asm) (by k_asm) (by k_asm) cN9 (by k_asm) (by first | exact rfl | assumption) (by first | exact room9 (by assumption) (by rfl) | ktr_room) (by first | exact units9 (by assumption) (by rfl) | ktr_units) ?_); (try dsimp only [RetP, RetT, RetF]); intro hf9 t9 h9 tk9 F9 N9; (try dsimp only); (try k_fold))
  k_with "call ref" => (k_here; (with_reducible show wpAny _ _ (PySem.call (Value.ref 233) _) _ _ _); (rename News _ _ _ _ => cN9); k_dflt (refine' c_scaled (by first | with_reducible assumption | omega | (split <;> omega)) (by first | with_reducible assumption | omega | (split <;> omega)) (by omega) (by omega) _ _ _ _ _ _ _ _ _ _ _ _ _ _ _ _ _ (by k_asm) (by k_asm) (by k_asm) cN9 (by k_asm) (by first | exact rfl | assumption) (by first | exact room9 (by assumption) (by rfl) | ktr_room) (by first | exact units9 (by assumption) (by rfl) | ktr_units) ?_); (try dsimp only [RetP, RetT, RetF]); intro hf9 t9 h9 tk9 F9 N9; (try dsimp only); (try k_fold))
  k_with "call ref" => (k_here; (with_reducible show wpAny _ _ (PySem.call (Value.ref 92) _) _ _ _); (rename News _ _ _ _ => cN9); k_dflt (refine' c_count_digits (by first | with_reducible assumption | omega | (split <;> omega)) _ _ _ _ _ _ _ _ _ _ _ _ _ _ _ _ _ (by k_asm) (by k_asm) (by k_asm) cN9 (by k_asm) (by first | exact rfl | assumption) (by first | exact room9 (by assumption) (by rfl) | ktr_room) (by first | exact units9 (by assumption) (by rfl) | ktr_units) ?_); (try dsimp only [RetP, RetT, RetF]); intro t9 h9 tk9 F9 N9; (try dsimp only); (try k_fold))
  k_with "call ref" => (k_here; (with_reducible show wpAny _ _ (PySem.call (Value.ref 240) _) _ _ _); (rename News _ _ _ _ => cN9); k_dflt (refine' c_figures_of (by first | with_reducible assumption | omega | (split <;> omega)) (by first | with_reducible assumption | omega | (split <;> omega)) (by first | with_reducible assumption | omega | (split <;> omega)) (by first | with_reducible assumption | omega | (split <;> omega)) _ _ _ _ _ _ _ _ _ _ _ _ _ _ _ _ _ (by k_asm) (by k_asm) (by k_asm) cN9 (by k_asm) (by first | exact rfl | assumption) (by first | exact room9 (by assumption) (by rfl) | ktr_room) (by first | exact units9 (by assumption) (by rfl) | ktr_units) ?_); (try dsimp only [RetP, RetT, RetF]); intro hf9 t9 h9 tk9 F9 N9; (try dsimp only); (try k_fold))
  k_with "call ref" => (k_here; (with_reducible show wpAny _ _ (PySem.call (Value.ref 226) _) _ _ _); (rename News _ _ _ _ => cN9); k_dflt (refine' c_sign_text  _ _ _ _ _ _ _ _ _ _ _ _ _ _ _ _ _ (by k_asm) (by k_asm) (by k_asm) cN9 (by k_asm) (by first | exact rfl | assumption) (by first | exact room9 (by assumption) (by rfl) | ktr_room) (by first | exact units9 (by assumption) (by rfl) | ktr_units) ?_); (try dsimp only [RetP, RetT, RetF]); intro hf9 t9 h9 tk9 F9 N9; (try dsimp only); (try k_fold))
  k_with "call ref" => (k_here; (with_reducible show wpAny _ _ (PySem.call (Value.ref 219) _) _ _ _); (rename News _ _ _ _ => cN9); k_dflt (refine' c_field (by first | omega | size_fits) (by omega) (by omega) _ _ _ _ _ _ _ _ _ _ _ _ _ _ _ _ _ (by k_asm) (by k_asm) (by k_asm) cN9 (by k_asm) (by first | exact rfl | assumption) (by first | exact room9 (by assumption) (by rfl) | ktr_room) (by first | exact units9 (by assumption) (by rfl) | ktr_units) ?_); (try dsimp only [RetP, RetT, RetF]); intro t9 h9 tk9 F9 N9; (try dsimp only); (try k_fold))
  k_with "call ref" => (k_here; (with_reducible show wpAny _ _ (PySem.call (Value.ref 303) _) _ _ _); (rename News _ _ _ _ => cN9); k_dflt (refine' c_edit_logical (by omega) (by omega) _ _ _ _ _ _ _ _ _ _ _ _ _ _ _ _ _ (by k_asm) (by k_asm) (by k_asm) cN9 (by k_asm) (by first | exact rfl | assumption) (by first | exact room9 (by assumption) (by rfl) | ktr_room) (by first | exact units9 (by assumption) (by rfl) | ktr_units) ?_); (try dsimp only [RetP, RetT, RetF]); intro t9 h9 tk9 F9 N9; (try dsimp only); (try k_fold))
  k_with "call ref" => (k_here; (with_reducible show wpAny _ _ (PySem.call (Value.ref 212) _) _ _ _); (rename News _ _ _ _ => cN9); k_dflt (refine' c_whole_figures (by first | with_reducible assumption | omega | (split <;> omega)) (by first | with_reducible assumption | omega | (split <;> omega)) _ _ _ _ _ _ _ _ _ _ _ _ _ _ _ _ _ (by k_asm) (by k_asm) (by k_asm) cN9 (by k_asm) (by first | exact rfl | assumption) (by first | exact room9 (by assumption) (by rfl) | ktr_room) (by first | exact units9 (by assumption) (by rfl) | ktr_units) ?_); (try dsimp only [RetP, RetT, RetF]); intro hf9 t9 h9 tk9 F9 N9; (try dsimp only); (try k_fold))
  k_with "call ref" => (k_here; (with_reducible show wpAny _ _ (PySem.call (Value.ref 233) _) _ _ _); (rename News _ _ _ _ => cN9); k_dflt (refine' c_scaled (by first | with_reducible assumption | omega | (split <;> omega)) (by first | with_reducible assumption | omega | (split <;> omega)) (by omega) (by omega) _ _ _ _ _ _ _ _ _ _ _ _ _ _ _ _ _ (by k_asm) (by k_asm) (by k_asm) cN9 (by k_asm) (by first | exact rfl | assumption) (by first | exact room9 (by assumption) (by rfl) | ktr_room) (by first | exact units9 (by assumption) (by rfl) | ktr_units) ?_); (try dsimp only [RetP, RetT, RetF]); intro hf9 t9 h9 tk9 F9 N9; (try dsimp only); (try k_fold))
  k_with "call ref" => (k_here; (with_reducible show wpAny _ _ (PySem.call (Value.ref 92) _) _ _ _); (rename News _ _ _ _ => cN9); k_dflt (refine' c_count_digits (by first | with_reducible assumption | omega | (split <;> omega)) _ _ _ _ _ _ _ _ _ _ _ _ _ _ _ _ _ (by k_asm) (by k_asm) (by k_asm) cN9 (by k_asm) (by first | exact rfl | assumption) (by first | exact room9 (by assumption) (by rfl) | ktr_room) (by first | exact units9 (by assumption) (by rfl) | ktr_units) ?_); (try dsimp only [RetP, RetT, RetF]); intro t9 h9 tk9 F9 N9; (try dsimp only); (try k_fold))
  k_with "call ref" => (k_here; (with_reducible show wpAny _ _ (PySem.call (Value.ref 240) _) _ _ _); (rename News _ _ _ _ => cN9); k_dflt (refine' c_figures_of (by first | with_reducible assumption | omega | (split <;> omega)) (by first | with_reducible assumption | omega | (split <;> omega)) (by first | with_reducible assumption | omega | (split <;> omega)) (by first | with_reducible assumption | omega | (split <;> omega)) _ _ _ _ _ _ _ _ _ _ _ _ _ _ _ _ _ (by k_asm) (by k_asm) (by k_asm) cN9 (by k_asm) (by first | exact rfl | assumption) (by first | exact room9 (by assumption) (by rfl) | ktr_room) (by first | exact units9 (by assumption) (by rfl) | ktr_units) ?_); (try dsimp only [RetP, RetT, RetF]); intro hf9 t9 h9 tk9 F9 N9; (try dsimp only); (try k_fold))
  k_with "call ref" => (k_here; (with_reducible show wpAny _ _ (PySem.call (Value.ref 247) _) _ _ _); (rename News _ _ _ _ => cN9); k_dflt (refine' c_edit_int (by first | with_reducible assumption | omega | (split <;> omega)) (by first | with_reducible assumption | omega | (split <;> omega)) (by first | with_reducible assumption | omega | (split <;> omega)) (by first | assumption) _ _ _ _ _ _ _ _ _ _ _ _ _ _ _ _ _ (by k_asm) (by k_asm) (by k_asm) cN9 (by k_asm) (by first | exact rfl | assumption) (by first | exact room9 (by assumption) (by rfl) | ktr_room) (by first | exact units9 (by assumption) (by rfl) | ktr_units) ?_); (try dsimp only [RetP, RetT, RetF]); intro t9 h9 tk9 F9 N9; (try dsimp only); (try k_fold))
  k_with "call ref" => (k_here; (with_reducible show wpAny _ _ (PySem.call (Value.ref 254) _) _ _ _); (rename News _ _ _ _ => cN9); k_dflt (refine' c_point_field (by first | omega | size_fits) (by first | omega | size_fits) (by first | omega | size_fits) (by first | with_reducible assumption | omega | (split <;> omega)) (by first | with_reducible assumption | omega | (split <;> omega)) _ _ _ _ _ _ _ _ _ _ _ _ _ _ _ _ _ (by k_asm) (by k_asm) (by k_asm) cN9 (by k_asm) (by first | exact rfl | assumption) (by first | exact room9 (by assumption) (by rfl) | ktr_room) (by first | exact units9 (by assumption) (by rfl) | ktr_units) ?_); (try dsimp only [RetP, RetT, RetF]); intro t9 h9 tk9 F9 N9; (try dsimp only); (try k_fold))
  k_with "call ref" => (k_here; (with_reducible show wpAny _ _ (PySem.call (Value.ref 226) _) _ _ _); (rename News _ _ _ _ => cN9); k_dflt (refine' c_sign_text  _ _ _ _ _ _ _ _ _ _ _ _ _ _ _ _ _ (by k_asm) (by k_asm) (by k_asm) cN9 (by k_asm) (by first | exact rfl | assumption) (by first | exact room9 (by assumption) (by rfl) | ktr_room) (by first | exact units9 (by assumption) (by rfl) | ktr_units) ?_); (try dsimp only [RetP, RetT, RetF]); intro hf9 t9 h9 tk9 F9 N9; (try dsimp only); (try k_fold))
  k_with "call ref" => (k_here; (with_reducible show wpAny _ _ (PySem.call (Value.ref 219) _) _ _ _); (rename News _ _ _ _ => cN9); k_dflt (refine' c_field (by first | omega | size_fits) (by omega) (by omega) _ _ _ _ _ _ _ _ _ _ _ _ _ _ _ _ _ (by k_asm) (by k_asm) (by k_asm) cN9 (by k_asm) (by first | exact rfl | assumption) (by first | exact room9 (by assumption) (by rfl) | ktr_room) (by first | exact units9 (by assumption) (by rfl) | ktr_units) ?_); (try dsimp only [RetP, RetT, RetF]); intro t9 h9 tk9 F9 N9; (try dsimp only); (try k_fold))
  k_with "call ref" => (k_here; (with_reducible show wpAny _ _ (PySem.call (Value.ref 303) _) _ _ _); (rename News _ _ _ _ => cN9); k_dflt (refine' c_edit_logical (by omega) (by omega) _ _ _ _ _ _ _ _ _ _ _ _ _ _ _ _ _ (by k_asm) (by k_asm) (by k_asm) cN9 (by k_asm) (by first | exact rfl | assumption) (by first | exact room9 (by assumption) (by rfl) | ktr_room) (by first | exact units9 (by assumption) (by rfl) | ktr_units) ?_); (try dsimp only [RetP, RetT, RetF]); intro t9 h9 tk9 F9 N9; (try dsimp only); (try k_fold))
  k_with "call ref" => (k_here; (with_reducible show wpAny _ _ (PySem.call (Value.ref 212) _) _ _ _); (rename News _ _ _ _ => cN9); k_dflt (refine' c_whole_figures (by first | with_reducible assumption | omega | (split <;> omega)) (by first | with_reducible assumption | omega | (split <;> omega)) _ _ _ _ _ _ _ _ _ _ _ _ _ _ _ _ _ (by k_asm) (by k_asm) (by k_asm) cN9 (by k_asm) (by first | exact rfl | assumption) (by first | exact room9 (by assumption) (by rfl) | ktr_room) (by first | exact units9 (by assumption) (by rfl) | ktr_units) ?_); (try dsimp only [RetP, RetT, RetF]); intro hf9 t9 h9 tk9 F9 N9; (try dsimp only); (try k_fold))
  k_with "call ref" => (k_here; (with_reducible show wpAny _ _ (PySem.call (Value.ref 233) _) _ _ _); (rename News _ _ _ _ => cN9); k_dflt (refine' c_scaled (by first | with_reducible assumption | omega | (split <;> omega)) (by first | with_reducible assumption | omega | (split <;> omega)) (by omega) (by omega) _ _ _ _ _ _ _ _ _ _ _ _ _ _ _ _ _ (by k_asm) (by k_asm) (by k_asm) cN9 (by k_asm) (by first | exact rfl | assumption) (by first | exact room9 (by assumption) (by rfl) | ktr_room) (by first | exact units9 (by assumption) (by rfl) | ktr_units) ?_); (try dsimp only [RetP, RetT, RetF]); intro hf9 t9 h9 tk9 F9 N9; (try dsimp only); (try k_fold))
  k_with "call ref" => (k_here; (with_reducible show wpAny _ _ (PySem.call (Value.ref 92) _) _ _ _); (rename News _ _ _ _ => cN9); k_dflt (refine' c_count_digits (by first | with_reducible assumption | omega | (split <;> omega)) _ _ _ _ _ _ _ _ _ _ _ _ _ _ _ _ _ (by k_asm) (by k_asm) (by k_asm) cN9 (by k_asm) (by first | exact rfl | assumption) (by first | exact room9 (by assumption) (by rfl) | ktr_room) (by first | exact units9 (by assumption) (by rfl) | ktr_units) ?_); (try dsimp only [RetP, RetT, RetF]); intro t9 h9 tk9 F9 N9; (try dsimp only); (try k_fold))
  k_with "call ref" => (k_here; (with_reducible show wpAny _ _ (PySem.call (Value.ref 240) _) _ _ _); (rename News _ _ _ _ => cN9); k_dflt (refine' c_figures_of (by first | with_reducible assumption | omega | (split <;> omega)) (by first | with_reducible assumption | omega | (split <;> omega)) (by first | with_reducible assumption | omega | (split <;> omega)) (by first | with_reducible assumption | omega | (split <;> omega)) _ _ _ _ _ _ _ _ _ _ _ _ _ _ _ _ _ (by k_asm) (by k_asm) (by k_asm) cN9 (by k_asm) (by first | exact rfl | assumption) (by first | exact room9 (by assumption) (by rfl) | ktr_room) (by first | exact units9 (by assumption) (by rfl) | ktr_units) ?_); (try dsimp only [RetP, RetT, RetF]); intro hf9 t9 h9 tk9 F9 N9; (try dsimp only); (try k_fold))
  k_with "call ref" => (k_here; (with_reducible show wpAny _ _ (PySem.call (Value.ref 226) _) _ _ _); (rename News _ _ _ _ => cN9); k_dflt (refine' c_sign_text  _ _ _ _ _ _ _ _ _ _ _ _ _ _ _ _ _ (by k_asm) (by k_asm) (by k_asm) cN9 (by k_asm) (by first | exact rfl | assumption) (by first | exact room9 (by assumption) (by rfl) | ktr_room) (by first | exact units9 (by assumption) (by rfl) | ktr_units) ?_); (try dsimp only [RetP, RetT, RetF]); intro hf9 t9 h9 tk9 F9 N9; (try dsimp only); (try k_fold))
  k_with "call ref" => (k_here; (with_reducible show wpAny _ _ (PySem.call (Value.ref 219) _) _ _ _); (rename News _ _ _ _ => cN9); k_dflt (refine' c_field (by first | omega | size_fits) (by omega) (by omega) _ _ _ _ _ _ _ _ _ _ _ _ _ _ _ _ _ (by k_asm) (by k_asm) (by k_asm) cN9 (by k_asm) (by first | exact rfl | assumption) (by first | exact room9 (by assumption) (by rfl) | ktr_room) (by first | exact units9 (by assumption) (by rfl) | ktr_units) ?_); (try dsimp only [RetP, RetT, RetF]); intro t9 h9 tk9 F9 N9; (try dsimp only); (try k_fold))
  k_with "call ref" => (k_here; (with_reducible show wpAny _ _ (PySem.call (Value.ref 303) _) _ _ _); (rename News _ _ _ _ => cN9); k_dflt (refine' c_edit_logical (by omega) (by omega) _ _ _ _ _ _ _ _ _ _ _ _ _ _ _ _ _ (by k_asm) (by k_asm) (by k_asm) cN9 (by k_asm) (by first | exact rfl | assumption) (by first | exact room9 (by assumption) (by rfl) | ktr_room) (by first | exact units9 (by assumption) (by rfl) | ktr_units) ?_); (try dsimp only [RetP, RetT, RetF]); intro t9 h9 tk9 F9 N9; (try dsimp only); (try k_fold))
  k_with "call ref" => (k_here; (with_reducible show wpAny _ _ (PySem.call (Value.ref 212) _) _ _ _); (rename News _ _ _ _ => cN9); k_dflt (refine' c_whole_figures (by first | with_reducible assumption | omega | (split <;> omega)) (by first | with_reducible assumption | omega | (split <;> omega)) _ _ _ _ _ _ _ _ _ _ _ _ _ _ _ _ _ (by k_asm) (by k_asm) (by k_asm) cN9 (by k_asm) (by first | exact rfl | assumption) (by first | exact room9 (by assumption) (by rfl) | ktr_room) (by first | exact units9 (by assumption) (by rfl) | ktr_units) ?_); (try dsimp only [RetP, RetT, RetF]); intro hf9 t9 h9 tk9 F9 N9; (try dsimp only); (try k_fold))
  k_with "call ref" => (k_here; (with_reducible show wpAny _ _ (PySem.call (Value.ref 233) _) _ _ _); (rename News _ _ _ _ => cN9); k_dflt (refine' c_scaled (by first | with_reducible assumption | omega | (split <;> omega)) (by first | with_reducible assumption | omega | (split <;> omega)) (by omega) (by omega) _ _ _ _ _ _ _ _ _ _ _ _ _ _ _ _ _ (by k_asm) (by k_asm) (by k_asm) cN9 (by k_asm) (by first | exact rfl | assumption) (by first | exact room9 (by assumption) (by rfl) | ktr_room) (by first | exact units9 (by assumption) (by rfl) | ktr_units) ?_); (try dsimp only [RetP, RetT, RetF]); intro hf9 t9 h9 tk9 F9 N9; (try dsimp only); (try k_fold))
  k_with "call ref" => (k_here; (with_reducible show wpAny _ _ (PySem.call (Value.ref 92) _) _ _ _); (rename News _ _ _ _ => cN9); k_dflt (refine' c_count_digits (by first | with_reducible assumption | omega | (split <;> omega)) _ _ _ _ _ _ _ _ _ _ _ _ _ _ _ _ _ (by k_asm) (by k_asm) (by k_asm) cN9 (by k_asm) (by first | exact rfl | assumption) (by first | exact room9 (by assumption) (by rfl) | ktr_room) (by first | exact units9 (by assumption) (by rfl) | ktr_units) ?_); (try dsimp only [RetP, RetT, RetF]); intro t9 h9 tk9 F9 N9; (try dsimp only); (try k_fold))
  k_with "call ref" => (k_here; (with_reducible show wpAny _ _ (PySem.call (Value.ref 240) _) _ _ _); (rename News _ _ _ _ => cN9); k_dflt (refine' c_figures_of (by first | with_reducible assumption | omega | (split <;> omega)) (by first | with_reducible assumption | omega | (split <;> omega)) (by first | with_reducible assumption | omega | (split <;> omega)) (by first | with_reducible assumption | omega | (split <;> omega)) _ _ _ _ _ _ _ _ _ _ _ _ _ _ _ _ _ (by k_asm) (by k_asm) (by k_asm) cN9 (by k_asm) (by first | exact rfl | assumption) (by first | exact room9 (by assumption) (by rfl) | ktr_room) (by first | exact units9 (by assumption) (by rfl) | ktr_units) ?_); (try dsimp only [RetP, RetT, RetF]); intro hf9 t9 h9 tk9 F9 N9; (try dsimp only); (try k_fold))
  k_with "call ref" => (k_here; (with_reducible show wpAny _ _ (PySem.call (Value.ref 247) _) _ _ _); (rename News _ _ _ _ => cN9); k_dflt (refine' c_edit_int (by first | with_reducible assumption | omega | (split <;> omega)) (by first | with_reducible assumption | omega | (split <;> omega)) (by first | with_reducible assumption | omega | (split <;> omega)) (by first | assumption) _ _ _ _ _ _ _ _ _ _ _ _ _ _ _ _ _ (by k_asm) (by k_asm) (by k_asm) cN9 (by k_asm) (by first | exact rfl | assumption) (by first | exact room9 (by assumption) (by rfl) | ktr_room) (by first | exact units9 (by assumption) (by rfl) | ktr_units) ?_); (try dsimp only [RetP, RetT, RetF]); intro t9 h9 tk9 F9 N9; (try dsimp only); (try k_fold))
  k_with "call ref" => (k_here; (with_reducible show wpAny _ _ (PySem.call (Value.ref 254) _) _ _ _); (rename News _ _ _ _ => cN9); k_dflt (refine' c_point_field (by first | omega | size_fits) (by first | omega | size_fits) (by first | omega | size_fits) (by first | with_reducible assumption | omega | (split <;> omega)) (by first | with_reducible assumption | omega | (split <;> omega)) _ _ _ _ _ _ _ _ _ _ _ _ _ _ _ _ _ (by k_asm) (by k_asm) (by k_asm) cN9 (by k_asm) (by first | exact rfl | assumption) (by first | exact room9 (by assumption) (by rfl) | ktr_room) (by first | exact units9 (by assumption) (by rfl) | ktr_units) ?_); (try dsimp only [RetP, RetT, RetF]); intro t9 h9 tk9 F9 N9; (try dsimp only); (try k_fold))
  k_with "call ref" => (k_here; (with_reducible show wpAny _ _ (PySem.call (Value.ref 261) _) _ _ _); (rename News _ _ _ _ => cN9); k_dflt (refine' c_edit_fixed (by assumption) (by first | with_reducible assumption | omega | (split <;> omega)) (by first | with_reducible assumption | omega | (split <;> omega)) (by first | with_reducible assumption | omega | (split <;> omega)) (by first | with_reducible assumption | omega | (split <;> omega)) (by first | with_reducible assumption | omega | (split <;> omega)) (by first | with_reducible assumption | omega | (split <;> omega)) (by first | with_reducible assumption | omega | (split <;> omega)) (by first | with_reducible assumption | omega | (split <;> omega)) (by first | with_reducible assumption | omega | (split <;> omega)) _ _ _ _ _ _ _ _ _ _ _ _ _ _ _ _ _ (by k_asm) (by k_asm) (by k_asm) cN9 (by k_asm) (by first | exact rfl | assumption) (by first | exact room9 (by assumption) (by rfl) | ktr_room) (by first | exact units9 (by assumption) (by rfl) | ktr_units) ?_); (try dsimp only [RetP, RetT, RetF]); intro t9 h9 tk9 F9 N9; (try dsimp only); (try k_fold))
  k_with "call ref" => (k_here; (with_reducible show wpAny _ _ (PySem.call (Value.ref 268) _) _ _ _); (rename News _ _ _ _ => cN9); k_dflt (refine' c_leading (by assumption) (by first | with_reducible assumption | omega | (split <;> omega)) (by first | with_reducible assumption | omega | (split <;> omega)) (by first | with_reducible assumption | omega | (split <;> omega)) (by first | with_reducible assumption | omega | (split <;> omega)) _ _ _ _ _ _ _ _ _ _ _ _ _ _ _ _ _ (by k_asm) (by k_asm) (by k_asm) cN9 (by k_asm) (by first | exact rfl | assumption) (by first | exact room9 (by assumption) (by rfl) | ktr_room) (by first | exact units9 (by assumption) (by rfl) | ktr_units) ?_); (try dsimp only [RetP, RetT, RetF]); intro q9 t91 t92 t93 h9 tk9 F9 N9 l9; (try k_lt l9); (try dsimp only); (try k_fold))
  k_with "subscriptTail" => (k_here; (with_reducible show wpAny _ _ (subscriptTail _ _ (Value.ref _) (Value.int 0 _)) _ _ _); (with_unfolding_all refine' item_T0 (by assumption) (by k_asm) (by kcj_all) (by k_in) ?_ (by with_unfolding_all rfl)); intro tv9)
  k_with "subscriptTail" => (k_here; (with_reducible show wpAny _ _ (subscriptTail _ _ (Value.ref _) (Value.int 1 _)) _ _ _); (with_unfolding_all refine' item_T1 (by assumption) (by k_asm) (by kcj_all) (by k_in) ?_ (by with_unfolding_all rfl)); intro tv9)
  k_with "call ref" => (k_here; (with_reducible show wpAny _ _ (PySem.call (Value.ref 275) _) _ _ _); (rename News _ _ _ _ => cN9); k_dflt (refine' c_exponent_text (by first | assumption | omega | size_fits) (by omega) (by assumption) _ _ _ _ _ _ _ _ _ _ _ _ _ _ _ _ _ (by k_asm) (by k_asm) (by k_asm) cN9 (by k_asm) (by first | exact rfl | assumption) (by first | exact room9 (by assumption) (by rfl) | ktr_room) (by first | exact units9 (by assumption) (by rfl) | ktr_units) ?_); (try dsimp only [RetP, RetT, RetF]); intro hf9 t9 h9 tk9 F9 N9; (try dsimp only); (try k_fold))
  trivial

open PySem.Builtin PySem.Builtin.Str in
theorem slice_to_big {x : Str} {j : Int} (h : (x.length : Int) ≤ j) : Txt.slice x none (some j) = Txt.slice x none (some (x.length : Int)) := by
  have e : strSliceIndices none (some j) 1 x.length = strSliceIndices none (some (x.length : Int)) 1 x.length := by
    unfold strSliceIndices
    have h1 : ¬ j < 0 := by omega
    have h2 : ¬ (x.length : Int) < 0 := by (clear h h1; omega)
    simp only [if_neg h1, if_neg h2, show (1 : Int) > 0 by decide, if_true]
    rw [Int.min_eq_right h, Int.min_self]
  unfold Txt.slice
  rw [e]
theorem cs_slice_to' {x : Str} {j : Int} (h0 : 0 ≤ j) : cs (Txt.slice x none (some j)) = (cs x).take j.toNat := by
  by_cases h : j ≤ ((cs x).length : Int)
  · exact cs_slice_to h0 h
  · rw [slice_to_big (by rw [len_cs]; (clear h0; omega)), cs_slice_to (by (clear h0 h; omega)) (by rw [len_cs]; (clear h0 h; omega)), List.take_of_length_le (by rw [len_cs]; (clear h0 h; omega)), List.take_of_length_le (by (clear h0; omega))]
theorem ldD_len {m c : Int} (h0 : 0 ≤ c) (h1 : c ≤ 20) : (S (ldD m c)).length ≤ 20 := by
  rw [len_S]; unfold ldD
  split
  · rw [List.length_replicate]; (clear h0; omega)
  · split
    · rw [List.length_take]; (clear h0; omega)
    · (clear h0; omega)
theorem ldP_le {m e c : Int} (h1 : m.natAbs < 1000000000) (he : e.natAbs ≤ 50) : (ldP m e c).natAbs ≤ 70 := by
  have := cdN_lt (n := m.natAbs) (k := 9) (by (clear he; omega))
  unfold ldP
  split
  · decide
  · split <;> (clear h1; omega)
noncomputable def EEc (d k : Int) : Int := if k ≤ 0 then d + k else d + 1
noncomputable def EEt (lt : List Nat) (m e d k : Int) (sz : Nat) : List Nat := exL lt (ldP m e (EEc d k) - if m = 0 then 0 else k) sz
noncomputable def EE (lt : List Nat) (m e w d k : Int) (sz : Nat) (plus : Bool) : List Nat :=
  if 0 < k then ptL (signL (decide (m < 0)) plus) ((ldD m (EEc d k)).take k.toNat) ((ldD m (EEc d k)).drop k.toNat ++ EEt lt m e d k sz) w
  else ptL (signL (decide (m < 0)) plus) [] (List.replicate (-k).toNat 48 ++ ldD m (EEc d k) ++ EEt lt m e d k sz) w
theorem ee_lo {lt : List Nat} {m e n d k p : Int} {sz : Nat} {plus : Bool} (hk : k ≤ 0) (hp : p = ldP m e (d + k) - if m = 0 then 0 else k) :
    S (ptL (cs (S (signL (decide (m < 0)) plus))) (cs (Str.ofString "")) (cs (Txt.mul (Str.ofString "0") (-k) ++ S (ldD m (d + k)) ++ S (exL lt p sz))) n) = S (EE lt m e n d k sz plus) := by
  have hc : EEc d k = d + k := if_pos hk
  unfold EE EEt
  rw [if_neg (by (clear hc hp; omega)), hc, hp, cs_S, lit_e, cs_append, cs_append, cs_S, cs_S, cs_mul, lit_0, flat_one]
theorem ee_hi {lt : List Nat} {m e n d k p : Int} {sz : Nat} {plus : Bool} (hk : ¬ k ≤ 0) (hp : p = ldP m e (d + 1) - if m = 0 then 0 else k) :
    S (ptL (cs (S (signL (decide (m < 0)) plus))) (cs (Txt.slice (S (ldD m (d + 1))) none (some k))) (cs (Txt.slice (S (ldD m (d + 1))) (some k) none ++ S (exL lt p sz))) n) = S (EE lt m e n d k sz plus) := by
  have hc : EEc d k = d + 1 := if_neg hk
  unfold EE EEt
  rw [if_pos (by (clear hc hp; omega)), hc, hp, cs_S, cs_append, cs_S, cs_slice_to' (by (clear hc hp; omega)), cs_slice_from (by (clear hc hp; omega)), cs_S]
set_option maxRecDepth 100000 in
set_option maxHeartbeats 8000000 in
theorem c_edit_exp {w : World} {mg mb p loose mean news} {x : Str} {q : Addr} {m9 e9 n d k : Int} {sv : Value} {plus : Bool} {t u1 u2 u3 : Tok} (hx : x.length ≤ 1) (hv : HasT news q m9 e9) (h1 : m9.natAbs < 1000000000) (he : e9.natAbs ≤ 50) (hd0 : 2 ≤ d) (hd1 : d ≤ 7) (hsv : SizeOk sv) (hk0 : -1 ≤ k) (hk1 : k ≤ 2) (hw0 : 0 ≤ n) (hw1 : n ≤ 100) :
    Ct w mg mb p loose mean 5 282 [.str x t, .ref q, .int n u1, .int d u2, sv, .int k u3, .bool plus] news (RetP news fun t => .str (S (EE (cs x) m9 e9 n d k (szN sv) plus)) t) := by
  dsimp only [Ct, RetP, RetT, RetF]
  k_fill
  intro dp un gd cn cz a ccd cl outer A₀ base h₀ L m s Q E B F X N T hk hd hu hret
  refine wpAny_call ?_
  k_dflt (refine' code_def (binds := [(Str.ofString "letter", .str x t), (Str.ofString "value", .ref q), (Str.ofString "width", .int n u1), (Str.ofString "places", .int d u2), (Str.ofString "size", sv), (Str.ofString "scale", .int k u3), (Str.ofString "is_plus", .bool plus)]) ?k1 ?k2 ?k3 ?k4 ?k5 ?kA ?kF ?kK ?k6 ?k7 ?k8 ?k9 ?kB ?_ ?c2 ?c3 ?c4 ?c5; (case kA => exact rfl); (case kF => exact rfl); (case kK => assumption); (case k1 => k_asm); (case k2 => k_asm); (case k3 => k_asm); (case k4 => k_asm); (case k5 => k_asm); (case k6 => k_is); (case k7 => k_is); (case k8 => ktr_room); (case k9 => exact BindsTo.of_eq rfl); (case c5 => decide); (case kB => exact locs rfl); (case c2 => exact rfl); (case c3 => exact rfl); (case c4 => exact rfl); k_whole; intro g' L' h' FG' F' N' B' X' T'; (try dsimp only); (try k_lift B'); (try k_fold))
  have hP1 := ldP_le (c := d + 1) h1 he
  have hP2 := ldP_le (c := d + k) h1 he
  have hD1 := ldD_len (m := m9) (c := d + 1) (by (clear hx h1 he hk0 hd hP2 B' hP1 hu hret F' hw0 hw1 hd1 hk1 T' T N F X' N' hk X hv FG' B hsv; omega)) (by (clear hw1 hw0 hd0 hx h1 he hk0 hd hP2 B' hP1 hu hret F' hk1 T' T N F X' N' hk X hv FG' B hsv; omega))
  have hD2 := ldD_len (m := m9) (c := d + k) (by (clear hd hP2 B' hD1 hP1 hu hret F' he h1 hx hd1 hw0 hw1 hk1 T' T F N X' FG' N' X B hv hk hsv; omega)) (by (clear hx h1 he hk0 hd hP2 B' hD1 hP1 hu hret F' hw0 hw1 hd0 T' T F N X' FG' N' X B hv hk hsv; omega))
  k_steps
  all_goals (refine cb_retS hret ?_ (by k_asm) (cb_drop (by assumption) (by kcj_all)))
  · exact ee_lo (by assumption) (by rw [if_neg (by assumption)])
  · exact ee_lo (by assumption) (by rw [if_pos (by assumption), Int.sub_zero])
  · exact ee_hi (by assumption) (by rw [if_neg (by assumption)])
  · exact ee_hi (by assumption) (by rw [if_pos (by assumption), Int.sub_zero])

theorem lnC11_3 : True := by
  k_with "call ref" => (k_here; (with_reducible show wpAny _ _ (PySem.call (Value.ref 282) _) _ _ _); (rename News _ _ _ _ => cN9); k_dflt (refine' c_edit_exp (by first | assumption | size_fits | (rw [len_cs]; simp)) (by assumption) (by first | with_reducible assumption | omega | (split <;> omega)) (by first | with_reducible assumption | omega | (split <;> omega)) (by first | with_reducible assumption | omega | (split <;> omega)) (by first | with_reducible assumption | omega | (split <;> omega)) (by assumption) (by first | with_reducible assumption | omega | (split <;> omega)) (by first | with_reducible assumption | omega | (split <;> omega)) (by first | with_reducible assumption | omega | (split <;> omega)) (by first | with_reducible assumption | omega | (split <;> omega)) _ _ _ _ _ _ _ _ _ _ _ _ _ _ _ _ _ (by k_asm) (by k_asm) (by k_asm) cN9 (by k_asm) (by first | exact rfl | assumption) (by first | exact room9 (by assumption) (by rfl) | ktr_room) (by first | exact units9 (by assumption) (by rfl) | ktr_units) ?_); (try dsimp only [RetP, RetT, RetF]); intro t9 h9 tk9 F9 N9; (try dsimp only); (try k_fold))
  trivial

noncomputable def wInt (x : Str) : Value → Int
  | .int i _ => i
  | _ => (x.length : Int)
def WideOk (v : Value) : Prop := v = .none ∨ ∃ i t, v = .int i t ∧ 0 ≤ i ∧ i ≤ 100
noncomputable def ET (l : List Nat) (n : Int) : List Nat := if n < (l.length : Int) then l.take n.toNat else List.replicate (n - (l.length : Int)).toNat 32 ++ l
theorem et_none (x : Str) : x = S (ET (cs x) (wInt x .none)) := by
  show x = S (ET (cs x) (x.length : Int))
  unfold ET; rw [len_cs, if_neg (by omega), Int.sub_self]; simp
theorem et_cut {x : Str} {n : Int} (h0 : 0 ≤ n) (h : n < (x.length : Int)) : Txt.slice x none (some n) = S (ET (cs x) n) := by
  rw [len_cs] at h
  exact eq_S (by unfold ET; rw [cs_slice_to' h0, if_pos h])
theorem et_fill {x : Str} {n : Int} (h : ¬ n < (x.length : Int)) : S (fieldL (cs x) n) = S (ET (cs x) n) := by
  rw [len_cs] at h
  unfold fieldL ET; rw [if_neg h, if_neg h]
set_option maxRecDepth 100000 in
set_option maxHeartbeats 8000000 in
theorem c_edit_text {w : World} {mg mb p loose mean news} {x : Str} {wv : Value} {t : Tok} (hx : x.length ≤ 100) (hwv : WideOk wv) :
    Ct w mg mb p loose mean 2 310 [.str x t, wv] news (RetP news fun t => .str (S (ET (cs x) (wInt x wv))) t) := by
  dsimp only [Ct, RetP, RetT, RetF]
  k_fill
  intro dp un gd cn cz a ccd cl outer A₀ base h₀ L m s Q E B F X N T hk hd hu hret
  refine wpAny_call ?_
  k_dflt (refine' code_def (binds := [(Str.ofString "text", .str x t), (Str.ofString "width", wv)]) ?k1 ?k2 ?k3 ?k4 ?k5 ?kA ?kF ?kK ?k6 ?k7 ?k8 ?k9 ?kB ?_ ?c2 ?c3 ?c4 ?c5; (case kA => exact rfl); (case kF => exact rfl); (case kK => assumption); (case k1 => k_asm); (case k2 => k_asm); (case k3 => k_asm); (case k4 => k_asm); (case k5 => k_asm); (case k6 => k_is); (case k7 => k_is); (case k8 => ktr_room); (case k9 => exact BindsTo.of_eq rfl); (case c5 => decide); (case kB => exact locs rfl); (case c2 => exact rfl); (case c3 => exact rfl); (case c4 => exact rfl); k_whole; intro g' L' h' FG' F' N' B' X' T'; (try dsimp only); (try k_lift B'); (try k_fold))
  rcases hwv with rfl | ⟨i, ti, rfl, hi0, hi1⟩
  · k_steps
    all_goals (refine cb_retS hret ?_ (by k_asm) (by k_asm))
    · exact et_none x
  · k_steps
    all_goals (refine cb_retS hret ?_ (by k_asm) (by k_asm))
    · exact et_cut hi0 (by assumption)
    · exact et_fill (by assumption)

theorem lnC11_4 : True := by
  k_with "call ref" => (k_here; (with_reducible show wpAny _ _ (PySem.call (Value.ref 310) _) _ _ _); (rename News _ _ _ _ => cN9); k_dflt (refine' c_edit_text (by first | assumption | omega | size_fits) (by assumption) _ _ _ _ _ _ _ _ _ _ _ _ _ _ _ _ _ (by k_asm) (by k_asm) (by k_asm) cN9 (by k_asm) (by first | exact rfl | assumption) (by first | exact room9 (by assumption) (by rfl) | ktr_room) (by first | exact units9 (by assumption) (by rfl) | ktr_units) ?_); (try dsimp only [RetP, RetT, RetF]); intro t9 h9 tk9 F9 N9; (try dsimp only); (try k_fold))
  trivial
set_option maxRecDepth 100000 in
set_option maxHeartbeats 8000000 in
theorem c_edit_real_F {w : World} {mg mb p loose mean news} {it q : Addr} {m9 e9 n d k : Int} {plus : Bool} {t0 t1 t2 u3 : Tok} (hit : (it, tupO #[.str (Str.ofString "F") t0, .int n t1, .int d t2]) ∈ news) (hv : HasT news q m9 e9) (h1 : m9.natAbs < 1000000000000000000) (hp1 : -9 ≤ e9 + k + d) (hp2 : e9 + k + d ≤ 18) (he : e9.natAbs ≤ 1000) (hkk : k.natAbs ≤ 10) (hd0 : 0 ≤ d) (hd1 : d ≤ 10) (hw0 : 0 ≤ n) (hw1 : n ≤ 100) :
    Ct w mg mb p loose mean 6 317 [.ref it, .ref q, .int k u3, .bool plus] news (RetP news fun t => .str (S (EF m9 e9 n d k plus)) t) := by
  dsimp only [Ct, RetP, RetT, RetF]
  k_fill
  intro dp un gd cn cz a ccd cl outer A₀ base h₀ L m s Q E B F X N T hk hd hu hret
  refine wpAny_call ?_
  k_dflt (refine' code_def (binds := [(Str.ofString "item", .ref it), (Str.ofString "value", .ref q), (Str.ofString "scale", .int k u3), (Str.ofString "is_plus", .bool plus)]) ?k1 ?k2 ?k3 ?k4 ?k5 ?kA ?kF ?kK ?k6 ?k7 ?k8 ?k9 ?kB ?_ ?c2 ?c3 ?c4 ?c5; (case kA => exact rfl); (case kF => exact rfl); (case kK => assumption); (case k1 => k_asm); (case k2 => k_asm); (case k3 => k_asm); (case k4 => k_asm); (case k5 => k_asm); (case k6 => k_is); (case k7 => k_is); (case k8 => ktr_room); (case k9 => exact BindsTo.of_eq rfl); (case c5 => decide); (case kB => exact locs rfl); (case c2 => exact rfl); (case c3 => exact rfl); (case c4 => exact rfl); k_whole; intro g' L' h' FG' F' N' B' X' T'; (try dsimp only); (try k_lift B'); (try k_fold))
  k_steps
  all_goals (refine cb_retS hret ?_ (by k_asm) (by k_asm))
  · rfl

set_option maxRecDepth 100000 in
set_option maxHeartbeats 8000000 in
theorem c_edit_real_E {w : World} {mg mb p loose mean news} {it q : Addr} {m9 e9 n d k : Int} {sv : Value} {plus : Bool} {t0 t1 t2 u3 : Tok} (hit : (it, tupO #[.str (Str.ofString "E") t0, .int n t1, .int d t2, sv]) ∈ news) (hv : HasT news q m9 e9) (h1 : m9.natAbs < 1000000000) (he : e9.natAbs ≤ 50) (hd0 : 2 ≤ d) (hd1 : d ≤ 7) (hsv : SizeOk sv) (hk0 : -1 ≤ k) (hk1 : k ≤ 2) (hw0 : 0 ≤ n) (hw1 : n ≤ 100) :
    Ct w mg mb p loose mean 6 317 [.ref it, .ref q, .int k u3, .bool plus] news (RetP news fun t => .str (S (EE [69] m9 e9 n d k (szN sv) plus)) t) := by
  dsimp only [Ct, RetP, RetT, RetF]
  k_fill
  intro dp un gd cn cz a ccd cl outer A₀ base h₀ L m s Q E B F X N T hk hd hu hret
  refine wpAny_call ?_
  k_dflt (refine' code_def (binds := [(Str.ofString "item", .ref it), (Str.ofString "value", .ref q), (Str.ofString "scale", .int k u3), (Str.ofString "is_plus", .bool plus)]) ?k1 ?k2 ?k3 ?k4 ?k5 ?kA ?kF ?kK ?k6 ?k7 ?k8 ?k9 ?kB ?_ ?c2 ?c3 ?c4 ?c5; (case kA => exact rfl); (case kF => exact rfl); (case kK => assumption); (case k1 => k_asm); (case k2 => k_asm); (case k3 => k_asm); (case k4 => k_asm); (case k5 => k_asm); (case k6 => k_is); (case k7 => k_is); (case k8 => ktr_room); (case k9 => exact BindsTo.of_eq rfl); (case c5 => decide); (case kB => exact locs rfl); (case c2 => exact rfl); (case c3 => exact rfl); (case c4 => exact rfl); k_whole; intro g' L' h' FG' F' N' B' X' T'; (try dsimp only); (try k_lift B'); (try k_fold))
  k_steps
  all_goals (refine cb_retS hret ?_ (by k_asm) (by k_asm))
  · rw [lit_E]

set_option maxRecDepth 100000 in
set_option maxHeartbeats 8000000 in
theorem c_edit_real_D {w : World} {mg mb p loose mean news} {it q : Addr} {m9 e9 n d k : Int} {plus : Bool} {t0 t1 t2 u3 : Tok} (hit : (it, tupO #[.str (Str.ofString "D") t0, .int n t1, .int d t2]) ∈ news) (hv : HasT news q m9 e9) (h1 : m9.natAbs < 1000000000) (he : e9.natAbs ≤ 50) (hd0 : 2 ≤ d) (hd1 : d ≤ 7) (hk0 : -1 ≤ k) (hk1 : k ≤ 2) (hw0 : 0 ≤ n) (hw1 : n ≤ 100) :
    Ct w mg mb p loose mean 6 317 [.ref it, .ref q, .int k u3, .bool plus] news (RetP news fun t => .str (S (EE [68] m9 e9 n d k 2 plus)) t) := by
  dsimp only [Ct, RetP, RetT, RetF]
  k_fill
  intro dp un gd cn cz a ccd cl outer A₀ base h₀ L m s Q E B F X N T hk hd hu hret
  refine wpAny_call ?_
  k_dflt (refine' code_def (binds := [(Str.ofString "item", .ref it), (Str.ofString "value", .ref q), (Str.ofString "scale", .int k u3), (Str.ofString "is_plus", .bool plus)]) ?k1 ?k2 ?k3 ?k4 ?k5 ?kA ?kF ?kK ?k6 ?k7 ?k8 ?k9 ?kB ?_ ?c2 ?c3 ?c4 ?c5; (case kA => exact rfl); (case kF => exact rfl); (case kK => assumption); (case k1 => k_asm); (case k2 => k_asm); (case k3 => k_asm); (case k4 => k_asm); (case k5 => k_asm); (case k6 => k_is); (case k7 => k_is); (case k8 => ktr_room); (case k9 => exact BindsTo.of_eq rfl); (case c5 => decide); (case kB => exact locs rfl); (case c2 => exact rfl); (case c3 => exact rfl); (case c4 => exact rfl); k_whole; intro g' L' h' FG' F' N' B' X' T'; (try dsimp only); (try k_lift B'); (try k_fold))
  have hsv : SizeOk .none := .inl rfl
  k_steps
  all_goals (refine cb_retS hret ?_ (by k_asm) (by k_asm))
  · rw [lit_D]; rfl

end
section
theorem lnC12_1 : True := by
  k_with_none
  k_with "omega" => ((try clear hret); (try clear hk); (try clear hd); (try clear hu); first | lia | omega +splitDisjunctions)
  trivial
theorem lnC12_2 : True := by
  k_with "execs cons" => ((with_reducible refine wpAny_execs_cons ?_); try dsimp only)
  k_with "execs nil" => refine wpAny_execs_nil ?_
  k_with "call ref" => (k_here; (with_reducible show wpAny _ _ (PySem.call (Value.ref 212) _) _ _ _); (rename News _ _ _ _ => cN9); k_dflt (refine' c_whole_figures (by first | with_reducible assumption | omega | (split <;> omega)) (by first | with_reducible assumption | omega | (split <;> omega)) _ _ _ _ _ _ _ _ _ _ _ _ _ _ _ _ _ (by k_asm) (by k_asm) (by k_asm) cN9 (by k_asm) (by first | exact rfl | assumption) (by first | exact room9 (by assumption) (by rfl) | ktr_room) (by first | exact units9 (by assumption) (by rfl) | ktr_units) ?_); (try dsimp only [RetP, RetT, RetF]); intro hf9 t9 h9 tk9 F9 N9; (try dsimp only); (try k_fold))
  k_with "call ref" => (k_here; (with_reducible show wpAny _ _ (PySem.call (Value.ref 233) _) _ _ _); (rename News _ _ _ _ => cN9); k_dflt (refine' c_scaled (by first | with_reducible assumption | omega | (split <;> omega)) (by first | with_reducible assumption | omega | (split <;> omega)) (by omega) (by omega) _ _ _ _ _ _ _ _ _ _ _ _ _ _ _ _ _ (by k_asm) (by k_asm) (by k_asm) cN9 (by k_asm) (by first | exact rfl | assumption) (by first | exact room9 (by assumption) (by rfl) | ktr_room) (by first | exact units9 (by assumption) (by rfl) | ktr_units) ?_); (try dsimp only [RetP, RetT, RetF]); intro hf9 t9 h9 tk9 F9 N9; (try dsimp only); (try k_fold))
  k_with "call ref" => (k_here; (with_reducible show wpAny _ _ (PySem.call (Value.ref 92) _) _ _ _); (rename News _ _ _ _ => cN9); k_dflt (refine' c_count_digits (by first | with_reducible assumption | omega | (split <;> omega)) _ _ _ _ _ _ _ _ _ _ _ _ _ _ _ _ _ (by k_asm) (by k_asm) (by k_asm) cN9 (by k_asm) (by first | exact rfl | assumption) (by first | exact room9 (by assumption) (by rfl) | ktr_room) (by first | exact units9 (by assumption) (by rfl) | ktr_units) ?_); (try dsimp only [RetP, RetT, RetF]); intro t9 h9 tk9 F9 N9; (try dsimp only); (try k_fold))
  k_with "call ref" => (k_here; (with_reducible show wpAny _ _ (PySem.call (Value.ref 240) _) _ _ _); (rename News _ _ _ _ => cN9); k_dflt (refine' c_figures_of (by first | with_reducible assumption | omega | (split <;> omega)) (by first | with_reducible assumption | omega | (split <;> omega)) (by first | with_reducible assumption | omega | (split <;> omega)) (by first | with_reducible assumption | omega | (split <;> omega)) _ _ _ _ _ _ _ _ _ _ _ _ _ _ _ _ _ (by k_asm) (by k_asm) (by k_asm) cN9 (by k_asm) (by first | exact rfl | assumption) (by first | exact room9 (by assumption) (by rfl) | ktr_room) (by first | exact units9 (by assumption) (by rfl) | ktr_units) ?_); (try dsimp only [RetP, RetT, RetF]); intro hf9 t9 h9 tk9 F9 N9; (try dsimp only); (try k_fold))
  k_with "call ref" => (k_here; (with_reducible show wpAny _ _ (PySem.call (Value.ref 120) _) _ _ _); (rename News _ _ _ _ => cN9); k_dflt (refine' c_digits_of (by first | with_reducible assumption | omega) (by with_reducible assumption) _ _ _ _ _ _ _ _ _ _ _ _ _ _ _ _ _ (by k_asm) (by k_asm) (by k_asm) cN9 (by k_asm) (by first | exact rfl | assumption) (by first | exact room9 (by assumption) (by rfl) | ktr_room) (by first | exact units9 (by assumption) (by rfl) | ktr_units) ?_); (try dsimp only [RetP, RetT, RetF]); intro t9 h9 tk9 F9 N9; (try dsimp only); (try k_fold))
  k_with "call ref" => (k_here; (with_reducible show wpAny _ _ (PySem.call (Value.ref 106) _) _ _ _); (rename News _ _ _ _ => cN9); k_dflt (refine' c_round_digits (by first | with_reducible assumption | omega | (split <;> omega)) (by first | with_reducible assumption | omega | (split <;> omega)) (by first | with_reducible assumption | omega | (split <;> omega)) (by first | with_reducible assumption | omega | (split <;> omega)) _ _ _ _ _ _ _ _ _ _ _ _ _ _ _ _ _ (by k_asm) (by k_asm) (by k_asm) cN9 (by k_asm) (by first | exact rfl | assumption) (by first | exact room9 (by assumption) (by rfl) | ktr_room) (by first | exact units9 (by assumption) (by rfl) | ktr_units) ?_); (try dsimp only [RetP, RetT, RetF]); (refine ⟨fun hz9 h9 tk9 F9 N9 => ?_, fun hz9 q9 t91 t92 h9 tk9 F9 N9 l9 => ?_⟩) <;> ((try dsimp only); (try k_fold)))
  k_with "call ref" => (k_here; (with_reducible show wpAny _ _ (PySem.call (Value.ref 113) _) _ _ _); (rename News _ _ _ _ => cN9); k_dflt (refine' c_round_real (by first | with_reducible assumption | omega | (split <;> omega)) (by first | with_reducible assumption | omega | (split <;> omega)) (by first | with_reducible assumption | omega | (split <;> omega)) (by first | with_reducible assumption | omega | (split <;> omega)) (by first | with_reducible assumption | omega | (split <;> omega)) (by first | with_reducible assumption | omega | (split <;> omega)) _ _ _ _ _ _ _ _ _ _ _ _ _ _ _ _ _ (by k_asm) (by k_asm) (by k_asm) cN9 (by k_asm) (by first | exact rfl | assumption) (by first | exact room9 (by assumption) (by rfl) | ktr_room) (by first | exact units9 (by assumption) (by rfl) | ktr_units) ?_); (try dsimp only [RetP, RetT, RetF]); (refine ⟨fun hz9 h9 tk9 F9 N9 => ?_, fun hz9 q9 t91 t92 h9 tk9 F9 N9 l9 => ?_⟩) <;> ((try dsimp only); (try k_fold)))
  k_with "call ref" => (k_here; (with_reducible show wpAny _ _ (PySem.call (Value.ref 128) _) _ _ _); (rename News _ _ _ _ => cN9); k_dflt (refine' c_solid_field (by first | with_reducible assumption | size_fits) (by first | assumption | (fail "hxl")) (by first | assumption | (fail "hl")) _ _ _ _ _ _ _ _ _ _ _ _ _ _ _ _ _ (by k_asm) (by k_asm) (by k_asm) cN9 (by k_asm) (by first | exact rfl | assumption) (by first | exact room9 (by assumption) (by rfl) | ktr_room) (by first | exact units9 (by assumption) (by rfl) | ktr_units) ?_); (try dsimp only [RetP, RetT, RetF]); intro t9 h9 tk9 F9 N9; (try dsimp only); (try k_fold))
  k_with "call ref" => (k_here; (with_reducible show wpAny _ _ (PySem.call (Value.ref 163) _) _ _ _); (rename News _ _ _ _ => cN9); k_dflt (refine' c_cut_exponent_y (by first | with_reducible assumption | size_fits | (simp only [len_S, cs_S] at *; omega)) (by first | assumption | (simp only [cs_S]; assumption)) (by first | assumption | (simp only [cs_S]; assumption)) (by first | assumption | (simp only [cs_S]; assumption)) _ _ _ _ _ _ _ _ _ _ _ _ _ _ _ _ _ (by k_asm) (by k_asm) (by k_asm) cN9 (by k_asm) (by first | exact rfl | assumption) (by first | exact room9 (by assumption) (by rfl) | ktr_room) (by first | exact units9 (by assumption) (by rfl) | ktr_units) ?_); (try dsimp only [RetP, RetT, RetF]); intro q9 t91 t92 t93 h9 tk9 F9 N9 l9; (try k_lt l9); (try dsimp only); (try k_fold))
  k_with "call ref" => (k_here; (with_reducible show wpAny _ _ (PySem.call (Value.ref 163) _) _ _ _); (rename News _ _ _ _ => cN9); k_dflt (refine' c_cut_exponent_n (by first | with_reducible assumption | size_fits | (simp only [len_S, cs_S] at *; omega)) (by first | assumption | (simp only [cs_S]; assumption)) _ _ _ _ _ _ _ _ _ _ _ _ _ _ _ _ _ (by k_asm) (by k_asm) (by k_asm) cN9 (by k_asm) (by first | exact rfl | assumption) (by first | exact room9 (by assumption) (by rfl) | ktr_room) (by first | exact units9 (by assumption) (by rfl) | ktr_units) ?_); (try dsimp only [RetP, RetT, RetF]); intro q9 t91 t92 t93 h9 tk9 F9 N9 l9; (try k_lt l9); (try dsimp only); (try k_fold))
  k_with "call ref" => (k_here; (with_reducible show wpAny _ _ (PySem.call (Value.ref 142) _) _ _ _); (rename News _ _ _ _ => cN9); k_dflt (refine' c_cut_sign (by first | with_reducible assumption | size_fits | (simp only [len_S, cs_S] at *; omega)) _ _ _ _ _ _ _ _ _ _ _ _ _ _ _ _ _ (by k_asm) (by k_asm) (by k_asm) cN9 (by k_asm) (by first | exact rfl | assumption) (by first | exact room9 (by assumption) (by rfl) | ktr_room) (by first | exact units9 (by assumption) (by rfl) | ktr_units) ?_); (try dsimp only [RetP, RetT, RetF]); intro q9 t91 t92 t93 h9 tk9 F9 N9 l9; (try k_lt l9); (try dsimp only); (try k_fold))
  k_with "call ref" => (k_here; (with_reducible show wpAny _ _ (PySem.call (Value.ref 135) _) _ _ _); (rename News _ _ _ _ => cN9); k_dflt (refine' c_whole_of (by first | with_reducible assumption | size_fits | (simp only [len_S, cs_S] at *; omega)) (by first | assumption | (simp only [cs_S]; assumption)) (by first | assumption | (simp only [cs_S]; assumption)) _ _ _ _ _ _ _ _ _ _ _ _ _ _ _ _ _ (by k_asm) (by k_asm) (by k_asm) cN9 (by k_asm) (by first | exact rfl | assumption) (by first | exact room9 (by assumption) (by rfl) | ktr_room) (by first | exact units9 (by assumption) (by rfl) | ktr_units) ?_); (try dsimp only [RetP, RetT, RetF]); intro t9 h9 tk9 F9 N9; (try dsimp only); (try k_fold))
  k_with "call ref" => (k_here; (with_reducible show wpAny _ _ (PySem.call (Value.ref 170) _) _ _ _); (rename News _ _ _ _ => cN9); k_dflt (refine' c_field_exponent (by first | with_reducible assumption | size_fits | (simp only [len_S, cs_S] at *; omega)) (by first | assumption | (simp only [cs_S]; assumption)) (by first | assumption | (simp only [cs_S]; assumption)) (by first | with_reducible assumption | (simp only [cs_S]; with_reducible assumption) | (simp only [cs_S]; omega)) _ _ _ _ _ _ _ _ _ _ _ _ _ _ _ _ _ (by k_asm) (by k_asm) (by k_asm) cN9 (by k_asm) (by first | exact rfl | assumption) (by first | exact room9 (by assumption) (by rfl) | ktr_room) (by first | exact units9 (by assumption) (by rfl) | ktr_units) ?_); (try dsimp only [RetP, RetT, RetF]); intro t9 h9 tk9 F9 N9; (try dsimp only); (try k_fold))
  k_with "call ref" => (k_here; (with_reducible show wpAny _ _ (PySem.call (Value.ref 149) _) _ _ _); (rename News _ _ _ _ => cN9); k_dflt (refine' c_in_width (by first | with_reducible assumption | omega | (split <;> omega)) (by first | with_reducible assumption | omega | (split <;> omega)) _ _ _ _ _ _ _ _ _ _ _ _ _ _ _ _ _ (by k_asm) (by k_asm) (by k_asm) cN9 (by k_asm) (by first | exact rfl | assumption) (by first | exact room9 (by assumption) (by rfl) | ktr_room) (by first | exact units9 (by assumption) (by rfl) | ktr_units) ?_); (try dsimp only [RetP, RetT, RetF]); intro t9 h9 tk9 F9 N9; (try dsimp only); (try k_fold))
  k_with "call ref" => (k_here; (with_reducible show wpAny _ _ (PySem.call (Value.ref 120) _) _ _ _); (rename News _ _ _ _ => cN9); k_dflt (refine' c_digits_of (by first | with_reducible assumption | omega) (by with_reducible assumption) _ _ _ _ _ _ _ _ _ _ _ _ _ _ _ _ _ (by k_asm) (by k_asm) (by k_asm) cN9 (by k_asm) (by first | exact rfl | assumption) (by first | exact room9 (by assumption) (by rfl) | ktr_room) (by first | exact units9 (by assumption) (by rfl) | ktr_units) ?_); (try dsimp only [RetP, RetT, RetF]); intro t9 h9 tk9 F9 N9; (try dsimp only); (try k_fold))
  k_with "call ref" => (k_here; (with_reducible show wpAny _ _ (PySem.call (Value.ref 156) _) _ _ _); (rename News _ _ _ _ => cN9); k_dflt (refine' c_read_int_1 (by first | with_reducible assumption | size_fits | (simp only [len_S, cs_S] at *; omega)) (by assumption) (by assumption) (by assumption) (by assumption) (by assumption) (by assumption) (by assumption) _ _ _ _ _ _ _ _ _ _ _ _ _ _ _ _ _ (by k_asm) (by k_asm) (by k_asm) cN9 (by k_asm) (by first | exact rfl | assumption) (by first | exact room9 (by assumption) (by rfl) | ktr_room) (by first | exact units9 (by assumption) (by rfl) | ktr_units) ?_); (try dsimp only [RetP, RetT, RetF]); intro t9 h9 tk9 F9 N9; (try dsimp only); (try k_fold))
  k_with "call ref" => (k_here; (with_reducible show wpAny _ _ (PySem.call (Value.ref 156) _) _ _ _); (rename News _ _ _ _ => cN9); k_dflt (refine' c_read_int_0 (by first | with_reducible assumption | size_fits | (simp only [len_S, cs_S] at *; omega)) (by assumption) _ _ _ _ _ _ _ _ _ _ _ _ _ _ _ _ _ (by k_asm) (by k_asm) (by k_asm) cN9 (by k_asm) (by first | exact rfl | assumption) (by first | exact room9 (by assumption) (by rfl) | ktr_room) (by first | exact units9 (by assumption) (by rfl) | ktr_units) ?_); (try dsimp only [RetP, RetT, RetF]); intro t9 h9 tk9 F9 N9; (try dsimp only); (try k_fold))
  k_with "call ref" => (k_here; (with_reducible show wpAny _ _ (PySem.call (Value.ref 177) _) _ _ _); (rename News _ _ _ _ => cN9); k_dflt (refine' c_read_figures (by first | with_reducible assumption | size_fits | (simp only [len_S, cs_S] at *; omega)) (by first | assumption | (simp only [cs_S]; assumption)) (by first | assumption | (simp only [cs_S]; assumption)) (by first | assumption | (simp only [cs_S]; assumption)) (by first | assumption | (simp only [cs_S]; assumption)) _ _ _ _ _ _ _ _ _ _ _ _ _ _ _ _ _ (by k_asm) (by k_asm) (by k_asm) cN9 (by k_asm) (by first | exact rfl | assumption) (by first | exact room9 (by assumption) (by rfl) | ktr_room) (by first | exact units9 (by assumption) (by rfl) | ktr_units) ?_); (try dsimp only [RetP, RetT, RetF]); intro q9 t91 t92 t93 h9 tk9 F9 N9 l9; (try k_lt l9); (try dsimp only); (try k_fold))
  k_with "call ref" => (k_here; (with_reducible show wpAny _ _ (PySem.call (Value.ref 120) _) _ _ _); (rename News _ _ _ _ => cN9); k_dflt (refine' c_digits_of (by first | with_reducible assumption | omega) (by with_reducible assumption) _ _ _ _ _ _ _ _ _ _ _ _ _ _ _ _ _ (by k_asm) (by k_asm) (by k_asm) cN9 (by k_asm) (by first | exact rfl | assumption) (by first | exact room9 (by assumption) (by rfl) | ktr_room) (by first | exact units9 (by assumption) (by rfl) | ktr_units) ?_); (try dsimp only [RetP, RetT, RetF]); intro t9 h9 tk9 F9 N9; (try dsimp only); (try k_fold))
  trivial

theorem cs_mid1 {x : Str} {i : Int} {j : Nat} {p q : List Nat} {c : Nat} (hx : cs x = p ++ c :: q) (hi : i = (j : Int)) (hj : j = p.length) : Txt.slice x (some i) (some (i + 1)) = S [c] :=
  eq_S (by
    rw [cs_slice_mid (by (clear hx hj; omega)) (by (clear hj hi hx; omega)) (by rw [hx]; simp; (clear hx; omega)), hx, show i.toNat = p.length by (clear hx; omega), List.drop_append_of_le_length (Nat.le_refl _), List.drop_length, List.nil_append, show (i + 1 - i).toNat = 1 by (clear hj hi hx; omega)]
    rfl)
theorem rl_item {x : Str} {i : Int} {k : Nat} {c : Nat} (hx : cs x = List.replicate k 32 ++ [c]) (h0 : 0 ≤ i) (h1 : i ≤ (k : Int)) : Txt.item x i = S [if i < (k : Int) then 32 else c] :=
  eq_S (by
    by_cases h : i < (k : Int)
    · rw [if_pos h]
      exact cs_item h0 (by rw [hx, List.getElem?_append_left (by rw [List.length_replicate]; (clear hx h1; omega)), List.getElem?_replicate, if_pos (by (clear hx h1; omega))])
    · rw [if_neg h]
      exact cs_item h0 (by rw [hx, List.getElem?_append_right (by rw [List.length_replicate]; (clear h0 hx h1; omega)), List.length_replicate, show i.toNat - k = 0 by (clear h h0 hx; omega)]; rfl))
theorem rl_go {x : Str} {i : Int} {k c : Nat} (hx : cs x = List.replicate k 32 ++ [c]) (hc : c ≠ 32) (h0 : 0 ≤ i) (h1 : i ≤ (k : Int)) (h : (Txt.item x i == Str.ofString " ") = true) : 0 ≤ i + 1 ∧ i + 1 ≤ (k : Int) := by
  rw [rl_item hx h0 h1, one_eq lit_sp] at h
  have h := of_decide_eq_true h
  split at h
  · (clear h hx hc h1; omega)
  · exact absurd h hc
theorem rl_stop {x : Str} {i : Int} {k c : Nat} (hx : cs x = List.replicate k 32 ++ [c]) (h0 : 0 ≤ i) (h1 : i ≤ (k : Int)) (h : (Txt.item x i == Str.ofString " ") = false) : Txt.slice x (some i) (some (i + 1)) = S [c] := by
  rw [rl_item hx h0 h1, one_eq lit_sp] at h
  have h := of_decide_eq_false h
  split at h
  · exact absurd rfl h
  · exact cs_mid1 (j := k) hx (by (clear h h0 hx; omega)) (by rw [List.length_replicate])
theorem rl_len {x : Str} {i : Int} {k c : Nat} (hx : cs x = List.replicate k 32 ++ [c]) (h1 : i ≤ (k : Int)) (h : ¬ i < (x.length : Int)) : False := by
  rw [len_cs, hx] at h; simp at h; (clear hx; omega)
theorem rl_is {c d : Nat} {y z : Str} (hy : y = S [c]) (hz : cs z = [d]) (h : (y == z) = true) : c = d := by
  rw [hy, one_eq hz] at h; exact of_decide_eq_true h
theorem rl_not {c d : Nat} {y z : Str} (hy : y = S [c]) (hz : cs z = [d]) (h : (y == z) = false) : c ≠ d := by
  rw [hy, one_eq hz] at h; exact of_decide_eq_false h
theorem rl_nopt {x : Str} {i : Int} {k c : Nat} (hx : cs x = List.replicate k 32 ++ [c]) (h0 : 0 ≤ i) (h1 : i ≤ (k : Int)) (h : (Txt.item x i == Str.ofString " ") = false) (hc : c ≠ 46) : ¬ (Txt.slice x (some i) (some (i + 1)) == Str.ofString ".") = true := by
  rw [rl_stop hx h0 h1 h, one_eq lit_pt]
  exact fun e => hc (of_decide_eq_true e)
section
theorem lnC12_3 : True := by
  k_with "ite" => first | (refine ite_neg (rl_nopt (by assumption) (by assumption) (by assumption) (by assumption) (by assumption)) ?_) | exact (rl_len (by assumption) (by assumption) (by assumption)).elim
  trivial
set_option maxRecDepth 100000 in
set_option maxHeartbeats 8000000 in
theorem c_read_logical {w : World} {mg mb p loose mean news} {x : Str} {t : Tok} {kk : Nat} {b9 : Bool} (hx : x.length ≤ 100) (hxl : cs x = List.replicate kk 32 ++ [if b9 then 84 else 70]) :
    Ct w mg mb p loose mean 2 191 [.str x t] news (RetP news fun t => .bool b9) := by
  dsimp only [Ct, RetP, RetT, RetF]
  k_fill
  intro dp un gd cn cz a ccd cl outer A₀ base h₀ L m s Q E B F X N T hk hd hu hret
  refine wpAny_call ?_
  k_dflt (refine' code_def (binds := [(Str.ofString "field", .str x t)]) ?k1 ?k2 ?k3 ?k4 ?k5 ?kA ?kF ?kK ?k6 ?k7 ?k8 ?k9 ?kB ?_ ?c2 ?c3 ?c4 ?c5; (case kA => exact rfl); (case kF => exact rfl); (case kK => assumption); (case k1 => k_asm); (case k2 => k_asm); (case k3 => k_asm); (case k4 => k_asm); (case k5 => k_asm); (case k6 => k_is); (case k7 => k_is); (case k8 => ktr_room); (case k9 => exact BindsTo.of_eq rfl); (case c5 => decide); (case kB => exact locs rfl); (case c2 => exact rfl); (case c3 => exact rfl); (case c4 => exact rfl); k_whole; intro g' L' h' FG' F' N' B' X' T'; (try dsimp only); (try k_lift B'); (try k_fold))
  have hc : (if b9 then 84 else 70) ≠ 32 := by cases b9 <;> decide
  have hc2 : (if b9 then 84 else 70) ≠ 46 := by cases b9 <;> decide
  (k_with "state" => first | exact ⟨by decide, by omega⟩ | exact rl_go hxl hc (by assumption) (by assumption) (by assumption))
  (k_with "measure" => omega)
  (k_with "exec While" => k_while (fun (_ : List Int) c => 0 ≤ c ∧ c ≤ (kk : Int)) (fun _ c => ((kk : Int) + 1 - c).toNat) "at")
  k_steps
  all_goals have hs := rl_stop hxl (by assumption) (by assumption) (by assumption)
  · refine cb_retB hret ?_ (by k_asm) (by k_asm)
    have h9 := rl_is hs lit_T (by assumption)
    cases b9 <;> first | rfl | (exact absurd h9 (by decide))
  · refine cb_retB hret ?_ (by k_asm) (by k_asm)
    have h9 := rl_is hs lit_F (by assumption)
    cases b9 <;> first | rfl | (exact absurd h9 (by decide))
  · exfalso
    have h8 := rl_not hs lit_T (by assumption)
    have h9 := rl_not hs lit_F (by assumption)
    cases b9 <;> first | exact h8 rfl | exact h9 rfl

end
theorem lnC12_4 : True := by
  k_with_none
  k_with "omega" => ((try clear hret); (try clear hk); (try clear hd); (try clear hu); first | lia | omega +splitDisjunctions)
  k_with "execs cons" => ((with_reducible refine wpAny_execs_cons ?_); try dsimp only)
  k_with "execs nil" => refine wpAny_execs_nil ?_
  k_with "call ref" => (k_here; (with_reducible show wpAny _ _ (PySem.call (Value.ref 212) _) _ _ _); (rename News _ _ _ _ => cN9); k_dflt (refine' c_whole_figures (by first | with_reducible assumption | omega | (split <;> omega)) (by first | with_reducible assumption | omega | (split <;> omega)) _ _ _ _ _ _ _ _ _ _ _ _ _ _ _ _ _ (by k_asm) (by k_asm) (by k_asm) cN9 (by k_asm) (by first | exact rfl | assumption) (by first | exact room9 (by assumption) (by rfl) | ktr_room) (by first | exact units9 (by assumption) (by rfl) | ktr_units) ?_); (try dsimp only [RetP, RetT, RetF]); intro hf9 t9 h9 tk9 F9 N9; (try dsimp only); (try k_fold))
  k_with "call ref" => (k_here; (with_reducible show wpAny _ _ (PySem.call (Value.ref 233) _) _ _ _); (rename News _ _ _ _ => cN9); k_dflt (refine' c_scaled (by first | with_reducible assumption | omega | (split <;> omega)) (by first | with_reducible assumption | omega | (split <;> omega)) (by omega) (by omega) _ _ _ _ _ _ _ _ _ _ _ _ _ _ _ _ _ (by k_asm) (by k_asm) (by k_asm) cN9 (by k_asm) (by first | exact rfl | assumption) (by first | exact room9 (by assumption) (by rfl) | ktr_room) (by first | exact units9 (by assumption) (by rfl) | ktr_units) ?_); (try dsimp only [RetP, RetT, RetF]); intro hf9 t9 h9 tk9 F9 N9; (try dsimp only); (try k_fold))
  k_with "call ref" => (k_here; (with_reducible show wpAny _ _ (PySem.call (Value.ref 92) _) _ _ _); (rename News _ _ _ _ => cN9); k_dflt (refine' c_count_digits (by first | with_reducible assumption | omega | (split <;> omega)) _ _ _ _ _ _ _ _ _ _ _ _ _ _ _ _ _ (by k_asm) (by k_asm) (by k_asm) cN9 (by k_asm) (by first | exact rfl | assumption) (by first | exact room9 (by assumption) (by rfl) | ktr_room) (by first | exact units9 (by assumption) (by rfl) | ktr_units) ?_); (try dsimp only [RetP, RetT, RetF]); intro t9 h9 tk9 F9 N9; (try dsimp only); (try k_fold))
  k_with "call ref" => (k_here; (with_reducible show wpAny _ _ (PySem.call (Value.ref 240) _) _ _ _); (rename News _ _ _ _ => cN9); k_dflt (refine' c_figures_of (by first | with_reducible assumption | omega | (split <;> omega)) (by first | with_reducible assumption | omega | (split <;> omega)) (by first | with_reducible assumption | omega | (split <;> omega)) (by first | with_reducible assumption | omega | (split <;> omega)) _ _ _ _ _ _ _ _ _ _ _ _ _ _ _ _ _ (by k_asm) (by k_asm) (by k_asm) cN9 (by k_asm) (by first | exact rfl | assumption) (by first | exact room9 (by assumption) (by rfl) | ktr_room) (by first | exact units9 (by assumption) (by rfl) | ktr_units) ?_); (try dsimp only [RetP, RetT, RetF]); intro hf9 t9 h9 tk9 F9 N9; (try dsimp only); (try k_fold))
  k_with "call ref" => (k_here; (with_reducible show wpAny _ _ (PySem.call (Value.ref 120) _) _ _ _); (rename News _ _ _ _ => cN9); k_dflt (refine' c_digits_of (by first | with_reducible assumption | omega) (by with_reducible assumption) _ _ _ _ _ _ _ _ _ _ _ _ _ _ _ _ _ (by k_asm) (by k_asm) (by k_asm) cN9 (by k_asm) (by first | exact rfl | assumption) (by first | exact room9 (by assumption) (by rfl) | ktr_room) (by first | exact units9 (by assumption) (by rfl) | ktr_units) ?_); (try dsimp only [RetP, RetT, RetF]); intro t9 h9 tk9 F9 N9; (try dsimp only); (try k_fold))
  k_with "call ref" => (k_here; (with_reducible show wpAny _ _ (PySem.call (Value.ref 106) _) _ _ _); (rename News _ _ _ _ => cN9); k_dflt (refine' c_round_digits (by first | with_reducible assumption | omega | (split <;> omega)) (by first | with_reducible assumption | omega | (split <;> omega)) (by first | with_reducible assumption | omega | (split <;> omega)) (by first | with_reducible assumption | omega | (split <;> omega)) _ _ _ _ _ _ _ _ _ _ _ _ _ _ _ _ _ (by k_asm) (by k_asm) (by k_asm) cN9 (by k_asm) (by first | exact rfl | assumption) (by first | exact room9 (by assumption) (by rfl) | ktr_room) (by first | exact units9 (by assumption) (by rfl) | ktr_units) ?_); (try dsimp only [RetP, RetT, RetF]); (refine ⟨fun hz9 h9 tk9 F9 N9 => ?_, fun hz9 q9 t91 t92 h9 tk9 F9 N9 l9 => ?_⟩) <;> ((try dsimp only); (try k_fold)))
  k_with "call ref" => (k_here; (with_reducible show wpAny _ _ (PySem.call (Value.ref 113) _) _ _ _); (rename News _ _ _ _ => cN9); k_dflt (refine' c_round_real (by first | with_reducible assumption | omega | (split <;> omega)) (by first | with_reducible assumption | omega | (split <;> omega)) (by first | with_reducible assumption | omega | (split <;> omega)) (by first | with_reducible assumption | omega | (split <;> omega)) (by first | with_reducible assumption | omega | (split <;> omega)) (by first | with_reducible assumption | omega | (split <;> omega)) _ _ _ _ _ _ _ _ _ _ _ _ _ _ _ _ _ (by k_asm) (by k_asm) (by k_asm) cN9 (by k_asm) (by first | exact rfl | assumption) (by first | exact room9 (by assumption) (by rfl) | ktr_room) (by first | exact units9 (by assumption) (by rfl) | ktr_units) ?_); (try dsimp only [RetP, RetT, RetF]); (refine ⟨fun hz9 h9 tk9 F9 N9 => ?_, fun hz9 q9 t91 t92 h9 tk9 F9 N9 l9 => ?_⟩) <;> ((try dsimp only); (try k_fold)))
  k_with "call ref" => (k_here; (with_reducible show wpAny _ _ (PySem.call (Value.ref 128) _) _ _ _); (rename News _ _ _ _ => cN9); k_dflt (refine' c_solid_field (by first | with_reducible assumption | size_fits) (by first | assumption | (fail "hxl")) (by first | assumption | (fail "hl")) _ _ _ _ _ _ _ _ _ _ _ _ _ _ _ _ _ (by k_asm) (by k_asm) (by k_asm) cN9 (by k_asm) (by first | exact rfl | assumption) (by first | exact room9 (by assumption) (by rfl) | ktr_room) (by first | exact units9 (by assumption) (by rfl) | ktr_units) ?_); (try dsimp only [RetP, RetT, RetF]); intro t9 h9 tk9 F9 N9; (try dsimp only); (try k_fold))
  k_with "call ref" => (k_here; (with_reducible show wpAny _ _ (PySem.call (Value.ref 163) _) _ _ _); (rename News _ _ _ _ => cN9); k_dflt (refine' c_cut_exponent_y (by first | with_reducible assumption | size_fits | (simp only [len_S, cs_S] at *; omega)) (by first | assumption | (simp only [cs_S]; assumption)) (by first | assumption | (simp only [cs_S]; assumption)) (by first | assumption | (simp only [cs_S]; assumption)) _ _ _ _ _ _ _ _ _ _ _ _ _ _ _ _ _ (by k_asm) (by k_asm) (by k_asm) cN9 (by k_asm) (by first | exact rfl | assumption) (by first | exact room9 (by assumption) (by rfl) | ktr_room) (by first | exact units9 (by assumption) (by rfl) | ktr_units) ?_); (try dsimp only [RetP, RetT, RetF]); intro q9 t91 t92 t93 h9 tk9 F9 N9 l9; (try k_lt l9); (try dsimp only); (try k_fold))
  k_with "call ref" => (k_here; (with_reducible show wpAny _ _ (PySem.call (Value.ref 163) _) _ _ _); (rename News _ _ _ _ => cN9); k_dflt (refine' c_cut_exponent_n (by first | with_reducible assumption | size_fits | (simp only [len_S, cs_S] at *; omega)) (by first | assumption | (simp only [cs_S]; assumption)) _ _ _ _ _ _ _ _ _ _ _ _ _ _ _ _ _ (by k_asm) (by k_asm) (by k_asm) cN9 (by k_asm) (by first | exact rfl | assumption) (by first | exact room9 (by assumption) (by rfl) | ktr_room) (by first | exact units9 (by assumption) (by rfl) | ktr_units) ?_); (try dsimp only [RetP, RetT, RetF]); intro q9 t91 t92 t93 h9 tk9 F9 N9 l9; (try k_lt l9); (try dsimp only); (try k_fold))
  k_with "call ref" => (k_here; (with_reducible show wpAny _ _ (PySem.call (Value.ref 142) _) _ _ _); (rename News _ _ _ _ => cN9); k_dflt (refine' c_cut_sign (by first | with_reducible assumption | size_fits | (simp only [len_S, cs_S] at *; omega)) _ _ _ _ _ _ _ _ _ _ _ _ _ _ _ _ _ (by k_asm) (by k_asm) (by k_asm) cN9 (by k_asm) (by first | exact rfl | assumption) (by first | exact room9 (by assumption) (by rfl) | ktr_room) (by first | exact units9 (by assumption) (by rfl) | ktr_units) ?_); (try dsimp only [RetP, RetT, RetF]); intro q9 t91 t92 t93 h9 tk9 F9 N9 l9; (try k_lt l9); (try dsimp only); (try k_fold))
  k_with "call ref" => (k_here; (with_reducible show wpAny _ _ (PySem.call (Value.ref 135) _) _ _ _); (rename News _ _ _ _ => cN9); k_dflt (refine' c_whole_of (by first | with_reducible assumption | size_fits | (simp only [len_S, cs_S] at *; omega)) (by first | assumption | (simp only [cs_S]; assumption)) (by first | assumption | (simp only [cs_S]; assumption)) _ _ _ _ _ _ _ _ _ _ _ _ _ _ _ _ _ (by k_asm) (by k_asm) (by k_asm) cN9 (by k_asm) (by first | exact rfl | assumption) (by first | exact room9 (by assumption) (by rfl) | ktr_room) (by first | exact units9 (by assumption) (by rfl) | ktr_units) ?_); (try dsimp only [RetP, RetT, RetF]); intro t9 h9 tk9 F9 N9; (try dsimp only); (try k_fold))
  k_with "call ref" => (k_here; (with_reducible show wpAny _ _ (PySem.call (Value.ref 170) _) _ _ _); (rename News _ _ _ _ => cN9); k_dflt (refine' c_field_exponent (by first | with_reducible assumption | size_fits | (simp only [len_S, cs_S] at *; omega)) (by first | assumption | (simp only [cs_S]; assumption)) (by first | assumption | (simp only [cs_S]; assumption)) (by first | with_reducible assumption | (simp only [cs_S]; with_reducible assumption) | (simp only [cs_S]; omega)) _ _ _ _ _ _ _ _ _ _ _ _ _ _ _ _ _ (by k_asm) (by k_asm) (by k_asm) cN9 (by k_asm) (by first | exact rfl | assumption) (by first | exact room9 (by assumption) (by rfl) | ktr_room) (by first | exact units9 (by assumption) (by rfl) | ktr_units) ?_); (try dsimp only [RetP, RetT, RetF]); intro t9 h9 tk9 F9 N9; (try dsimp only); (try k_fold))
  k_with "call ref" => (k_here; (with_reducible show wpAny _ _ (PySem.call (Value.ref 149) _) _ _ _); (rename News _ _ _ _ => cN9); k_dflt (refine' c_in_width (by first | with_reducible assumption | omega | (split <;> omega)) (by first | with_reducible assumption | omega | (split <;> omega)) _ _ _ _ _ _ _ _ _ _ _ _ _ _ _ _ _ (by k_asm) (by k_asm) (by k_asm) cN9 (by k_asm) (by first | exact rfl | assumption) (by first | exact room9 (by assumption) (by rfl) | ktr_room) (by first | exact units9 (by assumption) (by rfl) | ktr_units) ?_); (try dsimp only [RetP, RetT, RetF]); intro t9 h9 tk9 F9 N9; (try dsimp only); (try k_fold))
  k_with "call ref" => (k_here; (with_reducible show wpAny _ _ (PySem.call (Value.ref 120) _) _ _ _); (rename News _ _ _ _ => cN9); k_dflt (refine' c_digits_of (by first | with_reducible assumption | omega) (by with_reducible assumption) _ _ _ _ _ _ _ _ _ _ _ _ _ _ _ _ _ (by k_asm) (by k_asm) (by k_asm) cN9 (by k_asm) (by first | exact rfl | assumption) (by first | exact room9 (by assumption) (by rfl) | ktr_room) (by first | exact units9 (by assumption) (by rfl) | ktr_units) ?_); (try dsimp only [RetP, RetT, RetF]); intro t9 h9 tk9 F9 N9; (try dsimp only); (try k_fold))
  k_with "call ref" => (k_here; (with_reducible show wpAny _ _ (PySem.call (Value.ref 156) _) _ _ _); (rename News _ _ _ _ => cN9); k_dflt (refine' c_read_int_1 (by first | with_reducible assumption | size_fits | (simp only [len_S, cs_S] at *; omega)) (by assumption) (by assumption) (by assumption) (by assumption) (by assumption) (by assumption) (by assumption) _ _ _ _ _ _ _ _ _ _ _ _ _ _ _ _ _ (by k_asm) (by k_asm) (by k_asm) cN9 (by k_asm) (by first | exact rfl | assumption) (by first | exact room9 (by assumption) (by rfl) | ktr_room) (by first | exact units9 (by assumption) (by rfl) | ktr_units) ?_); (try dsimp only [RetP, RetT, RetF]); intro t9 h9 tk9 F9 N9; (try dsimp only); (try k_fold))
  k_with "call ref" => (k_here; (with_reducible show wpAny _ _ (PySem.call (Value.ref 156) _) _ _ _); (rename News _ _ _ _ => cN9); k_dflt (refine' c_read_int_0 (by first | with_reducible assumption | size_fits | (simp only [len_S, cs_S] at *; omega)) (by assumption) _ _ _ _ _ _ _ _ _ _ _ _ _ _ _ _ _ (by k_asm) (by k_asm) (by k_asm) cN9 (by k_asm) (by first | exact rfl | assumption) (by first | exact room9 (by assumption) (by rfl) | ktr_room) (by first | exact units9 (by assumption) (by rfl) | ktr_units) ?_); (try dsimp only [RetP, RetT, RetF]); intro t9 h9 tk9 F9 N9; (try dsimp only); (try k_fold))
  k_with "call ref" => (k_here; (with_reducible show wpAny _ _ (PySem.call (Value.ref 177) _) _ _ _); (rename News _ _ _ _ => cN9); k_dflt (refine' c_read_figures (by first | with_reducible assumption | size_fits | (simp only [len_S, cs_S] at *; omega)) (by first | assumption | (simp only [cs_S]; assumption)) (by first | assumption | (simp only [cs_S]; assumption)) (by first | assumption | (simp only [cs_S]; assumption)) (by first | assumption | (simp only [cs_S]; assumption)) _ _ _ _ _ _ _ _ _ _ _ _ _ _ _ _ _ (by k_asm) (by k_asm) (by k_asm) cN9 (by k_asm) (by first | exact rfl | assumption) (by first | exact room9 (by assumption) (by rfl) | ktr_room) (by first | exact units9 (by assumption) (by rfl) | ktr_units) ?_); (try dsimp only [RetP, RetT, RetF]); intro q9 t91 t92 t93 h9 tk9 F9 N9 l9; (try k_lt l9); (try dsimp only); (try k_fold))
  k_with "call ref" => (k_here; (with_reducible show wpAny _ _ (PySem.call (Value.ref 120) _) _ _ _); (rename News _ _ _ _ => cN9); k_dflt (refine' c_digits_of (by first | with_reducible assumption | omega) (by with_reducible assumption) _ _ _ _ _ _ _ _ _ _ _ _ _ _ _ _ _ (by k_asm) (by k_asm) (by k_asm) cN9 (by k_asm) (by first | exact rfl | assumption) (by first | exact room9 (by assumption) (by rfl) | ktr_room) (by first | exact units9 (by assumption) (by rfl) | ktr_units) ?_); (try dsimp only [RetP, RetT, RetF]); intro t9 h9 tk9 F9 N9; (try dsimp only); (try k_fold))
  trivial
theorem lnC12_5 : True := by
  k_with "call ref" => (k_here; (with_reducible show wpAny _ _ (PySem.call (Value.ref 191) _) _ _ _); (rename News _ _ _ _ => cN9); k_dflt (refine' c_read_logical (by first | omega | size_fits) (by assumption) _ _ _ _ _ _ _ _ _ _ _ _ _ _ _ _ _ (by k_asm) (by k_asm) (by k_asm) cN9 (by k_asm) (by first | exact rfl | assumption) (by first | exact room9 (by assumption) (by rfl) | ktr_room) (by first | exact units9 (by assumption) (by rfl) | ktr_units) ?_); (try dsimp only [RetP, RetT, RetF]); intro t9 h9 tk9 F9 N9; (try dsimp only); (try k_fold))
  trivial

noncomputable def RT (l : List Nat) (n : Int) : List Nat := if n ≤ (l.length : Int) then l.drop ((l.length : Int) - n).toNat else l ++ List.replicate (n - (l.length : Int)).toNat 32
theorem rt_cut {x : Str} {n : Int} (h : n ≤ (x.length : Int)) : Txt.slice x (some ((x.length : Int) - n)) none = S (RT (cs x) n) := by
  rw [len_cs] at h
  exact eq_S (by unfold RT; rw [if_pos h, cs_slice_from (by rw [len_cs]; omega), len_cs])
theorem rt_fill {x : Str} {n : Int} (h : ¬ n ≤ (x.length : Int)) : x ++ Txt.mul (Str.ofString " ") (n - (x.length : Int)) = S (RT (cs x) n) := by
  rw [len_cs] at h
  exact eq_S (by unfold RT; rw [if_neg h, cs_append, cs_mul, lit_sp, flat_one, len_cs])
set_option maxRecDepth 100000 in
set_option maxHeartbeats 8000000 in
theorem c_read_text {w : World} {mg mb p loose mean news} {x : Str} {n : Int} {t u : Tok} (hx : x.length ≤ 100) (h0 : 0 ≤ n) (h1 : n ≤ 100) :
    Ct w mg mb p loose mean 1 198 [.str x t, .int n u] news (RetP news fun t => .str (S (RT (cs x) n)) t) := by
  dsimp only [Ct, RetP, RetT, RetF]
  k_fill
  intro dp un gd cn cz a ccd cl outer A₀ base h₀ L m s Q E B F X N T hk hd hu hret
  refine wpAny_call ?_
  k_dflt (refine' code_def (binds := [(Str.ofString "field", .str x t), (Str.ofString "length", .int n u)]) ?k1 ?k2 ?k3 ?k4 ?k5 ?kA ?kF ?kK ?k6 ?k7 ?k8 ?k9 ?kB ?_ ?c2 ?c3 ?c4 ?c5; (case kA => exact rfl); (case kF => exact rfl); (case kK => assumption); (case k1 => k_asm); (case k2 => k_asm); (case k3 => k_asm); (case k4 => k_asm); (case k5 => k_asm); (case k6 => k_is); (case k7 => k_is); (case k8 => ktr_room); (case k9 => exact BindsTo.of_eq rfl); (case c5 => decide); (case kB => exact locs rfl); (case c2 => exact rfl); (case c3 => exact rfl); (case c4 => exact rfl); k_whole; intro g' L' h' FG' F' N' B' X' T'; (try dsimp only); (try k_lift B'); (try k_fold))
  k_steps
  all_goals (refine cb_retS hret ?_ (by k_asm) (by k_asm))
  · exact rt_cut (by assumption)
  · exact rt_fill (by assumption)

theorem lnC12_6 : True := by
  k_with "call ref" => (k_here; (with_reducible show wpAny _ _ (PySem.call (Value.ref 198) _) _ _ _); (rename News _ _ _ _ => cN9); k_dflt (refine' c_read_text (by first | omega | size_fits) (by first | with_reducible assumption | omega | (split <;> omega)) (by first | with_reducible assumption | omega | (split <;> omega)) _ _ _ _ _ _ _ _ _ _ _ _ _ _ _ _ _ (by k_asm) (by k_asm) (by k_asm) cN9 (by k_asm) (by first | exact rfl | assumption) (by first | exact room9 (by assumption) (by rfl) | ktr_room) (by first | exact units9 (by assumption) (by rfl) | ktr_units) ?_); (try dsimp only [RetP, RetT, RetF]); intro t9 h9 tk9 F9 N9; (try dsimp only); (try k_fold))
  trivial

/-- what a field of I is read as -/
def RI (x : Str) (v : Int) : Prop := ∃ kk l, cs x = List.replicate kk 32 ++ l ∧ ((l = [] ∧ v = 0) ∨ ((∀ c ∈ l, c ≠ 32) ∧ l ≠ [] ∧ cutR l ≠ [] ∧ Dig (cutR l) ∧ cutG l * (valL (cutR l) : Int) = v ∧ -2147483648 ≤ v ∧ v < 2147483648))
set_option maxRecDepth 100000 in
theorem c_read_int {w : World} {mg mb p loose mean news} {x : Str} {t u : Tok} {b : Bool} {v : Int} (hx : x.length ≤ 200) (h : RI x v) :
    Ct w mg mb p loose mean 3 156 [.str x t, .bool b, .int 32 u] news (RetP news fun t => .int v t) := by
  obtain ⟨kk, l, hxl, ⟨rfl, rfl⟩ | ⟨hl, hne, hr, hd, rfl, h1, h2⟩⟩ := h
  · exact c_read_int_0 hx hxl
  · exact c_read_int_1 hx hxl hl hne hr hd h1 h2
theorem lnC12_7 : True := by
  k_with "call ref" => (k_here; (with_reducible show wpAny _ _ (PySem.call (Value.ref 156) _) _ _ _); (rename News _ _ _ _ => cN9); k_dflt (refine' c_read_int (by first | omega | size_fits) (by assumption) _ _ _ _ _ _ _ _ _ _ _ _ _ _ _ _ _ (by k_asm) (by k_asm) (by k_asm) cN9 (by k_asm) (by first | exact rfl | assumption) (by first | exact room9 (by assumption) (by rfl) | ktr_room) (by first | exact units9 (by assumption) (by rfl) | ktr_units) ?_); (try dsimp only [RetP, RetT, RetF]); intro t9 h9 tk9 F9 N9; (try dsimp only); (try k_fold))
  trivial

theorem lnC12_8 : True := by
  k_with "compareOp In str ref" => (k_here; (with_reducible show wpAny _ _ (compareOp CmpOp.In (Value.str _ _) (Value.ref 121)) _ _ _); (with_unfolding_all refine' in_tuple_strs (tupK (by k_in) (by k_is)) (by kde_strs) ?_))
  trivial
set_option maxRecDepth 100000 in
set_option maxHeartbeats 8000000 in
theorem c_read_value_I {w : World} {mg mb p loose mean news} {it lim : Addr} {ln k : Int} {x : Str} {b : Bool} {t ukd uln usc t0 : Tok} {v : Int} {n : Value} {lv : Value} (hit : (it, tupO #[.str (Str.ofString "I") t0, n, lv]) ∈ news) (hlm : LimIn w news lim) (hx : x.length ≤ 100) (h : RI x v) :
    Ct w mg mb p loose mean 4 205 [.ref it, .int 0 ukd, .int ln uln, .str x t, .int k usc, .bool b, .ref lim] news (RetP news fun t => .int v t) := by
  dsimp only [Ct, RetP, RetT, RetF]
  k_fill
  intro dp un gd cn cz a ccd cl outer A₀ base h₀ L m s Q E B F X N T hk hd hu hret
  refine wpAny_call ?_
  k_dflt (refine' code_def (binds := [(Str.ofString "item", .ref it), (Str.ofString "kind", .int 0 ukd), (Str.ofString "length", .int ln uln), (Str.ofString "field", .str x t), (Str.ofString "scale", .int k usc), (Str.ofString "is_zero", .bool b), (Str.ofString "limits", .ref lim)]) ?k1 ?k2 ?k3 ?k4 ?k5 ?kA ?kF ?kK ?k6 ?k7 ?k8 ?k9 ?kB ?_ ?c2 ?c3 ?c4 ?c5; (case kA => exact rfl); (case kF => exact rfl); (case kK => assumption); (case k1 => k_asm); (case k2 => k_asm); (case k3 => k_asm); (case k4 => k_asm); (case k5 => k_asm); (case k6 => k_is); (case k7 => k_is); (case k8 => ktr_room); (case k9 => exact BindsTo.of_eq rfl); (case c5 => decide); (case kB => exact locs rfl); (case c2 => exact rfl); (case c3 => exact rfl); (case c4 => exact rfl); k_whole; intro g' L' h' FG' F' N' B' X' T'; (try dsimp only); (try k_lift B'); (try k_fold))
  obtain ⟨dx, ks, hl1, hl2⟩ := hlm
  k_steps
  all_goals (refine cb_retI hret ?_ (by k_asm) (by k_asm))
  all_goals rfl

set_option maxRecDepth 100000 in
set_option maxHeartbeats 8000000 in
theorem c_read_value_L {w : World} {mg mb p loose mean news} {it lim : Addr} {ln k : Int} {x : Str} {b : Bool} {t ukd uln usc t0 : Tok} {b9 : Bool} {n : Value} {kk : Nat} (hit : (it, tupO #[.str (Str.ofString "L") t0, n]) ∈ news) (hx : x.length ≤ 100) (hxl : cs x = List.replicate kk 32 ++ [if b9 then 84 else 70]) :
    Ct w mg mb p loose mean 4 205 [.ref it, .int 4 ukd, .int ln uln, .str x t, .int k usc, .bool b, .ref lim] news (RetP news fun t => .bool b9) := by
  dsimp only [Ct, RetP, RetT, RetF]
  k_fill
  intro dp un gd cn cz a ccd cl outer A₀ base h₀ L m s Q E B F X N T hk hd hu hret
  refine wpAny_call ?_
  k_dflt (refine' code_def (binds := [(Str.ofString "item", .ref it), (Str.ofString "kind", .int 4 ukd), (Str.ofString "length", .int ln uln), (Str.ofString "field", .str x t), (Str.ofString "scale", .int k usc), (Str.ofString "is_zero", .bool b), (Str.ofString "limits", .ref lim)]) ?k1 ?k2 ?k3 ?k4 ?k5 ?kA ?kF ?kK ?k6 ?k7 ?k8 ?k9 ?kB ?_ ?c2 ?c3 ?c4 ?c5; (case kA => exact rfl); (case kF => exact rfl); (case kK => assumption); (case k1 => k_asm); (case k2 => k_asm); (case k3 => k_asm); (case k4 => k_asm); (case k5 => k_asm); (case k6 => k_is); (case k7 => k_is); (case k8 => ktr_room); (case k9 => exact BindsTo.of_eq rfl); (case c5 => decide); (case kB => exact locs rfl); (case c2 => exact rfl); (case c3 => exact rfl); (case c4 => exact rfl); k_whole; intro g' L' h' FG' F' N' B' X' T'; (try dsimp only); (try k_lift B'); (try k_fold))
  k_steps
  all_goals (refine cb_retB hret ?_ (by k_asm) (by k_asm))
  all_goals rfl

set_option maxRecDepth 100000 in
set_option maxHeartbeats 8000000 in
theorem c_read_value_A {w : World} {mg mb p loose mean news} {it lim : Addr} {ln k : Int} {x : Str} {b : Bool} {t ukd uln usc t0 : Tok} {n : Value} (hit : (it, tupO #[.str (Str.ofString "A") t0, n]) ∈ news) (hx : x.length ≤ 100) (h0 : 0 ≤ ln) (h1 : ln ≤ 100) :
    Ct w mg mb p loose mean 4 205 [.ref it, .int 5 ukd, .int ln uln, .str x t, .int k usc, .bool b, .ref lim] news (RetP news fun t => .str (S (RT (cs x) ln)) t) := by
  dsimp only [Ct, RetP, RetT, RetF]
  k_fill
  intro dp un gd cn cz a ccd cl outer A₀ base h₀ L m s Q E B F X N T hk hd hu hret
  refine wpAny_call ?_
  k_dflt (refine' code_def (binds := [(Str.ofString "item", .ref it), (Str.ofString "kind", .int 5 ukd), (Str.ofString "length", .int ln uln), (Str.ofString "field", .str x t), (Str.ofString "scale", .int k usc), (Str.ofString "is_zero", .bool b), (Str.ofString "limits", .ref lim)]) ?k1 ?k2 ?k3 ?k4 ?k5 ?kA ?kF ?kK ?k6 ?k7 ?k8 ?k9 ?kB ?_ ?c2 ?c3 ?c4 ?c5; (case kA => exact rfl); (case kF => exact rfl); (case kK => assumption); (case k1 => k_asm); (case k2 => k_asm); (case k3 => k_asm); (case k4 => k_asm); (case k5 => k_asm); (case k6 => k_is); (case k7 => k_is); (case k8 => ktr_room); (case k9 => exact BindsTo.of_eq rfl); (case c5 => decide); (case kB => exact locs rfl); (case c2 => exact rfl); (case c3 => exact rfl); (case c4 => exact rfl); k_whole; intro g' L' h' FG' F' N' B' X' T'; (try dsimp only); (try k_lift B'); (try k_fold))
  k_steps
  all_goals (refine cb_retS hret ?_ (by k_asm) (by k_asm))
  all_goals rfl

/-- what a field of F, E or D is read as: nought, or figures with their power -/
def RR (x : Str) (k : Int) (M P : Int) : Prop := ∃ kk l al bl, cs x = List.replicate kk 32 ++ l ∧ (∀ c ∈ l, c ≠ 32) ∧ l ≠ [] ∧ (∀ c ∈ al, c ≠ 46) ∧ Dig (al ++ bl) ∧ al ++ bl ≠ [] ∧ cutG l * (valL (al ++ bl) : Int) = M ∧
  ((cutR l = al ++ 46 :: bl ∧ -k - (bl.length : Int) = P) ∨
   ∃ ql c9, cutR l = (al ++ 46 :: bl) ++ c9 :: ql ∧ IsExp c9 ∧ Dig (cutR (tailL c9 ql)) ∧ cutR (tailL c9 ql) ≠ [] ∧ valL (cutR (tailL c9 ql)) < 1000000 ∧ cutG (tailL c9 ql) * (valL (cutR (tailL c9 ql)) : Int) - (bl.length : Int) = P)
/-- the figures fit the kind's precision, its range not left -/
def MP (dg M P : Int) : Prop := 1 ≤ dg ∧ dg ≤ 20 ∧ M.natAbs < 1000000000000000000 ∧ Int.fmod (if M < 0 then -M else M) (10 ^ ((cdN M.natAbs : Int) - dg).toNat) = 0 ∧ (M ≠ 0 → -38 ≤ P + (cdN M.natAbs : Int) - 1) ∧ (M ≠ 0 → P + (cdN M.natAbs : Int) - 1 ≤ 38)
theorem c_read_real {w : World} {mg mb p loose mean news} {x : Str} {t u u1 u2 u3 : Tok} {d k dg M P : Int} {b : Bool} (hx : x.length ≤ 200) (h : RR x k M P) (hm : MP dg M P) :
    Ct w mg mb p loose mean 4 184 [.str x t, .int d u, .int k u1, .bool b, .int dg u2, .int 38 u3] news (RetM (M = 0) news (sg M * (stM M.natAbs : Int)) (P + (stJ M.natAbs : Int))) := by
  obtain ⟨kk, l, al, bl, hxl, hl, hne, hal, hd, hnn, hM, h⟩ := h
  obtain ⟨h1, h2, h3, h4, h5, h6⟩ := hm
  rcases h with ⟨hr, hP⟩ | ⟨ql, c9, hr, hc, he1, he2, he3, hP⟩
  · exact c_read_real_f hx hxl hl hne hr hal hd hnn hM hP h1 h2 h3 h4 h5 h6
  · exact c_read_real_e hx hxl hl hne hr hc rfl hal hd hnn hM he1 he2 he3 hP h1 h2 h3 h4 h5 h6
theorem lnC12_9 : True := by
  k_with "call ref" => (k_here; (with_reducible show wpAny _ _ (PySem.call (Value.ref 184) _) _ _ _); (rename News _ _ _ _ => cN9); k_dflt (refine' c_read_real (by first | omega | size_fits) (by assumption) (by assumption) _ _ _ _ _ _ _ _ _ _ _ _ _ _ _ _ _ (by k_asm) (by k_asm) (by k_asm) cN9 (by k_asm) (by first | exact rfl | assumption) (by first | exact room9 (by assumption) (by rfl) | ktr_room) (by first | exact units9 (by assumption) (by rfl) | ktr_units) ?_); (try dsimp only [RetP, RetT, RetF]); (refine ⟨fun hz9 h9 tk9 F9 N9 => ?_, fun hz9 q9 t91 t92 h9 tk9 F9 N9 l9 => ?_⟩) <;> ((try dsimp only); (try k_fold)))
  trivial
set_option maxRecDepth 100000 in
set_option maxHeartbeats 8000000 in
theorem c_read_value_F {w : World} {mg mb p loose mean news} {it lim : Addr} {ln k : Int} {x : Str} {b : Bool} {t ukd uln usc t0 : Tok} {kd d M P : Int} {n : Value} {t2 : Tok}  (hit : (it, tupO #[.str (Str.ofString "F") t0, n, .int d t2]) ∈ news) (hlm : LimIn w news lim) (hkd : kd = 1 ∨ kd = 2) (hx : x.length ≤ 100) (h : RR x k M P) (hm : MP (if kd = 1 then 7 else 15) M P) :
    Ct w mg mb p loose mean 6 205 [.ref it, .int kd ukd, .int ln uln, .str x t, .int k usc, .bool b, .ref lim] news (RetM (M = 0) news (sg M * (stM M.natAbs : Int)) (P + (stJ M.natAbs : Int))) := by
  dsimp only [Ct, RetP, RetT, RetF]
  k_fill
  intro dp un gd cn cz a ccd cl outer A₀ base h₀ L m s Q E B F X N T hk hd hu hret
  refine wpAny_call ?_
  k_dflt (refine' code_def (binds := [(Str.ofString "item", .ref it), (Str.ofString "kind", .int kd ukd), (Str.ofString "length", .int ln uln), (Str.ofString "field", .str x t), (Str.ofString "scale", .int k usc), (Str.ofString "is_zero", .bool b), (Str.ofString "limits", .ref lim)]) ?k1 ?k2 ?k3 ?k4 ?k5 ?kA ?kF ?kK ?k6 ?k7 ?k8 ?k9 ?kB ?_ ?c2 ?c3 ?c4 ?c5; (case kA => exact rfl); (case kF => exact rfl); (case kK => assumption); (case k1 => k_asm); (case k2 => k_asm); (case k3 => k_asm); (case k4 => k_asm); (case k5 => k_asm); (case k6 => k_is); (case k7 => k_is); (case k8 => ktr_room); (case k9 => exact BindsTo.of_eq rfl); (case c5 => decide); (case kB => exact locs rfl); (case c2 => exact rfl); (case c3 => exact rfl); (case c4 => exact rfl); k_whole; intro g' L' h' FG' F' N' B' X' T'; (try dsimp only); (try k_lift B'); (try k_fold))
  (try dsimp only [RetM] at hret)
  obtain ⟨hret0, hret1⟩ := hret
  have hlm0 := hlm
  obtain ⟨dx, ks, hl1, hl2⟩ := hlm
  k_steps
  all_goals first
    | (exfalso; (clear hm hret0 hret1 hit hu hl2 hl1 B' hd hx T' T N F hk FG' X' B h X hlm0; omega))
    | exact hret0 (by assumption) _ _ (by k_asm) (by k_asm)
    | exact hret1 (by assumption) _ _ _ _ _ (by k_asm) (by k_asm) (by assumption)

set_option maxRecDepth 100000 in
set_option maxHeartbeats 8000000 in
theorem c_read_value_D {w : World} {mg mb p loose mean news} {it lim : Addr} {ln k : Int} {x : Str} {b : Bool} {t ukd uln usc t0 : Tok} {kd d M P : Int} {n : Value} {t2 : Tok}  (hit : (it, tupO #[.str (Str.ofString "D") t0, n, .int d t2]) ∈ news) (hlm : LimIn w news lim) (hkd : kd = 1 ∨ kd = 2) (hx : x.length ≤ 100) (h : RR x k M P) (hm : MP (if kd = 1 then 7 else 15) M P) :
    Ct w mg mb p loose mean 6 205 [.ref it, .int kd ukd, .int ln uln, .str x t, .int k usc, .bool b, .ref lim] news (RetM (M = 0) news (sg M * (stM M.natAbs : Int)) (P + (stJ M.natAbs : Int))) := by
  dsimp only [Ct, RetP, RetT, RetF]
  k_fill
  intro dp un gd cn cz a ccd cl outer A₀ base h₀ L m s Q E B F X N T hk hd hu hret
  refine wpAny_call ?_
  k_dflt (refine' code_def (binds := [(Str.ofString "item", .ref it), (Str.ofString "kind", .int kd ukd), (Str.ofString "length", .int ln uln), (Str.ofString "field", .str x t), (Str.ofString "scale", .int k usc), (Str.ofString "is_zero", .bool b), (Str.ofString "limits", .ref lim)]) ?k1 ?k2 ?k3 ?k4 ?k5 ?kA ?kF ?kK ?k6 ?k7 ?k8 ?k9 ?kB ?_ ?c2 ?c3 ?c4 ?c5; (case kA => exact rfl); (case kF => exact rfl); (case kK => assumption); (case k1 => k_asm); (case k2 => k_asm); (case k3 => k_asm); (case k4 => k_asm); (case k5 => k_asm); (case k6 => k_is); (case k7 => k_is); (case k8 => ktr_room); (case k9 => exact BindsTo.of_eq rfl); (case c5 => decide); (case kB => exact locs rfl); (case c2 => exact rfl); (case c3 => exact rfl); (case c4 => exact rfl); k_whole; intro g' L' h' FG' F' N' B' X' T'; (try dsimp only); (try k_lift B'); (try k_fold))
  (try dsimp only [RetM] at hret)
  obtain ⟨hret0, hret1⟩ := hret
  have hlm0 := hlm
  obtain ⟨dx, ks, hl1, hl2⟩ := hlm
  k_steps
  all_goals first
    | (exfalso; (clear hm hret0 hret1 hit hu hl2 hl1 B' hd hx T' T N F hk FG' X' B h X hlm0; omega))
    | exact hret0 (by assumption) _ _ (by k_asm) (by k_asm)
    | exact hret1 (by assumption) _ _ _ _ _ (by k_asm) (by k_asm) (by assumption)

set_option maxRecDepth 100000 in
set_option maxHeartbeats 8000000 in
theorem c_read_value_E {w : World} {mg mb p loose mean news} {it lim : Addr} {ln k : Int} {x : Str} {b : Bool} {t ukd uln usc t0 : Tok} {kd d M P : Int} {n : Value} {t2 : Tok} {sv : Value} (hit : (it, tupO #[.str (Str.ofString "E") t0, n, .int d t2, sv]) ∈ news) (hlm : LimIn w news lim) (hkd : kd = 1 ∨ kd = 2) (hx : x.length ≤ 100) (h : RR x k M P) (hm : MP (if kd = 1 then 7 else 15) M P) :
    Ct w mg mb p loose mean 6 205 [.ref it, .int kd ukd, .int ln uln, .str x t, .int k usc, .bool b, .ref lim] news (RetM (M = 0) news (sg M * (stM M.natAbs : Int)) (P + (stJ M.natAbs : Int))) := by
  dsimp only [Ct, RetP, RetT, RetF]
  k_fill
  intro dp un gd cn cz a ccd cl outer A₀ base h₀ L m s Q E B F X N T hk hd hu hret
  refine wpAny_call ?_
  k_dflt (refine' code_def (binds := [(Str.ofString "item", .ref it), (Str.ofString "kind", .int kd ukd), (Str.ofString "length", .int ln uln), (Str.ofString "field", .str x t), (Str.ofString "scale", .int k usc), (Str.ofString "is_zero", .bool b), (Str.ofString "limits", .ref lim)]) ?k1 ?k2 ?k3 ?k4 ?k5 ?kA ?kF ?kK ?k6 ?k7 ?k8 ?k9 ?kB ?_ ?c2 ?c3 ?c4 ?c5; (case kA => exact rfl); (case kF => exact rfl); (case kK => assumption); (case k1 => k_asm); (case k2 => k_asm); (case k3 => k_asm); (case k4 => k_asm); (case k5 => k_asm); (case k6 => k_is); (case k7 => k_is); (case k8 => ktr_room); (case k9 => exact BindsTo.of_eq rfl); (case c5 => decide); (case kB => exact locs rfl); (case c2 => exact rfl); (case c3 => exact rfl); (case c4 => exact rfl); k_whole; intro g' L' h' FG' F' N' B' X' T'; (try dsimp only); (try k_lift B'); (try k_fold))
  (try dsimp only [RetM] at hret)
  obtain ⟨hret0, hret1⟩ := hret
  have hlm0 := hlm
  obtain ⟨dx, ks, hl1, hl2⟩ := hlm
  k_steps
  all_goals first
    | (exfalso; (clear hm hret0 hret1 hit hu hl2 hl1 B' hd hx T' T N F hk FG' X' B h X hlm0; omega))
    | exact hret0 (by assumption) _ _ (by k_asm) (by k_asm)
    | exact hret1 (by assumption) _ _ _ _ _ (by k_asm) (by k_asm) (by assumption)

end
section
theorem lnC13_1 : True := by
  k_with_none
  k_with "omega" => ((try clear hret); (try clear hk); (try clear hd); (try clear hu); first | lia | omega +splitDisjunctions)
  trivial
theorem lnC13_2 : True := by
  k_with "execs cons" => ((with_reducible refine wpAny_execs_cons ?_); try dsimp only)
  k_with "execs nil" => refine wpAny_execs_nil ?_
  k_with "call ref" => (k_here; (with_reducible show wpAny _ _ (PySem.call (Value.ref 226) _) _ _ _); (rename News _ _ _ _ => cN9); k_dflt (refine' c_sign_text  _ _ _ _ _ _ _ _ _ _ _ _ _ _ _ _ _ (by k_asm) (by k_asm) (by k_asm) cN9 (by k_asm) (by first | exact rfl | assumption) (by first | exact room9 (by assumption) (by rfl) | ktr_room) (by first | exact units9 (by assumption) (by rfl) | ktr_units) ?_); (try dsimp only [RetP, RetT, RetF]); intro hf9 t9 h9 tk9 F9 N9; (try dsimp only); (try k_fold))
  k_with "call ref" => (k_here; (with_reducible show wpAny _ _ (PySem.call (Value.ref 219) _) _ _ _); (rename News _ _ _ _ => cN9); k_dflt (refine' c_field (by first | omega | size_fits) (by omega) (by omega) _ _ _ _ _ _ _ _ _ _ _ _ _ _ _ _ _ (by k_asm) (by k_asm) (by k_asm) cN9 (by k_asm) (by first | exact rfl | assumption) (by first | exact room9 (by assumption) (by rfl) | ktr_room) (by first | exact units9 (by assumption) (by rfl) | ktr_units) ?_); (try dsimp only [RetP, RetT, RetF]); intro t9 h9 tk9 F9 N9; (try dsimp only); (try k_fold))
  k_with "call ref" => (k_here; (with_reducible show wpAny _ _ (PySem.call (Value.ref 303) _) _ _ _); (rename News _ _ _ _ => cN9); k_dflt (refine' c_edit_logical (by omega) (by omega) _ _ _ _ _ _ _ _ _ _ _ _ _ _ _ _ _ (by k_asm) (by k_asm) (by k_asm) cN9 (by k_asm) (by first | exact rfl | assumption) (by first | exact room9 (by assumption) (by rfl) | ktr_room) (by first | exact units9 (by assumption) (by rfl) | ktr_units) ?_); (try dsimp only [RetP, RetT, RetF]); intro t9 h9 tk9 F9 N9; (try dsimp only); (try k_fold))
  k_with "call ref" => (k_here; (with_reducible show wpAny _ _ (PySem.call (Value.ref 226) _) _ _ _); (rename News _ _ _ _ => cN9); k_dflt (refine' c_sign_text  _ _ _ _ _ _ _ _ _ _ _ _ _ _ _ _ _ (by k_asm) (by k_asm) (by k_asm) cN9 (by k_asm) (by first | exact rfl | assumption) (by first | exact room9 (by assumption) (by rfl) | ktr_room) (by first | exact units9 (by assumption) (by rfl) | ktr_units) ?_); (try dsimp only [RetP, RetT, RetF]); intro hf9 t9 h9 tk9 F9 N9; (try dsimp only); (try k_fold))
  k_with "call ref" => (k_here; (with_reducible show wpAny _ _ (PySem.call (Value.ref 219) _) _ _ _); (rename News _ _ _ _ => cN9); k_dflt (refine' c_field (by first | omega | size_fits) (by omega) (by omega) _ _ _ _ _ _ _ _ _ _ _ _ _ _ _ _ _ (by k_asm) (by k_asm) (by k_asm) cN9 (by k_asm) (by first | exact rfl | assumption) (by first | exact room9 (by assumption) (by rfl) | ktr_room) (by first | exact units9 (by assumption) (by rfl) | ktr_units) ?_); (try dsimp only [RetP, RetT, RetF]); intro t9 h9 tk9 F9 N9; (try dsimp only); (try k_fold))
  k_with "call ref" => (k_here; (with_reducible show wpAny _ _ (PySem.call (Value.ref 303) _) _ _ _); (rename News _ _ _ _ => cN9); k_dflt (refine' c_edit_logical (by omega) (by omega) _ _ _ _ _ _ _ _ _ _ _ _ _ _ _ _ _ (by k_asm) (by k_asm) (by k_asm) cN9 (by k_asm) (by first | exact rfl | assumption) (by first | exact room9 (by assumption) (by rfl) | ktr_room) (by first | exact units9 (by assumption) (by rfl) | ktr_units) ?_); (try dsimp only [RetP, RetT, RetF]); intro t9 h9 tk9 F9 N9; (try dsimp only); (try k_fold))
  k_with "call ref" => (k_here; (with_reducible show wpAny _ _ (PySem.call (Value.ref 212) _) _ _ _); (rename News _ _ _ _ => cN9); k_dflt (refine' c_whole_figures (by first | with_reducible assumption | omega | (split <;> omega)) (by first | with_reducible assumption | omega | (split <;> omega)) _ _ _ _ _ _ _ _ _ _ _ _ _ _ _ _ _ (by k_asm) (by k_asm) (by k_asm) cN9 (by k_asm) (by first | exact rfl | assumption) (by first | exact room9 (by assumption) (by rfl) | ktr_room) (by first | exact units9 (by assumption) (by rfl) | ktr_units) ?_); (try dsimp only [RetP, RetT, RetF]); intro hf9 t9 h9 tk9 F9 N9; (try dsimp only); (try k_fold))
  k_with "call ref" => (k_here; (with_reducible show wpAny _ _ (PySem.call (Value.ref 233) _) _ _ _); (rename News _ _ _ _ => cN9); k_dflt (refine' c_scaled (by first | with_reducible assumption | omega | (split <;> omega)) (by first | with_reducible assumption | omega | (split <;> omega)) (by omega) (by omega) _ _ _ _ _ _ _ _ _ _ _ _ _ _ _ _ _ (by k_asm) (by k_asm) (by k_asm) cN9 (by k_asm) (by first | exact rfl | assumption) (by first | exact room9 (by assumption) (by rfl) | ktr_room) (by first | exact units9 (by assumption) (by rfl) | ktr_units) ?_); (try dsimp only [RetP, RetT, RetF]); intro hf9 t9 h9 tk9 F9 N9; (try dsimp only); (try k_fold))
  k_with "call ref" => (k_here; (with_reducible show wpAny _ _ (PySem.call (Value.ref 92) _) _ _ _); (rename News _ _ _ _ => cN9); k_dflt (refine' c_count_digits (by first | with_reducible assumption | omega | (split <;> omega)) _ _ _ _ _ _ _ _ _ _ _ _ _ _ _ _ _ (by k_asm) (by k_asm) (by k_asm) cN9 (by k_asm) (by first | exact rfl | assumption) (by first | exact room9 (by assumption) (by rfl) | ktr_room) (by first | exact units9 (by assumption) (by rfl) | ktr_units) ?_); (try dsimp only [RetP, RetT, RetF]); intro t9 h9 tk9 F9 N9; (try dsimp only); (try k_fold))
  k_with "call ref" => (k_here; (with_reducible show wpAny _ _ (PySem.call (Value.ref 240) _) _ _ _); (rename News _ _ _ _ => cN9); k_dflt (refine' c_figures_of (by first | with_reducible assumption | omega | (split <;> omega)) (by first | with_reducible assumption | omega | (split <;> omega)) (by first | with_reducible assumption | omega | (split <;> omega)) (by first | with_reducible assumption | omega | (split <;> omega)) _ _ _ _ _ _ _ _ _ _ _ _ _ _ _ _ _ (by k_asm) (by k_asm) (by k_asm) cN9 (by k_asm) (by first | exact rfl | assumption) (by first | exact room9 (by assumption) (by rfl) | ktr_room) (by first | exact units9 (by assumption) (by rfl) | ktr_units) ?_); (try dsimp only [RetP, RetT, RetF]); intro hf9 t9 h9 tk9 F9 N9; (try dsimp only); (try k_fold))
  k_with "call ref" => (k_here; (with_reducible show wpAny _ _ (PySem.call (Value.ref 247) _) _ _ _); (rename News _ _ _ _ => cN9); k_dflt (refine' c_edit_int (by first | with_reducible assumption | omega | (split <;> omega)) (by first | with_reducible assumption | omega | (split <;> omega)) (by first | with_reducible assumption | omega | (split <;> omega)) (by first | assumption) _ _ _ _ _ _ _ _ _ _ _ _ _ _ _ _ _ (by k_asm) (by k_asm) (by k_asm) cN9 (by k_asm) (by first | exact rfl | assumption) (by first | exact room9 (by assumption) (by rfl) | ktr_room) (by first | exact units9 (by assumption) (by rfl) | ktr_units) ?_); (try dsimp only [RetP, RetT, RetF]); intro t9 h9 tk9 F9 N9; (try dsimp only); (try k_fold))
  k_with "call ref" => (k_here; (with_reducible show wpAny _ _ (PySem.call (Value.ref 254) _) _ _ _); (rename News _ _ _ _ => cN9); k_dflt (refine' c_point_field (by first | omega | size_fits) (by first | omega | size_fits) (by first | omega | size_fits) (by first | with_reducible assumption | omega | (split <;> omega)) (by first | with_reducible assumption | omega | (split <;> omega)) _ _ _ _ _ _ _ _ _ _ _ _ _ _ _ _ _ (by k_asm) (by k_asm) (by k_asm) cN9 (by k_asm) (by first | exact rfl | assumption) (by first | exact room9 (by assumption) (by rfl) | ktr_room) (by first | exact units9 (by assumption) (by rfl) | ktr_units) ?_); (try dsimp only [RetP, RetT, RetF]); intro t9 h9 tk9 F9 N9; (try dsimp only); (try k_fold))
  k_with "call ref" => (k_here; (with_reducible show wpAny _ _ (PySem.call (Value.ref 226) _) _ _ _); (rename News _ _ _ _ => cN9); k_dflt (refine' c_sign_text  _ _ _ _ _ _ _ _ _ _ _ _ _ _ _ _ _ (by k_asm) (by k_asm) (by k_asm) cN9 (by k_asm) (by first | exact rfl | assumption) (by first | exact room9 (by assumption) (by rfl) | ktr_room) (by first | exact units9 (by assumption) (by rfl) | ktr_units) ?_); (try dsimp only [RetP, RetT, RetF]); intro hf9 t9 h9 tk9 F9 N9; (try dsimp only); (try k_fold))
  k_with "call ref" => (k_here; (with_reducible show wpAny _ _ (PySem.call (Value.ref 219) _) _ _ _); (rename News _ _ _ _ => cN9); k_dflt (refine' c_field (by first | omega | size_fits) (by omega) (by omega) _ _ _ _ _ _ _ _ _ _ _ _ _ _ _ _ _ (by k_asm) (by k_asm) (by k_asm) cN9 (by k_asm) (by first | exact rfl | assumption) (by first | exact room9 (by assumption) (by rfl) | ktr_room) (by first | exact units9 (by assumption) (by rfl) | ktr_units) ?_); (try dsimp only [RetP, RetT, RetF]); intro t9 h9 tk9 F9 N9; (try dsimp only); (try k_fold))
  k_with "call ref" => (k_here; (with_reducible show wpAny _ _ (PySem.call (Value.ref 303) _) _ _ _); (rename News _ _ _ _ => cN9); k_dflt (refine' c_edit_logical (by omega) (by omega) _ _ _ _ _ _ _ _ _ _ _ _ _ _ _ _ _ (by k_asm) (by k_asm) (by k_asm) cN9 (by k_asm) (by first | exact rfl | assumption) (by first | exact room9 (by assumption) (by rfl) | ktr_room) (by first | exact units9 (by assumption) (by rfl) | ktr_units) ?_); (try dsimp only [RetP, RetT, RetF]); intro t9 h9 tk9 F9 N9; (try dsimp only); (try k_fold))
  k_with "call ref" => (k_here; (with_reducible show wpAny _ _ (PySem.call (Value.ref 212) _) _ _ _); (rename News _ _ _ _ => cN9); k_dflt (refine' c_whole_figures (by first | with_reducible assumption | omega | (split <;> omega)) (by first | with_reducible assumption | omega | (split <;> omega)) _ _ _ _ _ _ _ _ _ _ _ _ _ _ _ _ _ (by k_asm) (by k_asm) (by k_asm) cN9 (by k_asm) (by first | exact rfl | assumption) (by first | exact room9 (by assumption) (by rfl) | ktr_room) (by first | exact units9 (by assumption) (by rfl) | ktr_units) ?_); (try dsimp only [RetP, RetT, RetF]); intro hf9 t9 h9 tk9 F9 N9; (try dsimp only); (try k_fold))
  k_with "call ref" => (k_here; (with_reducible show wpAny _ _ (PySem.call (Value.ref 233) _) _ _ _); (rename News _ _ _ _ => cN9); k_dflt (refine' c_scaled (by first | with_reducible assumption | omega | (split <;> omega)) (by first | with_reducible assumption | omega | (split <;> omega)) (by omega) (by omega) _ _ _ _ _ _ _ _ _ _ _ _ _ _ _ _ _ (by k_asm) (by k_asm) (by k_asm) cN9 (by k_asm) (by first | exact rfl | assumption) (by first | exact room9 (by assumption) (by rfl) | ktr_room) (by first | exact units9 (by assumption) (by rfl) | ktr_units) ?_); (try dsimp only [RetP, RetT, RetF]); intro hf9 t9 h9 tk9 F9 N9; (try dsimp only); (try k_fold))
  k_with "call ref" => (k_here; (with_reducible show wpAny _ _ (PySem.call (Value.ref 92) _) _ _ _); (rename News _ _ _ _ => cN9); k_dflt (refine' c_count_digits (by first | with_reducible assumption | omega | (split <;> omega)) _ _ _ _ _ _ _ _ _ _ _ _ _ _ _ _ _ (by k_asm) (by k_asm) (by k_asm) cN9 (by k_asm) (by first | exact rfl | assumption) (by first | exact room9 (by assumption) (by rfl) | ktr_room) (by first | exact units9 (by assumption) (by rfl) | ktr_units) ?_); (try dsimp only [RetP, RetT, RetF]); intro t9 h9 tk9 F9 N9; (try dsimp only); (try k_fold))
  k_with "call ref" => (k_here; (with_reducible show wpAny _ _ (PySem.call (Value.ref 240) _) _ _ _); (rename News _ _ _ _ => cN9); k_dflt (refine' c_figures_of (by first | with_reducible assumption | omega | (split <;> omega)) (by first | with_reducible assumption | omega | (split <;> omega)) (by first | with_reducible assumption | omega | (split <;> omega)) (by first | with_reducible assumption | omega | (split <;> omega)) _ _ _ _ _ _ _ _ _ _ _ _ _ _ _ _ _ (by k_asm) (by k_asm) (by k_asm) cN9 (by k_asm) (by first | exact rfl | assumption) (by first | exact room9 (by assumption) (by rfl) | ktr_room) (by first | exact units9 (by assumption) (by rfl) | ktr_units) ?_); (try dsimp only [RetP, RetT, RetF]); intro hf9 t9 h9 tk9 F9 N9; (try dsimp only); (try k_fold))
  k_with "call ref" => (k_here; (with_reducible show wpAny _ _ (PySem.call (Value.ref 226) _) _ _ _); (rename News _ _ _ _ => cN9); k_dflt (refine' c_sign_text  _ _ _ _ _ _ _ _ _ _ _ _ _ _ _ _ _ (by k_asm) (by k_asm) (by k_asm) cN9 (by k_asm) (by first | exact rfl | assumption) (by first | exact room9 (by assumption) (by rfl) | ktr_room) (by first | exact units9 (by assumption) (by rfl) | ktr_units) ?_); (try dsimp only [RetP, RetT, RetF]); intro hf9 t9 h9 tk9 F9 N9; (try dsimp only); (try k_fold))
  k_with "call ref" => (k_here; (with_reducible show wpAny _ _ (PySem.call (Value.ref 219) _) _ _ _); (rename News _ _ _ _ => cN9); k_dflt (refine' c_field (by first | omega | size_fits) (by omega) (by omega) _ _ _ _ _ _ _ _ _ _ _ _ _ _ _ _ _ (by k_asm) (by k_asm) (by k_asm) cN9 (by k_asm) (by first | exact rfl | assumption) (by first | exact room9 (by assumption) (by rfl) | ktr_room) (by first | exact units9 (by assumption) (by rfl) | ktr_units) ?_); (try dsimp only [RetP, RetT, RetF]); intro t9 h9 tk9 F9 N9; (try dsimp only); (try k_fold))
  k_with "call ref" => (k_here; (with_reducible show wpAny _ _ (PySem.call (Value.ref 303) _) _ _ _); (rename News _ _ _ _ => cN9); k_dflt (refine' c_edit_logical (by omega) (by omega) _ _ _ _ _ _ _ _ _ _ _ _ _ _ _ _ _ (by k_asm) (by k_asm) (by k_asm) cN9 (by k_asm) (by first | exact rfl | assumption) (by first | exact room9 (by assumption) (by rfl) | ktr_room) (by first | exact units9 (by assumption) (by rfl) | ktr_units) ?_); (try dsimp only [RetP, RetT, RetF]); intro t9 h9 tk9 F9 N9; (try dsimp only); (try k_fold))
  k_with "call ref" => (k_here; (with_reducible show wpAny _ _ (PySem.call (Value.ref 212) _) _ _ _); (rename News _ _ _ _ => cN9); k_dflt (refine' c_whole_figures (by first | with_reducible assumption | omega | (split <;> omega)) (by first | with_reducible assumption | omega | (split <;> omega)) _ _ _ _ _ _ _ _ _ _ _ _ _ _ _ _ _ (by k_asm) (by k_asm) (by k_asm) cN9 (by k_asm) (by first | exact rfl | assumption) (by first | exact room9 (by assumption) (by rfl) | ktr_room) (by first | exact units9 (by assumption) (by rfl) | ktr_units) ?_); (try dsimp only [RetP, RetT, RetF]); intro hf9 t9 h9 tk9 F9 N9; (try dsimp only); (try k_fold))
  k_with "call ref" => (k_here; (with_reducible show wpAny _ _ (PySem.call (Value.ref 233) _) _ _ _); (rename News _ _ _ _ => cN9); k_dflt (refine' c_scaled (by first | with_reducible assumption | omega | (split <;> omega)) (by first | with_reducible assumption | omega | (split <;> omega)) (by omega) (by omega) _ _ _ _ _ _ _ _ _ _ _ _ _ _ _ _ _ (by k_asm) (by k_asm) (by k_asm) cN9 (by k_asm) (by first | exact rfl | assumption) (by first | exact room9 (by assumption) (by rfl) | ktr_room) (by first | exact units9 (by assumption) (by rfl) | ktr_units) ?_); (try dsimp only [RetP, RetT, RetF]); intro hf9 t9 h9 tk9 F9 N9; (try dsimp only); (try k_fold))
  k_with "call ref" => (k_here; (with_reducible show wpAny _ _ (PySem.call (Value.ref 92) _) _ _ _); (rename News _ _ _ _ => cN9); k_dflt (refine' c_count_digits (by first | with_reducible assumption | omega | (split <;> omega)) _ _ _ _ _ _ _ _ _ _ _ _ _ _ _ _ _ (by k_asm) (by k_asm) (by k_asm) cN9 (by k_asm) (by first | exact rfl | assumption) (by first | exact room9 (by assumption) (by rfl) | ktr_room) (by first | exact units9 (by assumption) (by rfl) | ktr_units) ?_); (try dsimp only [RetP, RetT, RetF]); intro t9 h9 tk9 F9 N9; (try dsimp only); (try k_fold))
  k_with "call ref" => (k_here; (with_reducible show wpAny _ _ (PySem.call (Value.ref 240) _) _ _ _); (rename News _ _ _ _ => cN9); k_dflt (refine' c_figures_of (by first | with_reducible assumption | omega | (split <;> omega)) (by first | with_reducible assumption | omega | (split <;> omega)) (by first | with_reducible assumption | omega | (split <;> omega)) (by first | with_reducible assumption | omega | (split <;> omega)) _ _ _ _ _ _ _ _ _ _ _ _ _ _ _ _ _ (by k_asm) (by k_asm) (by k_asm) cN9 (by k_asm) (by first | exact rfl | assumption) (by first | exact room9 (by assumption) (by rfl) | ktr_room) (by first | exact units9 (by assumption) (by rfl) | ktr_units) ?_); (try dsimp only [RetP, RetT, RetF]); intro hf9 t9 h9 tk9 F9 N9; (try dsimp only); (try k_fold))
  k_with "call ref" => (k_here; (with_reducible show wpAny _ _ (PySem.call (Value.ref 247) _) _ _ _); (rename News _ _ _ _ => cN9); k_dflt (refine' c_edit_int (by first | with_reducible assumption | omega | (split <;> omega)) (by first | with_reducible assumption | omega | (split <;> omega)) (by first | with_reducible assumption | omega | (split <;> omega)) (by first | assumption) _ _ _ _ _ _ _ _ _ _ _ _ _ _ _ _ _ (by k_asm) (by k_asm) (by k_asm) cN9 (by k_asm) (by first | exact rfl | assumption) (by first | exact room9 (by assumption) (by rfl) | ktr_room) (by first | exact units9 (by assumption) (by rfl) | ktr_units) ?_); (try dsimp only [RetP, RetT, RetF]); intro t9 h9 tk9 F9 N9; (try dsimp only); (try k_fold))
  k_with "call ref" => (k_here; (with_reducible show wpAny _ _ (PySem.call (Value.ref 254) _) _ _ _); (rename News _ _ _ _ => cN9); k_dflt (refine' c_point_field (by first | omega | size_fits) (by first | omega | size_fits) (by first | omega | size_fits) (by first | with_reducible assumption | omega | (split <;> omega)) (by first | with_reducible assumption | omega | (split <;> omega)) _ _ _ _ _ _ _ _ _ _ _ _ _ _ _ _ _ (by k_asm) (by k_asm) (by k_asm) cN9 (by k_asm) (by first | exact rfl | assumption) (by first | exact room9 (by assumption) (by rfl) | ktr_room) (by first | exact units9 (by assumption) (by rfl) | ktr_units) ?_); (try dsimp only [RetP, RetT, RetF]); intro t9 h9 tk9 F9 N9; (try dsimp only); (try k_fold))
  k_with "call ref" => (k_here; (with_reducible show wpAny _ _ (PySem.call (Value.ref 226) _) _ _ _); (rename News _ _ _ _ => cN9); k_dflt (refine' c_sign_text  _ _ _ _ _ _ _ _ _ _ _ _ _ _ _ _ _ (by k_asm) (by k_asm) (by k_asm) cN9 (by k_asm) (by first | exact rfl | assumption) (by first | exact room9 (by assumption) (by rfl) | ktr_room) (by first | exact units9 (by assumption) (by rfl) | ktr_units) ?_); (try dsimp only [RetP, RetT, RetF]); intro hf9 t9 h9 tk9 F9 N9; (try dsimp only); (try k_fold))
  k_with "call ref" => (k_here; (with_reducible show wpAny _ _ (PySem.call (Value.ref 219) _) _ _ _); (rename News _ _ _ _ => cN9); k_dflt (refine' c_field (by first | omega | size_fits) (by omega) (by omega) _ _ _ _ _ _ _ _ _ _ _ _ _ _ _ _ _ (by k_asm) (by k_asm) (by k_asm) cN9 (by k_asm) (by first | exact rfl | assumption) (by first | exact room9 (by assumption) (by rfl) | ktr_room) (by first | exact units9 (by assumption) (by rfl) | ktr_units) ?_); (try dsimp only [RetP, RetT, RetF]); intro t9 h9 tk9 F9 N9; (try dsimp only); (try k_fold))
  k_with "call ref" => (k_here; (with_reducible show wpAny _ _ (PySem.call (Value.ref 303) _) _ _ _); (rename News _ _ _ _ => cN9); k_dflt (refine' c_edit_logical (by omega) (by omega) _ _ _ _ _ _ _ _ _ _ _ _ _ _ _ _ _ (by k_asm) (by k_asm) (by k_asm) cN9 (by k_asm) (by first | exact rfl | assumption) (by first | exact room9 (by assumption) (by rfl) | ktr_room) (by first | exact units9 (by assumption) (by rfl) | ktr_units) ?_); (try dsimp only [RetP, RetT, RetF]); intro t9 h9 tk9 F9 N9; (try dsimp only); (try k_fold))
  k_with "call ref" => (k_here; (with_reducible show wpAny _ _ (PySem.call (Value.ref 212) _) _ _ _); (rename News _ _ _ _ => cN9); k_dflt (refine' c_whole_figures (by first | with_reducible assumption | omega | (split <;> omega)) (by first | with_reducible assumption | omega | (split <;> omega)) _ _ _ _ _ _ _ _ _ _ _ _ _ _ _ _ _ (by k_asm) (by k_asm) (by k_asm) cN9 (by k_asm) (by first | exact rfl | assumption) (by first | exact room9 (by assumption) (by rfl) | ktr_room) (by first | exact units9 (by assumption) (by rfl) | ktr_units) ?_); (try dsimp only [RetP, RetT, RetF]); intro hf9 t9 h9 tk9 F9 N9; (try dsimp only); (try k_fold))
  k_with "call ref" => (k_here; (with_reducible show wpAny _ _ (PySem.call (Value.ref 233) _) _ _ _); (rename News _ _ _ _ => cN9); k_dflt (refine' c_scaled (by first | with_reducible assumption | omega | (split <;> omega)) (by first | with_reducible assumption | omega | (split <;> omega)) (by omega) (by omega) _ _ _ _ _ _ _ _ _ _ _ _ _ _ _ _ _ (by k_asm) (by k_asm) (by k_asm) cN9 (by k_asm) (by first | exact rfl | assumption) (by first | exact room9 (by assumption) (by rfl) | ktr_room) (by first | exact units9 (by assumption) (by rfl) | ktr_units) ?_); (try dsimp only [RetP, RetT, RetF]); intro hf9 t9 h9 tk9 F9 N9; (try dsimp only); (try k_fold))
  k_with "call ref" => (k_here; (with_reducible show wpAny _ _ (PySem.call (Value.ref 92) _) _ _ _); (rename News _ _ _ _ => cN9); k_dflt (refine' c_count_digits (by first | with_reducible assumption | omega | (split <;> omega)) _ _ _ _ _ _ _ _ _ _ _ _ _ _ _ _ _ (by k_asm) (by k_asm) (by k_asm) cN9 (by k_asm) (by first | exact rfl | assumption) (by first | exact room9 (by assumption) (by rfl) | ktr_room) (by first | exact units9 (by assumption) (by rfl) | ktr_units) ?_); (try dsimp only [RetP, RetT, RetF]); intro t9 h9 tk9 F9 N9; (try dsimp only); (try k_fold))
  k_with "call ref" => (k_here; (with_reducible show wpAny _ _ (PySem.call (Value.ref 240) _) _ _ _); (rename News _ _ _ _ => cN9); k_dflt (refine' c_figures_of (by first | with_reducible assumption | omega | (split <;> omega)) (by first | with_reducible assumption | omega | (split <;> omega)) (by first | with_reducible assumption | omega | (split <;> omega)) (by first | with_reducible assumption | omega | (split <;> omega)) _ _ _ _ _ _ _ _ _ _ _ _ _ _ _ _ _ (by k_asm) (by k_asm) (by k_asm) cN9 (by k_asm) (by first | exact rfl | assumption) (by first | exact room9 (by assumption) (by rfl) | ktr_room) (by first | exact units9 (by assumption) (by rfl) | ktr_units) ?_); (try dsimp only [RetP, RetT, RetF]); intro hf9 t9 h9 tk9 F9 N9; (try dsimp only); (try k_fold))
  k_with "call ref" => (k_here; (with_reducible show wpAny _ _ (PySem.call (Value.ref 226) _) _ _ _); (rename News _ _ _ _ => cN9); k_dflt (refine' c_sign_text  _ _ _ _ _ _ _ _ _ _ _ _ _ _ _ _ _ (by k_asm) (by k_asm) (by k_asm) cN9 (by k_asm) (by first | exact rfl | assumption) (by first | exact room9 (by assumption) (by rfl) | ktr_room) (by first | exact units9 (by assumption) (by rfl) | ktr_units) ?_); (try dsimp only [RetP, RetT, RetF]); intro hf9 t9 h9 tk9 F9 N9; (try dsimp only); (try k_fold))
  k_with "call ref" => (k_here; (with_reducible show wpAny _ _ (PySem.call (Value.ref 219) _) _ _ _); (rename News _ _ _ _ => cN9); k_dflt (refine' c_field (by first | omega | size_fits) (by omega) (by omega) _ _ _ _ _ _ _ _ _ _ _ _ _ _ _ _ _ (by k_asm) (by k_asm) (by k_asm) cN9 (by k_asm) (by first | exact rfl | assumption) (by first | exact room9 (by assumption) (by rfl) | ktr_room) (by first | exact units9 (by assumption) (by rfl) | ktr_units) ?_); (try dsimp only [RetP, RetT, RetF]); intro t9 h9 tk9 F9 N9; (try dsimp only); (try k_fold))
  k_with "call ref" => (k_here; (with_reducible show wpAny _ _ (PySem.call (Value.ref 303) _) _ _ _); (rename News _ _ _ _ => cN9); k_dflt (refine' c_edit_logical (by omega) (by omega) _ _ _ _ _ _ _ _ _ _ _ _ _ _ _ _ _ (by k_asm) (by k_asm) (by k_asm) cN9 (by k_asm) (by first | exact rfl | assumption) (by first | exact room9 (by assumption) (by rfl) | ktr_room) (by first | exact units9 (by assumption) (by rfl) | ktr_units) ?_); (try dsimp only [RetP, RetT, RetF]); intro t9 h9 tk9 F9 N9; (try dsimp only); (try k_fold))
  k_with "call ref" => (k_here; (with_reducible show wpAny _ _ (PySem.call (Value.ref 212) _) _ _ _); (rename News _ _ _ _ => cN9); k_dflt (refine' c_whole_figures (by first | with_reducible assumption | omega | (split <;> omega)) (by first | with_reducible assumption | omega | (split <;> omega)) _ _ _ _ _ _ _ _ _ _ _ _ _ _ _ _ _ (by k_asm) (by k_asm) (by k_asm) cN9 (by k_asm) (by first | exact rfl | assumption) (by first | exact room9 (by assumption) (by rfl) | ktr_room) (by first | exact units9 (by assumption) (by rfl) | ktr_units) ?_); (try dsimp only [RetP, RetT, RetF]); intro hf9 t9 h9 tk9 F9 N9; (try dsimp only); (try k_fold))
  k_with "call ref" => (k_here; (with_reducible show wpAny _ _ (PySem.call (Value.ref 233) _) _ _ _); (rename News _ _ _ _ => cN9); k_dflt (refine' c_scaled (by first | with_reducible assumption | omega | (split <;> omega)) (by first | with_reducible assumption | omega | (split <;> omega)) (by omega) (by omega) _ _ _ _ _ _ _ _ _ _ _ _ _ _ _ _ _ (by k_asm) (by k_asm) (by k_asm) cN9 (by k_asm) (by first | exact rfl | assumption) (by first | exact room9 (by assumption) (by rfl) | ktr_room) (by first | exact units9 (by assumption) (by rfl) | ktr_units) ?_); (try dsimp only [RetP, RetT, RetF]); intro hf9 t9 h9 tk9 F9 N9; (try dsimp only); (try k_fold))
  k_with "call ref" => (k_here; (with_reducible show wpAny _ _ (PySem.call (Value.ref 92) _) _ _ _); (rename News _ _ _ _ => cN9); k_dflt (refine' c_count_digits (by first | with_reducible assumption | omega | (split <;> omega)) _ _ _ _ _ _ _ _ _ _ _ _ _ _ _ _ _ (by k_asm) (by k_asm) (by k_asm) cN9 (by k_asm) (by first | exact rfl | assumption) (by first | exact room9 (by assumption) (by rfl) | ktr_room) (by first | exact units9 (by assumption) (by rfl) | ktr_units) ?_); (try dsimp only [RetP, RetT, RetF]); intro t9 h9 tk9 F9 N9; (try dsimp only); (try k_fold))
  k_with "call ref" => (k_here; (with_reducible show wpAny _ _ (PySem.call (Value.ref 240) _) _ _ _); (rename News _ _ _ _ => cN9); k_dflt (refine' c_figures_of (by first | with_reducible assumption | omega | (split <;> omega)) (by first | with_reducible assumption | omega | (split <;> omega)) (by first | with_reducible assumption | omega | (split <;> omega)) (by first | with_reducible assumption | omega | (split <;> omega)) _ _ _ _ _ _ _ _ _ _ _ _ _ _ _ _ _ (by k_asm) (by k_asm) (by k_asm) cN9 (by k_asm) (by first | exact rfl | assumption) (by first | exact room9 (by assumption) (by rfl) | ktr_room) (by first | exact units9 (by assumption) (by rfl) | ktr_units) ?_); (try dsimp only [RetP, RetT, RetF]); intro hf9 t9 h9 tk9 F9 N9; (try dsimp only); (try k_fold))
  k_with "call ref" => (k_here; (with_reducible show wpAny _ _ (PySem.call (Value.ref 247) _) _ _ _); (rename News _ _ _ _ => cN9); k_dflt (refine' c_edit_int (by first | with_reducible assumption | omega | (split <;> omega)) (by first | with_reducible assumption | omega | (split <;> omega)) (by first | with_reducible assumption | omega | (split <;> omega)) (by first | assumption) _ _ _ _ _ _ _ _ _ _ _ _ _ _ _ _ _ (by k_asm) (by k_asm) (by k_asm) cN9 (by k_asm) (by first | exact rfl | assumption) (by first | exact room9 (by assumption) (by rfl) | ktr_room) (by first | exact units9 (by assumption) (by rfl) | ktr_units) ?_); (try dsimp only [RetP, RetT, RetF]); intro t9 h9 tk9 F9 N9; (try dsimp only); (try k_fold))
  k_with "call ref" => (k_here; (with_reducible show wpAny _ _ (PySem.call (Value.ref 254) _) _ _ _); (rename News _ _ _ _ => cN9); k_dflt (refine' c_point_field (by first | omega | size_fits) (by first | omega | size_fits) (by first | omega | size_fits) (by first | with_reducible assumption | omega | (split <;> omega)) (by first | with_reducible assumption | omega | (split <;> omega)) _ _ _ _ _ _ _ _ _ _ _ _ _ _ _ _ _ (by k_asm) (by k_asm) (by k_asm) cN9 (by k_asm) (by first | exact rfl | assumption) (by first | exact room9 (by assumption) (by rfl) | ktr_room) (by first | exact units9 (by assumption) (by rfl) | ktr_units) ?_); (try dsimp only [RetP, RetT, RetF]); intro t9 h9 tk9 F9 N9; (try dsimp only); (try k_fold))
  k_with "call ref" => (k_here; (with_reducible show wpAny _ _ (PySem.call (Value.ref 261) _) _ _ _); (rename News _ _ _ _ => cN9); k_dflt (refine' c_edit_fixed (by assumption) (by first | with_reducible assumption | omega | (split <;> omega)) (by first | with_reducible assumption | omega | (split <;> omega)) (by first | with_reducible assumption | omega | (split <;> omega)) (by first | with_reducible assumption | omega | (split <;> omega)) (by first | with_reducible assumption | omega | (split <;> omega)) (by first | with_reducible assumption | omega | (split <;> omega)) (by first | with_reducible assumption | omega | (split <;> omega)) (by first | with_reducible assumption | omega | (split <;> omega)) (by first | with_reducible assumption | omega | (split <;> omega)) _ _ _ _ _ _ _ _ _ _ _ _ _ _ _ _ _ (by k_asm) (by k_asm) (by k_asm) cN9 (by k_asm) (by first | exact rfl | assumption) (by first | exact room9 (by assumption) (by rfl) | ktr_room) (by first | exact units9 (by assumption) (by rfl) | ktr_units) ?_); (try dsimp only [RetP, RetT, RetF]); intro t9 h9 tk9 F9 N9; (try dsimp only); (try k_fold))
  k_with "call ref" => (k_here; (with_reducible show wpAny _ _ (PySem.call (Value.ref 268) _) _ _ _); (rename News _ _ _ _ => cN9); k_dflt (refine' c_leading (by assumption) (by first | with_reducible assumption | omega | (split <;> omega)) (by first | with_reducible assumption | omega | (split <;> omega)) (by first | with_reducible assumption | omega | (split <;> omega)) (by first | with_reducible assumption | omega | (split <;> omega)) _ _ _ _ _ _ _ _ _ _ _ _ _ _ _ _ _ (by k_asm) (by k_asm) (by k_asm) cN9 (by k_asm) (by first | exact rfl | assumption) (by first | exact room9 (by assumption) (by rfl) | ktr_room) (by first | exact units9 (by assumption) (by rfl) | ktr_units) ?_); (try dsimp only [RetP, RetT, RetF]); intro q9 t91 t92 t93 h9 tk9 F9 N9 l9; (try k_lt l9); (try dsimp only); (try k_fold))
  k_with "call ref" => (k_here; (with_reducible show wpAny _ _ (PySem.call (Value.ref 275) _) _ _ _); (rename News _ _ _ _ => cN9); k_dflt (refine' c_exponent_text (by first | assumption | omega | size_fits) (by omega) (by assumption) _ _ _ _ _ _ _ _ _ _ _ _ _ _ _ _ _ (by k_asm) (by k_asm) (by k_asm) cN9 (by k_asm) (by first | exact rfl | assumption) (by first | exact room9 (by assumption) (by rfl) | ktr_room) (by first | exact units9 (by assumption) (by rfl) | ktr_units) ?_); (try dsimp only [RetP, RetT, RetF]); intro hf9 t9 h9 tk9 F9 N9; (try dsimp only); (try k_fold))
  k_with "call ref" => (k_here; (with_reducible show wpAny _ _ (PySem.call (Value.ref 282) _) _ _ _); (rename News _ _ _ _ => cN9); k_dflt (refine' c_edit_exp (by first | assumption | size_fits | (rw [len_cs]; simp)) (by assumption) (by first | with_reducible assumption | omega | (split <;> omega)) (by first | with_reducible assumption | omega | (split <;> omega)) (by first | with_reducible assumption | omega | (split <;> omega)) (by first | with_reducible assumption | omega | (split <;> omega)) (by assumption) (by first | with_reducible assumption | omega | (split <;> omega)) (by first | with_reducible assumption | omega | (split <;> omega)) (by first | with_reducible assumption | omega | (split <;> omega)) (by first | with_reducible assumption | omega | (split <;> omega)) _ _ _ _ _ _ _ _ _ _ _ _ _ _ _ _ _ (by k_asm) (by k_asm) (by k_asm) cN9 (by k_asm) (by first | exact rfl | assumption) (by first | exact room9 (by assumption) (by rfl) | ktr_room) (by first | exact units9 (by assumption) (by rfl) | ktr_units) ?_); (try dsimp only [RetP, RetT, RetF]); intro t9 h9 tk9 F9 N9; (try dsimp only); (try k_fold))
  k_with "call ref" => (k_here; (with_reducible show wpAny _ _ (PySem.call (Value.ref 310) _) _ _ _); (rename News _ _ _ _ => cN9); k_dflt (refine' c_edit_text (by first | assumption | omega | size_fits) (by assumption) _ _ _ _ _ _ _ _ _ _ _ _ _ _ _ _ _ (by k_asm) (by k_asm) (by k_asm) cN9 (by k_asm) (by first | exact rfl | assumption) (by first | exact room9 (by assumption) (by rfl) | ktr_room) (by first | exact units9 (by assumption) (by rfl) | ktr_units) ?_); (try dsimp only [RetP, RetT, RetF]); intro t9 h9 tk9 F9 N9; (try dsimp only); (try k_fold))
  k_with "k_mem" => assumption
  k_with "subscriptTail" => (k_here; (with_reducible show wpAny _ _ (subscriptTail _ _ (Value.ref _) (Value.int _ _)) _ _ _); k_dflt (refine' item_tupleT (News.isTup (by k_asm) (by k_mem)) (by decide) (by decide) (by rfl) (by rfl) ?_); k_whole)
  trivial

theorem HasT.mono {news news' : List (Addr × Obj)} {q : Addr} {m e : Int} (h : HasT news q m e) (hs : ∀ p ∈ news, p ∈ news') : HasT news' q m e := by
  rcases h with ⟨t1, t2, hq⟩ | h
  · exact .inl ⟨t1, t2, hs _ hq⟩
  · exact .inr h
theorem lnC13_3 : True := by
  k_with "call ref" => (k_here; (with_reducible show wpAny _ _ (PySem.call (Value.ref 317) _) _ _ _); (rename News _ _ _ _ => cN9); k_dflt (refine' c_edit_real_F (by first | assumption | k_mem) (by first | assumption | exact HasT.mono (by assumption) (by kcj_all)) (by first | with_reducible assumption | omega | (split <;> omega)) (by first | with_reducible assumption | omega | (split <;> omega)) (by first | with_reducible assumption | omega | (split <;> omega)) (by first | with_reducible assumption | omega | (split <;> omega)) (by first | with_reducible assumption | omega | (split <;> omega)) (by first | with_reducible assumption | omega | (split <;> omega)) (by first | with_reducible assumption | omega | (split <;> omega)) (by first | with_reducible assumption | omega | (split <;> omega)) (by first | with_reducible assumption | omega | (split <;> omega)) _ _ _ _ _ _ _ _ _ _ _ _ _ _ _ _ _ (by k_asm) (by k_asm) (by k_asm) cN9 (by k_asm) (by first | exact rfl | assumption) (by first | exact room9 (by assumption) (by rfl) | ktr_room) (by first | exact units9 (by assumption) (by rfl) | ktr_units) ?_); (try dsimp only [RetP, RetT, RetF]); intro t9 h9 tk9 F9 N9; (try dsimp only); (try k_fold))
  k_with "call ref" => (k_here; (with_reducible show wpAny _ _ (PySem.call (Value.ref 317) _) _ _ _); (rename News _ _ _ _ => cN9); k_dflt (refine' c_edit_real_E (by first | assumption | k_mem) (by first | assumption | exact HasT.mono (by assumption) (by kcj_all)) (by first | with_reducible assumption | omega | (split <;> omega)) (by first | with_reducible assumption | omega | (split <;> omega)) (by first | with_reducible assumption | omega | (split <;> omega)) (by first | with_reducible assumption | omega | (split <;> omega)) (by assumption) (by first | with_reducible assumption | omega | (split <;> omega)) (by first | with_reducible assumption | omega | (split <;> omega)) (by first | with_reducible assumption | omega | (split <;> omega)) (by first | with_reducible assumption | omega | (split <;> omega)) _ _ _ _ _ _ _ _ _ _ _ _ _ _ _ _ _ (by k_asm) (by k_asm) (by k_asm) cN9 (by k_asm) (by first | exact rfl | assumption) (by first | exact room9 (by assumption) (by rfl) | ktr_room) (by first | exact units9 (by assumption) (by rfl) | ktr_units) ?_); (try dsimp only [RetP, RetT, RetF]); intro t9 h9 tk9 F9 N9; (try dsimp only); (try k_fold))
  k_with "call ref" => (k_here; (with_reducible show wpAny _ _ (PySem.call (Value.ref 317) _) _ _ _); (rename News _ _ _ _ => cN9); k_dflt (refine' c_edit_real_D (by first | assumption | k_mem) (by first | assumption | exact HasT.mono (by assumption) (by kcj_all)) (by first | with_reducible assumption | omega | (split <;> omega)) (by first | with_reducible assumption | omega | (split <;> omega)) (by first | with_reducible assumption | omega | (split <;> omega)) (by first | with_reducible assumption | omega | (split <;> omega)) (by first | with_reducible assumption | omega | (split <;> omega)) (by first | with_reducible assumption | omega | (split <;> omega)) (by first | with_reducible assumption | omega | (split <;> omega)) (by first | with_reducible assumption | omega | (split <;> omega)) _ _ _ _ _ _ _ _ _ _ _ _ _ _ _ _ _ (by k_asm) (by k_asm) (by k_asm) cN9 (by k_asm) (by first | exact rfl | assumption) (by first | exact room9 (by assumption) (by rfl) | ktr_room) (by first | exact units9 (by assumption) (by rfl) | ktr_units) ?_); (try dsimp only [RetP, RetT, RetF]); intro t9 h9 tk9 F9 N9; (try dsimp only); (try k_fold))
  trivial
set_option maxRecDepth 100000 in
set_option maxHeartbeats 8000000 in
theorem c_edit_value_I {w : World} {mg mb p loose mean news} {it : Addr} {v n k : Int} {lv : Value} {plus : Bool} {t0 t1 t2 t3 u3 : Tok} (hit : (it, tupO #[.str (Str.ofString "I") t0, .int n t1, lv]) ∈ news) (h1 : v.natAbs < 1000000000000000000) (hw0 : 0 ≤ n) (hw1 : n ≤ 100) (hlv : LeastOk lv) :
    Ct w mg mb p loose mean 5 324 [.ref it, .int 0 t2, .int v t3, .int k u3, .bool plus] news (RetP news fun t => .str (S (EI v n (leastN lv) plus)) t) := by
  dsimp only [Ct, RetP, RetT, RetF]
  k_fill
  intro dp un gd cn cz a ccd cl outer A₀ base h₀ L m s Q E B F X N T hk hd hu hret
  refine wpAny_call ?_
  k_dflt (refine' code_def (binds := [(Str.ofString "item", .ref it), (Str.ofString "kind", .int 0 t2), (Str.ofString "value", .int v t3), (Str.ofString "scale", .int k u3), (Str.ofString "is_plus", .bool plus)]) ?k1 ?k2 ?k3 ?k4 ?k5 ?kA ?kF ?kK ?k6 ?k7 ?k8 ?k9 ?kB ?_ ?c2 ?c3 ?c4 ?c5; (case kA => exact rfl); (case kF => exact rfl); (case kK => assumption); (case k1 => k_asm); (case k2 => k_asm); (case k3 => k_asm); (case k4 => k_asm); (case k5 => k_asm); (case k6 => k_is); (case k7 => k_is); (case k8 => ktr_room); (case k9 => exact BindsTo.of_eq rfl); (case c5 => decide); (case kB => exact locs rfl); (case c2 => exact rfl); (case c3 => exact rfl); (case c4 => exact rfl); k_whole; intro g' L' h' FG' F' N' B' X' T'; (try dsimp only); (try k_lift B'); (try k_fold))
  k_steps
  all_goals first
    | (exfalso; omega)
    | (refine cb_retS hret ?_ (by k_asm) (cb_drop (by assumption) (by kcj_all)); first | rfl | (cases b9 <;> simp))

set_option maxRecDepth 100000 in
set_option maxHeartbeats 8000000 in
theorem c_edit_value_L {w : World} {mg mb p loose mean news} {it : Addr} {n k : Int} {b9 plus : Bool} {t0 t1 t2 u3 : Tok} (hit : (it, tupO #[.str (Str.ofString "L") t0, .int n t1]) ∈ news) (hw0 : 0 ≤ n) (hw1 : n ≤ 100) :
    Ct w mg mb p loose mean 5 324 [.ref it, .int 4 t2, .bool b9, .int k u3, .bool plus] news (RetP news fun t => .str (S (fieldL (if b9 then [84] else [70]) n)) t) := by
  dsimp only [Ct, RetP, RetT, RetF]
  k_fill
  intro dp un gd cn cz a ccd cl outer A₀ base h₀ L m s Q E B F X N T hk hd hu hret
  refine wpAny_call ?_
  k_dflt (refine' code_def (binds := [(Str.ofString "item", .ref it), (Str.ofString "kind", .int 4 t2), (Str.ofString "value", .bool b9), (Str.ofString "scale", .int k u3), (Str.ofString "is_plus", .bool plus)]) ?k1 ?k2 ?k3 ?k4 ?k5 ?kA ?kF ?kK ?k6 ?k7 ?k8 ?k9 ?kB ?_ ?c2 ?c3 ?c4 ?c5; (case kA => exact rfl); (case kF => exact rfl); (case kK => assumption); (case k1 => k_asm); (case k2 => k_asm); (case k3 => k_asm); (case k4 => k_asm); (case k5 => k_asm); (case k6 => k_is); (case k7 => k_is); (case k8 => ktr_room); (case k9 => exact BindsTo.of_eq rfl); (case c5 => decide); (case kB => exact locs rfl); (case c2 => exact rfl); (case c3 => exact rfl); (case c4 => exact rfl); k_whole; intro g' L' h' FG' F' N' B' X' T'; (try dsimp only); (try k_lift B'); (try k_fold))
  k_steps
  all_goals first
    | (exfalso; omega)
    | (refine cb_retS hret ?_ (by k_asm) (cb_drop (by assumption) (by kcj_all)); first | rfl | (cases b9 <;> simp))

set_option maxRecDepth 100000 in
set_option maxHeartbeats 8000000 in
theorem c_edit_value_A {w : World} {mg mb p loose mean news} {it : Addr} {k : Int} {x : Str} {wv : Value} {plus : Bool} {t0 t2 t3 u3 : Tok} (hit : (it, tupO #[.str (Str.ofString "A") t0, wv]) ∈ news) (hx : x.length ≤ 100) (hwv : WideOk wv) :
    Ct w mg mb p loose mean 5 324 [.ref it, .int 5 t2, .str x t3, .int k u3, .bool plus] news (RetP news fun t => .str (S (ET (cs x) (wInt x wv))) t) := by
  dsimp only [Ct, RetP, RetT, RetF]
  k_fill
  intro dp un gd cn cz a ccd cl outer A₀ base h₀ L m s Q E B F X N T hk hd hu hret
  refine wpAny_call ?_
  k_dflt (refine' code_def (binds := [(Str.ofString "item", .ref it), (Str.ofString "kind", .int 5 t2), (Str.ofString "value", .str x t3), (Str.ofString "scale", .int k u3), (Str.ofString "is_plus", .bool plus)]) ?k1 ?k2 ?k3 ?k4 ?k5 ?kA ?kF ?kK ?k6 ?k7 ?k8 ?k9 ?kB ?_ ?c2 ?c3 ?c4 ?c5; (case kA => exact rfl); (case kF => exact rfl); (case kK => assumption); (case k1 => k_asm); (case k2 => k_asm); (case k3 => k_asm); (case k4 => k_asm); (case k5 => k_asm); (case k6 => k_is); (case k7 => k_is); (case k8 => ktr_room); (case k9 => exact BindsTo.of_eq rfl); (case c5 => decide); (case kB => exact locs rfl); (case c2 => exact rfl); (case c3 => exact rfl); (case c4 => exact rfl); k_whole; intro g' L' h' FG' F' N' B' X' T'; (try dsimp only); (try k_lift B'); (try k_fold))
  k_steps
  all_goals first
    | (exfalso; omega)
    | (refine cb_retS hret ?_ (by k_asm) (cb_drop (by assumption) (by kcj_all)); first | rfl | (cases b9 <;> simp))

set_option maxRecDepth 100000 in
set_option maxHeartbeats 8000000 in
theorem c_edit_value_F {w : World} {mg mb p loose mean news} {it q : Addr} {kd m9 e9 n d k : Int} {plus : Bool} {t0 t1 t2 t3 u3 : Tok} (hkd : kd = 1 ∨ kd = 2) (hit : (it, tupO #[.str (Str.ofString "F") t0, .int n t1, .int d t2]) ∈ news) (hv : HasT news q m9 e9) (h1 : m9.natAbs < 1000000000000000000) (hp1 : -9 ≤ e9 + k + d) (hp2 : e9 + k + d ≤ 18) (he : e9.natAbs ≤ 1000) (hkk : k.natAbs ≤ 10) (hd0 : 0 ≤ d) (hd1 : d ≤ 10) (hw0 : 0 ≤ n) (hw1 : n ≤ 100) :
    Ct w mg mb p loose mean 7 324 [.ref it, .int kd t3, .ref q, .int k u3, .bool plus] news (RetP news fun t => .str (S (EF m9 e9 n d k plus)) t) := by
  dsimp only [Ct, RetP, RetT, RetF]
  k_fill
  intro dp un gd cn cz a ccd cl outer A₀ base h₀ L m s Q E B F X N T hk hd hu hret
  refine wpAny_call ?_
  k_dflt (refine' code_def (binds := [(Str.ofString "item", .ref it), (Str.ofString "kind", .int kd t3), (Str.ofString "value", .ref q), (Str.ofString "scale", .int k u3), (Str.ofString "is_plus", .bool plus)]) ?k1 ?k2 ?k3 ?k4 ?k5 ?kA ?kF ?kK ?k6 ?k7 ?k8 ?k9 ?kB ?_ ?c2 ?c3 ?c4 ?c5; (case kA => exact rfl); (case kF => exact rfl); (case kK => assumption); (case k1 => k_asm); (case k2 => k_asm); (case k3 => k_asm); (case k4 => k_asm); (case k5 => k_asm); (case k6 => k_is); (case k7 => k_is); (case k8 => ktr_room); (case k9 => exact BindsTo.of_eq rfl); (case c5 => decide); (case kB => exact locs rfl); (case c2 => exact rfl); (case c3 => exact rfl); (case c4 => exact rfl); k_whole; intro g' L' h' FG' F' N' B' X' T'; (try dsimp only); (try k_lift B'); (try k_fold))
  k_steps
  all_goals first
    | (exfalso; (clear hret hit hu hp1 hp2 B' hd he hkk h1 hw1 hd1 hw0 hd0 T T' F N X' FG' X hv B hk; omega))
    | (refine cb_retS hret ?_ (by k_asm) (cb_drop (by assumption) (by kcj_all)); first | rfl | (cases b9 <;> simp))

set_option maxRecDepth 100000 in
set_option maxHeartbeats 8000000 in
theorem c_edit_value_E {w : World} {mg mb p loose mean news} {it q : Addr} {kd m9 e9 n d k : Int} {plus : Bool} {sv : Value} {t0 t1 t2 t3 u3 : Tok} (hkd : kd = 1 ∨ kd = 2) (hit : (it, tupO #[.str (Str.ofString "E") t0, .int n t1, .int d t2, sv]) ∈ news) (hv : HasT news q m9 e9) (h1 : m9.natAbs < 1000000000) (he : e9.natAbs ≤ 50) (hd0 : 2 ≤ d) (hd1 : d ≤ 7) (hsv : SizeOk sv) (hk0 : -1 ≤ k) (hk1 : k ≤ 2) (hw0 : 0 ≤ n) (hw1 : n ≤ 100) :
    Ct w mg mb p loose mean 7 324 [.ref it, .int kd t3, .ref q, .int k u3, .bool plus] news (RetP news fun t => .str (S (EE [69] m9 e9 n d k (szN sv) plus)) t) := by
  dsimp only [Ct, RetP, RetT, RetF]
  k_fill
  intro dp un gd cn cz a ccd cl outer A₀ base h₀ L m s Q E B F X N T hk hd hu hret
  refine wpAny_call ?_
  k_dflt (refine' code_def (binds := [(Str.ofString "item", .ref it), (Str.ofString "kind", .int kd t3), (Str.ofString "value", .ref q), (Str.ofString "scale", .int k u3), (Str.ofString "is_plus", .bool plus)]) ?k1 ?k2 ?k3 ?k4 ?k5 ?kA ?kF ?kK ?k6 ?k7 ?k8 ?k9 ?kB ?_ ?c2 ?c3 ?c4 ?c5; (case kA => exact rfl); (case kF => exact rfl); (case kK => assumption); (case k1 => k_asm); (case k2 => k_asm); (case k3 => k_asm); (case k4 => k_asm); (case k5 => k_asm); (case k6 => k_is); (case k7 => k_is); (case k8 => ktr_room); (case k9 => exact BindsTo.of_eq rfl); (case c5 => decide); (case kB => exact locs rfl); (case c2 => exact rfl); (case c3 => exact rfl); (case c4 => exact rfl); k_whole; intro g' L' h' FG' F' N' B' X' T'; (try dsimp only); (try k_lift B'); (try k_fold))
  k_steps
  all_goals first
    | (exfalso; (clear hret hit hu B' hd hk0 h1 he hw0 hd1 hw1 hd0 hk1 T T' N F X' hk FG' B hv X hsv; omega))
    | (refine cb_retS hret ?_ (by k_asm) (cb_drop (by assumption) (by kcj_all)); first | rfl | (cases b9 <;> simp))

set_option maxRecDepth 100000 in
set_option maxHeartbeats 8000000 in
theorem c_edit_value_D {w : World} {mg mb p loose mean news} {it q : Addr} {kd m9 e9 n d k : Int} {plus : Bool} {t0 t1 t2 t3 u3 : Tok} (hkd : kd = 1 ∨ kd = 2) (hit : (it, tupO #[.str (Str.ofString "D") t0, .int n t1, .int d t2]) ∈ news) (hv : HasT news q m9 e9) (h1 : m9.natAbs < 1000000000) (he : e9.natAbs ≤ 50) (hd0 : 2 ≤ d) (hd1 : d ≤ 7) (hk0 : -1 ≤ k) (hk1 : k ≤ 2) (hw0 : 0 ≤ n) (hw1 : n ≤ 100) :
    Ct w mg mb p loose mean 7 324 [.ref it, .int kd t3, .ref q, .int k u3, .bool plus] news (RetP news fun t => .str (S (EE [68] m9 e9 n d k 2 plus)) t) := by
  dsimp only [Ct, RetP, RetT, RetF]
  k_fill
  intro dp un gd cn cz a ccd cl outer A₀ base h₀ L m s Q E B F X N T hk hd hu hret
  refine wpAny_call ?_
  k_dflt (refine' code_def (binds := [(Str.ofString "item", .ref it), (Str.ofString "kind", .int kd t3), (Str.ofString "value", .ref q), (Str.ofString "scale", .int k u3), (Str.ofString "is_plus", .bool plus)]) ?k1 ?k2 ?k3 ?k4 ?k5 ?kA ?kF ?kK ?k6 ?k7 ?k8 ?k9 ?kB ?_ ?c2 ?c3 ?c4 ?c5; (case kA => exact rfl); (case kF => exact rfl); (case kK => assumption); (case k1 => k_asm); (case k2 => k_asm); (case k3 => k_asm); (case k4 => k_asm); (case k5 => k_asm); (case k6 => k_is); (case k7 => k_is); (case k8 => ktr_room); (case k9 => exact BindsTo.of_eq rfl); (case c5 => decide); (case kB => exact locs rfl); (case c2 => exact rfl); (case c3 => exact rfl); (case c4 => exact rfl); k_whole; intro g' L' h' FG' F' N' B' X' T'; (try dsimp only); (try k_lift B'); (try k_fold))
  k_steps
  all_goals first
    | (exfalso; (clear hret hit hu B' hd hk0 h1 he hd0 hd1 hw1 hw0 hk1 T T' F N X' FG' X hv B hk; omega))
    | (refine cb_retS hret ?_ (by k_asm) (cb_drop (by assumption) (by kcj_all)); first | rfl | (cases b9 <;> simp))

end
section
theorem lnC14_1 : True := by
  k_with_none
  k_with "omega" => ((try clear hret); (try clear hk); (try clear hd); (try clear hu); first | lia | omega +splitDisjunctions)
  trivial
theorem lnC14_2 : True := by
  k_with "execs cons" => ((with_reducible refine wpAny_execs_cons ?_); try dsimp only)
  k_with "execs nil" => refine wpAny_execs_nil ?_
  trivial

theorem fmod_pos' (x : Int) {k : Int} (h : 0 ≤ k) : Int.fmod x k = x % k := Int.fmod_eq_emod_of_nonneg x h
abbrev pouO (ra : Addr) (k : Int) (t : Tok) : Obj := W.listOf #[.ref ra, .int k t] 0
theorem fmod_b {a b : Int} (h : 1 ≤ b) : 0 ≤ Int.fmod a b ∧ Int.fmod a b < b := by
  rw [fmod_pos' _ (by omega)]
  exact ⟨Int.emod_nonneg _ (by omega), Int.emod_lt_of_pos _ (by omega)⟩
theorem ne_all {d : Addr} {l : List (Addr × Obj)} (h : ∀ p ∈ l, p.1 ≠ d) : ∀ p ∈ l, p.1 ≠ d := h
theorem lnC14_3 : True := by
  k_with "k_all" => exact ne_all (by assumption)
  trivial
set_option maxRecDepth 100000 in
set_option maxHeartbeats 8000000 in
theorem c_law_chip {w : World} {mg mb p loose mean} {pa ra : Addr} {ws : List Value} {ns : List Int} {rest : List (Addr × Obj)} {k many : Int} {t0 u : Tok} (hI : IntsAre ws ns) (hlen : ns.length ≤ 60) (hk0 : 0 ≤ k) (hk1 : k ≤ 1000000) (hm0 : 1 ≤ many) (hm1 : many ≤ 2000001) (hra : ra ≠ pa) (hne : ∀ p ∈ rest, p.1 ≠ pa) :
    Ct w mg mb p loose mean 1 354 [.ref pa, .int many u] ((pa, pouO ra k t0) :: (ra, W.listOf ws.toArray 0) :: rest) (fun h₀ L m s Q => ∀ (r : Int) (t t1 : Tok) (h' : Heap) (tk' : Nat), 0 ≤ r → r < many → Fr h₀ L h' m → News h₀ L h' ((pa, pouO ra (k + 1) t1) :: (ra, W.listOf ws.toArray 0) :: rest) → Q (.int r t) { s with heap := h', toks := tk' }) := by
  dsimp only [Ct, RetP, RetT, RetF]
  k_fill
  intro dp un gd cn cz a ccd cl outer A₀ base h₀ L m s Q E B F X N T hk hd hu hret
  refine wpAny_call ?_
  k_dflt (refine' code_def (binds := [(Str.ofString "pouch", .ref pa), (Str.ofString "many", .int many u)]) ?k1 ?k2 ?k3 ?k4 ?k5 ?kA ?kF ?kK ?k6 ?k7 ?k8 ?k9 ?kB ?_ ?c2 ?c3 ?c4 ?c5; (case kA => exact rfl); (case kF => exact rfl); (case kK => assumption); (case k1 => k_asm); (case k2 => k_asm); (case k3 => k_asm); (case k4 => k_asm); (case k5 => k_asm); (case k6 => k_is); (case k7 => k_is); (case k8 => ktr_room); (case k9 => exact BindsTo.of_eq rfl); (case c5 => decide); (case kB => exact locs rfl); (case c2 => exact rfl); (case c3 => exact rfl); (case c4 => exact rfl); k_whole; intro g' L' h' FG' F' N' B' X' T'; (try dsimp only); (try k_lift B'); (try k_fold))
  k_steps
  · exact hret _ _ _ _ _ (fmod_b hm0).1 (fmod_b hm0).2 (by k_asm) (by k_asm)
  · exact hret _ _ _ _ _ (fmod_b hm0).1 (fmod_b hm0).2 (by k_asm) (by k_asm)
  · exact hret _ _ _ _ _ (by decide) (by (clear hlen hd B' hu hra N hne hret hk1 hm1 hk0 T' T F X' B hk FG' X hI; omega)) (by k_asm) (by k_asm)

end
section
theorem lnC15_1 : True := by
  k_with_none
  k_with "omega" => ((try clear hret); (try clear hk); (try clear hd); (try clear hu); first | lia | omega +splitDisjunctions)
  trivial
theorem lnC15_2 : True := by
  k_with "execs cons" => ((with_reducible refine wpAny_execs_cons ?_); try dsimp only)
  k_with "execs nil" => refine wpAny_execs_nil ?_
  trivial

abbrev rowO (ws : List Value) : Obj := W.listOf ws.toArray 0
theorem upd_split {d : Addr} {o o' : Obj} {l l' : List (Addr × Obj)} (U : Upd d o o' l l') : ∃ pre post, l = pre ++ (d, o) :: post ∧ l' = pre ++ (d, o') :: post ∧ (∀ p ∈ pre, p.1 ≠ d) ∧ ∀ p ∈ post, p.1 ≠ d := U.split
theorem c_chip {w : World} {mg mb p loose mean} {pa ra : Addr} {ws : List Value} {ns : List Int} {news : List (Addr × Obj)} {nx : Tok → List (Addr × Obj)} {k many : Int} {t0 u : Tok} (hI : IntsAre ws ns) (hlen : ns.length ≤ 60)
    (hU : ∀ t1, Upd pa (pouO ra k t0) (pouO ra (k + 1) t1) news (nx t1)) (hr : (ra, rowO ws) ∈ news) (hk0 : 0 ≤ k) (hk1 : k ≤ 1000000) (hm0 : 1 ≤ many) (hm1 : many ≤ 2000001) :
    Ct w mg mb p loose mean 1 354 [.ref pa, .int many u] news (fun h₀ L m s Q => ∀ (r : Int) (t t1 : Tok) (h' : Heap) (tk' : Nat), 0 ≤ r → r < many → Fr h₀ L h' m → News h₀ L h' (nx t1) → Q (.int r t) { s with heap := h', toks := tk' }) := by
  obtain ⟨pre, post, e1, e2, ha, hb⟩ := upd_split (hU 0)
  subst e1
  have hne : ∀ p ∈ pre ++ post, p.1 ≠ pa := fun p hp => (List.mem_append.mp hp).elim (ha p) (hb p)
  have hra : (ra, rowO ws) ∈ pre ++ post := by
    rcases List.mem_append.mp hr with h | h
    · exact List.mem_append_left _ h
    · rcases List.mem_cons.mp h with h | h
      · exfalso
        have h2 := congrArg (fun o : Addr × Obj => o.2.data) h
        have h3 := congrArg (fun d : Data => match d with | .seq v _ => v.toList | _ => []) h2
        have h4 : ws = [.ref ra, .int k t0] := by simpa using h3
        subst h4
        cases hI
      · exact List.mem_append_right _ h
  have hnp : ra ≠ pa := hne _ hra
  intro dp un gd cn cz a ccd cl outer A₀ base h₀ L m s Q E B F X N T hk hd hu hret
  refine c_law_chip (t0 := t0) (rest := pre ++ post) hI hlen hk0 hk1 hm0 hm1 hnp hne dp un gd cn cz a ccd cl outer A₀ base h₀ L m s Q E B F X (cb_drop N ?_) T hk hd hu ?_
  · intro p hp
    rcases List.mem_cons.mp hp with rfl | hp
    · simp
    rcases List.mem_cons.mp hp with rfl | hp
    · exact hr
    · rcases List.mem_append.mp hp with h | h
      · exact List.mem_append_left _ h
      · exact List.mem_append_right _ (.tail _ h)
  · intro r t t1 h' tk' h1 h2 F' N'
    obtain ⟨pre', post', e3, e4, ha', hb'⟩ := upd_split (hU t1)
    have back : ∀ p ∈ pre ++ (pa, pouO ra k t0) :: post, p.1 ≠ pa → p ∈ pre ++ post := fun p hp hn => by
      rcases List.mem_append.mp hp with h | h
      · exact List.mem_append_left _ h
      · rcases List.mem_cons.mp h with rfl | h
        · exact absurd rfl hn
        · exact List.mem_append_right _ h
    refine hret r t t1 h' tk' h1 h2 F' (cb_drop N' ?_)
    intro p hp
    rw [e4] at hp
    rcases List.mem_append.mp hp with h | h
    · exact .tail _ (.tail _ (back p (by rw [e3]; exact List.mem_append_left _ h) (ha' p h)))
    · rcases List.mem_cons.mp h with rfl | h
      · exact .head _
      · exact .tail _ (.tail _ (back p (by rw [e3]; exact List.mem_append_right _ (.tail _ h)) (hb' p h)))

end
section
theorem lnC16_1 : True := by
  k_with_none
  k_with "omega" => ((try clear hret); (try clear hk); (try clear hd); (try clear hu); first | lia | omega +splitDisjunctions)
  trivial
theorem lnC16_2 : True := by
  k_with "execs cons" => ((with_reducible refine wpAny_execs_cons ?_); try dsimp only)
  k_with "execs nil" => refine wpAny_execs_nil ?_
  k_with "call ref" => (k_here; (with_reducible show wpAny _ _ (PySem.call (Value.ref 354) _) _ _ _); (rename News _ _ _ _ => cN9); k_dflt (refine' c_chip (by assumption) (by assumption) (by intro tq9; k_upd) (by k_mem) (by omega) (by omega) (by decide) (by decide) _ _ _ _ _ _ _ _ _ _ _ _ _ _ _ _ _ (by k_asm) (by k_asm) (by k_asm) cN9 (by k_asm) (by first | exact rfl | assumption) (by first | exact room9 (by assumption) (by rfl) | ktr_room) (by first | exact units9 (by assumption) (by rfl) | ktr_units) ?_); intro r9 t9 t91 h9 tk9 hr91 hr92 F9 N9; (try dsimp only at N9); (try dsimp only); (try k_fold))
  k_with "k_all" => assumption
  k_with "k_mem" => assumption
  k_with "subscriptTail" => (k_here; (with_reducible show wpAny _ _ (subscriptTail _ _ (Value.ref _) (Value.int _ _)) _ _ _); k_dflt (refine' item_tupleT (News.isTup (by k_asm) (by k_mem)) (by decide) (by decide) (by rfl) (by rfl) ?_); k_whole)
  trivial

theorem fd_ne : (Str.ofString "F" == Str.ofString "D") = false := by decide +kernel
theorem dd_eq : (Str.ofString "D" == Str.ofString "D") = true := by decide +kernel
theorem cases4 {r : Int} (h : r < 4) (h0 : 0 ≤ r) : r = 0 ∨ r = 1 ∨ r = 2 ∨ r = 3 := by omega
theorem cases3 {r : Int} (h : r < 3) (h0 : 0 ≤ r) : r = 0 ∨ r = 1 ∨ r = 2 := by omega
set_option maxRecDepth 100000 in
set_option maxHeartbeats 8000000 in
theorem c_law_item_I {w : World} {mg mb p loose mean} {pa ra : Addr} {ws : List Value} {ns : List Int} {rest : List (Addr × Obj)} {k : Int} {t0 u : Tok} (hI : IntsAre ws ns) (hlen : ns.length ≤ 60) (hk0 : 0 ≤ k) (hk1 : k ≤ 999900) (hra : ra ≠ pa) (hne : ∀ p ∈ rest, p.1 ≠ pa) :
    Ct w mg mb p loose mean 2 361 [.ref pa, .str (Str.ofString "I") u] ((pa, pouO ra k t0) :: (ra, rowO ws) :: rest) (fun h₀ L m s Q => ∀ (it : Addr) (n k1 : Int) (lv : Value) (t1 t2 t3 t4 : Tok) (h' : Heap) (tk' : Nat), 3 ≤ n → n ≤ 15 → LeastOk lv → k ≤ k1 → k1 ≤ k + 3 → @LT.lt Nat _ pa it → (∀ p ∈ rest, p.1 < it) → Fr h₀ L h' m → News h₀ L h' ((it, tupO #[.str (Str.ofString "I") t1, .int n t2, lv]) :: (pa, pouO ra k1 t3) :: (ra, rowO ws) :: rest) → Q (.ref it) { s with heap := h', toks := tk' }) := by
  dsimp only [Ct, RetP, RetT, RetF]
  k_fill
  intro dp un gd cn cz a ccd cl outer A₀ base h₀ L m s Q E B F X N T hk hd hu hret
  refine wpAny_call ?_
  k_dflt (refine' code_def (binds := [(Str.ofString "pouch", .ref pa), (Str.ofString "word", .str (Str.ofString "I") u)]) ?k1 ?k2 ?k3 ?k4 ?k5 ?kA ?kF ?kK ?k6 ?k7 ?k8 ?k9 ?kB ?_ ?c2 ?c3 ?c4 ?c5; (case kA => exact rfl); (case kF => exact rfl); (case kK => assumption); (case k1 => k_asm); (case k2 => k_asm); (case k3 => k_asm); (case k4 => k_asm); (case k5 => k_asm); (case k6 => k_is); (case k7 => k_is); (case k8 => ktr_room); (case k9 => exact BindsTo.of_eq rfl); (case c5 => decide); (case kB => exact locs rfl); (case c2 => exact rfl); (case c3 => exact rfl); (case c4 => exact rfl); k_whole; intro g' L' h' FG' F' N' B' X' T'; (try dsimp only); (try k_lift B'); (try k_fold))
  k_steps
  (with_reducible rename (_ : Int) < 4 => h4)
  rcases cases4 h4 (by assumption) with e | e | e | e <;> subst e
  all_goals k_steps
  all_goals (rename News _ _ _ _ => hN9)
  all_goals refine hret _ _ _ _ _ _ _ 0 _ _ ?_ ?_ ?_ ?_ ?_ ?_ ?_ (by k_asm) (cb_drop hN9 (by kcj_all))
  all_goals first | (clear hI X B hk X' FG' F T T' hk0 hk1 hlen h4 hd B' N hu hra hne hret hN9; omega) | (simp only [fd_ne, dd_eq, Bool.false_eq_true, if_false, if_true]; omega) | exact .inl rfl | exact .inr ⟨_, _, rfl, by decide, by decide⟩ | exact .inr ⟨_, _, rfl, by omega, by omega⟩ | exact (fun p hp => by first | (with_reducible rename _ ∧ _ ∧ _ ∧ _ ∧ AllLt _ _ => hl9; exact ktn_ltOf hl9.2.2.2.2 p hp) | (with_reducible rename _ ∧ _ ∧ _ ∧ AllLt _ _ => hl9; exact ktn_ltOf hl9.2.2.2 p hp) | (with_reducible rename _ ∧ _ ∧ AllLt _ _ => hl9; exact ktn_ltOf hl9.2.2 p hp))

set_option maxRecDepth 100000 in
set_option maxHeartbeats 8000000 in
theorem c_law_item_F {w : World} {mg mb p loose mean} {pa ra : Addr} {ws : List Value} {ns : List Int} {rest : List (Addr × Obj)} {k : Int} {t0 u : Tok} (hI : IntsAre ws ns) (hlen : ns.length ≤ 60) (hk0 : 0 ≤ k) (hk1 : k ≤ 999900) (hra : ra ≠ pa) (hne : ∀ p ∈ rest, p.1 ≠ pa) :
    Ct w mg mb p loose mean 2 361 [.ref pa, .str (Str.ofString "F") u] ((pa, pouO ra k t0) :: (ra, rowO ws) :: rest) (fun h₀ L m s Q => ∀ (it : Addr) (n k1 d : Int) (t1 t2 t3 t4 : Tok) (h' : Heap) (tk' : Nat), 6 ≤ n → n ≤ 18 → 0 ≤ d → d ≤ 5 → k ≤ k1 → k1 ≤ k + 3 → @LT.lt Nat _ pa it → (∀ p ∈ rest, p.1 < it) → Fr h₀ L h' m → News h₀ L h' ((it, tupO #[.str (Str.ofString "F") t1, .int n t2, .int d t4]) :: (pa, pouO ra k1 t3) :: (ra, rowO ws) :: rest) → Q (.ref it) { s with heap := h', toks := tk' }) := by
  dsimp only [Ct, RetP, RetT, RetF]
  k_fill
  intro dp un gd cn cz a ccd cl outer A₀ base h₀ L m s Q E B F X N T hk hd hu hret
  refine wpAny_call ?_
  k_dflt (refine' code_def (binds := [(Str.ofString "pouch", .ref pa), (Str.ofString "word", .str (Str.ofString "F") u)]) ?k1 ?k2 ?k3 ?k4 ?k5 ?kA ?kF ?kK ?k6 ?k7 ?k8 ?k9 ?kB ?_ ?c2 ?c3 ?c4 ?c5; (case kA => exact rfl); (case kF => exact rfl); (case kK => assumption); (case k1 => k_asm); (case k2 => k_asm); (case k3 => k_asm); (case k4 => k_asm); (case k5 => k_asm); (case k6 => k_is); (case k7 => k_is); (case k8 => ktr_room); (case k9 => exact BindsTo.of_eq rfl); (case c5 => decide); (case kB => exact locs rfl); (case c2 => exact rfl); (case c3 => exact rfl); (case c4 => exact rfl); k_whole; intro g' L' h' FG' F' N' B' X' T'; (try dsimp only); (try k_lift B'); (try k_fold))
  k_steps
  all_goals (rename News _ _ _ _ => hN9)
  all_goals refine hret _ _ _ _ _ _ _ _ _ _ ?_ ?_ ?_ ?_ ?_ ?_ ?_ ?_ (by k_asm) (cb_drop hN9 (by kcj_all))
  all_goals first | (clear hI X B hk X' FG' F T T' hk1 hk0 hlen hd B' N hu hra hne hret hN9; omega) | (simp only [fd_ne, dd_eq, Bool.false_eq_true, if_false, if_true]; (clear hI X B hk X' FG' F T T' hk1 hk0 hlen hd B' N hu hra hne hret hN9; omega)) | exact .inl rfl | exact .inr ⟨_, _, rfl, by decide, by decide⟩ | exact .inr ⟨_, _, rfl, by omega, by omega⟩ | exact (fun p hp => by first | (with_reducible rename _ ∧ _ ∧ _ ∧ _ ∧ AllLt _ _ => hl9; exact ktn_ltOf hl9.2.2.2.2 p hp) | (with_reducible rename _ ∧ _ ∧ _ ∧ AllLt _ _ => hl9; exact ktn_ltOf hl9.2.2.2 p hp) | (with_reducible rename _ ∧ _ ∧ AllLt _ _ => hl9; exact ktn_ltOf hl9.2.2 p hp))

set_option maxRecDepth 100000 in
set_option maxHeartbeats 8000000 in
theorem c_law_item_D {w : World} {mg mb p loose mean} {pa ra : Addr} {ws : List Value} {ns : List Int} {rest : List (Addr × Obj)} {k : Int} {t0 u : Tok} (hI : IntsAre ws ns) (hlen : ns.length ≤ 60) (hk0 : 0 ≤ k) (hk1 : k ≤ 999900) (hra : ra ≠ pa) (hne : ∀ p ∈ rest, p.1 ≠ pa) :
    Ct w mg mb p loose mean 2 361 [.ref pa, .str (Str.ofString "D") u] ((pa, pouO ra k t0) :: (ra, rowO ws) :: rest) (fun h₀ L m s Q => ∀ (it : Addr) (n k1 d : Int) (t1 t2 t3 t4 : Tok) (h' : Heap) (tk' : Nat), 6 ≤ n → n ≤ 18 → 2 ≤ d → d ≤ 7 → k ≤ k1 → k1 ≤ k + 3 → @LT.lt Nat _ pa it → (∀ p ∈ rest, p.1 < it) → Fr h₀ L h' m → News h₀ L h' ((it, tupO #[.str (Str.ofString "D") t1, .int n t2, .int d t4]) :: (pa, pouO ra k1 t3) :: (ra, rowO ws) :: rest) → Q (.ref it) { s with heap := h', toks := tk' }) := by
  dsimp only [Ct, RetP, RetT, RetF]
  k_fill
  intro dp un gd cn cz a ccd cl outer A₀ base h₀ L m s Q E B F X N T hk hd hu hret
  refine wpAny_call ?_
  k_dflt (refine' code_def (binds := [(Str.ofString "pouch", .ref pa), (Str.ofString "word", .str (Str.ofString "D") u)]) ?k1 ?k2 ?k3 ?k4 ?k5 ?kA ?kF ?kK ?k6 ?k7 ?k8 ?k9 ?kB ?_ ?c2 ?c3 ?c4 ?c5; (case kA => exact rfl); (case kF => exact rfl); (case kK => assumption); (case k1 => k_asm); (case k2 => k_asm); (case k3 => k_asm); (case k4 => k_asm); (case k5 => k_asm); (case k6 => k_is); (case k7 => k_is); (case k8 => ktr_room); (case k9 => exact BindsTo.of_eq rfl); (case c5 => decide); (case kB => exact locs rfl); (case c2 => exact rfl); (case c3 => exact rfl); (case c4 => exact rfl); k_whole; intro g' L' h' FG' F' N' B' X' T'; (try dsimp only); (try k_lift B'); (try k_fold))
  k_steps
  all_goals (rename News _ _ _ _ => hN9)
  all_goals refine hret _ _ _ _ _ _ _ _ _ _ ?_ ?_ ?_ ?_ ?_ ?_ ?_ ?_ (by k_asm) (cb_drop hN9 (by kcj_all))
  all_goals first | (clear hI X B hk X' FG' F T T' hk1 hk0 hlen hd B' N hu hra hne hret hN9; omega) | (simp only [fd_ne, dd_eq, Bool.false_eq_true, if_false, if_true]; (clear hI X B hk X' FG' F T T' hk1 hk0 hlen hd B' N hu hra hne hret hN9; omega)) | exact .inl rfl | exact .inr ⟨_, _, rfl, by decide, by decide⟩ | exact .inr ⟨_, _, rfl, by omega, by omega⟩ | exact (fun p hp => by first | (with_reducible rename _ ∧ _ ∧ _ ∧ _ ∧ AllLt _ _ => hl9; exact ktn_ltOf hl9.2.2.2.2 p hp) | (with_reducible rename _ ∧ _ ∧ _ ∧ AllLt _ _ => hl9; exact ktn_ltOf hl9.2.2.2 p hp) | (with_reducible rename _ ∧ _ ∧ AllLt _ _ => hl9; exact ktn_ltOf hl9.2.2 p hp))

set_option maxRecDepth 100000 in
set_option maxHeartbeats 8000000 in
theorem c_law_item_E {w : World} {mg mb p loose mean} {pa ra : Addr} {ws : List Value} {ns : List Int} {rest : List (Addr × Obj)} {k : Int} {t0 u : Tok} (hI : IntsAre ws ns) (hlen : ns.length ≤ 60) (hk0 : 0 ≤ k) (hk1 : k ≤ 999900) (hra : ra ≠ pa) (hne : ∀ p ∈ rest, p.1 ≠ pa) :
    Ct w mg mb p loose mean 2 361 [.ref pa, .str (Str.ofString "E") u] ((pa, pouO ra k t0) :: (ra, rowO ws) :: rest) (fun h₀ L m s Q => ∀ (it : Addr) (n k1 d : Int) (sv : Value) (t1 t2 t3 t4 : Tok) (h' : Heap) (tk' : Nat), 6 ≤ n → n ≤ 18 → 2 ≤ d → d ≤ 7 → SizeOk sv → k ≤ k1 → k1 ≤ k + 3 → @LT.lt Nat _ pa it → (∀ p ∈ rest, p.1 < it) → Fr h₀ L h' m → News h₀ L h' ((it, tupO #[.str (Str.ofString "E") t1, .int n t2, .int d t4, sv]) :: (pa, pouO ra k1 t3) :: (ra, rowO ws) :: rest) → Q (.ref it) { s with heap := h', toks := tk' }) := by
  dsimp only [Ct, RetP, RetT, RetF]
  k_fill
  intro dp un gd cn cz a ccd cl outer A₀ base h₀ L m s Q E B F X N T hk hd hu hret
  refine wpAny_call ?_
  k_dflt (refine' code_def (binds := [(Str.ofString "pouch", .ref pa), (Str.ofString "word", .str (Str.ofString "E") u)]) ?k1 ?k2 ?k3 ?k4 ?k5 ?kA ?kF ?kK ?k6 ?k7 ?k8 ?k9 ?kB ?_ ?c2 ?c3 ?c4 ?c5; (case kA => exact rfl); (case kF => exact rfl); (case kK => assumption); (case k1 => k_asm); (case k2 => k_asm); (case k3 => k_asm); (case k4 => k_asm); (case k5 => k_asm); (case k6 => k_is); (case k7 => k_is); (case k8 => ktr_room); (case k9 => exact BindsTo.of_eq rfl); (case c5 => decide); (case kB => exact locs rfl); (case c2 => exact rfl); (case c3 => exact rfl); (case c4 => exact rfl); k_whole; intro g' L' h' FG' F' N' B' X' T'; (try dsimp only); (try k_lift B'); (try k_fold))
  k_steps
  (with_reducible rename (_ : Int) < 3 => h4)
  rcases cases3 h4 (by assumption) with e | e | e <;> subst e
  all_goals k_steps
  all_goals (rename News _ _ _ _ => hN9)
  all_goals refine hret _ _ _ _ _ _ _ _ _ _ _ ?_ ?_ ?_ ?_ ?_ ?_ ?_ ?_ ?_ (by k_asm) (cb_drop hN9 (by kcj_all))
  all_goals first | (clear hI X B hk X' FG' F T T' hk0 hk1 hlen h4 hd B' N hu hra hne hret hN9; omega) | (simp only [fd_ne, dd_eq, Bool.false_eq_true, if_false, if_true]; omega) | exact .inl rfl | exact .inr ⟨_, _, rfl, by decide, by decide⟩ | exact .inr ⟨_, _, rfl, by omega, by omega⟩ | exact (fun p hp => by first | (with_reducible rename _ ∧ _ ∧ _ ∧ _ ∧ AllLt _ _ => hl9; exact ktn_ltOf hl9.2.2.2.2 p hp) | (with_reducible rename _ ∧ _ ∧ _ ∧ AllLt _ _ => hl9; exact ktn_ltOf hl9.2.2.2 p hp) | (with_reducible rename _ ∧ _ ∧ AllLt _ _ => hl9; exact ktn_ltOf hl9.2.2 p hp))

set_option maxRecDepth 100000 in
set_option maxHeartbeats 8000000 in
theorem c_law_item_L {w : World} {mg mb p loose mean} {pa ra : Addr} {ws : List Value} {ns : List Int} {rest : List (Addr × Obj)} {k : Int} {t0 u : Tok} (hI : IntsAre ws ns) (hlen : ns.length ≤ 60) (hk0 : 0 ≤ k) (hk1 : k ≤ 999900) (hra : ra ≠ pa) (hne : ∀ p ∈ rest, p.1 ≠ pa) :
    Ct w mg mb p loose mean 2 361 [.ref pa, .str (Str.ofString "L") u] ((pa, pouO ra k t0) :: (ra, rowO ws) :: rest) (fun h₀ L m s Q => ∀ (it : Addr) (n k1 : Int) (t1 t2 t3 t4 : Tok) (h' : Heap) (tk' : Nat), 1 ≤ n → n ≤ 13 → k ≤ k1 → k1 ≤ k + 3 → @LT.lt Nat _ pa it → (∀ p ∈ rest, p.1 < it) → Fr h₀ L h' m → News h₀ L h' ((it, tupO #[.str (Str.ofString "L") t1, .int n t2]) :: (pa, pouO ra k1 t3) :: (ra, rowO ws) :: rest) → Q (.ref it) { s with heap := h', toks := tk' }) := by
  dsimp only [Ct, RetP, RetT, RetF]
  k_fill
  intro dp un gd cn cz a ccd cl outer A₀ base h₀ L m s Q E B F X N T hk hd hu hret
  refine wpAny_call ?_
  k_dflt (refine' code_def (binds := [(Str.ofString "pouch", .ref pa), (Str.ofString "word", .str (Str.ofString "L") u)]) ?k1 ?k2 ?k3 ?k4 ?k5 ?kA ?kF ?kK ?k6 ?k7 ?k8 ?k9 ?kB ?_ ?c2 ?c3 ?c4 ?c5; (case kA => exact rfl); (case kF => exact rfl); (case kK => assumption); (case k1 => k_asm); (case k2 => k_asm); (case k3 => k_asm); (case k4 => k_asm); (case k5 => k_asm); (case k6 => k_is); (case k7 => k_is); (case k8 => ktr_room); (case k9 => exact BindsTo.of_eq rfl); (case c5 => decide); (case kB => exact locs rfl); (case c2 => exact rfl); (case c3 => exact rfl); (case c4 => exact rfl); k_whole; intro g' L' h' FG' F' N' B' X' T'; (try dsimp only); (try k_lift B'); (try k_fold))
  k_steps
  all_goals (rename News _ _ _ _ => hN9)
  all_goals refine hret _ _ _ _ _ _ 0 _ _ ?_ ?_ ?_ ?_ ?_ ?_ (by k_asm) (cb_drop hN9 (by kcj_all))
  all_goals first | (clear hI X B hk X' FG' F T T' hk1 hk0 hlen hd B' N hu hra hne hret hN9; omega) | (simp only [fd_ne, dd_eq, Bool.false_eq_true, if_false, if_true]; omega) | exact .inl rfl | exact .inr ⟨_, _, rfl, by decide, by decide⟩ | exact .inr ⟨_, _, rfl, by omega, by omega⟩ | exact (fun p hp => by first | (with_reducible rename _ ∧ _ ∧ _ ∧ _ ∧ AllLt _ _ => hl9; exact ktn_ltOf hl9.2.2.2.2 p hp) | (with_reducible rename _ ∧ _ ∧ _ ∧ AllLt _ _ => hl9; exact ktn_ltOf hl9.2.2.2 p hp) | (with_reducible rename _ ∧ _ ∧ AllLt _ _ => hl9; exact ktn_ltOf hl9.2.2 p hp))

set_option maxRecDepth 100000 in
set_option maxHeartbeats 8000000 in
theorem c_law_item_A {w : World} {mg mb p loose mean} {pa ra : Addr} {ws : List Value} {ns : List Int} {rest : List (Addr × Obj)} {k : Int} {t0 u : Tok} (hI : IntsAre ws ns) (hlen : ns.length ≤ 60) (hk0 : 0 ≤ k) (hk1 : k ≤ 999900) (hra : ra ≠ pa) (hne : ∀ p ∈ rest, p.1 ≠ pa) :
    Ct w mg mb p loose mean 2 361 [.ref pa, .str (Str.ofString "A") u] ((pa, pouO ra k t0) :: (ra, rowO ws) :: rest) (fun h₀ L m s Q => ∀ (it : Addr) (k1 : Int) (wv : Value) (t1 t2 t3 t4 : Tok) (h' : Heap) (tk' : Nat), (wv = .none ∨ ∃ i t, wv = .int i t ∧ 1 ≤ i ∧ i ≤ 13) → k ≤ k1 → k1 ≤ k + 3 → @LT.lt Nat _ pa it → (∀ p ∈ rest, p.1 < it) → Fr h₀ L h' m → News h₀ L h' ((it, tupO #[.str (Str.ofString "A") t1, wv]) :: (pa, pouO ra k1 t3) :: (ra, rowO ws) :: rest) → Q (.ref it) { s with heap := h', toks := tk' }) := by
  dsimp only [Ct, RetP, RetT, RetF]
  k_fill
  intro dp un gd cn cz a ccd cl outer A₀ base h₀ L m s Q E B F X N T hk hd hu hret
  refine wpAny_call ?_
  k_dflt (refine' code_def (binds := [(Str.ofString "pouch", .ref pa), (Str.ofString "word", .str (Str.ofString "A") u)]) ?k1 ?k2 ?k3 ?k4 ?k5 ?kA ?kF ?kK ?k6 ?k7 ?k8 ?k9 ?kB ?_ ?c2 ?c3 ?c4 ?c5; (case kA => exact rfl); (case kF => exact rfl); (case kK => assumption); (case k1 => k_asm); (case k2 => k_asm); (case k3 => k_asm); (case k4 => k_asm); (case k5 => k_asm); (case k6 => k_is); (case k7 => k_is); (case k8 => ktr_room); (case k9 => exact BindsTo.of_eq rfl); (case c5 => decide); (case kB => exact locs rfl); (case c2 => exact rfl); (case c3 => exact rfl); (case c4 => exact rfl); k_whole; intro g' L' h' FG' F' N' B' X' T'; (try dsimp only); (try k_lift B'); (try k_fold))
  k_steps
  all_goals (rename News _ _ _ _ => hN9)
  all_goals refine hret _ _ _ _ 0 _ 0 _ _ ?_ ?_ ?_ ?_ ?_ (by k_asm) (cb_drop hN9 (by kcj_all))
  all_goals first | (clear hI X B hk X' FG' F T T' hk1 hk0 hlen hd B' N hu hra hne hret hN9; omega) | (simp only [fd_ne, dd_eq, Bool.false_eq_true, if_false, if_true]; omega) | exact .inl rfl | exact .inr ⟨_, _, rfl, by decide, by decide⟩ | exact .inr ⟨_, _, rfl, by (clear hI X B hk X' FG' F T T' hk1 hk0 hlen hd B' N hu hra hne hret hN9; omega), by (clear hI X B hk X' FG' F T T' hk1 hk0 hlen hd B' N hu hra hne hret hN9; omega)⟩ | exact (fun p hp => by first | (with_reducible rename _ ∧ _ ∧ _ ∧ _ ∧ AllLt _ _ => hl9; exact ktn_ltOf hl9.2.2.2.2 p hp) | (with_reducible rename _ ∧ _ ∧ _ ∧ AllLt _ _ => hl9; exact ktn_ltOf hl9.2.2.2 p hp) | (with_reducible rename _ ∧ _ ∧ AllLt _ _ => hl9; exact ktn_ltOf hl9.2.2 p hp))

end
section
theorem lnC17_1 : True := by
  k_with_none
  k_with "omega" => ((try clear hret); (try clear hk); (try clear hd); (try clear hu); first | lia | omega +splitDisjunctions)
  trivial
theorem lnC17_2 : True := by
  k_with "execs cons" => ((with_reducible refine wpAny_execs_cons ?_); try dsimp only)
  k_with "execs nil" => refine wpAny_execs_nil ?_
  k_with "call ref" => (k_here; (with_reducible show wpAny _ _ (PySem.call (Value.ref 354) _) _ _ _); (rename News _ _ _ _ => cN9); k_dflt (refine' c_chip (by assumption) (by assumption) (by intro tq9; k_upd) (by k_mem) (by omega) (by omega) (by decide) (by decide) _ _ _ _ _ _ _ _ _ _ _ _ _ _ _ _ _ (by k_asm) (by k_asm) (by k_asm) cN9 (by k_asm) (by first | exact rfl | assumption) (by first | exact room9 (by assumption) (by rfl) | ktr_room) (by first | exact units9 (by assumption) (by rfl) | ktr_units) ?_); intro r9 t9 t91 h9 tk9 hr91 hr92 F9 N9; (try dsimp only at N9); (try dsimp only); (try k_fold))
  k_with "k_all" => assumption
  k_with "k_mem" => assumption
  k_with "subscriptTail" => (k_here; (with_reducible show wpAny _ _ (subscriptTail _ _ (Value.ref _) (Value.int _ _)) _ _ _); k_dflt (refine' item_tupleT (News.isTup (by k_asm) (by k_mem)) (by decide) (by decide) (by rfl) (by rfl) ?_); k_whole)
  trivial

theorem p6 : (10 : Int) ^ Int.toNat 6 = 1000000 := by decide
theorem rr_ok {r : Int} (h : r < 2 * 1000000 + 1) (h0 : 0 ≤ r) : Int.fmod (if r - 1000000 < 0 then -(r - 1000000) else r - 1000000) (10 ^ ((cdN (r - 1000000).natAbs : Int) - 7).toNat) = 0 ∧ (r - 1000000).natAbs ≤ 1000000 ∧ cdN (r - 1000000).natAbs ≤ 7 := by
  have h7 := cdN_lt (n := (r - 1000000).natAbs) (k := 7) (by omega)
  refine ⟨?_, by (clear h7; omega), h7⟩
  rw [show ((cdN (r - 1000000).natAbs : Int) - 7).toNat = 0 by (clear h h0; omega), Int.pow_zero, fmod_pos _ (by decide), Int.emod_one]
theorem kd_or (n : Int) : ([1, 2] : List Int).getD (Int.fmod n 2).toNat 0 = 1 ∨ ([1, 2] : List Int).getD (Int.fmod n 2).toNat 0 = 2 := by
  rw [fmod_pos _ (by decide)]
  have : n % 2 = 0 ∨ n % 2 = 1 := by omega
  rcases this with h | h <;> rw [h] <;> simp
theorem not_true_of {b : Bool} (h : b = false) : ¬ b = true := by rw [h]; decide
set_option maxRecDepth 100000 in
set_option maxHeartbeats 8000000 in
theorem c_law_value_I {w : World} {mg mb p loose mean} {pa ra : Addr} {ws : List Value} {ns : List Int} {rest : List (Addr × Obj)} {k : Int} {t0 u : Tok} (hI : IntsAre ws ns) (hlen : ns.length ≤ 60) (hk0 : 0 ≤ k) (hk1 : k ≤ 999900) (hra : ra ≠ pa) (hne : ∀ p ∈ rest, p.1 ≠ pa) :
    Ct w mg mb p loose mean 4 366 [.ref pa, .str (Str.ofString "I") u] ((pa, pouO ra k t0) :: (ra, rowO ws) :: rest) (fun h₀ L m s Q => ∀ (vt : Addr) (v k1 : Int) (t1 t2 t3 t4 : Tok) (h' : Heap) (tk' : Nat), v.natAbs ≤ 1000000 → k ≤ k1 → k1 ≤ k + 10 → @LT.lt Nat _ pa vt → (∀ p ∈ rest, p.1 < vt) → Fr h₀ L h' m → News h₀ L h' ((vt, tupO #[.int 0 t1, .int v t2, .int 0 t4]) :: (pa, pouO ra k1 t3) :: (ra, rowO ws) :: rest) → Q (.ref vt) { s with heap := h', toks := tk' }) := by
  dsimp only [Ct, RetP, RetT, RetF]
  k_fill
  intro dp un gd cn cz a ccd cl outer A₀ base h₀ L m s Q E B F X N T hk hd hu hret
  refine wpAny_call ?_
  k_dflt (refine' code_defC (binds := [(Str.ofString "pouch", .ref pa), (Str.ofString "word", .str (Str.ofString "I") u)]) ?k1 ?k2 ?k3 ?k4 ?k5 ?kA ?kF ?kK ?k6 ?k7 ?k8 ?k9 ?kB ?kD ?_ ?c2 ?c3 ?c4; (case kA => exact rfl); (case kF => exact rfl); (case kK => assumption); (case k1 => k_asm); (case k2 => k_asm); (case k3 => k_asm); (case k4 => k_asm); (case k5 => k_asm); (case k6 => k_is); (case k7 => k_is); (case k8 => ktr_room); (case k9 => exact BindsTo.of_eq rfl); (case kB => exact rfl); (case kD => decide +kernel); (case c2 => exact rfl); (case c3 => exact rfl); (case c4 => exact rfl); k_whole; intro g' L' h' tk' cells' FG' F' N' Y' B' X' T' l1; (try k_lt l1); k_cells Y'; (try simp only [List.cons_append, List.nil_append] at N'); (try dsimp only); (try k_lift B'); (try k_fold))
  k_steps
  all_goals (rename News _ _ _ _ => hN9)
  all_goals refine hret _ _ _ _ _ _ _ _ _ ?_ ?_ ?_ ?_ ?_ (by k_asm) (cb_drop hN9 (by kcj_all))
  all_goals first | (clear hI X B hk X' FG' F T T' hk0 hk1 hlen l1 hd B' N hu hra hne hret hN9; omega) | (simp only [p6] at *; (clear hI X B hk X' FG' F T T' hk0 hk1 hlen l1 hd B' N hu hra hne hret hN9; omega)) | exact (fun p hp => by first | (with_reducible rename _ ∧ _ ∧ _ ∧ _ ∧ _ ∧ AllLt _ _ => hl9; exact ktn_ltOf hl9.2.2.2.2.2 p hp) | (with_reducible rename _ ∧ _ ∧ _ ∧ _ ∧ AllLt _ _ => hl9; exact ktn_ltOf hl9.2.2.2.2 p hp) | (with_reducible rename _ ∧ _ ∧ _ ∧ AllLt _ _ => hl9; exact ktn_ltOf hl9.2.2.2 p hp) | (with_reducible rename _ ∧ _ ∧ AllLt _ _ => hl9; exact ktn_ltOf hl9.2.2 p hp))

set_option maxRecDepth 100000 in
set_option maxHeartbeats 8000000 in
theorem c_law_value_L {w : World} {mg mb p loose mean} {pa ra : Addr} {ws : List Value} {ns : List Int} {rest : List (Addr × Obj)} {k : Int} {t0 u : Tok} (hI : IntsAre ws ns) (hlen : ns.length ≤ 60) (hk0 : 0 ≤ k) (hk1 : k ≤ 999900) (hra : ra ≠ pa) (hne : ∀ p ∈ rest, p.1 ≠ pa) :
    Ct w mg mb p loose mean 4 366 [.ref pa, .str (Str.ofString "L") u] ((pa, pouO ra k t0) :: (ra, rowO ws) :: rest) (fun h₀ L m s Q => ∀ (vt : Addr) (b9 : Bool) (k1 : Int) (t1 t2 t3 t4 : Tok) (h' : Heap) (tk' : Nat),  k ≤ k1 → k1 ≤ k + 10 → @LT.lt Nat _ pa vt → (∀ p ∈ rest, p.1 < vt) → Fr h₀ L h' m → News h₀ L h' ((vt, tupO #[.int 4 t1, .bool b9, .int 0 t4]) :: (pa, pouO ra k1 t3) :: (ra, rowO ws) :: rest) → Q (.ref vt) { s with heap := h', toks := tk' }) := by
  dsimp only [Ct, RetP, RetT, RetF]
  k_fill
  intro dp un gd cn cz a ccd cl outer A₀ base h₀ L m s Q E B F X N T hk hd hu hret
  refine wpAny_call ?_
  k_dflt (refine' code_defC (binds := [(Str.ofString "pouch", .ref pa), (Str.ofString "word", .str (Str.ofString "L") u)]) ?k1 ?k2 ?k3 ?k4 ?k5 ?kA ?kF ?kK ?k6 ?k7 ?k8 ?k9 ?kB ?kD ?_ ?c2 ?c3 ?c4; (case kA => exact rfl); (case kF => exact rfl); (case kK => assumption); (case k1 => k_asm); (case k2 => k_asm); (case k3 => k_asm); (case k4 => k_asm); (case k5 => k_asm); (case k6 => k_is); (case k7 => k_is); (case k8 => ktr_room); (case k9 => exact BindsTo.of_eq rfl); (case kB => exact rfl); (case kD => decide +kernel); (case c2 => exact rfl); (case c3 => exact rfl); (case c4 => exact rfl); k_whole; intro g' L' h' tk' cells' FG' F' N' Y' B' X' T' l1; (try k_lt l1); k_cells Y'; (try simp only [List.cons_append, List.nil_append] at N'); (try dsimp only); (try k_lift B'); (try k_fold))
  k_steps
  all_goals (rename News _ _ _ _ => hN9)
  all_goals refine hret _ _ _ _ 0 _ _ _ _ ?_ ?_ ?_ ?_ (by k_asm) (cb_drop hN9 (by kcj_all))
  all_goals first | (clear hI X B hk X' FG' F T T' hk0 hk1 hlen l1 hd B' N hu hra hne hret hN9; omega) | (simp only [p6] at *; omega) | exact (fun p hp => by first | (with_reducible rename _ ∧ _ ∧ _ ∧ _ ∧ _ ∧ AllLt _ _ => hl9; exact ktn_ltOf hl9.2.2.2.2.2 p hp) | (with_reducible rename _ ∧ _ ∧ _ ∧ _ ∧ AllLt _ _ => hl9; exact ktn_ltOf hl9.2.2.2.2 p hp) | (with_reducible rename _ ∧ _ ∧ _ ∧ AllLt _ _ => hl9; exact ktn_ltOf hl9.2.2.2 p hp) | (with_reducible rename _ ∧ _ ∧ AllLt _ _ => hl9; exact ktn_ltOf hl9.2.2 p hp))

theorem lnC17_3 : True := by
  k_with "ite" => (refine ite_neg (not_true_of (by assumption)) ?_)
  k_with "call ref" => (k_here; (with_reducible show wpAny _ _ (PySem.call (Value.ref 212) _) _ _ _); (rename News _ _ _ _ => cN9); k_dflt (refine' c_whole_figures (by first | with_reducible assumption | omega | (split <;> omega)) (by first | with_reducible assumption | omega | (split <;> omega)) _ _ _ _ _ _ _ _ _ _ _ _ _ _ _ _ _ (by k_asm) (by k_asm) (by k_asm) cN9 (by k_asm) (by first | exact rfl | assumption) (by first | exact room9 (by assumption) (by rfl) | ktr_room) (by first | exact units9 (by assumption) (by rfl) | ktr_units) ?_); (try dsimp only [RetP, RetT, RetF]); intro hf9 t9 h9 tk9 F9 N9; (try dsimp only); (try k_fold))
  k_with "call ref" => (k_here; (with_reducible show wpAny _ _ (PySem.call (Value.ref 233) _) _ _ _); (rename News _ _ _ _ => cN9); k_dflt (refine' c_scaled (by first | with_reducible assumption | omega | (split <;> omega)) (by first | with_reducible assumption | omega | (split <;> omega)) (by omega) (by omega) _ _ _ _ _ _ _ _ _ _ _ _ _ _ _ _ _ (by k_asm) (by k_asm) (by k_asm) cN9 (by k_asm) (by first | exact rfl | assumption) (by first | exact room9 (by assumption) (by rfl) | ktr_room) (by first | exact units9 (by assumption) (by rfl) | ktr_units) ?_); (try dsimp only [RetP, RetT, RetF]); intro hf9 t9 h9 tk9 F9 N9; (try dsimp only); (try k_fold))
  k_with "call ref" => (k_here; (with_reducible show wpAny _ _ (PySem.call (Value.ref 92) _) _ _ _); (rename News _ _ _ _ => cN9); k_dflt (refine' c_count_digits (by first | with_reducible assumption | omega | (split <;> omega)) _ _ _ _ _ _ _ _ _ _ _ _ _ _ _ _ _ (by k_asm) (by k_asm) (by k_asm) cN9 (by k_asm) (by first | exact rfl | assumption) (by first | exact room9 (by assumption) (by rfl) | ktr_room) (by first | exact units9 (by assumption) (by rfl) | ktr_units) ?_); (try dsimp only [RetP, RetT, RetF]); intro t9 h9 tk9 F9 N9; (try dsimp only); (try k_fold))
  k_with "call ref" => (k_here; (with_reducible show wpAny _ _ (PySem.call (Value.ref 240) _) _ _ _); (rename News _ _ _ _ => cN9); k_dflt (refine' c_figures_of (by first | with_reducible assumption | omega | (split <;> omega)) (by first | with_reducible assumption | omega | (split <;> omega)) (by first | with_reducible assumption | omega | (split <;> omega)) (by first | with_reducible assumption | omega | (split <;> omega)) _ _ _ _ _ _ _ _ _ _ _ _ _ _ _ _ _ (by k_asm) (by k_asm) (by k_asm) cN9 (by k_asm) (by first | exact rfl | assumption) (by first | exact room9 (by assumption) (by rfl) | ktr_room) (by first | exact units9 (by assumption) (by rfl) | ktr_units) ?_); (try dsimp only [RetP, RetT, RetF]); intro hf9 t9 h9 tk9 F9 N9; (try dsimp only); (try k_fold))
  k_with "call ref" => (k_here; (with_reducible show wpAny _ _ (PySem.call (Value.ref 120) _) _ _ _); (rename News _ _ _ _ => cN9); k_dflt (refine' c_digits_of (by first | with_reducible assumption | omega) (by with_reducible assumption) _ _ _ _ _ _ _ _ _ _ _ _ _ _ _ _ _ (by k_asm) (by k_asm) (by k_asm) cN9 (by k_asm) (by first | exact rfl | assumption) (by first | exact room9 (by assumption) (by rfl) | ktr_room) (by first | exact units9 (by assumption) (by rfl) | ktr_units) ?_); (try dsimp only [RetP, RetT, RetF]); intro t9 h9 tk9 F9 N9; (try dsimp only); (try k_fold))
  k_with "call ref" => (k_here; (with_reducible show wpAny _ _ (PySem.call (Value.ref 106) _) _ _ _); (rename News _ _ _ _ => cN9); k_dflt (refine' c_round_digits (by first | with_reducible assumption | omega | (split <;> omega)) (by first | with_reducible assumption | omega | (split <;> omega)) (by first | with_reducible assumption | omega | (split <;> omega)) (by first | with_reducible assumption | omega | (split <;> omega)) _ _ _ _ _ _ _ _ _ _ _ _ _ _ _ _ _ (by k_asm) (by k_asm) (by k_asm) cN9 (by k_asm) (by first | exact rfl | assumption) (by first | exact room9 (by assumption) (by rfl) | ktr_room) (by first | exact units9 (by assumption) (by rfl) | ktr_units) ?_); (try dsimp only [RetP, RetT, RetF]); (refine ⟨fun hz9 h9 tk9 F9 N9 => ?_, fun hz9 q9 t91 t92 h9 tk9 F9 N9 l9 => ?_⟩) <;> ((try dsimp only); (try k_fold)))
  k_with "call ref" => (k_here; (with_reducible show wpAny _ _ (PySem.call (Value.ref 113) _) _ _ _); (rename News _ _ _ _ => cN9); k_dflt (refine' c_round_real (by first | with_reducible assumption | omega | (split <;> omega)) (by first | with_reducible assumption | omega | (split <;> omega)) (by first | with_reducible assumption | omega | (split <;> omega)) (by first | with_reducible assumption | omega | (split <;> omega)) (by first | with_reducible assumption | omega | (split <;> omega)) (by first | with_reducible assumption | omega | (split <;> omega)) _ _ _ _ _ _ _ _ _ _ _ _ _ _ _ _ _ (by k_asm) (by k_asm) (by k_asm) cN9 (by k_asm) (by first | exact rfl | assumption) (by first | exact room9 (by assumption) (by rfl) | ktr_room) (by first | exact units9 (by assumption) (by rfl) | ktr_units) ?_); (try dsimp only [RetP, RetT, RetF]); (refine ⟨fun hz9 h9 tk9 F9 N9 => ?_, fun hz9 q9 t91 t92 h9 tk9 F9 N9 l9 => ?_⟩) <;> ((try dsimp only); (try k_fold)))
  trivial
set_option maxRecDepth 100000 in
set_option maxHeartbeats 8000000 in
theorem c_law_value_R {w : World} {mg mb p loose mean} {pa ra : Addr} {ws : List Value} {ns : List Int} {rest : List (Addr × Obj)} {k : Int} {t0 u : Tok} {W : Str} (hI : IntsAre ws ns) (hlen : ns.length ≤ 60) (hk0 : 0 ≤ k) (hk1 : k ≤ 999900) (hra : ra ≠ pa) (hne : ∀ p ∈ rest, p.1 ≠ pa) (hw1 : (W == Str.ofString "I") = false) (hw2 : (W == Str.ofString "L") = false) (hw3 : (W == Str.ofString "A") = false) :
    Ct w mg mb p loose mean 4 366 [.ref pa, .str W u] ((pa, pouO ra k t0) :: (ra, rowO ws) :: rest) (fun h₀ L m s Q => (∀ (vt : Addr) (kd k1 : Int) (t1 t3 t4 : Tok) (h' : Heap) (tk' : Nat), (kd = 1 ∨ kd = 2) → k ≤ k1 → k1 ≤ k + 10 → @LT.lt Nat _ pa vt → (∀ p ∈ rest, p.1 < vt) → Fr h₀ L h' m → News h₀ L h' ((vt, tupO #[.int kd t1, .ref 85, .int 0 t4]) :: (pa, pouO ra k1 t3) :: (ra, rowO ws) :: rest) → Q (.ref vt) { s with heap := h', toks := tk' }) ∧ (∀ (vt q : Addr) (kd n x k1 : Int) (t1 t3 t4 t5 t6 : Tok) (h' : Heap) (tk' : Nat), (kd = 1 ∨ kd = 2) → n ≠ 0 → n.natAbs ≤ 1000000 → -8 ≤ x → x ≤ 4 → k ≤ k1 → k1 ≤ k + 10 → @LT.lt Nat _ pa vt → @LT.lt Nat _ pa q → (∀ p ∈ rest, p.1 < vt) → (∀ p ∈ rest, p.1 < q) → Fr h₀ L h' m → News h₀ L h' ((vt, tupO #[.int kd t1, .ref q, .int 0 t4]) :: (q, tupO #[.int (sg n * (stM n.natAbs : Int)) t5, .int (x + (stJ n.natAbs : Int)) t6]) :: (pa, pouO ra k1 t3) :: (ra, rowO ws) :: rest) → Q (.ref vt) { s with heap := h', toks := tk' })) := by
  dsimp only [Ct, RetP, RetT, RetF]
  k_fill
  intro dp un gd cn cz a ccd cl outer A₀ base h₀ L m s Q E B F X N T hk hd hu hret
  refine wpAny_call ?_
  k_dflt (refine' code_defC (binds := [(Str.ofString "pouch", .ref pa), (Str.ofString "word", .str W u)]) ?k1 ?k2 ?k3 ?k4 ?k5 ?kA ?kF ?kK ?k6 ?k7 ?k8 ?k9 ?kB ?kD ?_ ?c2 ?c3 ?c4; (case kA => exact rfl); (case kF => exact rfl); (case kK => assumption); (case k1 => k_asm); (case k2 => k_asm); (case k3 => k_asm); (case k4 => k_asm); (case k5 => k_asm); (case k6 => k_is); (case k7 => k_is); (case k8 => ktr_room); (case k9 => exact BindsTo.of_eq rfl); (case kB => exact rfl); (case kD => decide +kernel); (case c2 => exact rfl); (case c3 => exact rfl); (case c4 => exact rfl); k_whole; intro g' L' h' tk' cells' FG' F' N' Y' B' X' T' l1; (try k_lt l1); k_cells Y'; (try simp only [List.cons_append, List.nil_append] at N'); (try dsimp only); (try k_lift B'); (try k_fold))
  obtain ⟨hret0, hret1⟩ := hret
  k_steps
  (with_reducible rename _ < 2 * 10 ^ Int.toNat 6 + 1 => hrA)
  rw [p6] at hrA
  rw [p6]
  obtain ⟨f1, f2, f3⟩ := rr_ok hrA (by assumption)
  k_steps
  all_goals (rename News _ _ _ _ => hN9)
  · refine hret0 _ _ _ _ _ _ _ _ (kd_or _) ?_ ?_ ?_ ?_ (by k_asm) (cb_drop hN9 (by kcj_all))
    all_goals first | (clear hI hk FG' X B X' F T T' hk0 hk1 hlen hw3 hw1 hw2 l1 hd f2 f3 B' N hu hrA hra hne f1 hret0 hN9 hret1; omega) | exact (fun p hp => by first | (with_reducible rename _ ∧ _ ∧ _ ∧ _ ∧ _ ∧ AllLt _ _ => hl9; exact ktn_ltOf hl9.2.2.2.2.2 p hp) | (with_reducible rename _ ∧ _ ∧ _ ∧ _ ∧ AllLt _ _ => hl9; exact ktn_ltOf hl9.2.2.2.2 p hp) | (with_reducible rename _ ∧ _ ∧ _ ∧ AllLt _ _ => hl9; exact ktn_ltOf hl9.2.2.2 p hp) | (with_reducible rename _ ∧ _ ∧ AllLt _ _ => hl9; exact ktn_ltOf hl9.2.2 p hp))
  · skip
    refine hret1 _ _ _ _ _ _ _ _ _ _ _ _ _ (kd_or _) ?_ ?_ ?_ ?_ ?_ ?_ ?_ ?_ ?_ ?_ (by k_asm) (cb_drop hN9 (by kcj_all))
    all_goals first | (clear hI hk FG' X B X' F T T' hk0 hk1 hlen hw3 hw1 hw2 l1 hd f3 B' N hu hrA hra hne f1 hret0 hret1 hN9; omega) | ((with_reducible rename ∀ p ∈ _, _ => hl8); exact hl8 (pa, _) (by k_mem)) | ((with_reducible rename ∀ p ∈ _, _ => hl8); exact fun p hp => hl8 p (by simp only [List.mem_cons]; simp [hp])) | exact (fun p hp => by first | (with_reducible rename _ ∧ _ ∧ _ ∧ _ ∧ _ ∧ AllLt _ _ => hl9; exact ktn_ltOf hl9.2.2.2.2.2 p hp) | (with_reducible rename _ ∧ _ ∧ _ ∧ _ ∧ AllLt _ _ => hl9; exact ktn_ltOf hl9.2.2.2.2 p hp) | (with_reducible rename _ ∧ _ ∧ _ ∧ AllLt _ _ => hl9; exact ktn_ltOf hl9.2.2.2 p hp) | (with_reducible rename _ ∧ _ ∧ AllLt _ _ => hl9; exact ktn_ltOf hl9.2.2 p hp))

end
section
theorem lnC18_1 : True := by
  k_with_none
  k_with "omega" => ((try clear hret); (try clear hk); (try clear hd); (try clear hu); first | lia | omega +splitDisjunctions)
  trivial
theorem lnC18_2 : True := by
  k_with "execs cons" => ((with_reducible refine wpAny_execs_cons ?_); try dsimp only)
  k_with "execs nil" => refine wpAny_execs_nil ?_
  k_with "call ref" => (k_here; (with_reducible show wpAny _ _ (PySem.call (Value.ref 354) _) _ _ _); (rename News _ _ _ _ => cN9); k_dflt (refine' c_chip (by assumption) (by assumption) (by intro tq9; k_upd) (by k_mem) (by (try clear off8); (try clear ne8); (try clear l1); (try clear l'); omega) (by (try clear off8); (try clear ne8); (try clear l1); omega) (by decide) (by decide) _ _ _ _ _ _ _ _ _ _ _ _ _ _ _ _ _ (by k_asm) (by k_asm) (by k_asm) cN9 (by k_asm) (by first | exact rfl | assumption) (by first | exact room9 (by assumption) (by rfl) | ktr_room) (by first | exact units9 (by assumption) (by rfl) | ktr_units) ?_); intro r9 t9 t91 h9 tk9 hr91 hr92 F9 N9; (try dsimp only at N9); (try dsimp only); (try k_fold))
  k_with "k_all" => assumption
  k_with "k_mem" => assumption
  k_with "subscriptTail" => (k_here; (with_reducible show wpAny _ _ (subscriptTail _ _ (Value.ref _) (Value.int _ _)) _ _ _); k_dflt (refine' item_tupleT (News.isTup (by k_asm) (by k_mem)) (by decide) (by decide) (by rfl) (by rfl) ?_); k_whole)
  trivial

/-- every sign lies in the range of signs -/
def TxtOk (x : Str) : Prop := ∀ c ∈ cs x, c < 1114112
theorem item_ok {r : Int} (h0 : 0 ≤ r) (h1 : r < 6) : TxtOk (Txt.item (Str.ofString "ab *'+") r) := by
  have h : r = 0 ∨ r = 1 ∨ r = 2 ∨ r = 3 ∨ r = 4 ∨ r = 5 := by omega
  have hl : ∀ n, cs (Txt.item (Str.ofString "ab *'+") r) = [n] → n < 1114112 → TxtOk (Txt.item (Str.ofString "ab *'+") r) := fun n e hn c hc => by
    rw [e] at hc; rw [List.mem_singleton.mp hc]; exact hn
  rcases h with rfl | rfl | rfl | rfl | rfl | rfl <;> exact hl _ (cs_item (by decide) (by rw [lit_abs]; rfl)) (by decide)
theorem fold_ok {g : Str} (hg : cs g = []) : ∀ (l : List Str) (acc : Array Nat), (∀ c ∈ acc.toList, c < 1114112) → (∀ z ∈ l, TxtOk z) → ∀ c ∈ (l.foldl (fun acc p => acc ++ g.cps ++ p.cps) acc).toList, c < 1114112
  | [], _, h, _ => h
  | z :: l, acc, h, hz => by
    rw [List.foldl_cons]
    refine fold_ok hg l _ (fun c hc => ?_) (fun y hy => hz y (.tail _ hy))
    rw [Array.toList_append, Array.toList_append] at hc
    rcases List.mem_append.mp hc with hc | hc
    · rcases List.mem_append.mp hc with hc | hc
      · exact h c hc
      · have e : g.cps.toList = [] := hg
        rw [e] at hc; cases hc
    · exact hz z (.head _) c hc
theorem join_ok {l : List Str} (h : ∀ z ∈ l, TxtOk z) : TxtOk (Txt.join (Str.ofString "") (l.map fun a => a)) := by
  rw [List.map_id']
  show ∀ c ∈ ((l.drop 1).foldl (fun acc p => acc ++ (Str.ofString "").cps ++ p.cps) (l.headD Str.empty).cps).toList, c < 1114112
  refine fold_ok lit_e _ _ ?_ (fun z hz => h z (List.mem_of_mem_drop hz))
  cases l with
  | nil => intro c hc; cases hc
  | cons z l => exact h z (.head _)
section
variable {prog : Program} {w : World} {A : Around} {h₀ : Heap} {L : Addr} {m : Str → Option Value} {env : Env} {elt : Expr} {x : Str} {scope : Scope} {cl : List (Str × Addr)} {s : Shared} {S : List (Addr × Obj) → Prop} {Fin : List Value → List (Addr × Obj) → Prop}
/-- a text of one sign; the ledger one draw further -/
def TxtEl (nx : Int → Tok → List (Addr × Obj)) (k : Int) (y : Value) (news' : List (Addr × Obj)) : Prop := ∃ z t t', y = .str z t ∧ z.length = 1 ∧ TxtOk z ∧ news' = nx (k + 1) t'
theorem strs_snoc {y : Str} {t : Tok} : ∀ {vs : List Value} {ys : List Str}, CarriedAll vs (ys.map PyData.str) → CarriedAll (vs ++ [.str y t]) ((ys ++ [y]).map PyData.str) := by
  intro vs ys h
  rw [List.map_append]
  exact h.appendLM (StrsAre.cons y t .nil).carried
theorem txt_rest {pa : Addr} {o : Int → Tok → Obj} {news : List (Addr × Obj)} {nx : Int → Tok → List (Addr × Obj)} {n : Nat} {a k0 : Int} {t0 : Tok} (_hm : (pa, o k0 t0) ∈ news) (hU : ∀ k t, Upd pa (o k0 t0) (o k t) news (nx k t)) (he : news = nx k0 t0 := by rfl)
    (turn : ∀ (k : Int) (t : Tok) (v : Int) (t' : Tok) I oI C oC D m₂ ys h tk (E' : Value → Shared → Prop), k0 ≤ k → k < k0 + (n : Int) → LCg.NsObj oC m₂ → m₂ x = some (.int v t') → Fr h₀ L h m → News h₀ L h ((I, oI) :: (C, oC) :: (D, LCg.lst ys) :: nx k t) → LCg.Off3 I C D (nx k t) → ((@Ne Nat I C) ∧ (@Ne Nat I D) ∧ (@Ne Nat C D)) →
      wpAny (model prog w) A (eval elt (compEnvC scope cl C env)) (LCg.CompEnd h₀ L m { s with heap := h, toks := tk } I oI C oC D (LCg.lst ys) S (fun y news' => TxtEl nx k y news')) E' { s with heap := h, toks := tk })
    (fin : ∀ (ys : List Value) (zs : List Str) (t : Tok), CarriedAll ys (zs.map PyData.str) → (∀ z ∈ zs, z.length = 1) → (∀ z ∈ zs, TxtOk z) → zs.length = n → Fin ys (nx (k0 + (n : Int)) t)) : LCg.CompRest prog w A h₀ L m env elt x scope cl s S (fun i v => ∃ t, v = .int (a + (i : Int)) t) Fin n 0 [] news := by
  have key : ∀ (j i : Nat) (ys : List Value) (zs : List Str) (t : Tok), i + j = n → CarriedAll ys (zs.map PyData.str) → (∀ z ∈ zs, z.length = 1) → (∀ z ∈ zs, TxtOk z) → zs.length = i → LCg.CompRest prog w A h₀ L m env elt x scope cl s S (fun i v => ∃ t, v = .int (a + (i : Int)) t) Fin j i ys (nx (k0 + (i : Int)) t) := by
    intro j
    induction j with
    | zero =>
      intro i ys zs t hi hy hz hok hl
      have e : i = n := by (clear _hm hok hU hz fin turn he hy hl; omega)
      subst e
      exact LCg.CompRest.zero (fin ys zs t hy hz hok hl)
    | succ j ih =>
      intro i ys zs t hi hy hz hok hl
      refine LCg.CompRest.succ ?_
      intro v I oI C oC D m₂ h tk E' hv hC hx F N off ne
      obtain ⟨t', hv'⟩ := hv
      rw [hv'] at hx
      refine wpAny_mono (turn _ t _ t' I oI C oC D m₂ ys h tk E' (by (clear hC F hl hy he hv' off _hm hx hi ne N hok hU hz fin ih turn; omega)) (by (clear ne N hok hU hz fin ih turn hx _hm off hv' he hy hl F hC; omega)) hC hx F N off ne) (fun y s₂ hq => ?_) fun _ _ e => e
      obtain ⟨h', tk', nw, e, F', N', off', hS, z, t1, t2, hy', hz1, hz2, hn⟩ := hq
      subst hn
      have e3 : k0 + (i : Int) + 1 = k0 + ((i + 1 : Nat) : Int) := by (clear hz2 hC F F' hy' hl hy hz1 he hv' off _hm hx hi hS off' e ne N N' hok hU hz fin ih turn; omega)
      rw [e3] at N' off' hS
      refine ⟨h', tk', _, e, F', N', off', hS, ?_⟩
      subst hy'
      refine ih (i + 1) _ (zs ++ [z]) t2 (by (clear hS off' e ne N e3 N' hok hU hz fin ih turn hx _hm off hv' he hz1 hy hl F' F hC hz2; omega)) (strs_snoc hy) ?_ ?_ (by simp [hl])
      · intro z' hz'
        rcases List.mem_append.mp hz' with h | h
        · exact hz z' h
        · rw [List.mem_singleton.mp h]; exact hz1
      · intro z' hz'
        rcases List.mem_append.mp hz' with h | h
        · exact hok z' h
        · rw [List.mem_singleton.mp h]; exact hz2
  rw [he]
  have := key n 0 [] [] t0 (by (clear he _hm hU fin key turn; omega)) .nil (by intro z hz; cases hz) (by intro z hz; cases hz) rfl
  simpa using this
end
theorem lnC18_3 : True := by
  k_with "k_ne" => (refine neN ?_; (try dsimp only); first | exact Ne.symm off8.2.1.1 | exact Ne.symm off8.2.1.2.1 | exact Ne.symm off8.2.1.2.2)
  k_with "CompSrc" => (k_here; k_dflt (refine LCg.CompSrc.range (by rfl) (by k_asm) (by k_asm) (by assumption) (by exact small_one (by omega) (by omega) (by omega) (by omega)) (by exact rangeSize_nat _ _) (by (rw [PySem.sizeLine_eq]; omega)) ?_; intro g'; refine' txt_rest (o := fun k t => pouO _ k t) (by k_mem) (hU := by (intro tk8 tq8; k_upd)) (by exact rfl) (fun k8 t8 v8 t81 I8 oI8 C8 oC8 D8 m8 ys8 h8 tk8 E8 hk81 hk82 hC8 hx8 F8 N8 off8 ne8 => ?_) (fun ys8 zs8 t8 hy8 hz8 hok8 hn8 => ?_); (all_goals (try (simp only [LCg.Off3, and_true] at off8))); (all_goals (try dsimp only at N8)); (all_goals (try dsimp only))))
  k_with "call builtin:str.join" => (k_here; (with_reducible show wpAny _ _ (call (Value.builtin "str.join") [Value.str _ _, Value.ref _]) _ _ _); (refine KT.join_1 (by first | assumption | is_list | exact News.isList (by k_asm) (by k_mem)) (by assumption) (by assumption) (by omega) ?_; intro _ _ ktE))
  trivial
set_option maxRecDepth 100000 in
set_option maxHeartbeats 8000000 in
theorem c_law_value_A {w : World} {mg mb p loose mean} {pa ra : Addr} {ws : List Value} {ns : List Int} {rest : List (Addr × Obj)} {k : Int} {t0 u : Tok} (hI : IntsAre ws ns) (hlen : ns.length ≤ 60) (hk0 : 0 ≤ k) (hk1 : k ≤ 999900) (hra : ra ≠ pa) (hne : ∀ p ∈ rest, p.1 ≠ pa) :
    Ct w mg mb p loose mean 4 366 [.ref pa, .str (Str.ofString "A") u] ((pa, pouO ra k t0) :: (ra, rowO ws) :: rest) (fun h₀ L m s Q => ∀ (vt : Addr) (x : Str) (k1 : Int) (t1 t2 t3 t4 : Tok) (h' : Heap) (tk' : Nat), 1 ≤ x.length → x.length ≤ 6 → TxtOk x → k ≤ k1 → k1 ≤ k + 10 → @LT.lt Nat _ pa vt → (∀ p ∈ rest, p.1 < vt) → Fr h₀ L h' m → News h₀ L h' ((vt, tupO #[.int 5 t1, .str x t2, .int (x.length : Int) t4]) :: (pa, pouO ra k1 t3) :: (ra, rowO ws) :: rest) → Q (.ref vt) { s with heap := h', toks := tk' }) := by
  dsimp only [Ct, RetP, RetT, RetF]
  k_fill
  intro dp un gd cn cz a ccd cl outer A₀ base h₀ L m s Q E B F X N T hk hd hu hret
  refine wpAny_call ?_
  k_dflt (refine' code_defC (binds := [(Str.ofString "pouch", .ref pa), (Str.ofString "word", .str (Str.ofString "A") u)]) ?k1 ?k2 ?k3 ?k4 ?k5 ?kA ?kF ?kK ?k6 ?k7 ?k8 ?k9 ?kB ?kD ?_ ?c2 ?c3 ?c4; (case kA => exact rfl); (case kF => exact rfl); (case kK => assumption); (case k1 => k_asm); (case k2 => k_asm); (case k3 => k_asm); (case k4 => k_asm); (case k5 => k_asm); (case k6 => k_is); (case k7 => k_is); (case k8 => ktr_room); (case k9 => exact BindsTo.of_eq rfl); (case kB => exact rfl); (case kD => decide +kernel); (case c2 => exact rfl); (case c3 => exact rfl); (case c4 => exact rfl); k_whole; intro g' L' h' tk' cells' FG' F' N' Y' B' X' T' l1; (try k_lt l1); k_cells Y'; (try simp only [List.cons_append, List.nil_append] at N'); (try dsimp only); (try k_lift B'); (try k_fold))
  k_steps
  · rename News _ _ _ _ => hN9
    refine LCg.CompEnd.intro (by assumption) hN9 _ (fun p hp => hp) (by simp only [LCg.Off3, and_true]; assumption) True.intro ⟨_, _, _, rfl, by assumption, item_ok (by assumption) (by assumption), rfl⟩
  · rename News _ _ _ _ => hN9
    rename News _ _ _ ((_, LCg.lst _) :: _) => hN8
    have hA := Heap.lt_size (hN8 (pa, _) (by k_mem)).1
    have hB : ∀ p ∈ rest, p.1 < _ := fun p hp => Heap.lt_size (hN8 p (by simp only [List.mem_cons]; simp [hp])).1
    refine hret _ _ _ _ _ _ _ _ _ ?_ ?_ (join_ok (by assumption)) ?_ ?_ ?_ ?_ (by k_asm) (cb_drop hN9 (by kcj_all))
    all_goals first | (clear hI hk FG' X B X' F T T' hk0 hk1 hlen l1 hd B' N hu hra hne hN8 hret hN9; omega) | exact hA | exact hB

end
section
theorem lnP1_0 : True := by
  k_with_none
  trivial
/-! the plain law: no program in sight -/
theorem fieldL_len {l : List Nat} {n : Int} (h : 0 ≤ n) : ((fieldL l n).length : Int) = n := by
  unfold fieldL; split
  · simp; (first | lia | omega)
  · simp; (clear h; (first | lia | omega))
/-- stars all over -/
def Stars (x : Str) (n : Int) : Prop := (Txt.item x 0 == Str.ofString "*") = true ∧ (x == Txt.mul (Str.ofString "*") n) = true
def NoStar (x : Str) : Prop := (Txt.item x 0 == Str.ofString "*") = false
theorem stars_of {n : Int} (h : 1 ≤ n) : Stars (S (List.replicate n.toNat 42)) n := by
  obtain ⟨k, hk⟩ : ∃ k, n.toNat = k + 1 := ⟨n.toNat - 1, by (first | lia | omega)⟩
  constructor
  · rw [beq_cs, cs_item (n := 42) (by decide) (by rw [cs_S, hk]; rfl), lit_star]; rfl
  · rw [beq_cs, cs_S, cs_mul, lit_star, flat_one]; simp
theorem nostar_of {c : Nat} {l : List Nat} (h : c ≠ 42) : NoStar (S (c :: l)) := by
  unfold NoStar
  rw [beq_cs, cs_item (n := c) (by decide) (by rw [cs_S]; rfl), lit_star]
  simpa using h
theorem fld_cases {l : List Nat} {n : Int} (h1 : 1 ≤ n) (hl : l ≠ []) (hc : ∀ c ∈ l, c ≠ 42) :
    Stars (S (fieldL l n)) n ∨ (NoStar (S (fieldL l n)) ∧ ∃ j, cs (S (fieldL l n)) = List.replicate j 32 ++ l) := by
  unfold fieldL
  split
  · exact .inl (stars_of h1)
  · refine .inr ⟨?_, _, cs_S _⟩
    cases hj : (n - (l.length:Int)).toNat with
    | zero =>
      cases l with
      | nil => exact absurd rfl hl
      | cons c r => simpa using nostar_of (hc c (by simp))
    | succ j => rw [List.replicate_succ]; exact nostar_of (by decide)
def Plain (l : List Nat) : Prop := ∃ c r, l = c :: r ∧ c ≠ 43 ∧ c ≠ 45
theorem plain_dig {l r : List Nat} (h : Dig l) (hn : l ≠ []) : Plain (l ++ r) := by
  cases l with
  | nil => exact absurd rfl hn
  | cons c q =>
    have := h c (by simp)
    exact ⟨c, q ++ r, rfl, by (clear hn h; (first | lia | omega)), by (clear hn h; (first | lia | omega))⟩
theorem cut_sg {b p : Bool} {l : List Nat} (h : Plain l) : cutR (signL b p ++ l) = l ∧ cutG (signL b p ++ l) = if b then -1 else 1 := by
  obtain ⟨c, r, rfl, h1, h2⟩ := h
  cases b <;> cases p <;> simp [signL, cutR, cutG, h1, h2]
theorem sg_mem {b p : Bool} : ∀ c ∈ signL b p, c = 43 ∨ c = 45 := by
  intro c hc
  cases b <;> cases p <;> simp [signL] at hc <;> (first | lia | omega)
theorem sg_dig {b p : Bool} {l : List Nat} (h : Dig l) : ∀ c ∈ signL b p ++ l, 43 ≤ c := by
  intro c hc
  rcases List.mem_append.mp hc with hc | hc
  · have := sg_mem c hc; (clear hc h; (first | lia | omega))
  · have := h c hc; (clear hc h; (first | lia | omega))
theorem digsI_dig (v : Int) (le : Nat) : Dig (digsI v le) := (dig_zeros _).append (digR _)
theorem decR_ne (n : Nat) : decR n ≠ [] := by
  by_cases h : n < 10
  · rw [decR_lt h]; simp
  · rw [decR_ge h]; simp
theorem digsI_ne (v : Int) (le : Nat) : digsI v le ≠ [] := by
  unfold digsI; simp [decR_ne]
theorem digsI_val (v : Int) (le : Nat) : valL (digsI v le) = v.natAbs := by
  unfold digsI; rw [valL_pad, valR]
theorem ei_law {v n : Int} {le : Nat} (hv : v.natAbs ≤ 1000000) (h1 : 1 ≤ n) (plus : Bool) :
    ((S (EI v n le plus)).length : Int) = n ∧ (Stars (S (EI v n le plus)) n ∨ (NoStar (S (EI v n le plus)) ∧ RI (S (EI v n le plus)) v)) := by
  unfold EI
  split
  · rename_i h
    obtain ⟨k, hk⟩ : ∃ k, n.toNat = k + 1 := ⟨n.toNat - 1, by (clear hv h; (first | lia | omega))⟩
    refine ⟨by simp; (clear hv hk h; (first | lia | omega)), .inr ⟨?_, n.toNat, [], by simp, .inl ⟨rfl, h.1⟩⟩⟩
    rw [hk, List.replicate_succ]; exact nostar_of (by decide)
  · have hd := digsI_dig v le
    refine ⟨by rw [len_S]; exact fieldL_len (by (clear hv hd; (first | lia | omega))), ?_⟩
    rcases fld_cases (l := signL (decide (v < 0)) plus ++ digsI v le) h1 (by simp [digsI_ne]) (fun c hc => by have := sg_dig hd c hc; (clear h1 hv hc hd; (first | lia | omega))) with h | ⟨h, j, hj⟩
    · exact .inl h
    · refine .inr ⟨h, j, _, hj, .inr ⟨fun c hc => by have := sg_dig hd c hc; (clear hv h hc hj h1 hd; (first | lia | omega)), by simp [digsI_ne], ?_⟩⟩
      obtain ⟨e1, e2⟩ := cut_sg (b := decide (v < 0)) (p := plus) (by have := plain_dig (r := []) hd (digsI_ne v le); rwa [List.append_nil] at this)
      rw [e1, e2, digsI_val]
      refine ⟨digsI_ne v le, hd, ?_, by (clear h e1 hj e2 h1 hd; (first | lia | omega)), by (clear h e1 hj e2 h1 hd; (first | lia | omega))⟩
      by_cases hv : v < 0 <;> simp [hv] <;> (clear h1 h e1 hj e2 hd; (first | lia | omega))
theorem el_law {n : Int} (h1 : 1 ≤ n) (b : Bool) :
    ((S (fieldL (if b then [84] else [70]) n)).length : Int) = n ∧ NoStar (S (fieldL (if b then [84] else [70]) n)) ∧ ∃ j, cs (S (fieldL (if b then [84] else [70]) n)) = List.replicate j 32 ++ [if b then 84 else 70] := by
  refine ⟨by rw [len_S]; exact fieldL_len (by (first | lia | omega)), ?_⟩
  have e : (if b then [84] else [70] : List Nat) = [if b then 84 else 70] := by cases b <;> rfl
  rw [e]
  have hne : ¬ n < (([if b then 84 else 70] : List Nat).length : Int) := by
    show ¬ n < ((1 : Nat) : Int); (clear e; (first | lia | omega))
  unfold fieldL
  rw [if_neg hne]
  refine ⟨?_, _, cs_S _⟩
  cases hj : (n - (([if b then 84 else 70] : List Nat).length : Int)).toNat with
  | zero => cases b <;> exact nostar_of (by decide)
  | succ j => rw [List.replicate_succ]; exact nostar_of (by decide)
theorem et_len {l : List Nat} {n : Int} (h : 0 ≤ n) : ((ET l n).length : Int) = n := by
  unfold ET; split
  · simp; (first | lia | omega)
  · simp; (clear h; (first | lia | omega))
theorem rt_len {l : List Nat} {n : Int} (h : 0 ≤ n) : ((RT l n).length : Int) = n := by
  unfold RT; split
  · simp; (first | lia | omega)
  · simp; (clear h; (first | lia | omega))
theorem ET_cut {l : List Nat} {n : Int} (h : n < (l.length : Int)) : ET l n = l.take n.toNat := by unfold ET; rw [if_pos h]
theorem et_again {l : List Nat} {n : Int} (h : 0 ≤ n) : ET (RT (ET l n) (l.length : Int)) n = ET l n := by
  have e1 := et_len (l := l) h
  have e2 := rt_len (l := ET l n) (n := (l.length : Int)) (by (clear h e1; (first | lia | omega)))
  by_cases hc : n < (l.length : Int)
  · have h3 : RT (ET l n) (l.length : Int) = ET l n ++ List.replicate ((l.length : Int) - ((ET l n).length : Int)).toNat 32 := by
      unfold RT; rw [if_neg (by (clear e2 h; (first | lia | omega)))]
    have h4 : ET (RT (ET l n) (l.length : Int)) n = (RT (ET l n) (l.length : Int)).take n.toNat := by
      rw [ET_cut (l := RT (ET l n) (l.length : Int)) (by (clear h3 e1 h; (first | lia | omega)))]
    rw [h4, h3, List.take_append_of_le_length (by (clear e2 h4 h3 hc h; (first | lia | omega))), List.take_of_length_le (by (clear e2 h4 h3 hc h; (first | lia | omega)))]
  · have h3 : RT (ET l n) (l.length : Int) = l := by
      unfold RT
      rw [if_pos (by (clear e2 h; (first | lia | omega))), e1]
      unfold ET
      rw [if_neg hc]
      rw [List.drop_left' (by simp)]
    rw [h3]
theorem rt_back {l : List Nat} {n : Int} (hc : (l.length : Int) ≤ n) : RT (ET l n) (l.length : Int) = l := by
  have e1 := et_len (l := l) (n := n) (by (first | lia | omega))
  unfold RT
  rw [if_pos (by (first | lia | omega)), e1]
  unfold ET
  rw [if_neg (by (clear e1; (first | lia | omega)))]
  rw [List.drop_left' (by simp)]
/-! reals -/
theorem ptL_form (s wh r : List Nat) (n : Int) : ∃ al, ptL s wh r n = fieldL (s ++ (al ++ 46 :: r)) n ∧ ((al = wh ∧ wh ≠ []) ∨ (wh = [] ∧ (al = [48] ∨ (al = [] ∧ r ≠ [])))) := by
  unfold ptL
  by_cases h1 : wh = []
  · by_cases h2 : r = []
    · rw [if_pos ⟨h1, h2⟩]; exact ⟨[48], by simp [h2], .inr ⟨h1, .inl rfl⟩⟩
    · rw [if_neg (fun h => h2 h.2), if_pos h1]
      split
      · exact ⟨[48], by simp, .inr ⟨h1, .inl rfl⟩⟩
      · exact ⟨[], by simp, .inr ⟨h1, .inr ⟨rfl, h2⟩⟩⟩
  · rw [if_neg (fun h => h1 h.1), if_neg h1]; exact ⟨wh, by simp, .inl ⟨rfl, h1⟩⟩
theorem ptL_len {s wh r : List Nat} {n : Int} (h : 0 ≤ n) : ((ptL s wh r n).length : Int) = n := by
  obtain ⟨al, e, _⟩ := ptL_form s wh r n
  rw [e]; exact fieldL_len h
theorem plain_pt {al r : List Nat} (h : Dig al) : Plain (al ++ 46 :: r) := by
  cases al with
  | nil => exact ⟨46, r, rfl, by decide, by decide⟩
  | cons c q =>
    have := h c (by simp)
    exact ⟨c, q ++ 46 :: r, rfl, by (clear h; (first | lia | omega)), by (clear h; (first | lia | omega))⟩
theorem no46 {al : List Nat} (h : Dig al) : ∀ c ∈ al, c ≠ 46 := fun c hc => by have := h c hc; (clear hc h; (first | lia | omega))
theorem rr_fix {x : Str} {j : Nat} {b p : Bool} {al bl : List Nat} {k : Int} (hx : cs x = List.replicate j 32 ++ (signL b p ++ (al ++ 46 :: bl))) (hd : Dig (al ++ bl)) (hne : al ++ bl ≠ []) :
    RR x k ((if b then -1 else 1) * (valL (al ++ bl) : Int)) (-k - (bl.length : Int)) := by
  obtain ⟨e1, e2⟩ := cut_sg (b := b) (p := p) (plain_pt (r := bl) hd.left)
  refine ⟨j, _, al, bl, hx, ?_, by simp, no46 hd.left, hd, hne, by rw [e2], .inl ⟨e1, rfl⟩⟩
  intro c hc
  rcases List.mem_append.mp hc with h | h
  · have := sg_mem c h; (clear hne hx e1 e2 hc hd h; (first | lia | omega))
  · rcases List.mem_append.mp h with h | h
    · have := hd.left c h; (clear hc hne hx e1 e2 hd h; (first | lia | omega))
    · rcases List.mem_cons.mp h with h | h
      · (clear hd hc hne hx e1 e2; (first | lia | omega))
      · have := hd.right c h; (clear hc hne hx e1 e2 hd h; (first | lia | omega))
noncomputable def exQ (p : Int) (sz : Nat) : List Nat := (if p < 0 then [45] else [43]) ++ (List.replicate (sz - (decR p.natAbs).length) 48 ++ decR p.natAbs)
theorem exL_Q (c : Nat) (p : Int) (sz : Nat) : exL [c] p sz = c :: exQ p sz := by simp [exL, exQ]
theorem exQ_cut (p : Int) (sz : Nat) : cutR (exQ p sz) = List.replicate (sz - (decR p.natAbs).length) 48 ++ decR p.natAbs ∧ cutG (exQ p sz) = if p < 0 then -1 else 1 := by
  unfold exQ
  have hp : Plain (List.replicate (sz - (decR p.natAbs).length) 48 ++ decR p.natAbs) := by
    have := plain_dig (r := []) ((dig_zeros (sz - (decR p.natAbs).length)).append (digR p.natAbs)) (by simp [decR_ne])
    rwa [List.append_nil] at this
  have := cut_sg (b := decide (p < 0)) (p := true) hp
  by_cases h : p < 0 <;> simpa [signL, h] using this
theorem exQ_mem {p : Int} {sz : Nat} : ∀ c ∈ exQ p sz, 43 ≤ c := by
  intro c hc
  unfold exQ at hc
  rcases List.mem_append.mp hc with h | h
  · split at h <;> simp at h <;> (clear hc; (first | lia | omega))
  · have := ((dig_zeros _).append (digR _)) c h; (clear h hc; (first | lia | omega))
theorem rr_exp {x : Str} {j : Nat} {b p : Bool} {al bl : List Nat} {k q : Int} {c9 sz : Nat} (hc9 : c9 = 69 ∨ c9 = 68) (hq : q.natAbs < 1000000) (hx : cs x = List.replicate j 32 ++ (signL b p ++ (al ++ 46 :: (bl ++ exL [c9] q sz)))) (hd : Dig (al ++ bl)) (hne : al ++ bl ≠ []) :
    RR x k ((if b then -1 else 1) * (valL (al ++ bl) : Int)) (q - (bl.length : Int)) := by
  rw [exL_Q] at hx
  obtain ⟨e1, e2⟩ := cut_sg (b := b) (p := p) (plain_pt (r := bl ++ c9 :: exQ q sz) hd.left)
  obtain ⟨e3, e4⟩ := exQ_cut q sz
  have ht : tailL c9 (exQ q sz) = exQ q sz := if_pos hc9
  have hv : valL (List.replicate (sz - (decR q.natAbs).length) 48 ++ decR q.natAbs) = q.natAbs := by rw [valL_pad, valR]
  refine ⟨j, _, al, bl, hx, ?_, by simp, no46 hd.left, hd, hne, by rw [e2], .inr ⟨exQ q sz, c9, by rw [e1]; simp, by rcases hc9 with h | h <;> simp [IsExp, h], ?_⟩⟩
  · intro c hc
    rcases List.mem_append.mp hc with h | h
    · have := sg_mem c h; (clear hc9 hne hc e4 hx e1 e2 e3 hv hd ht hq h; (first | lia | omega))
    · rcases List.mem_append.mp h with h | h
      · have := hd.left c h; (clear hv e3 hc9 hne hc e4 hx e1 e2 hd ht hq h; (first | lia | omega))
      · rcases List.mem_cons.mp h with h | h
        · (clear hq ht hd hv e3 hc9 hne hc e4 hx e1 e2; (first | lia | omega))
        · rcases List.mem_append.mp h with h | h
          · have := hd.right c h; (clear hv e3 hc9 hne hc e4 hx e1 e2 hd ht hq h; (first | lia | omega))
          · rcases List.mem_cons.mp h with h | h
            · (clear hne hc e4 hx e1 e2 e3 hv hd ht hq; (first | lia | omega))
            · have := exQ_mem c h; (clear hq h ht hd hv e3 hc9 hne hc e4 hx e1 e2; (first | lia | omega))
  · rw [ht, e3, e4, hv]
    refine ⟨(dig_zeros _).append (digR _), by simp [decR_ne], hq, ?_⟩
    split <;> (clear hq ht hd hv e3 hc9 hne e4 hx e1 e2; (first | lia | omega))
theorem mp_of {dg M P : Int} {A j : Nat} (h1 : 7 ≤ dg) (h2 : dg ≤ 20) (hM : M.natAbs = A * 10 ^ j) (hA : A < 10000000) (hb : M.natAbs < 1000000000000000000) (hlo : M ≠ 0 → -38 ≤ P + (cdN M.natAbs : Int) - 1) (hhi : M ≠ 0 → P + (cdN M.natAbs : Int) - 1 ≤ 38) : MP dg M P := by
  refine ⟨by (clear h2 hb hM hhi hlo hA; (first | lia | omega)), h2, hb, ?_, hlo, hhi⟩
  have ha : (if M < 0 then -M else M) = (M.natAbs : Int) := by split <;> (clear hA h1 h2 hb hM hhi hlo; (first | lia | omega))
  rw [ha, Int.fmod_eq_emod_of_nonneg _ (Int.pow_nonneg (by decide))]
  by_cases hz : A = 0
  · rw [hM, hz]; simp
  · have hc := cdN_lt (n := A) (k := 7) (by (clear h2 hb hM ha hhi hlo h1 hz; (first | lia | omega)))
    have hle : ((cdN M.natAbs : Int) - dg).toNat ≤ j := by rw [hM, cdN_mul10 hz]; (clear hb hM ha hhi hlo hz h2 hA; (first | lia | omega))
    refine Int.emod_eq_zero_of_dvd ?_
    generalize ((cdN M.natAbs : Int) - dg).toNat = g at hle ⊢
    rw [hM]
    obtain ⟨r, hr⟩ := Nat.pow_dvd_pow 10 hle
    refine ⟨(A * r : Nat), ?_⟩
    rw [hr]; simp only [Int.natCast_mul, Int.natCast_pow]
    rw [Int.mul_left_comm]; rfl

end
section
theorem lnP2_0 : True := by
  k_with_none
  trivial
/-- what a real item's turn asks: T m e plus is the text that is told of m, e -/
def RLaw (T : Int → Int → Bool → Str) (ok : Int → Int → Prop) (n k m e : Int) : Prop := ∃ M P : Int, MP 7 M P ∧ MP 15 M P ∧ ok m e ∧ (M = 0 → ok 0 0) ∧ (M ≠ 0 → ok (sg M * (stM M.natAbs : Int)) (P + (stJ M.natAbs : Int))) ∧
  ∀ plus, ((T m e plus).length : Int) = n ∧ (Stars (T m e plus) n ∨ (NoStar (T m e plus) ∧ RR (T m e plus) k M P)) ∧ (M = 0 → T 0 0 plus = T m e plus) ∧ (M ≠ 0 → T (sg M * (stM M.natAbs : Int)) (P + (stJ M.natAbs : Int)) plus = T m e plus)
def GoodV (m e : Int) : Prop := m.natAbs ≤ 1000000 ∧ -8 ≤ e ∧ e ≤ 10 ∧ m.natAbs * 10 ^ (e + 8).toNat ≤ 1000000000000000000
theorem toNat_sub_cast {a b : Int} (h0 : 0 ≤ b) (h : b ≤ a) : ((a.toNat - b.toNat : Nat) : Int) = a - b := by (first | lia | omega)
theorem toNat_add_cast {a b : Int} (h0 : 0 ≤ a) (h : 0 ≤ b) : ((a.toNat + b.toNat : Nat) : Int) = a + b := by (first | lia | omega)
theorem good_0 : GoodV 0 0 := ⟨by decide, by decide, by decide, by simp⟩
theorem stJ_le {n : Nat} (h : n ≠ 0) (h1 : n ≤ 1000000) : stJ n ≤ 6 := by
  have e := cdN_st h
  have h2 := cdN_lt (n := n) (k := 7) (by (clear e h; (first | lia | omega)))
  have h3 : cdN (stM n) ≠ 0 := by
    rw [cdN_pos (stM_pos h)]; (clear h1 h2 e h; (first | lia | omega))
  (clear h h1; (first | lia | omega))
theorem good_st {n x : Int} (hn : n ≠ 0) (h1 : n.natAbs ≤ 1000000) (hx1 : -8 ≤ x) (hx2 : x ≤ 4) : GoodV (sg n * (stM n.natAbs : Int)) (x + (stJ n.natAbs : Int)) := by
  have h2 := stJ_le (n := n.natAbs) (by (clear hx1 h1 hx2; (first | lia | omega))) h1
  have h3 := stM_le n.natAbs
  refine ⟨by rw [natAbs_sg]; (clear h2 hx1 hn hx2; (first | lia | omega)), by (clear hn h2 h1 hx2 h3; (first | lia | omega)), by (clear hx1 hn h1 h3; (first | lia | omega)), ?_⟩
  rw [natAbs_sg, show (x + (stJ n.natAbs : Int) + 8).toNat = stJ n.natAbs + (x + 8).toNat by (clear hn h2 h1 hx2 h3; (first | lia | omega)), Nat.pow_add, ← Nat.mul_assoc, ← (st_is (n := n.natAbs) (by (clear hx1 h2 h1 hx2 h3; (first | lia | omega)))).1]
  have h4 : 10 ^ (x + 8).toNat ≤ 10 ^ 12 := Nat.pow_le_pow_right (by decide) (by (clear h1 h2 hx1 hn h3; (first | lia | omega)))
  exact Nat.le_trans (Nat.mul_le_mul h1 h4) (by decide)
theorem dz_dig (n : Nat) : Dig (dz n) := by
  unfold dz; split
  · exact dig_nil
  · exact digR n
theorem dz_val (n : Nat) : valL (dz n) = n := by
  unfold dz; split
  · rename_i h; rw [h]; rfl
  · exact valR n
theorem dz_ne {n : Nat} (h : n ≠ 0) : dz n ≠ [] := by
  unfold dz; rw [if_neg h]; exact decR_ne n
theorem scN_0 (k : Int) : scN 0 k = 0 := by
  unfold scN; split
  · simp
  · have h1 : 1 ≤ 10 ^ (-k).toNat := Nat.pow_pos (by decide)
    exact Nat.div_eq_of_lt (by (first | lia | omega))
theorem al_ok {wh al bl r : List Nat} (h : (al = wh ∧ wh ≠ []) ∨ (wh = [] ∧ (al = [48] ∨ (al = [] ∧ r ≠ [])))) (hd : Dig (wh ++ bl)) (hb : wh = [] → r ≠ [] → bl ≠ []) : Dig (al ++ bl) ∧ al ++ bl ≠ [] ∧ valL (al ++ bl) = valL (wh ++ bl) := by
  rcases h with ⟨rfl, hn⟩ | ⟨rfl, rfl | ⟨rfl, hr⟩⟩
  · exact ⟨hd, by simp [hn], rfl⟩
  · have hd' : Dig bl := by simpa using hd
    refine ⟨(show Dig [48] from fun c hc => by simp at hc; (clear hd hb hd'; (first | lia | omega))).append hd', by simp, ?_⟩
    have := valL_pad 1 bl
    simpa using this
  · exact ⟨hd, by simpa using hb rfl hr, rfl⟩
theorem txt42 {b p : Bool} {al bl tl : List Nat} (hd : Dig (al ++ bl)) (ht : ∀ c ∈ tl, 43 ≤ c) : ∀ c ∈ signL b p ++ (al ++ 46 :: (bl ++ tl)), c ≠ 42 := by
  intro c hc
  rcases List.mem_append.mp hc with h | h
  · have := sg_mem c h; (clear hc ht hd h; (first | lia | omega))
  · rcases List.mem_append.mp h with h | h
    · have := hd.left c h; (clear hc ht hd h; clear h; (first | lia | omega))
    · rcases List.mem_cons.mp h with h | h
      · (clear hd hc ht; (first | lia | omega))
      · rcases List.mem_append.mp h with h | h
        · have := hd.right c h; (clear hc ht hd h; clear h; (first | lia | omega))
        · have := ht c h; (clear hd hc ht h; clear h; (first | lia | omega))
theorem EFd_cong {m e m' e' d k : Int} (h : scN m.natAbs (e + k + d) = scN m'.natAbs (e' + k + d)) : EFd m e d k = EFd m' e' d k := by
  unfold EFd; rw [h]
theorem EFs_cong {m e m' e' d k : Int} {plus : Bool} (h : scN m.natAbs (e + k + d) = scN m'.natAbs (e' + k + d)) (hs : scN m.natAbs (e + k + d) ≠ 0 → decide (m < 0) = decide (m' < 0)) : EFs m e d k plus = EFs m' e' d k plus := by
  unfold EFs; rw [← h]
  by_cases hz : scN m.natAbs (e + k + d) = 0
  · rw [hz]; simp [dz]
  · rw [hs hz]
theorem EF_cong {m e m' e' n d k : Int} {plus : Bool} (h : scN m.natAbs (e + k + d) = scN m'.natAbs (e' + k + d)) (hs : scN m.natAbs (e + k + d) ≠ 0 → decide (m < 0) = decide (m' < 0)) : EF m e n d k plus = EF m' e' n d k plus := by
  unfold EF; rw [EFd_cong h, EFs_cong h hs]
def okF (d k m e : Int) : Prop := m.natAbs < 1000000000000000000 ∧ -9 ≤ e + k + d ∧ e + k + d ≤ 18 ∧ e.natAbs ≤ 1000
set_option maxHeartbeats 4000000 in
theorem ef_law {m e n d k : Int} (hg : GoodV m e) (h1 : 1 ≤ n) (hd0 : 0 ≤ d) (hd1 : d ≤ 5) (hk0 : -1 ≤ k) (hk1 : k ≤ 2) :
    RLaw (fun m e plus => S (EF m e n d k plus)) (okF d k) n k m e := by
  obtain ⟨g1, g2, g3, g4⟩ := hg
  -- the figures
  generalize hN : scN m.natAbs (e + k + d) = N
  have hval : ∃ A j, N = A * 10 ^ j ∧ A ≤ 1000000 ∧ N < 1000000000000000000 := by
    by_cases hp : 0 ≤ e + k + d
    · have : N = m.natAbs * 10 ^ (e + k + d).toNat := by rw [← hN]; unfold scN; rw [if_pos hp]
      refine ⟨_, _, this, g1, ?_⟩
      have h2 : 10 ^ ((e + k + d).toNat + 1) ≤ 10 ^ (e + 8).toNat := Nat.pow_le_pow_right (by decide) (by (clear this g4 hN g2 hk0 g1 g3 hd0 h1; (first | lia | omega)))
      have h3 : m.natAbs * 10 ^ ((e + k + d).toNat + 1) ≤ 1000000000000000000 := Nat.le_trans (Nat.mul_le_mul_left _ h2) g4
      rw [Nat.pow_succ, ← Nat.mul_assoc, ← this] at h3
      (clear hN hp this g4 h2 hk0 g2 g1 hd1 g3 hd0 h1 hk1; (first | lia | omega))
    · have := scN_le (n := m.natAbs) (k := e + k + d) (by (clear g4 hN g2 hk0 g1 g3 hk1 hd0 h1 hd1; (first | lia | omega)))
      rw [hN] at this
      exact ⟨N, 0, by simp, by (clear g2 hk0 hN hp g4 hk1 g3 hd1 hd0 h1; (first | lia | omega)), by (clear g2 hk0 hN hp g4 hk1 g3 hd1 hd0 h1; (first | lia | omega))⟩
  obtain ⟨A, j, hA, hA1, hNb⟩ := hval
  have hcd := cdN_lt (n := N) (k := 18) (by (clear h1 hd0 hd1 g3 hA1 hk1 g1 g2 hk0 hN hA g4; (first | lia | omega)))
  generalize hneg : (decide (m < 0) && decide (dz N ≠ [])) = neg
  have hMabs : ((if neg then -1 else 1) * (N : Int) : Int).natAbs = N := by cases neg <;> simp
  have hM0 : ((if neg then -1 else 1) * (N : Int) : Int) = 0 ↔ N = 0 := by cases neg <;> simp
  have hmp : ∀ dg : Int, 7 ≤ dg → dg ≤ 20 → MP dg ((if neg then -1 else 1) * (N : Int)) (-k - d) := fun dg ha hb =>
    mp_of (A := A) (j := j) ha hb (by rw [hMabs, hA]) (by (clear hd1 hk1 hNb ha g3 hcd g1 hk0 g2 hN hA hMabs hneg g4 hM0 hd0 h1 hb; (first | lia | omega))) (by rw [hMabs]; exact hNb) (by rw [hMabs]; (clear hNb ha g3 hcd g1 hk0 g2 hN hA hMabs hneg g4 hM0 hA1 hd0 h1 hb; (first | lia | omega))) (by rw [hMabs]; (clear g2 hN hA hMabs hneg g4 hM0 g1 g3 ha hNb hk1 hd1 hA1 h1 hb; (first | lia | omega)))
  refine ⟨(if neg then -1 else 1) * (N : Int), -k - d, hmp 7 (by decide) (by decide), hmp 15 (by decide) (by decide), ⟨by (clear hcd hk0 g2 hN hA hMabs hneg g4 hM0 hmp hNb hk1 hd1 hA1 hd0 h1 g3; (first | lia | omega)), by (clear hN hA hMabs hneg g4 hM0 hmp hcd g1 hNb hk1 hd1 hA1 h1 g3; (first | lia | omega)), by (clear hNb g1 hcd hk0 g2 hN hA hMabs hneg g4 hM0 hmp hA1 hd0 h1; (first | lia | omega)), by (clear hN hA hMabs hneg g4 hM0 hmp hk0 hcd g1 hNb hk1 hd1 hA1 hd0 h1; (first | lia | omega))⟩, fun _ => ⟨by decide, by (clear g2 hN hA hMabs hneg g4 hM0 hmp hcd g1 hNb hk1 hd1 hA1 h1 g3; (first | lia | omega)), by (clear hNb g1 hcd hk0 g2 hN hA hMabs hneg g4 hM0 hmp hA1 hd0 h1 g3; (first | lia | omega)), by decide⟩, ?_, ?_⟩
  · intro hM
    rw [hMabs, Ne, hM0] at *
    have h2 := stM_le N
    have h3 := cdN_st hM
    exact ⟨by rw [natAbs_sg]; (clear h1 hd0 hcd g1 g2 hk0 h3 hN hM0 hA hneg g4 hmp hM hk1 hA1 hd1 g3 hMabs; (first | lia | omega)), by (clear hMabs h2 g3 hd1 hA1 hk1 hM hNb h1 hd0 hcd g1 g2 hk0 h3 hN hM0 hA hneg g4 hmp; (first | lia | omega)), by (clear hN hM0 hA hneg g4 hmp hk0 g2 g1 hd0 h1 hNb hM hk1 hA1 hd1 g3 h2 hMabs; (first | lia | omega)), by (clear hN hM0 hA hneg g4 hmp g2 g1 h1 hNb hM hA1 g3 h2 hMabs; (first | lia | omega))⟩
  · intro plus
    have hlen := EFd_len (m := m) (e := e) (d := d) (k := k)
    have hDd : Dig (EFd m e d k) := by unfold EFd; exact (dig_zeros _).append (dz_dig _)
    have hDv : valL (EFd m e d k) = N := by unfold EFd; rw [valL_pad, dz_val, hN]
    generalize hwh : (EFd m e d k).take ((EFd m e d k).length - d.toNat) = wh
    generalize hr : (EFd m e d k).drop ((EFd m e d k).length - d.toNat) = r
    have hD : wh ++ r = EFd m e d k := by rw [← hwh, ← hr, List.take_append_drop]
    have hrl : r.length = d.toNat := by rw [← hr, List.length_drop]; (clear hD hN hr hwh hA hMabs hneg g4 hM0 hmp g2 hk0 g1 hcd hDv h1 g3 hk1 hd1 hNb hd0 hA1 hDd; (first | lia | omega))
    have hEF : EF m e n d k plus = ptL (signL neg plus) wh r n := by unfold EF EFs; rw [hwh, hr, hN, hneg]
    obtain ⟨al, hpt, hform⟩ := ptL_form (signL neg plus) wh r n
    obtain ⟨a1, a2, a3⟩ := al_ok (bl := r) hform (by rw [hD]; exact hDd) (fun _ h => h)
    rw [hD, hDv] at a3
    refine ⟨by show ((S (EF m e n d k plus)).length : Int) = n; rw [hEF, len_S]; exact ptL_len (by (clear hd0 hcd g1 hk0 g2 hlen a1 hEF a3 hD hN hr hwh hpt a2 hA hMabs hneg g4 hform hM0 hmp hDv g3 hk1 hd1 hNb hA1 hrl hDd; (first | lia | omega))), ?_, ?_, ?_⟩
    · show Stars (S (EF m e n d k plus)) n ∨ (NoStar (S (EF m e n d k plus)) ∧ RR (S (EF m e n d k plus)) k _ _)
      rw [hEF, hpt]
      rcases fld_cases (l := signL neg plus ++ (al ++ 46 :: r)) h1 (by simp) (by have := txt42 (b := neg) (p := plus) (tl := []) a1 (by simp); simpa using this) with h | ⟨h, j, hj⟩
      · exact .inl h
      · refine .inr ⟨h, ?_⟩
        have := rr_fix (k := k) hj a1 a2
        rw [a3, hrl, show ((d.toNat : Nat) : Int) = d by (clear hcd g1 g2 hk0 hlen a1 hEF a3 hD hN hwh hr h hpt a2 hA hMabs hneg g4 hform hM0 hj this hmp h1 hNb hDv hk1 hA1 hd1 g3 hrl hDd; (first | lia | omega))] at this
        exact this
    · intro hM
      rw [hM0] at hM
      show S (EF 0 0 n d k plus) = S (EF m e n d k plus)
      rw [EF_cong (m := m) (e := e) (m' := 0) (e' := 0)]
      · rw [hN, hM]; exact (scN_0 _).symm
      · intro h; rw [hN] at h; exact absurd hM h
    · intro hM
      rw [hMabs]
      have hM' : N ≠ 0 := fun h => hM (hM0.mpr h)
      show S (EF _ _ n d k plus) = S (EF m e n d k plus)
      refine congrArg S (EF_cong ?_ ?_).symm
      · rw [natAbs_sg, hN, show -k - d + (stJ N : Int) + k + d = (stJ N : Int) by (clear hDd hrl hA1 hd1 hk1 g3 h1 hNb hDv hd0 hcd g1 g2 hk0 hlen a1 hEF a3 hD hN hr hwh hM' hpt a2 hA hMabs hM hneg g4 hform hM0 hmp; (first | lia | omega))]
        unfold scN
        rw [if_pos (by (clear hDd hrl hA1 hd1 hk1 g3 h1 hNb hDv hd0 hcd g1 g2 hk0 hlen a1 hEF a3 hD hN hr hwh hM' hpt a2 hA hMabs hM hneg g4 hform hM0 hmp; (first | lia | omega)))]
        exact (st_is hM').1
      · intro _
        have hp := stM_pos hM'
        have hn : neg = decide (m < 0) := by rw [← hneg]; simp [dz_ne hM']
        rw [← hn]
        cases neg
        · have : sg (1 * (N : Int)) = 1 := by unfold sg; rw [if_neg (by (clear hDd hrl hNb hA1 hd1 hk1 g3 hDv h1 hd0 hcd g1 hk0 g2 hlen a1 hEF a3 hn hD hN hr hwh hM' hp hpt a2 hA hMabs hM hneg g4 hform hM0 hmp; (first | lia | omega)))]
          simp only [Bool.false_eq_true, if_false]; rw [this]; simp
        · have : sg (-1 * (N : Int)) = -1 := by unfold sg; rw [if_pos (by (clear hr hwh hM' hp hpt a2 hA hMabs hM hneg g4 hform hM0 hmp hD hn a3 hEF a1 hlen g2 hk0 g1 hcd hd0 h1 hDv g3 hk1 hd1 hA1 hNb hrl hDd; (first | lia | omega)))]
          simp only [if_true]; rw [this]; simp; (clear hpt a2 hA hMabs hM hneg g4 hform hM0 hmp hM' this hr hwh hN hD hn a3 hEF a1 hlen g2 hk0 hcd g1 hd0 hDv g3 hk1 h1 hd1 hA1 hNb hrl hDd; (first | lia | omega))
/-! E and D -/
theorem ld_spec {m e c : Int} (hm : m ≠ 0) (h1 : m.natAbs ≤ 1000000) (hc : 1 ≤ c) : ∃ V j A : Nat, ldD m c = decR V ∧ cdN V = c.toNat ∧ V ≠ 0 ∧ V = A * 10 ^ j ∧ A ≤ m.natAbs ∧ (ldP m e c = (cdN m.natAbs : Int) + e ∨ ldP m e c = (cdN m.natAbs : Int) + e + 1) := by
  have hz : m.natAbs ≠ 0 := by (clear h1 hc; (first | lia | omega))
  have hP : ldP m e c = (cdN m.natAbs : Int) + e ∨ ldP m e c = (cdN m.natAbs : Int) + e + 1 := by
    unfold ldP; rw [if_neg hm]; split
    · exact .inr rfl
    · exact .inl rfl
  generalize hNN : scN m.natAbs (c - (cdN m.natAbs : Int)) = N
  have hD : ldD m c = if c < ((dz N).length : Int) then (dz N).take c.toNat else dz N := by unfold ldD; rw [if_neg hm, hNN]
  by_cases hp : 0 ≤ c - (cdN m.natAbs : Int)
  · have hN : N = m.natAbs * 10 ^ (c - (cdN m.natAbs : Int)).toNat := by rw [← hNN]; unfold scN; rw [if_pos hp]
    have hcN : cdN N = c.toNat := by rw [hN, cdN_mul10 hz]; (clear hm hz hD hN hP hNN h1 hc; (first | lia | omega))
    have hN0 : N ≠ 0 := by
      rw [hN]; exact Nat.mul_ne_zero hz (Nat.pos_iff_ne_zero.mp (Nat.pow_pos (by decide)))
    have hdz : dz N = decR N := by unfold dz; rw [if_neg hN0]
    refine ⟨N, _, _, ?_, hcN, hN0, hN, Nat.le_refl _, hP⟩
    rw [hD, hdz, lenR hN0, hcN, if_neg (by (clear h1 hNN hp hm hN0 hz hD hN hP hdz hcN; (first | lia | omega)))]
  · obtain ⟨g, hg⟩ : ∃ g : Nat, cdN m.natAbs = c.toNat + (g + 1) := ⟨cdN m.natAbs - c.toNat - 1, by (clear hm hz hD hP hNN h1; (first | lia | omega))⟩
    have hge := geN_cdN hz
    have hlt := ltN_cdN m.natAbs
    have hle : N ≤ m.natAbs := by rw [← hNN]; exact scN_le (by (clear hg hm hz hlt hge hD hP hNN h1 hc; (first | lia | omega)))
    have hN : N = (2 * m.natAbs + 10 ^ (g + 1)) / (2 * 10 ^ (g + 1)) := by
      rw [← hNN]; unfold scN; rw [if_neg hp, show (-(c - (cdN m.natAbs : Int))).toNat = g + 1 by (clear hm hz hlt hge hD hP hp hNN h1 hle; (first | lia | omega))]
    obtain ⟨c', hc'⟩ : ∃ c' : Nat, c.toNat = c' + 1 := ⟨c.toNat - 1, by (clear h1 hNN hp hg hm hz hlt hge hD hP hN hle; (first | lia | omega))⟩
    have hU : 1 ≤ 10 ^ (g + 1) := Nat.pow_pos (by decide)
    rw [show cdN m.natAbs - 1 = c' + (g + 1) by (clear hm hz hlt hge hU hD hP hN hp hNN h1 hc hle; (first | lia | omega)), Nat.pow_add] at hge
    rw [hg, Nat.pow_add] at hlt
    generalize 10 ^ (g + 1) = U at hN hU hge hlt
    have lo : 10 ^ c' ≤ N := by
      rw [hN, Nat.le_div_iff_mul_le (by (clear h1 hc' hNN hp hg hm hz hN hge hlt hD hP hc hle; (first | lia | omega))), show 10 ^ c' * (2 * U) = 2 * (10 ^ c' * U) by rw [Nat.mul_left_comm]]
      (clear hlt hD hP hN hz hm hg hp hNN hc' h1 hU hc hle; (first | lia | omega))
    have hi : N ≤ 10 ^ c.toNat := by
      have : N < 10 ^ c.toNat + 1 := by
        rw [hN, Nat.div_lt_iff_lt_mul (by (clear h1 hc' hNN hp hg hm hz hN lo hge hlt hD hP hc hle; (first | lia | omega))), Nat.add_mul, show 10 ^ c.toNat * (2 * U) = 2 * (10 ^ c.toNat * U) by rw [Nat.mul_left_comm]]
        (clear hD hP hge lo hN hz hm hg hp hNN hc' h1 hU hc hle; (first | lia | omega))
      (clear hD hP hlt hge lo hN hz hm hg hp hNN hc' h1 hU hc hle; (first | lia | omega))
    have hN0 : N ≠ 0 := by
      have : 1 ≤ 10 ^ c' := Nat.pow_pos (by decide)
      (clear hge hlt hD hP hi hN hz hm hg hp hNN hc' h1 hU hc hle; (first | lia | omega))
    have hdz : dz N = decR N := by unfold dz; rw [if_neg hN0]
    by_cases hq : N < 10 ^ c.toNat
    · have hcN : cdN N = c.toNat := by rw [hc']; exact cdN_eq lo (by rw [← hc']; exact hq)
      refine ⟨N, 0, N, ?_, hcN, hN0, by simp, hle, hP⟩
      rw [hD, hdz, lenR hN0, hcN, if_neg (by (clear h1 hc' hNN hp hg hm hN0 hz hN lo hq hi hge hlt hD hP hU hdz hcN hle; (first | lia | omega)))]
    · have hNe : N = 10 ^ c' * 10 := by rw [show N = 10 ^ c.toNat by (clear hge hlt hD hP lo hN hz hN0 hm hg hp hNN hc' h1 hU hc hdz hle; (first | lia | omega)), hc', Nat.pow_succ]
      have h10 : (10 ^ c' : Nat) ≠ 0 := Nat.pos_iff_ne_zero.mp (Nat.pow_pos (by decide))
      have hc1 : cdN (10 ^ c') = c.toNat := by
        rw [hc']; exact cdN_eq (Nat.le_refl _) (by rw [Nat.pow_succ]; (clear hge hlt hNe hD hP hq hi lo hN hz hN0 hm hg hp hNN hc' h1 hU hc hdz hle; (first | lia | omega)))
      have hdd : decR N = decR (10 ^ c') ++ [48] := by
        have := decR_mul10 h10 1
        rw [hNe]; simpa using this
      refine ⟨10 ^ c', 0, 10 ^ c', ?_, hc1, h10, by simp, by (clear hi hc1 hq h10 hge hlt hNe hD hdd hP hN hz hN0 hm hg hp hNN hc' h1 hU hc hdz; (first | lia | omega)), hP⟩
      have hl := lenR h10
      rw [hD, hdz, hdd, if_pos (by rw [List.length_append, hl, hc1]; simp; (clear hle hdz hU hc h1 hc' hNN hp hg hm hN0 hz hN lo hi hc1 hq h10 hge hlt hNe hD hl hdd hP; (first | lia | omega))), List.take_append_of_le_length (by (clear hdd hP hD hNe hlt hge h10 hq hi lo hN hz hN0 hm hg hp hNN hc' h1 hc hU hdz hle; (first | lia | omega))), List.take_of_length_le (by (clear hdd hP hD hNe hlt hge h10 hq hi lo hN hz hN0 hm hg hp hNN hc' h1 hc hU hdz hle; (first | lia | omega)))]
theorem ld_again {V : Nat} {s P c : Int} (hV : V ≠ 0) (hs : s = 1 ∨ s = -1) (hc : cdN V = c.toNat) (h1 : 1 ≤ c) : ldD (s * (stM V : Int)) c = decR V ∧ ldP (s * (stM V : Int)) (P + (stJ V : Int)) c = c + P := by
  have hp := stM_pos hV
  have ha : (s * (stM V : Int)).natAbs = stM V := by rcases hs with rfl | rfl <;> simp
  have h0 : ¬ s * (stM V : Int) = 0 := by (clear hs hV h1 hc; (first | lia | omega))
  have hst := cdN_st hV
  have e : scN (stM V) (c - (cdN (stM V) : Int)) = V := by
    rw [show c - (cdN (stM V) : Int) = (stJ V : Int) by (clear ha h0 hV hp hs; (first | lia | omega))]
    unfold scN; rw [if_pos (by (clear hc h1 hst ha h0 hV hp hs; (first | lia | omega)))]
    exact (st_is hV).1.symm
  have hdz : dz V = decR V := by unfold dz; rw [if_neg hV]
  have hl := lenR hV
  unfold ldD ldP
  rw [if_neg h0, if_neg h0, ha, e, hdz, if_neg (by (clear hst ha e h0 hV hp hs hdz; (first | lia | omega))), if_neg (by (clear hst ha e h0 hV hp hs hdz; (first | lia | omega)))]
  exact ⟨rfl, by (clear ha e h0 hV hp hs hl hdz; (first | lia | omega))⟩
def okE (m e : Int) : Prop := m.natAbs < 1000000000 ∧ e.natAbs ≤ 50
noncomputable def eWh (k : Int) (D : List Nat) : List Nat := if 0 < k then D.take k.toNat else []
noncomputable def eBl (k : Int) (D : List Nat) : List Nat := if 0 < k then D.drop k.toNat else List.replicate (-k).toNat 48 ++ D
theorem EE_form {lt : List Nat} {m e n d k : Int} {sz : Nat} {plus : Bool} : EE lt m e n d k sz plus = ptL (signL (decide (m < 0)) plus) (eWh k (ldD m (EEc d k))) (eBl k (ldD m (EEc d k)) ++ EEt lt m e d k sz) n := by
  unfold EE eWh eBl
  split <;> simp
theorem exL_mem {c9 sz : Nat} {q : Int} (hc9 : c9 = 69 ∨ c9 = 68) : ∀ c ∈ exL [c9] q sz, 43 ≤ c := by
  rw [exL_Q]; intro c hcc
  rcases List.mem_cons.mp hcc with h | h
  · (clear hcc; (first | lia | omega))
  · exact exQ_mem c h
set_option maxHeartbeats 4000000 in
theorem ee_law {m e n d k : Int} {c9 sz : Nat} (hc9 : c9 = 69 ∨ c9 = 68) (hg : GoodV m e) (h1 : 1 ≤ n) (hd0 : 2 ≤ d) (hd1 : d ≤ 7) (hk0 : -1 ≤ k) (hk1 : k ≤ 2) :
    RLaw (fun m e plus => S (EE [c9] m e n d k sz plus)) okE n k m e := by
  obtain ⟨g1, g2, g3, -⟩ := hg
  generalize hc : EEc d k = c
  have hcd : (k ≤ 0 ∧ c = d + k) ∨ (0 < k ∧ c = d + 1) := by
    rw [← hc]; unfold EEc; split
    · exact .inl ⟨by (clear hc hd1 h1 hk1 hd0 g3 g1 hk0 g2 hc9; (first | lia | omega)), rfl⟩
    · exact .inr ⟨by (clear hc hd1 h1 hk1 hd0 g3 g1 hk0 g2 hc9; (first | lia | omega)), rfl⟩
  have hcdm := cdN_lt (n := m.natAbs) (k := 7) (by (clear hk0 g2 hc9 hcd g3 hk1 hd0 h1 hd1 hc; (first | lia | omega)))
  -- the figures
  have hfig : ∃ V j A : Nat, ldD m c = (if m = 0 then List.replicate c.toNat 48 else decR V) ∧ (m = 0 → V = 0) ∧ (m ≠ 0 → V ≠ 0 ∧ cdN V = c.toNat) ∧ V = A * 10 ^ j ∧ A ≤ 1000000 ∧ (ldP m e c).natAbs ≤ 30 := by
    by_cases hm : m = 0
    · exact ⟨0, 0, 0, by unfold ldD; rw [if_pos hm, if_pos hm], fun _ => rfl, fun h => absurd hm h, rfl, by decide, by unfold ldP; rw [if_pos hm]; decide⟩
    · obtain ⟨V, j, A, e1, e2, e3, e4, e5, e6⟩ := ld_spec (e := e) (c := c) hm g1 (by (clear hc9 g2 hcdm g1 hm hk1 g3 h1 hd1 hc; (first | lia | omega)))
      exact ⟨V, j, A, by rw [if_neg hm, e1], fun h => absurd h hm, fun _ => ⟨e3, e2⟩, e4, by (clear hcdm g2 hk0 e3 hc9 e4 hcd e6 h1 hd1 hd0 hm hk1 g3 e1 hc e2; (first | lia | omega)), by (clear hcd e4 hc9 e3 hk0 g1 h1 hd1 hd0 hm hk1 e1 hc e5 e2; (first | lia | omega))⟩
  obtain ⟨V, j, A, hD, hV0, hV1, hA, hA1, hP⟩ := hfig
  have hDd : Dig (ldD m c) := by rw [hD]; split <;> first | exact dig_zeros _ | exact digR _
  have hDv : valL (ldD m c) = V := by
    rw [hD]; split
    · rename_i h; rw [hV0 h, valL_zeros]
    · exact valR V
  have hDl : (ldD m c).length = c.toNat := by
    rw [hD]; split
    · simp
    · rename_i h; rw [lenR (hV1 h).1, (hV1 h).2]
  have hVb : V < 100000000 := by
    have h2 := valL_lt hDd
    rw [hDv, hDl] at h2
    have h3 : 10 ^ c.toNat ≤ 10 ^ 8 := Nat.pow_le_pow_right (by decide) (by (clear hV1 hV0 hD hA h2 hc9 hP hk0 g2 hcdm g1 h1 hDl hd0 hA1 hk1 g3 hDv hc hDd; (first | lia | omega)))
    (clear hcd hV1 hV0 hD hA hc9 hP hk0 g2 hcdm g1 hDl hd0 hA1 h1 hk1 hd1 g3 hDv hc hDd; (first | lia | omega))
  have hcV := cdN_lt (n := V) (k := 8) (by (clear hDl hd0 g1 hcdm hk0 g2 hP hc9 hA hD hV0 hcd hV1 h1 hk1 hd1 hA1 g3 hDv hc hDd; (first | lia | omega)))
  have hMabs : ((if decide (m < 0) then -1 else 1) * (V : Int) : Int).natAbs = V := by cases decide (m < 0) <;> simp
  have hM0 : ((if decide (m < 0) then -1 else 1) * (V : Int) : Int) = 0 ↔ V = 0 := by cases decide (m < 0) <;> simp
  have hVm : V = 0 ↔ m = 0 := ⟨fun h => Classical.byContradiction fun hm => (hV1 hm).1 h, hV0⟩
  generalize hq : ldP m e c - (if m = 0 then 0 else k) = q
  have hqb : q.natAbs ≤ 40 := by rw [← hq]; split <;> (clear hc9 hVm hA hD hV0 hq hcd hMabs hV1 hM0 g2 hcdm hcV g1 hVb hDl hA1 hd0 h1 hd1 g3 hDv hc hDd; ((first | lia | omega)))
  have hbl : ((eBl k (ldD m c)).length : Int) = if 0 < k then c - k else d := by
    unfold eBl; split
    · rw [List.length_drop, hDl, toNat_sub_cast (by (clear hMabs hV1 hM0 hq hV0 hD hA hVm hc9 hP g2 hk0 hcdm g1 hcV hqb hVb hDl h1 hA1 hd1 g3 hDv hc hDd; clear hk1 hd0 hcd; (first | lia | omega))) (by (clear hMabs hV1 hM0 hq hV0 hD hA hVm hc9 hP g2 hk0 hcdm g1 hcV hqb hVb hDl h1 hA1 hd1 g3 hDv hc hDd; (first | lia | omega)))]
    · rw [List.length_append, List.length_replicate, hDl, toNat_add_cast (by (clear hMabs hV1 hM0 hq hV0 hD hA hVm hc9 hP g2 hcdm g1 hcV hqb hVb hDl h1 hA1 hk1 hd1 g3 hDv hc hDd; clear hd0 hk0 hcd; (first | lia | omega))) (by (clear hMabs hV1 hM0 hq hV0 hD hA hVm hc9 hP g2 hcdm g1 hcV hqb hVb hDl h1 hA1 hk1 hd1 g3 hDv hc hDd; (first | lia | omega)))]; (clear hMabs hV1 hM0 hq hV0 hD hA hVm hc9 hP g2 hcdm g1 hcV hqb hVb hDl h1 hA1 hk1 hd1 g3 hDv hc hDd; clear hk0 hd0; (first | lia | omega))
  generalize hb : (if 0 < k then c - k else d) = b at hbl
  have hbb : 0 ≤ b ∧ b ≤ 8 := by rw [← hb]; split <;> (clear hMabs hV1 hM0 hq hV0 hD hb hA hVm hc9 hP hbl hk0 g2 hcdm hcV hqb g1 hVb hDl h1 hA1 g3 hDv hc hDd; ((first | lia | omega)))
  have hq32 : -32 ≤ q ∧ q ≤ 31 := by rw [← hq]; split <;> (clear hc9 hVm hA hD hV0 hq hcd hMabs hV1 hM0 g2 hcdm hcV g1 hVb hDl hA1 hd0 h1 hd1 g3 hDv hc hDd hqb hbb hb hbl; ((first | lia | omega)))
  have hcb : c - b = k := by rw [← hb]; split <;> (clear hMabs hV1 hM0 hq hV0 hD hb hA hVm hc9 hP hbl hk0 g2 hcdm hcV hqb g1 hVb hDl h1 hA1 g3 hDv hc hDd hbb hq32 hd0 hd1 hk1; ((first | lia | omega)))
  have hmp : ∀ dg : Int, 7 ≤ dg → dg ≤ 20 → MP dg ((if decide (m < 0) then -1 else 1) * (V : Int)) (q - b) := fun dg ha9 hb9 =>
    mp_of (A := A) (j := j) ha9 hb9 (by rw [hMabs, hA]) (by (clear hq32 hcb hd1 h1 hk1 hDl hd0 g3 hb9 hVb ha9 g1 hcV hqb hcdm hk0 g2 hbl hP hbb hc9 hVm hA hD hV0 hq hcd hMabs hV1 hM0 hDv hc hDd hb; (first | lia | omega))) (by rw [hMabs]; (clear hq32 hcb ha9 g1 hcV hqb hcdm hk0 g2 hbl hP hbb hc9 hVm hA hD hV0 hq hcd hMabs hV1 hM0 hb9 g3 hd0 hDl hk1 h1 hd1 hA1 hDv hc hDd hb; (first | lia | omega)))
      (by rw [hMabs]; intro hne; have h9 := (hV1 (fun h => hne (hM0.mpr (hVm.mpr h)))).2; clear hne hM0 hMabs hV0 hD hA hVm hV1 hc9 hbb hbl g2 hcdm hqb hcV g1 ha9 hVb hb9 g3 hd0 hd1 hDl hk1 h1 hA1 hDv hc hDd hcd hP hq hb; (first | lia | omega))
      (by rw [hMabs]; intro hne; clear hne hcb hM0 hMabs hV0 hD hA hVm hV1 hc9 hbl g2 hcdm hqb g1 ha9 hVb hb9 g3 hd0 hd1 hDl hk0 hk1 h1 hA1 hDv hc hDd hcd hP hq hb; (first | lia | omega))
  refine ⟨(if decide (m < 0) then -1 else 1) * (V : Int), q - b, hmp 7 (by decide) (by decide), hmp 15 (by decide) (by decide), ⟨by (clear hqb hcdm hk0 g2 hP hbl hbb hc9 hVm hA hb hD hV0 hq hcd hMabs hV1 hM0 hmp hcV hVb h1 hDl g3 hd0 hk1 hd1 hA1 hDv hc hDd; clear hcb hq32; (first | lia | omega)), by (clear hP hbl hbb hc9 hVm hA hb hD hV0 hq hcd hMabs hV1 hM0 hmp hk0 hcdm hqb g1 hcV hVb h1 hDl hd0 hk1 hd1 hA1 hDv hc hDd; clear hq32 hcb; (first | lia | omega))⟩, fun _ => ⟨by decide, by decide⟩, ?_, ?_⟩
  · intro hM
    rw [hMabs]
    rw [Ne, hM0] at hM
    have h2 := stM_le V
    have h3 := cdN_st hM
    exact ⟨by rw [natAbs_sg]; (clear hA1 hd0 hM hd1 hcV hqb g1 hcdm g2 hk0 hP hbl h3 hbb hVm hc9 hA hb hD hV0 hq hcd hMabs hV1 hM0 hmp g3 hDl hk1 h1 hDv hc hDd; clear hcb hq32; (first | lia | omega)), by (clear hVm hc9 hA hb hD hV0 hq hcd hMabs hV1 hM0 hmp hbl hP hk0 g2 hcdm g1 hd1 hM hd0 hA1 hVb g3 hDl hk1 h1 hDv h2 hc hDd; clear hq32 hcb; (first | lia | omega))⟩
  · intro plus
    have hwD : Dig (eWh k (ldD m c) ++ eBl k (ldD m c)) ∧ valL (eWh k (ldD m c) ++ eBl k (ldD m c)) = V := by
      unfold eWh eBl
      split
      · rw [List.take_append_drop]; exact ⟨hDd, hDv⟩
      · rw [List.nil_append]; exact ⟨(dig_zeros _).append hDd, by rw [valL_pad, hDv]⟩
    have hEE : EE [c9] m e n d k sz plus = ptL (signL (decide (m < 0)) plus) (eWh k (ldD m c)) (eBl k (ldD m c) ++ exL [c9] q sz) n := by
      rw [EE_form, hc]; unfold EEt; rw [hc, hq]
    obtain ⟨al, hpt, hform⟩ := ptL_form (signL (decide (m < 0)) plus) (eWh k (ldD m c)) (eBl k (ldD m c) ++ exL [c9] q sz) n
    have hDne : ldD m c ≠ [] := by
      intro h; rw [h] at hDl; simp at hDl; (clear hMabs hV1 hM0 hform hpt hmp hq hEE hV0 hD hb hA hwD hVm hc9 hbb hP hbl g2 hcdm hcV hqb g1 hA1 g3 hVb h1 hk1 hd1 h hDv hc hDd; clear hq32 hcb; (first | lia | omega))
    have hblne : eWh k (ldD m c) = [] → eBl k (ldD m c) ++ exL [c9] q sz ≠ [] → eBl k (ldD m c) ≠ [] := by
      unfold eWh eBl
      split
      · intro h
        have := congrArg List.length h
        rw [List.length_take, hDl] at this
        simp at this; (clear hD hV0 hEE hq hcd hMabs hV1 hM0 hform hpt hmp hA hwD hVm hc9 hDne hbb hP h hk0 g2 hcdm hqb hcV g1 hVb g3 hDl h1 hk1 hd0 hd1 hA1 hDv hc hDd; clear hb hq32; (first | lia | omega))
      · intro _ _; simp [hDne]
    obtain ⟨a1, a2, a3⟩ := al_ok (bl := eBl k (ldD m c)) hform hwD.1 hblne
    rw [hwD.2] at a3
    have htl := exL_mem (q := q) (sz := sz) hc9
    refine ⟨by show ((S (EE [c9] m e n d k sz plus)).length : Int) = n; rw [hEE, len_S]; exact ptL_len (by (clear hk1 hd0 hVb g3 hDl hcV g1 hqb hcdm hk0 g2 hP hbl a1 hbb a3 hDne hc9 hVm hwD a2 hA hb hD hV0 hq hEE htl hcd hMabs hV1 hM0 hform hblne hpt hmp hd1 hA1 hDv hc hDd; clear hcb hq32; (first | lia | omega))), ?_, ?_, ?_⟩
    · show Stars (S (EE [c9] m e n d k sz plus)) n ∨ (NoStar (S (EE [c9] m e n d k sz plus)) ∧ RR (S (EE [c9] m e n d k sz plus)) k _ _)
      rw [hEE, hpt]
      rcases fld_cases (l := signL (decide (m < 0)) plus ++ (al ++ 46 :: (eBl k (ldD m c) ++ exL [c9] q sz))) h1 (by simp) (txt42 a1 htl) with h | ⟨h, j, hj⟩
      · exact .inl h
      · refine .inr ⟨h, ?_⟩
        have := rr_exp (k := k) hc9 (by (clear hcdm hk0 g2 hP hbl a1 hbb a3 hDne hc9 hVm hwD a2 hA hb hD hV0 hEE hq htl hcd h hMabs hV1 hM0 hform hblne hpt hmp hj g1 hcV hVb g3 hDl hd0 hk1 h1 hd1 hA1 hDv hc hDd; clear hcb hq32; (first | lia | omega))) hj a1 a2
        rw [a3, hbl] at this
        exact this
    · intro hM
      have hm : m = 0 := hVm.mp (hM0.mp hM)
      subst hm
      show S (EE [c9] 0 0 n d k sz plus) = S (EE [c9] 0 e n d k sz plus)
      rw [EE_form, EE_form]
      have hl0 : ∀ e c : Int, ldP 0 e c = 0 := fun _ _ => if_pos rfl
      unfold EEt
      rw [hl0, hl0]
    · intro hM
      rw [hMabs]
      have hV' : V ≠ 0 := fun h => hM (hM0.mpr h)
      have hm : m ≠ 0 := fun h => hV' (hVm.mpr h)
      have hs : sg ((if decide (m < 0) then -1 else 1) * (V : Int)) = if m < 0 then -1 else 1 := by
        by_cases h : m < 0
        · simp only [h, decide_true, if_true]; unfold sg; rw [if_pos (by (clear hVm hc9 hwD a2 hA hb hD hV0 hEE hq htl hcd hMabs hM hV1 hM0 hform hblne hpt hmp hm hDne a3 hbb a1 hP hbl g2 hk0 hcdm hqb g1 hcV hVb hDl h1 hA1 hd0 g3 hk1 hd1 h hDv hc hDd; clear hq32 hcb; (first | lia | omega)))]
        · simp only [h, decide_false, if_false, Bool.false_eq_true]; unfold sg; rw [if_neg (by (clear hDd hc hDv h1 hk1 g3 hd1 hA1 hd0 hDl hVb h g1 hqb hcV hcdm hk0 g2 hP hbl hbb a1 a3 hDne hm hV' hc9 hVm hwD a2 hA hb hD hV0 hq hEE htl hcd hMabs hM hV1 hM0 hform hblne hpt hmp; clear hcb hq32; (first | lia | omega)))]
      rw [hs]
      show S (EE [c9] _ _ n d k sz plus) = S (EE [c9] m e n d k sz plus)
      have hsp := stM_pos hV'
      obtain ⟨l1, l2⟩ := ld_again (V := V) (s := if m < 0 then -1 else 1) (P := q - b) (c := c) hV' (by split <;> simp) (hV1 hm).2 (by (clear hMabs hM hV1 hM0 hform hs hblne hpt hmp htl hEE hq hV0 hD hb hA a2 hwD hVm hc9 hsp hm hDne hV' a3 hbb a1 hbl hP g2 hcdm hcV hqb g1 hVb hA1 h1 hDl hk1 hd1 g3 hDv hc hDd; clear hq32 hcb; (first | lia | omega)))
      have hM'0 : ¬ (if m < 0 then -1 else 1) * (stM V : Int) = 0 := by split <;> (clear hc9 hVm hwD a2 hA hb hD hV0 hEE hq htl hcd l1 hMabs hM hV1 hM0 hform l2 hs hblne hpt hmp hV' hm hDne a3 a1 hbb hbl hP g2 hk0 hcdm hcV hqb g1 hd0 hA1 g3 hk1 h1 hDl hd1 hVb hDv hc hDd; clear hq32 hcb; (first | lia | omega))
      have hsgn : decide ((if m < 0 then -1 else 1) * (stM V : Int) < 0) = decide (m < 0) := by
        by_cases h : m < 0
        · simp only [h, if_true, decide_true, decide_eq_true_eq]; (clear hc9 hVm hwD a2 hA hb hD hV0 hEE hq htl hcd l1 hM'0 hMabs hM hV1 hM0 hform l2 hs hblne hpt hmp hm hDne hV' a3 a1 hbb hbl hP g2 hk0 hcdm g1 hqb hcV hd0 hA1 g3 hVb h1 hk1 hDl hd1 h hDv hc hDd; clear hq32 hcb; (first | lia | omega))
        · simp only [h, if_false, decide_false, decide_eq_false_iff_not]; (clear hDd hc hDv g3 hd1 hk1 hd0 h1 hA1 hDl hVb h g1 hcV hqb hcdm g2 hk0 hP hbl hbb a1 a3 hDne hm hV' hsp hc9 hVm hwD a2 hA hb hD hV0 hEE hq htl hcd l1 hM'0 hMabs hM hV1 hM0 hform l2 hs hblne hpt hmp; clear hcb hq32; (first | lia | omega))
      rw [EE_form, hEE, hc, hsgn, l1]
      have hDV : ldD m c = decR V := by rw [hD, if_neg hm]
      rw [hDV]
      unfold EEt
      rw [hc, l2, if_neg hM'0, show c + (q - b) - k = q by rw [← hb]; split <;> (clear hDd hc hDv hDV hd1 hDl hk1 h1 hVb g3 hA1 hd0 hcV hqb g1 hcdm hk0 g2 hP hbl hbb a1 a3 hV' hDne hm hsp hc9 hVm hwD a2 hA hb hD hV0 hEE hq htl l1 hM'0 hMabs hM hV1 hM0 hform l2 hs hblne hpt hsgn hmp; clear hcb hq32; (first | lia | omega))]

end
section
theorem lnT_0 : True := by
  k_with_none
  trivial
section
open PyProof.Rows.LCg
variable {prog : Program} {w : World} {A : Around} {E : Value → Shared → Prop} {s : Shared} {h₀ : Heap} {L : Addr} {m : Str → Option Value} {env : Env}
/-- a tuple of the call's own as a comprehension's source -/
def TupAt (ax : Addr) (its : Array Value) (news : List (Addr × Obj)) : Prop := ∃ o, (ax, o) ∈ news ∧ o.cls = .type "tuple" ∧ ∃ n, o.data = .seq its n
theorem TupAt.tup {h : Heap} {ax : Addr} {its : Array Value} {news : List (Addr × Obj)} (x : TupAt ax its news) (N : News h₀ L h news) : h.IsTuple ax its := by
  obtain ⟨o, hm, r⟩ := x
  exact ⟨o, (N _ hm).1, r⟩
def SrcTup (prog : Program) (w : World) (A : Around) (h₀ : Heap) (L : Addr) (m : Str → Option Value) (env : Env) (elt : Expr) (x : Str) (scope : Scope) (cl : List (Str × Addr)) (Fin : Shared → List Value → List (Addr × Obj) → Prop) (xv : Value) (s₁ : Shared) : Prop :=
  ∃ ax its news, xv = .ref ax ∧ A.handled = none ∧ Fr h₀ L s₁.heap m ∧ News h₀ L s₁.heap news ∧ TupAt ax its news ∧ its.size ≤ sizeLine ∧
    ∀ s₂ : Shared, (∃ h, s₂ = { s₁ with heap := h }) → CompRest prog w A h₀ L m env elt x scope cl s₂ (TupAt ax its) (fun i v => its[i]? = some v) (Fin s₂) its.size 0 [] news
theorem SrcTup.ledger {elt : Expr} {x : Str} {scope : Scope} {cl : List (Str × Addr)} {Fin : Shared → List Value → List (Addr × Obj) → Prop} {ax : Addr} {its : Array Value} {k : Nat} {news : List (Addr × Obj)} {s₁ : Shared}
    (hh : A.handled = none) (F : Fr h₀ L s₁.heap m) (N : News h₀ L s₁.heap news) (hm : (ax, ({ cls := .type "tuple", data := .seq its k } : Obj)) ∈ news) (hsz : its.size ≤ sizeLine)
    (h : ∀ g, CompRest prog w A h₀ L m env elt x scope cl { s₁ with heap := g } (TupAt ax its) (fun i v => its[i]? = some v) (Fin { s₁ with heap := g }) its.size 0 [] news) :
    SrcTup prog w A h₀ L m env elt x scope cl Fin (.ref ax) s₁ := ⟨ax, its, news, rfl, hh, F, N, ⟨_, hm, rfl, _, rfl⟩, hsz, fun _ ⟨g, e⟩ => e ▸ h g⟩
theorem tup_st {ax I : Addr} {its : Array Value} : ∀ i (h h' : Heap) (o : Obj) (nw : List (Addr × Obj)), (h.IsTupleIter I ax i ∧ h.IsTuple ax its) → h.get? I = some o → h'.get? I = some o → (∀ b o, h₀.get? b = some o → h'.get? b = some o) → News h₀ L h' nw → TupAt ax its nw → (h'.IsTupleIter I ax i ∧ h'.IsTuple ax its) :=
  fun i h h' o nw st e e' k N S => ⟨by obtain ⟨o', q, r⟩ := st.1; rw [e] at q; cases q; exact ⟨o, e', r⟩, S.tup N⟩
theorem Assign_ListComp_Tup {elt iter : Expr} {x y : Str} {px py : Pos} {scope : Scope} {cl : List (Str × Addr)} {pos spos : Pos} {Q : Flow → Shared → Prop} (F₀ : Fr h₀ L s.heap m) (hLe : env.locals = L)
    (hsw : swapsWith (.ListComp elt [⟨.Name x px, iter, [], 0⟩] scope pos) (some (.Name y py)) spos.line env = pure true)
    (hclos : closureFor scope env = pure cl) (hcell : ∀ z ∈ scope.names, z.2 ≠ .cell) (hkind : scope.kind = .function)
    (hnames : ∀ z ∈ scope.names, z.2 = .local → scope.names.lookup z.1 = some .local) (hx : scope.names.lookup x = some .local)
    (hy : env.kindOf y = some .local) (hp : (env.scope.kind == .class || (env.scope.kind == .module && env.locals != env.globals)) = false)
    (h : wpAny (model prog w) A (eval iter env) (SrcTup prog w A h₀ L m env elt x scope cl (fun s₂ => FinA h₀ L m s₂ y Q)) E s)
    (hs : ∀ x, foldedSetIterable iter env x = pure x := by intro _; rfl) :
    wpAny (model prog w) A (exec (.Assign [.Name y py] (.ListComp elt [⟨.Name x px, iter, [], 0⟩] scope pos) spos) env) Q E s := by
  subst hLe
  rw [exec_Assign_Name_used _ _ _ _ hsw]
  refine wpAny_bind (wpAny_standAt (wpAny_bind ?_))
  show wpAny _ A (do let _ ← comprehension (.ListComp elt [⟨.Name x px, iter, [], 0⟩] scope pos) scope env _ (newList []) false (eval iter env) (some (assign (.Name y py) env))) _ _ s
  refine wpAny_bind (wpAny_mono (wpAny_comprehension_free (use := some (assign (.Name y py) env)) (Q := fun _ s' => Q .next s') rfl hs hclos hkind hnames
    (wpAny_mono h (fun xv s₁ h₁ => ?_) fun _ _ e => e)) (fun _ s' hq => wpAny_pure (wpAny_pure hq)) fun _ _ e => e)
  obtain ⟨ax, its, news, rfl, hh, F, N, S, hsz, R⟩ := h₁
  have hl := S.tup N
  have hlt : ax < s₁.heap.objs.size := by obtain ⟨_, e, _⟩ := hl; exact Heap.lt_size e
  refine wpAny_pyIter_tuple hl ?_
  have up : ∀ b o, s₁.heap.get? b = some o → (s₁.heap.push { cls := .type "tuple_iterator", data := .fields #[.ref ax, .int 0 0] }).get? b = some o := fun b o e => Heap.get?_push_of_some _ e
  refine block_U (Walks.tuple hh s₁.heap.objs.size ax (Nat.ne_of_lt hlt) its) hsz (fun i h st => by obtain ⟨o, e, _⟩ := st.1; exact ⟨o, e⟩) tup_st hcell hkind hx ⟨⟨_, Heap.get?_push_size _ rfl, rfl, rfl⟩, hl.push _⟩ (fun b hb => ?_)
    (F.keeps up) (N.grown up) (Nat.ne_of_lt F.ns.lt) (next_is_new F) (fun p hp => Nat.ne_of_lt (Heap.lt_size (N p hp).1)) S (R _ ⟨_, rfl⟩) ?_
  · show b < (s₁.heap.push _).objs.size
    rw [Heap.size_push]
    rcases List.mem_cons.mp hb with rfl | hb
    · exact Nat.lt_succ_self _
    · rw [List.mem_singleton.mp hb]; exact Nat.lt_succ_of_lt hlt
  · intro D C h' tk m' ys news' F' N' o1 hn hC₀ hD₀ hCL hDL hCD offC fin
    show wpAny _ A (assign (.Name y py) env (.ref D)) _ _ _
    refine wpAny_assign_Name (wpAny_storeName_local hy F'.ns (fun h₂ hn₂ hs₂ => ?_) hp)
    have hL₀ : h₀.get? env.locals = none := Heap.get?_none_of_le F'.above
    have F₂ : Fr h₀ env.locals h₂ (fun z => if z = y then some (.ref D) else m z) := ⟨hn₂, fun b o e => hs₂.extBut b o (fun q => by rw [q, hL₀] at e; cases e) (F'.keep b o e), F'.above⟩
    refine ⟨m', hn.sameBut hs₂ hCL, fun h'' hs'' => fin D h'' _ (F₂.change hs'' hCL hC₀) (fun p hp => ?_) o1⟩
    have z : h₂.get? p.1 = some p.2 := hs₂.extBut _ _ (N' p hp).2.1 (N' p hp).1
    refine ⟨hs''.extBut _ _ ?_ z, (N' p hp).2⟩
    rcases List.mem_cons.mp hp with rfl | hp
    · exact Ne.symm hCD
    · exact offC p hp
end

end
section
theorem lnT2_0 : True := by
  k_with_none
  trivial
/-! one walk for both turns of a comprehension -/
/-- the end of a read within the comprehension -/
def End1 (s : Shared) (h₀ : Heap) (L : Addr) (m : Str → Option Value) (VV : Value → Addr → Obj → Prop) (led : List (Addr × Obj)) (dx : Addr × Obj) (y : Value) (s' : Shared) : Prop :=
  ∃ h' tk' q o, s' = { s with heap := h', toks := tk' } ∧ VV y q o ∧ Fr h₀ L h' m ∧ News h₀ L h' ((q, o) :: led) ∧ ((∀ p ∈ led, p.1 < q) ∨ (q, o) = dx)
theorem End1.intro {s : Shared} {h₀ : Heap} {L : Addr} {m : Str → Option Value} {VV : Value → Addr → Obj → Prop} {led : List (Addr × Obj)} {dx : Addr × Obj} {y : Value} {h' : Heap} {tk' : Nat} {q : Addr} {o : Obj} (F : Fr h₀ L h' m) (N : News h₀ L h' ((q, o) :: led)) (hV : VV y q o) (hq : (∀ p ∈ led, p.1 < q) ∨ (q, o) = dx) : End1 s h₀ L m VV led dx y { s with heap := h', toks := tk' } := ⟨h', tk', q, o, rfl, hV, F, N, hq⟩
/-- the end of a test that comes out False, the ledger as it was -/
def End2 (s : Shared) (h₀ : Heap) (L : Addr) (m : Str → Option Value) (led : List (Addr × Obj)) (c : Bool) (s' : Shared) : Prop :=
  c = false ∧ ∃ h' tk', s' = { s with heap := h', toks := tk' } ∧ Fr h₀ L h' m ∧ News h₀ L h' led
theorem End2.intro {s : Shared} {h₀ : Heap} {L : Addr} {m : Str → Option Value} {led led' : List (Addr × Obj)} {c : Bool} {h' : Heap} {tk' : Nat} (hc : c = false) (F : Fr h₀ L h' m) (N : News h₀ L h' led') (hs : ∀ p ∈ led, p ∈ led') : End2 s h₀ L m led c { s with heap := h', toks := tk' } := ⟨hc, h', tk', rfl, F, fun p hp => N p (hs p hp)⟩
section
open PyProof.Rows.LCg
variable {prog : Program} {w : World} {A : Around} {E : Value → Shared → Prop} {s : Shared} {h₀ : Heap} {L : Addr} {m : Str → Option Value} {env : Env} {elt ct : Expr} {x : Str} {scope : Scope} {cl : List (Str × Addr)} {S : List (Addr × Obj) → Prop} {Fin : List Value → List (Addr × Obj) → Prop} {led : List (Addr × Obj)}
theorem Off3.cons {I C D : Addr} {p : Addr × Obj} {l : List (Addr × Obj)} (h : p.1 ≠ I ∧ p.1 ≠ C ∧ p.1 ≠ D) (hl : Off3 I C D l) : Off3 I C D (p :: l) := ⟨h, hl⟩
theorem rest2 {dx : Addr × Obj} {VV : Value → Addr → Obj → Prop} (hdx : dx ∈ led) (hS : ∀ l', (∀ p ∈ led, p ∈ l') → S l')
    (turn : ∀ (b : Bool) (e : Addr × Obj) I oI C oC D m₂ ys h tk (E' : Value → Shared → Prop), NsObj oC m₂ → m₂ x = some (.bool b) → Fr h₀ L h m → News h₀ L h ((I, oI) :: (C, oC) :: (D, lst ys) :: e :: led) → Off3 I C D (e :: led) → ((@Ne Nat I C) ∧ (@Ne Nat I D) ∧ (@Ne Nat C D)) →
      wpAny (model prog w) A (eval elt (compEnvC scope cl C env)) (End1 s h₀ L m VV ((I, oI) :: (C, oC) :: (D, lst ys) :: e :: led) dx) E' { s with heap := h, toks := tk })
    (fin : ∀ va qa oa vb qb ob, VV va qa oa → VV vb qb ob → Fin [va, vb] ((qb, ob) :: (qa, oa) :: led)) :
    CompRest prog w A h₀ L m env elt x scope cl s S (fun i v => (#[Value.bool false, Value.bool true] : Array Value)[i]? = some v) Fin 2 0 [] led := by
  have newOff : ∀ {I C D : Addr} {oI oC : Obj} {ys : List Value} {e : Addr × Obj} {q : Addr} {o : Obj}, Off3 I C D (e :: led) → ((∀ p ∈ (I, oI) :: (C, oC) :: (D, lst ys) :: e :: led, p.1 < q) ∨ (q, o) = dx) → q ≠ I ∧ q ≠ C ∧ q ≠ D := by
    intro I C D oI oC ys e q o off h
    rcases h with h | h
    · exact ⟨Nat.ne_of_gt (h (I, oI) (.head _)), Nat.ne_of_gt (h (C, oC) (.tail _ (.head _))), Nat.ne_of_gt (h (D, lst ys) (.tail _ (.tail _ (.head _))))⟩
    · have := off.mem dx (.tail _ hdx)
      rw [← h] at this
      exact this
  refine CompRest.succ ?_
  intro v I oI C oC D m₂ h tk E' hv hC hx F N off ne
  have hv' : v = .bool false := by simpa using hv.symm
  subst hv'
  have off' : Off3 I C D (dx :: led) := ⟨off.mem dx hdx, off⟩
  refine wpAny_mono (turn false dx I oI C oC D m₂ [] h tk E' hC hx F (fun p hp => N p ?_) off' ne) (fun y s₂ hq => ?_) fun _ _ e => e
  · rcases List.mem_cons.mp hp with h | hp
    · exact h ▸ .head _
    rcases List.mem_cons.mp hp with h | hp
    · exact h ▸ .tail _ (.head _)
    rcases List.mem_cons.mp hp with h | hp
    · exact h ▸ .tail _ (.tail _ (.head _))
    rcases List.mem_cons.mp hp with h | hp
    · exact h ▸ .tail _ (.tail _ (.tail _ hdx))
    · exact .tail _ (.tail _ (.tail _ hp))
  obtain ⟨h', tk', q, o, rfl, hV, F', N', hq⟩ := hq
  refine ⟨h', tk', (q, o) :: led, rfl, F', fun p hp => N' p ?_, ⟨newOff off' hq, off⟩, hS _ (fun p hp => .tail _ hp), ?_⟩
  · rcases List.mem_cons.mp hp with h | hp
    · exact h ▸ .tail _ (.head _)
    rcases List.mem_cons.mp hp with h | hp
    · exact h ▸ .tail _ (.tail _ (.head _))
    rcases List.mem_cons.mp hp with h | hp
    · exact h ▸ .tail _ (.tail _ (.tail _ (.head _)))
    rcases List.mem_cons.mp hp with h | hp
    · exact h ▸ .head _
    · exact .tail _ (.tail _ (.tail _ (.tail _ (.tail _ hp))))
  refine CompRest.succ ?_
  intro v I oI C oC D m₂ h tk E' hv hC hx F N off ne
  have hv' : v = .bool true := by simpa using hv.symm
  subst hv'
  refine wpAny_mono (turn true (q, o) I oI C oC D m₂ [y] h tk E' hC hx F N off ne) (fun y2 s₂ hq => ?_) fun _ _ e => e
  obtain ⟨h', tk', q2, o2, rfl, hV2, F', N', hq⟩ := hq
  refine ⟨h', tk', (q2, o2) :: (q, o) :: led, rfl, F', fun p hp => N' p ?_, ⟨newOff off hq, off⟩, hS _ (fun p hp => .tail _ (.tail _ hp)), CompRest.zero (fin _ _ _ _ _ _ hV hV2)⟩
  rcases List.mem_cons.mp hp with h | hp
  · exact h ▸ .tail _ (.head _)
  rcases List.mem_cons.mp hp with h | hp
  · exact h ▸ .tail _ (.tail _ (.head _))
  rcases List.mem_cons.mp hp with h | hp
  · exact h ▸ .tail _ (.tail _ (.tail _ (.head _)))
  rcases List.mem_cons.mp hp with h | hp
  · exact h ▸ .head _
  · exact .tail _ (.tail _ (.tail _ (.tail _ hp)))
theorem rest2T {va vb : Value} (hS : S led)
    (turn : ∀ v I oI C oC D m₂ ys h tk (E' : Value → Shared → Prop), (v = va ∨ v = vb) → NsObj oC m₂ → m₂ x = some v → Fr h₀ L h m → News h₀ L h ((I, oI) :: (C, oC) :: (D, lst ys) :: led) → Off3 I C D led → ((@Ne Nat I C) ∧ (@Ne Nat I D) ∧ (@Ne Nat C D)) →
      wpAny (model prog w) A (isTrue ct (compEnvC scope cl C env) (eval ct (compEnvC scope cl C env))) (End2 s h₀ L m ((I, oI) :: (C, oC) :: (D, lst ys) :: led)) E' { s with heap := h, toks := tk })
    (fin : Fin [] led) :
    LCt.CompRestT prog w A h₀ L m env ct elt x scope cl s S (fun i v => (#[va, vb] : Array Value)[i]? = some v) Fin 2 0 [] led := by
  have one : ∀ (k i : Nat) (v0 : Value) , (v0 = va ∨ v0 = vb) → (∀ v, (#[va, vb] : Array Value)[i]? = some v → v = v0) → LCt.CompRestT prog w A h₀ L m env ct elt x scope cl s S (fun i v => (#[va, vb] : Array Value)[i]? = some v) Fin k (i + 1) [] led →
      LCt.CompRestT prog w A h₀ L m env ct elt x scope cl s S (fun i v => (#[va, vb] : Array Value)[i]? = some v) Fin (k + 1) i [] led := by
    intro k i v0 h0 hi R
    refine LCt.CompRestT.succ ?_
    intro v I oI C oC D m₂ h tk E' hv hC hx F N off ne
    have hv' := hi v hv
    subst hv'
    refine wpAny_mono (turn v I oI C oC D m₂ [] h tk E' h0 hC hx F N off ne) (fun ok s₂ hq => ?_) fun _ _ e => e
    obtain ⟨rfl, h', tk', rfl, F', N'⟩ := hq
    rw [if_neg (by decide)]
    exact ⟨h', tk', led, rfl, F', N', off, hS, R⟩
  exact one 1 0 va (.inl rfl) (by simp) (one 0 1 vb (.inr rfl) (by simp) (LCt.CompRestT.zero fin))
end
def JoinMark : Prop := True
/-- a test that comes out False on every way, its ways joined -/
theorem join_false {M : Model} {A : Around} {t : Sem Bool} {Q : Bool → Shared → Prop} {E : Value → Shared → Prop} {s : Shared} {h₀ : Heap} {L : Addr} {m : Str → Option Value} {led : List (Addr × Obj)} (_ : Fr h₀ L s.heap m) (_ : News h₀ L s.heap led)
    (h1 : JoinMark → wpAny M A t (End2 s h₀ L m led) E s)
    (h2 : ∀ h' tk', Fr h₀ L h' m → News h₀ L h' led → Q false { s with heap := h', toks := tk' }) : wpAny M A t Q E s :=
  wpAny_mono (h1 trivial) (fun c s' h => by obtain ⟨rfl, h', tk', rfl, F, N⟩ := h; exact h2 h' tk' F N) fun _ _ e => e
def DOk (d : PyData) : Prop := PyData.eqv d d = true ∧ PySem.SeqAt.shaped d = true ∧ PyData.eqv (.list [d, d]) (.list [d, d]) = true ∧ PySem.SeqAt.shaped (.list [d, d]) = true
theorem dok_int (n : Int) : DOk (.int n) := ⟨by simp [PyData.eqv], rfl, by simp [PyData.eqv, PyData.eqvAll], rfl⟩
theorem dok_bool (b : Bool) : DOk (.bool b) := ⟨by cases b <;> rfl, rfl, by cases b <;> rfl, rfl⟩
theorem dok_tup (m e : Int) : DOk (.tuple [.int m, .int e]) := ⟨by simp [PyData.eqv, PyData.eqvAll], rfl, by simp [PyData.eqv, PyData.eqvAll], rfl⟩
theorem cmp_eq {prog : Program} {w : World} {A : Around} {E : Value → Shared → Prop} {s : Shared} {Q : Value → Shared → Prop} {v v' : Value} {d : PyData} (ra : ∃ as, Reads s.heap v d as) (rb : ∃ as, Reads s.heap v' d as) (hd : DOk d) (hu : A.units + 64 < cLine) (h : Q (.bool true) s) : wpAny (model prog w) A (compareOp .Eq v v') Q E s := by
  obtain ⟨a, ra⟩ := ra
  obtain ⟨b, rb⟩ := rb
  exact eq_dataH ra rb hd.2.1 hd.2.1 hu (by rw [hd.1]; exact h)
theorem cmp_back {prog : Program} {w : World} {A : Around} {E : Value → Shared → Prop} {s : Shared} {Q : Value → Shared → Prop} {h₀ : Heap} {L D l : Addr} {led : List (Addr × Obj)} {va vb v : Value} {d : PyData} (N : News h₀ L s.heap led) (hD : (D, LCg.lst [va, vb]) ∈ led) (hl : (l, W.listOf #[v, v] 0) ∈ led)
    (ra : ∃ as, Reads s.heap va d as) (rb : ∃ as, Reads s.heap vb d as) (rv : ∃ as, Reads s.heap v d as) (hd : DOk d) (hu : A.units + 64 < cLine) (h : Q (.bool false) s) : wpAny (model prog w) A (compareOp .NotEq (.ref D) (.ref l)) Q E s := by
  obtain ⟨a, ra⟩ := ra
  obtain ⟨b, rb⟩ := rb
  obtain ⟨c, rv⟩ := rv
  refine ne_dataH (reads_list_at (News.get N hD) rfl rfl (ReadsAll.cons ra (ReadsAll.cons rb ReadsAll.nil))) (reads_list_at (News.get N hl) rfl rfl (ReadsAll.cons rv (ReadsAll.cons rv ReadsAll.nil))) hd.2.2.2 hd.2.2.2 hu ?_
  rw [hd.2.2.1]; exact h
/-! new addresses lie above the frame's cells -/
def Ab (c X : Nat) : Prop := c < X
theorem ab_of {c X : Nat} {o : Obj} {l : List (Addr × Obj)} (h : ∀ p ∈ l, p.1 < X) (hm : (c + 1 + 1 + 1 + 1 + 1 + 1 + 1, o) ∈ l) : Ab (c + 1 + 1 + 1 + 1 + 1 + 1 + 1) X := h _ hm
theorem ab0 {c X : Nat} (h : Ab c X) : c < X := h
theorem ab1 {c X : Nat} (h : Ab (c + 1) X) : c < X := Nat.lt_of_succ_lt h
theorem ab2 {c X : Nat} (h : Ab (c + 1 + 1) X) : c < X := ab1 (ab1 h)
theorem ab3 {c X : Nat} (h : Ab (c + 1 + 1 + 1) X) : c < X := ab2 (ab1 h)
theorem ab4 {c X : Nat} (h : Ab (c + 1 + 1 + 1 + 1) X) : c < X := ab3 (ab1 h)
theorem ab5 {c X : Nat} (h : Ab (c + 1 + 1 + 1 + 1 + 1) X) : c < X := ab4 (ab1 h)
theorem ab6 {c X : Nat} (h : Ab (c + 1 + 1 + 1 + 1 + 1 + 1) X) : c < X := ab5 (ab1 h)
theorem ab7 {p c X : Nat} (hp : p < c) (h : Ab (c + 1 + 1 + 1 + 1 + 1 + 1 + 1) X) : p < X := Nat.lt_trans hp (ab6 (ab1 h))
theorem up1 {p c : Nat} (h : p < c) : p < c + 1 := Nat.lt_succ_of_lt h
theorem up2 {p c : Nat} (h : p < c) : p < c + 1 + 1 := up1 (up1 h)
theorem up3 {p c : Nat} (h : p < c) : p < c + 1 + 1 + 1 := up1 (up2 h)
theorem up4 {p c : Nat} (h : p < c) : p < c + 1 + 1 + 1 + 1 := up1 (up3 h)
theorem up5 {p c : Nat} (h : p < c) : p < c + 1 + 1 + 1 + 1 + 1 := up1 (up4 h)
theorem up6 {p c : Nat} (h : p < c) : p < c + 1 + 1 + 1 + 1 + 1 + 1 := up1 (up5 h)
theorem up7 {p c : Nat} (h : p < c) : p < c + 1 + 1 + 1 + 1 + 1 + 1 + 1 := up1 (up6 h)
theorem cn1 (c : Nat) : c < c + 1 := Nat.lt_succ_self c
theorem cn2 (c : Nat) : c < c + 1 + 1 := up1 (cn1 c)
theorem cn3 (c : Nat) : c < c + 1 + 1 + 1 := up1 (cn2 c)
theorem cn4 (c : Nat) : c < c + 1 + 1 + 1 + 1 := up1 (cn3 c)
theorem cn5 (c : Nat) : c < c + 1 + 1 + 1 + 1 + 1 := up1 (cn4 c)
theorem cn6 (c : Nat) : c < c + 1 + 1 + 1 + 1 + 1 + 1 := up1 (cn5 c)

end
section
theorem lnC19_1 : True := by
  k_with_none
  k_with "omega" => ((try clear hret); (try clear hk); (try clear hd); (try clear hu); first | lia | omega +splitDisjunctions)
  trivial
theorem lnC19_2 : True := by
  k_with "execs cons" => ((with_reducible refine wpAny_execs_cons ?_); try dsimp only)
  k_with "execs nil" => refine wpAny_execs_nil ?_
  trivial

/-- a call that draws: new objects on the ledger, the pouch further on -/
abbrev RetN (news : List (Addr × Obj)) (nx : Int → Tok → List (Addr × Obj)) (G : Value → List (Addr × Obj) → Int → Prop) (h₀ : Heap) (L : Addr) (m : Str → Option Value) (s : Shared) (Q : Value → Shared → Prop) : Prop :=
  ∀ (v : Value) (new : List (Addr × Obj)) (k1 : Int) (t3 : Tok) (h' : Heap) (tk' : Nat), G v new k1 → (∀ q ∈ new, ∀ p ∈ news, p.1 < q.1) → Fr h₀ L h' m → News h₀ L h' (new ++ nx k1 t3) → Q v { s with heap := h', toks := tk' }
abbrev RetP0 (pa ra : Addr) (ws : List Value) (rest : List (Addr × Obj)) (G : Value → List (Addr × Obj) → Int → Prop) (h₀ : Heap) (L : Addr) (m : Str → Option Value) (s : Shared) (Q : Value → Shared → Prop) : Prop :=
  ∀ (v : Value) (new : List (Addr × Obj)) (k1 : Int) (t3 : Tok) (h' : Heap) (tk' : Nat), G v new k1 → (∀ q ∈ new, @LT.lt Nat _ pa q.1 ∧ ∀ p ∈ rest, p.1 < q.1) → Fr h₀ L h' m → News h₀ L h' (new ++ (pa, pouO ra k1 t3) :: (ra, rowO ws) :: rest) → Q v { s with heap := h', toks := tk' }
theorem c_over {w : World} {mg mb p loose mean} {pa ra : Addr} {ws : List Value} {ns : List Int} {news : List (Addr × Obj)} {nx : Int → Tok → List (Addr × Obj)} {k : Int} {t0 : Tok} {d : Nat} {f : Addr} {vs : List Value} {G : Value → List (Addr × Obj) → Int → Prop}
    (hI : IntsAre ws ns) (hU : ∀ k1 t1, Upd pa (pouO ra k t0) (pouO ra k1 t1) news (nx k1 t1)) (hr : (ra, rowO ws) ∈ news)
    (base : ∀ rest, ra ≠ pa → (∀ p ∈ rest, p.1 ≠ pa) → Ct w mg mb p loose mean d f vs ((pa, pouO ra k t0) :: (ra, rowO ws) :: rest) (RetP0 pa ra ws rest G)) :
    Ct w mg mb p loose mean d f vs news (RetN news nx G) := by
  obtain ⟨pre, post, e1, e2, ha, hb⟩ := upd_split (hU 0 0)
  subst e1
  have hne : ∀ p ∈ pre ++ post, p.1 ≠ pa := fun p hp => (List.mem_append.mp hp).elim (ha p) (hb p)
  have hra : (ra, rowO ws) ∈ pre ++ post := by
    rcases List.mem_append.mp hr with h | h
    · exact List.mem_append_left _ h
    · rcases List.mem_cons.mp h with h | h
      · exfalso
        have h2 := congrArg (fun o : Addr × Obj => o.2.data) h
        have h3 := congrArg (fun d : Data => match d with | .seq v _ => v.toList | _ => []) h2
        have h4 : ws = [.ref ra, .int k t0] := by simpa using h3
        subst h4
        cases hI
      · exact List.mem_append_right _ h
  have hnp : ra ≠ pa := hne _ hra
  intro dp un gd cn cz a ccd cl outer A₀ base₀ h₀ L m s Q E B F X N T hk hd hu hret
  refine base (pre ++ post) hnp hne dp un gd cn cz a ccd cl outer A₀ base₀ h₀ L m s Q E B F X (cb_drop N ?_) T hk hd hu ?_
  · intro p hp
    rcases List.mem_cons.mp hp with rfl | hp
    · simp
    rcases List.mem_cons.mp hp with rfl | hp
    · exact hr
    · rcases List.mem_append.mp hp with h | h
      · exact List.mem_append_left _ h
      · exact List.mem_append_right _ (.tail _ h)
  · intro v new k1 t3 h' tk' hG hl F' N'
    obtain ⟨pre', post', e3, e4, ha', hb'⟩ := upd_split (hU k1 t3)
    have back : ∀ p ∈ pre ++ (pa, pouO ra k t0) :: post, p.1 ≠ pa → p ∈ pre ++ post := fun p hp hn => by
      rcases List.mem_append.mp hp with h | h
      · exact List.mem_append_left _ h
      · rcases List.mem_cons.mp h with rfl | h
        · exact absurd rfl hn
        · exact List.mem_append_right _ h
    refine hret v new k1 t3 h' tk' hG (fun q hq p hp => ?_) F' (cb_drop N' ?_)
    · rcases List.mem_append.mp hp with h | h
      · exact (hl q hq).2 p (List.mem_append_left _ h)
      · rcases List.mem_cons.mp h with rfl | h
        · exact (hl q hq).1
        · exact (hl q hq).2 p (List.mem_append_right _ h)
    · intro p hp
      rcases List.mem_append.mp hp with hp | hp
      · exact List.mem_append_left _ hp
      refine List.mem_append_right _ ?_
      rw [e4] at hp
      rcases List.mem_append.mp hp with h | h
      · exact .tail _ (.tail _ (back p (by rw [e3]; exact List.mem_append_left _ h) (ha' p h)))
      · rcases List.mem_cons.mp h with rfl | h
        · exact .head _
        · exact .tail _ (.tail _ (back p (by rw [e3]; exact List.mem_append_right _ (.tail _ h)) (hb' p h)))
theorem Ct_mono {w : World} {mg mb p loose mean} {d : Nat} {f : Addr} {vs : List Value} {news : List (Addr × Obj)} {R R' : Heap → Addr → (Str → Option Value) → Shared → (Value → Shared → Prop) → Prop} (h : Ct w mg mb p loose mean d f vs news R) (hR : ∀ h₀ L m s Q, R' h₀ L m s Q → R h₀ L m s Q) : Ct w mg mb p loose mean d f vs news R' :=
  fun dp un gd cn cz a ccd cl outer A₀ base₀ h₀ L m s Q E B F X N T hk hd hu hret => h dp un gd cn cz a ccd cl outer A₀ base₀ h₀ L m s Q E B F X N T hk hd hu (hR _ _ _ _ _ hret)
theorem one_new {pa it : Addr} {o : Obj} {rest : List (Addr × Obj)} (h1 : @LT.lt Nat _ pa it) (h2 : ∀ p ∈ rest, p.1 < it) : ∀ q ∈ [(it, o)], @LT.lt Nat _ pa q.1 ∧ ∀ p ∈ rest, p.1 < q.1 := by
  intro q hq; rw [List.mem_singleton.mp hq]; exact ⟨h1, h2⟩
theorem two_new {pa it it2 : Addr} {o o2 : Obj} {rest : List (Addr × Obj)} (h1 : @LT.lt Nat _ pa it) (h2 : ∀ p ∈ rest, p.1 < it) (h3 : @LT.lt Nat _ pa it2) (h4 : ∀ p ∈ rest, p.1 < it2) : ∀ q ∈ [(it, o), (it2, o2)], @LT.lt Nat _ pa q.1 ∧ ∀ p ∈ rest, p.1 < q.1 := by
  intro q hq
  rcases List.mem_cons.mp hq with rfl | hq
  · exact ⟨h1, h2⟩
  · rw [List.mem_singleton.mp hq]; exact ⟨h3, h4⟩
theorem o_item_I {w : World} {mg mb p loose mean} {pa ra : Addr} {ws : List Value} {ns : List Int} {news : List (Addr × Obj)} {nx : Int → Tok → List (Addr × Obj)} {k : Int} {t0 u : Tok} (hI : IntsAre ws ns) (hlen : ns.length ≤ 60) (hU : ∀ k1 t1, Upd pa (pouO ra k t0) (pouO ra k1 t1) news (nx k1 t1)) (hr : (ra, rowO ws) ∈ news) (hk0 : 0 ≤ k) (hk1 : k ≤ 999900) : Ct w mg mb p loose mean 2 361 [.ref pa, .str (Str.ofString "I") u] news (RetN news nx (fun v new k1 => k ≤ k1 ∧ k1 ≤ k + 3 ∧ ∃ (it : Addr) (n : Int) (lv : Value) (t1 t2 t4 : Tok), v = .ref it ∧ new = [(it, tupO #[.str (Str.ofString "I") t1, .int n t2, lv])] ∧ 3 ≤ n ∧ n ≤ 15 ∧ LeastOk lv)) :=
  c_over hI hU hr fun rest hra hne => Ct_mono (c_law_item_I hI hlen hk0 hk1 hra hne) fun h₀ L m s Q hret it n k1 lv t1 t2 t3 t4 h' tk' c1 c2 c3 hb1 hb2 hl1 hl2 F N =>
    hret _ [_] k1 t3 h' tk' ⟨hb1, hb2, it, n, lv, t1, t2, t4, rfl, rfl, c1, c2, c3⟩ (one_new hl1 hl2) F N
theorem o_item_F {w : World} {mg mb p loose mean} {pa ra : Addr} {ws : List Value} {ns : List Int} {news : List (Addr × Obj)} {nx : Int → Tok → List (Addr × Obj)} {k : Int} {t0 u : Tok} (hI : IntsAre ws ns) (hlen : ns.length ≤ 60) (hU : ∀ k1 t1, Upd pa (pouO ra k t0) (pouO ra k1 t1) news (nx k1 t1)) (hr : (ra, rowO ws) ∈ news) (hk0 : 0 ≤ k) (hk1 : k ≤ 999900) : Ct w mg mb p loose mean 2 361 [.ref pa, .str (Str.ofString "F") u] news (RetN news nx (fun v new k1 => k ≤ k1 ∧ k1 ≤ k + 3 ∧ ∃ (it : Addr) (n d : Int) (t1 t2 t4 : Tok), v = .ref it ∧ new = [(it, tupO #[.str (Str.ofString "F") t1, .int n t2, .int d t4])] ∧ 6 ≤ n ∧ n ≤ 18 ∧ 0 ≤ d ∧ d ≤ 5)) :=
  c_over hI hU hr fun rest hra hne => Ct_mono (c_law_item_F hI hlen hk0 hk1 hra hne) fun h₀ L m s Q hret it n k1 d t1 t2 t3 t4 h' tk' c1 c2 c3 c4 hb1 hb2 hl1 hl2 F N =>
    hret _ [_] k1 t3 h' tk' ⟨hb1, hb2, it, n, d, t1, t2, t4, rfl, rfl, c1, c2, c3, c4⟩ (one_new hl1 hl2) F N
theorem o_item_D {w : World} {mg mb p loose mean} {pa ra : Addr} {ws : List Value} {ns : List Int} {news : List (Addr × Obj)} {nx : Int → Tok → List (Addr × Obj)} {k : Int} {t0 u : Tok} (hI : IntsAre ws ns) (hlen : ns.length ≤ 60) (hU : ∀ k1 t1, Upd pa (pouO ra k t0) (pouO ra k1 t1) news (nx k1 t1)) (hr : (ra, rowO ws) ∈ news) (hk0 : 0 ≤ k) (hk1 : k ≤ 999900) : Ct w mg mb p loose mean 2 361 [.ref pa, .str (Str.ofString "D") u] news (RetN news nx (fun v new k1 => k ≤ k1 ∧ k1 ≤ k + 3 ∧ ∃ (it : Addr) (n d : Int) (t1 t2 t4 : Tok), v = .ref it ∧ new = [(it, tupO #[.str (Str.ofString "D") t1, .int n t2, .int d t4])] ∧ 6 ≤ n ∧ n ≤ 18 ∧ 2 ≤ d ∧ d ≤ 7)) :=
  c_over hI hU hr fun rest hra hne => Ct_mono (c_law_item_D hI hlen hk0 hk1 hra hne) fun h₀ L m s Q hret it n k1 d t1 t2 t3 t4 h' tk' c1 c2 c3 c4 hb1 hb2 hl1 hl2 F N =>
    hret _ [_] k1 t3 h' tk' ⟨hb1, hb2, it, n, d, t1, t2, t4, rfl, rfl, c1, c2, c3, c4⟩ (one_new hl1 hl2) F N
theorem o_item_E {w : World} {mg mb p loose mean} {pa ra : Addr} {ws : List Value} {ns : List Int} {news : List (Addr × Obj)} {nx : Int → Tok → List (Addr × Obj)} {k : Int} {t0 u : Tok} (hI : IntsAre ws ns) (hlen : ns.length ≤ 60) (hU : ∀ k1 t1, Upd pa (pouO ra k t0) (pouO ra k1 t1) news (nx k1 t1)) (hr : (ra, rowO ws) ∈ news) (hk0 : 0 ≤ k) (hk1 : k ≤ 999900) : Ct w mg mb p loose mean 2 361 [.ref pa, .str (Str.ofString "E") u] news (RetN news nx (fun v new k1 => k ≤ k1 ∧ k1 ≤ k + 3 ∧ ∃ (it : Addr) (n d : Int) (sv : Value) (t1 t2 t4 : Tok), v = .ref it ∧ new = [(it, tupO #[.str (Str.ofString "E") t1, .int n t2, .int d t4, sv])] ∧ 6 ≤ n ∧ n ≤ 18 ∧ 2 ≤ d ∧ d ≤ 7 ∧ SizeOk sv)) :=
  c_over hI hU hr fun rest hra hne => Ct_mono (c_law_item_E hI hlen hk0 hk1 hra hne) fun h₀ L m s Q hret it n k1 d sv t1 t2 t3 t4 h' tk' c1 c2 c3 c4 c5 hb1 hb2 hl1 hl2 F N =>
    hret _ [_] k1 t3 h' tk' ⟨hb1, hb2, it, n, d, sv, t1, t2, t4, rfl, rfl, c1, c2, c3, c4, c5⟩ (one_new hl1 hl2) F N
theorem o_item_L {w : World} {mg mb p loose mean} {pa ra : Addr} {ws : List Value} {ns : List Int} {news : List (Addr × Obj)} {nx : Int → Tok → List (Addr × Obj)} {k : Int} {t0 u : Tok} (hI : IntsAre ws ns) (hlen : ns.length ≤ 60) (hU : ∀ k1 t1, Upd pa (pouO ra k t0) (pouO ra k1 t1) news (nx k1 t1)) (hr : (ra, rowO ws) ∈ news) (hk0 : 0 ≤ k) (hk1 : k ≤ 999900) : Ct w mg mb p loose mean 2 361 [.ref pa, .str (Str.ofString "L") u] news (RetN news nx (fun v new k1 => k ≤ k1 ∧ k1 ≤ k + 3 ∧ ∃ (it : Addr) (n : Int) (t1 t2 t4 : Tok), v = .ref it ∧ new = [(it, tupO #[.str (Str.ofString "L") t1, .int n t2])] ∧ 1 ≤ n ∧ n ≤ 13)) :=
  c_over hI hU hr fun rest hra hne => Ct_mono (c_law_item_L hI hlen hk0 hk1 hra hne) fun h₀ L m s Q hret it n k1 t1 t2 t3 t4 h' tk' c1 c2 hb1 hb2 hl1 hl2 F N =>
    hret _ [_] k1 t3 h' tk' ⟨hb1, hb2, it, n, t1, t2, t4, rfl, rfl, c1, c2⟩ (one_new hl1 hl2) F N
theorem o_item_A {w : World} {mg mb p loose mean} {pa ra : Addr} {ws : List Value} {ns : List Int} {news : List (Addr × Obj)} {nx : Int → Tok → List (Addr × Obj)} {k : Int} {t0 u : Tok} (hI : IntsAre ws ns) (hlen : ns.length ≤ 60) (hU : ∀ k1 t1, Upd pa (pouO ra k t0) (pouO ra k1 t1) news (nx k1 t1)) (hr : (ra, rowO ws) ∈ news) (hk0 : 0 ≤ k) (hk1 : k ≤ 999900) : Ct w mg mb p loose mean 2 361 [.ref pa, .str (Str.ofString "A") u] news (RetN news nx (fun v new k1 => k ≤ k1 ∧ k1 ≤ k + 3 ∧ ∃ (it : Addr) (wv : Value) (t1 t2 t4 : Tok), v = .ref it ∧ new = [(it, tupO #[.str (Str.ofString "A") t1, wv])] ∧ (wv = .none ∨ ∃ i t, wv = .int i t ∧ 1 ≤ i ∧ i ≤ 13))) :=
  c_over hI hU hr fun rest hra hne => Ct_mono (c_law_item_A hI hlen hk0 hk1 hra hne) fun h₀ L m s Q hret it k1 wv t1 t2 t3 t4 h' tk' c1 hb1 hb2 hl1 hl2 F N =>
    hret _ [_] k1 t3 h' tk' ⟨hb1, hb2, it, wv, t1, t2, t4, rfl, rfl, c1⟩ (one_new hl1 hl2) F N
theorem o_value_I {w : World} {mg mb p loose mean} {pa ra : Addr} {ws : List Value} {ns : List Int} {news : List (Addr × Obj)} {nx : Int → Tok → List (Addr × Obj)} {k : Int} {t0 u : Tok} (hI : IntsAre ws ns) (hlen : ns.length ≤ 60) (hU : ∀ k1 t1, Upd pa (pouO ra k t0) (pouO ra k1 t1) news (nx k1 t1)) (hr : (ra, rowO ws) ∈ news) (hk0 : 0 ≤ k) (hk1 : k ≤ 999900) : Ct w mg mb p loose mean 4 366 [.ref pa, .str (Str.ofString "I") u] news (RetN news nx (fun v new k1 => k ≤ k1 ∧ k1 ≤ k + 10 ∧ ∃ (vt : Addr) (v0 : Int) (t1 t2 t4 : Tok), v = .ref vt ∧ new = [(vt, tupO #[.int 0 t1, .int v0 t2, .int 0 t4])] ∧ v0.natAbs ≤ 1000000)) :=
  c_over hI hU hr fun rest hra hne => Ct_mono (c_law_value_I hI hlen hk0 hk1 hra hne) fun h₀ L m s Q hret vt v0 k1 t1 t2 t3 t4 h' tk' c1 hb1 hb2 hl1 hl2 F N =>
    hret _ [_] k1 t3 h' tk' ⟨hb1, hb2, vt, v0, t1, t2, t4, rfl, rfl, c1⟩ (one_new hl1 hl2) F N
theorem o_value_L {w : World} {mg mb p loose mean} {pa ra : Addr} {ws : List Value} {ns : List Int} {news : List (Addr × Obj)} {nx : Int → Tok → List (Addr × Obj)} {k : Int} {t0 u : Tok} (hI : IntsAre ws ns) (hlen : ns.length ≤ 60) (hU : ∀ k1 t1, Upd pa (pouO ra k t0) (pouO ra k1 t1) news (nx k1 t1)) (hr : (ra, rowO ws) ∈ news) (hk0 : 0 ≤ k) (hk1 : k ≤ 999900) : Ct w mg mb p loose mean 4 366 [.ref pa, .str (Str.ofString "L") u] news (RetN news nx (fun v new k1 => k ≤ k1 ∧ k1 ≤ k + 10 ∧ ∃ (vt : Addr) (b9 : Bool) (t1 t2 t4 : Tok), v = .ref vt ∧ new = [(vt, tupO #[.int 4 t1, .bool b9, .int 0 t4])])) :=
  c_over hI hU hr fun rest hra hne => Ct_mono (c_law_value_L hI hlen hk0 hk1 hra hne) fun h₀ L m s Q hret vt b9 k1 t1 t2 t3 t4 h' tk'  hb1 hb2 hl1 hl2 F N =>
    hret _ [_] k1 t3 h' tk' ⟨hb1, hb2, vt, b9, t1, t2, t4, rfl, rfl⟩ (one_new hl1 hl2) F N
theorem o_value_A {w : World} {mg mb p loose mean} {pa ra : Addr} {ws : List Value} {ns : List Int} {news : List (Addr × Obj)} {nx : Int → Tok → List (Addr × Obj)} {k : Int} {t0 u : Tok} (hI : IntsAre ws ns) (hlen : ns.length ≤ 60) (hU : ∀ k1 t1, Upd pa (pouO ra k t0) (pouO ra k1 t1) news (nx k1 t1)) (hr : (ra, rowO ws) ∈ news) (hk0 : 0 ≤ k) (hk1 : k ≤ 999900) : Ct w mg mb p loose mean 4 366 [.ref pa, .str (Str.ofString "A") u] news (RetN news nx (fun v new k1 => k ≤ k1 ∧ k1 ≤ k + 10 ∧ ∃ (vt : Addr) (x : Str) (t1 t2 t4 : Tok), v = .ref vt ∧ new = [(vt, tupO #[.int 5 t1, .str x t2, .int (x.length : Int) t4])] ∧ 1 ≤ x.length ∧ x.length ≤ 6 ∧ TxtOk x)) :=
  c_over hI hU hr fun rest hra hne => Ct_mono (c_law_value_A hI hlen hk0 hk1 hra hne) fun h₀ L m s Q hret vt x k1 t1 t2 t3 t4 h' tk' c1 c2 c3 hb1 hb2 hl1 hl2 F N =>
    hret _ [_] k1 t3 h' tk' ⟨hb1, hb2, vt, x, t1, t2, t4, rfl, rfl, c1, c2, c3⟩ (one_new hl1 hl2) F N
theorem o_value_R {w : World} {mg mb p loose mean} {pa ra : Addr} {ws : List Value} {ns : List Int} {news : List (Addr × Obj)} {nx : Int → Tok → List (Addr × Obj)} {k : Int} {t0 u : Tok} {W : Str} (hI : IntsAre ws ns) (hlen : ns.length ≤ 60) (hU : ∀ k1 t1, Upd pa (pouO ra k t0) (pouO ra k1 t1) news (nx k1 t1)) (hr : (ra, rowO ws) ∈ news) (hk0 : 0 ≤ k) (hk1 : k ≤ 999900) (hw1 : (W == Str.ofString "I") = false) (hw2 : (W == Str.ofString "L") = false) (hw3 : (W == Str.ofString "A") = false) : Ct w mg mb p loose mean 4 366 [.ref pa, .str W u] news (RetN news nx (fun v new k1 => k ≤ k1 ∧ k1 ≤ k + 10 ∧ ∃ (vt q : Addr) (kd m e : Int) (t1 t4 : Tok) (more : List (Addr × Obj)), v = .ref vt ∧ new = (vt, tupO #[.int kd t1, .ref q, .int 0 t4]) :: more ∧ (kd = 1 ∨ kd = 2) ∧ GoodV m e ∧ ((q = 85 ∧ m = 0 ∧ e = 0 ∧ more = []) ∨ (∃ t5 t6, more = [(q, tupO #[.int m t5, .int e t6])])))) :=
  c_over hI hU hr fun rest hra hne => Ct_mono (c_law_value_R hI hlen hk0 hk1 hra hne hw1 hw2 hw3) fun h₀ L m s Q hret =>
    ⟨fun vt kd k1 t1 t3 t4 h' tk' c1 hb1 hb2 hl1 hl2 F N => hret _ [_] k1 t3 h' tk' ⟨hb1, hb2, vt, 85, kd, 0, 0, t1, t4, [], rfl, rfl, c1, good_0, .inl ⟨rfl, rfl, rfl, rfl⟩⟩ (one_new hl1 hl2) F N,
     fun vt q kd n x k1 t1 t3 t4 t5 t6 h' tk' c1 c2 c3 c4 c5 hb1 hb2 hl1 hl2 hl3 hl4 F N => hret _ [_, _] k1 t3 h' tk' ⟨hb1, hb2, vt, q, kd, _, _, t1, t4, _, rfl, rfl, c1, good_st c2 c3 c4 c5, .inr ⟨t5, t6, rfl⟩⟩ (two_new hl1 hl3 hl2 hl4) F N⟩

end
section
theorem lnC21_1 : True := by
  k_with_none
  k_with "omega" => ((try clear hret); (try clear hk); (try clear hd); (try clear hu); first | lia | omega +splitDisjunctions)
  trivial
theorem lnC21_2 : True := by
  k_with "execs cons" => ((with_reducible refine wpAny_execs_cons ?_); try dsimp only)
  k_with "execs nil" => refine wpAny_execs_nil ?_
  k_with "call ref" => (k_here; (with_reducible show wpAny _ _ (PySem.call (Value.ref 354) _) _ _ _); (rename News _ _ _ _ => cN9); k_dflt (refine' c_chip (by assumption) (by assumption) (by intro tq9; k_upd) (by k_mem) (by omega) (by omega) (by decide) (by decide) _ _ _ _ _ _ _ _ _ _ _ _ _ _ _ _ _ (by k_asm) (by k_asm) (by k_asm) cN9 (by k_asm) (by first | exact rfl | assumption) (by first | exact room9 (by assumption) (by rfl) | ktr_room) (by first | exact units9 (by assumption) (by rfl) | ktr_units) ?_); intro r9 t9 t91 h9 tk9 hr91 hr92 F9 N9; (try dsimp only at N9); (try dsimp only); (try k_fold))
  k_with "k_all" => assumption
  k_with "k_mem" => assumption
  k_with "subscriptTail" => (k_here; (with_reducible show wpAny _ _ (subscriptTail _ _ (Value.ref _) (Value.int _ _)) _ _ _); k_dflt (refine' item_tupleT (News.isTup (by k_asm) (by k_mem)) (by decide) (by decide) (by rfl) (by rfl) ?_); k_whole)
  trivial

theorem ab_tr {c X Y : Nat} (h : Ab c X) (h2 : X < Y) : Ab c Y := Nat.lt_trans h h2
theorem room64 {un : Nat} (h : un + 8 * 10 < cLine) : un + 3 + 64 < cLine := by omega
theorem ne_self (T : Str) : (T != T) = false := by simp
theorem sub3 {a b : Addr × Obj} {rest l : List (Addr × Obj)} (ha : a ∈ l) (hb : b ∈ l) (hr : ∀ p ∈ rest, p ∈ l) : ∀ p ∈ a :: b :: rest, p ∈ l := by
  intro p hp
  rcases List.mem_cons.mp hp with rfl | hp
  · exact ha
  rcases List.mem_cons.mp hp with rfl | hp
  · exact hb
  · exact hr p hp
theorem sub_tail {x : Addr × Obj} {rest l : List (Addr × Obj)} (hr : ∀ p ∈ rest, p ∈ l) : ∀ p ∈ rest, p ∈ x :: l := fun p hp => .tail _ (hr p hp)
theorem isE_t {b c : Bool} (h : c = !b) (h2 : c = false) : b = true := by cases b <;> simp_all
structure Gen (w : World) (mg mb : Str → Option Value) (p : Program) (loose : List Str) (mean : ExcName → Option Value) (pa ra : Addr) (ws : List Value) (W : Str) (bIL : Bool) (Item : List Value → Int → Prop) (VR : Int → Value → Addr → Obj → Int × Int → Prop) (LW : List Value → Int → Int → Int × Int → Int → Int × Int → Prop) (TR : List Value → Int → Int → Int × Int → Int → Int × Int → Bool → Str → Prop) (V2R : Int → Int × Int → Value → Addr → Obj → Prop) (dOf : Int × Int → PyData) : Prop where
  fA : (W == Str.ofString "A") = false
  fA2 : (W != Str.ofString "A") = true
  fIL : (Builtin.Str.occurrences (Str.ofString "IL") W 0 (Str.ofString "IL").length 1).isEmpty = !bIL
  hItem : ∀ {news : List (Addr × Obj)} {nx : Int → Tok → List (Addr × Obj)} {k : Int} {t0 u : Tok}, (∀ k1 t1, Upd pa (pouO ra k t0) (pouO ra k1 t1) news (nx k1 t1)) → (ra, rowO ws) ∈ news → 0 ≤ k → k ≤ 999900 → Ct w mg mb p loose mean 2 361 [.ref pa, .str W u] news (RetN news nx (fun v new k1 => k ≤ k1 ∧ k1 ≤ k + 3 ∧ ∃ (it : Addr) (n : Int) (tl : List Value) (t1 t2 : Tok), v = .ref it ∧ new = [(it, tupO (.str W t1 :: .int n t2 :: tl).toArray)] ∧ 1 ≤ n ∧ n ≤ 18 ∧ Item tl n))
  hVal : ∀ {news : List (Addr × Obj)} {nx : Int → Tok → List (Addr × Obj)} {k : Int} {t0 u : Tok}, (∀ k1 t1, Upd pa (pouO ra k t0) (pouO ra k1 t1) news (nx k1 t1)) → (ra, rowO ws) ∈ news → 0 ≤ k → k ≤ 999900 → Ct w mg mb p loose mean 4 366 [.ref pa, .str W u] news (RetN news nx (fun v new k1 => k ≤ k1 ∧ k1 ≤ k + 10 ∧ ∃ (vt q : Addr) (o : Obj) (kd ln : Int) (V : Value) (y : Int × Int) (t1 t4 : Tok), v = .ref vt ∧ new = [(vt, tupO #[.int kd t1, V, .int ln t4]), (q, o)] ∧ VR kd V q o y))
  hLaw : ∀ {tl : List Value} {n kd : Int} {V : Value} {q : Addr} {o : Obj} {y : Int × Int} {k : Int}, Item tl n → VR kd V q o y → -1 ≤ k → k ≤ 2 → ∃ x, LW tl n kd y k x ∧ DOk (dOf x)
  hEdit : ∀ {news : List (Addr × Obj)} {it q : Addr} {o : Obj} {tl : List Value} {n kd k : Int} {V : Value} {y x : Int × Int} {plus : Bool} {t1 t2 t3 u3 : Tok}, Item tl n → VR kd V q o y → LW tl n kd y k x → -1 ≤ k → k ≤ 2 → (it, tupO (.str W t1 :: .int n t2 :: tl).toArray) ∈ news → (q, o) ∈ news →   Ct w mg mb p loose mean 7 324 [.ref it, .int kd t3, V, .int k u3, .bool plus] news (fun h₀ L m s Q => ∀ (T : Str) (t : Tok) (h' : Heap) (tk' : Nat), TR tl n kd y k x plus T → (T.length : Int) = n → (Stars T n ∨ (Txt.item T 0 == Str.ofString "*") = false) → Fr h₀ L h' m → News h₀ L h' news → Q (.str T t) { s with heap := h', toks := tk' })
  hEdit2 : ∀ {news : List (Addr × Obj)} {it q : Addr} {o : Obj} {tl : List Value} {n kd k : Int} {V : Value} {y x : Int × Int} {plus : Bool} {T : Str} {t1 t2 t3 u3 : Tok}, Item tl n → LW tl n kd y k x → TR tl n kd y k x plus T → V2R kd x V q o → -1 ≤ k → k ≤ 2 → (it, tupO (.str W t1 :: .int n t2 :: tl).toArray) ∈ news → (q, o) ∈ news →   Ct w mg mb p loose mean 7 324 [.ref it, .int kd t3, V, .int k u3, .bool plus] news (RetP news fun t => .str T t)
  hRead : ∀ {news : List (Addr × Obj)} {it lim : Addr} {tl : List Value} {n kd k ln : Int} {y x : Int × Int} {plus b : Bool} {T : Str} {t t1 t2 t3 u3 u4 : Tok}, Item tl n → LW tl n kd y k x → TR tl n kd y k x plus T → (Txt.item T 0 == Str.ofString "*") = false → (T.length : Int) = n → n ≤ 18 → -1 ≤ k → k ≤ 2 → (it, tupO (.str W t1 :: .int n t2 :: tl).toArray) ∈ news → LimIn w news lim →   Ct w mg mb p loose mean 6 205 [.ref it, .int kd t3, .int ln u4, .str T t, .int k u3, .bool b, .ref lim] news (fun h₀ L m s Q => ∀ (V : Value) (q : Addr) (o : Obj) (h' : Heap) (tk' : Nat), V2R kd x V q o → ((∀ p ∈ news, p.1 < q) ∨ (q, o) = (it, tupO (.str W t1 :: .int n t2 :: tl).toArray)) → Fr h₀ L h' m → News h₀ L h' ((q, o) :: news) → Q V { s with heap := h', toks := tk' })
  hReads : ∀ {h g : Heap} {L : Addr} {m : Str → Option Value} {news : List (Addr × Obj)} {kd : Int} {x : Int × Int} {V : Value} {q : Addr} {o : Obj}, V2R kd x V q o → (q, o) ∈ news → News g L h news → Fr g L h m → (frag.heap_1 w.params).In g → ∃ as, Reads h V (dOf x) as
  hSame : bIL = true → ∀ {tl : List Value} {n kd k : Int} {V : Value} {q : Addr} {o : Obj} {y x : Int × Int} {h : Heap}, VR kd V q o y → LW tl n kd y k x → ∃ as, Reads h V (dOf x) as
theorem lnC21_3 : True := by
  k_with "k_ne" => (refine neN ?_; (try dsimp only); first
  | (exact Nat.ne_of_lt (ab0 (by with_reducible assumption)))
  | (exact Nat.ne_of_gt (ab0 (by with_reducible assumption)))
  | (exact Nat.ne_of_lt (ab1 (by with_reducible assumption)))
  | (exact Nat.ne_of_gt (ab1 (by with_reducible assumption)))
  | (exact Nat.ne_of_lt (ab2 (by with_reducible assumption)))
  | (exact Nat.ne_of_gt (ab2 (by with_reducible assumption)))
  | (exact Nat.ne_of_lt (ab3 (by with_reducible assumption)))
  | (exact Nat.ne_of_gt (ab3 (by with_reducible assumption)))
  | (exact Nat.ne_of_lt (ab4 (by with_reducible assumption)))
  | (exact Nat.ne_of_gt (ab4 (by with_reducible assumption)))
  | (exact Nat.ne_of_lt (ab5 (by with_reducible assumption)))
  | (exact Nat.ne_of_gt (ab5 (by with_reducible assumption)))
  | (exact Nat.ne_of_lt (ab6 (by with_reducible assumption)))
  | (exact Nat.ne_of_gt (ab6 (by with_reducible assumption)))
  | (exact Nat.ne_of_lt (ab7 (by with_reducible assumption) (by with_reducible assumption)))
  | (exact Nat.ne_of_gt (ab7 (by with_reducible assumption) (by with_reducible assumption)))
  | (exact Nat.ne_of_lt (up1 (by with_reducible assumption)))
  | (exact Nat.ne_of_gt (up1 (by with_reducible assumption)))
  | (exact Nat.ne_of_lt (up2 (by with_reducible assumption)))
  | (exact Nat.ne_of_gt (up2 (by with_reducible assumption)))
  | (exact Nat.ne_of_lt (up3 (by with_reducible assumption)))
  | (exact Nat.ne_of_gt (up3 (by with_reducible assumption)))
  | (exact Nat.ne_of_lt (up4 (by with_reducible assumption)))
  | (exact Nat.ne_of_gt (up4 (by with_reducible assumption)))
  | (exact Nat.ne_of_lt (up5 (by with_reducible assumption)))
  | (exact Nat.ne_of_gt (up5 (by with_reducible assumption)))
  | (exact Nat.ne_of_lt (up6 (by with_reducible assumption)))
  | (exact Nat.ne_of_gt (up6 (by with_reducible assumption)))
  | (exact Nat.ne_of_lt (up7 (by with_reducible assumption)))
  | (exact Nat.ne_of_gt (up7 (by with_reducible assumption)))
  | (with_reducible exact Nat.ne_of_lt (cn1 _))
  | (with_reducible exact Nat.ne_of_gt (cn1 _))
  | (with_reducible exact Nat.ne_of_lt (cn2 _))
  | (with_reducible exact Nat.ne_of_gt (cn2 _))
  | (with_reducible exact Nat.ne_of_lt (cn3 _))
  | (with_reducible exact Nat.ne_of_gt (cn3 _))
  | (with_reducible exact Nat.ne_of_lt (cn4 _))
  | (with_reducible exact Nat.ne_of_gt (cn4 _))
  | (with_reducible exact Nat.ne_of_lt (cn5 _))
  | (with_reducible exact Nat.ne_of_gt (cn5 _))
  | (with_reducible exact Nat.ne_of_lt (cn6 _))
  | (with_reducible exact Nat.ne_of_gt (cn6 _)))
  k_with "newTuple" => (k_here; k_dflt (refine' kup_newTuple ?F ?N ?_ ?z; (case F => k_asm); (case N => k_asm); (case z => kmk_size)); intro D' h' F' N' l1; k_dflt (have hA9 := ab_of l1 (by k_mem)); clear l1; (try k_sweep))
  k_with "call ref" => (k_here; (with_reducible show wpAny _ _ (PySem.call (Value.ref 342) _) _ _ _); (rename News _ _ _ _ => cN9); k_dflt (refine' c_Limits  _ _ _ _ _ _ _ _ _ _ _ _ _ _ _ _ _ (by k_asm) (by k_asm) (by k_asm) cN9 (by k_asm) (by first | exact rfl | assumption) (by first | exact room9 (by assumption) (by rfl) | ktr_room) (by first | exact units9 (by assumption) (by rfl) | ktr_units) ?_); intro x9 dx9 ks9 h9 tk9 l9 l91 F9 N9; k_dflt (have hA9 := ab_of l91 (by k_mem)); (have hA8 := ab_tr hA9 l9); clear l91; clear l9; (try dsimp only); (try k_fold))
  k_with "ke_room" => exact room64 (by assumption)
  k_with "call ref" => (k_here; (with_reducible show wpAny _ _ (PySem.call (Value.ref 361) _) _ _ _); (rename News _ _ _ _ => cN9); k_dflt (refine' (Gen.hItem (by assumption)) (by intro tk8 tq9; k_upd) (by k_mem) (by omega) (by omega) _ _ _ _ _ _ _ _ _ _ _ _ _ _ _ _ _ (by k_asm) (by k_asm) (by k_asm) cN9 (by k_asm) (by first | exact rfl | assumption) (by first | exact room9 (by assumption) (by rfl) | ktr_room) (by first | exact units9 (by assumption) (by rfl) | ktr_units) ?_); intro v9 new9 k9 t9 h9 tk9 G9 l9 F9 N9; (obtain ⟨hb91, hb92, it9, n9, tl9, t91, t92, hv9, hn9, hn91, hn92, hI9⟩ := G9); subst hv9; subst hn9; (simp only [List.cons_append, List.nil_append] at N9); (have l90 := l9 _ (.head _)); (dsimp only at l90); k_dflt (have hA9 := ab_of l90 (by k_mem)); clear l90; clear l9; (try dsimp only at N9); (try dsimp only); (try k_fold))
  k_with "call ref" => (k_here; (with_reducible show wpAny _ _ (PySem.call (Value.ref 366) _) _ _ _); (rename News _ _ _ _ => cN9); k_dflt (refine' (Gen.hVal (by assumption)) (by intro tk8 tq9; k_upd) (by k_mem) (by omega) (by omega) _ _ _ _ _ _ _ _ _ _ _ _ _ _ _ _ _ (by k_asm) (by k_asm) (by k_asm) cN9 (by k_asm) (by first | exact rfl | assumption) (by first | exact room9 (by assumption) (by rfl) | ktr_room) (by first | exact units9 (by assumption) (by rfl) | ktr_units) ?_); intro v9 new9 k9 t9 h9 tk9 G9 l9 F9 N9; (obtain ⟨hb91, hb92, vt9, q9, o9, kd9, ln9, V9, y9, t91, t94, hv9, hn9, hV9⟩ := G9); subst hv9; subst hn9; (simp only [List.cons_append, List.nil_append] at N9); (have l90 := l9 _ (.head _)); (dsimp only at l90); k_dflt (have hA9 := ab_of l90 (by k_mem)); clear l90; (have l91 := l9 _ (.tail _ (.head _))); (dsimp only at l91); k_dflt (have hA9 := ab_of l91 (by k_mem)); clear l91; clear l9; (try dsimp only at N9); (try dsimp only); (try k_fold))
  trivial
theorem Gen.edit1 {w : World} {mg mb p loose mean pa ra ws W bIL Item VR LW TR V2R dOf} (hG : Gen w mg mb p loose mean pa ra ws W bIL Item VR LW TR V2R dOf) {news : List (Addr × Obj)} {it q : Addr} {o : Obj} {tl : List Value} {n kd k : Int} {V : Value} {y : Int × Int} {plus : Bool} {t1 t2 t3 u3 : Tok} (h1 : Item tl n) (h2 : VR kd V q o y) (h3 : -1 ≤ k) (h4 : k ≤ 2) (h5 : (it, tupO (.str W t1 :: .int n t2 :: tl).toArray) ∈ news) (h6 : (q, o) ∈ news) :
      Ct w mg mb p loose mean 7 324 [.ref it, .int kd t3, V, .int k u3, .bool plus] news (fun h₀ L m s Q => ∀ (x : Int × Int) (T : Str) (t : Tok) (h' : Heap) (tk' : Nat), LW tl n kd y k x → DOk (dOf x) → TR tl n kd y k x plus T → (T.length : Int) = n → (Stars T n ∨ (Txt.item T 0 == Str.ofString "*") = false) → Fr h₀ L h' m → News h₀ L h' news → Q (.str T t) { s with heap := h', toks := tk' }) := by
  obtain ⟨x, hx, hd⟩ := hG.hLaw h1 h2 h3 h4
  exact Ct_mono (hG.hEdit h1 h2 hx h3 h4 h5 h6) fun h₀ L m s Q hret T t h' tk' a b c F N => hret x T t h' tk' hx hd a b c F N
section
open PyProof.Rows.LCg
variable {prog : Program} {w : World} {A : Around} {s : Shared} {h₀ : Heap} {L : Addr} {m : Str → Option Value} {env : Env} {elt : Expr} {x : Str} {scope : Scope} {cl : List (Str × Addr)} {S : List (Addr × Obj) → Prop} {Fin : List Value → List (Addr × Obj) → Prop} {led : List (Addr × Obj)}
theorem rest2G {w' : World} {mg mb p loose mean pa ra ws W bIL Item VR LW TR V2R dOf} (_ : Gen w' mg mb p loose mean pa ra ws W bIL Item VR LW TR V2R dOf) {it : Addr} {tl : List Value} {n kd k : Int} {y z : Int × Int} {t1 t2 : Tok} (_ : LW tl n kd y k z) (hdx : (it, tupO (.str W t1 :: .int n t2 :: tl).toArray) ∈ led) (hS : ∀ l', (∀ p ∈ led, p ∈ l') → S l')
    (turn : ∀ (b : Bool) (e : Addr × Obj) I oI C oC D m₂ ys h tk (E' : Value → Shared → Prop), NsObj oC m₂ → m₂ x = some (.bool b) → Fr h₀ L h m → News h₀ L h ((I, oI) :: (C, oC) :: (D, lst ys) :: e :: led) → Off3 I C D (e :: led) → ((@Ne Nat I C) ∧ (@Ne Nat I D) ∧ (@Ne Nat C D)) →
      wpAny (model prog w) A (eval elt (compEnvC scope cl C env)) (End1 s h₀ L m (V2R kd z) ((I, oI) :: (C, oC) :: (D, lst ys) :: e :: led) (it, tupO (.str W t1 :: .int n t2 :: tl).toArray)) E' { s with heap := h, toks := tk })
    (fin : ∀ va qa oa vb qb ob, V2R kd z va qa oa → V2R kd z vb qb ob → Fin [va, vb] ((qb, ob) :: (qa, oa) :: led)) :
    CompRest prog w A h₀ L m env elt x scope cl s S (fun i v => (#[Value.bool false, Value.bool true] : Array Value)[i]? = some v) Fin 2 0 [] led := rest2 hdx hS turn fin
end
theorem Gen.rd {w : World} {mg mb p loose mean pa ra ws W bIL Item VR LW TR V2R dOf} (hG : Gen w mg mb p loose mean pa ra ws W bIL Item VR LW TR V2R dOf) {h g : Heap} {L : Addr} {m : Str → Option Value} {news : List (Addr × Obj)} {kd : Int} {x : Int × Int} {V : Value} {q : Addr} {o : Obj} (N : News g L h news) (F : Fr g L h m) (X : (frag.heap_1 w.params).In g) (hV : V2R kd x V q o) (hm : (q, o) ∈ news) : ∃ as, Reads h V (dOf x) as := hG.hReads hV hm N F X
theorem Gen.v2 {w : World} {mg mb p loose mean pa ra ws W bIL Item VR LW TR V2R dOf} (_ : Gen w mg mb p loose mean pa ra ws W bIL Item VR LW TR V2R dOf) {kd : Int} {x : Int × Int} {v a b : Value} {qa qb : Addr} {oa ob : Obj} (hv : v = a ∨ v = b) (ha : V2R kd x a qa oa) (hb : V2R kd x b qb ob) : ∃ q o, V2R kd x v q o ∧ ((q, o) = (qa, oa) ∨ (q, o) = (qb, ob)) := by
  rcases hv with rfl | rfl
  · exact ⟨_, _, ha, .inl rfl⟩
  · exact ⟨_, _, hb, .inr rfl⟩
theorem mem_or {a b c : Addr × Obj} {l : List (Addr × Obj)} (h : c = a ∨ c = b) (ha : a ∈ l) (hb : b ∈ l) : c ∈ l := by
  rcases h with rfl | rfl
  · exact ha
  · exact hb
theorem Gen.cmp_eq {w : World} {mg mb p loose mean pa ra ws W bIL Item VR LW TR V2R dOf} (hG : Gen w mg mb p loose mean pa ra ws W bIL Item VR LW TR V2R dOf) {prog : Program} {A : Around} {E : Value → Shared → Prop} {s : Shared} {Q : Value → Shared → Prop} {g : Heap} {L : Addr} {m : Str → Option Value} {news : List (Addr × Obj)} {kd : Int} {x : Int × Int} {v v' : Value} {q q' : Addr} {o o' : Obj} (N : News g L s.heap news) (F : Fr g L s.heap m) (X : (frag.heap_1 w.params).In g) (ha : V2R kd x v q o) (ma : (q, o) ∈ news) (hb : V2R kd x v' q' o') (mb : (q', o') ∈ news) (hd : DOk (dOf x)) (hu : A.units + 64 < cLine) (h : Q (.bool true) s) : wpAny (model prog w) A (compareOp .Eq v v') Q E s :=
  Mine.cmp_eq (hG.hReads ha ma N F X) (hG.hReads hb mb N F X) hd hu h
theorem Gen.cmp_back {w : World} {mg mb p loose mean pa ra ws W bIL Item VR LW TR V2R dOf} (hG : Gen w mg mb p loose mean pa ra ws W bIL Item VR LW TR V2R dOf) {prog : Program} {A : Around} {E : Value → Shared → Prop} {s : Shared} {Q : Value → Shared → Prop} {g : Heap} {L D l : Addr} {m : Str → Option Value} {news : List (Addr × Obj)} {kd n k : Int} {tl : List Value} {y x : Int × Int} {va vb V : Value} {qa qb q : Addr} {oa ob o : Obj} (hb : (Builtin.Str.occurrences (Str.ofString "IL") W 0 (Str.ofString "IL").length 1).isEmpty = false) (N : News g L s.heap news) (F : Fr g L s.heap m) (X : (frag.heap_1 w.params).In g) (hD : (D, LCg.lst [va, vb]) ∈ news) (hl : (l, PySem.W.listOf #[V, V] 0) ∈ news) (ha : V2R kd x va qa oa) (ma : (qa, oa) ∈ news) (hb2 : V2R kd x vb qb ob) (mb2 : (qb, ob) ∈ news) (hv : VR kd V q o y) (hw : LW tl n kd y k x) (hd : DOk (dOf x)) (hu : A.units + 64 < cLine) (h : Q (.bool false) s) : wpAny (model prog w) A (compareOp .NotEq (.ref D) (.ref l)) Q E s :=
  Mine.cmp_back N hD hl (hG.hReads ha ma N F X) (hG.hReads hb2 mb2 N F X) (hG.hSame (isE_t hG.fIL hb) hv hw) hd hu h

theorem item_1 {prog : Program} {w : World} {A : Around} {E : Value → Shared → Prop} {s : Shared} {value slice : PySem.Expr} {it : Addr} {a b : Value} {tl : List Value} {u : Tok} {Q : Value → Shared → Prop} {h₀ : Heap} {L : Addr} {news : List (Addr × Obj)} (N : News h₀ L s.heap news) (hm : (it, tupO (a :: b :: tl).toArray) ∈ news) (h : Q b s)
    (hs : subscripted slice false (.ref it) (.int 1 u) = operate [.ref it, .int 1 u] (getItem (.ref it) (.int 1 u)) := by with_unfolding_all rfl) :
    wpAny (model prog w) A (subscriptTail value slice (.ref it) (.int 1 u)) Q E s :=
  item_tupleT (News.isTup N hm) (by decide) (by decide) (j := 1) (by simp [seqIndex?]; (clear h N hm hs; omega)) rfl h hs
theorem lawk1 {r : Int} (h0 : 0 ≤ r) (h1 : r < 4) : -1 ≤ r - 1 := by (clear h1; omega)
theorem lawk2 {r : Int} (h0 : 0 ≤ r) (h1 : r < 4) : r - 1 ≤ 2 := by (clear h0; omega)
theorem lnC21_4 : True := by
  k_with "subscriptTail" => (k_here; (with_reducible show wpAny _ _ (subscriptTail _ _ (Value.ref _) (Value.int 1 _)) _ _ _); k_dflt (refine' item_1 (by k_asm) (by k_mem) ?_); k_whole)
  k_with "call ref" => (k_here; (with_reducible show wpAny _ _ (PySem.call (Value.ref 324) _) _ _ _); (rename News _ _ _ _ => cN9); k_dflt (refine' (Gen.edit1 (by assumption)) (by assumption) (by assumption) (by omega) (by omega) (by k_mem) (by k_mem) _ _ _ _ _ _ _ _ _ _ _ _ _ _ _ _ _ (by k_asm) (by k_asm) (by k_asm) cN9 (by k_asm) (by first | exact rfl | assumption) (by first | exact room9 (by assumption) (by rfl) | ktr_room) (by first | exact units9 (by assumption) (by rfl) | ktr_units) ?_); intro x9 T9 t9 h9 tk9 hW9 hD9 hT9 hl9 hc9 F9 N9; (have hq9 := ne_self T9); k_dflt (rcases hc9 with ⟨hs91, hs92⟩ | hs91) <;> ((try dsimp only); (try k_fold)))
  k_with "call ref" => (k_here; (with_reducible show wpAny _ _ (PySem.call (Value.ref 324) _) _ _ _); (rename News _ _ _ _ => cN9); k_dflt (refine' (Gen.hEdit (by assumption)) (by with_reducible assumption) (by with_reducible assumption) (by with_reducible assumption) (by omega) (by omega) (by k_mem) (by k_mem) _ _ _ _ _ _ _ _ _ _ _ _ _ _ _ _ _ (by k_asm) (by k_asm) (by k_asm) cN9 (by k_asm) (by first | exact rfl | assumption) (by first | exact room9 (by assumption) (by rfl) | ktr_room) (by first | exact units9 (by assumption) (by rfl) | ktr_units) ?_); intro T9 t9 h9 tk9 hT9 hl9 hc9 F9 N9; (have hq9 := ne_self T9); k_dflt (rcases hc9 with ⟨hs91, hs92⟩ | hs91) <;> ((try dsimp only); (try k_fold)))
  k_with "call ref" => (k_here; (with_reducible show wpAny _ _ (PySem.call (Value.ref 324) _) _ _ _); (rename News _ _ _ _ => cN9); k_dflt (refine' (Gen.hEdit2 (by assumption)) (by with_reducible assumption) (by with_reducible assumption) (by with_reducible assumption) (by with_reducible assumption) (by omega) (by omega) (by k_mem) (by exact mem_or (by with_reducible assumption) (by k_mem) (by k_mem)) _ _ _ _ _ _ _ _ _ _ _ _ _ _ _ _ _ (by k_asm) (by k_asm) (by k_asm) cN9 (by k_asm) (by first | exact rfl | assumption) (by first | exact room9 (by assumption) (by rfl) | ktr_room) (by first | exact units9 (by assumption) (by rfl) | ktr_units) ?_); intro t9 h9 tk9 F9 N9; (try dsimp only); (try k_fold))
  k_with "call ref" => (k_here; (with_reducible show wpAny _ _ (PySem.call (Value.ref 205) _) _ _ _); (rename News _ _ _ _ => cN9); k_dflt (refine' (Gen.hRead (by assumption)) (by with_reducible assumption) (by with_reducible assumption) (by with_reducible assumption) (by with_reducible assumption) (by with_reducible assumption) (by with_reducible assumption) (by omega) (by omega) (by k_mem) (by exact ⟨_, _, by k_mem, by k_mem⟩) _ _ _ _ _ _ _ _ _ _ _ _ _ _ _ _ _ (by k_asm) (by k_asm) (by k_asm) cN9 (by k_asm) (by first | exact rfl | assumption) (by first | exact room9 (by assumption) (by rfl) | ktr_room) (by first | exact units9 (by assumption) (by rfl) | ktr_units) ?_); intro V9 q9 o9 h9 tk9 hV9 hq9 F9 N9; (try dsimp only); (try k_fold))
  k_with "exec Assign cons ListComp" => (k_here; k_dflt (refine Assign_ListComp_Tup (F₀ := by k_asm) (by rfl) (by with_unfolding_all rfl) (by rfl) (by decide) (by rfl) (by decide) (by rfl) (by rfl) (by rfl) ?_))
  k_with "SrcTup" => (k_here; k_dflt (refine SrcTup.ledger (by rfl) (by k_asm) (by k_asm) (by k_mem) (by exact Nat.le_of_ble_eq_true rfl) ?_; intro g'; refine rest2G (by with_reducible assumption) (by with_reducible assumption) (by k_mem) (fun l' hl' => ⟨_, hl' _ (by k_mem), rfl, _, rfl⟩) (fun b9 e9 I9 oI9 C9 oC9 D9 m9 ys9 h9 tk9 E9 hC9 hx9 F9 N9 off9 ne9 => ?_) (fun va9 qa9 oa9 vb9 qb9 ob9 hVa9 hVb9 => ?_); (all_goals (try dsimp only))))
  k_with "eval ListComp" => (k_here; k_dflt (refine LCt.ListComp_T (F₀ := by k_asm) (by with_unfolding_all rfl) (by decide) (by rfl) (by decide) (by rfl) ?_))
  k_with "CompSrcT" => (k_here; k_dflt (refine LCt.CompSrcT.ledger (by rfl) (by k_asm) (by k_asm) (by k_mem) (by exact Nat.le_of_ble_eq_true rfl) ?_; intro g'; refine rest2T (by exact Or.inr ⟨_, by k_mem, rfl, _, rfl⟩) (fun v9 I9 oI9 C9 oC9 D9 m9 ys9 h9 tk9 E9 hv9 hC9 hx9 F9 N9 off9 ne9 => ?_) ?_; (all_goals (try dsimp only)); (obtain ⟨q8, o8, hV8, hm8⟩ := Gen.v2 (by with_reducible assumption) hv9 (by with_reducible assumption) (by with_reducible assumption))))
  k_with "isTrue BoolOp" => (k_here; (with_reducible show wpAny _ _ (isTrue (PySem.Expr.BoolOp _ (List.cons (PySem.Expr.BoolOp _ _ _) _) _) _ _) _ _ _); (fail_if_success (have hj9 : JoinMark := by assumption)); k_dflt (refine join_false (by k_asm) (by k_asm) (fun hj9 => ?_) (fun h9 tk9 F9 N9 => ?_)); (all_goals (try dsimp only)); (all_goals (try k_fold)))
  k_with "compareOp NotEq ref ref" => (k_here; k_dflt (refine Gen.cmp_back (by with_reducible assumption) (by with_reducible assumption) (by k_asm) (by k_asm) (by k_asm) (by k_mem) (by k_mem) (by with_reducible assumption) (by k_mem) (by with_reducible assumption) (by k_mem) (by with_reducible assumption) (by with_reducible assumption) (by with_reducible assumption) (by ke_room) ?_))
  k_with "compareOp Eq" => (k_here; k_dflt (refine Gen.cmp_eq (by with_reducible assumption) (by k_asm) (by k_asm) (by k_asm) (by with_reducible assumption) (by k_mem) (by with_reducible assumption) (by k_mem) (by with_reducible assumption) (by ke_room) ?_))
  trivial
set_option maxRecDepth 100000 in
set_option maxHeartbeats 8000000 in
theorem c_turn_gen {w : World} {mg mb p loose mean} {pa ra : Addr} {ws : List Value} {ns : List Int} {rest : List (Addr × Obj)} {k : Int} {t0 u : Tok} {W : Str} {bIL : Bool} {Item : List Value → Int → Prop} {VR : Int → Value → Addr → Obj → Int × Int → Prop} {LW : List Value → Int → Int → Int × Int → Int → Int × Int → Prop} {TR : List Value → Int → Int → Int × Int → Int → Int × Int → Bool → Str → Prop} {V2R : Int → Int × Int → Value → Addr → Obj → Prop} {dOf : Int × Int → PyData} (hI : IntsAre ws ns) (hlen : ns.length ≤ 60) (hk0 : 0 ≤ k) (hk1 : k ≤ 999800) (hra : ra ≠ pa) (hne : ∀ p ∈ rest, p.1 ≠ pa) (hG : Gen w mg mb p loose mean pa ra ws W bIL Item VR LW TR V2R dOf) (fA : (W == Str.ofString "A") = false) (fA2 : (W != Str.ofString "A") = true) :
    Ct w mg mb p loose mean 10 371 [.ref pa, .str W u] ((pa, pouO ra k t0) :: (ra, rowO ws) :: rest) (fun h₀ L m s Q => ∀ (b9 : Bool) (k1 : Int) (t3 : Tok) (h' : Heap) (tk' : Nat), b9 = true → k ≤ k1 → k1 ≤ k + 20 → Fr h₀ L h' m → News h₀ L h' ((pa, pouO ra k1 t3) :: (ra, rowO ws) :: rest) → Q (.bool b9) { s with heap := h', toks := tk' }) := by
  dsimp only [Ct, RetP, RetT, RetF]
  k_fill
  intro dp un gd cn cz a ccd cl outer A₀ base h₀ L m s Q E B F X N T hk hd hu hret
  refine wpAny_call ?_
  k_dflt (refine' code_defC (binds := [(Str.ofString "pouch", .ref pa), (Str.ofString "word", .str W u)]) ?k1 ?k2 ?k3 ?k4 ?k5 ?kA ?kF ?kK ?k6 ?k7 ?k8 ?k9 ?kB ?kD ?_ ?c2 ?c3 ?c4; (case kA => exact rfl); (case kF => exact rfl); (case kK => assumption); (case k1 => k_asm); (case k2 => k_asm); (case k3 => k_asm); (case k4 => k_asm); (case k5 => k_asm); (case k6 => k_is); (case k7 => k_is); (case k8 => ktr_room); (case k9 => exact BindsTo.of_eq rfl); (case kB => exact rfl); (case kD => decide +kernel); (case c2 => exact rfl); (case c3 => exact rfl); (case c4 => exact rfl); k_whole; intro g' L' h' tk' cells' FG' F' N' Y' B' X' T' l1; (try k_lt l1); k_cells Y'; (try simp only [List.cons_append, List.nil_append] at N'); (try dsimp only); (try k_lift B'); (try k_fold))
  obtain ⟨lc1, lc2, lc3⟩ := l1
  have hc1 : ∀ p ∈ rest, p.1 ≠ L' + 1 := fun p hp => Nat.ne_of_lt (up1 (ktn_ltOf lc3 p hp))
  have hc2 : ∀ p ∈ rest, p.1 ≠ L' + 1 + 1 := fun p hp => Nat.ne_of_lt (up2 (ktn_ltOf lc3 p hp))
  have hc3 : ∀ p ∈ rest, p.1 ≠ L' + 1 + 1 + 1 := fun p hp => Nat.ne_of_lt (up3 (ktn_ltOf lc3 p hp))
  have hc4 : ∀ p ∈ rest, p.1 ≠ L' + 1 + 1 + 1 + 1 := fun p hp => Nat.ne_of_lt (up4 (ktn_ltOf lc3 p hp))
  have hc5 : ∀ p ∈ rest, p.1 ≠ L' + 1 + 1 + 1 + 1 + 1 := fun p hp => Nat.ne_of_lt (up5 (ktn_ltOf lc3 p hp))
  have hc6 : ∀ p ∈ rest, p.1 ≠ L' + 1 + 1 + 1 + 1 + 1 + 1 := fun p hp => Nat.ne_of_lt (up6 (ktn_ltOf lc3 p hp))
  have hc7 : ∀ p ∈ rest, p.1 ≠ L' + 1 + 1 + 1 + 1 + 1 + 1 + 1 := fun p hp => Nat.ne_of_lt (up7 (ktn_ltOf lc3 p hp))
  clear lc3
  k_steps
  all_goals first
    | (with_reducible rename (_ : Int) ≠ _ => hx9; exact absurd (by assumption) hx9)
    | ((rename News _ _ _ _ => hN9); exact End1.intro (by k_asm) hN9 (by with_reducible assumption) (by with_reducible assumption))
    | ((rename News _ _ _ _ => hN9); exact End2.intro (by first | rfl | with_reducible assumption) (by k_asm) hN9 (by with_reducible repeat (first | exact fun _ h => h | refine sub_tail ?_)))
    | ((rename News _ _ _ _ => hN9); (repeat (with_reducible rename _ ∧ _ => hz9; clear hz9)); refine hret _ _ _ _ _ ?_ ?_ ?_ (by k_asm) (cb_drop hN9 (sub3 (by with_reducible repeat (first | exact List.mem_cons_self | refine List.mem_cons_of_mem _ ?_)) (by with_reducible repeat (first | exact List.mem_cons_self | refine List.mem_cons_of_mem _ ?_)) (by with_reducible repeat (first | exact fun _ h => h | refine sub_tail ?_)))))
  all_goals first | (with_reducible assumption) | rfl | (clear hI X hk FG' B X' lc2 lc1 F T T' hk0 hk1 fA fA2 hlen hd hG B' N hu hra hne hc1 hret hc2 hc3 hc4 hc5 hc6 hc7 hN9; omega)

end
section
theorem lnC22_1 : True := by
  k_with_none
  k_with "omega" => ((try clear hret); (try clear hk); (try clear hd); (try clear hu); first | lia | omega +splitDisjunctions)
  trivial
theorem Ct_depth {w : World} {mg mb p loose mean} {d d' : Nat} {f : Addr} {vs : List Value} {news : List (Addr × Obj)} {R : Heap → Addr → (Str → Option Value) → Shared → (Value → Shared → Prop) → Prop} (h : Ct w mg mb p loose mean d f vs news R) (hd : d ≤ d') : Ct w mg mb p loose mean d' f vs news R :=
  fun dp un gd cn cz a ccd cl outer A₀ base₀ h₀ L m s Q E B F X N T hk hd' hu => h dp un gd cn cz a ccd cl outer A₀ base₀ h₀ L m s Q E B F X N T hk (by (clear hu h T N F hk X B; omega)) (by (clear hd' h T N F hk X B; omega))
theorem retN_mono {news : List (Addr × Obj)} {nx : Int → Tok → List (Addr × Obj)} {G G' : Value → List (Addr × Obj) → Int → Prop} {h₀ : Heap} {L : Addr} {m : Str → Option Value} {s : Shared} {Q : Value → Shared → Prop} (h : ∀ v new k1, G v new k1 → G' v new k1) (r : RetN news nx G' h₀ L m s Q) : RetN news nx G h₀ L m s Q :=
  fun v new k1 t3 h' tk' g => r v new k1 t3 h' tk' (h _ _ _ g)
theorem retN_dup {news : List (Addr × Obj)} {nx : Int → Tok → List (Addr × Obj)} {G G' : Value → List (Addr × Obj) → Int → Prop} {h₀ : Heap} {L : Addr} {m : Str → Option Value} {s : Shared} {Q : Value → Shared → Prop} (h : ∀ v new k1, G v new k1 → G' v new k1 ∨ ∃ a, new = [a] ∧ G' v [a, a] k1) (r : RetN news nx G' h₀ L m s Q) : RetN news nx G h₀ L m s Q := by
  intro v new k1 t3 h' tk' g hl F N
  rcases h _ _ _ g with g' | ⟨a, rfl, g'⟩
  · exact r v new k1 t3 h' tk' g' hl F N
  · refine r v [a, a] k1 t3 h' tk' g' (fun q hq => ?_) F (fun p hp => ?_)
    · rcases List.mem_cons.mp hq with rfl | hq
      · exact hl q (.head _)
      · exact hl q hq
    · rcases List.mem_cons.mp hp with rfl | hp
      · exact N p (.head _)
      · exact N p hp
section
variable {w : World} {mg mb : Str → Option Value} {p : Program} {loose : List Str} {mean : ExcName → Option Value} {pa ra : Addr} {ws : List Value} {ns : List Int}
theorem cons_dup {news : List (Addr × Obj)} {a : Addr × Obj} {h₀ h : Heap} {L : Addr} (N : News h₀ L h news) (ha : a ∈ news) : News h₀ L h (a :: news) := fun p hp => by
  rcases List.mem_cons.mp hp with rfl | hp
  · exact N _ ha
  · exact N p hp
theorem gen_I (hI : IntsAre ws ns) (hlen : ns.length ≤ 60) : Gen w mg mb p loose mean pa ra ws (Str.ofString "I") true
    (fun tl n => ∃ lv, tl = [lv] ∧ 3 ≤ n ∧ n ≤ 15 ∧ LeastOk lv)
    (fun kd V _ _ y => kd = 0 ∧ ∃ t, V = .int y.1 t ∧ y.1.natAbs ≤ 1000000)
    (fun _ _ kd y _ x => x = y ∧ y.1.natAbs ≤ 1000000 ∧ kd = 0)
    (fun tl n _ y _ _ plus T => ∃ lv, tl = [lv] ∧ T = S (EI y.1 n (leastN lv) plus))
    (fun kd x V _ _ => kd = 0 ∧ ∃ t, V = .int x.1 t)
    (fun x => .int x.1) where
  fA := by decide +kernel
  fA2 := by decide +kernel
  fIL := by decide +kernel
  hItem hU hr h0 h1 := Ct_mono (o_item_I hI hlen hU hr h0 h1) fun _ _ _ _ _ => retN_mono fun v new k1 ⟨b1, b2, it, n, lv, t1, t2, t4, e1, e2, c1, c2, c3⟩ =>
    ⟨b1, b2, it, n, [lv], t1, t2, e1, e2, by (clear c2 hlen b2 hr e2 hU h1 h0 b1 e1 hI c3; omega), by (clear hlen b2 hr e2 hU c1 h1 h0 b1 e1 hI c3; omega), lv, rfl, c1, c2, c3⟩
  hVal hU hr h0 h1 := Ct_mono (o_value_I hI hlen hU hr h0 h1) fun _ _ _ _ _ => retN_dup fun v new k1 ⟨b1, b2, vt, v0, t1, t2, t4, e1, e2, c1⟩ =>
    .inr ⟨_, e2, b1, b2, vt, vt, _, 0, 0, .int v0 t2, (v0, 0), t1, t4, e1, rfl, rfl, t2, rfl, c1⟩
  hLaw := by
    rintro tl n kd V q o y k ⟨lv, rfl, c1, c2, c3⟩ ⟨rfl, t, rfl, hv⟩ _ _
    exact ⟨y, ⟨rfl, hv, rfl⟩, dok_int _⟩
  hEdit := by
    rintro news it q o tl n kd k V y x plus t1 t2 t3 u3 ⟨lv, rfl, c1, c2, c3⟩ ⟨rfl, t, rfl, hv⟩ ⟨rfl, _, _⟩ _ _ hm _
    refine Ct_mono (Ct_depth (c_edit_value_I hm (by (clear c3 hI c2 c1 hlen hv hm; omega)) (by (clear hlen hv hm c2 hI c3; omega)) (by (clear c1 hlen hv hm hI c3; omega)) c3) (by decide)) fun h₀ L m s Q hret t h' tk' F N => ?_
    have z := ei_law (v := x.1) (n := n) (le := leastN lv) hv (by (clear c2 hlen hv hm hret N F hI c3; omega)) plus
    exact hret _ t h' tk' ⟨lv, rfl, rfl⟩ z.1 (z.2.imp id And.left) F N
  hEdit2 := by
    rintro news it q o tl n kd k V y x plus T t1 t2 t3 u3 ⟨lv, rfl, c1, c2, c3⟩ ⟨rfl, hv, _⟩ ⟨lv', e, rfl⟩ ⟨rfl, t, rfl⟩ _ _ hm _
    cases e
    exact Ct_depth (c_edit_value_I hm (by (clear hm hlen c1 c2 hI c3; omega)) (by (clear hlen hv hm c2 hI c3; omega)) (by (clear c1 hlen hv hm hI c3; omega)) c3) (by decide)
  hRead := by
    rintro news it lim tl n kd k ln y x plus b T t t1 t2 t3 u3 u4 ⟨lv, rfl, c1, c2, c3⟩ ⟨rfl, hv, rfl⟩ ⟨lv', e, rfl⟩ h0 hl hn _ _ hm hlim
    cases e
    have z := (ei_law (v := x.1) (n := n) (le := leastN lv) hv (by (clear hn hlen hv hl h0 hm c2 hlim hI c3; omega)) plus).2
    have hri : RI (S (EI x.1 n (leastN lv) plus)) x.1 := by
      rcases z with z | z
      · rw [z.1] at h0; cases h0
      · exact z.2
    exact Ct_mono (Ct_depth (c_read_value_I hm hlim (by (clear h0 hm z hri hv hlen c1 c2 hlim hI c3; omega)) hri) (by decide)) fun h₀ L m s Q hret t h' tk' F N => hret _ _ _ h' tk' ⟨rfl, t, rfl⟩ (.inr rfl) F (cons_dup N hm)
  hReads := by
    rintro h g L m news kd x V q o ⟨rfl, t, rfl⟩ _ _ _ _
    exact ⟨_, Reads.int _ _⟩
  hSame := by
    rintro _ tl n kd k V q o y x h ⟨rfl, t, rfl, hv⟩ ⟨rfl, _⟩
    exact ⟨_, Reads.int _ _⟩
theorem gen_L (hI : IntsAre ws ns) (hlen : ns.length ≤ 60) : Gen w mg mb p loose mean pa ra ws (Str.ofString "L") true
    (fun tl n => tl = [] ∧ 1 ≤ n ∧ n ≤ 13)
    (fun kd V _ _ y => kd = 4 ∧ ∃ b : Bool, V = .bool b ∧ y = (if b then 1 else 0, 0))
    (fun _ _ kd y _ x => x = y ∧ kd = 4)
    (fun tl n _ y _ _ _ T => tl = [] ∧ ∃ b : Bool, y = (if b then 1 else 0, 0) ∧ T = S (fieldL (if b then [84] else [70]) n))
    (fun kd x V _ _ => kd = 4 ∧ ∃ b : Bool, V = .bool b ∧ x = (if b then 1 else 0, 0))
    (fun x => .bool (decide (x.1 = 1))) where
  fA := by decide +kernel
  fA2 := by decide +kernel
  fIL := by decide +kernel
  hItem hU hr h0 h1 := Ct_mono (o_item_L hI hlen hU hr h0 h1) fun _ _ _ _ _ => retN_mono fun v new k1 ⟨b1, b2, it, n, t1, t2, t4, e1, e2, c1, c2⟩ =>
    ⟨b1, b2, it, n, [], t1, t2, e1, e2, by (clear hlen b2 hr e2 hU h0 h1 c2 e1 b1 hI; omega), by (clear h1 h0 c1 hlen b2 hr e2 hU e1 b1 hI; omega), rfl, c1, c2⟩
  hVal hU hr h0 h1 := Ct_mono (o_value_L hI hlen hU hr h0 h1) fun _ _ _ _ _ => retN_dup fun v new k1 ⟨b1, b2, vt, b, t1, t2, t4, e1, e2⟩ =>
    .inr ⟨_, e2, b1, b2, vt, vt, _, 4, 0, .bool b, (if b then 1 else 0, 0), t1, t4, e1, rfl, rfl, b, rfl, rfl⟩
  hLaw := by
    rintro tl n kd V q o y k ⟨rfl, c1, c2⟩ ⟨rfl, b, rfl, rfl⟩ _ _
    exact ⟨_, ⟨rfl, rfl⟩, dok_bool _⟩
  hEdit := by
    rintro news it q o tl n kd k V y x plus t1 t2 t3 u3 ⟨rfl, c1, c2⟩ ⟨rfl, b, rfl, rfl⟩ ⟨rfl, _⟩ _ _ hm _
    refine Ct_mono (Ct_depth (c_edit_value_L hm (by (clear c2 hlen hm hI; omega)) (by (clear hlen hm c1 hI; omega))) (by decide)) fun h₀ L m s Q hret t h' tk' F N => ?_
    have z := el_law (n := n) c1 b
    exact hret _ t h' tk' ⟨rfl, b, rfl, rfl⟩ z.1 (.inr z.2.1) F N
  hEdit2 := by
    rintro news it q o tl n kd k V y x plus T t1 t2 t3 u3 ⟨rfl, c1, c2⟩ ⟨rfl, _⟩ ⟨_, b, e, rfl⟩ ⟨rfl, b', rfl, e'⟩ _ _ hm _
    have hb : b' = b := by
      rw [e] at e'; cases b <;> cases b' <;> simp_all
    subst hb
    exact Ct_depth (c_edit_value_L hm (by (clear hlen hm e e' c2 hI; omega)) (by (clear c1 hlen hm e e' hI; omega))) (by decide)
  hRead := by
    rintro news it lim tl n kd k ln y x plus b T t t1 t2 t3 u3 u4 ⟨rfl, c1, c2⟩ ⟨rfl, rfl⟩ ⟨_, b', e, rfl⟩ h0 hl hn _ _ hm hlim
    obtain ⟨j, hj⟩ := (el_law (n := n) c1 b').2.2
    exact Ct_mono (Ct_depth (c_read_value_L hm (by (clear h0 hj e hm hlen c1 hn hlim hI; omega)) hj) (by decide)) fun h₀ L m s Q hret t h' tk' F N => hret _ _ _ h' tk' ⟨rfl, b', rfl, e⟩ (.inr rfl) F (cons_dup N hm)
  hReads := by
    rintro h g L m news kd x V q o ⟨rfl, b, rfl, rfl⟩ _ _ _ _
    have : decide ((if b then (1 : Int) else 0) = 1) = b := by cases b <;> rfl
    show ∃ as, Reads h (.bool b) (.bool (decide ((if b then (1 : Int) else 0) = 1))) as
    rw [this]
    exact ⟨_, Reads.bool _⟩
  hSame := by
    rintro _ tl n kd k V q o y x h ⟨rfl, b, rfl, rfl⟩ ⟨rfl, _⟩
    have : decide ((if b then (1 : Int) else 0) = 1) = b := by cases b <;> rfl
    show ∃ as, Reads h (.bool b) (.bool (decide ((if b then (1 : Int) else 0) = 1))) as
    rw [this]
    exact ⟨_, Reads.bool _⟩
/-! the reals: F, E, D alike -/
def RLawAt (T : Int → Int → Bool → Str) (ok : Int → Int → Prop) (n k m e M P : Int) : Prop := MP 7 M P ∧ MP 15 M P ∧ ok m e ∧ (M = 0 → ok 0 0) ∧ (M ≠ 0 → ok (sg M * (stM M.natAbs : Int)) (P + (stJ M.natAbs : Int))) ∧
  ∀ plus, ((T m e plus).length : Int) = n ∧ (Stars (T m e plus) n ∨ (NoStar (T m e plus) ∧ RR (T m e plus) k M P)) ∧ (M = 0 → T 0 0 plus = T m e plus) ∧ (M ≠ 0 → T (sg M * (stM M.natAbs : Int)) (P + (stJ M.natAbs : Int)) plus = T m e plus)
/-- a number's value as an object: nought's own tuple, or a tuple of the ledger -/
def NumV (V : Value) (q : Addr) (o : Obj) (m e : Int) : Prop := (V = .ref 85 ∧ m = 0 ∧ e = 0) ∨ (V = .ref q ∧ ∃ t5 t6, o = tupO #[.int m t5, .int e t6])
theorem NumV.has {V : Value} {q : Addr} {o : Obj} {m e : Int} {news : List (Addr × Obj)} (h : NumV V q o m e) (hm : (q, o) ∈ news) : ∃ a, V = .ref a ∧ HasT news a m e := by
  rcases h with ⟨rfl, rfl, rfl⟩ | ⟨rfl, t5, t6, rfl⟩
  · exact ⟨_, rfl, .inr ⟨rfl, rfl, rfl⟩⟩
  · exact ⟨_, rfl, .inl ⟨t5, t6, hm⟩⟩
noncomputable def bM (x : Int × Int) : Int := if x.1 = 0 then 0 else sg x.1 * (stM x.1.natAbs : Int)
noncomputable def bP (x : Int × Int) : Int := if x.1 = 0 then 0 else x.2 + (stJ x.1.natAbs : Int)
theorem gen_R {W : Str} {ItemOk : List Value → Int → Prop} {Tf : List Value → Int → Int → Int → Int → Bool → Str} {ok : List Value → Int → Int → Int → Prop} (hI : IntsAre ws ns) (hlen : ns.length ≤ 60)
    (fA : (W == Str.ofString "A") = false) (fA2 : (W != Str.ofString "A") = true) (fI : (W == Str.ofString "I") = false) (fL : (W == Str.ofString "L") = false) (fIL : (Builtin.Str.occurrences (Str.ofString "IL") W 0 (Str.ofString "IL").length 1).isEmpty = !false)
    (hit : ∀ {news : List (Addr × Obj)} {nx : Int → Tok → List (Addr × Obj)} {k : Int} {t0 u : Tok}, (∀ k1 t1, Upd pa (pouO ra k t0) (pouO ra k1 t1) news (nx k1 t1)) → (ra, rowO ws) ∈ news → 0 ≤ k → k ≤ 999900 → Ct w mg mb p loose mean 2 361 [.ref pa, .str W u] news (RetN news nx (fun v new k1 => k ≤ k1 ∧ k1 ≤ k + 3 ∧ ∃ (it : Addr) (n : Int) (tl : List Value) (t1 t2 : Tok), v = .ref it ∧ new = [(it, tupO (.str W t1 :: .int n t2 :: tl).toArray)] ∧ 1 ≤ n ∧ n ≤ 18 ∧ ItemOk tl n)))
    (hlaw : ∀ {tl : List Value} {n k m e : Int}, ItemOk tl n → -1 ≤ k → k ≤ 2 → GoodV m e → RLaw (Tf tl n k) (ok tl k) n k m e)
    (hed : ∀ {news : List (Addr × Obj)} {it q : Addr} {tl : List Value} {n kd k m e : Int} {plus : Bool} {t1 t2 t3 u3 : Tok}, ItemOk tl n → (kd = 1 ∨ kd = 2) → (it, tupO (.str W t1 :: .int n t2 :: tl).toArray) ∈ news → HasT news q m e → ok tl k m e → -1 ≤ k → k ≤ 2 →
      Ct w mg mb p loose mean 7 324 [.ref it, .int kd t3, .ref q, .int k u3, .bool plus] news (RetP news fun t => .str (Tf tl n k m e plus) t))
    (hrd : ∀ {news : List (Addr × Obj)} {it lim : Addr} {tl : List Value} {n kd k ln M P : Int} {b : Bool} {T : Str} {t t1 t2 t3 u3 u4 : Tok}, ItemOk tl n → (kd = 1 ∨ kd = 2) → (it, tupO (.str W t1 :: .int n t2 :: tl).toArray) ∈ news → LimIn w news lim → T.length ≤ 100 → RR T k M P → MP (if kd = 1 then 7 else 15) M P →
      Ct w mg mb p loose mean 6 205 [.ref it, .int kd t3, .int ln u4, .str T t, .int k u3, .bool b, .ref lim] news (RetM (M = 0) news (sg M * (stM M.natAbs : Int)) (P + (stJ M.natAbs : Int)))) :
    Gen w mg mb p loose mean pa ra ws W false ItemOk
      (fun kd V q o y => (kd = 1 ∨ kd = 2) ∧ GoodV y.1 y.2 ∧ NumV V q o y.1 y.2)
      (fun tl n kd y k x => (kd = 1 ∨ kd = 2) ∧ RLawAt (Tf tl n k) (ok tl k) n k y.1 y.2 x.1 x.2)
      (fun tl n _ y k _ plus T => T = Tf tl n k y.1 y.2 plus)
      (fun kd x V q o => (kd = 1 ∨ kd = 2) ∧ NumV V q o (bM x) (bP x))
      (fun x => .tuple [.int (bM x), .int (bP x)]) where
  fA := fA
  fA2 := fA2
  fIL := fIL
  hItem := hit
  hVal hU hr h0 h1 := Ct_mono (o_value_R hI hlen hU hr h0 h1 fI fL fA) fun _ _ _ _ _ => retN_dup fun v new k1 ⟨b1, b2, vt, q, kd, m, e, t1, t4, more, e1, e2, c1, c2, c3⟩ => by
    rcases c3 with ⟨rfl, rfl, rfl, rfl⟩ | ⟨t5, t6, rfl⟩
    · exact .inr ⟨_, e2, b1, b2, vt, vt, _, kd, 0, .ref 85, (0, 0), t1, t4, e1, rfl, c1, c2, .inl ⟨rfl, rfl, rfl⟩⟩
    · exact .inl ⟨b1, b2, vt, q, _, kd, 0, .ref q, (m, e), t1, t4, e1, e2, c1, c2, .inr ⟨rfl, t5, t6, rfl⟩⟩
  hLaw := by
    rintro tl n kd V q o y k h1 ⟨hk, hg, _⟩ h2 h3
    obtain ⟨M, P, h⟩ := hlaw h1 h2 h3 hg
    exact ⟨(M, P), ⟨hk, h⟩, dok_tup _ _⟩
  hEdit := by
    rintro news it q o tl n kd k V y x plus t1 t2 t3 u3 h1 ⟨hk, hg, hn⟩ ⟨_, hl⟩ h2 h3 hm hq
    obtain ⟨a, rfl, ha⟩ := hn.has hq
    refine Ct_mono (hed h1 hk hm ha hl.2.2.1 h2 h3) fun h₀ L m s Q hret t h' tk' F N => ?_
    have z := hl.2.2.2.2.2 plus
    exact hret _ t h' tk' rfl z.1 (z.2.1.imp id And.left) F N
  hEdit2 := by
    rintro news it q o tl n kd k V y x plus T t1 t2 t3 u3 h1 ⟨hk, hl⟩ rfl ⟨_, hn⟩ h2 h3 hm hq
    obtain ⟨a, rfl, ha⟩ := hn.has hq
    have z := hl.2.2.2.2.2 plus
    have hok : ok tl k (bM x) (bP x) ∧ Tf tl n k (bM x) (bP x) plus = Tf tl n k y.1 y.2 plus := by
      unfold bM bP
      by_cases hz : x.1 = 0
      · rw [if_pos hz, if_pos hz]; exact ⟨hl.2.2.2.1 hz, z.2.2.1 hz⟩
      · rw [if_neg hz, if_neg hz]; exact ⟨hl.2.2.2.2.1 hz, z.2.2.2 hz⟩
    rw [← hok.2]
    exact hed h1 hk hm ha hok.1 h2 h3
  hRead := by
    rintro news it lim tl n kd k ln y x plus b T t t1 t2 t3 u3 u4 h1 ⟨hk, hl⟩ rfl h0 hlen hn h2 h3 hm hlim
    have z := (hl.2.2.2.2.2 plus).2.1
    have hrr : RR (Tf tl n k y.1 y.2 plus) k x.1 x.2 := by
      rcases z with z | z
      · rw [z.1] at h0; cases h0
      · exact z.2
    have hmp : MP (if kd = 1 then 7 else 15) x.1 x.2 := by
      split
      · exact hl.1
      · exact hl.2.1
    refine Ct_mono (hrd h1 hk hm hlim (by (clear fIL hrr hl h0 hm hk hmp z hlaw hed hit hrd h2 fL fA2 fI fA h3 hlim hI h1; omega)) hrr hmp) fun h₀ L m s Q hret => ⟨fun hz h' tk' F N => ?_, fun hz q t1 t2 h' tk' F N hlt => ?_⟩
    · exact hret _ _ _ h' tk' ⟨hk, .inl ⟨rfl, if_pos hz, if_pos hz⟩⟩ (.inr rfl) F (cons_dup N hm)
    · exact hret _ q _ h' tk' ⟨hk, .inr ⟨rfl, t1, t2, by rw [show bM x = _ from if_neg hz, show bP x = _ from if_neg hz]⟩⟩ (.inl hlt) F N
  hReads := by
    rintro h g L m news kd x V q o ⟨hk, hn⟩ hm N F X
    obtain ⟨a, rfl, ha⟩ := hn.has hm
    obtain ⟨t1, t2, o, h1, h2, n, h3⟩ := HasT.tup ha N (fun _ h => h) (X.keeps F.keep)
    exact ⟨_, reads_tuple_at h1 h2 h3 (ReadsAll.cons (Reads.int _ _) (ReadsAll.cons (Reads.int _ _) ReadsAll.nil))⟩
  hSame := fun h => by cases h
theorem c_turn_F {w : World} {mg mb p loose mean} {pa ra : Addr} {ws : List Value} {ns : List Int} {rest : List (Addr × Obj)} {k : Int} {t0 u : Tok} (hI : IntsAre ws ns) (hlen : ns.length ≤ 60) (hk0 : 0 ≤ k) (hk1 : k ≤ 999800) (hra : ra ≠ pa) (hne : ∀ p ∈ rest, p.1 ≠ pa) :
    Ct w mg mb p loose mean 10 371 [.ref pa, .str (Str.ofString "F") u] ((pa, pouO ra k t0) :: (ra, rowO ws) :: rest) (fun h₀ L m s Q => ∀ (b9 : Bool) (k1 : Int) (t3 : Tok) (h' : Heap) (tk' : Nat), b9 = true → k ≤ k1 → k1 ≤ k + 20 → Fr h₀ L h' m → News h₀ L h' ((pa, pouO ra k1 t3) :: (ra, rowO ws) :: rest) → Q (.bool b9) { s with heap := h', toks := tk' }) := by
  have hG := gen_R (w := w) (mg := mg) (mb := mb) (p := p) (loose := loose) (mean := mean) (pa := pa) (ra := ra) (W := Str.ofString "F") (ItemOk := fun tl n => ∃ d t4, tl = [.int d t4] ∧ 6 ≤ n ∧ n ≤ 18 ∧ 0 ≤ d ∧ d ≤ 5)
    (Tf := fun tl n k m e plus => S (EF m e n (match tl with | [.int d _] => d | _ => 0) k plus)) (ok := fun tl k m e => okF (match tl with | [.int d _] => d | _ => 0) k m e) hI hlen (by decide +kernel) (by decide +kernel) (by decide +kernel) (by decide +kernel) (by decide +kernel)
    (fun hU hr h0 h1 => Ct_mono (o_item_F hI hlen hU hr h0 h1) fun _ _ _ _ _ => retN_mono fun v new k1 ⟨b1, b2, it, n, d, t1, t2, t4, e1, e2, c1, c2, c3, c4⟩ => ⟨b1, b2, it, n, [.int d t4], t1, t2, e1, e2, by (clear c3 hlen b2 hr hra e2 hU hne c2 h1 h0 hk1 hk0 c4 e1 b1 hI; omega), by (clear c1 c3 hlen b2 hr hra e2 hU hne h1 h0 hk1 hk0 c4 e1 b1 hI; omega), d, t4, rfl, c1, c2, c3, c4⟩)
    (by rintro tl n k m e ⟨d, t4, rfl, c1, c2, c3, c4⟩ h2 h3 hg; exact ef_law hg (by (clear hk0 hk1 c4 c2 c3 h3 hlen h2 hra hne hI hg; omega)) c3 c4 h2 h3)
    (by rintro news it q tl n kd k m e plus t1 t2 t3 u3 ⟨d, t4, rfl, c1, c2, c3, c4⟩ hk hm ha ⟨o1, o2, o3, o4⟩ h2 h3; exact c_edit_value_F (d := d) hk hm ha o1 o2 o3 o4 (by (clear hra hm o3 hk o2 hne hlen o4 o1 c3 c2 c1 hk1 c4 hk0 ha hI; omega)) (by (clear o1 o4 hlen h2 hra hm o3 hk o2 hne c2 c1 hk1 c4 hk0 h3 ha hI; omega)) (by (clear hk1 c1 c2 c3 o1 o4 hlen h2 hra hm o3 hk o2 hne hk0 h3 ha hI; omega)) (by (clear c2 c3 o1 o4 hlen h2 hra hm o3 hk o2 hne hk1 c4 hk0 h3 ha hI; omega)) (by (clear c3 o1 o4 hlen h2 hra hm o3 hk o2 hne c1 hk1 c4 hk0 h3 ha hI; omega)))
    (by rintro news it lim tl n kd k ln M P b T t t1 t2 t3 u3 u4 ⟨d, t4, rfl, c1, c2, c3, c4⟩ hk hm hl hx hr hmp; exact c_read_value_F hm hl hk hx hr hmp)
  exact c_turn_gen hI hlen hk0 hk1 hra hne hG hG.fA hG.fA2
theorem c_turn_D {w : World} {mg mb p loose mean} {pa ra : Addr} {ws : List Value} {ns : List Int} {rest : List (Addr × Obj)} {k : Int} {t0 u : Tok} (hI : IntsAre ws ns) (hlen : ns.length ≤ 60) (hk0 : 0 ≤ k) (hk1 : k ≤ 999800) (hra : ra ≠ pa) (hne : ∀ p ∈ rest, p.1 ≠ pa) :
    Ct w mg mb p loose mean 10 371 [.ref pa, .str (Str.ofString "D") u] ((pa, pouO ra k t0) :: (ra, rowO ws) :: rest) (fun h₀ L m s Q => ∀ (b9 : Bool) (k1 : Int) (t3 : Tok) (h' : Heap) (tk' : Nat), b9 = true → k ≤ k1 → k1 ≤ k + 20 → Fr h₀ L h' m → News h₀ L h' ((pa, pouO ra k1 t3) :: (ra, rowO ws) :: rest) → Q (.bool b9) { s with heap := h', toks := tk' }) := by
  have hG := gen_R (w := w) (mg := mg) (mb := mb) (p := p) (loose := loose) (mean := mean) (pa := pa) (ra := ra) (W := Str.ofString "D") (ItemOk := fun tl n => ∃ d t4, tl = [.int d t4] ∧ 6 ≤ n ∧ n ≤ 18 ∧ 2 ≤ d ∧ d ≤ 7)
    (Tf := fun tl n k m e plus => S (EE [68] m e n (match tl with | [.int d _] => d | _ => 0) k 2 plus)) (ok := fun _ _ m e => okE m e) hI hlen (by decide +kernel) (by decide +kernel) (by decide +kernel) (by decide +kernel) (by decide +kernel)
    (fun hU hr h0 h1 => Ct_mono (o_item_D hI hlen hU hr h0 h1) fun _ _ _ _ _ => retN_mono fun v new k1 ⟨b1, b2, it, n, d, t1, t2, t4, e1, e2, c1, c2, c3, c4⟩ => ⟨b1, b2, it, n, [.int d t4], t1, t2, e1, e2, by (clear c3 hlen b2 hr hra e2 hU hne c2 h1 h0 hk1 hk0 c4 e1 b1 hI; omega), by (clear c1 c3 hlen b2 hr hra e2 hU hne h1 h0 hk1 hk0 c4 e1 b1 hI; omega), d, t4, rfl, c1, c2, c3, c4⟩)
    (by rintro tl n k m e ⟨d, t4, rfl, c1, c2, c3, c4⟩ h2 h3 hg; exact ee_law (.inr rfl) hg (by (clear hk0 hk1 c4 c2 c3 h3 hlen h2 hra hne hI hg; omega)) c3 c4 h2 h3)
    (by rintro news it q tl n kd k m e plus t1 t2 t3 u3 ⟨d, t4, rfl, c1, c2, c3, c4⟩ hk hm ha ⟨o1, o2⟩ h2 h3; exact c_edit_value_D (d := d) hk hm ha o1 o2 c3 c4 h2 h3 (by (clear c2 c3 o1 o2 hlen h2 hra hm hk hne hk1 c4 hk0 h3 ha hI; omega)) (by (clear c3 o1 o2 hlen h2 hra hm hk hne c1 hk1 c4 hk0 h3 ha hI; omega)))
    (by rintro news it lim tl n kd k ln M P b T t t1 t2 t3 u3 u4 ⟨d, t4, rfl, c1, c2, c3, c4⟩ hk hm hl hx hr hmp; exact c_read_value_D hm hl hk hx hr hmp)
  exact c_turn_gen hI hlen hk0 hk1 hra hne hG hG.fA hG.fA2
theorem c_turn_E {w : World} {mg mb p loose mean} {pa ra : Addr} {ws : List Value} {ns : List Int} {rest : List (Addr × Obj)} {k : Int} {t0 u : Tok} (hI : IntsAre ws ns) (hlen : ns.length ≤ 60) (hk0 : 0 ≤ k) (hk1 : k ≤ 999800) (hra : ra ≠ pa) (hne : ∀ p ∈ rest, p.1 ≠ pa) :
    Ct w mg mb p loose mean 10 371 [.ref pa, .str (Str.ofString "E") u] ((pa, pouO ra k t0) :: (ra, rowO ws) :: rest) (fun h₀ L m s Q => ∀ (b9 : Bool) (k1 : Int) (t3 : Tok) (h' : Heap) (tk' : Nat), b9 = true → k ≤ k1 → k1 ≤ k + 20 → Fr h₀ L h' m → News h₀ L h' ((pa, pouO ra k1 t3) :: (ra, rowO ws) :: rest) → Q (.bool b9) { s with heap := h', toks := tk' }) := by
  have hG := gen_R (w := w) (mg := mg) (mb := mb) (p := p) (loose := loose) (mean := mean) (pa := pa) (ra := ra) (W := Str.ofString "E") (ItemOk := fun tl n => ∃ d t4 sv, tl = [.int d t4, sv] ∧ 6 ≤ n ∧ n ≤ 18 ∧ 2 ≤ d ∧ d ≤ 7 ∧ SizeOk sv)
    (Tf := fun tl n k m e plus => S (EE [69] m e n (match tl with | [.int d _, _] => d | _ => 0) k (match tl with | [_, sv] => szN sv | _ => 0) plus)) (ok := fun _ _ m e => okE m e) hI hlen (by decide +kernel) (by decide +kernel) (by decide +kernel) (by decide +kernel) (by decide +kernel)
    (fun hU hr h0 h1 => Ct_mono (o_item_E hI hlen hU hr h0 h1) fun _ _ _ _ _ => retN_mono fun v new k1 ⟨b1, b2, it, n, d, sv, t1, t2, t4, e1, e2, c1, c2, c3, c4, c5⟩ => ⟨b1, b2, it, n, [.int d t4, sv], t1, t2, e1, e2, by (clear hk1 h0 h1 c2 c4 c3 hlen b2 hr hra e2 hU hne hk0 b1 e1 hI c5; omega), by (clear c4 c3 hlen b2 hr hra e2 hU hne h1 h0 hk1 c1 hk0 b1 e1 hI c5; omega), d, t4, sv, rfl, c1, c2, c3, c4, c5⟩)
    (by rintro tl n k m e ⟨d, t4, sv, rfl, c1, c2, c3, c4, c5⟩ h2 h3 hg; exact ee_law (.inl rfl) hg (by (clear h3 hk0 hlen h2 hra hne c4 c3 hk1 c2 hI hg c5; omega)) c3 c4 h2 h3)
    (by rintro news it q tl n kd k m e plus t1 t2 t3 u3 ⟨d, t4, sv, rfl, c1, c2, c3, c4, c5⟩ hk hm ha ⟨o1, o2⟩ h2 h3; exact c_edit_value_E (d := d) hk hm ha o1 o2 c3 c4 c5 h2 h3 (by (clear c2 hk0 c3 o1 o2 hlen h2 hra hm hk hne hk1 c4 h3 ha hI c5; omega)) (by (clear hk0 c3 o1 o2 hlen h2 hra hm hk hne c1 hk1 c4 h3 ha hI c5; omega)))
    (by rintro news it lim tl n kd k ln M P b T t t1 t2 t3 u3 u4 ⟨d, t4, sv, rfl, c1, c2, c3, c4, c5⟩ hk hm hl hx hr hmp; exact c_read_value_E hm hl hk hx hr hmp)
  exact c_turn_gen hI hlen hk0 hk1 hra hne hG hG.fA hG.fA2
theorem c_turn_I {w : World} {mg mb p loose mean} {pa ra : Addr} {ws : List Value} {ns : List Int} {rest : List (Addr × Obj)} {k : Int} {t0 u : Tok} (hI : IntsAre ws ns) (hlen : ns.length ≤ 60) (hk0 : 0 ≤ k) (hk1 : k ≤ 999800) (hra : ra ≠ pa) (hne : ∀ p ∈ rest, p.1 ≠ pa) :
    Ct w mg mb p loose mean 10 371 [.ref pa, .str (Str.ofString "I") u] ((pa, pouO ra k t0) :: (ra, rowO ws) :: rest) (fun h₀ L m s Q => ∀ (b9 : Bool) (k1 : Int) (t3 : Tok) (h' : Heap) (tk' : Nat), b9 = true → k ≤ k1 → k1 ≤ k + 20 → Fr h₀ L h' m → News h₀ L h' ((pa, pouO ra k1 t3) :: (ra, rowO ws) :: rest) → Q (.bool b9) { s with heap := h', toks := tk' }) :=
  c_turn_gen hI hlen hk0 hk1 hra hne (gen_I hI hlen) (by decide +kernel) (by decide +kernel)
theorem c_turn_L {w : World} {mg mb p loose mean} {pa ra : Addr} {ws : List Value} {ns : List Int} {rest : List (Addr × Obj)} {k : Int} {t0 u : Tok} (hI : IntsAre ws ns) (hlen : ns.length ≤ 60) (hk0 : 0 ≤ k) (hk1 : k ≤ 999800) (hra : ra ≠ pa) (hne : ∀ p ∈ rest, p.1 ≠ pa) :
    Ct w mg mb p loose mean 10 371 [.ref pa, .str (Str.ofString "L") u] ((pa, pouO ra k t0) :: (ra, rowO ws) :: rest) (fun h₀ L m s Q => ∀ (b9 : Bool) (k1 : Int) (t3 : Tok) (h' : Heap) (tk' : Nat), b9 = true → k ≤ k1 → k1 ≤ k + 20 → Fr h₀ L h' m → News h₀ L h' ((pa, pouO ra k1 t3) :: (ra, rowO ws) :: rest) → Q (.bool b9) { s with heap := h', toks := tk' }) :=
  c_turn_gen hI hlen hk0 hk1 hra hne (gen_L hI hlen) (by decide +kernel) (by decide +kernel)
end

end
section
theorem lnC23_1 : True := by
  k_with_none
  k_with "omega" => ((try clear hret); (try clear hk); (try clear hd); (try clear hu); first | lia | omega +splitDisjunctions)
  trivial
theorem lnC23_2 : True := by
  k_with "execs cons" => ((with_reducible refine wpAny_execs_cons ?_); try dsimp only)
  k_with "execs nil" => refine wpAny_execs_nil ?_
  k_with "call ref" => (k_here; (with_reducible show wpAny _ _ (PySem.call (Value.ref 354) _) _ _ _); (rename News _ _ _ _ => cN9); k_dflt (refine' c_chip (by assumption) (by assumption) (by intro tq9; k_upd) (by k_mem) (by omega) (by omega) (by decide) (by decide) _ _ _ _ _ _ _ _ _ _ _ _ _ _ _ _ _ (by k_asm) (by k_asm) (by k_asm) cN9 (by k_asm) (by first | exact rfl | assumption) (by first | exact room9 (by assumption) (by rfl) | ktr_room) (by first | exact units9 (by assumption) (by rfl) | ktr_units) ?_); intro r9 t9 t91 h9 tk9 hr91 hr92 F9 N9; (try dsimp only at N9); (try dsimp only); (try k_fold))
  k_with "k_all" => assumption
  k_with "k_mem" => assumption
  k_with "subscriptTail" => (k_here; (with_reducible show wpAny _ _ (subscriptTail _ _ (Value.ref _) (Value.int _ _)) _ _ _); k_dflt (refine' item_tupleT (News.isTup (by k_asm) (by k_mem)) (by decide) (by decide) (by rfl) (by rfl) ?_); k_whole)
  trivial

def WA (wv : Value) (x : Str) (wd : Int) : Prop := (wv = .none ∧ wd = (x.length : Int)) ∨ ∃ i t, wv = .int i t ∧ wd = i ∧ 1 ≤ i ∧ i ≤ 13
theorem wa_of {wv : Value} {x : Str} (h : wv = .none ∨ ∃ i t, wv = .int i t ∧ 1 ≤ i ∧ i ≤ 13) : ∃ wd, WA wv x wd := by
  rcases h with h | ⟨i, t, h, h1, h2⟩
  · exact ⟨_, .inl ⟨h, rfl⟩⟩
  · exact ⟨_, .inr ⟨i, t, h, rfl, h1, h2⟩⟩
theorem WA.ok {wv : Value} {x : Str} {wd : Int} (h : WA wv x wd) (hx : x.length ≤ 6) : WideOk wv ∧ wInt x wv = wd ∧ 0 ≤ wd ∧ wd ≤ 13 := by
  rcases h with ⟨rfl, rfl⟩ | ⟨i, t, rfl, rfl, h1, h2⟩
  · exact ⟨.inl rfl, rfl, by (clear hx; omega), by omega⟩
  · exact ⟨.inr ⟨_, _, rfl, by (clear hx h2; omega), by (clear h1 hx; omega)⟩, rfl, by (clear hx h2; omega), by (clear h1 hx; omega)⟩
theorem WA.len {wv : Value} {x y : Str} {wd : Int} (h : WA wv x wd) (hy : y.length = x.length) : wInt y wv = wd := by
  rcases h with ⟨rfl, rfl⟩ | ⟨i, t, rfl, rfl, h1, h2⟩
  · show (y.length : Int) = _; rw [hy]
  · rfl
/-- what is read of a text's field -/
noncomputable def bkA (T x : Str) : Str := S (RT (cs T) (x.length : Int))
theorem bk_len (T x : Str) : (bkA T x).length = x.length := by
  have := rt_len (l := cs T) (n := (x.length : Int)) (by omega)
  unfold bkA; rw [len_S]; omega
theorem bk_again {T x : Str} {wd : Int} (hT : T = S (ET (cs x) wd)) (h0 : 0 ≤ wd) : S (ET (cs (bkA T x)) wd) = T := by
  subst hT
  unfold bkA
  rw [cs_S, cs_S, len_cs, et_again h0]
theorem bk_same {T x : Str} {wd : Int} (hT : T = S (ET (cs x) wd)) (h : (x.length : Int) ≤ wd) : bkA T x = x := by
  subst hT
  unfold bkA
  rw [cs_S, len_cs, rt_back (by rw [← len_cs]; exact h), S_cs]
theorem e_A1 {w : World} {mg mb p loose mean news} {it : Addr} {k wd : Int} {x : Str} {wv : Value} {plus : Bool} {t0 t2 t3 u3 : Tok} (hit : (it, tupO #[.str (Str.ofString "A") t0, wv]) ∈ news) (hw : WA wv x wd) (hx : x.length ≤ 6) :
    Ct w mg mb p loose mean 5 324 [.ref it, .int 5 t2, .str x t3, .int k u3, .bool plus] news (fun h₀ L m s Q => ∀ (T : Str) (t : Tok) (h' : Heap) (tk' : Nat), T = S (ET (cs x) wd) → (T.length : Int) = wd → wd ≤ 13 → Fr h₀ L h' m → News h₀ L h' news → Q (.str T t) { s with heap := h', toks := tk' }) :=
  Ct_mono (c_edit_value_A hit (by (clear hit hw; omega)) (hw.ok hx).1) fun h₀ L m s Q hret t h' tk' F N => by
    rw [(hw.ok hx).2.1]
    exact hret _ t h' tk' rfl (by rw [len_S]; exact et_len (hw.ok hx).2.2.1) (hw.ok hx).2.2.2 F N
theorem e_A2 {w : World} {mg mb p loose mean news} {it : Addr} {k wd : Int} {x T : Str} {wv : Value} {plus : Bool} {t0 t2 t3 u3 : Tok} (hit : (it, tupO #[.str (Str.ofString "A") t0, wv]) ∈ news) (hw : WA wv x wd) (hx : x.length ≤ 6) (hT : T = S (ET (cs x) wd)) :
    Ct w mg mb p loose mean 5 324 [.ref it, .int 5 t2, .str (bkA T x) t3, .int k u3, .bool plus] news (RetP news fun t => .str T t) := by
  have h := c_edit_value_A (k := k) (plus := plus) (t2 := t2) (t3 := t3) (u3 := u3) (x := bkA T x) (w := w) (mg := mg) (mb := mb) (p := p) (loose := loose) (mean := mean) hit (by rw [bk_len]; (clear hit hT hw; omega)) (hw.ok hx).1
  rw [hw.len (bk_len T x), bk_again hT (hw.ok hx).2.2.1] at h
  exact h
theorem r_A {w : World} {mg mb p loose mean news} {it lim : Addr} {k wd : Int} {x T : Str} {wv : Value} {b : Bool} {t ukd uln usc t0 : Tok} (hit : (it, tupO #[.str (Str.ofString "A") t0, wv]) ∈ news) (hx : x.length ≤ 6) (hl : (T.length : Int) = wd) (hd : wd ≤ 13) :
    Ct w mg mb p loose mean 4 205 [.ref it, .int 5 ukd, .int (x.length : Int) uln, .str T t, .int k usc, .bool b, .ref lim] news (RetP news fun t => .str (bkA T x) t) :=
  c_read_value_A hit (by (clear hx hit; omega)) (by (clear hl hd hx hit; omega)) (by (clear hit hd hl; omega))
theorem dok_str {x : Str} (h : TxtOk x) : DOk (.str x) := by
  have h' : PyData.strOk x = true := by
    unfold PyData.strOk
    rw [Array.all_eq_true_iff_forall_mem]
    intro c hc
    exact decide_eq_true (h c (by unfold cs; exact Array.mem_toList_iff.mpr hc))
  exact ⟨by simp [PyData.eqv], by simp [PySem.SeqAt.shaped, PyData.canLay0, PyData.depth, h'], by simp [PyData.eqv, PyData.eqvAll], by simp [PySem.SeqAt.shaped, PyData.canLay0, PyData.canLayAll0, PyData.depth, PyData.depthAll, h']⟩
theorem cmp_A {prog : Program} {w : World} {A : Around} {E : Value → Shared → Prop} {s : Shared} {Q : Value → Shared → Prop} {h₀ : Heap} {L D l : Addr} {led : List (Addr × Obj)} {T x : Str} {wd : Int} {t1 t2 t3 : Tok} (N : News h₀ L s.heap led) (hD : (D, LCg.lst [.str (bkA T x) t1, .str (bkA T x) t2]) ∈ led) (hl : (l, PySem.W.listOf #[.str x t3, .str x t3] 0) ∈ led) (hT : T = S (ET (cs x) wd)) (hw : (x.length : Int) ≤ wd) (hok : TxtOk x) (hu : A.units + 64 < cLine) (h : Q (.bool false) s) : wpAny (model prog w) A (compareOp .NotEq (.ref D) (.ref l)) Q E s := by
  rw [bk_same hT hw] at hD
  exact cmp_back N hD hl ⟨_, Reads.str _ _⟩ ⟨_, Reads.str _ _⟩ ⟨_, Reads.str _ _⟩ (dok_str hok) hu h
def End3 (s : Shared) (h₀ : Heap) (L : Addr) (m : Str → Option Value) (led : List (Addr × Obj)) (wd : Int) (v : Value) (s' : Shared) : Prop :=
  ∃ t h' tk', v = .int wd t ∧ s' = { s with heap := h', toks := tk' } ∧ Fr h₀ L h' m ∧ News h₀ L h' led
theorem End3.intro {s : Shared} {h₀ : Heap} {L : Addr} {m : Str → Option Value} {led : List (Addr × Obj)} {wd : Int} {h' : Heap} {tk' : Nat} {t : Tok} (F : Fr h₀ L h' m) (N : News h₀ L h' led) : End3 s h₀ L m led wd (.int wd t) { s with heap := h', toks := tk' } := ⟨t, h', tk', rfl, rfl, F, N⟩
theorem join_int {M : Model} {A : Around} {t : Sem Value} {Q : Value → Shared → Prop} {E : Value → Shared → Prop} {s : Shared} {h₀ : Heap} {L : Addr} {m : Str → Option Value} {led : List (Addr × Obj)} {wv : Value} {x : Str} {wd : Int} (hw : WA wv x wd) (_ : Fr h₀ L s.heap m) (_ : News h₀ L s.heap led)
    (h1 : JoinMark → WA wv x wd → wpAny M A t (End3 s h₀ L m led wd) E s)
    (h2 : ∀ t h' tk', Fr h₀ L h' m → News h₀ L h' led → Q (.int wd t) { s with heap := h', toks := tk' }) : wpAny M A t Q E s :=
  wpAny_mono (h1 trivial hw) (fun v s' h => by obtain ⟨t, h', tk', rfl, rfl, F, N⟩ := h; exact h2 t h' tk' F N) fun _ _ e => e
/-- a text comes back, the ledger as it was -/
def End4 (s : Shared) (h₀ : Heap) (L : Addr) (m : Str → Option Value) (y : Str) (led : List (Addr × Obj)) (v : Value) (s' : Shared) : Prop :=
  ∃ t h' tk', v = .str y t ∧ s' = { s with heap := h', toks := tk' } ∧ Fr h₀ L h' m ∧ News h₀ L h' led
theorem End4.intro {s : Shared} {h₀ : Heap} {L : Addr} {m : Str → Option Value} {led : List (Addr × Obj)} {y : Str} {h' : Heap} {tk' : Nat} {t : Tok} (F : Fr h₀ L h' m) (N : News h₀ L h' led) : End4 s h₀ L m y led (.str y t) { s with heap := h', toks := tk' } := ⟨t, h', tk', rfl, rfl, F, N⟩
section
open PyProof.Rows.LCg
variable {prog : Program} {w : World} {A : Around} {s : Shared} {h₀ : Heap} {L : Addr} {m : Str → Option Value} {env : Env} {elt : Expr} {y : Str} {scope : Scope} {cl : List (Str × Addr)} {S9 : List (Addr × Obj) → Prop} {Fin : List Value → List (Addr × Obj) → Prop} {led : List (Addr × Obj)}
theorem rest2A {it : Addr} {x T : Str} {wd : Int} {wv : Value} {t1 : Tok} (_ : T = S (ET (cs x) wd)) (hdx : (it, tupO #[.str (Str.ofString "A") t1, wv]) ∈ led) (hS : ∀ l', (∀ p ∈ led, p ∈ l') → S9 l')
    (turn : ∀ (b : Bool) (e : Addr × Obj) I oI C oC D m₂ ys h tk (E' : Value → Shared → Prop), NsObj oC m₂ → m₂ y = some (.bool b) → Fr h₀ L h m → News h₀ L h ((I, oI) :: (C, oC) :: (D, lst ys) :: e :: led) → Off3 I C D (e :: led) → ((@Ne Nat I C) ∧ (@Ne Nat I D) ∧ (@Ne Nat C D)) →
      wpAny (model prog w) A (eval elt (compEnvC scope cl C env)) (End4 s h₀ L m (bkA T x) ((I, oI) :: (C, oC) :: (D, lst ys) :: e :: led)) E' { s with heap := h, toks := tk })
    (fin : ∀ ta qa oa tb qb ob, Fin [.str (bkA T x) ta, .str (bkA T x) tb] ((qb, ob) :: (qa, oa) :: led)) :
    CompRest prog w A h₀ L m env elt y scope cl s S9 (fun i v => (#[Value.bool false, Value.bool true] : Array Value)[i]? = some v) Fin 2 0 [] led :=
  rest2 (VV := fun V _ _ => ∃ t, V = .str (bkA T x) t) hdx hS (fun b e I oI C oC D m₂ ys h tk E' hC hx F N off ne => wpAny_mono (turn b e I oI C oC D m₂ ys h tk E' hC hx F N off ne) (fun v s' hq => by
      obtain ⟨t, h', tk', rfl, rfl, F', N'⟩ := hq
      exact End1.intro F' (cons_dup N' (.tail _ (.tail _ (.tail _ (.tail _ hdx))))) ⟨t, rfl⟩ (.inr rfl)) fun _ _ e => e)
    (fun va qa oa vb qb ob ⟨ta, ha⟩ ⟨tb, hb⟩ => by subst ha; subst hb; exact fin ta qa oa tb qb ob)
end
theorem vA_of {v : Value} {y : Str} {ta tb : Tok} (hv : v = .str y ta ∨ v = .str y tb) : ∃ t, v = .str y t := by
  rcases hv with rfl | rfl
  · exact ⟨_, rfl⟩
  · exact ⟨_, rfl⟩
theorem lnC23_3 : True := by
  k_with "k_ne" => (refine neN ?_; (try dsimp only); first
  | (exact Nat.ne_of_lt (ab0 (by with_reducible assumption)))
  | (exact Nat.ne_of_gt (ab0 (by with_reducible assumption)))
  | (exact Nat.ne_of_lt (ab1 (by with_reducible assumption)))
  | (exact Nat.ne_of_gt (ab1 (by with_reducible assumption)))
  | (exact Nat.ne_of_lt (ab2 (by with_reducible assumption)))
  | (exact Nat.ne_of_gt (ab2 (by with_reducible assumption)))
  | (exact Nat.ne_of_lt (ab3 (by with_reducible assumption)))
  | (exact Nat.ne_of_gt (ab3 (by with_reducible assumption)))
  | (exact Nat.ne_of_lt (ab4 (by with_reducible assumption)))
  | (exact Nat.ne_of_gt (ab4 (by with_reducible assumption)))
  | (exact Nat.ne_of_lt (ab5 (by with_reducible assumption)))
  | (exact Nat.ne_of_gt (ab5 (by with_reducible assumption)))
  | (exact Nat.ne_of_lt (ab6 (by with_reducible assumption)))
  | (exact Nat.ne_of_gt (ab6 (by with_reducible assumption)))
  | (exact Nat.ne_of_lt (ab7 (by with_reducible assumption) (by with_reducible assumption)))
  | (exact Nat.ne_of_gt (ab7 (by with_reducible assumption) (by with_reducible assumption)))
  | (exact Nat.ne_of_lt (up1 (by with_reducible assumption)))
  | (exact Nat.ne_of_gt (up1 (by with_reducible assumption)))
  | (exact Nat.ne_of_lt (up2 (by with_reducible assumption)))
  | (exact Nat.ne_of_gt (up2 (by with_reducible assumption)))
  | (exact Nat.ne_of_lt (up3 (by with_reducible assumption)))
  | (exact Nat.ne_of_gt (up3 (by with_reducible assumption)))
  | (exact Nat.ne_of_lt (up4 (by with_reducible assumption)))
  | (exact Nat.ne_of_gt (up4 (by with_reducible assumption)))
  | (exact Nat.ne_of_lt (up5 (by with_reducible assumption)))
  | (exact Nat.ne_of_gt (up5 (by with_reducible assumption)))
  | (exact Nat.ne_of_lt (up6 (by with_reducible assumption)))
  | (exact Nat.ne_of_gt (up6 (by with_reducible assumption)))
  | (exact Nat.ne_of_lt (up7 (by with_reducible assumption)))
  | (exact Nat.ne_of_gt (up7 (by with_reducible assumption)))
  | (with_reducible exact Nat.ne_of_lt (cn1 _))
  | (with_reducible exact Nat.ne_of_gt (cn1 _))
  | (with_reducible exact Nat.ne_of_lt (cn2 _))
  | (with_reducible exact Nat.ne_of_gt (cn2 _))
  | (with_reducible exact Nat.ne_of_lt (cn3 _))
  | (with_reducible exact Nat.ne_of_gt (cn3 _))
  | (with_reducible exact Nat.ne_of_lt (cn4 _))
  | (with_reducible exact Nat.ne_of_gt (cn4 _))
  | (with_reducible exact Nat.ne_of_lt (cn5 _))
  | (with_reducible exact Nat.ne_of_gt (cn5 _))
  | (with_reducible exact Nat.ne_of_lt (cn6 _))
  | (with_reducible exact Nat.ne_of_gt (cn6 _)))
  k_with "newTuple" => (k_here; k_dflt (refine' kup_newTuple ?F ?N ?_ ?z; (case F => k_asm); (case N => k_asm); (case z => kmk_size)); intro D' h' F' N' l1; k_dflt (have hA9 := ab_of l1 (by k_mem)); clear l1; (try k_sweep))
  k_with "call ref" => (k_here; (with_reducible show wpAny _ _ (PySem.call (Value.ref 342) _) _ _ _); (rename News _ _ _ _ => cN9); k_dflt (refine' c_Limits  _ _ _ _ _ _ _ _ _ _ _ _ _ _ _ _ _ (by k_asm) (by k_asm) (by k_asm) cN9 (by k_asm) (by first | exact rfl | assumption) (by first | exact room9 (by assumption) (by rfl) | ktr_room) (by first | exact units9 (by assumption) (by rfl) | ktr_units) ?_); intro x9 dx9 ks9 h9 tk9 l9 l91 F9 N9; k_dflt (have hA9 := ab_of l91 (by k_mem)); (have hA8 := ab_tr hA9 l9); clear l91; clear l9; (try dsimp only); (try k_fold))
  k_with "ke_room" => exact room64 (by assumption)
  k_with "call ref" => (k_here; (with_reducible show wpAny _ _ (PySem.call (Value.ref 361) _) _ _ _); (rename News _ _ _ _ => cN9); k_dflt (refine' o_item_A (by assumption) (by assumption) (by intro tk8 tq9; k_upd) (by k_mem) (by omega) (by omega) _ _ _ _ _ _ _ _ _ _ _ _ _ _ _ _ _ (by k_asm) (by k_asm) (by k_asm) cN9 (by k_asm) (by first | exact rfl | assumption) (by first | exact room9 (by assumption) (by rfl) | ktr_room) (by first | exact units9 (by assumption) (by rfl) | ktr_units) ?_); intro v9 new9 k9 t9 h9 tk9 G9 l9 F9 N9; (obtain ⟨hb91, hb92, it9, wv9, t91, t92, t94, hv9, hn9, hwv9⟩ := G9); subst hv9; subst hn9; (simp only [List.cons_append, List.nil_append] at N9); (have l90 := l9 _ (.head _)); (dsimp only at l90); k_dflt (have hA9 := ab_of l90 (by k_mem)); clear l90; clear l9; (try dsimp only at N9); (try dsimp only); (try k_fold))
  k_with "call ref" => (k_here; (with_reducible show wpAny _ _ (PySem.call (Value.ref 366) _) _ _ _); (rename News _ _ _ _ => cN9); k_dflt (refine' o_value_A (by assumption) (by assumption) (by intro tk8 tq9; k_upd) (by k_mem) (by omega) (by omega) _ _ _ _ _ _ _ _ _ _ _ _ _ _ _ _ _ (by k_asm) (by k_asm) (by k_asm) cN9 (by k_asm) (by first | exact rfl | assumption) (by first | exact room9 (by assumption) (by rfl) | ktr_room) (by first | exact units9 (by assumption) (by rfl) | ktr_units) ?_); intro v9 new9 k9 t9 h9 tk9 G9 l9 F9 N9; (obtain ⟨hb91, hb92, vt9, x9, t91, t92, t94, hv9, hn9, hx91, hx92, hx93⟩ := G9); subst hv9; subst hn9; (simp only [List.cons_append, List.nil_append] at N9); (have l90 := l9 _ (.head _)); (dsimp only at l90); k_dflt (have hA9 := ab_of l90 (by k_mem)); clear l90; clear l9; (with_reducible rename _ ∨ _ => hwv8); (obtain ⟨wd9, hwd9⟩ := wa_of (x := x9) hwv8); clear hwv8; (try dsimp only at N9); (try dsimp only); (try k_fold))
  k_with "call ref" => (k_here; (with_reducible show wpAny _ _ (PySem.call (Value.ref 324) _) _ _ _); (rename News _ _ _ _ => cN9); k_dflt (refine' e_A1 (by k_mem) (by with_reducible assumption) (by with_reducible assumption) _ _ _ _ _ _ _ _ _ _ _ _ _ _ _ _ _ (by k_asm) (by k_asm) (by k_asm) cN9 (by k_asm) (by first | exact rfl | assumption) (by first | exact room9 (by assumption) (by rfl) | ktr_room) (by first | exact units9 (by assumption) (by rfl) | ktr_units) ?_); intro T9 t9 h9 tk9 hT9 hl9 hd9 F9 N9; (have hq9 := ne_self T9); (try dsimp only); (try k_fold))
  k_with "call ref" => (k_here; (with_reducible show wpAny _ _ (PySem.call (Value.ref 324) _) _ _ _); (rename News _ _ _ _ => cN9); k_dflt (refine' e_A2 (by k_mem) (by with_reducible assumption) (by with_reducible assumption) (by with_reducible assumption) _ _ _ _ _ _ _ _ _ _ _ _ _ _ _ _ _ (by k_asm) (by k_asm) (by k_asm) cN9 (by k_asm) (by first | exact rfl | assumption) (by first | exact room9 (by assumption) (by rfl) | ktr_room) (by first | exact units9 (by assumption) (by rfl) | ktr_units) ?_); intro t9 h9 tk9 F9 N9; (try dsimp only); (try k_fold))
  k_with "call ref" => (k_here; (with_reducible show wpAny _ _ (PySem.call (Value.ref 205) _) _ _ _); (rename News _ _ _ _ => cN9); k_dflt (refine' r_A (by k_mem) (by with_reducible assumption) (by with_reducible assumption) (by with_reducible assumption) _ _ _ _ _ _ _ _ _ _ _ _ _ _ _ _ _ (by k_asm) (by k_asm) (by k_asm) cN9 (by k_asm) (by first | exact rfl | assumption) (by first | exact room9 (by assumption) (by rfl) | ktr_room) (by first | exact units9 (by assumption) (by rfl) | ktr_units) ?_); intro t9 h9 tk9 F9 N9; (try dsimp only); (try k_fold))
  k_with "exec Assign cons ListComp" => (k_here; k_dflt (refine Assign_ListComp_Tup (F₀ := by k_asm) (by rfl) (by with_unfolding_all rfl) (by rfl) (by decide) (by rfl) (by decide) (by rfl) (by rfl) (by rfl) ?_))
  k_with "SrcTup" => (k_here; k_dflt (refine SrcTup.ledger (by rfl) (by k_asm) (by k_asm) (by k_mem) (by exact Nat.le_of_ble_eq_true rfl) ?_; intro g'; refine rest2A (by with_reducible assumption) (by k_mem) (fun l' hl' => ⟨_, hl' _ (by k_mem), rfl, _, rfl⟩) (fun b9 e9 I9 oI9 C9 oC9 D9 m9 ys9 h9 tk9 E9 hC9 hx9 F9 N9 off9 ne9 => ?_) (fun ta9 qa9 oa9 tb9 qb9 ob9 => ?_); (all_goals (try dsimp only))))
  k_with "eval ListComp" => (k_here; k_dflt (refine LCt.ListComp_T (F₀ := by k_asm) (by with_unfolding_all rfl) (by decide) (by rfl) (by decide) (by rfl) ?_))
  k_with "CompSrcT" => (k_here; k_dflt (refine LCt.CompSrcT.ledger (by rfl) (by k_asm) (by k_asm) (by k_mem) (by exact Nat.le_of_ble_eq_true rfl) ?_; intro g'; refine rest2T (by exact Or.inr ⟨_, by k_mem, rfl, _, rfl⟩) (fun v9 I9 oI9 C9 oC9 D9 m9 ys9 h9 tk9 E9 hv9 hC9 hx9 F9 N9 off9 ne9 => ?_) ?_; (all_goals (try dsimp only)); (obtain ⟨t8, hV8⟩ := vA_of hv9); subst hV8))
  k_with "isTrue BoolOp" => (k_here; (with_reducible show wpAny _ _ (isTrue (PySem.Expr.BoolOp _ (List.cons (PySem.Expr.BoolOp _ _ _) _) _) _ _) _ _ _); (fail_if_success (have hj9 : JoinMark := by assumption)); k_dflt (refine join_false (by k_asm) (by k_asm) (fun hj9 => ?_) (fun h9 tk9 F9 N9 => ?_)); (all_goals (try dsimp only)); (all_goals (try k_fold)))
  k_with "eval IfExp" => (k_here; (fail_if_success (have hj9 : JoinMark := by assumption)); k_dflt (refine join_int (by with_reducible assumption) (by k_asm) (by k_asm) (fun hj9 hwd8 => ?_) (fun t9 h9 tk9 F9 N9 => ?_)); (all_goals (try dsimp only)); (all_goals (try k_fold)); k_dflt (rcases hwd8 with ⟨hz8, hz9⟩ | ⟨i8, t8, hz8, hz9, hi81, hi82⟩ <;> (subst hz8; subst hz9)))
  k_with "compareOp NotEq ref ref" => (k_here; k_dflt (refine cmp_A (by k_asm) (by k_mem) (by k_mem) (by with_reducible assumption) (by with_reducible assumption) (by with_reducible assumption) (by ke_room) ?_))
  trivial
set_option maxRecDepth 100000 in
set_option maxHeartbeats 8000000 in
theorem c_turn_A {w : World} {mg mb p loose mean} {pa ra : Addr} {ws : List Value} {ns : List Int} {rest : List (Addr × Obj)} {k : Int} {t0 u : Tok} (hI : IntsAre ws ns) (hlen : ns.length ≤ 60) (hk0 : 0 ≤ k) (hk1 : k ≤ 999800) (hra : ra ≠ pa) (hne : ∀ p ∈ rest, p.1 ≠ pa) :
    Ct w mg mb p loose mean 10 371 [.ref pa, .str (Str.ofString "A") u] ((pa, pouO ra k t0) :: (ra, rowO ws) :: rest) (fun h₀ L m s Q => ∀ (b9 : Bool) (k1 : Int) (t3 : Tok) (h' : Heap) (tk' : Nat), b9 = true → k ≤ k1 → k1 ≤ k + 20 → Fr h₀ L h' m → News h₀ L h' ((pa, pouO ra k1 t3) :: (ra, rowO ws) :: rest) → Q (.bool b9) { s with heap := h', toks := tk' }) := by
  dsimp only [Ct, RetP, RetT, RetF]
  k_fill
  intro dp un gd cn cz a ccd cl outer A₀ base h₀ L m s Q E B F X N T hk hd hu hret
  refine wpAny_call ?_
  k_dflt (refine' code_defC (binds := [(Str.ofString "pouch", .ref pa), (Str.ofString "word", .str (Str.ofString "A") u)]) ?k1 ?k2 ?k3 ?k4 ?k5 ?kA ?kF ?kK ?k6 ?k7 ?k8 ?k9 ?kB ?kD ?_ ?c2 ?c3 ?c4; (case kA => exact rfl); (case kF => exact rfl); (case kK => assumption); (case k1 => k_asm); (case k2 => k_asm); (case k3 => k_asm); (case k4 => k_asm); (case k5 => k_asm); (case k6 => k_is); (case k7 => k_is); (case k8 => ktr_room); (case k9 => exact BindsTo.of_eq rfl); (case kB => exact rfl); (case kD => decide +kernel); (case c2 => exact rfl); (case c3 => exact rfl); (case c4 => exact rfl); k_whole; intro g' L' h' tk' cells' FG' F' N' Y' B' X' T' l1; (try k_lt l1); k_cells Y'; (try simp only [List.cons_append, List.nil_append] at N'); (try dsimp only); (try k_lift B'); (try k_fold))
  have hIL9 : (Builtin.Str.occurrences (Str.ofString "IL") (Str.ofString "A") 0 (Str.ofString "IL").length 1).isEmpty = true := by decide +kernel
  obtain ⟨lc1, lc2, lc3⟩ := l1
  have hc1 : ∀ p ∈ rest, p.1 ≠ L' + 1 := fun p hp => Nat.ne_of_lt (up1 (ktn_ltOf lc3 p hp))
  have hc2 : ∀ p ∈ rest, p.1 ≠ L' + 1 + 1 := fun p hp => Nat.ne_of_lt (up2 (ktn_ltOf lc3 p hp))
  have hc3 : ∀ p ∈ rest, p.1 ≠ L' + 1 + 1 + 1 := fun p hp => Nat.ne_of_lt (up3 (ktn_ltOf lc3 p hp))
  have hc4 : ∀ p ∈ rest, p.1 ≠ L' + 1 + 1 + 1 + 1 := fun p hp => Nat.ne_of_lt (up4 (ktn_ltOf lc3 p hp))
  have hc5 : ∀ p ∈ rest, p.1 ≠ L' + 1 + 1 + 1 + 1 + 1 := fun p hp => Nat.ne_of_lt (up5 (ktn_ltOf lc3 p hp))
  have hc6 : ∀ p ∈ rest, p.1 ≠ L' + 1 + 1 + 1 + 1 + 1 + 1 := fun p hp => Nat.ne_of_lt (up6 (ktn_ltOf lc3 p hp))
  have hc7 : ∀ p ∈ rest, p.1 ≠ L' + 1 + 1 + 1 + 1 + 1 + 1 + 1 := fun p hp => Nat.ne_of_lt (up7 (ktn_ltOf lc3 p hp))
  clear lc3
  k_steps
  all_goals first
    | (exact absurd hIL9 (not_true_of (by with_reducible assumption)))
    | (with_reducible rename (_ : Int) ≠ _ => hx9; exact absurd (by assumption) hx9)
    | ((rename News _ _ _ _ => hN9); exact End4.intro (by k_asm) hN9)
    | ((rename News _ _ _ _ => hN9); exact End2.intro (by first | rfl | with_reducible assumption | exact decide_eq_false (by with_reducible assumption) | (simp only [decide_eq_false_iff_not]; with_reducible assumption)) (by k_asm) hN9 (by with_reducible repeat (first | exact fun _ h => h | refine sub_tail ?_)))
    | ((rename News _ _ _ _ => hN9); exact End3.intro (by k_asm) hN9)
    | ((rename News _ _ _ _ => hN9); (repeat (with_reducible rename _ ∧ _ => hz9; clear hz9)); refine hret _ _ _ _ _ ?_ ?_ ?_ (by k_asm) (cb_drop hN9 (sub3 (by with_reducible repeat (first | exact List.mem_cons_self | refine List.mem_cons_of_mem _ ?_)) (by with_reducible repeat (first | exact List.mem_cons_self | refine List.mem_cons_of_mem _ ?_)) (by with_reducible repeat (first | exact fun _ h => h | refine sub_tail ?_)))))
  all_goals first | (with_reducible assumption) | rfl | (clear hI hk X FG' B X' lc2 lc1 F T T' hk0 hk1 hlen hd hIL9 B' N hu hra hne hc1 hret hc2 hc3 hc4 hc5 hc6 hc7 hN9; omega)

end
section
theorem lnC24_1 : True := by
  k_with_none
  k_with "omega" => ((try clear hret); (try clear hk); (try clear hd); (try clear hu); first | lia | omega +splitDisjunctions)
  trivial
theorem lnC24_2 : True := by
  k_with "execs cons" => ((with_reducible refine wpAny_execs_cons ?_); try dsimp only)
  k_with "execs nil" => refine wpAny_execs_nil ?_
  trivial
theorem o_turn_I {w : World} {mg mb p loose mean} {pa ra : Addr} {ws : List Value} {ns : List Int} {news : List (Addr × Obj)} {nx : Int → Tok → List (Addr × Obj)} {k : Int} {t0 u : Tok} (hI : IntsAre ws ns) (hlen : ns.length ≤ 60) (hU : ∀ k1 t1, Upd pa (pouO ra k t0) (pouO ra k1 t1) news (nx k1 t1)) (hr : (ra, rowO ws) ∈ news) (hk0 : 0 ≤ k) (hk1 : k ≤ 999800) : Ct w mg mb p loose mean 10 371 [.ref pa, .str (Str.ofString "I") u] news (RetN news nx (fun v new k1 => v = .bool true ∧ new = [] ∧ k ≤ k1 ∧ k1 ≤ k + 20)) :=
  c_over hI hU hr fun rest hra hne => Ct_mono (c_turn_I hI hlen hk0 hk1 hra hne) fun h₀ L m s Q hret b9 k1 t3 h' tk' hb h1 h2 F N => by
    subst hb; exact hret (.bool true) [] k1 t3 h' tk' ⟨rfl, rfl, h1, h2⟩ (fun q hq => nomatch hq) F N
theorem o_turn_F {w : World} {mg mb p loose mean} {pa ra : Addr} {ws : List Value} {ns : List Int} {news : List (Addr × Obj)} {nx : Int → Tok → List (Addr × Obj)} {k : Int} {t0 u : Tok} (hI : IntsAre ws ns) (hlen : ns.length ≤ 60) (hU : ∀ k1 t1, Upd pa (pouO ra k t0) (pouO ra k1 t1) news (nx k1 t1)) (hr : (ra, rowO ws) ∈ news) (hk0 : 0 ≤ k) (hk1 : k ≤ 999800) : Ct w mg mb p loose mean 10 371 [.ref pa, .str (Str.ofString "F") u] news (RetN news nx (fun v new k1 => v = .bool true ∧ new = [] ∧ k ≤ k1 ∧ k1 ≤ k + 20)) :=
  c_over hI hU hr fun rest hra hne => Ct_mono (c_turn_F hI hlen hk0 hk1 hra hne) fun h₀ L m s Q hret b9 k1 t3 h' tk' hb h1 h2 F N => by
    subst hb; exact hret (.bool true) [] k1 t3 h' tk' ⟨rfl, rfl, h1, h2⟩ (fun q hq => nomatch hq) F N
theorem o_turn_E {w : World} {mg mb p loose mean} {pa ra : Addr} {ws : List Value} {ns : List Int} {news : List (Addr × Obj)} {nx : Int → Tok → List (Addr × Obj)} {k : Int} {t0 u : Tok} (hI : IntsAre ws ns) (hlen : ns.length ≤ 60) (hU : ∀ k1 t1, Upd pa (pouO ra k t0) (pouO ra k1 t1) news (nx k1 t1)) (hr : (ra, rowO ws) ∈ news) (hk0 : 0 ≤ k) (hk1 : k ≤ 999800) : Ct w mg mb p loose mean 10 371 [.ref pa, .str (Str.ofString "E") u] news (RetN news nx (fun v new k1 => v = .bool true ∧ new = [] ∧ k ≤ k1 ∧ k1 ≤ k + 20)) :=
  c_over hI hU hr fun rest hra hne => Ct_mono (c_turn_E hI hlen hk0 hk1 hra hne) fun h₀ L m s Q hret b9 k1 t3 h' tk' hb h1 h2 F N => by
    subst hb; exact hret (.bool true) [] k1 t3 h' tk' ⟨rfl, rfl, h1, h2⟩ (fun q hq => nomatch hq) F N
theorem o_turn_D {w : World} {mg mb p loose mean} {pa ra : Addr} {ws : List Value} {ns : List Int} {news : List (Addr × Obj)} {nx : Int → Tok → List (Addr × Obj)} {k : Int} {t0 u : Tok} (hI : IntsAre ws ns) (hlen : ns.length ≤ 60) (hU : ∀ k1 t1, Upd pa (pouO ra k t0) (pouO ra k1 t1) news (nx k1 t1)) (hr : (ra, rowO ws) ∈ news) (hk0 : 0 ≤ k) (hk1 : k ≤ 999800) : Ct w mg mb p loose mean 10 371 [.ref pa, .str (Str.ofString "D") u] news (RetN news nx (fun v new k1 => v = .bool true ∧ new = [] ∧ k ≤ k1 ∧ k1 ≤ k + 20)) :=
  c_over hI hU hr fun rest hra hne => Ct_mono (c_turn_D hI hlen hk0 hk1 hra hne) fun h₀ L m s Q hret b9 k1 t3 h' tk' hb h1 h2 F N => by
    subst hb; exact hret (.bool true) [] k1 t3 h' tk' ⟨rfl, rfl, h1, h2⟩ (fun q hq => nomatch hq) F N
theorem o_turn_L {w : World} {mg mb p loose mean} {pa ra : Addr} {ws : List Value} {ns : List Int} {news : List (Addr × Obj)} {nx : Int → Tok → List (Addr × Obj)} {k : Int} {t0 u : Tok} (hI : IntsAre ws ns) (hlen : ns.length ≤ 60) (hU : ∀ k1 t1, Upd pa (pouO ra k t0) (pouO ra k1 t1) news (nx k1 t1)) (hr : (ra, rowO ws) ∈ news) (hk0 : 0 ≤ k) (hk1 : k ≤ 999800) : Ct w mg mb p loose mean 10 371 [.ref pa, .str (Str.ofString "L") u] news (RetN news nx (fun v new k1 => v = .bool true ∧ new = [] ∧ k ≤ k1 ∧ k1 ≤ k + 20)) :=
  c_over hI hU hr fun rest hra hne => Ct_mono (c_turn_L hI hlen hk0 hk1 hra hne) fun h₀ L m s Q hret b9 k1 t3 h' tk' hb h1 h2 F N => by
    subst hb; exact hret (.bool true) [] k1 t3 h' tk' ⟨rfl, rfl, h1, h2⟩ (fun q hq => nomatch hq) F N
theorem o_turn_A {w : World} {mg mb p loose mean} {pa ra : Addr} {ws : List Value} {ns : List Int} {news : List (Addr × Obj)} {nx : Int → Tok → List (Addr × Obj)} {k : Int} {t0 u : Tok} (hI : IntsAre ws ns) (hlen : ns.length ≤ 60) (hU : ∀ k1 t1, Upd pa (pouO ra k t0) (pouO ra k1 t1) news (nx k1 t1)) (hr : (ra, rowO ws) ∈ news) (hk0 : 0 ≤ k) (hk1 : k ≤ 999800) : Ct w mg mb p loose mean 10 371 [.ref pa, .str (Str.ofString "A") u] news (RetN news nx (fun v new k1 => v = .bool true ∧ new = [] ∧ k ≤ k1 ∧ k1 ≤ k + 20)) :=
  c_over hI hU hr fun rest hra hne => Ct_mono (c_turn_A hI hlen hk0 hk1 hra hne) fun h₀ L m s Q hret b9 k1 t3 h' tk' hb h1 h2 F N => by
    subst hb; exact hret (.bool true) [] k1 t3 h' tk' ⟨rfl, rfl, h1, h2⟩ (fun q hq => nomatch hq) F N

end
section
theorem lnHW_1 : True := by
  k_with_none
  k_with "omega" => ((try clear hret); (try clear hk); (try clear hd); (try clear hu); omega +splitDisjunctions)
  trivial
theorem lnHW_2 : True := by
  k_with "call ref" => (k_here; (with_reducible show wpAny _ _ (PySem.call (Value.ref 371) [_, Value.str (PySem.Str.ofString "I") _] _) _ _ _); (rename News _ _ _ _ => cN9); k_dflt (refine' o_turn_I (by assumption) (by omega) (by intro tk8 tq9; k_upd) (by k_mem) (by omega) (by omega) _ _ _ _ _ _ _ _ _ _ _ _ _ _ _ _ _ (by k_asm) (by k_asm) (by k_asm) cN9 (by k_asm) (by first | exact rfl | assumption) (by first | decide | ktr_room) (by first | decide | ktr_units) ?_); intro v9 new9 k9 t9 h9 tk9 G9 l9 F9 N9; obtain ⟨hv9, hn9, hb91, hb92⟩ := G9; subst hv9; subst hn9; clear l9; (simp only [List.nil_append] at N9); (try dsimp only at N9); (try dsimp only); (try k_fold))
  k_with "call ref" => (k_here; (with_reducible show wpAny _ _ (PySem.call (Value.ref 371) [_, Value.str (PySem.Str.ofString "F") _] _) _ _ _); (rename News _ _ _ _ => cN9); k_dflt (refine' o_turn_F (by assumption) (by omega) (by intro tk8 tq9; k_upd) (by k_mem) (by omega) (by omega) _ _ _ _ _ _ _ _ _ _ _ _ _ _ _ _ _ (by k_asm) (by k_asm) (by k_asm) cN9 (by k_asm) (by first | exact rfl | assumption) (by first | decide | ktr_room) (by first | decide | ktr_units) ?_); intro v9 new9 k9 t9 h9 tk9 G9 l9 F9 N9; obtain ⟨hv9, hn9, hb91, hb92⟩ := G9; subst hv9; subst hn9; clear l9; (simp only [List.nil_append] at N9); (try dsimp only at N9); (try dsimp only); (try k_fold))
  k_with "call ref" => (k_here; (with_reducible show wpAny _ _ (PySem.call (Value.ref 371) [_, Value.str (PySem.Str.ofString "E") _] _) _ _ _); (rename News _ _ _ _ => cN9); k_dflt (refine' o_turn_E (by assumption) (by omega) (by intro tk8 tq9; k_upd) (by k_mem) (by omega) (by omega) _ _ _ _ _ _ _ _ _ _ _ _ _ _ _ _ _ (by k_asm) (by k_asm) (by k_asm) cN9 (by k_asm) (by first | exact rfl | assumption) (by first | decide | ktr_room) (by first | decide | ktr_units) ?_); intro v9 new9 k9 t9 h9 tk9 G9 l9 F9 N9; obtain ⟨hv9, hn9, hb91, hb92⟩ := G9; subst hv9; subst hn9; clear l9; (simp only [List.nil_append] at N9); (try dsimp only at N9); (try dsimp only); (try k_fold))
  k_with "call ref" => (k_here; (with_reducible show wpAny _ _ (PySem.call (Value.ref 371) [_, Value.str (PySem.Str.ofString "D") _] _) _ _ _); (rename News _ _ _ _ => cN9); k_dflt (refine' o_turn_D (by assumption) (by omega) (by intro tk8 tq9; k_upd) (by k_mem) (by omega) (by omega) _ _ _ _ _ _ _ _ _ _ _ _ _ _ _ _ _ (by k_asm) (by k_asm) (by k_asm) cN9 (by k_asm) (by first | exact rfl | assumption) (by first | decide | ktr_room) (by first | decide | ktr_units) ?_); intro v9 new9 k9 t9 h9 tk9 G9 l9 F9 N9; obtain ⟨hv9, hn9, hb91, hb92⟩ := G9; subst hv9; subst hn9; clear l9; (simp only [List.nil_append] at N9); (try dsimp only at N9); (try dsimp only); (try k_fold))
  k_with "call ref" => (k_here; (with_reducible show wpAny _ _ (PySem.call (Value.ref 371) [_, Value.str (PySem.Str.ofString "L") _] _) _ _ _); (rename News _ _ _ _ => cN9); k_dflt (refine' o_turn_L (by assumption) (by omega) (by intro tk8 tq9; k_upd) (by k_mem) (by omega) (by omega) _ _ _ _ _ _ _ _ _ _ _ _ _ _ _ _ _ (by k_asm) (by k_asm) (by k_asm) cN9 (by k_asm) (by first | exact rfl | assumption) (by first | decide | ktr_room) (by first | decide | ktr_units) ?_); intro v9 new9 k9 t9 h9 tk9 G9 l9 F9 N9; obtain ⟨hv9, hn9, hb91, hb92⟩ := G9; subst hv9; subst hn9; clear l9; (simp only [List.nil_append] at N9); (try dsimp only at N9); (try dsimp only); (try k_fold))
  k_with "call ref" => (k_here; (with_reducible show wpAny _ _ (PySem.call (Value.ref 371) [_, Value.str (PySem.Str.ofString "A") _] _) _ _ _); (rename News _ _ _ _ => cN9); k_dflt (refine' o_turn_A (by assumption) (by omega) (by intro tk8 tq9; k_upd) (by k_mem) (by omega) (by omega) _ _ _ _ _ _ _ _ _ _ _ _ _ _ _ _ _ (by k_asm) (by k_asm) (by k_asm) cN9 (by k_asm) (by first | exact rfl | assumption) (by first | decide | ktr_room) (by first | decide | ktr_units) ?_); intro v9 new9 k9 t9 h9 tk9 G9 l9 F9 N9; obtain ⟨hv9, hn9, hb91, hb92⟩ := G9; subst hv9; subst hn9; clear l9; (simp only [List.nil_append] at N9); (try dsimp only at N9); (try dsimp only); (try k_fold))
  trivial
theorem head.tw10809477301093314700 : True := trivial
theorem head.tw12397968759161991312 : True := trivial
theorem head.tw6973584914630602586 : True := trivial
theorem head.tw10047393819957995408 : True := trivial
theorem head.tw18240164343135922154 : True := trivial
theorem head.tw11147590313062582412 : True := trivial
theorem head.tw9554341912967214643 : True := trivial
theorem head.tw11116721612917661325 : True := trivial
theorem head.tw8150599627031302055 : True := trivial
theorem head.tw9097696307751315125 : True := trivial
theorem head.tw533756555076263647 : True := trivial
theorem head.tw14969872817325187116 : True := trivial
theorem head.tw5110904390464784769 : True := trivial
theorem head.tw1319983325249436295 : True := trivial
theorem head.tw8367155997540120919 : True := trivial
theorem head.tw1068468237069756021 : True := trivial
theorem head.tw7287109101882759415 : True := trivial
theorem head.tw3688799982635324794 : True := trivial
theorem head.tw2591067827882107080 : True := trivial
theorem head.tw12865059321931465230 : True := trivial
theorem head.tw467416434755642258 : True := trivial
theorem head.tw4964814941381164201 : True := trivial
theorem head.tw2260579728952749127 : True := trivial
theorem head.tw10015159338476511836 : True := trivial
theorem head.tw7417405269818204032 : True := trivial
theorem head.tw12949380547846470161 : True := trivial
theorem head.tw2518057956044344595 : True := trivial
theorem head.tw7119846925741900413 : True := trivial
theorem head.tw6684978435548883818 : True := trivial
theorem head.tw8408249889716310983 : True := trivial
theorem head.tw10510622979536455646 : True := trivial
theorem head.tw6731557136300432596 : True := trivial
theorem head.tw3453547403478019728 : True := trivial
theorem head.tw10042047710758752311 : True := trivial
theorem head.tw2355103038987944067 : True := trivial
theorem head.tw17093656651364094606 : True := trivial
theorem head.tw14112051064653734678 : True := trivial
theorem head.tw14842460003800876886 : True := trivial
theorem head.tw10258521583956687137 : True := trivial
theorem head.tw16966009324859112401 : True := trivial
theorem head.tw15037083628117588352 : True := trivial
theorem head.tw6298033893332097587 : True := trivial
theorem head.tw48543519692965452 : True := trivial
theorem head.tw7833285031277912329 : True := trivial
theorem head.tw10018764681926925449 : True := trivial
theorem head.tw15410735652082386980 : True := trivial
theorem head.tw976808484645153763 : True := trivial
theorem head.tw15253846138512369154 : True := trivial
theorem head.tw13942192884097748152 : True := trivial
theorem head.tw9407594320385231609 : True := trivial
theorem head.tw7758381527925395934 : True := trivial
theorem head.tw16800043278716471037 : True := trivial
theorem head.tw16782820856776367440 : True := trivial
theorem head.tw820421773197932041 : True := trivial
theorem head.tw13906610036690215845 : True := trivial
theorem head.tw6880043348581005364 : True := trivial
theorem head.tw3665506230870052707 : True := trivial
theorem head.tw9021251233498730489 : True := trivial
theorem head.tw11296743742662292762 : True := trivial
theorem head.tw2340069552987342377 : True := trivial
theorem head.tw2525317073905713282 : True := trivial
theorem head.tw14139502460874162764 : True := trivial
theorem head.tw11308087075614649832 : True := trivial
theorem head.tw5487235932777146282 : True := trivial
theorem head.tw4709128311485490483 : True := trivial
theorem head.tw7090939061502383884 : True := trivial
theorem head.tw17348764703882912863 : True := trivial
theorem head.tw12478146576626367362 : True := trivial
theorem head.tw17188972718952451159 : True := trivial
theorem head.tw8382746154173761051 : True := trivial
theorem head.tw13689084217373910675 : True := trivial
theorem head.tw1499353310998574721 : True := trivial
theorem head.tw11988142204041823098 : True := trivial
theorem head.tw12903917746401883607 : True := trivial
theorem head.tw2506711637615833298 : True := trivial
theorem head.tw15035418422258542911 : True := trivial
theorem head.tw15510365090734361527 : True := trivial
theorem head.tw17002534310236347988 : True := trivial
theorem head.tw3746228215898030841 : True := trivial
theorem head.tw8895791426145780158 : True := trivial
theorem head.tw3556061257289618393 : True := trivial
theorem head.tw9715989912806740752 : True := trivial
theorem head.tw9702098958229961203 : True := trivial
theorem head.tw2400818531096893172 : True := trivial
theorem head.tw4381510469713062047 : True := trivial
theorem head.tw4311042196063409733 : True := trivial
theorem head.tw15894371620910866019 : True := trivial
theorem head.tw4691952243595246448 : True := trivial
theorem head.tw4277651752456152607 : True := trivial
theorem head.tw15539854500240908086 : True := trivial
theorem head.tw14205479233844494046 : True := trivial
theorem head.tw10865165270600546614 : True := trivial
theorem head.tw7512725033676591148 : True := trivial
theorem head.tw315434073420411817 : True := trivial
theorem head.tw17854896373637125580 : True := trivial
theorem head.tw15520248196984853422 : True := trivial
theorem head.tw8715499118904818895 : True := trivial
theorem head.tw4063747431996464497 : True := trivial
theorem head.tw13743032657059413451 : True := trivial
theorem head.tw9145527808636388435 : True := trivial
theorem head.tw2491421050496283774 : True := trivial
theorem head.tw14956133685725647455 : True := trivial
theorem head.tw10405530465085936428 : True := trivial
theorem head.tw1620002657737552111 : True := trivial
theorem head.tw9062998866958442273 : True := trivial
theorem head.tw5986637957666399235 : True := trivial
theorem head.tw5629256929840616583 : True := trivial
theorem head.tw18332285231265401824 : True := trivial
theorem head.tw11290360913936777911 : True := trivial
theorem head.tw13295774097974887486 : True := trivial
theorem head.tw16847831306532103052 : True := trivial
theorem head.tw3581614266968435656 : True := trivial
theorem head.tw6388477656530123435 : True := trivial
theorem head.tw14667470093908496907 : True := trivial
theorem head.tw10504981510240967646 : True := trivial
theorem head.tw11124748197601291601 : True := trivial
theorem head.tw1618804561499322139 : True := trivial
theorem head.tw2154566216772986472 : True := trivial
theorem head.tw14527164170590304321 : True := trivial
theorem head.tw9162278640276766204 : True := trivial
theorem head.tw12870424476946447624 : True := trivial
theorem head.tw5599997604879368025 : True := trivial
theorem head.tw11484358847640170188 : True := trivial
theorem head.tw14676189674455941282 : True := trivial
theorem head.tw6772502638888315869 : True := trivial
theorem head.tw1463646239528298992 : True := trivial
theorem head.tw3547240966391284428 : True := trivial
theorem head.tw17700853532424174462 : True := trivial
theorem head.tw11426403942048686318 : True := trivial
theorem head.tw8534208459206503383 : True := trivial
theorem head.tw8773370040425892893 : True := trivial
theorem head.tw8185714761375850791 : True := trivial
theorem head.tw7658410731251134818 : True := trivial
theorem head.tw1495726902847802894 : True := trivial
theorem head.tw5906749814970224870 : True := trivial
theorem head.tw13988103294471073821 : True := trivial
theorem head.tw1276956409769668328 : True := trivial
theorem head.tw11862927689305589065 : True := trivial
theorem head.tw9746458257258439470 : True := trivial
theorem head.tw2393098407364606883 : True := trivial
theorem head.tw14393718171448925343 : True := trivial
theorem head.tw10533634037010066435 : True := trivial
theorem head.tw3615648651819825313 : True := trivial
theorem head.tw7013799640231393816 : True := trivial
theorem head.tw9820158181544301314 : True := trivial
theorem head.tw8101760021730824546 : True := trivial
theorem head.tw8535708456716222715 : True := trivial
theorem head.tw3794523003379204399 : True := trivial
theorem head.tw9186546921256032858 : True := trivial
theorem head.tw12763952150808568291 : True := trivial
theorem head.tw2879759524354350568 : True := trivial
theorem head.tw532055438628499158 : True := trivial
theorem head.tw9103479521544129834 : True := trivial
theorem head.tw9325057278558614444 : True := trivial
theorem head.tw15468718075485040107 : True := trivial
theorem head.tw7494366503370351645 : True := trivial
theorem head.tw11194998557105285118 : True := trivial
theorem head.tw11434997419882176723 : True := trivial
theorem head.tw4196546014268931301 : True := trivial
theorem head.tw2096541523181747872 : True := trivial
theorem head.tw69809265629811306 : True := trivial
theorem head.tw6507506987150044280 : True := trivial
theorem head.tw8627200689577751383 : True := trivial
theorem head.tw9658139154387788515 : True := trivial
theorem head.tw17577399041416155939 : True := trivial
theorem head.tw12740806245664736207 : True := trivial
theorem head.tw12475708393154427166 : True := trivial
theorem head.tw3749026756887285471 : True := trivial
theorem head.tw4975070653579243887 : True := trivial
theorem head.tw12352672977532951062 : True := trivial
theorem head.tw5506250874072839755 : True := trivial
theorem head.tw5319049981483164881 : True := trivial
theorem head.tw8758324158161630591 : True := trivial
theorem head.tw13199516396595161752 : True := trivial
theorem head.tw3160712208675142370 : True := trivial
theorem head.tw8187629637223713605 : True := trivial
theorem head.tw6846597200999610202 : True := trivial
theorem head.tw4976181008148175253 : True := trivial
theorem head.tw1909714482019496454 : True := trivial
theorem head.tw3089916443595474862 : True := trivial
theorem head.tw13353151263460963528 : True := trivial
theorem head.tw8866670633112419022 : True := trivial
theorem head.tw4965378191221513410 : True := trivial
theorem head.tw7523532297153676066 : True := trivial
theorem head.tw17646911460466567920 : True := trivial
theorem head.tw12201952087667049370 : True := trivial
theorem head.tw10366927770000222440 : True := trivial
theorem head.tw8451290768687142514 : True := trivial
theorem head.tw12841863872788715202 : True := trivial
theorem head.tw10786079294511566085 : True := trivial
theorem head.tw851385035628625539 : True := trivial
theorem head.tw262713603470380999 : True := trivial
theorem head.tw9464831228461672588 : True := trivial
theorem head.tw15149402430504572791 : True := trivial
theorem head.tw15112835437128306455 : True := trivial
theorem head.tw10519217271611395807 : True := trivial
theorem head.tw10021064610941686981 : True := trivial
theorem head.tw4693820183103290663 : True := trivial
theorem head.tw18433677622606106133 : True := trivial
theorem head.tw4307260679431091991 : True := trivial
theorem head.tw17525636777796739105 : True := trivial
theorem head.tw11770459041652445329 : True := trivial
theorem head.tw16128420640991077102 : True := trivial
theorem head.tw7789450098604059249 : True := trivial
theorem head.tw15841401105113185080 : True := trivial
theorem head.tw6640010369347007910 : True := trivial
theorem head.tw12775505166333009402 : True := trivial
theorem head.tw14643560169476415855 : True := trivial
theorem head.tw14882813523228863612 : True := trivial
theorem head.tw14843749296085226474 : True := trivial
theorem head.tw4857777746444614323 : True := trivial
theorem head.tw9984397402777080727 : True := trivial
theorem head.tw16111715859725283846 : True := trivial
theorem head.tw66618190712790079 : True := trivial
theorem head.tw1963959055141433311 : True := trivial
theorem head.tw12851702773856589430 : True := trivial
theorem head.tw12998212659555988865 : True := trivial
theorem head.tw15895551434495452948 : True := trivial
theorem head.tw18416563613846182222 : True := trivial
theorem head.tw12359489953124434286 : True := trivial
theorem head.tw7876399200375917224 : True := trivial
theorem head.tw11427066125472700054 : True := trivial
theorem head.tw44622916816846810 : True := trivial
theorem head.tw3690969761935527329 : True := trivial
theorem head.tw4023466491090337370 : True := trivial
theorem head.tw13294958713779813728 : True := trivial
theorem head.tw14512941343882779238 : True := trivial
theorem head.tw8159583801465064534 : True := trivial
theorem head.tw17844492200522320778 : True := trivial
theorem head.tw8912104118211102971 : True := trivial
theorem head.tw17332727794074296334 : True := trivial
theorem head.tw1748456618969930982 : True := trivial
theorem head.tw6737735255597943219 : True := trivial
theorem head.tw17508272824862286709 : True := trivial
theorem head.tw12147184966966947637 : True := trivial
theorem head.tw4433315090154635215 : True := trivial
theorem head.tw4483413254912295219 : True := trivial
theorem head.tw5479459121986351116 : True := trivial
theorem head.tw17212568112599259466 : True := trivial
theorem head.tw9101448428047585222 : True := trivial
theorem head.tw15798066900824788120 : True := trivial
theorem head.tw17197444120159719569 : True := trivial
theorem head.tw14699756766385990792 : True := trivial
theorem head.tw13198292447841614426 : True := trivial
theorem head.tw2249667046024356820 : True := trivial
theorem head.tw5638995163158488052 : True := trivial
theorem head.tw10668533816033670360 : True := trivial
theorem head.tw466721876749952763 : True := trivial
theorem head.tw12310735299239354703 : True := trivial
theorem head.tw13954853420313727417 : True := trivial
theorem head.tw4972248218790579157 : True := trivial
theorem head.tw10356212845559719233 : True := trivial
theorem head.tw12704426703380559182 : True := trivial
theorem head.tw17674571679781333832 : True := trivial
theorem head.tw7526775705450560304 : True := trivial
theorem head.tw16874305072444578374 : True := trivial
theorem head.tw7802898811600756450 : True := trivial
theorem head.tw13896987355042952010 : True := trivial
theorem head.tw12604462930493870256 : True := trivial
theorem head.tw15782939476341012554 : True := trivial
theorem head.tw9074772780463953568 : True := trivial
theorem head.tw3304075619188804072 : True := trivial
theorem head.tw3547030090768783262 : True := trivial
theorem head.tw7450023128482652576 : True := trivial
theorem head.tw8812732774380208333 : True := trivial
theorem head.tw3083302935323014018 : True := trivial
theorem head.tw16714887947964762639 : True := trivial
theorem head.tw18051680202136193954 : True := trivial
theorem head.tw17826015225549371706 : True := trivial
theorem head.tw9280153536138602973 : True := trivial
theorem head.tw2554682012703037696 : True := trivial
theorem head.tw18007968972792079559 : True := trivial
theorem head.tw14744981736328886265 : True := trivial
theorem head.tw16640130746408290383 : True := trivial
theorem head.tw3715584954343283195 : True := trivial
theorem head.tw6587087628758450585 : True := trivial
theorem head.tw12858780395421280599 : True := trivial
theorem head.tw10261356005730403935 : True := trivial
theorem head.tw3088210815446039105 : True := trivial
theorem head.tw7253898381062576733 : True := trivial
theorem head.tw16997897962222511 : True := trivial
theorem head.tw649443455394278489 : True := trivial
theorem head.tw6846866878297920324 : True := trivial
theorem head.tw9114333099845857663 : True := trivial
theorem head.tw4839655697589452165 : True := trivial
theorem head.tw10079960370226730655 : True := trivial
theorem head.tw17725469503822016867 : True := trivial
theorem head.tw13605870324054321959 : True := trivial
theorem head.tw13086575352542018947 : True := trivial
theorem head.tw5944575059761466720 : True := trivial
theorem head.tw15296082917334920728 : True := trivial
theorem head.tw14982685227137828758 : True := trivial
theorem head.tw10898857373019930491 : True := trivial
theorem head.tw16172356507618199906 : True := trivial
theorem head.tw16922147877168347812 : True := trivial
theorem head.tw4415685298772064003 : True := trivial
theorem head.tw7906546307943345882 : True := trivial
theorem head.tw17905491414393134947 : True := trivial
theorem head.tw15506723302920939300 : True := trivial
theorem head.tw16572314662081343053 : True := trivial
theorem head.tw3980653432952411973 : True := trivial
theorem head.tw17265401458761052179 : True := trivial
theorem head.tw1506576300011279404 : True := trivial
theorem head.tw733406405333840765 : True := trivial
theorem head.tw9515422150858430662 : True := trivial
theorem head.tw15204471325056678010 : True := trivial
theorem head.tw6121141971511671821 : True := trivial
theorem head.tw2864405669816312776 : True := trivial
theorem head.tw11821203517306503961 : True := trivial
theorem head.tw3973953319845086491 : True := trivial
theorem head.tw11714945338242495837 : True := trivial
theorem head.tw17411354535832351560 : True := trivial
theorem head.tw5346772772824661884 : True := trivial
theorem head.tw17698105195316432488 : True := trivial
theorem head.tw13246386896891170512 : True := trivial
theorem head.tw1832916270232011604 : True := trivial
theorem head.tw13337238644230332656 : True := trivial
theorem head.tw14999265807660949796 : True := trivial
theorem head.tw5870146547769353613 : True := trivial
theorem head.tw4160124254940468481 : True := trivial
theorem head.tw12773685731770592110 : True := trivial
theorem head.tw11544532188706048022 : True := trivial
theorem head.tw3368030927266983236 : True := trivial
theorem head.tw6889739017440866108 : True := trivial
theorem head.tw17113217626458354986 : True := trivial
theorem head.tw10431609616501453582 : True := trivial
theorem head.tw14788773977795034992 : True := trivial
theorem head.tw9388430590476628193 : True := trivial
theorem head.tw16894197260953374720 : True := trivial
theorem head.tw15436542981012472205 : True := trivial
theorem head.tw17782148633632673465 : True := trivial
theorem head.tw13510609219080548989 : True := trivial
theorem head.tw2237326684586592538 : True := trivial
theorem head.tw13955511503576765797 : True := trivial
theorem head.tw497287684792784471 : True := trivial
theorem head.tw10875119458065257276 : True := trivial
theorem head.tw10812213935944405949 : True := trivial
theorem head.tw8874674299285249911 : True := trivial
theorem head.tw8414573866900348196 : True := trivial
theorem head.tw12024539317367501503 : True := trivial
theorem head.tw16031315777459398524 : True := trivial
theorem head.tw11005904730967762025 : True := trivial
theorem head.tw12207028300977255130 : True := trivial
theorem head.tw3496171461512900480 : True := trivial
theorem head.tw3986194592780655508 : True := trivial
theorem head.tw1315816938146588887 : True := trivial
theorem head.tw5973763720392745831 : True := trivial
theorem head.tw10059252607514160932 : True := trivial
theorem head.tw7712916153251135833 : True := trivial
theorem head.tw1211024037004892549 : True := trivial
theorem head.tw13412022041919118725 : True := trivial
theorem head.tw12822298378996975857 : True := trivial
theorem head.tw2581250870941146908 : True := trivial
theorem head.tw5104563664521345299 : True := trivial
theorem head.tw17243387458012846398 : True := trivial
theorem head.tw13606692438985738571 : True := trivial
theorem head.tw5675720884225537098 : True := trivial
theorem head.tw15068483726869450994 : True := trivial
set_option Elab.async true in
set_option maxRecDepth 100000 in
set_option maxHeartbeats 8000000 in
theorem head : PySem.Challenge.rw_sa0217_01.Holds := by
  w_on
  o_law
  o_head (kHook Mine.frag.heap_1 [2, 3, 15, 22, 24, 25, 27, 28, 29, 30, 31, 32, 35, 42, 43, 44, 47, 54, 56, 57, 59, 60, 61, 62, 63, 66, 73, 75, 76, 78, 79, 80, 81, 82, 85, 86, 88, 89, 91, 92, 93, 95, 96, 98, 99, 100, 102, 103, 105, 106, 107, 109, 110, 112, 113, 114, 116, 117, 119, 120, 121, 122, 124, 125, 127, 128, 129, 131, 132, 134, 135, 136, 138, 139, 141, 142, 143, 145, 146, 148, 149, 150, 152, 153, 155, 156, 157, 159, 160, 162, 163, 164, 166, 167, 169, 170, 171, 173, 174, 176, 177, 178, 180, 181, 183, 184, 185, 187, 188, 190, 191, 192, 194, 195, 197, 198, 199, 201, 202, 204, 205, 206, 208, 209, 211, 212, 213, 215, 216, 218, 219, 220, 222, 223, 225, 226, 227, 229, 230, 232, 233, 234, 236, 237, 239, 240, 241, 243, 244, 246, 247, 248, 250, 251, 253, 254, 255, 257, 258, 260, 261, 262, 264, 265, 267, 268, 269, 271, 272, 274, 275, 276, 278, 279, 281, 282, 283, 285, 286, 288, 289, 290, 292, 293, 295, 296, 297, 299, 300, 302, 303, 304, 306, 307, 309, 310, 311, 313, 314, 316, 317, 318, 320, 321, 323, 324, 332, 333, 335, 336, 338, 339, 340, 341, 342, 343, 344, 347, 348, 350, 351, 353, 354, 355, 357, 358, 360, 361, 362, 365, 366, 367, 370, 371, 372, 374, 375, 377, 378] (fun _ => by kernel_rfl))
  (case hw => w_witness2)
  w_strict (k_go0; (all_goals try k_fold); k_steps)

end
end Mine
theorem PySem.Challenge.cw_sa0217_01_holds : PySem.Challenge.rw_sa0217_01.Holds := by
  exact Mine.head

import PyProof.Rows.All
import Wide.All
import OpenK.AllK
import Wide.FinOn
import PySem.Challenge.RW_ov0062_01
set_option linter.unusedVariables false
set_option rowWalk.seconds 0
open PySem PySem.W PySem.Calls PyProof.Rows
set_option Elab.async false
set_option maxRecDepth 100000
namespace Mine
set_option synthInstance.maxSize 1 in
set_option maxHeartbeats 8000000 in
open_top hd for PySem.Challenge.rw_ov0062_01
/-- the code list of a text -/
def TX (x : Str) (l : List Nat) : Prop := x.cps.toList = l
theorem TX.len {x : Str} {l : List Nat} (h : TX x l) : x.length = l.length := by
  rw [← h]; simp [Str.length]
theorem TX.mk {x : Str} : TX x x.cps.toList := rfl
theorem TX.eq {x : Str} {l : List Nat} (h : TX x l) : x = ⟨l.toArray⟩ := StrLaws.mk_of_toList h
theorem TX.of {l : List Nat} : TX ⟨l.toArray⟩ l := by simp [TX]
theorem TX.get {x : Str} {l : List Nat} (h : TX x l) (i : Nat) : x.cps[i]? = l[i]? := by
  rw [← h]; simp

/-- a slice by two bounds that are not negative -/
theorem slice_idx (i j : Nat) (n : Nat) : Builtin.Str.strSliceIndices (some (i : Int)) (some (j : Int)) 1 n = Builtin.Str.strSliceIndices (some ((min i n : Nat) : Int)) (some ((min j n : Nat) : Int)) 1 n := by
  have h1 : ¬ ((i : Int) < 0) := by lia
  have h2 : ¬ ((j : Int) < 0) := by lia
  have h3 : ¬ (((min i n : Nat) : Int) < 0) := by lia
  have h4 : ¬ (((min j n : Nat) : Int) < 0) := by lia
  have e1 : max (0 : Int) (min (i : Int) (n : Int)) = max 0 (min ((min i n : Nat) : Int) (n : Int)) := by lia
  have e2 : max (0 : Int) (min (j : Int) (n : Int)) = max 0 (min ((min j n : Nat) : Int) (n : Int)) := by lia
  simp only [Builtin.Str.strSliceIndices, h1, h2, h3, h4, if_false, show (1 : Int) > 0 from by decide, if_true, e1, e2]
theorem slice_empty (a b n : Nat) (h : b < a) (ha : a ≤ n) : Builtin.Str.strSliceIndices (some (a : Int)) (some (b : Int)) 1 n = [] := by
  have h1 : ¬ ((a : Int) < 0) := by lia
  have h2 : ¬ ((b : Int) < 0) := by lia
  have e1 : max (0 : Int) (min (a : Int) (n : Int)) = a := by lia
  have e2 : max (0 : Int) (min (b : Int) (n : Int)) = b := by lia
  have e3 : ¬ ((a : Int) < b) := by lia
  simp [Builtin.Str.strSliceIndices, sliceRange, h1, h2, e1, e2, e3]
theorem slice_tx {x : Str} {l : List Nat} (h : TX x l) (i j : Nat) : TX (Txt.slice x (some (i : Int)) (some (j : Int))) ((l.take j).drop i) := by
  have hn := h.len
  have e : ∀ i j : Nat, Txt.slice x (some (i : Int)) (some (j : Int)) = StrLaws.sliceText x (some (i : Int)) (some (j : Int)) := fun _ _ => rfl
  have e5 : Txt.slice x (some (i : Int)) (some (j : Int)) = Txt.slice x (some ((min i x.length : Nat) : Int)) (some ((min j x.length : Nat) : Int)) := by
    unfold Txt.slice
    rw [slice_idx i j x.length]
  have hl2 : x.cps.toList.length = x.length := by simp [Str.length]
  rw [e5]
  by_cases hab : min i x.length ≤ min j x.length
  · have q := StrLaws.sliceText_plain (x := x) (i := ((min i x.length : Nat) : Int)) (j := ((min j x.length : Nat) : Int)) ⟨by lia, by lia, by lia⟩
    rw [e, q]
    unfold TX at h ⊢
    rw [h]
    have e6 : (((min i x.length : Nat) : Int)).toNat = min i x.length := by lia
    have e7 : (((min j x.length : Nat) : Int) - ((min i x.length : Nat) : Int)).toNat = min j x.length - min i x.length := by lia
    simp only [e6, e7]
    rw [hn]
    apply List.ext_getElem?
    intro k
    simp only [List.getElem?_take, List.getElem?_drop]
    by_cases hi : i ≤ l.length
    · have : min i l.length = i := by lia
      rw [this]
      by_cases hj : j ≤ l.length
      · have : min j l.length = j := by lia
        rw [this]
        by_cases hk : k < j - i
        · rw [if_pos hk, if_pos (by lia)]
        · rw [if_neg hk, if_neg (by lia)]
      · have : min j l.length = l.length := by lia
        rw [this]
        by_cases hk : k < l.length - i
        · rw [if_pos hk, if_pos (by lia)]
        · rw [if_neg hk]
          by_cases hk2 : i + k < j
          · rw [if_pos hk2, List.getElem?_eq_none (by lia)]
          · rw [if_neg hk2]
    · have : min i l.length = l.length := by lia
      rw [this]
      have e8 : l[i + k]? = none := List.getElem?_eq_none (by lia)
      have e9 : l[l.length + k]? = none := List.getElem?_eq_none (by lia)
      rw [e8, e9]
      simp
  · have q := slice_empty (min i x.length) (min j x.length) x.length (by lia) (by lia)
    unfold Txt.slice
    rw [q]
    have hx : ¬ (((1 : Int) == 1 && ([] : List Nat).length == x.length) = true) := by
      simp; lia
    rw [if_neg hx]
    unfold TX
    simp only [List.filterMap_nil]
    symm
    apply List.eq_nil_of_length_eq_zero
    rw [List.length_drop, List.length_take]
    lia
theorem slice_tx_to {x : Str} {l : List Nat} (h : TX x l) (j : Nat) : TX (Txt.slice x none (some (j : Int))) (l.take j) := by
  have e : Txt.slice x none (some (j : Int)) = Txt.slice x (some ((0 : Nat) : Int)) (some (j : Int)) := by
    unfold Txt.slice
    rw [StrLaws.sliceIdx_none_lo]
    rfl
  rw [e]
  simpa using slice_tx h 0 j
theorem slice_tx_from {x : Str} {l : List Nat} (h : TX x l) (i : Nat) : TX (Txt.slice x (some (i : Int)) none) (l.drop i) := by
  have e : Txt.slice x (some (i : Int)) none = Txt.slice x (some (i : Int)) (some (x.length : Int)) := by
    unfold Txt.slice
    rw [StrLaws.sliceIdx_none_hi]
  rw [e]
  have := slice_tx h i x.length
  rw [h.len] at this ⊢
  simpa using this

section
variable {prog : Program} {w : World} {A : Around} {E : Value → Shared → Prop} {s : Shared} {x y f : Str} {t u v : Tok} {Q : Value → Shared → Prop} {a b : List Nat}

theorem tx_add (ha : TX x a) (hb : TX y b) (hsz : a.length + b.length ≤ 100000) (h : ∀ z t' k, TX z (a ++ b) → Q (.str z t') { s with toks := k }) :
    wpAny (model prog w) A (binaryOp .Add (.str x t) (.str y u)) Q E s := by
  refine SB.add (fun t' k => h _ _ _ ?_) ?_
  · unfold TX at *; show (x.cps ++ y.cps).toList = a ++ b; simp [ha, hb]
  · rw [ha.len, hb.len, sizeLine_eq]; lia
theorem tx_len (ha : TX x a) (hsz : a.length ≤ 100000) (h : ∀ t' k, Q (.int (a.length : Int) t') { s with toks := k }) :
    wpAny (model prog w) A (call (.builtin "len") [.str x t]) Q E s := by
  have e := ha.len
  refine len_str (by rw [e]; lia) ?_
  rw [e]; exact h _ _
theorem tx_eq (ha : TX x a) (hb : TX y b) (h : Q (.bool (a == b)) s) : wpAny (model prog w) A (compareOp .Eq (.str x t) (.str y u)) Q E s := by
  refine PySem.P.eq_str ?_
  unfold TX at ha hb
  rw [ha, hb]; exact h
theorem tx_item {value slice : Expr} {i : Int} (ha : TX x a) (h0 : 0 ≤ i) (h1 : i < a.length) (hsz : a.length ≤ 100000) (h : ∀ z t' k, TX z [a.getD i.toNat 0] → Q (.str z t') { s with toks := k })
    (hs : subscripted slice false (.str x t) (.int i u) = operate [.str x t, .int i u] (getItem (.str x t) (.int i u)) := by with_unfolding_all rfl)
    (ht : ∀ r, letTemporaryGo value (.str x t) r = pure () := by intro _; with_unfolding_all rfl) :
    wpAny (model prog w) A (subscriptTail value slice (.str x t) (.int i u)) Q E s := by
  have e := ha.len
  refine item_str (fitsSsize_of (N := 9223372036854775808) (by lia) (by lia) (Int.le_refl _)) (by lia) (by lia) (fun _ => h _ _ _ ?_) hs ht
  have q : seqIndex? i x.length = some i.toNat := StrLaws.seqIndex_nonneg h0 (by lia)
  unfold TX Txt.item Txt.charAt
  rw [q]
  simp only [Option.bind_some]
  rw [ha.get]
  simp [List.getD_eq_getElem?_getD]
theorem tx_rjust {i : Int} (ha : TX x a) (hf : TX f [48]) (h0 : 0 ≤ i) (h1 : i ≤ 100000) (h : ∀ z t' k, TX z (List.replicate (i.toNat - a.length) 48 ++ a) → Q (.str z t') { s with toks := k }) :
    wpAny (model prog w) A (call (.builtin "str.rjust") [.str x t, .int i u, .str f v]) Q E s := by
  have e := ha.len
  have ef : f = ⟨#[48]⟩ := hf.eq
  subst ef
  refine rjust_fill (padOk_of (by lia) (by lia)) rfl (fun t' k => h _ _ _ ?_)
  unfold Txt.rjustF
  split
  · rename_i hi
    have : i.toNat - a.length = 0 := by lia
    rw [this]; simpa using ha
  · unfold TX Builtin.Str.padded
    unfold TX at ha
    simp [ha, e]
theorem tx_mul {n : Int} (hf : TX f [48]) (h0 : 0 ≤ n) (h1 : n ≤ 100000) (h : ∀ z t' k, TX z (List.replicate n.toNat 48) → Q (.str z t') { s with toks := k }) :
    wpAny (model prog w) A (binaryOp .Mult (.str f t) (.int n u)) Q E s := by
  have ef : f = ⟨#[48]⟩ := hf.eq
  subst ef
  refine SB.mul (mulOk_of 1 100000 (by decide) (by lia) (by lia) (by decide) (by decide)) (fun t' k => h _ _ _ ?_)
  unfold Txt.mul TX
  split
  · have : n.toNat = 0 := by lia
    rw [this]; rfl
  · split
    · rename_i hn
      have hn1 : n = 1 := by simpa [Str.length] using hn
      subst hn1; rfl
    · have key : ∀ (k : Nat) (acc : Array Nat), ((List.replicate k #[48]).foldl (· ++ ·) acc).toList = acc.toList ++ List.replicate k 48 := by
        intro k
        induction k with
        | zero => intro acc; simp
        | succ k ih => intro acc; simp [List.replicate_succ, ih]
      simpa using key n.toNat #[]
theorem tx_contains {c : Nat} (ha : TX x a) (hb : TX y [c]) (h : Q (.bool (decide (c ∈ a))) s) : wpAny (model prog w) A (compareOp .In (.str y u) (.str x t)) Q E s := by
  have e : y = ⟨#[c]⟩ := hb.eq
  subst e
  refine in_str ?_
  rw [StrLaws.found_one]
  unfold TX at ha
  rw [ha]; exact h
end

/-! the digits -/
def isD (c : Nat) : Bool := decide (48 ≤ c) && decide (c ≤ 57)
/-- the signs that the program's own texts hold -/
def okC (c : Nat) : Bool := isD c || c == 46 || c == 101 || c == 43 || c == 45
theorem okC_cases {c : Nat} (h : okC c = true) : c = 43 ∨ c = 45 ∨ c = 46 ∨ c = 48 ∨ c = 49 ∨ c = 50 ∨ c = 51 ∨ c = 52 ∨ c = 53 ∨ c = 54 ∨ c = 55 ∨ c = 56 ∨ c = 57 ∨ c = 101 := by
  simp only [okC, isD, Bool.or_eq_true, Bool.and_eq_true, decide_eq_true_eq, beq_iff_eq] at h
  lia
theorem isD_ok {c : Nat} (h : isD c = true) : okC c = true := by simp [okC, h]
theorem isD_iff {c : Nat} : isD c = true ↔ 48 ≤ c ∧ c ≤ 57 := by simp [isD]
theorem isD_cases {c : Nat} (h : isD c = true) : c = 48 ∨ c = 49 ∨ c = 50 ∨ c = 51 ∨ c = 52 ∨ c = 53 ∨ c = 54 ∨ c = 55 ∨ c = 56 ∨ c = 57 := by
  rw [isD_iff] at h; lia
theorem lowerOf_ok {c : Nat} (h : okC c = true) : Unicode.lowerOf c = [c] := by
  rcases okC_cases h with h | h | h | h | h | h | h | h | h | h | h | h | h | h <;> subst h <;> decide +kernel
theorem flatten_ones : ∀ (l : List Nat), ((l.toArray.mapIdx fun _ c => #[c]).flatten).toList = l := by
  intro l
  rw [Array.toList_flatten]
  rw [Array.toList_mapIdx]
  induction l with
  | nil => rfl
  | cons c r ih => simp only [List.mapIdx_cons, List.map_cons, List.flatten_cons]; rw [ih]; rfl
theorem lower_tx {x : Str} {a : List Nat} (ha : TX x a) (hok : ∀ c ∈ a, okC c = true) : TX (Txt.lower x) a := by
  have e := ha.eq
  subst e
  unfold Txt.lower placed TX
  have key : (a.toArray.mapIdx fun i _ => (Unicode.lowerAt a.toArray i).toArray) = a.toArray.mapIdx fun _ c => #[c] := by
    apply Array.ext
    · simp
    · intro i h1 h2
      simp only [Array.getElem_mapIdx]
      have hi : i < a.length := by simpa using h1
      have hc := hok _ (List.getElem_mem hi)
      unfold Unicode.lowerAt
      have hg : a.toArray[i]? = some a[i] := by simp [hi]
      rw [hg]
      simp only
      have hne : (a[i] == 0x3A3) = false := by
        rcases okC_cases hc with h | h | h | h | h | h | h | h | h | h | h | h | h | h <;> rw [h] <;> rfl
      rw [hne]
      simp [lowerOf_ok hc]
  show ((a.toArray.mapIdx fun i _ => (Unicode.lowerAt a.toArray i).toArray).flatten).toList = a
  rw [key]
  exact flatten_ones a

section
variable {prog : Program} {w : World} {A : Around} {E : Value → Shared → Prop} {s : Shared} {x y f : Str} {t u v : Tok} {Q : Value → Shared → Prop} {a b : List Nat}
theorem tx_lower (ha : TX x a) (hok : ∀ c ∈ a, okC c = true) (hsz : a.length ≤ 100000) (h : ∀ z t' k, TX z a → Q (.str z t') { s with toks := k }) :
    wpAny (model prog w) A (call (.builtin "str.lower") [.str x t]) Q E s :=
  SCL.lower (by rw [ha.len]; lia) fun _ => h _ _ _ (lower_tx ha hok)
theorem tx_strip (ha : TX x a) (hok : ∀ c ∈ a, okC c = true) (hb : TX y [32, 9, 10, 13, 12, 11]) (hsz : a.length ≤ 100000) (h : ∀ z t' k, TX z a → Q (.str z t') { s with toks := k }) :
    wpAny (model prog w) A (call (.builtin "str.strip") [.str x t, .str y u]) Q E s := by
  refine SC.stripChars (fun t' k => h _ _ _ ?_) (by rw [ha.len, sizeLine_eq]; lia)
  have e := ha.eq
  have ey := hb.eq
  subst e
  subst ey
  have hno : ∀ c ∈ a, (#[32, 9, 10, 13, 12, 11] : Array Nat).contains c = false := by
    intro c hc
    rcases okC_cases (hok c hc) with h | h | h | h | h | h | h | h | h | h | h | h | h | h <;> subst h <;> decide +kernel
  have hlo : ∀ l : List Nat, (∀ c ∈ l, (#[32, 9, 10, 13, 12, 11] : Array Nat).contains c = false) → l.takeWhile (#[32, 9, 10, 13, 12, 11] : Array Nat).contains = [] := by
    intro l hl
    cases l with
    | nil => rfl
    | cons c r => rw [List.takeWhile_cons, hl c (List.mem_cons_self ..)]; rfl
  have same : stripSame (#[32, 9, 10, 13, 12, 11] : Array Nat).contains true true ⟨a.toArray⟩ = true := by
    unfold stripSame stripLo stripHi
    simp only [if_true]
    have e1 := hlo a hno
    have e2 := hlo a.reverse (fun c hc => hno c (List.mem_reverse.mp hc))
    simp [e1, e2, Str.length]
  unfold Txt.stripChars Txt.stripBy
  rw [if_pos same]
  exact TX.of
theorem tx_find {c : Nat} (hx : TX x [48,49,50,51,52,53,54,55,56,57,97,98,99,100,101,102]) (hb : TX y [c]) (hc : isD c = true) (h : ∀ t' k, Q (.int ((c - 48 : Nat) : Int) t') { s with toks := k }) :
    wpAny (model prog w) A (call (.builtin "str.find") [.str x t, .str y u]) Q E s := by
  refine SC.find ?_
  have e := hx.eq
  have ey := hb.eq
  subst e
  subst ey
  have q : Txt.find ⟨[48,49,50,51,52,53,54,55,56,57,97,98,99,100,101,102].toArray⟩ ⟨[c].toArray⟩ = ((c - 48 : Nat) : Int) := by
    rcases isD_cases hc with h | h | h | h | h | h | h | h | h | h <;> subst h <;> decide +kernel
  rw [q]
  exact h _ _
theorem tx_index {c : Nat} (hx : TX x [48,49,50,51,52,53,54,55,56,57]) (hb : TX y [c]) (hc : isD c = true) (hA : A.handled = none) (h : ∀ t' k, Q (.int ((c - 48 : Nat) : Int) t') { s with toks := k }) :
    wpAny (model prog w) A (call (.builtin "str.index") [.str x t, .str y u]) Q E s := by
  have e := hx.eq
  have ey := hb.eq
  subst e
  subst ey
  have q : Txt.find ⟨[48,49,50,51,52,53,54,55,56,57].toArray⟩ ⟨[c].toArray⟩ = ((c - 48 : Nat) : Int) := by
    rcases isD_cases hc with h | h | h | h | h | h | h | h | h | h <;> subst h <;> decide +kernel
  refine index_or hA (fun h1 _ => ?_) (fun _ _ => ?_)
  · rw [q] at h1; lia
  · rw [q]; exact h _ _
end


/-- the decimal signs of a number -/
def digs (n : Nat) : List Nat := (Nat.toDigits 10 n).map Char.toNat
/-- the number that signs tell -/
def val (l : List Nat) : Nat := l.foldl (fun v c => v * 10 + (c - 48)) 0
theorem val_nil : val [] = 0 := rfl
theorem val_acc : ∀ (l : List Nat) (a : Nat), l.foldl (fun v c => v * 10 + (c - 48)) a = a * 10 ^ l.length + val l := by
  intro l
  induction l with
  | nil => intro a; simp [val]
  | cons c r ih =>
    intro a
    unfold val
    rw [List.foldl_cons, List.foldl_cons, ih, ih (0 * 10 + (c - 48)), List.length_cons, Nat.pow_succ]
    rw [Nat.add_mul, Nat.add_mul, Nat.mul_assoc a, Nat.mul_comm 10 (10 ^ r.length)]
    lia
theorem val_append (a b : List Nat) : val (a ++ b) = val a * 10 ^ b.length + val b := by
  conv => lhs; unfold val
  rw [List.foldl_append, val_acc]
  rfl
theorem val_one (c : Nat) : val [c] = c - 48 := by simp [val]
theorem val_snoc (l : List Nat) (c : Nat) : val (l ++ [c]) = val l * 10 + (c - 48) := by
  rw [val_append, val_one]; simp
theorem val_zeros (k : Nat) : val (List.replicate k 48) = 0 := by
  induction k with
  | zero => rfl
  | succ k ih => rw [List.replicate_succ', val_snoc, ih]
theorem val_pad (k : Nat) (l : List Nat) : val (List.replicate k 48 ++ l) = val l := by
  rw [val_append, val_zeros]; lia
theorem val_shift (l : List Nat) (k : Nat) : val (l ++ List.replicate k 48) = val l * 10 ^ k := by
  rw [val_append, val_zeros, List.length_replicate]; lia
theorem val_lt : ∀ (l : List Nat), (∀ c ∈ l, isD c = true) → val l < 10 ^ l.length := by
  intro l hl
  generalize hn : l.length = n
  induction n generalizing l with
  | zero => rw [List.eq_nil_of_length_eq_zero hn]; decide
  | succ n ih =>
    rcases List.eq_nil_or_concat l with h | ⟨r, c, h⟩
    · subst h; cases hn
    · subst h
      rw [List.concat_eq_append] at hl hn ⊢
      have hr : r.length = n := by simpa using hn
      have h1 := ih r (fun d hd => hl d (List.mem_append_left _ hd)) hr
      have h2 := isD_iff.mp (hl c (by simp))
      rw [val_snoc, Nat.pow_succ]
      lia
theorem digs_small {n : Nat} (h : n < 10) : digs n = [48 + n] := by
  unfold digs
  rw [Nat.toDigits_of_lt_base h]
  have : n = 0 ∨ n = 1 ∨ n = 2 ∨ n = 3 ∨ n = 4 ∨ n = 5 ∨ n = 6 ∨ n = 7 ∨ n = 8 ∨ n = 9 := by lia
  rcases this with h | h | h | h | h | h | h | h | h | h <;> subst h <;> rfl
theorem digs_big {n : Nat} (h : 10 ≤ n) : digs n = digs (n / 10) ++ [48 + n % 10] := by
  have e : Nat.toDigits 10 n = Nat.toDigits 10 (n / 10) ++ Nat.toDigits 10 (n % 10) := by
    have q := Nat.toDigits_append_toDigits (b := 10) (n := n / 10) (d := n % 10) (by decide) (by lia) (by lia)
    rw [q]
    congr 1
    lia
  have e2 : digs (n % 10) = [48 + n % 10] := digs_small (by lia)
  unfold digs at e2 ⊢
  rw [e, List.map_append, e2]
theorem digs_all (P : Nat → List Nat → Prop) (h1 : ∀ n, n < 10 → P n [48 + n]) (h2 : ∀ n, 10 ≤ n → P (n / 10) (digs (n / 10)) → P n (digs (n / 10) ++ [48 + n % 10])) : ∀ n, P n (digs n) := by
  intro n
  induction n using Nat.strongRecOn with
  | _ n ih =>
    by_cases h : n < 10
    · rw [digs_small h]; exact h1 n h
    · rw [digs_big (by lia)]; exact h2 n (by lia) (ih _ (by lia))
theorem val_digs (n : Nat) : val (digs n) = n := by
  refine digs_all (fun n l => val l = n) ?_ ?_ n
  · intro n _; rw [val_one]; lia
  · intro n _ ih; rw [val_snoc, ih]; lia
theorem digs_isD (n : Nat) : ∀ c ∈ digs n, isD c = true := by
  refine digs_all (fun n l => ∀ c ∈ l, isD c = true) ?_ ?_ n
  · intro n h c hc; rw [List.mem_singleton] at hc; rw [isD_iff]; lia
  · intro n _ ih c hc
    rcases List.mem_append.mp hc with hc | hc
    · exact ih c hc
    · rw [List.mem_singleton] at hc; rw [isD_iff]; lia
theorem digs_ne (n : Nat) : digs n ≠ [] := by
  refine digs_all (fun n l => l ≠ []) ?_ ?_ n
  · intro n _; simp
  · intro n _ _; simp
theorem digs_len_le (k : Nat) : ∀ n, n < 10 ^ (k + 1) → (digs n).length ≤ k + 1 := by
  induction k with
  | zero => intro n h; rw [digs_small (by simpa using h)]; simp
  | succ k ih =>
    intro n h
    by_cases h0 : n < 10
    · rw [digs_small h0]; simp
    · rw [digs_big (by lia), List.length_append, List.length_singleton]
      have : n / 10 < 10 ^ (k + 1) := by rw [Nat.pow_succ] at h; lia
      have := ih _ this
      lia
theorem digs_len (n k : Nat) (h1 : 10 ^ k ≤ n) (h2 : n < 10 ^ (k + 1)) : (digs n).length = k + 1 := by
  have h3 := digs_len_le k n h2
  have h4 := val_lt (digs n) (digs_isD n)
  rw [val_digs] at h4
  have h5 : ¬ (digs n).length ≤ k := fun hc => by
    have := Nat.pow_le_pow_right (n := 10) (by decide) hc
    lia
  lia
theorem digs_head (n : Nat) (h : 0 < n) : (digs n).getD 0 0 ≠ 48 := by
  have key := digs_all (fun n l => 0 < n → l.getD 0 0 ≠ 48 ∧ l ≠ []) ?_ ?_ n
  · exact (key h).1
  · intro n _ h; refine ⟨?_, by simp⟩; show 48 + n ≠ 48; lia
  · intro n h ih _
    obtain ⟨i1, i2⟩ := ih (by lia)
    refine ⟨?_, by simp⟩
    cases hd : digs (n / 10) with
    | nil => exact absurd hd i2
    | cons c r => rw [hd] at i1; exact i1
theorem digs_tx (n : Nat) : TX (Str.ofString (toString (n : Int))) (digs n) := by
  unfold TX digs
  rw [Str.ofString_eq_toList]
  show ((toString (n : Int)).toList.map Char.toNat) = _
  congr 1
  show (Nat.repr n).toList = _
  unfold Nat.repr
  simp
section
variable {prog : Program} {w : World} {A : Around} {E : Value → Shared → Prop} {s : Shared} {t : Tok} {Q : Value → Shared → Prop}
theorem tx_str {n : Int} (h0 : 0 ≤ n) (h1 : n < 10 ^ 60) (h : ∀ z t' k, TX z (digs n.toNat) → (digs n.toNat).length ≤ 60 → Q (.str z t') { s with toks := k }) :
    wpAny (model prog w) A (call (.type "str") [.int n t]) Q E s := by
  refine PySem.P.str_of_int (shown (N := 2 ^ 1920) (by lia) (by lia) (Int.le_refl _)) (h _ _ _ ?_ (digs_len_le 59 _ (by lia)))
  have := digs_tx n.toNat
  rwa [Int.toNat_of_nonneg h0] at this
end
theorem tx_lit {l : List Nat} (x : String) (h : (Str.ofString x).cps.toList = l) : TX (Str.ofString x) l := h


/-- the contract of a def at address f: called in any frame of a def, its answer and the objects that it adds meet Ret -/
def Spec (lv : Nat) (w : World) (mean : ExcName → Option Value) (mg mb : Str → Option Value) (f : Addr) (vs : List Value) (news : List (Addr × Obj)) (Ret : Value → List (Addr × Obj) → Prop) : Prop :=
  ∀ (dp un : Nat) (gd : Option (List Code)) (cn : Str) (cs : Scope) (a : Addr) (ccd : Value) (cl : List (Str × Addr)) (outer : List Env) (A₀ : Around) (base h₀ : Heap) (L : Addr) (m : Str → Option Value) (s : Shared) (Q E : Value → Shared → Prop),
    Below A₀ base outer h₀ → Fr h₀ L s.heap m → (hd.heap_39 w.params).In h₀ → News h₀ L s.heap news → Top hd.view_39 (looseW hd.view_39 [Str.ofString "number_text"]) mean mg mb h₀ → cs.kind = .function →
    dp + lv < recursionLimit → un + 8 * lv < cLine →
    (∀ v add h' tk', Ret v add → (∀ p ∈ news, ∀ q ∈ add, p.1 < q.1) → Fr h₀ L h' m → News h₀ L h' (add ++ news) → Q v { s with heap := h', toks := tk' }) →
      wpAny (model PySem.Challenge.rw_ov0062_01.row.prog w) (ktrTop dp un gd cn cs L a ccd cl outer) (call (.ref f) vs) Q E s

theorem Spec.use {lv : Nat} {w : World} {mean : ExcName → Option Value} {mg mb : Str → Option Value} {f : Addr} {vs : List Value} {news : List (Addr × Obj)} {Ret : Value → List (Addr × Obj) → Prop} (S : Spec lv w mean mg mb f vs news Ret)
    {dp un : Nat} {gd : Option (List Code)} {cn : Str} {cs : Scope} {a : Addr} {ccd : Value} {cl : List (Str × Addr)} {outer : List Env} {A₀ : Around} {base h₀ : Heap} {L : Addr} {m : Str → Option Value} {s : Shared} {Q E : Value → Shared → Prop}
    (B : Below A₀ base outer h₀) (F : Fr h₀ L s.heap m) (X : (hd.heap_39 w.params).In h₀) (N : News h₀ L s.heap news) (T : Top hd.view_39 (looseW hd.view_39 [Str.ofString "number_text"]) mean mg mb h₀) (hk : cs.kind = .function)
    (hd : dp + lv < recursionLimit) (hu : un + 8 * lv < cLine)
    (h : ∀ v add h' tk', Ret v add → (∀ p ∈ news, ∀ q ∈ add, p.1 < q.1) → Fr h₀ L h' m → News h₀ L h' (add ++ news) → Q v { s with heap := h', toks := tk' }) :
      wpAny (model PySem.Challenge.rw_ov0062_01.row.prog w) (ktrTop dp un gd cn cs L a ccd cl outer) (call (.ref f) vs) Q E s :=
  S _ _ _ _ _ _ _ _ _ _ _ _ _ _ _ _ _ B F X N T hk hd hu h
theorem room_of {dp k lv : Nat} (h : dp + k < recursionLimit) (hk : lv + 1 ≤ k) : dp + 1 + lv < recursionLimit := by lia
theorem units_of {un k lv : Nat} (h : un + 8 * k < cLine) (hk : lv + 1 ≤ k) : un + 3 + 8 * lv < cLine := by lia
theorem news_drop {h₀ h : Heap} {L : Addr} {news news' : List (Addr × Obj)} (N : News h₀ L h news') (hs : ∀ p ∈ news, p ∈ news') : News h₀ L h news := fun p hp => N p (hs p hp)
/-- divisors below 2 ^ 200 never go by _pylong -/
theorem noPy {x y : Int} (h0 : -(2 ^ 200) < y) (h1 : y < 2 ^ 200) : Builtin.divisionGoesByPylong x y = false := by
  refine PyProof.noPylong_of_log2 ?_
  by_cases hz : y.natAbs = 0
  · rw [hz]; decide
  · have : y.natAbs < 2 ^ 9000 := Nat.lt_of_lt_of_le (show y.natAbs < 2 ^ 200 by lia) (Nat.pow_le_pow_right (by decide) (by decide))
    exact (Nat.log2_lt hz).mpr this
/-- products of ints below 2 ^ 1000 fit -/
theorem mulOkR {a b : Int} (h0 : -(2 ^ 64) < b) (h1 : b < 2 ^ 64) : IntMulOk a b := IntMulOk.of_right (intBits_le_64 h0 h1)
theorem mulOkL {a b : Int} (h0 : -(2 ^ 64) < a) (h1 : a < 2 ^ 64) : IntMulOk a b := IntMulOk.of_left (intBits_le_64 h0 h1)
theorem bits_le {a : Int} {k : Nat} (h : a.natAbs < 2 ^ k) : Builtin.Int.intBits a ≤ k := by
  unfold Builtin.Int.intBits
  split
  · exact Nat.zero_le _
  · rename_i hz
    have hz' : a.natAbs ≠ 0 := by simpa using hz
    have := (Nat.log2_lt hz').mpr h
    lia
theorem mulOk2 {a b : Int} (h0 : -(2 ^ 250) < a) (h1 : a < 2 ^ 250) (h2 : -(2 ^ 250) < b) (h3 : b < 2 ^ 250) : IntMulOk a b := by
  have ha : Builtin.Int.intBits a ≤ 250 := bits_le (by lia)
  have hb : Builtin.Int.intBits b ≤ 250 := bits_le (by lia)
  unfold IntMulOk Builtin.Int.intTooBig
  have : ¬ ((Builtin.Int.intBits a : Int) + (Builtin.Int.intBits b : Int) > (bitsLine : Int)) := by
    have : (bitsLine : Int) = 2 ^ 27 := rfl
    lia
  rw [decide_eq_false this]
  simp
theorem AllLt.mem {d : Addr} : ∀ {l : List (Addr × Obj)}, AllLt d l → ∀ p ∈ l, p.1 < d
  | [], _ => fun _ hp => nomatch hp
  | q :: r, h => fun p hp => by
    rcases List.mem_cons.mp hp with e | e
    · rw [e]; exact h.1
    · exact AllLt.mem h.2 p e
theorem abs_nat {prog : Program} {w : World} {A : Around} {E : Value → Shared → Prop} {s : Shared} {a : Int} {t : Tok} {Q : Value → Shared → Prop} (h : ∀ u tk, Q (.int (a.natAbs : Int) u) { s with toks := tk }) :
    wpAny (model prog w) A (call (.builtin "abs") [.int a t]) Q E s :=
  call_abs_int fun u tk => by
    have e : (if a < 0 then -a else a) = (a.natAbs : Int) := by split <;> lia
    rw [e]; exact h u tk
/-- the object of a tuple -/
abbrev tupO (vs : List Value) : Obj := { cls := .type "tuple", data := .seq vs.toArray }
section
variable {w : World} {mean : ExcName → Option Value} {mg mb : Str → Option Value}
/-- into a def's body; the frame's map is rb, the tokens are forgotten -/
theorem enter_def {f : Addr} {vs : List Value} {news : List (Addr × Obj)} {dp un : Nat} {gd : Option (List Code)} {cn : Str} {cs : Scope} {a : Addr} {ccd : Value} {cl : List (Str × Addr)} {outer : List Env} {A₀ : Around} {base h₀ : Heap} {L : Addr} {m : Str → Option Value} {s : Shared} {Q E : Value → Shared → Prop}
    {name qual : Str} {params : Arguments} {body : List Stmt} {scope : Scope} {dV kV doc pm cdv ct oc : Value} {an od : Option Addr} {osl : Array (Option Value)} (rb : List (Str × Value))
    (B : Below A₀ base outer h₀) (F : Fr h₀ L s.heap m) (X : (hd.heap_39 w.params).In h₀) (N : News h₀ L s.heap news) (T : Top hd.view_39 (looseW hd.view_39 [Str.ofString "number_text"]) mean mg mb h₀) (hk : cs.kind = .function)
    (ho : (hd.heap_39 w.params).lookup f = some ⟨oc, od, .func (fnOf name qual params body scope dV kV doc pm an cdv ct), osl⟩) (hcd : codeIn (hd.heap_39 w.params) cdv qual = true) (hroom : dp < recursionLimit)
    (hbind : BindsTo s (fnOf name qual params body scope dV kV doc pm an cdv ct) ⟨vs, []⟩ rb.reverse) (hloc : ∀ y ∈ rb.reverse, scope.names.lookup y.1 = some .local)
    (h : ∀ g L' h₁ tk, Fr h₀ L g m → Fr g L' h₁ (fun y => rb.lookup y) → News g L' h₁ news → Below (ktrTop dp un gd cn cs L a ccd cl outer) base (envX cn cs L a ccd cl :: outer) g → (hd.heap_39 w.params).In g → Top hd.view_39 (looseW hd.view_39 [Str.ofString "number_text"]) mean mg mb g →
      wpAny (model PySem.Challenge.rw_ov0062_01.row.prog w) ((ktrTop dp un gd cn cs L a ccd cl outer).deeper (envOf qual scope L' f cdv)) (execs body (envOf qual scope L' f cdv))
        (fun fl s' => LeaveK h₀ L m g (fun r s' => match r with | .ok (.ret v) => Q v s' | .ok _ => False | .error e => E e s') (match fl with | .ret v => v | _ => .none) s')
        (fun e s' => wpAny (model PySem.Challenge.rw_ov0062_01.row.prog w) ((ktrTop dp un gd cn cs L a ccd cl outer).deeper (envOf qual scope L' f cdv)) (leaving (envOf qual scope L' f cdv) e) (fun _ s'' => E e s'') (fun e' s'' => E e' s'') s')
        { s with heap := h₁, toks := tk })
    (hco : scope.isCoroutine = false) (hgen : scope.isGenerator = false) (hkd : scope.kind = .function)
    (hcell : ∀ x ∈ scope.names, x.2 ≠ .cell) : wpAny (model PySem.Challenge.rw_ov0062_01.row.prog w) (ktrTop dp un gd cn cs L a ccd cl outer) (call (.ref f) vs) Q E s := by
  refine wpAny_call ?_
  refine code_def B F X N T rfl rfl hk ho hcd hroom hbind hloc (fun g L' h₁ FG F' N' B' X' T' => ?_) hco hgen hkd hcell
  have e : (fun y => rb.reverse.reverse.lookup y) = fun y => rb.lookup y := by rw [List.reverse_reverse]
  rw [e] at F'
  exact h g L' h₁ _ FG F' N' B' X' T'
end
section
variable {prog : Program} {w : World} {A : Around} {E : Value → Shared → Prop} {s : Shared} {a b : Int} {t u : Tok} {Q : Value → Shared → Prop}
theorem t_add (h : ∀ t' k, Q (.int (a + b) t') { s with toks := k }) : wpAny (model prog w) A (binaryOp .Add (.int a t) (.int b u)) Q E s := PyProof.Rows.add_int (h _ _)
theorem t_iadd (h : ∀ t' k, Q (.int (a + b) t') { s with toks := k }) : wpAny (model prog w) A (inplaceOp .Add (.int a t) (.int b u)) Q E s := PyProof.Rows.iadd_int (h _ _)
theorem t_sub (h : ∀ t' k, Q (.int (a - b) t') { s with toks := k }) : wpAny (model prog w) A (binaryOp .Sub (.int a t) (.int b u)) Q E s := PyProof.Rows.sub_int (h _ _)
theorem t_isub (h : ∀ t' k, Q (.int (a - b) t') { s with toks := k }) : wpAny (model prog w) A (inplaceOp .Sub (.int a t) (.int b u)) Q E s := PySem.P.isub_int (h _ _)
theorem t_mul (hm : IntMulOk a b) (h : ∀ t' k, Q (.int (a * b) t') { s with toks := k }) : wpAny (model prog w) A (binaryOp .Mult (.int a t) (.int b u)) Q E s := PyProof.Rows.mul_int (h _ _) hm
theorem t_mod (hb : b ≠ 0) (h : ∀ t' k, Q (.int (a.fmod b) t') { s with toks := k }) : wpAny (model prog w) A (binaryOp .Mod (.int a t) (.int b u)) Q E s := PyProof.Rows.mod_int' hb (h _ _)
/-- floor division by a positive int: the quotient as a letter -/
theorem t_fdiv (hb : 0 < b) (hb2 : b < 2 ^ 200) (h : ∀ r t' k, r = a.fdiv b → (0 ≤ a → 0 ≤ r ∧ r ≤ a) → Q (.int r t') { s with toks := k }) : wpAny (model prog w) A (binaryOp .FloorDiv (.int a t) (.int b u)) Q E s := by
  refine floordiv_int (by lia) (h _ _ _ rfl ?_) (Or.inl (noPy (by lia) hb2))
  intro ha
  rw [Int.fdiv_eq_ediv_of_nonneg a (by lia)]
  exact ⟨Int.ediv_nonneg ha (by lia), Int.ediv_le_self b ha⟩
theorem t_pow {n : Int} (hn : 0 ≤ n) (hn2 : n ≤ 1000) (ha : a.natAbs < 2 ^ 64) (h : ∀ t' k, Q (.int (a ^ n.toNat) t') { s with toks := k }) : wpAny (model prog w) A (binaryOp .Pow (.int a t) (.int n u)) Q E s :=
  pow_int_small hn (by lia) ha (h _ _)
end
theorem newer {news : List (Addr × Obj)} {a : Addr} {o : Obj} (h : ∀ p ∈ news, ∀ q ∈ [(a, o)], p.1 < q.1) : AllLt a news := allLt_of fun p hp => h p hp _ (List.mem_cons_self ..)
theorem sub_refl {l : List (Addr × Obj)} : ∀ p ∈ l, p ∈ l := fun _ h => h
theorem sub_skip {a : Addr × Obj} {l l' : List (Addr × Obj)} (h : ∀ p ∈ l, p ∈ l') : ∀ p ∈ l, p ∈ a :: l' := fun p hp => List.mem_cons_of_mem _ (h p hp)
theorem sub_both {a : Addr × Obj} {l l' : List (Addr × Obj)} (h : ∀ p ∈ l, p ∈ l') : ∀ p ∈ a :: l, p ∈ a :: l' := fun p hp => by
  rcases List.mem_cons.mp hp with e | e
  · rw [e]; exact List.mem_cons_self ..
  · exact List.mem_cons_of_mem _ (h p e)
section
variable {prog : Program} {w : World} {A : Around} {E : Value → Shared → Prop} {s : Shared} {value slice : Expr} {x : Str} {t : Tok} {h₀ : Heap} {L : Addr} {m : Str → Option Value} {news : List (Addr × Obj)} {Q : Value → Shared → Prop} {a : List Nat}
theorem tx_slice_to {j : Int} {uj : Tok} (hF : Fr h₀ L s.heap m) (hN : News h₀ L s.heap news) (ha : TX x a) (h0 : 0 ≤ j) (hz : a.length ≤ 100000) (h : ∀ z h' t' k, TX z (a.take j.toNat) → Fr h₀ L h' m → News h₀ L h' news → Q (.str z t') { s with heap := h', toks := k })
    (hs : subscripted slice false (.str x t) (.ref s.heap.objs.size) = operate [.ref s.heap.objs.size, .str x t] (getItem (.str x t) (.ref s.heap.objs.size)))
    (ht : ∀ r, letTemporaryGo value (.str x t) r = pure ()) :
    wpAny (model prog w) A (subscriptTail value slice (.str x t) (.ref s.heap.objs.size)) Q E { s with heap := s.heap.push { cls := .type "slice", data := .fields #[.none, .int j uj, .none] } } := by
  refine slice_strN_ns hF hN (fun h' t' k hF' hN' => h _ h' t' k ?_ hF' hN') hs ht (by rw [ha.len, sizeLine_eq]; lia)
  have := slice_tx_to ha j.toNat
  rwa [Int.toNat_of_nonneg h0] at this
theorem tx_slice_from {j : Int} {uj : Tok} (hF : Fr h₀ L s.heap m) (hN : News h₀ L s.heap news) (ha : TX x a) (h0 : 0 ≤ j) (hz : a.length ≤ 100000) (h : ∀ z h' t' k, TX z (a.drop j.toNat) → Fr h₀ L h' m → News h₀ L h' news → Q (.str z t') { s with heap := h', toks := k })
    (hs : subscripted slice false (.str x t) (.ref s.heap.objs.size) = operate [.ref s.heap.objs.size, .str x t] (getItem (.str x t) (.ref s.heap.objs.size)))
    (ht : ∀ r, letTemporaryGo value (.str x t) r = pure ()) :
    wpAny (model prog w) A (subscriptTail value slice (.str x t) (.ref s.heap.objs.size)) Q E { s with heap := s.heap.push { cls := .type "slice", data := .fields #[.int j uj, .none, .none] } } := by
  refine slice_strN_sn hF hN (fun h' t' k hF' hN' => h _ h' t' k ?_ hF' hN') hs ht (by rw [ha.len, sizeLine_eq]; lia)
  have := slice_tx_from ha j.toNat
  rwa [Int.toNat_of_nonneg h0] at this
theorem tx_slice {i j : Int} {ui uj : Tok} (hF : Fr h₀ L s.heap m) (hN : News h₀ L s.heap news) (ha : TX x a) (hi : 0 ≤ i) (h0 : 0 ≤ j) (hz : a.length ≤ 100000) (h : ∀ z h' t' k, TX z ((a.take j.toNat).drop i.toNat) → Fr h₀ L h' m → News h₀ L h' news → Q (.str z t') { s with heap := h', toks := k })
    (hs : subscripted slice false (.str x t) (.ref s.heap.objs.size) = operate [.ref s.heap.objs.size, .str x t] (getItem (.str x t) (.ref s.heap.objs.size)))
    (ht : ∀ r, letTemporaryGo value (.str x t) r = pure ()) :
    wpAny (model prog w) A (subscriptTail value slice (.str x t) (.ref s.heap.objs.size)) Q E { s with heap := s.heap.push { cls := .type "slice", data := .fields #[.int i ui, .int j uj, .none] } } := by
  refine slice_strN_ss hF hN (fun h' t' k hF' hN' => h _ h' t' k ?_ hF' hN') hs ht (by rw [ha.len, sizeLine_eq]; lia)
  have := slice_tx ha i.toNat j.toNat
  rwa [Int.toNat_of_nonneg h0, Int.toNat_of_nonneg hi] at this
end
theorem tx_one {c : Nat} : TX ⟨#[c]⟩ [c] := rfl
theorem codes_mem {x : Str} {l : List Nat} {pre post : List Int} {n : Nat} (e : KStt.codes x = pre ++ (n : Int) :: post) (hx : TX x l) : n ∈ l := by
  unfold TX at hx
  unfold KStt.codes at e
  rw [hx] at e
  have : (n : Int) ∈ l.map fun (c : Nat) => (c : Int) := by rw [e]; simp
  obtain ⟨c, hc, he⟩ := List.mem_map.mp this
  have : c = n := by lia
  rwa [← this]
theorem codes_all {x : Str} {l : List Nat} {pre post : List Int} {n : Nat} (e : KStt.codes x = pre ++ (n : Int) :: post) (hx : TX x l) {P : Nat → Bool} (h : ∀ c ∈ l, P c = true) : P n = true := h n (codes_mem e hx)
theorem codes_nat {x : Str} {l : List Nat} (hx : TX x l) : (KStt.codes x).map Int.toNat = l := by
  unfold TX at hx
  unfold KStt.codes
  rw [hx, List.map_map]
  exact (List.map_congr_left (g := _root_.id) fun c _ => Int.toNat_natCast c).trans (List.map_id _)
section
variable {prog : Program} {w : World} {A : Around} {E : Value → Shared → Prop} {s : Shared} {x z : Str} {t tz : Tok} {h₀ : Heap} {L D : Addr} {news : List (Addr × Obj)} {Q : Value → Shared → Prop} {a : List Nat} {c : Nat}
theorem tx_join1 (hN : News h₀ L s.heap news) (hm : (D, listOf #[.str z tz] c) ∈ news) (he : TX x []) (hz : TX z a) (hl : a.length ≤ 1000) (h : ∀ y t' k, TX y a → Q (.str y t') { s with toks := k }) :
    wpAny (model prog w) A (call (.builtin "str.join") [.str x t, .ref D]) Q E s := by
  have e := he.eq
  subst e
  refine join_listC (ys := [z]) (News.isList hN hm) (.cons _ _ .nil) (by decide) (by simp [hz.len]; lia) fun t' k => h _ t' k ?_
  have : Txt.join ⟨([] : List Nat).toArray⟩ [z] = z := rfl
  rw [this]
  exact hz
end
theorem tx_c_empty : TX (Str.ofString "") [] := tx_lit _ (by decide +kernel)
theorem tx_c_0 : TX (Str.ofString "0") [48] := tx_lit _ (by decide +kernel)
theorem tx_c_minus : TX (Str.ofString "-") [45] := tx_lit _ (by decide +kernel)
theorem tx_c_plus : TX (Str.ofString "+") [43] := tx_lit _ (by decide +kernel)
theorem tx_c_dot : TX (Str.ofString ".") [46] := tx_lit _ (by decide +kernel)
theorem tx_c_e : TX (Str.ofString "e") [101] := tx_lit _ (by decide +kernel)
theorem tx_c_em : TX (Str.ofString "e-") [101, 45] := tx_lit _ (by decide +kernel)
theorem tx_c_ep : TX (Str.ofString "e+") [101, 43] := tx_lit _ (by decide +kernel)
theorem tx_c_0x : TX (Str.ofString "0x") [48, 120] := tx_lit _ (by decide +kernel)
theorem tx_c_0X : TX (Str.ofString "0X") [48, 88] := tx_lit _ (by decide +kernel)
theorem tx_c_NA : TX (Str.ofString "NA") [78, 65] := tx_lit _ (by decide +kernel)
theorem tx_c_NaN : TX (Str.ofString "NaN") [78, 97, 78] := tx_lit _ (by decide +kernel)
theorem tx_c_inf : TX (Str.ofString "inf") [105, 110, 102] := tx_lit _ (by decide +kernel)
theorem tx_c_infinity : TX (Str.ofString "infinity") [105, 110, 102, 105, 110, 105, 116, 121] := tx_lit _ (by decide +kernel)
theorem tx_c_dig : TX (Str.ofString "0123456789") [48,49,50,51,52,53,54,55,56,57] := tx_lit _ (by decide +kernel)
theorem tx_c_hex : TX (Str.ofString "0123456789abcdef") [48,49,50,51,52,53,54,55,56,57,97,98,99,100,101,102] := tx_lit _ (by decide +kernel)
theorem tx_c_blank : TX (Str.ofString " \t\n\r\x0c\x0b") [32, 9, 10, 13, 12, 11] := tx_lit _ (by decide +kernel)
theorem tx_c_fixed : TX (Str.ofString "fixed") [102, 105, 120, 101, 100] := tx_lit _ (by decide +kernel)
theorem tx_c_sci : TX (Str.ofString "scientific") [115, 99, 105, 101, 110, 116, 105, 102, 105, 99] := tx_lit _ (by decide +kernel)
theorem fresh2 {news : List (Addr × Obj)} {a b : Addr} {o u : Obj} (ha : AllLt a news) (hb : AllLt b news) : ∀ p ∈ news, ∀ q ∈ [(a, o), (b, u)], p.1 < q.1 := by
  intro p hp q hq
  rcases List.mem_cons.mp hq with h | h
  · rw [h]; exact AllLt.mem ha p hp
  · rw [List.mem_singleton.mp h]; exact AllLt.mem hb p hp
theorem newer2 {news : List (Addr × Obj)} {a b : Addr} {o u : Obj} (h : ∀ p ∈ news, ∀ q ∈ [(a, o), (b, u)], p.1 < q.1) : AllLt a news ∧ AllLt b news :=
  ⟨allLt_of fun p hp => h p hp _ (List.mem_cons_self ..), allLt_of fun p hp => h p hp _ (List.mem_cons_of_mem _ (List.mem_cons_self ..))⟩
theorem Spec.mono {lv : Nat} {w : World} {mean : ExcName → Option Value} {mg mb : Str → Option Value} {f : Addr} {vs : List Value} {news : List (Addr × Obj)} {Ret Ret' : Value → List (Addr × Obj) → Prop} (S : Spec lv w mean mg mb f vs news Ret) (h : ∀ v add, Ret v add → Ret' v add) : Spec lv w mean mg mb f vs news Ret' := by
  intro dp un gd cn cs a0 ccd cl outer A0 base h0 L0 m0 s0 Q0 E0 B F X N T hk hdp hun hret
  exact S dp un gd cn cs a0 ccd cl outer A0 base h0 L0 m0 s0 Q0 E0 B F X N T hk hdp hun fun v add h' tk' hR => hret v add h' tk' (h v add hR)
/-- a local stored: the new frame's map as a let -/
theorem storeX_let {M : Model} {A : Around} {s : Shared} {h₀ : Heap} {L a : Addr} {m : Str → Option Value} {cn : Str} {cs : Scope} {ccd : Value} {cl : List (Str × Addr)} {news : List (Addr × Obj)} {x : Str} {v : Value} {Q : Unit → Shared → Prop} {E : Value → Shared → Prop} (F : Fr h₀ L s.heap m) (N : News h₀ L s.heap news)
    (h : ∀ h', let m' := fun y => if y = x then some v else m y; Fr h₀ L h' m' → News h₀ L h' news → Q () { s with heap := h', toks := s.toks + 1 })
    (hk : cs.kind = .function) (hx : (envX cn cs L a ccd cl).kindOf x = some .local) : wpAny M A (storeName (envX cn cs L a ccd cl) x v) Q E s :=
  storeX_L F N h hk hx
/-- where branches meet: the frame's map meets P, the ledger is as before -/
def JoinP (g : Heap) (L : Addr) (news : List (Addr × Obj)) (s : Shared) (P : (Str → Option Value) → Prop) : Flow → Shared → Prop := fun fl s' => fl = .next ∧ ∃ h' tk m', s' = { s with heap := h', toks := tk } ∧ Fr g L h' m' ∧ News g L h' news ∧ P m'
theorem join_if {M : Model} {A : Around} {E : Value → Shared → Prop} {s : Shared} {st : Stmt} {env : Env} {Q : Flow → Shared → Prop} {g : Heap} {L : Addr} {m : Str → Option Value} {news : List (Addr × Obj)} (P : (Str → Option Value) → (Str → Option Value) → Prop) (_ : Fr g L s.heap m) (_ : News g L s.heap news)
    (h1 : wpAny M A (exec st env) (JoinP g L news s (P m)) E s) (h2 : ∀ h' tk m', P m m' → Fr g L h' m' → News g L h' news → Q .next { s with heap := h', toks := tk }) : wpAny M A (exec st env) Q E s :=
  wpAny_mono h1 (fun fl s' h => by
    obtain ⟨e, h', tk, m', e2, F, N, hP⟩ := h
    subst e
    subst e2
    exact h2 h' tk m' hP F N) fun _ _ e => e
/-- the map of m with two names stored -/
def upd2 (m : Str → Option Value) (x y : Str) (v w : Value) : Str → Option Value := fun z => if z = x then some v else if z = y then some w else m z
theorem upd2_l {m : Str → Option Value} {x y : Str} {v w : Value} (h : m y = some w) : (fun z => if z = x then some v else m z) = upd2 m x y v w := by
  funext z
  unfold upd2
  by_cases hx : z = x
  · rw [if_pos hx, if_pos hx]
  · rw [if_neg hx, if_neg hx]
    by_cases hy : z = y
    · rw [if_pos hy, hy, h]
    · rw [if_neg hy]
theorem upd2_r {m : Str → Option Value} {x y : Str} {v w : Value} (hn : y ≠ x) (h : m x = some v) : (fun z => if z = y then some w else m z) = upd2 m x y v w := by
  funext z
  unfold upd2
  by_cases hx : z = x
  · rw [if_pos hx, hx, if_neg (Ne.symm hn), h]
  · rw [if_neg hx]
theorem upd2_0 {m : Str → Option Value} {x y : Str} {v w : Value} (h : m x = some v) (h2 : m y = some w) : m = upd2 m x y v w := by
  funext z
  unfold upd2
  by_cases hx : z = x
  · rw [if_pos hx, hx, h]
  · rw [if_neg hx]
    by_cases hy : z = y
    · rw [if_pos hy, hy, h2]
    · rw [if_neg hy]
/-- what a step says stays a let: one name in the place of a long term, at every depth of binders -/
theorem enter_let {M : Model} {T : Around} {E : Value → Shared → Prop} {s : Shared} {body : List Stmt} {env : Env} {Q : Flow → Shared → Prop}
    (h : let env' := env; let A' := Around.deeper T env'; let E' := E; let Q' := Q; wpAny M A' (execs body env') Q' E' s) : wpAny M (Around.deeper T env) (execs body env) Q E s := h
theorem execs_let {M : Model} {A : Around} {E : Value → Shared → Prop} {s : Shared} {st : Stmt} {rest : List Stmt} {env : Env} {Q : Flow → Shared → Prop}
    (h : let Q' : Flow → Shared → Prop := (fun f s' => match f with | .next => wpAny M A (execs rest env) Q E s' | f => Q f s'); wpAny M A (exec st env) Q' E s) : wpAny M A (execs (st :: rest) env) Q E s := wpAny_execs_cons h
theorem news_let {g h : Heap} {L : Addr} {x : Addr × Obj} {l : List (Addr × Obj)} {C : Prop} (N : News g L h (x :: l)) (k : let l' := x :: l; News g L h l' → C) : C := k N
theorem news_let2 {g h : Heap} {L : Addr} {x y : Addr × Obj} {l : List (Addr × Obj)} {C : Prop} (N : News g L h (x :: y :: l)) (k : let l' := x :: y :: l; News g L h l' → C) : C := k N
theorem lt_sub {d : Addr} {l l' : List (Addr × Obj)} (h : ∀ p ∈ l', p.1 < d) (hs : ∀ p ∈ l, p ∈ l') : AllLt d l := allLt_of fun p hp => h p (hs p hp)
theorem letQ {α : Type} {M : Model} {A : Around} {t : Sem α} {E : Value → Shared → Prop} {s : Shared} {Q : α → Shared → Prop} (h : let Q' := Q; wpAny M A t Q' E s) : wpAny M A t Q E s := h


local macro_rules | `(tactic| walk_at $s:str) => `(tactic| k_extra $s)
theorem rows_mac_0 : True := by
  k_with "binaryOp FloorDiv int int" => (k_here; (with_reducible refine t_fdiv ?k1 ?k2 ?_); (case k1 => omega); (case k2 => omega); intro _ _ _ _ _)
  k_with "binaryOp Mod int int" => (k_here; (with_reducible refine t_mod ?k1 ?_); (case k1 => omega); intro _ _)
  k_with "binaryOp Add int int" => (k_here; (with_reducible refine t_add ?_); intro _ _)
  k_with "inplaceOp Add int int" => (k_here; (with_reducible refine t_iadd ?_); intro _ _)
  k_with "binaryOp Sub int int" => (k_here; (with_reducible refine t_sub ?_); intro _ _)
  k_with "inplaceOp Sub int int" => (k_here; (with_reducible refine t_isub ?_); intro _ _)
  k_with "binaryOp Mult int int" => (k_here; (with_reducible refine t_mul ?km ?_); (case km => first | with_reducible assumption | exact mulOkR (by omega) (by omega) | exact mulOkL (by omega) (by omega) | exact mulOk2 (by omega) (by omega) (by omega) (by omega)); intro _ _)
  k_with "binaryOp Pow int int" => (k_here; (with_reducible refine t_pow ?k1 ?k2 ?k3 ?_); (case k1 => omega); (case k2 => omega); (case k3 => decide); intro _ _)
  k_with "call builtin:abs" => (k_here; (with_reducible refine abs_nat ?_); intro _ _)
  k_with "ite" => (k_here; k_openite; (try simp only [beq_iff_eq, bne_iff_ne, decide_eq_true_eq]); first | refine ite_pos (by with_reducible assumption) ?_ | refine ite_neg (by with_reducible assumption) ?_ | refine ite_pos (by omega) ?_ | refine ite_neg (by omega) ?_ | ((with_reducible show @ite _ (@Eq (List Nat) _ _) _ _ _); first | (refine ite_pos ?hc ?_; (case hc => (simp; done))) | (refine ite_neg ?hc ?_; (case hc => (simp; done)))))
  trivial
-- into the body: behind «refine enter_def rb ?k1 ..»
theorem rows_mac_1 : True := by
  k_with "enter" => ((case k1 => with_reducible assumption); (case k2 => with_reducible assumption); (case k3 => with_reducible assumption); (case k4 => with_reducible assumption); (case k5 => with_reducible assumption); (case k6 => with_reducible assumption); (case k7 => k_is); (case k8 => k_is); (case k9 => omega); (case ka => first | exact BindsTo.of_eq rfl | ((with_reducible rename Frag.In _ _ => X); (with_reducible rename Fr _ _ _ _ => F); (k_dflt exact binds_K (X.keeps F.keep) rfl (by k_is) rfl rfl rfl))); (case kb => exact locs rfl); (case kc => exact rfl); (case kd => exact rfl); (case ke => exact rfl); (case kf => decide); intro g' L' h' tk' FG' F' N' B' X' T'; k_fold; (with_reducible refine enter_let ?_); intro EN AA EE QQ)
  trivial
-- ends: no new object
theorem rows_mac_2 : True := by
  k_with "no new" => (intro _ _ _ h; cases h)
  k_with "fresh" => first | with_reducible assumption | (intro p hp q hq; rw [List.mem_singleton] at hq; subst hq; first | exact (by with_reducible assumption : ∀ p ∈ _, p.1 < _) p hp | exact AllLt.mem (by with_reducible assumption) p hp | exact AllLt.mem (And.right (by with_reducible assumption : _ ∧ AllLt _ _)) p hp | exact AllLt.mem (And.right (And.right (by with_reducible assumption : _ ∧ _ ∧ AllLt _ _))) p hp | exact AllLt.mem (And.right (And.right (And.right (by with_reducible assumption : _ ∧ _ ∧ _ ∧ AllLt _ _)))) p hp | (refine AllLt.mem (lt_sub (by with_reducible assumption) ?_) p hp; clear hp; walk_at "sub"))
  k_with "sub" => (repeat first | with_reducible exact sub_refl | with_reducible refine sub_both ?_ | with_reducible refine sub_skip ?_); done
  k_with "news end" => ((try simp only [List.nil_append, List.cons_append]); first | with_reducible assumption | (refine news_drop (by with_reducible assumption) ?_; walk_at "sub"))
  trivial
-- texts
theorem rows_mac_3 : True := by
  k_with "tx" => with_reducible first | assumption | exact tx_one | exact tx_c_empty | exact tx_c_0 | exact tx_c_minus | exact tx_c_plus | exact tx_c_dot | exact tx_c_e | exact tx_c_em | exact tx_c_ep | exact tx_c_0x | exact tx_c_0X | exact tx_c_NA | exact tx_c_NaN | exact tx_c_inf | exact tx_c_infinity | exact tx_c_dig | exact tx_c_hex | exact tx_c_blank | exact tx_c_fixed | exact tx_c_sci
  k_with "binaryOp Add str str" => (k_here; (with_reducible refine' tx_add ?ha ?hb ?hz ?_); (case ha => walk_at "tx"); (case hb => walk_at "tx"); (case hz => walk_at "tx size"); intro _ _ _ _)
  k_with "call builtin:len" => (k_here; (with_reducible show wpAny _ _ (PySem.call (Value.builtin "len") [Value.str _ _]) _ _ _); (with_reducible refine' tx_len ?ha ?hz ?_); (case ha => walk_at "tx"); (case hz => walk_at "tx size"); intro _ _)
  k_with "compareOp Eq str str" => (k_here; (with_reducible refine' tx_eq ?ha ?hb ?_); (case ha => walk_at "tx"); (case hb => walk_at "tx"))
  k_with "binaryOp Mult str int" => (k_here; (with_reducible refine' tx_mul ?ha ?h0 ?h1 ?_); (case ha => walk_at "tx"); (case h0 => omega); (case h1 => omega); intro _ _ _ _)
  k_with "call type:str" => (k_here; (with_reducible show wpAny _ _ (PySem.call (Value.type "str") [Value.int _ _]) _ _ _); (with_reducible refine' tx_str ?h0 ?h1 ?_); (case h0 => with_reducible first | assumption | omega); (case h1 => with_reducible first | assumption | omega); intro _ _ _ _ _)
  k_with "call builtin:str.rjust" => (k_here; (with_reducible refine' tx_rjust ?ha ?hf ?h0 ?h1 ?_); (case ha => walk_at "tx"); (case hf => walk_at "tx"); (case h0 => omega); (case h1 => omega); intro _ _ _ _)
  k_with "tx size" => first | omega | ((simp only [List.length_append, List.length_cons, List.length_nil, List.length_replicate, List.length_take, List.length_drop]); omega)
  k_with "str item" => (k_here; (with_reducible refine' tx_item ?ha ?h0 ?h1 ?hz ?_ ?hs ?ht); (case ha => walk_at "tx"); (case h0 => walk_at "tx size"); (case h1 => walk_at "tx size"); (case hz => walk_at "tx size"); (case hs => with_unfolding_all rfl); (case ht => (intro _; with_unfolding_all rfl)); intro _ _ _ _)
  k_with "subscriptTail Name BinOp str int" => walk_at "str item"
  k_with "subscriptTail Name Constant str int" => walk_at "str item"
  k_with "subscriptTail Name Name str int" => walk_at "str item"
  k_with "subscriptTail Name Slice str ref" => (k_here; (with_reducible rename Fr _ _ _ _ => F'); (with_reducible rename News _ _ _ _ => N'); (first   | ((with_reducible show wpAny _ _ (subscriptTail _ (PySem.Expr.Slice none (some _) none _) _ _) _ _ _); (refine' tx_slice_to (s := ⟨_, _, _, _, _⟩) F' N' ?ha ?h0 ?hz ?_ ?hs ?ht))   | ((with_reducible show wpAny _ _ (subscriptTail _ (PySem.Expr.Slice (some _) none none _) _ _) _ _ _); (refine' tx_slice_from (s := ⟨_, _, _, _, _⟩) F' N' ?ha ?h0 ?hz ?_ ?hs ?ht))   | ((with_reducible show wpAny _ _ (subscriptTail _ (PySem.Expr.Slice (some _) (some _) none _) _ _) _ _ _); (refine' tx_slice (s := ⟨_, _, _, _, _⟩) F' N' ?ha ?hi ?h0 ?hz ?_ ?hs ?ht); (case hi => walk_at "tx size"))); (case ha => walk_at "tx"); (case h0 => walk_at "tx size"); (case hz => walk_at "tx size"); (case hs => with_unfolding_all rfl); (case ht => (intro _; with_unfolding_all rfl)); intro _ _ _ _ _ _ _; (try k_sweep))
  k_with "call builtin:str.join" => (k_here; (with_reducible refine' tx_join1 ?hN ?hm ?he ?hz ?hl ?_); (case hN => k_asm); (case hm => k_mem); (case he => walk_at "tx"); (case hz => walk_at "tx"); (case hl => walk_at "tx size"); intro _ _ _ _)
  trivial
local macro_rules | `(tactic| k_mem) => `(tactic| (with_reducible refine List.mem_cons_of_mem _ ?_; k_mem))
local macro_rules | `(tactic| k_mem) => `(tactic| with_reducible exact List.mem_cons_self ..)
local macro_rules | `(tactic| k_mem) => `(tactic| with_reducible assumption)

theorem rows_mac_4 : True := by
  k_with "subscriptTail Name Constant ref int" => (k_here; (k_dflt refine' item_tupleT (News.isTup ?n ?m) ?a ?b ?c ?d ?_); (case n => k_asm); (case m => k_mem); (case a => decide); (case b => decide); (case c => k_dflt exact rfl); (case d => k_dflt exact rfl))
  k_with "ao" => with_reducible first | assumption | omega
  k_with "as" => with_reducible assumption
  k_with "use in" => ((case k1 => k_asm); (case k2 => k_asm); (case k3 => k_asm); (case k4 => k_asm); (case k5 => k_asm); (case k6 => exact rfl); (case k7 => exact room_of (by with_reducible assumption) (by decide)); (case k8 => exact units_of (by with_reducible assumption) (by decide)))
  k_with "use fin" => ((try k_sweep); (try dsimp only); (try k_fold))
  k_with "use end" => (intro l1 F' N'; (simp only [List.nil_append, List.cons_append] at N'); clear l1; walk_at "use fin")
  k_with "use e" => (intro F' N'; (simp only [List.nil_append, List.cons_append] at N'); walk_at "use fin")
  k_with "use new" => (intro l1 F' N'; (simp only [List.nil_append, List.cons_append] at N'); (replace l1 := newer l1); (try simp (config := { zetaDelta := true }) only [AllLt, and_true] at l1); (with_reducible refine news_let N' ?_); clear N'; intro nl N'; walk_at "use fin")
  k_with "use newn" => (intro l1 F' N'; (simp only [List.nil_append, List.cons_append] at N'); (replace l1 := newer l1); (try simp (config := { zetaDelta := true }) only [AllLt, and_true] at l1); walk_at "use fin")
  k_with "use new2" => (intro l1 F' N'; (simp only [List.nil_append, List.cons_append] at N'); (obtain ⟨l1, l2⟩ := newer2 l1); (try simp (config := { zetaDelta := true }) only [AllLt, and_true] at l1); (try simp (config := { zetaDelta := true }) only [AllLt, and_true] at l2); (with_reducible refine news_let2 N' ?_); clear N'; intro nl N'; walk_at "use fin")
  k_with "use new2n" => (intro l1 F' N'; (simp only [List.nil_append, List.cons_append] at N'); (obtain ⟨l1, l2⟩ := newer2 l1); (try simp (config := { zetaDelta := true }) only [AllLt, and_true] at l1); (try simp (config := { zetaDelta := true }) only [AllLt, and_true] at l2); walk_at "use fin")
  k_with "storeName" => (k_here; (fail_if_success (with_reducible rename KstMark => kk9)); (k_dflt refine' storeX_let ?F ?N ?_ ?a ?b); (case F => k_asm); (case N => k_asm); (case a => k_dflt exact rfl); (case b => k_dflt exact rfl); intro h' m' F' N'; (try k_sweep))
  k_with "execs cons" => (k_here; (fail_if_success (with_reducible rename KstMark => kk9)); (with_reducible refine execs_let ?_); intro QS)
  trivial
theorem gcd_turn {x y a b : Int} (h1 : 0 ≤ a) (h2 : 0 ≤ b) (h3 : (Int.gcd a b : Int) = Int.gcd x y) (hb : 0 < b) : 0 ≤ b ∧ 0 ≤ a.fmod b ∧ (Int.gcd b (a.fmod b) : Int) = Int.gcd x y := by
  refine ⟨h2, Int.fmod_nonneg_of_pos a hb, ?_⟩
  rw [← h3, Int.fmod_eq_emod_of_nonneg a h2]
  obtain ⟨a, rfl⟩ := Int.eq_ofNat_of_zero_le h1
  obtain ⟨b, rfl⟩ := Int.eq_ofNat_of_zero_le h2
  show ((Nat.gcd b (a % b) : Nat) : Int) = (Nat.gcd a b : Nat)
  rw [Nat.gcd_comm a b, Nat.gcd_comm b (a % b), ← Nat.gcd_rec]
theorem gcd_less {a b : Int} (hb : 0 < b) : (a.fmod b).toNat < b.toNat := by
  have := Int.fmod_lt_of_pos a hb
  have := Int.fmod_nonneg_of_pos a hb
  lia
theorem gcd_end {x y a b : Int} (h1 : 0 ≤ a) (h2 : 0 ≤ b) (h3 : (Int.gcd a b : Int) = Int.gcd x y) (hb : ¬ 0 < b) : a = Int.gcd x y := by
  have : b = 0 := by lia
  subst this
  rw [← h3]
  simp
  lia
theorem gcd_facts {x y : Int} (hy : 0 < y) : 0 < (Int.gcd x y : Int) ∧ (Int.gcd x y : Int) ≤ y := by
  have h1 : 0 < Int.gcd x y := Int.gcd_pos_of_ne_zero_right x (by lia)
  have h2 : (Int.gcd x y : Int) ∣ y := Int.gcd_dvd_right x y
  have := Int.le_of_dvd hy h2
  lia

set_option maxHeartbeats 4000000 in
theorem gcd_spec {w : World} {mean mg mb} {news} (x y : Int) (tx ty : Tok) (hx : 0 ≤ x) (hy : 0 < y) :
    Spec 2 w mean mg mb 24 [.int x tx, .int y ty] news (fun v add => ∃ g t, v = .int g t ∧ add = [] ∧ g = Int.gcd x y ∧ 0 < g ∧ g ≤ y) := by
  w_top off
  unfold Spec; k_fill
  intro dp un gd cn cs a0 ccd cl outer A0 base h0 L0 m0 s0 Q0 E0 B F X N T hk hdp hun hret
  k_dflt refine' enter_def [(Str.ofString "b", Value.int y ty), (Str.ofString "a", Value.int x tx)] ?k1 ?k2 ?k3 ?k4 ?k5 ?k6 ?k7 ?k8 ?k9 ?ka ?kb ?_ ?kc ?kd ?ke ?kf
  walk_at "enter"
  k_with "exec While Compare cons nil" => k_while (fun _ a b => 0 ≤ a ∧ 0 ≤ b ∧ (Int.gcd a b : Int) = Int.gcd x y) (fun _ a b => b.toNat) "a" "b"
  k_with "state" => first | exact ⟨hx, by omega, rfl⟩ | exact gcd_turn (by with_reducible assumption) (by with_reducible assumption) (by with_reducible assumption) (by walk_at "news end")
  k_with "measure" => exact gcd_less (by with_reducible assumption)
  k_steps
  have q := gcd_facts (x := x) hy
  exact hret _ [] _ _ ⟨_, _, congrArg (fun z => Value.int z _) (gcd_end (by with_reducible assumption) (by with_reducible assumption) (by with_reducible assumption) (by with_reducible assumption)), rfl, rfl, q.1, q.2⟩ (by walk_at "no new") (by with_reducible assumption) (by walk_at "news end")
theorem rows_f10_a_0 : True := by
  k_with "call ref" => (k_here; (with_reducible show wpAny _ _ (call (Value.ref 24) _) _ _ _); (k_dflt refine' Spec.use (gcd_spec _ _ _ _ ?p1 ?p2) ?k1 ?k2 ?k3 ?k4 ?k5 ?k6 ?k7 ?k8 ?_); walk_at "use in"; (case p1 => omega); (case p2 => omega); intro _ _ _ _ hR; (obtain ⟨_, _, e1, e2, _, _, _⟩ := hR); subst e1; subst e2; walk_at "use end")
  trivial
/-- r is a whole number nearest to n / d, an even one at just half a step -/
def RN (n d r : Int) : Prop := 2 * (n - r * d) ≤ d ∧ -d ≤ 2 * (n - r * d) ∧ ((2 * (n - r * d) = d ∨ 2 * (n - r * d) = -d) → r % 2 = 0)
theorem rn_up {n d r : Int} (hn : 0 ≤ n) (hd : 0 < d) (hr : r = n.fdiv d) (h : d < 2 * (n - r * d)) : RN n d (r + 1) := by
  rw [Int.fdiv_eq_ediv_of_nonneg n (by lia)] at hr
  have h1 := Int.emod_add_ediv_mul n d
  have h2 := Int.emod_lt_of_pos n hd
  have h3 := Int.emod_nonneg n (show d ≠ 0 by lia)
  rw [← hr] at h1
  unfold RN
  rw [Int.add_mul]
  lia
theorem rn_even {n d r : Int} (hn : 0 ≤ n) (hd : 0 < d) (hr : r = n.fdiv d) (h : 2 * (n - r * d) = d) (h2 : r.fmod 2 = 1) : RN n d (r + 1) := by
  rw [Int.fdiv_eq_ediv_of_nonneg n (by lia)] at hr
  rw [Int.fmod_eq_emod_of_nonneg r (by lia)] at h2
  unfold RN
  rw [Int.add_mul]
  lia
theorem rn_low {n d r : Int} (hn : 0 ≤ n) (hd : 0 < d) (hr : r = n.fdiv d) (h : ¬ d < 2 * (n - r * d)) (h2 : ¬ (2 * (n - r * d) = d ∧ r.fmod 2 = 1)) : RN n d r := by
  rw [Int.fdiv_eq_ediv_of_nonneg n (by lia)] at hr
  rw [Int.fmod_eq_emod_of_nonneg r (by lia)] at h2
  have h1 := Int.emod_add_ediv_mul n d
  have h3 := Int.emod_nonneg n (show d ≠ 0 by lia)
  rw [← hr] at h1
  unfold RN
  lia

set_option maxHeartbeats 4000000 in
theorem nw_spec {w : World} {mean mg mb} {news} (x y : Int) (tx ty : Tok) (hx : 0 ≤ x) (hx2 : x < 2 ^ 200) (hy : 0 < y) (hy2 : y < 2 ^ 150) :
    Spec 2 w mean mg mb 45 [.int x tx, .int y ty] news (fun v add => ∃ r t, v = .int r t ∧ add = [] ∧ RN x y r ∧ 0 ≤ r ∧ r ≤ x + 1) := by
  w_top off
  unfold Spec; k_fill
  intro dp un gd cn cs a0 ccd cl outer A0 base h0 L0 m0 s0 Q0 E0 B F X N T hk hdp hun hret
  k_dflt refine' enter_def [(Str.ofString "d", Value.int y ty), (Str.ofString "n", Value.int x tx)] ?k1 ?k2 ?k3 ?k4 ?k5 ?k6 ?k7 ?k8 ?k9 ?ka ?kb ?_ ?kc ?kd ?ke ?kf
  walk_at "enter"
  k_steps
  all_goals (refine hret _ [] _ _ ⟨_, _, rfl, rfl, ?_, by lia, by lia⟩ (by walk_at "no new") (by with_reducible assumption) (by walk_at "news end"))
  all_goals with_reducible first | exact rn_up hx hy (by assumption) (by assumption) | exact rn_even hx hy (by assumption) (by assumption) (by assumption) | exact rn_low hx hy (by assumption) (by assumption) (fun h => absurd h.1 (by assumption)) | exact rn_low hx hy (by assumption) (by assumption) (fun h => absurd h.2 (by assumption))
theorem make_end {n d g p q : Int} (hd : 0 < d) (he : g = Int.gcd (n.natAbs : Int) d) (hp : p = n.fdiv g) (hq : q = d.fdiv g) (hg : 0 < g) :
    0 < q ∧ p * d = n * q ∧ q ≤ d ∧ p.natAbs ≤ n.natAbs := by
  rw [Int.fdiv_eq_ediv_of_nonneg _ (by lia)] at hp hq
  have e2 : g ∣ d := by rw [he]; exact Int.gcd_dvd_right ..
  have e1 : g ∣ n := by
    have : g ∣ (n.natAbs : Int) := by rw [he]; exact Int.gcd_dvd_left ..
    exact Int.dvd_natAbs.mp this
  obtain ⟨u, hu⟩ := e1
  obtain ⟨v, hv⟩ := e2
  have hpu : p = u := by rw [hp, hu]; exact Int.mul_ediv_cancel_left u (by lia)
  have hqv : q = v := by rw [hq, hv]; exact Int.mul_ediv_cancel_left v (by lia)
  subst hpu hqv
  have hq0 : 0 < q := by
    rcases Int.lt_trichotomy q 0 with h | h | h
    · have := Int.mul_neg_of_pos_of_neg hg h; lia
    · subst h; simp at hv; lia
    · exact h
  refine ⟨hq0, ?_, ?_, ?_⟩
  · rw [hv, hu, Int.mul_comm g p, Int.mul_assoc]
  · rw [hv]
    have := Int.mul_le_mul_of_nonneg_right (show (1 : Int) ≤ g by lia) (show 0 ≤ q by lia)
    lia
  · rw [hu, Int.natAbs_mul]
    exact Nat.le_mul_of_pos_left _ (by lia)

theorem rows_f10_a_1 : True := by
  k_with "call ref" => (k_here; (with_reducible show wpAny _ _ (call (Value.ref 45) _) _ _ _); (k_dflt refine' Spec.use (nw_spec _ _ _ _ ?p1 ?p2 ?p3 ?p4) ?k1 ?k2 ?k3 ?k4 ?k5 ?k6 ?k7 ?k8 ?_); walk_at "use in"; (case p1 => walk_at "ao"); (case p2 => walk_at "ao"); (case p3 => walk_at "ao"); (case p4 => walk_at "ao"); intro _ _ _ _ hR; (obtain ⟨_, _, e1, e2, _, _, _⟩ := hR); subst e1; subst e2; walk_at "use end")
  trivial

set_option maxHeartbeats 4000000 in
theorem make_spec {w : World} {mean mg mb} {news} (x y : Int) (tx ty : Tok) (hy : 0 < y) (hy2 : y < 2 ^ 150) :
    Spec 4 w mean mg mb 31 [.int x tx, .int y ty] news (fun v add => ∃ a p q t u, v = .ref a ∧ add = [(a, tupO [.int p t, .int q u])] ∧ 0 < q ∧ p * y = x * q ∧ q ≤ y ∧ p.natAbs ≤ x.natAbs) := by
  w_top off
  unfold Spec; k_fill
  intro dp un gd cn cs a0 ccd cl outer A0 base h0 L0 m0 s0 Q0 E0 B F X N T hk hdp hun hret
  k_dflt refine' enter_def [(Str.ofString "d", Value.int y ty), (Str.ofString "n", Value.int x tx)] ?k1 ?k2 ?k3 ?k4 ?k5 ?k6 ?k7 ?k8 ?k9 ?ka ?kb ?_ ?kc ?kd ?ke ?kf
  walk_at "enter"
  k_steps
  with_reducible have q := make_end hy (by assumption) (by assumption) (by assumption) (by assumption)
  exact hret _ [_] _ _ ⟨_, _, _, _, _, rfl, rfl, q.1, q.2.1, q.2.2.1, q.2.2.2⟩ (by walk_at "fresh") (by with_reducible assumption) (by walk_at "news end")

theorem rows_f11_b_0 : True := by
  k_with "call ref" => (k_here; (with_reducible show wpAny _ _ (call (Value.ref 31) _) _ _ _); (k_dflt refine' Spec.use (make_spec _ _ _ _ ?p1 ?p2) ?k1 ?k2 ?k3 ?k4 ?k5 ?k6 ?k7 ?k8 ?_); walk_at "use in"; (case p1 => walk_at "ao"); (case p2 => walk_at "ao"); intro _ _ _ _ hR; (obtain ⟨_, _, _, _, _, e1, e2, _, _, _, _⟩ := hR); subst e1; subst e2; walk_at "use new")
  trivial
set_option maxHeartbeats 4000000 in
theorem neg_spec {w : World} {mean mg mb} {news} (x y : Int) (tx ty : Tok) (b : Addr) (hb : (b, tupO [.int x tx, .int y ty]) ∈ news) :
    Spec 2 w mean mg mb 38 [.ref b] news (fun v add => ∃ a t u, v = .ref a ∧ add = [(a, tupO [.int (0 - x) t, .int y u])]) := by
  w_top off
  unfold Spec; k_fill
  intro dp un gd cn cs a0 ccd cl outer A0 base h0 L0 m0 s0 Q0 E0 B F X N T hk hdp hun hret
  k_dflt refine' enter_def [(Str.ofString "x", Value.ref b)] ?k1 ?k2 ?k3 ?k4 ?k5 ?k6 ?k7 ?k8 ?k9 ?ka ?kb ?_ ?kc ?kd ?ke ?kf
  walk_at "enter"
  k_steps
  exact hret _ [_] _ _ ⟨_, _, _, rfl, rfl⟩ (by walk_at "fresh") (by with_reducible assumption) (by walk_at "news end")

theorem rows_f11_b_1 : True := by
  k_with "call ref" => (k_here; (with_reducible show wpAny _ _ (call (Value.ref 38) _) _ _ _); (k_dflt refine' Spec.use (neg_spec _ _ _ _ _ ?p1) ?k1 ?k2 ?k3 ?k4 ?k5 ?k6 ?k7 ?k8 ?_); walk_at "use in"; (case p1 => k_mem); intro _ _ _ _ hR; (obtain ⟨_, _, _, e1, e2⟩ := hR); subst e1; subst e2; walk_at "use new")
  trivial

/-- 10 ^ e is at most |n| / d, which is below 10 ^ (e + 1) -/
def IsExp (n d e : Int) : Prop := d * 10 ^ e.toNat ≤ n.natAbs * 10 ^ (-e).toNat ∧ n.natAbs * 10 ^ (-e).toNat < 10 * (d * 10 ^ e.toNat)
theorem pow_pos10 (k : Nat) : (0 : Int) < 10 ^ k := Int.pow_pos (by decide)
theorem pow_mono10 {i j : Nat} (h : i ≤ j) : (10 : Int) ^ i ≤ 10 ^ j := by
  have := Nat.pow_le_pow_right (n := 10) (by decide) h
  have e : ∀ k : Nat, (10 : Int) ^ k = ((10 ^ k : Nat) : Int) := fun k => by simp
  rw [e, e]
  lia
theorem pow_succ10 {e : Int} (h : 0 ≤ e) : (10 : Int) ^ (e + 1).toNat = 10 ^ e.toNat * 10 := by
  have : (e + 1).toNat = e.toNat + 1 := by lia
  rw [this, Int.pow_succ]
theorem ex_turn1 {N d D e : Int} (h0 : 0 ≤ e) (h1 : D = d * 10 ^ e.toNat) (h2 : 0 < D) (hc : N ≥ 10 * D) : 0 ≤ e + 1 ∧ D * 10 = d * 10 ^ (e + 1).toNat ∧ 0 < D * 10 ∧ (e + 1 = 0 ∨ D * 10 ≤ N) := by
  refine ⟨by lia, ?_, by lia, .inr (by lia)⟩
  rw [pow_succ10 h0, ← Int.mul_assoc, ← h1]
theorem ex_turn2 {N D e1 n e : Int} (h1 : e ≤ e1) (h2 : (e = e1 ∧ n = N) ∨ (e1 = 0 ∧ n = N * 10 ^ (-e).toNat ∧ n < 10 * D)) (h3 : 0 < n) (hD : e1 = 0 ∨ D ≤ N) (hc : n < D) :
    e - 1 ≤ e1 ∧ ((e - 1 = e1 ∧ n * 10 = N) ∨ (e1 = 0 ∧ n * 10 = N * 10 ^ (-(e - 1)).toNat ∧ n * 10 < 10 * D)) ∧ 0 < n * 10 := by
  refine ⟨by lia, .inr ?_, by lia⟩
  rcases h2 with ⟨ha, hb⟩ | ⟨ha, hb, hc'⟩
  · rcases hD with hD | hD
    · refine ⟨hD, ?_, by lia⟩
      have : (-(e - 1)).toNat = 1 := by lia
      rw [this, hb]; rfl
    · lia
  · refine ⟨ha, ?_, by lia⟩
    have : (-(e - 1)) = -e + 1 := by lia
    rw [this, pow_succ10 (by lia), ← Int.mul_assoc, ← hb]
theorem ex_end {n d D e1 m e : Int} (h2 : (e = e1 ∧ m = n.natAbs) ∨ (e1 = 0 ∧ m = n.natAbs * 10 ^ (-e).toNat ∧ m < 10 * D)) (hc : ¬ m < D)
    (h1 : e ≤ e1) (g1 : D = d * 10 ^ e1.toNat) (g0 : 0 ≤ e1) (g4 : ¬ (10 * D ≤ (n.natAbs : Int))) : IsExp n d e := by
  unfold IsExp
  rcases h2 with ⟨ha, hb⟩ | ⟨ha, hb, hc'⟩
  · have : (-e).toNat = 0 := by lia
    rw [this, ha, ← g1]
    simp
    lia
  · have q : e.toNat = 0 := by lia
    have q1 : e1.toNat = 0 := by lia
    rw [q1] at g1
    rw [q, ← hb, ← g1]
    lia
theorem ex_small {n d e : Int} (hn : n ≠ 0) (hn2 : n.natAbs ≤ 10 ^ 8) (hd : 0 < d) (hd2 : d ≤ 10 ^ 8) (h : IsExp n d e) : -9 ≤ e ∧ e ≤ 9 := by
  obtain ⟨h1, h2⟩ := h
  constructor
  · apply Int.not_lt.mp
    intro hc
    have q : e.toNat = 0 := by lia
    rw [q] at h2
    have h9 : (10 : Int) ^ 10 ≤ 10 ^ (-e).toNat := pow_mono10 (by lia)
    have := Int.mul_le_mul (show (1 : Int) ≤ n.natAbs by lia) h9 (by decide) (by lia)
    lia
  · apply Int.not_lt.mp
    intro hc
    have q : (-e).toNat = 0 := by lia
    rw [q] at h1
    have h9 : (10 : Int) ^ 10 ≤ 10 ^ e.toNat := pow_mono10 (by lia)
    have := Int.mul_le_mul (show (1 : Int) ≤ d by lia) h9 (by decide) (by lia)
    lia
set_option maxHeartbeats 4000000 in
theorem ex_spec {w : World} {mean mg mb} {news} (n d : Int) (tn td : Tok) (b : Addr) (hb : (b, tupO [.int n tn, .int d td]) ∈ news) (hn : n ≠ 0) (hn2 : n.natAbs ≤ 10 ^ 8) (hd : 0 < d) (hd2 : d ≤ 10 ^ 8) :
    Spec 2 w mean mg mb 52 [.ref b] news (fun v add => ∃ e t, v = .int e t ∧ add = [] ∧ IsExp n d e ∧ -9 ≤ e ∧ e ≤ 9) := by
  w_top off
  unfold Spec; k_fill
  intro dp un gd cn cs a0 ccd cl outer A0 base h0 L0 m0 s0 Q0 E0 B F X N T hk hdp hun hret
  k_dflt refine' enter_def [(Str.ofString "x", Value.ref b)] ?k1 ?k2 ?k3 ?k4 ?k5 ?k6 ?k7 ?k8 ?k9 ?ka ?kb ?_ ?kc ?kd ?ke ?kf
  walk_at "enter"
  k_with "exec While Compare cons nil" => ((with_reducible show wpAny _ _ (exec (PySem.Stmt.While (PySem.Expr.Compare _ [CmpOp.GtE] _ _) _ _ _) _) _ _ _); k_while (fun _ D e => 0 ≤ e ∧ D = d * 10 ^ e.toNat ∧ 0 < D ∧ (e = 0 ∨ D ≤ n.natAbs)) (fun _ D e => (n.natAbs - D).toNat) "d" "e")
  k_with "exec While Compare cons nil" => ((with_reducible show wpAny _ _ (exec (PySem.Stmt.While (PySem.Expr.Compare _ [CmpOp.Lt] _ _) _ _ _) _) _ _ _); k_while_given ["d", "e!"] (fun D e1 _ m e => e ≤ e1 ∧ ((e = e1 ∧ m = n.natAbs) ∨ (e1 = 0 ∧ m = n.natAbs * 10 ^ (-e).toNat ∧ m < 10 * D)) ∧ 0 < m) (fun D e1 _ m e => (D - m).toNat) "n" "e")
  k_with "state" => with_reducible first | exact ⟨Int.le_refl _, (Int.mul_one d).symm, hd, .inl rfl⟩ | exact ex_turn1 (by assumption) (by assumption) (by assumption) (by assumption) | exact ⟨Int.le_refl _, .inl ⟨rfl, rfl⟩, by omega⟩ | exact ex_turn2 (by assumption) (by assumption) (by assumption) (by assumption) (by assumption)
  k_with "measure" => omega
  k_steps
  with_reducible have q := ex_end (by assumption) (by assumption) (by assumption) (by assumption) (by assumption) (by assumption)
  have q2 := ex_small hn hn2 hd hd2 q
  exact hret _ [] _ _ ⟨_, _, rfl, rfl, q, q2.1, q2.2⟩ (by walk_at "no new") (by with_reducible assumption) (by walk_at "news end")

theorem rows_f12_ex_0 : True := by
  k_with "call ref" => (k_here; (with_reducible show wpAny _ _ (call (Value.ref 52) _) _ _ _); (k_dflt refine' Spec.use (ex_spec _ _ _ _ _ ?p0 ?p1 ?p2 ?p3 ?p4) ?k1 ?k2 ?k3 ?k4 ?k5 ?k6 ?k7 ?k8 ?_); walk_at "use in"; (case p0 => k_mem); (case p1 => walk_at "as"); (case p2 => walk_at "as"); (case p3 => walk_at "as"); (case p4 => walk_at "as"); intro _ _ _ _ hR; (obtain ⟨_, _, e1, e2, _, _, _⟩ := hR); subst e1; subst e2; walk_at "use end")
  trivial

/-- numerator and denominator of |n| / d * 10 ^ j -/
def num (n j : Int) : Int := n.natAbs * 10 ^ j.toNat
def den (d j : Int) : Int := d * 10 ^ (-j).toNat
theorem den_pos {d j : Int} (h : 0 < d) : 0 < den d j := Int.mul_pos h (pow_pos10 _)
theorem num_nonneg {n j : Int} : 0 ≤ num n j := Int.mul_nonneg (by lia) (Int.le_of_lt (pow_pos10 _))
theorem num_small {n j : Int} (hn : n.natAbs ≤ 10 ^ 8) (hj : j ≤ 30) : num n j ≤ 10 ^ 38 := by
  have := Int.mul_le_mul (show (n.natAbs : Int) ≤ 10 ^ 8 by lia) (pow_mono10 (show j.toNat ≤ 30 by lia)) (Int.le_of_lt (pow_pos10 _)) (by decide)
  unfold num
  lia
theorem den_small {d j : Int} (hd : d ≤ 10 ^ 8) (hj : -30 ≤ j) : den d j ≤ 10 ^ 38 := by
  have := Int.mul_le_mul hd (pow_mono10 (show (-j).toNat ≤ 30 by lia)) (Int.le_of_lt (pow_pos10 _)) (by decide)
  unfold den
  lia
theorem num_of {n j : Int} : (n.natAbs : Int) * 10 ^ j.toNat = num n j := rfl
theorem den_of {d j : Int} : d * 10 ^ (0 - j).toNat = den d j := by unfold den; rw [show (0 - j) = -j by lia]
theorem den_up {d j : Int} (h : 0 ≤ j) : den d j = d := by
  unfold den; rw [show (-j).toNat = 0 by lia]; simp
theorem num_down {n j : Int} (h : j < 0) : num n j = n.natAbs := by
  unfold num; rw [show j.toNat = 0 by lia]; simp
set_option maxHeartbeats 4000000 in
theorem scaled_spec {w : World} {mean mg mb} {news} (n d e k : Int) (tn td te tk : Tok) (b : Addr) (hb : (b, tupO [.int n tn, .int d td]) ∈ news) (hn2 : n.natAbs ≤ 10 ^ 8) (hd : 0 < d) (hd2 : d ≤ 10 ^ 8) (he : -10 ≤ e) (he2 : e ≤ 10) (hk1 : 1 ≤ k) (hk2 : k ≤ 12) :
    Spec 4 w mean mg mb 73 [.ref b, .int e te, .int k tk] news (fun v add => ∃ r t, v = .int r t ∧ add = [] ∧ RN (num n (k - 1 - e)) (den d (k - 1 - e)) r ∧ 0 ≤ r ∧ r ≤ 10 ^ 39) := by
  have g1 := num_small (j := k - 1 - e) hn2 (by lia)
  have g2 := den_small (j := k - 1 - e) hd2 (by lia)
  have g3 := den_pos (j := k - 1 - e) hd
  have g4 := num_nonneg (n := n) (j := k - 1 - e)
  have g5 : 0 ≤ (n.natAbs : Int) * 10 ^ (k - 1 - e).toNat := g4
  have g6 : (n.natAbs : Int) * 10 ^ (k - 1 - e).toNat < 2 ^ 200 := by rw [num_of]; lia
  have g7 : 0 < d * 10 ^ (0 - (k - 1 - e)).toNat := by rw [den_of]; exact g3
  have g8 : d * 10 ^ (0 - (k - 1 - e)).toNat < 2 ^ 150 := by rw [den_of]; lia
  have g9 : d < 2 ^ 150 := by lia
  have g10 : (n.natAbs : Int) < 2 ^ 200 := by lia
  clear g2 g3
  w_top off
  unfold Spec; k_fill
  intro dp un gd cn cs a0 ccd cl outer A0 base h0 L0 m0 s0 Q0 E0 B F X N T hk hdp hun hret
  k_dflt refine' enter_def [(Str.ofString "digits", Value.int k tk), (Str.ofString "e", Value.int e te), (Str.ofString "x", Value.ref b)] ?k1 ?k2 ?k3 ?k4 ?k5 ?k6 ?k7 ?k8 ?k9 ?ka ?kb ?_ ?kc ?kd ?ke ?kf
  walk_at "enter"
  k_steps
  · refine hret _ [] _ _ ⟨_, _, rfl, rfl, ?_, by with_reducible assumption, ?_⟩ (by walk_at "no new") (by with_reducible assumption) (by walk_at "news end")
    · rw [← num_of, den_up (by lia)]
      with_reducible assumption
    · rw [← num_of] at g1
      lia
  · refine hret _ [] _ _ ⟨_, _, rfl, rfl, ?_, by with_reducible assumption, by lia⟩ (by walk_at "no new") (by with_reducible assumption) (by walk_at "news end")
    rw [num_down (by lia), ← den_of]
    with_reducible assumption

theorem rows_f13_sig_0 : True := by
  k_with "call ref" => (k_here; (with_reducible show wpAny _ _ (call (Value.ref 73) _) _ _ _); (k_dflt refine' Spec.use (scaled_spec _ _ _ _ _ _ _ _ _ ?p0 ?p1 ?p2 ?p3 ?p4 ?p5 ?p6 ?p7) ?k1 ?k2 ?k3 ?k4 ?k5 ?k6 ?k7 ?k8 ?_); walk_at "use in"; (case p0 => k_mem); (case p1 => walk_at "as"); (case p2 => walk_at "as"); (case p3 => walk_at "as"); (case p4 => omega); (case p5 => omega); (case p6 => walk_at "as"); (case p7 => walk_at "as"); intro _ _ _ _ hR; (obtain ⟨_, _, e1, e2, _, _, _⟩ := hR); subst e1; subst e2; walk_at "use end")
  trivial
theorem scale_cross {n d i j : Int} {m : Nat} (h : i = j + m) : num n i * den d j = 10 ^ m * (num n j * den d i) := by
  unfold num den
  have e : i.toNat + (-j).toNat = m + (j.toNat + (-i).toNat) := by lia
  have e2 : (10 : Int) ^ i.toNat * 10 ^ (-j).toNat = 10 ^ m * (10 ^ j.toNat * 10 ^ (-i).toNat) := by
    rw [← Int.pow_add, ← Int.pow_add, ← Int.pow_add, e]
  calc (n.natAbs : Int) * 10 ^ i.toNat * (d * 10 ^ (-j).toNat) = n.natAbs * d * (10 ^ i.toNat * 10 ^ (-j).toNat) := by ac_rfl
    _ = n.natAbs * d * (10 ^ m * (10 ^ j.toNat * 10 ^ (-i).toNat)) := by rw [e2]
    _ = _ := by ac_rfl
theorem exp_scaled {n d e k : Int} (hd : 0 < d) (hk : 1 ≤ k) (h : IsExp n d e) :
    10 ^ (k - 1).toNat * den d (k - 1 - e) ≤ num n (k - 1 - e) ∧ num n (k - 1 - e) < 10 ^ k.toNat * den d (k - 1 - e) := by
  obtain ⟨h1, h2⟩ := h
  have e1 : d * 10 ^ e.toNat = den d (-e) := by unfold den; rw [Int.neg_neg]
  have e2 : (n.natAbs : Int) * 10 ^ (-e).toNat = num n (-e) := rfl
  rw [e1, e2] at h1 h2
  have p1 := den_pos (j := -e) hd
  have p2 := den_pos (j := k - 1 - e) hd
  have x := scale_cross (n := n) (d := d) (i := k - 1 - e) (j := -e) (m := (k - 1).toNat) (by lia)
  have q : (10 : Int) ^ k.toNat = 10 ^ (k - 1).toNat * 10 := by
    have := pow_succ10 (e := k - 1) (by lia)
    rwa [show k - 1 + 1 = k by lia] at this
  have p3 := pow_pos10 (k - 1).toNat
  generalize den d (-e) = D at *
  generalize num n (-e) = M at *
  generalize den d (k - 1 - e) = B at *
  generalize num n (k - 1 - e) = A at *
  generalize (10 : Int) ^ (k - 1).toNat = P at *
  rw [q]
  constructor
  · refine Int.le_of_mul_le_mul_left (a := D) ?_ p1
    have h3 := Int.mul_le_mul_of_nonneg_left h1 (show 0 ≤ P * B from Int.mul_nonneg (by lia) (by lia))
    calc D * (P * B) = P * B * D := by ac_rfl
      _ ≤ P * B * M := h3
      _ = P * (M * B) := by ac_rfl
      _ = A * D := x.symm
      _ = D * A := by ac_rfl
  · refine Int.lt_of_mul_lt_mul_left (a := D) ?_ (by lia)
    have h3 := Int.mul_lt_mul_of_pos_left h2 (show 0 < P * B from Int.mul_pos p3 p2)
    calc D * A = A * D := by ac_rfl
      _ = P * (M * B) := x
      _ = P * B * M := by ac_rfl
      _ < P * B * (10 * D) := h3
      _ = D * (P * 10 * B) := by ac_rfl
theorem rn_ge {A B p r : Int} (hB : 0 < B) (h : RN A B r) (hp : p * B ≤ A) : p ≤ r := by
  obtain ⟨h1, _, _⟩ := h
  apply Int.not_lt.mp
  intro hc
  have := Int.mul_le_mul_of_nonneg_right (show r + 1 ≤ p by lia) (show 0 ≤ B by lia)
  rw [Int.add_mul] at this
  lia
theorem rn_le {A B p r : Int} (hB : 0 < B) (h : RN A B r) (hp : A ≤ p * B) : r ≤ p := by
  obtain ⟨_, h1, _⟩ := h
  apply Int.not_lt.mp
  intro hc
  have := Int.mul_le_mul_of_nonneg_right (show p + 1 ≤ r by lia) (show 0 ≤ B by lia)
  rw [Int.add_mul] at this
  lia
theorem rn_bump {A B A' B' p N : Int} (hB : 0 < B) (hB' : 0 < B') (hx : A * B' = 10 * (A' * B)) (h : RN A B (10 * p)) (hA : A < 10 * p * B) (h' : RN A' B' N) : N = p := by
  obtain ⟨_, h1, _⟩ := h
  obtain ⟨h2, h3, _⟩ := h'
  have a1 : A' < p * B' := by
    refine Int.lt_of_mul_lt_mul_left (a := 10 * B) ?_ (by lia)
    have := Int.mul_lt_mul_of_pos_right hA hB'
    calc 10 * B * A' = 10 * (A' * B) := by ac_rfl
      _ = A * B' := hx.symm
      _ < 10 * p * B * B' := this
      _ = 10 * B * (p * B') := by ac_rfl
  have a2 : 20 * (p * B') - B' ≤ 20 * A' := by
    refine Int.le_of_mul_le_mul_left (a := B) ?_ hB
    have := Int.mul_le_mul_of_nonneg_right (show 2 * (10 * p * B) - B ≤ 2 * A by lia) (show 0 ≤ B' by lia)
    calc B * (20 * (p * B') - B') = (2 * (10 * p * B) - B) * B' := by
          rw [Int.mul_sub, Int.sub_mul]
          congr 1
          · calc B * (20 * (p * B')) = 20 * (B * (p * B')) := by ac_rfl
              _ = 2 * 10 * (B * (p * B')) := rfl
              _ = 2 * (10 * p * B) * B' := by ac_rfl
      _ ≤ 2 * A * B' := this
      _ = 2 * (A * B') := by ac_rfl
      _ = 2 * (10 * (A' * B)) := by rw [hx]
      _ = 2 * 10 * (A' * B) := by ac_rfl
      _ = B * (20 * A') := by rw [show (2 : Int) * 10 = 20 by decide]; ac_rfl
  have b1 : N ≤ p := by
    apply Int.not_lt.mp
    intro hc
    have := Int.mul_le_mul_of_nonneg_right (show p + 1 ≤ N by lia) (show 0 ≤ B' by lia)
    rw [Int.add_mul] at this
    lia
  have b2 : p ≤ N := by
    apply Int.not_lt.mp
    intro hc
    have := Int.mul_le_mul_of_nonneg_right (show N + 1 ≤ p by lia) (show 0 ≤ B' by lia)
    rw [Int.add_mul] at this
    lia
  lia
/-- what significant gives back: signs l, exponent e, side -/
def SigR (n d k : Int) (l : List Nat) (e side : Int) : Prop :=
  (l.length : Int) = k ∧ (∀ c ∈ l, isD c = true) ∧ -9 ≤ e ∧ e ≤ 10 ∧ side = n.sign ∧
  ((n = 0 ∧ val l = 0 ∧ e = 0) ∨ (n ≠ 0 ∧ ∃ E r, IsExp n d E ∧ RN (num n (k - 1 - E)) (den d (k - 1 - E)) r ∧ 10 ^ (k - 1).toNat ≤ r ∧ r ≤ 10 ^ k.toNat ∧
    ((r < 10 ^ k.toNat ∧ (val l : Int) = r ∧ e = E) ∨ (r = 10 ^ k.toNat ∧ (val l : Int) = 10 ^ (k - 1).toNat ∧ e = E + 1))))
theorem sig_zero {n d k : Int} (hk : 1 ≤ k) (hn : n = 0) : SigR n d k (List.replicate k.toNat 48) 0 0 := by
  refine ⟨by rw [List.length_replicate]; lia, fun c hc => ?_, by lia, by lia, by rw [hn]; rfl, .inl ⟨hn, val_zeros _, rfl⟩⟩
  rw [(List.mem_replicate.mp hc).2]
  rfl
theorem digs_k {r k : Int} (hk : 1 ≤ k) (h1 : 10 ^ (k - 1).toNat ≤ r) (h2 : r < 10 ^ k.toNat) : ((digs r.toNat).length : Int) = k := by
  have h3 := pow_pos10 (k - 1).toNat
  have e : ∀ j : Nat, (10 : Int) ^ j = ((10 ^ j : Nat) : Int) := fun j => by simp
  have := digs_len r.toNat (k - 1).toNat (by rw [e] at h1; lia) (by rw [show (k - 1).toNat + 1 = k.toNat by lia]; rw [e] at h2; lia)
  lia
theorem sig_plain {n d k e r : Int} (hd : 0 < d) (hk : 1 ≤ k) (hn : n ≠ 0) (he : IsExp n d e) (h9 : -9 ≤ e) (h9' : e ≤ 9) (hr : RN (num n (k - 1 - e)) (den d (k - 1 - e)) r) (hlt : ¬ 10 ^ k.toNat ≤ r) {side : Int} (hs : side = n.sign) :
    SigR n d k (digs r.toNat) e side := by
  have x := exp_scaled hd hk he
  have r1 := rn_ge (den_pos hd) hr x.1
  have r2 := rn_le (den_pos hd) hr (Int.le_of_lt x.2)
  have p := pow_pos10 (k - 1).toNat
  refine ⟨digs_k hk r1 (by lia), digs_isD _, by lia, by lia, hs, .inr ⟨hn, e, r, he, hr, r1, r2, .inl ⟨by lia, ?_, rfl⟩⟩⟩
  rw [val_digs]
  lia
theorem sig_bump {n d k e r N : Int} (hd : 0 < d) (hk : 1 ≤ k) (hn : n ≠ 0) (he : IsExp n d e) (h9 : -9 ≤ e) (h9' : e ≤ 9) (hr : RN (num n (k - 1 - e)) (den d (k - 1 - e)) r) (hge : 10 ^ k.toNat ≤ r) (hN : RN (num n (k - 1 - (e + 1))) (den d (k - 1 - (e + 1))) N) {side : Int} (hs : side = n.sign) :
    SigR n d k (digs N.toNat) (e + 1) side := by
  have x := exp_scaled hd hk he
  have r1 := rn_ge (den_pos hd) hr x.1
  have r2 := rn_le (den_pos hd) hr (Int.le_of_lt x.2)
  have p := pow_pos10 (k - 1).toNat
  have q : (10 : Int) ^ k.toNat = 10 * 10 ^ (k - 1).toNat := by
    have := pow_succ10 (e := k - 1) (by lia)
    rw [show k - 1 + 1 = k by lia] at this
    lia
  have er : r = 10 * 10 ^ (k - 1).toNat := by lia
  have eN : N = 10 ^ (k - 1).toNat := by
    refine rn_bump (den_pos hd) (den_pos hd) ?_ (er ▸ hr) (by rw [← q]; exact x.2) hN
    have := scale_cross (n := n) (d := d) (i := k - 1 - e) (j := k - 1 - (e + 1)) (m := 1) (by lia)
    simpa using this
  refine ⟨digs_k hk (by lia) (by lia), digs_isD _, by lia, by lia, hs, .inr ⟨hn, e, r, he, hr, r1, r2, .inr ⟨by lia, ?_, rfl⟩⟩⟩
  rw [val_digs]
  lia
theorem sign_pos {n : Int} (h : 0 < n) : 1 = n.sign := (Int.sign_eq_one_of_pos h).symm
theorem sign_neg {n : Int} (h : n ≠ 0) (h2 : ¬ 0 < n) : -1 = n.sign := (Int.sign_eq_neg_one_of_neg (by lia)).symm
theorem SigR.facts {n d k : Int} {l : List Nat} {e side : Int} (h : SigR n d k l e side) : (l.length : Int) = k ∧ -9 ≤ e ∧ e ≤ 10 ∧ side = n.sign := ⟨h.1, h.2.2.1, h.2.2.2.1, h.2.2.2.2.1⟩


set_option maxHeartbeats 4000000 in
theorem sig_spec {w : World} {mean mg mb} {news} (n d k : Int) (tn td tk : Tok) (b : Addr) (hb : (b, tupO [.int n tn, .int d td]) ∈ news) (hn2 : n.natAbs ≤ 10 ^ 8) (hd : 0 < d) (hd2 : d ≤ 10 ^ 8) (hk1 : 1 ≤ k) (hk2 : k ≤ 12) :
    Spec 6 w mean mg mb 80 [.ref b, .int k tk] news (fun v add => ∃ a side z l e t1 t2 t3, v = .ref a ∧ add = [(a, tupO [.int side t1, .str z t2, .int e t3])] ∧ TX z l ∧ SigR n d k l e side) := by
  w_top off
  unfold Spec; k_fill
  intro dp un gd cn cs a0 ccd cl outer A0 base h0 L0 m0 s0 Q0 E0 B F X N T hk hdp hun hret
  k_dflt refine' enter_def [(Str.ofString "digits", Value.int k tk), (Str.ofString "x", Value.ref b)] ?k1 ?k2 ?k3 ?k4 ?k5 ?k6 ?k7 ?k8 ?k9 ?ka ?kb ?_ ?kc ?kd ?ke ?kf
  walk_at "enter"
  k_steps
  all_goals (refine hret _ [_] _ _ ?_ ?_ (by with_reducible assumption) (by walk_at "news end"); rotate_left; (walk_at "fresh"); refine ⟨_, _, _, _, _, _, _, _, rfl, rfl, by with_reducible assumption, ?_⟩)
  · exact sig_zero hk1 (by with_reducible assumption)
  · with_reducible exact sig_bump hd hk1 (by assumption) (by assumption) (by assumption) (by assumption) (by assumption) (by assumption) (by assumption) (sign_pos (by assumption))
  · with_reducible exact sig_bump hd hk1 (by assumption) (by assumption) (by assumption) (by assumption) (by assumption) (by assumption) (by assumption) (sign_neg (by assumption) (by assumption))
  · with_reducible exact sig_plain hd hk1 (by assumption) (by assumption) (by assumption) (by assumption) (by assumption) (by assumption) (sign_pos (by assumption))
  · with_reducible exact sig_plain hd hk1 (by assumption) (by assumption) (by assumption) (by assumption) (by assumption) (by assumption) (sign_neg (by assumption) (by assumption))

theorem rows_f14_sigw_0 : True := by
  k_with "call ref" => (k_here; (with_reducible show wpAny _ _ (call (Value.ref 80) _) _ _ _); (k_dflt refine' Spec.use (sig_spec _ _ _ _ _ _ _ ?p0 ?p1 ?p2 ?p3 ?p4 ?p5) ?k1 ?k2 ?k3 ?k4 ?k5 ?k6 ?k7 ?k8 ?_); walk_at "use in"; (case p0 => k_mem); (case p1 => walk_at "as"); (case p2 => walk_at "as"); (case p3 => walk_at "as"); (case p4 => walk_at "ao"); (case p5 => walk_at "ao"); intro _ _ _ _ hR; (obtain ⟨_, _, _, _, _, _, _, _, e1, e2, _, hS⟩ := hR); subst e1; subst e2; (obtain ⟨_, _, _, _⟩ := SigR.facts hS); walk_at "use end")
  trivial

set_option maxHeartbeats 4000000 in
theorem special_spec {w : World} {mean mg mb} {news} (n d : Int) (tn td : Tok) (b : Addr) (hb : (b, tupO [.int n tn, .int d td]) ∈ news) (hd : 0 < d) :
    Spec 2 w mean mg mb 66 [.ref b] news (fun v add => v = .none ∧ add = []) := by
  w_top off
  unfold Spec; k_fill
  intro dp un gd cn cs a0 ccd cl outer A0 base h0 L0 m0 s0 Q0 E0 B F X N T hk hdp hun hret
  k_dflt refine' enter_def [(Str.ofString "x", Value.ref b)] ?k1 ?k2 ?k3 ?k4 ?k5 ?k6 ?k7 ?k8 ?k9 ?ka ?kb ?_ ?kc ?kd ?ke ?kf
  walk_at "enter"
  k_steps
  exact hret _ [] _ _ ⟨rfl, rfl⟩ (by walk_at "no new") (by with_reducible assumption) (by walk_at "news end")
theorem rows_f15_txt_0 : True := by
  k_with "call ref" => (k_here; (with_reducible show wpAny _ _ (call (Value.ref 66) _) _ _ _); (k_dflt refine' Spec.use (special_spec _ _ _ _ _ ?p0 ?p1) ?k1 ?k2 ?k3 ?k4 ?k5 ?k6 ?k7 ?k8 ?_); walk_at "use in"; (case p0 => k_mem); (case p1 => walk_at "as"); intro _ _ _ _ hR; (obtain ⟨e1, e2⟩ := hR); subst e1; subst e2; walk_at "use end")
  trivial
/-- l less some noughts at its end, but not less than one sign -/
def Cut (l c : List Nat) : Prop := c ≠ [] ∧ ∃ j, l = c ++ List.replicate j 48
theorem Cut.len {l c : List Nat} (h : Cut l c) : 1 ≤ c.length ∧ c.length ≤ l.length := by
  obtain ⟨h1, j, h2⟩ := h
  constructor
  · cases c with
    | nil => exact absurd rfl h1
    | cons _ _ => simp
  · rw [h2, List.length_append]; lia
theorem cut_start {l : List Nat} (h : 1 ≤ l.length) : 1 ≤ (l.length : Int) ∧ (l.length : Int) ≤ l.length ∧ ∃ j, l = l.take (l.length : Int).toNat ++ List.replicate j 48 :=
  ⟨by lia, by lia, 0, by simp⟩
theorem cut_turn {l : List Nat} {e : Int} (he : 1 < e) (h2 : e ≤ l.length) (h3 : ∃ j, l = l.take e.toNat ++ List.replicate j 48) (h4 : ([l.getD (e - 1).toNat 0] == [48]) = true) :
    1 ≤ e - 1 ∧ e - 1 ≤ l.length ∧ ∃ j, l = l.take (e - 1).toNat ++ List.replicate j 48 := by
  refine ⟨by lia, by lia, ?_⟩
  obtain ⟨j, hj⟩ := h3
  have h5 : l.getD (e - 1).toNat 0 = 48 := by simpa using h4
  have h6 : l[(e - 1).toNat]? = some 48 := by
    have hl : (e - 1).toNat < l.length := by lia
    rw [List.getD_eq_getElem?_getD, List.getElem?_eq_getElem hl] at h5
    rw [List.getElem?_eq_getElem hl]
    exact congrArg some h5
  refine ⟨j + 1, ?_⟩
  have h7 : l.take e.toNat = l.take (e - 1).toNat ++ [48] := by
    have : e.toNat = (e - 1).toNat + 1 := by lia
    rw [this, List.take_add_one, h6]
    rfl
  rw [h7] at hj
  rw [List.replicate_succ, List.append_cons]
  exact hj
theorem cut_end {l : List Nat} {e : Int} (h1 : 1 ≤ e) (hl : 1 ≤ l.length) (h3 : ∃ j, l = l.take e.toNat ++ List.replicate j 48) : Cut l (l.take e.toNat) := by
  refine ⟨fun h => ?_, h3⟩
  have := congrArg List.length h
  rw [List.length_take, List.length_nil] at this
  lia
set_option maxHeartbeats 4000000 in
theorem tail_spec {w : World} {mean mg mb} {news} (x : Str) (tx : Tok) (l : List Nat) (hx : TX x l) (hl1 : 1 ≤ l.length) (hz : l.length ≤ 1000) :
    Spec 2 w mean mg mb 87 [.str x tx] news (fun v add => ∃ z t c, v = .str z t ∧ add = [] ∧ TX z c ∧ Cut l c) := by
  w_top off
  unfold Spec; k_fill
  intro dp un gd cn cs a0 ccd cl outer A0 base h0 L0 m0 s0 Q0 E0 B F X N T hk hdp hun hret
  k_dflt refine' enter_def [(Str.ofString "text", Value.str x tx)] ?k1 ?k2 ?k3 ?k4 ?k5 ?k6 ?k7 ?k8 ?k9 ?ka ?kb ?_ ?kc ?kd ?ke ?kf
  walk_at "enter"
  k_with "exec While BoolOp cons nil" => k_while (fun _ e => 1 ≤ e ∧ e ≤ l.length ∧ ∃ j, l = l.take e.toNat ++ List.replicate j 48) (fun _ e => e.toNat) "end"
  k_with "state" => with_reducible first | exact cut_start hl1 | exact cut_turn (by assumption) (by assumption) (by assumption) (by assumption)
  k_with "measure" => omega
  k_steps
  all_goals exact hret _ [] _ _ ⟨_, _, _, rfl, rfl, by with_reducible assumption, by with_reducible exact cut_end (by assumption) hl1 (by assumption)⟩ (by walk_at "no new") (by with_reducible assumption) (by walk_at "news end")
theorem rows_f15_txt_1 : True := by
  k_with "call ref" => (k_here; (with_reducible show wpAny _ _ (call (Value.ref 87) _) _ _ _); (k_dflt refine' Spec.use (tail_spec _ _ _ ?p0 ?p1 ?p2) ?k1 ?k2 ?k3 ?k4 ?k5 ?k6 ?k7 ?k8 ?_); walk_at "use in"; (case p0 => walk_at "tx"); (case p1 => omega); (case p2 => omega); intro _ _ _ _ hR; (obtain ⟨_, _, _, e1, e2, _, hC⟩ := hR); subst e1; subst e2; (obtain ⟨_, _⟩ := Cut.len hC); walk_at "use end")
  trivial
set_option maxHeartbeats 4000000 in
theorem whole_spec {w : World} {mean mg mb} {news} (n : Int) (tn : Tok) (h0 : 0 ≤ n) (h1 : n < 10 ^ 18) :
    Spec 2 w mean mg mb 59 [.int n tn] news (fun v add => ∃ z t, v = .str z t ∧ add = [] ∧ TX z (digs n.toNat)) := by
  have hl : (digs (n.natAbs : Int).toNat).length ≤ 18 := digs_len_le 17 _ (by lia)
  have hn : (n.natAbs : Int).toNat = n.toNat := by lia
  w_top off
  unfold Spec; k_fill
  intro dp un gd cn cs a0 ccd cl outer A0 base h0 L0 m0 s0 Q0 E0 B F X N T hk hdp hun hret
  k_dflt refine' enter_def [(Str.ofString "n", Value.int n tn)] ?k1 ?k2 ?k3 ?k4 ?k5 ?k6 ?k7 ?k8 ?k9 ?ka ?kb ?_ ?kc ?kd ?ke ?kf
  walk_at "enter"
  k_steps
  refine WhlIf.no (decide_eq_false ?_) ?_
  · show ¬ (10 : Int) ^ 18 ≤ _
    lia
  k_steps
  rw [hn] at *
  exact hret _ [] _ _ ⟨_, _, rfl, rfl, by with_reducible assumption⟩ (by walk_at "no new") (by with_reducible assumption) (by walk_at "news end")

theorem rows_f15_txt_2 : True := by
  k_with "call ref" => (k_here; (with_reducible show wpAny _ _ (call (Value.ref 59) _) _ _ _); (k_dflt refine' Spec.use (whole_spec _ _ ?p0 ?p1) ?k1 ?k2 ?k3 ?k4 ?k5 ?k6 ?k7 ?k8 ?_); walk_at "use in"; (case p0 => omega); (case p1 => omega); intro _ _ _ _ hR; (obtain ⟨_, _, e1, e2, _⟩ := hR); subst e1; subst e2; walk_at "use end")
  trivial

/-- the text of a number: side, whole part, part behind the dot, exponent -/
def Shape (neg : Bool) (a : List Nat) (b : Option (List Nat)) (ex : Option (Nat × List Nat)) : List Nat :=
  (if neg then [45] else []) ++ (a ++ ((match b with | some b => 46 :: b | none => []) ++ (match ex with | some (s, ds) => 101 :: s :: ds | none => [])))
/-- l is such a text; it tells ± V * 10 ^ (E - kb) -/
def Tells (l : List Nat) (neg : Bool) (V : Nat) (kb : Nat) (E : Int) : Prop :=
  ∃ a b ex, l = Shape neg a b ex ∧ a ≠ [] ∧ (∀ c ∈ a, isD c = true) ∧ (∀ c ∈ b.getD [], isD c = true) ∧ V = val (a ++ b.getD []) ∧ kb = (b.getD []).length ∧ a.length + kb ≤ 100 ∧
    (match ex with | some (s, ds) => ds ≠ [] ∧ (∀ c ∈ ds, isD c = true) ∧ ds.length ≤ 3 ∧ ((s = 43 ∧ E = val ds) ∨ (s = 45 ∧ E = -(val ds : Int))) | none => E = 0)
theorem tells_fixed {p : Nat} {V : Nat} (neg : Bool) (l0 : List Nat) (h0 : ∀ c ∈ l0, isD c = true) (hv : val l0 = V) (hlen : p + 1 ≤ l0.length) (hz : l0.length ≤ 100) (hp : 0 < p) :
    Tells (Shape neg (l0.take (l0.length - p)) (some (l0.drop (l0.length - p))) none) neg V p 0 := by
  refine ⟨_, some _, none, rfl, fun h => ?_, fun c hc => h0 c (List.mem_of_mem_take hc), fun c hc => h0 c (List.mem_of_mem_drop hc), ?_, ?_, ?_, rfl⟩
  · have := congrArg List.length h
    rw [List.length_take, List.length_nil] at this
    lia
  · show V = val (l0.take (l0.length - p) ++ l0.drop (l0.length - p))
    rw [List.take_append_drop, hv]
  · show p = (l0.drop (l0.length - p)).length
    rw [List.length_drop]
    lia
  · rw [List.length_take]; lia
theorem tells_whole {V : Nat} (neg : Bool) (l0 : List Nat) (h0 : ∀ c ∈ l0, isD c = true) (hv : val l0 = V) (hlen : 1 ≤ l0.length) (hz : l0.length ≤ 100) : Tells (Shape neg l0 none none) neg V 0 0 := by
  refine ⟨l0, none, none, rfl, fun h => ?_, h0, (fun c hc => absurd hc (by simp)), ?_, rfl, by lia, rfl⟩
  · rw [h] at hlen; exact absurd hlen (by decide)
  · show V = val (l0 ++ [])
    rw [List.append_nil, hv]
/-- the signs that whole_text and rjust make of V -/
def padded0 (V : Nat) (w : Nat) : List Nat := List.replicate (w - (digs V).length) 48 ++ digs V
theorem padded_isD (V w : Nat) : ∀ c ∈ padded0 V w, isD c = true := by
  intro c hc
  rcases List.mem_append.mp hc with h | h
  · rw [(List.mem_replicate.mp h).2]; rfl
  · exact digs_isD V c h
theorem padded_val (V w : Nat) : val (padded0 V w) = V := by unfold padded0; rw [val_pad, val_digs]
theorem padded_len (V w : Nat) : w ≤ (padded0 V w).length ∧ (digs V).length ≤ (padded0 V w).length ∧ ((padded0 V w).length = w ∨ (padded0 V w).length = (digs V).length) := by
  unfold padded0
  rw [List.length_append, List.length_replicate]
  lia
theorem rn_lt {A B p r : Int} (hB : 0 < B) (h : RN A B r) (hp : A < p * B) : r ≤ p := rn_le hB h (Int.le_of_lt hp)
theorem small_digs {r : Int} (h : r ≤ 10 ^ 13) : (digs r.toNat).length ≤ 14 := digs_len_le 13 _ (by lia)
/-- z tells ± V / 10 ^ p with V nearest -/
def FixR (n d p : Int) (z : Str) : Prop := ∃ l V, TX z l ∧ Tells l (decide (n < 0)) V p.toNat 0 ∧ RN (n.natAbs * 10 ^ p.toNat) d (V : Nat)
theorem fx_dot {n d p W : Int} (hR : RN (n.natAbs * 10 ^ p.toNat) d W) (hW : 0 ≤ W) (hL : (digs W.toNat).length ≤ 14) (hp : 0 < p) (hp2 : p ≤ 22) :
    ∃ l, l = Shape (decide (n < 0)) ((List.replicate ((p + 1).toNat - (digs W.toNat).length) 48 ++ digs W.toNat).take (((List.replicate ((p + 1).toNat - (digs W.toNat).length) 48 ++ digs W.toNat).length : Nat) - p : Int).toNat) (some ((List.replicate ((p + 1).toNat - (digs W.toNat).length) 48 ++ digs W.toNat).drop (((List.replicate ((p + 1).toNat - (digs W.toNat).length) 48 ++ digs W.toNat).length : Nat) - p : Int).toNat)) none ∧ Tells l (decide (n < 0)) W.toNat p.toNat 0 ∧ RN (n.natAbs * 10 ^ p.toNat) d (W.toNat : Nat) := by
  have e : (List.replicate ((p + 1).toNat - (digs W.toNat).length) 48 ++ digs W.toNat) = padded0 W.toNat (p + 1).toNat := rfl
  have hl := padded_len W.toNat (p + 1).toNat
  rw [e]
  have em : (((padded0 W.toNat (p + 1).toNat).length : Nat) - p : Int).toNat = (padded0 W.toNat (p + 1).toNat).length - p.toNat := by lia
  rw [em]
  refine ⟨_, rfl, tells_fixed _ _ (padded_isD _ _) (padded_val _ _) (by lia) (by lia) (by lia), ?_⟩
  rwa [Int.toNat_of_nonneg hW]
theorem fx_whole {n d p W : Int} (hR : RN (n.natAbs * 10 ^ p.toNat) d W) (hW : 0 ≤ W) (hL : (digs W.toNat).length ≤ 14) (hp0 : 0 ≤ p) (hp : ¬ 0 < p) :
    ∃ l, l = Shape (decide (n < 0)) (List.replicate ((p + 1).toNat - (digs W.toNat).length) 48 ++ digs W.toNat) none none ∧ Tells l (decide (n < 0)) W.toNat p.toNat 0 ∧ RN (n.natAbs * 10 ^ p.toNat) d (W.toNat : Nat) := by
  have hl := padded_len W.toNat (p + 1).toNat
  have : p.toNat = 0 := by lia
  refine ⟨_, rfl, ?_, by rwa [Int.toNat_of_nonneg hW]⟩
  rw [this]
  exact tells_whole _ (padded0 W.toNat (p + 1).toNat) (padded_isD _ _) (padded_val _ _) (by lia) (by lia)
theorem fx_end1 {n d p W : Int} {z : Str} (hz : TX z ([45] ++ ((List.replicate ((p + 1).toNat - (digs W.toNat).length) 48 ++ digs W.toNat).take (((List.replicate ((p + 1).toNat - (digs W.toNat).length) 48 ++ digs W.toNat).length : Nat) - p : Int).toNat ++ [46] ++ (List.replicate ((p + 1).toNat - (digs W.toNat).length) 48 ++ digs W.toNat).drop (((List.replicate ((p + 1).toNat - (digs W.toNat).length) 48 ++ digs W.toNat).length : Nat) - p : Int).toNat))) (hn : n < 0) (hp : 0 < p) (hp2 : p ≤ 22) (hW : 0 ≤ W) (hL : (digs W.toNat).length ≤ 14) (hR : RN (n.natAbs * 10 ^ p.toNat) d W) : FixR n d p z := by
  obtain ⟨l, e, h⟩ := fx_dot hR hW hL hp hp2
  refine ⟨l, _, ?_, h⟩
  have : [45] ++ ((List.replicate ((p + 1).toNat - (digs W.toNat).length) 48 ++ digs W.toNat).take (((List.replicate ((p + 1).toNat - (digs W.toNat).length) 48 ++ digs W.toNat).length : Nat) - p : Int).toNat ++ [46] ++ (List.replicate ((p + 1).toNat - (digs W.toNat).length) 48 ++ digs W.toNat).drop (((List.replicate ((p + 1).toNat - (digs W.toNat).length) 48 ++ digs W.toNat).length : Nat) - p : Int).toNat) = l := by rw [e]; simp [Shape, hn]
  rwa [this] at hz
theorem fx_end2 {n d p W : Int} {z : Str} (hz : TX z ((List.replicate ((p + 1).toNat - (digs W.toNat).length) 48 ++ digs W.toNat).take (((List.replicate ((p + 1).toNat - (digs W.toNat).length) 48 ++ digs W.toNat).length : Nat) - p : Int).toNat ++ [46] ++ (List.replicate ((p + 1).toNat - (digs W.toNat).length) 48 ++ digs W.toNat).drop (((List.replicate ((p + 1).toNat - (digs W.toNat).length) 48 ++ digs W.toNat).length : Nat) - p : Int).toNat)) (hn : ¬ n < 0) (hp : 0 < p) (hp2 : p ≤ 22) (hW : 0 ≤ W) (hL : (digs W.toNat).length ≤ 14) (hR : RN (n.natAbs * 10 ^ p.toNat) d W) : FixR n d p z := by
  obtain ⟨l, e, h⟩ := fx_dot hR hW hL hp hp2
  refine ⟨l, _, ?_, h⟩
  have : (List.replicate ((p + 1).toNat - (digs W.toNat).length) 48 ++ digs W.toNat).take (((List.replicate ((p + 1).toNat - (digs W.toNat).length) 48 ++ digs W.toNat).length : Nat) - p : Int).toNat ++ [46] ++ (List.replicate ((p + 1).toNat - (digs W.toNat).length) 48 ++ digs W.toNat).drop (((List.replicate ((p + 1).toNat - (digs W.toNat).length) 48 ++ digs W.toNat).length : Nat) - p : Int).toNat = l := by rw [e]; simp [Shape, hn]
  rwa [this] at hz
theorem fx_end3 {n d p W : Int} {z : Str} (hz : TX z ([45] ++ (List.replicate ((p + 1).toNat - (digs W.toNat).length) 48 ++ digs W.toNat))) (hn : n < 0) (hp : ¬ 0 < p) (hp0 : 0 ≤ p) (hW : 0 ≤ W) (hL : (digs W.toNat).length ≤ 14) (hR : RN (n.natAbs * 10 ^ p.toNat) d W) : FixR n d p z := by
  obtain ⟨l, e, h⟩ := fx_whole hR hW hL hp0 hp
  refine ⟨l, _, ?_, h⟩
  have : [45] ++ (List.replicate ((p + 1).toNat - (digs W.toNat).length) 48 ++ digs W.toNat) = l := by rw [e]; simp [Shape, hn]
  rwa [this] at hz
theorem fx_end4 {n d p W : Int} {z : Str} (hz : TX z (List.replicate ((p + 1).toNat - (digs W.toNat).length) 48 ++ digs W.toNat)) (hn : ¬ n < 0) (hp : ¬ 0 < p) (hp0 : 0 ≤ p) (hW : 0 ≤ W) (hL : (digs W.toNat).length ≤ 14) (hR : RN (n.natAbs * 10 ^ p.toNat) d W) : FixR n d p z := by
  obtain ⟨l, e, h⟩ := fx_whole hR hW hL hp0 hp
  refine ⟨l, _, ?_, h⟩
  have : (List.replicate ((p + 1).toNat - (digs W.toNat).length) 48 ++ digs W.toNat) = l := by rw [e]; simp [Shape, hn]
  rwa [this] at hz
set_option maxHeartbeats 4000000 in
theorem fixed_spec {w : World} {mean mg mb} {news} (n d p : Int) (tn td tp : Tok) (b : Addr) (hb : (b, tupO [.int n tn, .int d td]) ∈ news) (hn2 : n.natAbs ≤ 10 ^ 8) (hd : 0 < d) (hd2 : d ≤ 10 ^ 8) (hp : 0 ≤ p) (hp2 : p ≤ 22)
    (hs : (n.natAbs : Int) * 10 ^ p.toNat ≤ 10 ^ 13 * d) :
    Spec 4 w mean mg mb 101 [.ref b, .int p tp] news (fun v add => ∃ z t, v = .str z t ∧ add = [] ∧ FixR n d p z) := by
  have g1 := num_small (n := n) (j := p) hn2 (by lia)
  have g5 : 0 ≤ (n.natAbs : Int) * 10 ^ p.toNat := num_nonneg (n := n) (j := p)
  have g6 : (n.natAbs : Int) * 10 ^ p.toNat < 2 ^ 200 := by rw [num_of]; lia
  have g9 : d < 2 ^ 150 := by lia
  clear g1
  w_top off
  unfold Spec; k_fill
  intro dp un gd cn cs a0 ccd cl outer A0 base h0 L0 m0 s0 Q0 E0 B F X N T hk hdp hun hret
  k_dflt refine' enter_def [(Str.ofString "places", Value.int p tp), (Str.ofString "x", Value.ref b)] ?k1 ?k2 ?k3 ?k4 ?k5 ?k6 ?k7 ?k8 ?k9 ?ka ?kb ?_ ?kc ?kd ?ke ?kf
  walk_at "enter"
  k_steps
  with_reducible have gV := rn_le hd (by assumption) hs
  have gL := small_digs gV
  k_steps
  all_goals (refine hret _ [] _ _ ⟨_, _, rfl, rfl, ?_⟩ (by walk_at "no new") (by with_reducible assumption) (by walk_at "news end"))
  all_goals with_reducible first | exact fx_end1 (by assumption) (by assumption) (by assumption) hp2 (by assumption) gL (by assumption) | exact fx_end2 (by assumption) (by assumption) (by assumption) hp2 (by assumption) gL (by assumption) | exact fx_end3 (by assumption) (by assumption) (by assumption) hp (by assumption) gL (by assumption) | exact fx_end4 (by assumption) (by assumption) (by assumption) hp (by assumption) gL (by assumption)

theorem rows_f16_num_0 : True := by
  k_with "call ref" => (k_here; (with_reducible show wpAny _ _ (call (Value.ref 101) _) _ _ _); (k_dflt refine' Spec.use (fixed_spec _ _ _ _ _ _ _ ?p0 ?p1 ?p2 ?p3 ?p4 ?p5 ?p6) ?k1 ?k2 ?k3 ?k4 ?k5 ?k6 ?k7 ?k8 ?_); walk_at "use in"; (case p0 => k_mem); (case p1 => walk_at "as"); (case p2 => walk_at "as"); (case p3 => walk_at "as"); (case p4 => omega); (case p5 => omega); (case p6 => walk_at "as"); intro _ _ _ _ hR; (obtain ⟨_, _, e1, e2, _⟩ := hR); subst e1; subst e2; walk_at "use end")
  trivial

/-- z tells the number of c signs -/
def SciR (n d c : Int) (z : Str) : Prop := ∃ l lk e side, TX z l ∧ SigR n d c lk e side ∧ Tells l (decide (n < 0)) (val lk) (c - 1).toNat e
theorem sign_lt {n side : Int} (h : side = n.sign) : side < 0 ↔ n < 0 := by
  rcases Int.lt_trichotomy n 0 with q | q | q
  · rw [Int.sign_eq_neg_one_of_neg q] at h; lia
  · subst q; simp at h; lia
  · rw [Int.sign_eq_one_of_pos q] at h; lia
theorem sci_tells {n d c e side : Int} {lk : List Nat} {s : Nat} (hS : SigR n d c lk e side) (hc : 1 ≤ c) (hc2 : c ≤ 12) (hs : (s = 45 ∧ e < 0) ∨ (s = 43 ∧ ¬ e < 0)) :
    lk = lk.getD 0 0 :: lk.drop 1 ∧ Tells (Shape (decide (n < 0)) [lk.getD 0 0] (some (lk.drop 1)) (some (s, padded0 e.natAbs 2))) (decide (n < 0)) (val lk) (c - 1).toNat e := by
  obtain ⟨h1, h2, h3, h4, h5, h6⟩ := hS
  clear h6
  have h0 : lk = lk.getD 0 0 :: lk.drop 1 := by
    cases lk with
    | nil => simp at h1; lia
    | cons a r => simp
  have hl := padded_len e.natAbs 2
  have hd := digs_len_le 1 e.natAbs (by lia)
  refine ⟨h0, _, some _, some _, rfl, by simp, fun x hx => ?_, fun x hx => h2 x (List.mem_of_mem_drop hx), ?_, ?_, ?_, ?_, padded_isD _ _, by lia, ?_⟩
  · rw [List.mem_singleton] at hx
    apply h2
    rw [h0, hx]
    exact List.mem_cons_self ..
  · show val lk = val ([lk.getD 0 0] ++ lk.drop 1)
    rw [List.singleton_append, ← h0]
  · show (c - 1).toNat = (lk.drop 1).length
    rw [List.length_drop]
    lia
  · show 1 + (c - 1).toNat ≤ 100
    lia
  · intro h
    have := congrArg List.length h
    rw [List.length_nil] at this
    lia
  · rw [padded_val]
    lia
theorem sci_tells1 {n d c e side : Int} {lk : List Nat} {s : Nat} (hS : SigR n d c lk e side) (hc : 1 ≤ c) (hc2 : ¬ 1 < c) (hs : (s = 45 ∧ e < 0) ∨ (s = 43 ∧ ¬ e < 0)) :
    Tells (Shape (decide (n < 0)) [lk.getD 0 0] none (some (s, padded0 e.natAbs 2))) (decide (n < 0)) (val lk) (c - 1).toNat e := by
  obtain ⟨h1, h2, h3, h4, h5, h6⟩ := hS
  clear h6
  have h0 : lk = [lk.getD 0 0] := by
    cases lk with
    | nil => simp at h1; lia
    | cons a r =>
      cases r with
      | nil => simp
      | cons b r => simp at h1; lia
  have hl := padded_len e.natAbs 2
  have hd := digs_len_le 1 e.natAbs (by lia)
  refine ⟨_, none, some _, rfl, by simp, fun x hx => ?_, (fun x hx => absurd hx (by simp)), ?_, ?_, ?_, ?_, padded_isD _ _, by lia, ?_⟩
  · apply h2
    rw [h0]
    exact hx
  · show val lk = val ([lk.getD 0 0] ++ [])
    rw [List.append_nil, ← h0]
  · show (c - 1).toNat = 0
    lia
  · show 1 + (c - 1).toNat ≤ 100
    lia
  · intro h
    have := congrArg List.length h
    rw [List.length_nil] at this
    lia
  · rw [padded_val]
    lia
theorem pre_neg {n side : Int} {pre : List Nat} (hd : side = n.sign) (hp : (pre = [45] ∧ side < 0) ∨ (pre = [] ∧ ¬ side < 0)) : pre = if decide (n < 0) = true then [45] else [] := by
  rw [sign_lt hd] at hp
  rcases hp with ⟨h, q⟩ | ⟨h, q⟩ <;> simp [h, q]
theorem sci_end1 {n d c e side : Int} {lk pre : List Nat} {s : Nat} {z : Str} (hS : SigR n d c lk e side) (hz : TX z (pre ++ [lk.getD (Int.toNat 0) 0] ++ [46] ++ List.drop (Int.toNat 1) lk ++ [101, s] ++ (List.replicate (Int.toNat 2 - (digs (e.natAbs : Int).toNat).length) 48 ++ digs (e.natAbs : Int).toNat)))
    (hc : 1 ≤ c) (hc2 : c ≤ 12) (hp : (pre = [45] ∧ side < 0) ∨ (pre = [] ∧ ¬ side < 0)) (hs : (s = 45 ∧ e < 0) ∨ (s = 43 ∧ ¬ e < 0)) : SciR n d c z := by
  have q := sci_tells hS hc hc2 hs
  refine ⟨_, lk, e, side, ?_, hS, q.2⟩
  have e1 : (e.natAbs : Int).toNat = e.natAbs := by lia
  rw [e1, pre_neg hS.facts.2.2.2 hp] at hz
  unfold TX at hz ⊢
  rw [hz]
  simp [Shape, padded0]
theorem sci_end2 {n d c e side : Int} {lk pre : List Nat} {s : Nat} {z : Str} (hS : SigR n d c lk e side) (hz : TX z (pre ++ [lk.getD (Int.toNat 0) 0] ++ [101, s] ++ (List.replicate (Int.toNat 2 - (digs (e.natAbs : Int).toNat).length) 48 ++ digs (e.natAbs : Int).toNat)))
    (hc : 1 ≤ c) (hc2 : ¬ 1 < c) (hp : (pre = [45] ∧ side < 0) ∨ (pre = [] ∧ ¬ side < 0)) (hs : (s = 45 ∧ e < 0) ∨ (s = 43 ∧ ¬ e < 0)) : SciR n d c z := by
  have q := sci_tells1 hS hc hc2 hs
  refine ⟨_, lk, e, side, ?_, hS, q⟩
  have e1 : (e.natAbs : Int).toNat = e.natAbs := by lia
  rw [e1, pre_neg hS.facts.2.2.2 hp] at hz
  unfold TX at hz ⊢
  rw [hz]
  simp [Shape, padded0]
set_option maxHeartbeats 4000000 in
theorem sci_spec {w : World} {mean mg mb} {news} (n d c : Int) (tn td tc : Tok) (b : Addr) (hb : (b, tupO [.int n tn, .int d td]) ∈ news) (hn2 : n.natAbs ≤ 10 ^ 8) (hd : 0 < d) (hd2 : d ≤ 10 ^ 8) (hc : 1 ≤ c) (hc2 : c ≤ 12) :
    Spec 8 w mean mg mb 94 [.ref b, .int c tc] news (fun v add => ∃ z t, v = .str z t ∧ add = [] ∧ SciR n d c z) := by
  w_top off
  unfold Spec; k_fill
  intro dp un gd cn cs a0 ccd cl outer A0 base h0 L0 m0 s0 Q0 E0 B F X N T hk hdp hun hret
  k_dflt refine' enter_def [(Str.ofString "digits", Value.int c tc), (Str.ofString "x", Value.ref b)] ?k1 ?k2 ?k3 ?k4 ?k5 ?k6 ?k7 ?k8 ?k9 ?ka ?kb ?_ ?kc ?kd ?ke ?kf
  walk_at "enter"
  k_steps
  all_goals (refine hret _ [] _ _ ⟨_, _, rfl, rfl, ?_⟩ (by walk_at "no new") (by with_reducible assumption) (by walk_at "news end"))
  all_goals with_reducible first | exact sci_end1 (by assumption) (by assumption) hc hc2 (by first | exact .inl ⟨rfl, by assumption⟩ | exact .inr ⟨rfl, by assumption⟩) (by first | exact .inl ⟨rfl, by assumption⟩ | exact .inr ⟨rfl, by assumption⟩) | exact sci_end2 (by assumption) (by assumption) hc (by assumption) (by first | exact .inl ⟨rfl, by assumption⟩ | exact .inr ⟨rfl, by assumption⟩) (by first | exact .inl ⟨rfl, by assumption⟩ | exact .inr ⟨rfl, by assumption⟩)

theorem rows_f17_sci_0 : True := by
  k_with "call ref" => (k_here; (with_reducible show wpAny _ _ (call (Value.ref 94) _) _ _ _); (k_dflt refine' Spec.use (sci_spec _ _ _ _ _ _ _ ?p0 ?p1 ?p2 ?p3 ?p4 ?p5) ?k1 ?k2 ?k3 ?k4 ?k5 ?k6 ?k7 ?k8 ?_); walk_at "use in"; (case p0 => k_mem); (case p1 => walk_at "as"); (case p2 => walk_at "as"); (case p3 => walk_at "as"); (case p4 => omega); (case p5 => omega); intro _ _ _ _ hR; (obtain ⟨_, _, e1, e2, _⟩ := hR); subst e1; subst e2; walk_at "use end")
  trivial

section
variable {prog : Program} {w : World} {A : Around} {E : Value → Shared → Prop} {s : Shared} {h₀ : Heap} {L : Addr} {m : Str → Option Value} {news : List (Addr × Obj)} {a b : Int} {t u : Tok} {Q : Value → Shared → Prop}
theorem t_max (hh : A.handled = none) (F : Fr h₀ L s.heap m) (N : News h₀ L s.heap news) (h : ∀ r t' h' k, a ≤ r → b ≤ r → (r = a ∨ r = b) → Fr h₀ L h' m → News h₀ L h' news → Q (.int r t') { s with heap := h', toks := k }) :
    wpAny (model prog w) A (call (.builtin "max") [.int a t, .int b u]) Q E s :=
  max_two_N hh F N fun h' tk F' N' => h _ _ _ _ (by split <;> lia) (by split <;> lia) (by split <;> simp) F' N'
theorem t_min (hh : A.handled = none) (F : Fr h₀ L s.heap m) (N : News h₀ L s.heap news) (h : ∀ r t' h' k, r ≤ a → r ≤ b → (r = a ∨ r = b) → Fr h₀ L h' m → News h₀ L h' news → Q (.int r t') { s with heap := h', toks := k }) :
    wpAny (model prog w) A (call (.builtin "min") [.int a t, .int b u]) Q E s :=
  min_two_N hh F N fun h' tk F' N' => h _ _ _ _ (by split <;> lia) (by split <;> lia) (by split <;> simp) F' N'
end
theorem rows_f18_meas_0 : True := by
  k_with "call builtin:max" => (k_here; (with_reducible rename Fr _ _ _ _ => F'); (with_reducible rename News _ _ _ _ => N'); (k_dflt refine' t_max ?hh F' N' ?_); (case hh => with_unfolding_all rfl); clear F' N'; intro _ _ _ _ _ _ _ _ _; (try k_sweep); (try dsimp only))
  k_with "call builtin:min" => (k_here; (with_reducible rename Fr _ _ _ _ => F'); (with_reducible rename News _ _ _ _ => N'); (k_dflt refine' t_min ?hh F' N' ?_); (case hh => with_unfolding_all rfl); clear F' N'; intro _ _ _ _ _ _ _ _ _; (try k_sweep); (try dsimp only))
  trivial
/-- what measures tells of a fraction -/
def MeasR (n d k count places e : Int) : Prop := ∃ lk c side, SigR n d k lk e side ∧ Cut lk c ∧ count = c.length ∧ 0 ≤ places ∧ count - 1 - e ≤ places ∧ (places = count - 1 - e ∨ places = 0)
theorem meas_mk {n d k e side places : Int} {lk c : List Nat} (h : SigR n d k lk e side) (hc : Cut lk c) (h1 : (c.length : Int) - 1 - e ≤ places) (h0 : 0 ≤ places) (h2 : places = (c.length : Int) - 1 - e ∨ places = 0) : MeasR n d k c.length places e :=
  ⟨lk, c, side, h, hc, rfl, h0, h1, h2⟩
set_option maxHeartbeats 4000000 in
theorem meas_spec {w : World} {mean mg mb} {news} (n d k : Int) (tn td tk : Tok) (b : Addr) (hb : (b, tupO [.int n tn, .int d td]) ∈ news) (hn2 : n.natAbs ≤ 10 ^ 8) (hd : 0 < d) (hd2 : d ≤ 10 ^ 8) (hk1 : 1 ≤ k) (hk2 : k ≤ 12) :
    Spec 8 w mean mg mb 108 [.ref b, .int k tk] news (fun v add => ∃ a count left places e t1 t2 t3 t4, v = .ref a ∧ add = [(a, tupO [.int count t1, .int left t2, .int places t3, .int e t4])] ∧ MeasR n d k count places e ∧ 1 ≤ count ∧ count ≤ 12 ∧ 1 ≤ left ∧ left ≤ 20 ∧ -9 ≤ e ∧ e ≤ 10) := by
  w_top off
  unfold Spec; k_fill
  intro dp un gd cn cs a0 ccd cl outer A0 base h0 L0 m0 s0 Q0 E0 B F X N T hk hdp hun hret
  k_dflt refine' enter_def [(Str.ofString "digits", Value.int k tk), (Str.ofString "x", Value.ref b)] ?k1 ?k2 ?k3 ?k4 ?k5 ?k6 ?k7 ?k8 ?k9 ?ka ?kb ?_ ?kc ?kd ?ke ?kf
  walk_at "enter"
  k_steps
  all_goals (refine hret _ [_] _ _ ?_ ?_ (by with_reducible assumption) (by walk_at "news end"); rotate_left; (walk_at "fresh"); refine ⟨_, _, _, _, _, _, _, _, _, rfl, rfl, ?_, by lia, by lia, by lia, by lia, by lia, by lia⟩)
  all_goals with_reducible exact meas_mk (by assumption) (by assumption) (by lia) (by lia) (by lia)


theorem rows_f19_form_0 : True := by
  k_with "call ref" => (k_here; (with_reducible show wpAny _ _ (call (Value.ref 108) _) _ _ _); (k_dflt refine' Spec.use (meas_spec _ _ _ _ _ _ _ ?p0 ?p1 ?p2 ?p3 ?p4 ?p5) ?k1 ?k2 ?k3 ?k4 ?k5 ?k6 ?k7 ?k8 ?_); walk_at "use in"; (case p0 => k_mem); (case p1 => walk_at "as"); (case p2 => walk_at "as"); (case p3 => walk_at "as"); (case p4 => walk_at "ao"); (case p5 => walk_at "ao"); intro _ _ _ _ hR; (obtain ⟨_, _, _, _, _, _, _, _, _, e1, e2, _, _, _, _, _, _, _⟩ := hR); subst e1; subst e2; walk_at "use end")
  trivial
theorem meas_small {n d k count places e : Int} (hd : 0 < d) (hn : n.natAbs ≤ 10 ^ 8) (hk : k ≤ 12) (h : MeasR n d k count places e) : 0 ≤ places ∧ places ≤ 22 ∧ (n.natAbs : Int) * 10 ^ places.toNat ≤ 10 ^ 13 * d := by
  obtain ⟨lk, c, side, hS, hC, h1, h2, h3, h4⟩ := h
  have hl := hC.len
  obtain ⟨a1, a2, a3, a4, a5, a6⟩ := hS
  refine ⟨h2, by lia, ?_⟩
  rcases a6 with ⟨b1, _⟩ | ⟨b1, E, r, b2, b3, _, _, b4⟩
  · subst b1
    have : (0 : Int) ≤ 10 ^ 13 * d := Int.mul_nonneg (by decide) (by lia)
    simpa using this
  · have hE : E ≤ e ∧ e ≤ E + 1 := by
      rcases b4 with ⟨_, _, b⟩ | ⟨_, _, b⟩ <;> lia
    rcases h4 with h4 | h4
    · have x := (exp_scaled (k := 12) hd (by decide) b2).2
      rw [den_up (by lia)] at x
      unfold num at x
      have m := pow_mono10 (show places.toNat ≤ (12 - 1 - E).toNat by lia)
      have m2 := Int.mul_le_mul_of_nonneg_left m (show (0 : Int) ≤ n.natAbs by lia)
      have e12 : (10 : Int) ^ (12 : Int).toNat = 10 ^ 12 := rfl
      rw [e12] at x
      lia
    · rw [h4]
      show (n.natAbs : Int) * 1 ≤ _
      lia
-- a list of one item in the ledger: one turn
theorem rows_f19_form_1 : True := by
  k_with "exec For Name Name cons nil" => (k_here; (with_reducible show wpAny _ _ (exec (PySem.Stmt.For _ (PySem.Expr.Name (Str.ofString "xs") _) _ _ _) _) _ _ _); (with_reducible rename Fr _ _ _ _ => lF'); (with_unfolding_all refine' For_invVF lF' ?k1 ?k2 ?_; (case k1 => exact rfl); (case k2 => exact rfl); k_whole))
  k_with "pyIter ref" => (k_here; (with_reducible show wpAny _ _ (pyIter (Value.ref _)) (fun it s₂ => LoopAtV _ _ _ _ _ _ _ _ _ it s₂) _ _); (with_reducible rename Fr _ _ _ _ => F'); (with_reducible rename News _ _ _ _ => N'); (with_reducible rename (_, listOf #[_] _) ∈ _ => hD'); (k_dflt refine' iter_listUnr (vs := [_]) ?hh F' N' hD' ?hc ?hd ?_); (case hh => with_unfolding_all rfl); (case hc => exact rfl); (case hd => k_dflt exact rfl); clear F' N'; intro i' l1)
  k_with "UnrEnd" => (k_here; (with_reducible rename (_, listOf #[_] _) ∈ _ => hD'); (with_reducible rename (∀ p ∈ _, @LT.lt Nat _ (Prod.fst p) _) => l1); (with_reducible rename News _ _ _ _ => N'); (with_reducible rename Fr _ _ _ _ => F'); (k_dflt refine UnrEnd.intro F' N' _ ?hs (fun p hp e => absurd e (Nat.ne_of_lt (l1 p hp))) ⟨hD', ?_⟩); (case hs => walk_at "sub"))
  trivial
/-- what chosen_form answers: "fixed" and places, or "scientific" and the count -/
def FormR (n d k : Int) (z : Str) (m : Int) : Prop := ∃ count places e, MeasR n d k count places e ∧ 1 ≤ count ∧ count ≤ 12 ∧ ((TX z [102, 105, 120, 101, 100] ∧ m = places) ∨ (TX z [115, 99, 105, 101, 110, 116, 105, 102, 105, 99] ∧ m = count))
theorem form_fixed {n d k count places e m : Int} {z : Str} (hM : MeasR n d k count places e) (h1 : 1 ≤ count) (h2 : count ≤ 12) (hz : TX z [102, 105, 120, 101, 100]) (h3 : 0 ≤ m) (h4 : places ≤ m) (h5 : m = 0 ∨ m = places) : FormR n d k z m := by
  have h0 : 0 ≤ places := by obtain ⟨_, _, _, _, _, _, h, _⟩ := hM; exact h
  exact ⟨count, places, e, hM, h1, h2, .inl ⟨hz, by lia⟩⟩
theorem form_sci {n d k count places e m : Int} {z : Str} (hM : MeasR n d k count places e) (h1 : 1 ≤ count) (h2 : count ≤ 12) (hz : TX z [115, 99, 105, 101, 110, 116, 105, 102, 105, 99]) (h3 : 1 ≤ m) (h4 : count ≤ m) (h5 : m = 1 ∨ m = count) : FormR n d k z m :=
  ⟨count, places, e, hM, h1, h2, .inr ⟨hz, by lia⟩⟩
set_option maxHeartbeats 4000000 in
theorem form_spec {w : World} {mean mg mb} {news} (n d k : Int) (tn td tk : Tok) (b D : Addr) (c : Nat) (hD : (D, listOf #[.ref b] c) ∈ news) (hb : (b, tupO [.int n tn, .int d td]) ∈ news) (hn2 : n.natAbs ≤ 10 ^ 8) (hd : 0 < d) (hd2 : d ≤ 10 ^ 8) (hk1 : 1 ≤ k) (hk2 : k ≤ 12) :
    Spec 10 w mean mg mb 115 [.ref D, .int k tk] news (fun v add => ∃ a z m t1 t2, v = .ref a ∧ add = [(a, tupO [.str z t1, .int m t2])] ∧ FormR n d k z m) := by
  w_top off
  unfold Spec; k_fill
  intro dp un gd cn cs a0 ccd cl outer A0 base h0 L0 m0 s0 Q0 E0 B F X N T hk hdp hun hret
  k_dflt refine' enter_def [(Str.ofString "digits", Value.int k tk), (Str.ofString "xs", Value.ref D)] ?k1 ?k2 ?k3 ?k4 ?k5 ?k6 ?k7 ?k8 ?k9 ?ka ?kb ?_ ?kc ?kd ?ke ?kf
  walk_at "enter"
  k_steps
  all_goals (refine hret _ [_] _ _ ?_ ?_ (by with_reducible assumption) (by walk_at "news end"); rotate_left; (walk_at "fresh"); refine ⟨_, _, _, _, _, rfl, rfl, ?_⟩)
  all_goals with_reducible first | exact form_fixed (by assumption) (by assumption) (by assumption) tx_c_fixed (by assumption) (by assumption) (by assumption) | exact form_sci (by assumption) (by assumption) (by assumption) tx_c_sci (by assumption) (by assumption) (by assumption)


theorem rows_f20_fmd_0 : True := by
  k_with "call ref" => (k_here; (with_reducible show wpAny _ _ (call (Value.ref 115) _) _ _ _); (k_dflt refine' Spec.use (form_spec _ _ _ _ _ _ _ _ _ ?p9 ?p0 ?p1 ?p2 ?p3 ?p4 ?p5) ?k1 ?k2 ?k3 ?k4 ?k5 ?k6 ?k7 ?k8 ?_); walk_at "use in"; (case p9 => k_mem); (case p0 => k_mem); (case p1 => walk_at "as"); (case p2 => walk_at "as"); (case p3 => walk_at "as"); (case p4 => walk_at "ao"); (case p5 => walk_at "ao"); intro _ _ _ _ hR; (obtain ⟨_, _, _, _, _, e1, e2, _⟩ := hR); subst e1; subst e2; walk_at "use new")
  trivial
/-- what the printed text tells -/
def TextR (n d k : Int) (z : Str) : Prop := ∃ count places e, MeasR n d k count places e ∧ 1 ≤ count ∧ count ≤ 12 ∧ (FixR n d places z ∨ SciR n d count z)
set_option maxHeartbeats 4000000 in
theorem formed_spec {w : World} {mean mg mb} {news} (n d k m : Int) (z : Str) (tn td tz tm : Tok) (b D : Addr) (hD : (D, tupO [.str z tz, .int m tm]) ∈ news) (hb : (b, tupO [.int n tn, .int d td]) ∈ news) (hn2 : n.natAbs ≤ 10 ^ 8) (hd : 0 < d) (hd2 : d ≤ 10 ^ 8) (hk2 : k ≤ 12) (hF : FormR n d k z m) :
    Spec 10 w mean mg mb 122 [.ref b, .ref D] news (fun v add => ∃ z t, v = .str z t ∧ add = [] ∧ TextR n d k z) := by
  obtain ⟨count, places, e, hM, hc1, hc2, hF⟩ := hF
  obtain ⟨hp1, hp2, hp3⟩ := meas_small hd hn2 hk2 hM
  rcases hF with ⟨hz, hm⟩ | ⟨hz, hm⟩
  · subst hm
    w_top off
    unfold Spec; k_fill
    intro dp un gd cn cs a0 ccd cl outer A0 base h0 L0 m0 s0 Q0 E0 B F X N T hk hdp hun hret
    k_dflt refine' enter_def [(Str.ofString "form", Value.ref D), (Str.ofString "x", Value.ref b)] ?k1 ?k2 ?k3 ?k4 ?k5 ?k6 ?k7 ?k8 ?k9 ?ka ?kb ?_ ?kc ?kd ?ke ?kf
    walk_at "enter"
    k_steps
    exact hret _ [] _ _ ⟨_, _, rfl, rfl, _, _, _, hM, hc1, hc2, .inl (by with_reducible assumption)⟩ (by walk_at "no new") (by with_reducible assumption) (by walk_at "news end")
  · subst hm
    w_top off
    unfold Spec; k_fill
    intro dp un gd cn cs a0 ccd cl outer A0 base h0 L0 m0 s0 Q0 E0 B F X N T hk hdp hun hret
    k_dflt refine' enter_def [(Str.ofString "form", Value.ref D), (Str.ofString "x", Value.ref b)] ?k1 ?k2 ?k3 ?k4 ?k5 ?k6 ?k7 ?k8 ?k9 ?ka ?kb ?_ ?kc ?kd ?ke ?kf
    walk_at "enter"
    k_steps
    exact hret _ [] _ _ ⟨_, _, rfl, rfl, _, _, _, hM, hc1, hc2, .inr (by with_reducible assumption)⟩ (by walk_at "no new") (by with_reducible assumption) (by walk_at "news end")


theorem rows_f21_com_0 : True := by
  k_with "call ref" => (k_here; (with_reducible show wpAny _ _ (call (Value.ref 122) _) _ _ _); (k_dflt refine' Spec.use (formed_spec _ _ _ _ _ _ _ _ _ _ _ ?p9 ?p0 ?p1 ?p2 ?p3 ?p4 ?p5) ?k1 ?k2 ?k3 ?k4 ?k5 ?k6 ?k7 ?k8 ?_); walk_at "use in"; (case p9 => k_mem); (case p0 => k_mem); (case p1 => walk_at "as"); (case p2 => walk_at "as"); (case p3 => walk_at "as"); (case p4 => walk_at "ao"); (case p5 => walk_at "as"); intro _ _ _ _ hR; (obtain ⟨_, _, e1, e2, _⟩ := hR); subst e1; subst e2; walk_at "use end")
  trivial
/-- the same without the order of the new objects -/
def SpecE (lv : Nat) (w : World) (mean : ExcName → Option Value) (mg mb : Str → Option Value) (f : Addr) (vs : List Value) (news : List (Addr × Obj)) (Ret : Value → List (Addr × Obj) → Prop) : Prop :=
  ∀ (dp un : Nat) (gd : Option (List Code)) (cn : Str) (cs : Scope) (a : Addr) (ccd : Value) (cl : List (Str × Addr)) (outer : List Env) (A₀ : Around) (base h₀ : Heap) (L : Addr) (m : Str → Option Value) (s : Shared) (Q E : Value → Shared → Prop),
    Below A₀ base outer h₀ → Fr h₀ L s.heap m → (hd.heap_39 w.params).In h₀ → News h₀ L s.heap news → Top hd.view_39 (looseW hd.view_39 [Str.ofString "number_text"]) mean mg mb h₀ → cs.kind = .function →
    dp + lv < recursionLimit → un + 8 * lv < cLine →
    (∀ v add h' tk', Ret v add → Fr h₀ L h' m → News h₀ L h' (add ++ news) → Q v { s with heap := h', toks := tk' }) →
      wpAny (model PySem.Challenge.rw_ov0062_01.row.prog w) (ktrTop dp un gd cn cs L a ccd cl outer) (call (.ref f) vs) Q E s

theorem SpecE.use {lv : Nat} {w : World} {mean : ExcName → Option Value} {mg mb : Str → Option Value} {f : Addr} {vs : List Value} {news : List (Addr × Obj)} {Ret : Value → List (Addr × Obj) → Prop} (S : SpecE lv w mean mg mb f vs news Ret)
    {dp un : Nat} {gd : Option (List Code)} {cn : Str} {cs : Scope} {a : Addr} {ccd : Value} {cl : List (Str × Addr)} {outer : List Env} {A₀ : Around} {base h₀ : Heap} {L : Addr} {m : Str → Option Value} {s : Shared} {Q E : Value → Shared → Prop}
    (B : Below A₀ base outer h₀) (F : Fr h₀ L s.heap m) (X : (hd.heap_39 w.params).In h₀) (N : News h₀ L s.heap news) (T : Top hd.view_39 (looseW hd.view_39 [Str.ofString "number_text"]) mean mg mb h₀) (hk : cs.kind = .function)
    (hd : dp + lv < recursionLimit) (hu : un + 8 * lv < cLine)
    (h : ∀ v add h' tk', Ret v add → Fr h₀ L h' m → News h₀ L h' (add ++ news) → Q v { s with heap := h', toks := tk' }) :
      wpAny (model PySem.Challenge.rw_ov0062_01.row.prog w) (ktrTop dp un gd cn cs L a ccd cl outer) (call (.ref f) vs) Q E s :=
  S _ _ _ _ _ _ _ _ _ _ _ _ _ _ _ _ _ B F X N T hk hd hu h
theorem rows_f21_com_1 : True := by
  k_with "CompEnd" => (k_here; (first | (with_reducible rename (_ ∧ _ ∧ _ ∧ LCg.Off3 _ _ _ _) => off') | (with_reducible rename (_ ∧ LCg.Off3 _ _ _ _) => off')); (with_reducible rename News _ _ _ _ => N'); (with_reducible rename Fr _ _ _ _ => F'); (k_dflt refine' LCg.CompEnd.intro F' N' _ (fun p hp => hp) off' (Or.inr ⟨_, ?hm, ?hc, _, ?hd⟩) ?_); (case hm => k_mem); (case hc => exact rfl); (case hd => exact rfl))
  trivial
local macro_rules | `(tactic| k_all) => `(tactic| ((with_reducible rename (∀ p ∈ _, @LT.lt Nat _ (Prod.fst p) _) => l1); exact fun p hp => Nat.ne_of_lt (Nat.lt_succ_of_lt (l1 p hp))))
set_option maxHeartbeats 4000000 in
theorem com_spec {w : World} {mean mg mb} {news} (n d k : Int) (tn td tk : Tok) (b D : Addr) (c : Nat) (hD : (D, listOf #[.ref b] c) ∈ news) (hb : (b, tupO [.int n tn, .int d td]) ∈ news) (hn2 : n.natAbs ≤ 10 ^ 8) (hd : 0 < d) (hd2 : d ≤ 10 ^ 8) (hk1 : 1 ≤ k) (hk2 : k ≤ 12) :
    SpecE 12 w mean mg mb 127 [.ref D, .int k tk] news (fun v add => ∃ a z t c, v = .ref a ∧ add = [(a, listOf #[.str z t] c)] ∧ TextR n d k z) := by
  w_top off
  unfold SpecE; k_fill
  intro dp un gd cn cs a0 ccd cl outer A0 base h0 L0 m0 s0 Q0 E0 B F X N T hk hdp hun hret
  refine wpAny_call ?_
  (k_dflt refine' code_defC ?k1 ?k2 ?k3 ?k4 ?k5 ?kA ?kF ?kK ?k6 ?k7 ?k8 ?k9 ?kB ?kD ?_ ?c2 ?c3 ?c4; (case kA => exact rfl); (case kF => exact rfl); (case kK => exact hk); (case k1 => k_asm); (case k2 => k_asm); (case k3 => k_asm); (case k4 => k_asm); (case k5 => k_asm); (case k6 => k_is); (case k7 => k_is); (case k8 => (show dp < _; lia)); (case k9 => exact BindsTo.of_eq rfl); (case kB => exact rfl); (case kD => decide +kernel); (case c2 => exact rfl); (case c3 => exact rfl); (case c4 => exact rfl); k_whole; intro g' L' h' tk' cells' FG' F' N' Y' B' X' T' l1; (try k_lt l1); k_cells Y'; (try simp only [List.cons_append, List.nil_append] at N'); (try dsimp only); (try k_lift B'); (try k_fold))
  k_steps
  exact hret _ [_] _ _ ⟨_, _, _, _, rfl, rfl, by with_reducible assumption⟩ (by with_reducible assumption) (by walk_at "news end")


theorem rows_f22_num_0 : True := by
  k_with "call ref" => (k_here; (with_reducible show wpAny _ _ (call (Value.ref 127) _) _ _ _); (k_dflt refine' SpecE.use (com_spec _ _ _ _ _ _ _ _ _ ?p9 ?p0 ?p1 ?p2 ?p3 ?p4 ?p5) ?k1 ?k2 ?k3 ?k4 ?k5 ?k6 ?k7 ?k8 ?_); walk_at "use in"; (case p9 => k_mem); (case p0 => k_mem); (case p1 => walk_at "as"); (case p2 => walk_at "as"); (case p3 => walk_at "as"); (case p4 => walk_at "ao"); (case p5 => walk_at "ao"); intro _ _ _ _ hR; (obtain ⟨_, _, _, _, e1, e2, _⟩ := hR); subst e1; subst e2; walk_at "use e")
  trivial
set_option maxHeartbeats 4000000 in
theorem numt_spec {w : World} {mean mg mb} {news} (n d k : Int) (tn td tk : Tok) (b : Addr) (hb : (b, tupO [.int n tn, .int d td]) ∈ news) (hn2 : n.natAbs ≤ 10 ^ 8) (hd : 0 < d) (hd2 : d ≤ 10 ^ 8) (hk1 : 1 ≤ k) (hk2 : k ≤ 12) :
    Spec 14 w mean mg mb 135 [.ref b, .int k tk] news (fun v add => ∃ z t, v = .str z t ∧ add = [] ∧ TextR n d k z) := by
  w_top off
  unfold Spec; k_fill
  intro dp un gd cn cs a0 ccd cl outer A0 base h0 L0 m0 s0 Q0 E0 B F X N T hk hdp hun hret
  k_dflt refine' enter_def [(Str.ofString "digits", Value.int k tk), (Str.ofString "x", Value.ref b)] ?k1 ?k2 ?k3 ?k4 ?k5 ?k6 ?k7 ?k8 ?k9 ?ka ?kb ?_ ?kc ?kd ?ke ?kf
  walk_at "enter"
  k_steps
  exact hret _ [] _ _ ⟨_, _, rfl, rfl, by with_reducible assumption⟩ (by walk_at "no new") (by with_reducible assumption) (by walk_at "news end")


theorem rows_f23_dv_0 : True := by
  k_with "call ref" => (k_here; (with_reducible show wpAny _ _ (call (Value.ref 135) _) _ _ _); (k_dflt refine' Spec.use (numt_spec _ _ _ _ _ _ _ ?p0 ?p1 ?p2 ?p3 ?p4 ?p5) ?k1 ?k2 ?k3 ?k4 ?k5 ?k6 ?k7 ?k8 ?_); walk_at "use in"; (case p0 => k_mem); (case p1 => walk_at "as"); (case p2 => walk_at "as"); (case p3 => walk_at "as"); (case p4 => walk_at "ao"); (case p5 => walk_at "ao"); intro _ _ _ _ hR; (obtain ⟨_, _, e1, e2, _⟩ := hR); subst e1; subst e2; walk_at "use end")
  trivial
theorem one_ok {c : Nat} (h : okC c = true) : ∀ c' ∈ [c], okC c' = true := fun c' hc => by rw [List.mem_singleton.mp hc]; exact h
theorem rows_f23_dv_1 : True := by
  k_with "call builtin:str.lower" => (k_here; (with_reducible refine' tx_lower ?ha ?hok ?hz ?_); (case ha => walk_at "tx"); (case hok => walk_at "tx ok"); (case hz => walk_at "tx size"); intro _ _ _ _)
  k_with "tx ok" => with_reducible first | assumption | exact one_ok (by assumption) | exact one_ok (isD_ok (codes_all (by assumption) (by assumption) (by assumption)))
  k_with "tx dig" => with_reducible first | assumption | exact codes_all (by assumption) (by assumption) (by assumption)
  k_with "call builtin:str.find" => (k_here; (with_reducible refine' tx_find ?ha ?hb ?hc ?_); (case ha => walk_at "tx"); (case hb => walk_at "tx"); (case hc => walk_at "tx dig"); intro _ _)
  trivial
theorem dv_turn {pre : List Int} {n : Nat} {v : Int} (h : v = (val (pre.map Int.toNat) : Nat)) : v * 10 + ((n - 48 : Nat) : Int) = (val ((pre ++ [(n : Int)]).map Int.toNat) : Nat) := by
  rw [List.map_append, List.map_singleton, val_snoc, h, Int.toNat_natCast]
  lia
theorem dv_end {x : Str} {l : List Nat} (hx : TX x l) {v : Int} (h : v = (val ((KStt.codes x).map Int.toNat) : Nat)) : v = (val l : Nat) := by rw [h, codes_nat hx]
set_option maxHeartbeats 4000000 in
theorem dv_spec {w : World} {mean mg mb} {news} (x : Str) (tx tb : Tok) (l : List Nat) (hx : TX x l) (hd' : ∀ c ∈ l, isD c = true) (hz : l.length ≤ 1000) :
    Spec 2 w mean mg mb 142 [.str x tx, .int 10 tb] news (fun v add => ∃ t, v = .int (val l : Nat) t ∧ add = []) := by
  w_top off
  unfold Spec; k_fill
  intro dp un gd cn cs a0 ccd cl outer A0 base h0 L0 m0 s0 Q0 E0 B F X N T hk hdp hun hret
  k_dflt refine' enter_def [(Str.ofString "base", Value.int 10 tb), (Str.ofString "text", Value.str x tx)] ?k1 ?k2 ?k3 ?k4 ?k5 ?k6 ?k7 ?k8 ?k9 ?ka ?kb ?_ ?kc ?kd ?ke ?kf
  walk_at "enter"
  k_with "pyIter str" => k_state (fun pre v => v = (val (pre.map Int.toNat) : Nat)) "value"
  k_with "state" => with_reducible first | exact rfl | exact dv_turn (by assumption)
  k_steps
  exact hret _ [] _ _ ⟨_, congrArg (fun v => Value.int v _) (dv_end hx (by with_reducible assumption)), rfl⟩ (by walk_at "no new") (by with_reducible assumption) (by walk_at "news end")


theorem rows_f24_run_0 : True := by
  k_with "call ref" => (k_here; (with_reducible show wpAny _ _ (call (Value.ref 142) _) _ _ _); (k_dflt refine' Spec.use (dv_spec _ _ _ _ ?p0 ?p1 ?p2) ?k1 ?k2 ?k3 ?k4 ?k5 ?k6 ?k7 ?k8 ?_); walk_at "use in"; (case p0 => walk_at "tx"); (case p1 => walk_at "tx digs"); (case p2 => walk_at "tx size"); intro _ _ _ _ hR; (obtain ⟨_, e1, e2⟩ := hR); subst e1; subst e2; walk_at "use end")
  k_with "tx digs" => with_reducible assumption
  trivial
theorem getD_ok {l : List Nat} {P : Nat → Bool} (h : ∀ c ∈ l, P c = true) {i : Nat} (hi : i < l.length) : P (l.getD i 0) = true := by
  rw [List.getD_eq_getElem?_getD, List.getElem?_eq_getElem hi]
  exact h _ (List.getElem_mem hi)
theorem rows_f24_run_1 : True := by
  k_with "tx ok" => exact one_ok (getD_ok (P := okC) (by with_reducible assumption) (by omega))
  k_with "compareOp In str str" => (k_here; (with_reducible refine' tx_contains ?ha ?hb ?_); (case ha => walk_at "tx"); (case hb => walk_at "tx"))
  trivial
theorem mem_dig {c : Nat} : c ∈ [48,49,50,51,52,53,54,55,56,57] ↔ isD c = true := by
  rw [isD_iff]
  simp only [List.mem_cons, List.not_mem_nil, or_false]
  omega
def RunIn (l : List Nat) (a b : Int) : Prop := ∀ i : Nat, a ≤ i → i < b → isD (l.getD i 0) = true
theorem run_turn {l : List Nat} {a b : Int} (h1 : a ≤ b) (h0 : 0 ≤ a) (h : RunIn l a b) (hb : b < l.length) (hm : l.getD b.toNat 0 ∈ [48,49,50,51,52,53,54,55,56,57]) : a ≤ b + 1 ∧ b + 1 ≤ l.length ∧ RunIn l a (b + 1) := by
  refine ⟨by lia, by lia, fun i hi hi2 => ?_⟩
  by_cases hc : i < b
  · exact h i hi hc
  · have : i = b.toNat := by lia
    rw [this]
    exact mem_dig.mp hm
theorem run_zero {l : List Nat} {a : Int} : RunIn l a a := fun i h1 h2 => by lia
theorem takeWhile_len {l : List Nat} : ∀ {b : Nat}, b ≤ l.length → (∀ i < b, isD (l.getD i 0) = true) → (b = l.length ∨ isD (l.getD b 0) = false) → (l.takeWhile isD).length = b := by
  induction l with
  | nil => intro b hb _ _; simp at hb; simp [hb]
  | cons c r ih =>
    intro b hb h1 h2
    cases b with
    | zero =>
      rcases h2 with h2 | h2
      · simp at h2
      · have : isD c = false := h2
        rw [List.takeWhile_cons, this]; rfl
    | succ b =>
      have hc : isD c = true := h1 0 (by lia)
      rw [List.takeWhile_cons, if_pos hc, List.length_cons]
      congr 1
      refine ih (by simpa using hb) (fun i hi => ?_) ?_
      · have := h1 (i + 1) (by lia)
        simpa using this
      · rcases h2 with h2 | h2
        · left; simpa using h2
        · right; simpa using h2
/-- the index behind the run of digits from a on -/
def runEnd (l : List Nat) (a : Int) : Int := a + ((l.drop a.toNat).takeWhile isD).length
theorem run_end {l : List Nat} {a b : Int} (h0 : 0 ≤ a) (h1 : a ≤ b) (h2 : b ≤ l.length) (h : RunIn l a b) (h4 : b = l.length ∨ isD (l.getD b.toNat 0) = false) : b = runEnd l a := by
  unfold runEnd
  have hg : ∀ i, (l.drop a.toNat).getD i 0 = l.getD (a.toNat + i) 0 := fun i => by
    simp [List.getD_eq_getElem?_getD, List.getElem?_drop]
  rw [takeWhile_len (b := (b - a).toNat)]
  · lia
  · rw [List.length_drop]; lia
  · intro i hi
    rw [hg]
    exact h _ (by lia) (by lia)
  · rcases h4 with h4 | h4
    · left; rw [List.length_drop]; lia
    · right; rw [hg, show a.toNat + (b - a).toNat = b.toNat by lia]; exact h4
theorem run_end1 {l : List Nat} {a b : Int} (h0 : 0 ≤ a) (h1 : a ≤ b) (h2 : b ≤ l.length) (h : RunIn l a b) (h4 : ¬ l.getD b.toNat 0 ∈ [48,49,50,51,52,53,54,55,56,57]) : b = runEnd l a :=
  run_end h0 h1 h2 h (.inr (by rw [mem_dig] at h4; simpa using h4))
theorem run_end2 {l : List Nat} {a b : Int} (h0 : 0 ≤ a) (h1 : a ≤ b) (h2 : b ≤ l.length) (h : RunIn l a b) (h4 : ¬ b < l.length) : b = runEnd l a :=
  run_end h0 h1 h2 h (.inl (by lia))
set_option maxHeartbeats 4000000 in
theorem run_spec {w : World} {mean mg mb} {news} (x y : Str) (a : Int) (tx ty ta : Tok) (l : List Nat) (hx : TX x l) (hy : TX y [48,49,50,51,52,53,54,55,56,57]) (hok : ∀ c ∈ l, okC c = true) (hz : l.length ≤ 1000) (hp0 : 0 ≤ a) (h1 : a ≤ l.length) :
    Spec 2 w mean mg mb 149 [.str x tx, .int a ta, .str y ty] news (fun v add => ∃ r t, v = .int r t ∧ add = [] ∧ r = runEnd l a ∧ a ≤ r ∧ r ≤ l.length) := by
  w_top off
  unfold Spec; k_fill
  intro dp un gd cn cs a0 ccd cl outer A0 base h0 L0 m0 s0 Q0 E0 B F X N T hk hdp hun hret
  k_dflt refine' enter_def [(Str.ofString "digits", Value.str y ty), (Str.ofString "at", Value.int a ta), (Str.ofString "text", Value.str x tx)] ?k1 ?k2 ?k3 ?k4 ?k5 ?k6 ?k7 ?k8 ?k9 ?ka ?kb ?_ ?kc ?kd ?ke ?kf
  walk_at "enter"
  k_with "exec While BoolOp cons nil" => k_while (fun _ b => a ≤ b ∧ b ≤ l.length ∧ RunIn l a b) (fun _ b => (l.length - b).toNat) "at"
  k_with "state" => with_reducible first | exact ⟨Int.le_refl _, h1, run_zero⟩ | exact run_turn (by assumption) hp0 (by assumption) (by assumption) (by assumption)
  k_with "measure" => omega
  k_steps
  all_goals (refine hret _ [] _ _ ⟨_, _, rfl, rfl, ?_, by with_reducible assumption, by with_reducible assumption⟩ (by walk_at "no new") (by with_reducible assumption) (by walk_at "news end"))
  all_goals with_reducible first | exact run_end1 hp0 (by assumption) (by assumption) (by assumption) (by assumption) | exact run_end2 hp0 (by assumption) (by assumption) (by assumption) (by assumption)
/-- digit_run where the end is known -/
theorem run_spec' {w : World} {mean mg mb} {news} (x y : Str) (a : Int) (tx ty ta : Tok) (l : List Nat) (r : Int) (hx : TX x l) (hy : TX y [48,49,50,51,52,53,54,55,56,57]) (hr : runEnd l a = r) (hok : ∀ c ∈ l, okC c = true) (hz : l.length ≤ 1000) (hp0 : 0 ≤ a) (h1 : a ≤ l.length) :
    Spec 2 w mean mg mb 149 [.str x tx, .int a ta, .str y ty] news (fun v add => ∃ t, v = .int r t ∧ add = []) := by
  have S := run_spec (w := w) (mean := mean) (mg := mg) (mb := mb) (news := news) x y a tx ty ta l hx hy hok hz hp0 h1
  intro dp un gd cn cs a0 ccd cl outer A0 base h0 L0 m0 s0 Q0 E0 B F X N T hk hdp hun hret
  refine S dp un gd cn cs a0 ccd cl outer A0 base h0 L0 m0 s0 Q0 E0 B F X N T hk hdp hun (fun v add h' tk' hR => ?_)
  obtain ⟨r', t, hv, ha, hr', _⟩ := hR
  exact hret v add h' tk' ⟨t, by rw [hv, hr', hr], ha⟩


theorem rows_f25_ev_0 : True := by
  k_with "call ref" => (k_here; (with_reducible show wpAny _ _ (call (Value.ref 149) _) _ _ _); (k_dflt refine' Spec.use (run_spec' _ _ _ _ _ _ _ _ ?p0 ?p1 ?p6 ?p2 ?p3 ?p4 ?p5) ?k1 ?k2 ?k3 ?k4 ?k5 ?k6 ?k7 ?k8 ?_); walk_at "use in"; (case p0 => walk_at "tx"); (case p1 => walk_at "tx"); (case p6 => walk_at "as"); (case p2 => walk_at "tx oks"); (case p3 => walk_at "tx size"); (case p4 => omega); (case p5 => walk_at "tx size"); intro _ _ _ _ hR; (obtain ⟨_, e1, e2⟩ := hR); subst e1; subst e2; walk_at "use end")
  k_with "tx oks" => with_reducible assumption
  trivial
theorem runEnd_all {s : Nat} {ds : List Nat} (h : ∀ c ∈ ds, isD c = true) : runEnd (s :: ds) 1 = ((s :: ds).length : Nat) := by
  have e : ds.takeWhile isD = ds := by
    induction ds with
    | nil => rfl
    | cons c r ih => rw [List.takeWhile_cons, if_pos (h c (List.mem_cons_self ..)), ih fun d hd => h d (List.mem_cons_of_mem _ hd)]
  unfold runEnd
  show 1 + ((ds.takeWhile isD).length : Int) = _
  rw [e, List.length_cons]
  lia
theorem ev_cut {s : Nat} {ds : List Nat} (h : ds.length ≤ 3) : List.drop (Int.toNat 1) (List.take (Int.toNat (1 + 9)) (s :: ds)) = ds := by
  show List.take 9 ds = ds
  exact List.take_of_length_le (by lia)
theorem ev_end {M v : Nat} {r : Int} (hvc : M = v) (hv : v < 1000) (h : r = (M : Int) ∨ r = 10 ^ Int.toNat 6) (h2 : r ≤ (M : Int)) : r = (v : Int) := by
  have h6 : (10 : Int) ^ Int.toNat 6 = 1000000 := rfl
  lia
theorem ev_pos {E r : Int} {v : Nat} (hE : E = (v : Int)) (h : r = (v : Int)) : E = r := by lia
theorem ev_neg {E r : Int} {v : Nat} (hE : E = -(v : Int)) (h : r = (v : Int)) : E = 0 - r := by lia
set_option maxHeartbeats 4000000 in
theorem ev_spec {w : World} {mean mg mb} {news} (x : Str) (tx : Tok) (s : Nat) (ds : List Nat) (E : Int) (hx : TX x (s :: ds)) (hne : ds ≠ []) (hds : ∀ c ∈ ds, isD c = true) (hl3 : ds.length ≤ 3) (hE : (s = 43 ∧ E = val ds) ∨ (s = 45 ∧ E = -(val ds : Int))) :
    Spec 4 w mean mg mb 156 [.str x tx] news (fun v add => ∃ a t, v = .ref a ∧ add = [(a, tupO [.bool true, .int E t])]) := by
  have hr := runEnd_all (s := s) hds
  have hl : (s :: ds).length = ds.length + 1 := rfl
  have hl1 : 1 ≤ ds.length := by
    cases ds with
    | nil => exact absurd rfl hne
    | cons _ _ => simp
  have hv : val ds < 1000 := Nat.lt_of_lt_of_le (val_lt ds hds) (Nat.pow_le_pow_right (n := 10) (by decide) hl3)
  have hdc : ∀ c ∈ List.drop (Int.toNat 1) (List.take (Int.toNat (1 + 9)) (s :: ds)), isD c = true := by rw [ev_cut hl3]; exact hds
  have hvc : val (List.drop (Int.toNat 1) (List.take (Int.toNat (1 + 9)) (s :: ds))) = val ds := by rw [ev_cut hl3]
  rcases hE with ⟨hs, hE⟩ | ⟨hs, hE⟩
  · subst hs
    have hok : ∀ c ∈ 43 :: ds, okC c = true := fun c hc => by
      rcases List.mem_cons.mp hc with h | h
      · subst h; rfl
      · exact isD_ok (hds c h)
    w_top off
    unfold Spec; k_fill
    intro dp un gd cn cs a0 ccd cl outer A0 base h0 L0 m0 s0 Q0 E0 B F X N T hk hdp hun hret
    k_dflt refine' enter_def [(Str.ofString "text", Value.str x tx)] ?k1 ?k2 ?k3 ?k4 ?k5 ?k6 ?k7 ?k8 ?k9 ?ka ?kb ?_ ?kc ?kd ?ke ?kf
    walk_at "enter"
    k_steps
    with_reducible have q := ev_pos hE (ev_end hvc hv (by assumption) (by assumption))
    subst q
    exact hret _ [_] _ _ ⟨_, _, rfl, rfl⟩ (by walk_at "fresh") (by with_reducible assumption) (by walk_at "news end")
  · subst hs
    have hok : ∀ c ∈ 45 :: ds, okC c = true := fun c hc => by
      rcases List.mem_cons.mp hc with h | h
      · subst h; rfl
      · exact isD_ok (hds c h)
    w_top off
    unfold Spec; k_fill
    intro dp un gd cn cs a0 ccd cl outer A0 base h0 L0 m0 s0 Q0 E0 B F X N T hk hdp hun hret
    k_dflt refine' enter_def [(Str.ofString "text", Value.str x tx)] ?k1 ?k2 ?k3 ?k4 ?k5 ?k6 ?k7 ?k8 ?k9 ?ka ?kb ?_ ?kc ?kd ?ke ?kf
    walk_at "enter"
    k_steps
    with_reducible have q := ev_neg hE (ev_end hvc hv (by assumption) (by assumption))
    subst q
    exact hret _ [_] _ _ ⟨_, _, rfl, rfl⟩ (by walk_at "fresh") (by with_reducible assumption) (by walk_at "news end")


set_option maxHeartbeats 4000000 in
theorem pw0_spec {w : World} {mean mg mb} {news} (n e : Int) (tn tb te : Tok) (hn : n = 0) :
    Spec 6 w mean mg mb 163 [.int n tn, .int 10 tb, .int e te] news (fun v add => v = .ref 17 ∧ add = []) := by
  w_top off
  unfold Spec; k_fill
  intro dp un gd cn cs a0 ccd cl outer A0 base h0 L0 m0 s0 Q0 E0 B F X N T hk hdp hun hret
  k_dflt refine' enter_def [(Str.ofString "e", Value.int e te), (Str.ofString "base", Value.int 10 tb), (Str.ofString "n", Value.int n tn)] ?k1 ?k2 ?k3 ?k4 ?k5 ?k6 ?k7 ?k8 ?k9 ?ka ?kb ?_ ?kc ?kd ?ke ?kf
  walk_at "enter"
  k_steps
  exact hret _ [] _ _ ⟨rfl, rfl⟩ (by walk_at "no new") (by with_reducible assumption) (by walk_at "news end")
/-- p / q is n * 10 ^ e -/
def Dec (n e p q : Int) : Prop := p * 10 ^ (-e).toNat = n * 10 ^ e.toNat * q
theorem pw_end1 {n e p q : Int} (he : 0 ≤ e) (h : p * 1 = n * 10 ^ e.toNat * q) (hn : n ≠ 0) (hq : 0 < q) : Dec n e p q ∧ p ≠ 0 := by
  have e1 : (-e).toNat = 0 := by lia
  refine ⟨by unfold Dec; rw [e1]; simpa using h, fun hp => ?_⟩
  rw [hp] at h
  have h1 := pow_pos10 e.toNat
  have : n * 10 ^ e.toNat * q ≠ 0 := Int.mul_ne_zero (Int.mul_ne_zero hn (by lia)) (by lia)
  lia
theorem pw_end2 {n e p q : Int} (he : ¬ 0 ≤ e) (h : p * 10 ^ (0 - e).toNat = n * q) (hn : n ≠ 0) (hq : 0 < q) : Dec n e p q ∧ p ≠ 0 := by
  have e1 : e.toNat = 0 := by lia
  refine ⟨by unfold Dec; rw [e1, show -e = 0 - e by lia]; simpa using h, fun hp => ?_⟩
  rw [hp] at h
  have : n * q ≠ 0 := Int.mul_ne_zero hn (by lia)
  lia
theorem pow10_10 {k : Nat} (h : k ≤ 10) : (10 : Int) ^ k ≤ 10000000000 := pow_mono10 h
set_option maxHeartbeats 4000000 in
theorem pw1_spec {w : World} {mean mg mb} {news} (n e : Int) (tn tb te : Tok) (hn : n ≠ 0) (he1 : -10 ≤ e) (he2 : e ≤ 10) :
    Spec 6 w mean mg mb 163 [.int n tn, .int 10 tb, .int e te] news (fun v add => ∃ a p q t u, v = .ref a ∧ add = [(a, tupO [.int p t, .int q u])] ∧ Dec n e p q ∧ p ≠ 0 ∧ 0 < q ∧ q ≤ 10 ^ 10) := by
  have g1 : (10 : Int) ^ e.toNat ≤ 10000000000 := pow10_10 (by lia)
  have g2 := pow_pos10 e.toNat
  have g3 : (10 : Int) ^ (0 - e).toNat ≤ 10000000000 := pow10_10 (by lia)
  have g4 := pow_pos10 (0 - e).toNat
  w_top off
  unfold Spec; k_fill
  intro dp un gd cn cs a0 ccd cl outer A0 base h0 L0 m0 s0 Q0 E0 B F X N T hk hdp hun hret
  k_dflt refine' enter_def [(Str.ofString "e", Value.int e te), (Str.ofString "base", Value.int 10 tb), (Str.ofString "n", Value.int n tn)] ?k1 ?k2 ?k3 ?k4 ?k5 ?k6 ?k7 ?k8 ?k9 ?ka ?kb ?_ ?kc ?kd ?ke ?kf
  walk_at "enter"
  k_steps
  all_goals (refine hret _ [_] _ _ ?_ ?_ (by with_reducible assumption) (by walk_at "news end"); rotate_left; (walk_at "fresh"); refine ⟨_, _, _, _, _, rfl, rfl, ?_⟩)
  · with_reducible have q := pw_end1 (by assumption) (by assumption) hn (by assumption)
    exact ⟨q.1, q.2, by with_reducible assumption, by lia⟩
  · with_reducible have q := pw_end2 (by assumption) (by assumption) hn (by assumption)
    exact ⟨q.1, q.2, by with_reducible assumption, by lia⟩
theorem rows_f26_pow_0 : True := by
  k_with "call ref" => (k_here; (with_reducible show wpAny _ _ (call (Value.ref 163) _) _ _ _); (k_dflt refine' Spec.use (pw0_spec _ _ _ _ _ ?p0) ?k1 ?k2 ?k3 ?k4 ?k5 ?k6 ?k7 ?k8 ?_); walk_at "use in"; (case p0 => walk_at "as"); intro _ _ _ _ hR; (obtain ⟨e1, e2⟩ := hR); subst e1; subst e2; walk_at "use end")
  k_with "call ref" => (k_here; (with_reducible show wpAny _ _ (call (Value.ref 163) _) _ _ _); (k_dflt refine' Spec.use (pw1_spec _ _ _ _ _ ?p0 ?p1 ?p2) ?k1 ?k2 ?k3 ?k4 ?k5 ?k6 ?k7 ?k8 ?_); walk_at "use in"; (case p0 => walk_at "as"); (case p1 => omega); (case p2 => omega); intro _ _ _ _ hR; (obtain ⟨_, _, _, _, _, e1, e2, _, _, _, _⟩ := hR); subst e1; subst e2; walk_at "use new")
  trivial
set_option maxHeartbeats 4000000 in
theorem neg0_spec {w : World} {mean mg mb} {news} :
    Spec 2 w mean mg mb 38 [.ref 17] news (fun v add => ∃ a t u, v = .ref a ∧ add = [(a, tupO [.int (0 - 0) t, .int 1 u])]) := by
  w_top off
  unfold Spec; k_fill
  intro dp un gd cn cs a0 ccd cl outer A0 base h0 L0 m0 s0 Q0 E0 B F X N T hk hdp hun hret
  k_dflt refine' enter_def [(Str.ofString "x", Value.ref 17)] ?k1 ?k2 ?k3 ?k4 ?k5 ?k6 ?k7 ?k8 ?k9 ?ka ?kb ?_ ?kc ?kd ?ke ?kf
  walk_at "enter"
  k_steps
  exact hret _ [_] _ _ ⟨_, _, _, rfl, rfl⟩ (by walk_at "fresh") (by with_reducible assumption) (by walk_at "news end")

theorem rows_f26_pow_1 : True := by
  k_with "call ref" => (k_here; (with_reducible show wpAny _ _ (call (Value.ref 38) _) _ _ _); (k_dflt refine' Spec.use (neg0_spec) ?k1 ?k2 ?k3 ?k4 ?k5 ?k6 ?k7 ?k8 ?_); walk_at "use in"; intro _ _ _ _ hR; (obtain ⟨_, _, _, e1, e2⟩ := hR); subst e1; subst e2; walk_at "use new")
  trivial

theorem tx_is {z : Str} {l m : List Nat} (h : TX z l) (e : l = m) : TX z m := e ▸ h
theorem rows_f27_uns_0 : True := by
  k_with "call ref" => (k_here; (with_reducible show wpAny _ _ (call (Value.ref 156) _) _ _ _); (k_dflt refine' Spec.use (ev_spec _ _ _ _ _ ?p0 ?p1 ?p2 ?p3 ?p4) ?k1 ?k2 ?k3 ?k4 ?k5 ?k6 ?k7 ?k8 ?_); walk_at "use in"; (case p0 => with_reducible exact tx_is (by assumption) (by assumption)); (case p1 => walk_at "as"); (case p2 => walk_at "as"); (case p3 => walk_at "as"); (case p4 => walk_at "as"); intro _ _ _ _ hR; (obtain ⟨_, _, e1, e2⟩ := hR); subst e1; subst e2; walk_at "use new")
  trivial
theorem tx_ne {prog : Program} {w : World} {A : Around} {E : Value → Shared → Prop} {s : Shared} {x y : Str} {t u : Tok} {Q : Value → Shared → Prop} {a b : List Nat} (ha : TX x a) (hb : TX y b) (h : Q (.bool (a != b)) s) : wpAny (model prog w) A (compareOp .NotEq (.str x t) (.str y u)) Q E s := by
  refine PySem.P.ne_str ?_
  unfold TX at ha hb
  rw [ha, hb]; exact h
theorem rows_f27_uns_1 : True := by
  k_with "compareOp NotEq str str" => (k_here; (with_reducible refine' tx_ne ?ha ?hb ?_); (case ha => walk_at "tx"); (case hb => walk_at "tx"))
  trivial
theorem mk_pos {q : Int} {k : Nat} (h : 0 < q) : 0 < q * 10 ^ k := Int.mul_pos h (pow_pos10 k)
theorem mk_small {q : Int} {k : Nat} (h0 : 0 < q) (h : q ≤ 10 ^ 10) (hk : k ≤ 30) : q * 10 ^ k < 2 ^ 150 := by
  have h1 := Int.mul_le_mul h (pow_mono10 hk) (Int.le_of_lt (pow_pos10 k)) (by decide)
  lia
theorem rows_f27_uns_2 : True := by
  k_with "call ref" => (k_here; (with_reducible show wpAny _ _ (call (Value.ref 31) _) _ _ _); (k_dflt refine' Spec.use (make_spec _ _ _ _ ?p1 ?p2) ?k1 ?k2 ?k3 ?k4 ?k5 ?k6 ?k7 ?k8 ?_); walk_at "use in"; (case p1 => with_reducible exact mk_pos (by assumption)); (case p2 => (with_reducible refine mk_small (by assumption) (by assumption) ?_; omega)); intro _ _ _ _ hR; (obtain ⟨_, _, _, _, _, e1, e2, _, _, _, _⟩ := hR); subst e1; subst e2; walk_at "use new")
  trivial
/-- p / q is V * 10 ^ (E - kb) -/
def DecQ (V kb : Nat) (E p q : Int) : Prop := p * 10 ^ kb * 10 ^ (-E).toNat = V * 10 ^ E.toNat * q
/-- what unsigned_number answers -/
def UnsR (V kb : Nat) (E : Int) (v : Value) (add : List (Addr × Obj)) : Prop :=
  (V = 0 ∧ ∃ a, v = .ref a ∧ add = [(a, tupO [.bool true, .ref 17])]) ∨
  (V ≠ 0 ∧ ∃ a r p q t u, v = .ref a ∧ add = [(a, tupO [.bool true, .ref r]), (r, tupO [.int p t, .int q u])] ∧ 0 < q ∧ q < 2 ^ 150 ∧ DecQ V kb E p q)
theorem uns_zero {V kb : Nat} {E : Int} {a : Addr} {X : List Nat} (h : (val X : Int) = 0) (hV : val X = V) : UnsR V kb E (.ref a) [(a, tupO [.bool true, .ref 17])] := .inl ⟨by lia, a, rfl, rfl⟩
theorem uns_tup {V kb : Nat} {E p q p0 q0 : Int} {a r : Addr} {t u : Tok} {X B : List Nat} (h : (val X : Int) ≠ 0) (hV : val X = V) (hk : B.length = kb) (hD : Dec (val X : Nat) E p0 q0) (hq0 : 0 < q0) (hq9 : q0 ≤ 10 ^ 10) (hq : 0 < q) (hle : q ≤ q0 * 10 ^ (B.length : Int).toNat) (hk30 : kb ≤ 30) (hm : p * (q0 * 10 ^ (B.length : Int).toNat) = p0 * q) :
    UnsR V kb E (.ref a) [(a, tupO [.bool true, .ref r]), (r, tupO [.int p t, .int q u])] := by
  refine .inr ⟨by lia, a, r, p, q, t, u, rfl, rfl, hq, Int.lt_of_le_of_lt hle (mk_small hq0 hq9 (by lia)), ?_⟩
  unfold Dec at hD
  unfold DecQ
  rw [Int.toNat_natCast, hk] at hm
  rw [hV] at hD
  refine Int.eq_of_mul_eq_mul_left (show q0 ≠ 0 by lia) ?_
  calc q0 * (p * 10 ^ kb * 10 ^ (-E).toNat) = p * (q0 * 10 ^ kb) * 10 ^ (-E).toNat := by ac_rfl
    _ = p0 * q * 10 ^ (-E).toNat := by rw [hm]
    _ = p0 * 10 ^ (-E).toNat * q := by ac_rfl
    _ = V * 10 ^ E.toNat * q0 * q := by rw [hD]
    _ = q0 * (V * 10 ^ E.toNat * q) := by ac_rfl

theorem rows_f27_uns_3 : True := by
  k_with "all lt" => with_reducible first | assumption | exact And.right (by assumption : _ ∧ AllLt _ _) | exact And.right (And.right (by assumption : _ ∧ _ ∧ AllLt _ _)) | exact And.right (And.right (And.right (by assumption : _ ∧ _ ∧ _ ∧ AllLt _ _))) | (refine lt_sub (by assumption) ?_; walk_at "sub") | (refine lt_sub (AllLt.mem (And.right (by assumption : _ ∧ AllLt _ _))) ?_; walk_at "sub")
  k_with "fresh2" => (refine fresh2 ?_ ?_ <;> walk_at "all lt")
  trivial

set_option maxHeartbeats 4000000 in
theorem uns1 {w : World} {mean mg mb} {news} (x : Str) (tx : Tok) (l : List Nat) (la : Int) (V kb : Nat) (hx : TX x l) (hok : ∀ c ∈ l, okC c = true) (hz : l.length ≤ 200) (h0x : ¬ (List.take (Int.toNat 2) l = [48, 120])) (h0X : ¬ (List.take (Int.toNat 2) l = [48, 88])) (hr : runEnd l 0 = la) (hla : 0 ≤ la) (hle : la ≤ l.length) (hne : ¬ (List.take la.toNat l = [])) (hdot : ¬ (List.drop la.toNat (List.take (la + 1).toNat l) = [46])) (hlen : la = l.length) (hD : ∀ c ∈ List.take la.toNat l ++ ([] : List Nat), isD c = true) (hV : val (List.take la.toNat l ++ ([] : List Nat)) = V) (hkb : (([] : List Nat)).length = kb) (hk30 : kb ≤ 30) :
    Spec 8 w mean mg mb 170 [.str x tx] news (UnsR V kb 0) := by
  have hnil : ([] : List Nat).length = 0 := rfl
  have hV0 : ((val (List.take la.toNat l ++ ([] : List Nat)) : Nat) : Int) = 0 ∨ ((val (List.take la.toNat l ++ ([] : List Nat)) : Nat) : Int) ≠ 0 := Classical.em _
  w_top off
  unfold Spec; k_fill
  intro dp un gd cn cs a0 ccd cl outer A0 base h0 L0 m0 s0 Q0 E0 B F X N T hk hdp hun hret
  k_dflt refine' enter_def [(Str.ofString "text", Value.str x tx)] ?k1 ?k2 ?k3 ?k4 ?k5 ?k6 ?k7 ?k8 ?k9 ?ka ?kb ?_ ?kc ?kd ?ke ?kf
  walk_at "enter"
  k_steps
  rcases hV0 with hV0 | hV0
  · k_steps
    all_goals (refine hret _ [_] _ _ (uns_zero hV0 hV) ?_ (by with_reducible assumption) (by walk_at "news end"); walk_at "fresh")
  · k_steps
    refine' hret _ [_, _] _ _ ?ur ?fr ?ff ?nw
    case ff => with_reducible assumption
    case nw => walk_at "news end"
    case fr => walk_at "fresh2"
    case ur => with_reducible exact uns_tup hV0 hV hkb (by assumption) (by assumption) (by assumption) (by assumption) (by assumption) hk30 (by assumption)


set_option maxHeartbeats 4000000 in
theorem uns2 {w : World} {mean mg mb} {news} (x : Str) (tx : Tok) (l : List Nat) (la : Int) (V kb : Nat) (E : Int) (s : Nat) (ds : List Nat) (hx : TX x l) (hok : ∀ c ∈ l, okC c = true) (hz : l.length ≤ 200) (h0x : ¬ (List.take (Int.toNat 2) l = [48, 120])) (h0X : ¬ (List.take (Int.toNat 2) l = [48, 88])) (hr : runEnd l 0 = la) (hla : 0 ≤ la) (hle : la ≤ l.length) (hne : ¬ (List.take la.toNat l = [])) (hdot : ¬ (List.drop la.toNat (List.take (la + 1).toNat l) = [46])) (hlen : la < l.length) (hm : ¬ ([l.getD la.toNat 0] ≠ [101])) (hs : List.drop (la + 1).toNat l = s :: ds) (hne2 : ds ≠ []) (hds : ∀ c ∈ ds, isD c = true) (hl3 : ds.length ≤ 3) (hE : (s = 43 ∧ E = val ds) ∨ (s = 45 ∧ E = -(val ds : Int))) (hE1 : -10 ≤ E) (hE2 : E ≤ 10) (hD : ∀ c ∈ List.take la.toNat l ++ ([] : List Nat), isD c = true) (hV : val (List.take la.toNat l ++ ([] : List Nat)) = V) (hkb : (([] : List Nat)).length = kb) (hk30 : kb ≤ 30) :
    Spec 8 w mean mg mb 170 [.str x tx] news (UnsR V kb E) := by
  have hnil : ([] : List Nat).length = 0 := rfl
  have hV0 : ((val (List.take la.toNat l ++ ([] : List Nat)) : Nat) : Int) = 0 ∨ ((val (List.take la.toNat l ++ ([] : List Nat)) : Nat) : Int) ≠ 0 := Classical.em _
  w_top off
  unfold Spec; k_fill
  intro dp un gd cn cs a0 ccd cl outer A0 base h0 L0 m0 s0 Q0 E0 B F X N T hk hdp hun hret
  k_dflt refine' enter_def [(Str.ofString "text", Value.str x tx)] ?k1 ?k2 ?k3 ?k4 ?k5 ?k6 ?k7 ?k8 ?k9 ?ka ?kb ?_ ?kc ?kd ?ke ?kf
  walk_at "enter"
  k_steps
  rcases hV0 with hV0 | hV0
  · k_steps
    all_goals (refine hret _ [_] _ _ (uns_zero hV0 hV) ?_ (by with_reducible assumption) (by walk_at "news end"); walk_at "fresh")
  · k_steps
    refine' hret _ [_, _] _ _ ?ur ?fr ?ff ?nw
    case ff => with_reducible assumption
    case nw => walk_at "news end"
    case fr => walk_at "fresh2"
    case ur => with_reducible exact uns_tup hV0 hV hkb (by assumption) (by assumption) (by assumption) (by assumption) (by assumption) hk30 (by assumption)


set_option maxHeartbeats 4000000 in
theorem uns3 {w : World} {mean mg mb} {news} (x : Str) (tx : Tok) (l : List Nat) (la r2 : Int) (V kb : Nat) (hx : TX x l) (hok : ∀ c ∈ l, okC c = true) (hz : l.length ≤ 200) (h0x : ¬ (List.take (Int.toNat 2) l = [48, 120])) (h0X : ¬ (List.take (Int.toNat 2) l = [48, 88])) (hr : runEnd l 0 = la) (hla : 0 ≤ la) (hle : la ≤ l.length) (hne : ¬ (List.take la.toNat l = [])) (hdot : List.drop la.toNat (List.take (la + 1).toNat l) = [46]) (hlt : la + 1 ≤ l.length) (hr2 : runEnd l (la + 1) = r2) (hle1 : la + 1 ≤ r2) (hle2 : r2 ≤ l.length) (hlen : r2 = l.length) (hD : ∀ c ∈ List.take la.toNat l ++ List.drop (la + 1).toNat (List.take r2.toNat l), isD c = true) (hV : val (List.take la.toNat l ++ List.drop (la + 1).toNat (List.take r2.toNat l)) = V) (hkb : (List.drop (la + 1).toNat (List.take r2.toNat l)).length = kb) (hk30 : kb ≤ 30) :
    Spec 8 w mean mg mb 170 [.str x tx] news (UnsR V kb 0) := by
  have hnil : ([] : List Nat).length = 0 := rfl
  have hV0 : ((val (List.take la.toNat l ++ List.drop (la + 1).toNat (List.take r2.toNat l)) : Nat) : Int) = 0 ∨ ((val (List.take la.toNat l ++ List.drop (la + 1).toNat (List.take r2.toNat l)) : Nat) : Int) ≠ 0 := Classical.em _
  w_top off
  unfold Spec; k_fill
  intro dp un gd cn cs a0 ccd cl outer A0 base h0 L0 m0 s0 Q0 E0 B F X N T hk hdp hun hret
  k_dflt refine' enter_def [(Str.ofString "text", Value.str x tx)] ?k1 ?k2 ?k3 ?k4 ?k5 ?k6 ?k7 ?k8 ?k9 ?ka ?kb ?_ ?kc ?kd ?ke ?kf
  walk_at "enter"
  k_steps
  rcases hV0 with hV0 | hV0
  · k_steps
    all_goals (refine hret _ [_] _ _ (uns_zero hV0 hV) ?_ (by with_reducible assumption) (by walk_at "news end"); walk_at "fresh")
  · k_steps
    refine' hret _ [_, _] _ _ ?ur ?fr ?ff ?nw
    case ff => with_reducible assumption
    case nw => walk_at "news end"
    case fr => walk_at "fresh2"
    case ur => with_reducible exact uns_tup hV0 hV hkb (by assumption) (by assumption) (by assumption) (by assumption) (by assumption) hk30 (by assumption)


set_option maxHeartbeats 4000000 in
theorem uns4 {w : World} {mean mg mb} {news} (x : Str) (tx : Tok) (l : List Nat) (la r2 : Int) (V kb : Nat) (E : Int) (s : Nat) (ds : List Nat) (hx : TX x l) (hok : ∀ c ∈ l, okC c = true) (hz : l.length ≤ 200) (h0x : ¬ (List.take (Int.toNat 2) l = [48, 120])) (h0X : ¬ (List.take (Int.toNat 2) l = [48, 88])) (hr : runEnd l 0 = la) (hla : 0 ≤ la) (hle : la ≤ l.length) (hne : ¬ (List.take la.toNat l = [])) (hdot : List.drop la.toNat (List.take (la + 1).toNat l) = [46]) (hlt : la + 1 ≤ l.length) (hr2 : runEnd l (la + 1) = r2) (hle1 : la + 1 ≤ r2) (hle2 : r2 ≤ l.length) (hlen : r2 < l.length) (hm : ¬ ([l.getD r2.toNat 0] ≠ [101])) (hs : List.drop (r2 + 1).toNat l = s :: ds) (hne2 : ds ≠ []) (hds : ∀ c ∈ ds, isD c = true) (hl3 : ds.length ≤ 3) (hE : (s = 43 ∧ E = val ds) ∨ (s = 45 ∧ E = -(val ds : Int))) (hE1 : -10 ≤ E) (hE2 : E ≤ 10) (hD : ∀ c ∈ List.take la.toNat l ++ List.drop (la + 1).toNat (List.take r2.toNat l), isD c = true) (hV : val (List.take la.toNat l ++ List.drop (la + 1).toNat (List.take r2.toNat l)) = V) (hkb : (List.drop (la + 1).toNat (List.take r2.toNat l)).length = kb) (hk30 : kb ≤ 30) :
    Spec 8 w mean mg mb 170 [.str x tx] news (UnsR V kb E) := by
  have hnil : ([] : List Nat).length = 0 := rfl
  have hV0 : ((val (List.take la.toNat l ++ List.drop (la + 1).toNat (List.take r2.toNat l)) : Nat) : Int) = 0 ∨ ((val (List.take la.toNat l ++ List.drop (la + 1).toNat (List.take r2.toNat l)) : Nat) : Int) ≠ 0 := Classical.em _
  w_top off
  unfold Spec; k_fill
  intro dp un gd cn cs a0 ccd cl outer A0 base h0 L0 m0 s0 Q0 E0 B F X N T hk hdp hun hret
  k_dflt refine' enter_def [(Str.ofString "text", Value.str x tx)] ?k1 ?k2 ?k3 ?k4 ?k5 ?k6 ?k7 ?k8 ?k9 ?ka ?kb ?_ ?kc ?kd ?ke ?kf
  walk_at "enter"
  k_steps
  rcases hV0 with hV0 | hV0
  · k_steps
    all_goals (refine hret _ [_] _ _ (uns_zero hV0 hV) ?_ (by with_reducible assumption) (by walk_at "news end"); walk_at "fresh")
  · k_steps
    refine' hret _ [_, _] _ _ ?ur ?fr ?ff ?nw
    case ff => with_reducible assumption
    case nw => walk_at "news end"
    case fr => walk_at "fresh2"
    case ur => with_reducible exact uns_tup hV0 hV hkb (by assumption) (by assumption) (by assumption) (by assumption) (by assumption) hk30 (by assumption)


/-- a number's text without a sign; it tells V * 10 ^ (E - kb) -/
def Num (l : List Nat) (V kb : Nat) (E : Int) : Prop :=
  ∃ a b ex, l = a ++ ((match b with | some b => 46 :: b | none => []) ++ (match ex with | some (s, ds) => 101 :: s :: ds | none => [])) ∧ a ≠ [] ∧ (∀ c ∈ a, isD c = true) ∧ (∀ c ∈ b.getD [], isD c = true) ∧ V = val (a ++ b.getD []) ∧ kb = (b.getD []).length ∧ a.length + kb ≤ 100 ∧
    (match (ex : Option (Nat × List Nat)) with | some (s, ds) => ds ≠ [] ∧ (∀ c ∈ ds, isD c = true) ∧ ds.length ≤ 3 ∧ ((s = 43 ∧ E = val ds) ∨ (s = 45 ∧ E = -(val ds : Int))) | none => E = 0)
theorem Tells.num {l : List Nat} {neg : Bool} {V kb : Nat} {E : Int} (h : Tells l neg V kb E) : ∃ l', l = (if neg then [45] else []) ++ l' ∧ Num l' V kb E := by
  obtain ⟨a, b, ex, hl, r⟩ := h
  exact ⟨_, hl, a, b, ex, rfl, r⟩
theorem take_at {l p r : List Nat} {i : Int} (hl : l = p ++ r) (hi : i = p.length) : List.take i.toNat l = p := by
  rw [hl, hi, Int.toNat_natCast, List.take_left']
  rfl
theorem drop_at {l p r : List Nat} {i : Int} (hl : l = p ++ r) (hi : i = p.length) : List.drop i.toNat l = r := by
  rw [hl, hi, Int.toNat_natCast, List.drop_left']
  rfl
theorem get_at {l p r : List Nat} {c : Nat} {i : Int} (hl : l = p ++ c :: r) (hi : i = p.length) : l.getD i.toNat 0 = c := by
  rw [hl, hi, Int.toNat_natCast, List.getD_eq_getElem?_getD, List.getElem?_append_right (Nat.le_refl _)]
  simp
theorem mid_at {l p d r : List Nat} {i j : Int} (hl : l = p ++ (d ++ r)) (hi : i = p.length) (hj : j = i + d.length) : List.drop i.toNat (List.take j.toNat l) = d := by
  have h1 : List.take j.toNat l = p ++ d := take_at (r := r) (by rw [hl, List.append_assoc]) (by rw [hj, hi, List.length_append]; lia)
  rw [h1]
  exact drop_at rfl hi
theorem one_at {l p r : List Nat} {c : Nat} {i : Int} (hl : l = p ++ c :: r) (hi : i = p.length) : List.drop i.toNat (List.take (i + 1).toNat l) = [c] :=
  mid_at (d := [c]) (r := r) hl hi rfl
theorem one_end {l : List Nat} {i : Int} (hi : i = l.length) : List.drop i.toNat (List.take (i + 1).toNat l) = [] := by
  have : List.take (i + 1).toNat l = l := List.take_of_length_le (by lia)
  rw [this, hi, Int.toNat_natCast, List.drop_length]
theorem run_at {l p d r : List Nat} {i j : Int} (hl : l = p ++ (d ++ r)) (hi : i = p.length) (hd : ∀ c ∈ d, isD c = true) (hr : r.takeWhile isD = []) (hj : j = i + d.length) : runEnd l i = j := by
  unfold runEnd
  rw [drop_at hl hi, List.takeWhile_append_of_pos hd, hr, List.append_nil, hj]
theorem ok_no {l : List Nat} (hok : ∀ c ∈ l, okC c = true) {n c : Nat} {y : List Nat} (hc : c ∈ y) (hno : okC c = false) : ¬ (List.take n l = y) := fun h => by
  have := hok c (List.mem_of_mem_take (h ▸ hc))
  rw [hno] at this
  cases this
theorem ok_no' {l : List Nat} (hok : ∀ c ∈ l, okC c = true) {c : Nat} {y : List Nat} (hc : c ∈ y) (hno : okC c = false) : ¬ (l = y) := fun h => by
  have := hok c (h ▸ hc)
  rw [hno] at this
  cases this
theorem Num.ok {l : List Nat} {V kb : Nat} {E : Int} (h : Num l V kb E) : (∀ c ∈ l, okC c = true) ∧ l.length ≤ 150 ∧ 1 ≤ l.length ∧ isD (l.getD 0 0) = true := by
  obtain ⟨a, b, ex, hl, ha, haD, hbD, hV, hkb, hlen, hex⟩ := h
  have hb1 : ∀ c ∈ (match b with | some b => 46 :: b | none => []), okC c = true := by
    cases b with
    | none => intro c hc; cases hc
    | some b =>
      intro c hc
      rcases List.mem_cons.mp hc with h | h
      · rw [h]; rfl
      · exact isD_ok (hbD c h)
  have hb2 : (match b with | some b => 46 :: b | none => ([] : List Nat)).length ≤ 1 + kb := by
    cases b with
    | none => simp
    | some b => rw [hkb]; show (46 :: b).length ≤ 1 + b.length; rw [List.length_cons]; lia
  have he1 : ∀ c ∈ (match ex with | some (s, ds) => 101 :: s :: ds | none => []), okC c = true := by
    cases ex with
    | none => intro c hc; cases hc
    | some q =>
      obtain ⟨s, ds⟩ := q
      obtain ⟨_, h2, _, h4⟩ := hex
      intro c hc
      rcases List.mem_cons.mp hc with h | h
      · rw [h]; rfl
      · rcases List.mem_cons.mp h with h | h
        · rw [h]; rcases h4 with ⟨h4, _⟩ | ⟨h4, _⟩ <;> rw [h4] <;> rfl
        · exact isD_ok (h2 c h)
  have he2 : (match ex with | some (s, ds) => 101 :: s :: ds | none => ([] : List Nat)).length ≤ 5 := by
    cases ex with
    | none => simp
    | some q =>
      obtain ⟨s, ds⟩ := q
      have : ds.length ≤ 3 := hex.2.2.1
      show (101 :: s :: ds).length ≤ 5
      rw [List.length_cons, List.length_cons]; lia
  have ha1 : 1 ≤ a.length := by
    cases a with
    | nil => exact absurd rfl ha
    | cons _ _ => simp
  refine ⟨fun c hc => ?_, ?_, ?_, ?_⟩
  · rw [hl] at hc
    rcases List.mem_append.mp hc with h | h
    · exact isD_ok (haD c h)
    · rcases List.mem_append.mp h with h | h
      · exact hb1 c h
      · exact he1 c h
  · rw [hl, List.length_append, List.length_append]; lia
  · rw [hl, List.length_append]; lia
  · rw [hl]
    cases a with
    | nil => exact absurd rfl ha
    | cons c r => exact haD c (List.mem_cons_self ..)
theorem uns_spec {w : World} {mean mg mb} {news} (x : Str) (tx : Tok) (l : List Nat) (V kb : Nat) (E : Int) (hx : TX x l) (hN : Num l V kb E) (hE1 : -10 ≤ E) (hE2 : E ≤ 10) (hk30 : kb ≤ 30) :
    Spec 8 w mean mg mb 170 [.str x tx] news (UnsR V kb E) := by
  obtain ⟨hok, hz, h1, _⟩ := hN.ok
  have h0x : ¬ (List.take (Int.toNat 2) l = [48, 120]) := ok_no hok (c := 120) (by simp) rfl
  have h0X : ¬ (List.take (Int.toNat 2) l = [48, 88]) := ok_no hok (c := 88) (by simp) rfl
  obtain ⟨a, b, ex, hl, ha, haD, hbD, hV, hkb, hlen, hex⟩ := hN
  have hle : (a.length : Int) ≤ l.length := by rw [hl, List.length_append]; lia
  have hta : List.take (a.length : Int).toNat l = a := take_at hl rfl
  have hne : ¬ (List.take (a.length : Int).toNat l = []) := by rw [hta]; exact ha
  cases b with
  | none =>
    have hb0 : kb = 0 := hkb
    have hD : ∀ c ∈ List.take (a.length : Int).toNat l ++ ([] : List Nat), isD c = true := by rw [hta, List.append_nil]; exact haD
    have hv : val (List.take (a.length : Int).toNat l ++ ([] : List Nat)) = V := by rw [hta]; exact hV.symm
    cases ex with
    | none =>
      have hE : E = 0 := hex
      subst hE
      have hl' : l = a := by simpa using hl
      exact uns1 x tx l a.length V kb hx hok (by lia) h0x h0X (run_at (p := []) (d := a) (r := []) (by rw [hl']; simp) rfl haD rfl (by simp)) (by lia) hle hne
        (by rw [one_end (by rw [hl'])]; exact fun h => nomatch h) (by rw [hl']) hD hv hkb.symm hk30
    | some q =>
      obtain ⟨s, ds⟩ := q
      have hl' : l = a ++ 101 :: s :: ds := hl
      have hda : List.drop (a.length : Int).toNat (List.take ((a.length : Int) + 1).toNat l) = [101] := one_at hl' rfl
      have hga : l.getD (a.length : Int).toNat 0 = 101 := get_at hl' rfl
      exact uns2 x tx l a.length V kb E s ds hx hok (by lia) h0x h0X (run_at (p := []) (d := a) (r := 101 :: s :: ds) hl' rfl haD rfl (by simp)) (by lia) hle hne
        (by rw [hda]; decide) (by rw [hl', List.length_append, List.length_cons]; lia) (by rw [hga]; simp)
        (drop_at (p := a ++ [101]) (by rw [hl']; simp) (by simp)) hex.1 hex.2.1 hex.2.2.1 hex.2.2.2 hE1 hE2 hD hv hkb.symm hk30
  | some b =>
    have hkb' : kb = b.length := hkb
    have hbD' : ∀ c ∈ b, isD c = true := hbD
    cases ex with
    | none =>
      have hE : E = 0 := hex
      subst hE
      have hl' : l = a ++ 46 :: b := by simpa using hl
      have hl2 : l = (a ++ [46]) ++ (b ++ []) := by rw [hl']; simp
      have hll : l.length = a.length + 1 + b.length := by rw [hl', List.length_append, List.length_cons]; lia
      have hi : (a.length : Int) + 1 = (a ++ [46]).length := by simp
      have hm : List.drop ((a.length : Int) + 1).toNat (List.take ((a.length : Int) + 1 + b.length).toNat l) = b := mid_at hl2 hi rfl
      exact uns3 x tx l a.length (a.length + 1 + b.length) V kb hx hok (by lia) h0x h0X (run_at (p := []) (d := a) (r := 46 :: b) hl' rfl haD rfl (by simp)) (by lia) hle hne
        (one_at hl' rfl) (by lia) (run_at hl2 hi hbD' rfl rfl) (by lia) (by lia) (by lia)
        (by rw [hta, hm]; intro c hc; rcases List.mem_append.mp hc with h | h; exact haD c h; exact hbD' c h) (by rw [hta, hm]; exact hV.symm) (by rw [hm]; exact hkb'.symm) hk30
    | some q =>
      obtain ⟨s, ds⟩ := q
      have hl' : l = a ++ 46 :: (b ++ 101 :: s :: ds) := hl
      have hl2 : l = (a ++ [46]) ++ (b ++ 101 :: s :: ds) := by rw [hl']; simp
      have hl3 : l = (a ++ 46 :: b) ++ 101 :: s :: ds := by rw [hl']; simp
      have hga : l.getD ((a.length : Int) + 1 + b.length).toNat 0 = 101 := get_at hl3 (by simp; lia)
      have hl4 : l = (a ++ 46 :: (b ++ [101])) ++ (s :: ds) := by rw [hl']; simp
      have hll : l.length = a.length + 1 + b.length + 2 + ds.length := by rw [hl']; simp; lia
      have hi : (a.length : Int) + 1 = (a ++ [46]).length := by simp
      have hm : List.drop ((a.length : Int) + 1).toNat (List.take ((a.length : Int) + 1 + b.length).toNat l) = b := mid_at hl2 hi rfl
      exact uns4 x tx l a.length (a.length + 1 + b.length) V kb E s ds hx hok (by lia) h0x h0X (run_at (p := []) (d := a) (r := 46 :: (b ++ 101 :: s :: ds)) hl' rfl haD rfl (by simp)) (by lia) hle hne
        (one_at hl' rfl) (by lia) (run_at hl2 hi hbD' rfl rfl) (by lia) (by lia) (by lia) (by rw [hga]; simp)
        (drop_at hl4 (by simp; lia)) hex.1 hex.2.1 hex.2.2.1 hex.2.2.2 hE1 hE2
        (by rw [hta, hm]; intro c hc; rcases List.mem_append.mp hc with h | h; exact haD c h; exact hbD' c h) (by rw [hta, hm]; exact hV.symm) (by rw [hm]; exact hkb'.symm) hk30


theorem uns_specZ {w : World} {mean mg mb} {news} (x : Str) (tx : Tok) (l : List Nat) (V kb : Nat) (E : Int) (hx : TX x l) (hN : Num l V kb E) (hE1 : -10 ≤ E) (hE2 : E ≤ 10) (hk30 : kb ≤ 30) (hV : V = 0) :
    Spec 8 w mean mg mb 170 [.str x tx] news (fun v add => ∃ a, v = .ref a ∧ add = [(a, tupO [.bool true, .ref 17])]) :=
  (uns_spec x tx l V kb E hx hN hE1 hE2 hk30).mono fun v add h => h.elim (fun h => h.2) fun h => absurd hV h.1
theorem uns_specT {w : World} {mean mg mb} {news} (x : Str) (tx : Tok) (l : List Nat) (V kb : Nat) (E : Int) (hx : TX x l) (hN : Num l V kb E) (hE1 : -10 ≤ E) (hE2 : E ≤ 10) (hk30 : kb ≤ 30) (hV : V ≠ 0) :
    Spec 8 w mean mg mb 170 [.str x tx] news (fun v add => ∃ a r p q t u, v = .ref a ∧ add = [(a, tupO [.bool true, .ref r]), (r, tupO [.int p t, .int q u])] ∧ 0 < q ∧ q < 2 ^ 150 ∧ DecQ V kb E p q) :=
  (uns_spec x tx l V kb E hx hN hE1 hE2 hk30).mono fun v add h => h.elim (fun h => absurd h.1 hV) fun h => h.2
theorem rows_f30_par_0 : True := by
  k_with "call ref" => (k_here; (with_reducible show wpAny _ _ (call (Value.ref 170) _) _ _ _); (k_dflt refine' Spec.use (uns_specZ _ _ _ _ _ _ ?p0 ?p1 ?p2 ?p3 ?p4 ?p5) ?k1 ?k2 ?k3 ?k4 ?k5 ?k6 ?k7 ?k8 ?_); walk_at "use in"; (case p0 => walk_at "tx"); (case p1 => walk_at "as"); (case p2 => walk_at "as"); (case p3 => walk_at "as"); (case p4 => walk_at "as"); (case p5 => walk_at "as"); intro _ _ _ _ hR; (obtain ⟨_, e1, e2⟩ := hR); subst e1; subst e2; walk_at "use new")
  k_with "call ref" => (k_here; (with_reducible show wpAny _ _ (call (Value.ref 170) _) _ _ _); (k_dflt refine' Spec.use (uns_specT _ _ _ _ _ _ ?p0 ?p1 ?p2 ?p3 ?p4 ?p5) ?k1 ?k2 ?k3 ?k4 ?k5 ?k6 ?k7 ?k8 ?_); walk_at "use in"; (case p0 => walk_at "tx"); (case p1 => walk_at "as"); (case p2 => walk_at "as"); (case p3 => walk_at "as"); (case p4 => walk_at "as"); (case p5 => walk_at "as"); intro _ _ _ _ hR; (obtain ⟨_, _, _, _, _, _, e1, e2, _, _, _⟩ := hR); subst e1; subst e2; walk_at "use new2")
  k_with "call builtin:str.strip" => (k_here; (with_reducible refine' tx_strip ?ha ?hok ?hb ?hz ?_); (case ha => walk_at "tx"); (case hok => walk_at "as"); (case hb => walk_at "tx"); (case hz => walk_at "tx size"); intro _ _ _ _)
  trivial
/-- p / q is ± V * 10 ^ (E - kb) -/
def DecS (neg : Bool) (V kb : Nat) (E p q : Int) : Prop := p * 10 ^ kb * 10 ^ (-E).toNat = (if neg then -(V : Int) else V) * 10 ^ E.toNat * q
/-- what parse_number answers -/
def ParR (neg : Bool) (V kb : Nat) (E : Int) (v : Value) (add : List (Addr × Obj)) : Prop :=
  ((V = 0 ∧ neg = false) ∧ ∃ a, v = .ref a ∧ add = [(a, tupO [.bool true, .ref 17])]) ∨
  (¬ (V = 0 ∧ neg = false) ∧ ∃ a r p q t u, v = .ref a ∧ add = [(a, tupO [.bool true, .ref r]), (r, tupO [.int p t, .int q u])] ∧ 0 < q ∧ q < 2 ^ 150 ∧ DecS neg V kb E p q)
theorem par_z {V kb : Nat} {E : Int} {a : Addr} (hV : V = 0) : ParR false V kb E (.ref a) [(a, tupO [.bool true, .ref 17])] := .inl ⟨⟨hV, rfl⟩, a, rfl, rfl⟩
theorem par_t {V kb : Nat} {E p q : Int} {a r : Addr} {t u : Tok} (hV : V ≠ 0) (h : 0 < q) (h2 : q < 2 ^ 150) (hD : DecQ V kb E p q) : ParR false V kb E (.ref a) [(a, tupO [.bool true, .ref r]), (r, tupO [.int p t, .int q u])] :=
  .inr ⟨fun h => hV h.1, a, r, p, q, t, u, rfl, rfl, h, h2, hD⟩
theorem par_nz {V kb : Nat} {E : Int} {a r : Addr} {t u : Tok} (hV : V = 0) : ParR true V kb E (.ref a) [(a, tupO [.bool true, .ref r]), (r, tupO [.int (0 - 0) t, .int 1 u])] := by
  refine .inr ⟨(fun h => nomatch h.2), a, r, 0 - 0, 1, t, u, rfl, rfl, by decide, by decide, ?_⟩
  unfold DecS
  rw [hV]
  simp
theorem par_nt {V kb : Nat} {E p q : Int} {a r : Addr} {t u : Tok} (h : 0 < q) (h2 : q < 2 ^ 150) (hD : DecQ V kb E p q) : ParR true V kb E (.ref a) [(a, tupO [.bool true, .ref r]), (r, tupO [.int (0 - p) t, .int q u])] := by
  refine .inr ⟨(fun h => nomatch h.2), a, r, 0 - p, q, t, u, rfl, rfl, h, h2, ?_⟩
  unfold DecS
  unfold DecQ at hD
  show (0 - p) * 10 ^ kb * 10 ^ (-E).toNat = -(V : Int) * 10 ^ E.toNat * q
  rw [Int.zero_sub, Int.neg_mul, Int.neg_mul, Int.neg_mul, Int.neg_mul, hD]
theorem no_head {l : List Nat} (h : isD (l.getD 0 0) = true) {c : Nat} (hc : isD c = false) : ¬ ([l.getD (Int.toNat 0) 0] = [c]) := fun e => by
  have e1 : l.getD 0 0 = c := by simpa using e
  rw [e1, hc] at h
  cases h
theorem no_nil {l : List Nat} (h : 1 ≤ l.length) : ¬ (l = []) := fun e => by rw [e] at h; exact absurd h (by decide)
set_option maxHeartbeats 4000000 in
theorem parP {w : World} {mean mg mb} {news} (x : Str) (tx : Tok) (l : List Nat) (V kb : Nat) (E : Int) (hx : TX x l) (hN : Num l V kb E) (hE1 : -10 ≤ E) (hE2 : E ≤ 10) (hk30 : kb ≤ 30) :
    Spec 10 w mean mg mb 177 [.str x tx] news (ParR false V kb E) := by
  obtain ⟨hok, hz, h1, h2⟩ := hN.ok
  have f1 := no_nil h1
  have f2 : ¬ (l = [78, 65]) := ok_no' hok (c := 78) (by simp) rfl
  have f3 := no_head h2 (c := 45) rfl
  have f4 := no_head h2 (c := 43) rfl
  have f5 : ¬ (l = [78, 97, 78]) := ok_no' hok (c := 78) (by simp) rfl
  have f6 : ¬ (l = [105, 110, 102]) := ok_no' hok (c := 105) (by simp) rfl
  have f7 : ¬ (l = [105, 110, 102, 105, 110, 105, 116, 121]) := ok_no' hok (c := 105) (by simp) rfl
  have hV : V = 0 ∨ V ≠ 0 := Classical.em _
  w_top off
  unfold Spec; k_fill
  intro dp un gd cn cs a0 ccd cl outer A0 base h0 L0 m0 s0 Q0 E0 B F X N T hk hdp hun hret
  k_dflt refine' enter_def [(Str.ofString "text", Value.str x tx)] ?k1 ?k2 ?k3 ?k4 ?k5 ?k6 ?k7 ?k8 ?k9 ?ka ?kb ?_ ?kc ?kd ?ke ?kf
  walk_at "enter"
  k_steps
  rcases hV with hV | hV
  · k_steps
    all_goals (refine hret _ [_] _ _ (par_z hV) ?_ (by with_reducible assumption) (by walk_at "news end"); walk_at "fresh")
  · k_steps
    refine' hret _ [_, _] _ _ ?ur ?fr ?ff ?nw
    case ff => with_reducible assumption
    case' ur => with_reducible refine' par_t hV (by assumption) (by assumption) (by assumption)
    case nw => walk_at "news end"
    case fr => walk_at "fresh2"
set_option maxHeartbeats 4000000 in
theorem parN {w : World} {mean mg mb} {news} (x : Str) (tx : Tok) (l0 : List Nat) (V kb : Nat) (E : Int) (hx : TX x l0) (l : List Nat) (hl : l0 = 45 :: l) (hN0 : Num l V kb E) (hE1 : -10 ≤ E) (hE2 : E ≤ 10) (hk30 : kb ≤ 30) :
    Spec 10 w mean mg mb 177 [.str x tx] news (ParR true V kb E) := by
  obtain ⟨hok0, hz, h1, h2⟩ := hN0.ok
  have hd : List.drop (Int.toNat 1) l0 = l := by rw [hl]; rfl
  have hN : Num (List.drop (Int.toNat 1) l0) V kb E := by rw [hd]; exact hN0
  have hok : ∀ c ∈ l0, okC c = true := by
    rw [hl]
    intro c hc
    rcases List.mem_cons.mp hc with h | h
    · rw [h]; rfl
    · exact hok0 c h
  have hok1 : ∀ c ∈ List.drop (Int.toNat 1) l0, okC c = true := by rw [hd]; exact hok0
  have hz0 : l0.length ≤ 151 := by rw [hl, List.length_cons]; lia
  have hz1 : (List.drop (Int.toNat 1) l0).length ≤ 150 := by rw [hd]; exact hz
  have h10 : 1 ≤ l0.length := by rw [hl, List.length_cons]; lia
  have f1 := no_nil h10
  have f2 : ¬ (l0 = [78, 65]) := ok_no' hok (c := 78) (by simp) rfl
  have f3 : [l0.getD (Int.toNat 0) 0] = [45] := by rw [hl]; rfl
  have f5 : ¬ (List.drop (Int.toNat 1) l0 = [78, 97, 78]) := ok_no' hok1 (c := 78) (by simp) rfl
  have f6 : ¬ (List.drop (Int.toNat 1) l0 = [105, 110, 102]) := ok_no' hok1 (c := 105) (by simp) rfl
  have f7 : ¬ (List.drop (Int.toNat 1) l0 = [105, 110, 102, 105, 110, 105, 116, 121]) := ok_no' hok1 (c := 105) (by simp) rfl
  clear hd hl hN0 hok0
  have hV : V = 0 ∨ V ≠ 0 := Classical.em _
  w_top off
  unfold Spec; k_fill
  intro dp un gd cn cs a0 ccd cl outer A0 base h0 L0 m0 s0 Q0 E0 B F X N T hk hdp hun hret
  k_dflt refine' enter_def [(Str.ofString "text", Value.str x tx)] ?k1 ?k2 ?k3 ?k4 ?k5 ?k6 ?k7 ?k8 ?k9 ?ka ?kb ?_ ?kc ?kd ?ke ?kf
  walk_at "enter"
  k_steps
  rcases hV with hV | hV
  · k_steps
    refine' hret _ [_, _] _ _ ?ur ?fr ?ff ?nw
    case ff => with_reducible assumption
    case' ur => with_reducible refine' par_nz hV
    case nw => walk_at "news end"
    case fr => walk_at "fresh2"
  · k_steps
    refine' hret _ [_, _] _ _ ?ur2 ?fr2 ?ff2 ?nw2
    case ff2 => with_reducible assumption
    case' ur2 => with_reducible refine' par_nt (by assumption) (by assumption) (by assumption)
    case nw2 => walk_at "news end"
    case fr2 => walk_at "fresh2"


/-- the same where the base holds the script -/
def SpecL (sl : Addr) (vs0 : List Value) (lv : Nat) (w : World) (mean : ExcName → Option Value) (mg mb : Str → Option Value) (f : Addr) (vs : List Value) (news : List (Addr × Obj)) (Ret : Value → List (Addr × Obj) → Prop) : Prop :=
  ∀ (dp un : Nat) (gd : Option (List Code)) (cn : Str) (cs : Scope) (a : Addr) (ccd : Value) (cl : List (Str × Addr)) (outer : List Env) (A₀ : Around) (base h₀ : Heap) (L : Addr) (m : Str → Option Value) (s : Shared) (Q E : Value → Shared → Prop),
    base.IsList sl vs0.toArray → Below A₀ base outer h₀ → Fr h₀ L s.heap m → (hd.heap_39 w.params).In h₀ → News h₀ L s.heap news → Top hd.view_39 (looseW hd.view_39 [Str.ofString "number_text"]) mean mg mb h₀ → cs.kind = .function →
    dp + lv < recursionLimit → un + 8 * lv < cLine →
    (∀ v add h' tk', Ret v add → (∀ p ∈ news, ∀ q ∈ add, p.1 < q.1) → Fr h₀ L h' m → News h₀ L h' (add ++ news) → Q v { s with heap := h', toks := tk' }) →
      wpAny (model PySem.Challenge.rw_ov0062_01.row.prog w) (ktrTop dp un gd cn cs L a ccd cl outer) (call (.ref f) vs) Q E s

theorem SpecL.use {sl : Addr} {vs0 : List Value} {lv : Nat} {w : World} {mean : ExcName → Option Value} {mg mb : Str → Option Value} {f : Addr} {vs : List Value} {news : List (Addr × Obj)} {Ret : Value → List (Addr × Obj) → Prop} (S : SpecL sl vs0 lv w mean mg mb f vs news Ret)
    {dp un : Nat} {gd : Option (List Code)} {cn : Str} {cs : Scope} {a : Addr} {ccd : Value} {cl : List (Str × Addr)} {outer : List Env} {A₀ : Around} {base h₀ : Heap} {L : Addr} {m : Str → Option Value} {s : Shared} {Q E : Value → Shared → Prop}
    (hl : base.IsList sl vs0.toArray) (B : Below A₀ base outer h₀) (F : Fr h₀ L s.heap m) (X : (hd.heap_39 w.params).In h₀) (N : News h₀ L s.heap news) (T : Top hd.view_39 (looseW hd.view_39 [Str.ofString "number_text"]) mean mg mb h₀) (hk : cs.kind = .function)
    (hd : dp + lv < recursionLimit) (hu : un + 8 * lv < cLine)
    (h : ∀ v add h' tk', Ret v add → (∀ p ∈ news, ∀ q ∈ add, p.1 < q.1) → Fr h₀ L h' m → News h₀ L h' (add ++ news) → Q v { s with heap := h', toks := tk' }) :
      wpAny (model PySem.Challenge.rw_ov0062_01.row.prog w) (ktrTop dp un gd cn cs L a ccd cl outer) (call (.ref f) vs) Q E s :=
  S _ _ _ _ _ _ _ _ _ _ _ _ _ _ _ _ _ hl B F X N T hk hd hu h
theorem rows_f31_cells_0 : True := by
  k_with "subscriptTail Name Slice ref ref" => (k_here; (k_dflt refine' kmk_slice_ints ?zF ?zN ?zl ?zp ?zq ?zi ?zm ?zc ?_ ?zs ?zt ?zz); (case zF => k_asm); (case zN => k_asm); (case zl => kmk_list); (case zp => kmk_part); (case zq => kmk_part); (case zi => l_ints); (case zm => kmk_nums); (case zc => kmk_len); (case zs => with_unfolding_all rfl); (case zt => kmk_pure); (case zz => with_reducible assumption); intro D' ws' h' F' N' l1 hI' hC' hL'; (try simp only [Int.reduceNeg, Int.neg_neg, Int.reduceToNat] at hI' hC' hL'); (try k_lt l1); (try k_sweep))
  k_with "call builtin:list.append" => (k_here; (with_reducible show wpAny _ _ (call (Value.builtin _) [Value.ref _, _]) _ _ _); k_dflt (refine' append_K ?zk1 ?zk2 ?zk3 ?_ ?zz); (case zk1 => k_asm); (case zk2 => k_asm); (case zk3 => k_upd); (case zz => (rw [sizeLine_eq, List.size_toArray]; omega)); intro h' F' N'; (try k_sweep))
  trivial
set_option maxHeartbeats 4000000 in
theorem cells_spec {w : World} {mean mg mb} (sl : Addr) (vs0 : List Value) (ns : List Int) (hi : IntsAre vs0 ns) (hsz : vs0.toArray.size ≤ sizeLine) :
    SpecL sl vs0 2 w mean mg mb 184 [.ref sl] [] (fun v add => ∃ a vs n ms, v = .ref a ∧ add = [(a, listOf vs.toArray n)] ∧ IntsAre vs ms ∧ ms.length ≤ 144) := by
  w_top off
  unfold SpecL; k_fill
  intro dp un gd cn cs a0 ccd cl outer A0 base h0 L0 m0 s0 Q0 E0 hl B F X N T hk hdp hun hret
  k_dflt refine' enter_def [(Str.ofString "script", Value.ref sl)] ?k1 ?k2 ?k3 ?k4 ?k5 ?k6 ?k7 ?k8 ?k9 ?ka ?kb ?_ ?kc ?kd ?ke ?kf
  walk_at "enter"
  k_lift B'
  k_with "pyIter ref" => (k_of "cell" => k_state (fun pre items => items.length ≤ 12 * pre.length) "figures_row")
  k_with "pyIter ref" => (k_of "lap" => k_state_given ["figures_row!"] (fun r0 pre items amount => items.length ≤ r0.length + pre.length) "figures_row" "amount")
  k_with "state" => ((try simp only [List.length_append, List.length_cons, List.length_nil]); omega)
  k_steps
  exact hret _ [_] _ _ ⟨_, _, _, _, rfl, rfl, by with_reducible assumption, by lia⟩ (fun p hp => nomatch hp) (by with_reducible assumption) (by walk_at "news end")


theorem rows_f32_at_0 : True := by
  k_with "call builtin:len" => (k_here; (with_reducible show wpAny _ _ (PySem.call (Value.builtin "len") [Value.ref _]) _ _ _); (k_dflt refine' kst_len ?zN ?zm ?ze ?zf ?_); (case zN => k_asm); (case zm => k_mem); (case ze => exact IntsAre.length (by with_reducible assumption)); (case zf => omega))
  k_with "subscriptTail Name Name ref int" => (k_here; (k_dflt refine' item_list_ints ?k1 ?k2 ?k3 ?k4 ?k5 ?_); (case k1 => k_dflt exact News.isList (by k_asm) (by k_mem)); (case k2 => with_reducible assumption); (case k3 => omega); (case k4 => omega); (case k5 => omega); intro _)
  trivial
theorem at_end {m b : Int} (hb : 0 < b) : 0 ≤ m.fmod b ∧ m.fmod b < b := ⟨Int.fmod_nonneg_of_pos m hb, Int.fmod_lt_of_pos m hb⟩
set_option maxHeartbeats 4000000 in
theorem at_spec {w : World} {mean mg mb} {news} (D : Addr) (vs : List Value) (c : Nat) (ms : List Int) (i b : Int) (ti tb : Tok) (hD : (D, listOf vs.toArray c) ∈ news) (hi : IntsAre vs ms) (hl : ms.length ≤ 144) (hi0 : 0 ≤ i) (hb : 0 < b) :
    Spec 2 w mean mg mb 191 [.ref D, .int i ti, .int b tb] news (fun v add => ∃ r t, v = .int r t ∧ add = [] ∧ 0 ≤ r ∧ r < b) := by
  w_top off
  unfold Spec; k_fill
  intro dp un gd cn cs a0 ccd cl outer A0 base h0 L0 m0 s0 Q0 E0 B F X N T hk hdp hun hret
  k_dflt refine' enter_def [(Str.ofString "bound", Value.int b tb), (Str.ofString "spot", Value.int i ti), (Str.ofString "figures_row", Value.ref D)] ?k1 ?k2 ?k3 ?k4 ?k5 ?k6 ?k7 ?k8 ?k9 ?ka ?kb ?_ ?kc ?kd ?ke ?kf
  walk_at "enter"
  k_steps
  · exact hret _ [] _ _ ⟨_, _, rfl, rfl, Int.le_refl 0, hb⟩ (by walk_at "no new") (by with_reducible assumption) (by walk_at "news end")
  · exact hret _ [] _ _ ⟨_, _, rfl, rfl, at_end hb⟩ (by walk_at "no new") (by with_reducible assumption) (by walk_at "news end")


theorem rows_f33_frac_0 : True := by
  k_with "call ref" => (k_here; (with_reducible show wpAny _ _ (call (Value.ref 191) _) _ _ _); (k_dflt refine' Spec.use (at_spec _ _ _ _ _ _ _ _ ?p0 ?p1 ?p2 ?p3 ?p4) ?k1 ?k2 ?k3 ?k4 ?k5 ?k6 ?k7 ?k8 ?_); walk_at "use in"; (case p0 => k_mem); (case p1 => walk_at "as"); (case p2 => walk_at "as"); (case p3 => omega); (case p4 => omega); intro _ _ _ _ hR; (obtain ⟨_, _, e1, e2, _, _⟩ := hR); subst e1; subst e2; walk_at "use end")
  trivial
theorem menu8 {k : Int} (h0 : 0 ≤ k) (h1 : k < 8) : 1 ≤ ([1, 2, 3, 7, 8, 40, 999, 1000] : List Int).getD k.toNat 0 ∧ ([1, 2, 3, 7, 8, 40, 999, 1000] : List Int).getD k.toNat 0 ≤ 1000 := by
  have key : ∀ i < 8, 1 ≤ ([1, 2, 3, 7, 8, 40, 999, 1000] : List Int).getD i 0 ∧ ([1, 2, 3, 7, 8, 40, 999, 1000] : List Int).getD i 0 ≤ 1000 := by decide
  exact key k.toNat (by lia)
theorem menu_of {k u : Int} (e : ([1, 2, 3, 7, 8, 40, 999, 1000] : List Int).getD k.toNat 0 = u) (h0 : 0 ≤ k) (h1 : k < 8) : 1 ≤ u ∧ u ≤ 1000 := e ▸ menu8 h0 h1
theorem rows_f33_frac_1 : True := by
  k_with "subscriptTail List cons Call ref int" => (k_here; walk_at "subscriptTail"; (generalize hu9 : List.getD [1, 2, 3, 7, 8, 40, 999, 1000] _ (0 : Int) = u9); (have m9 := menu_of hu9 (by omega) (by omega)); clear hu9; (obtain ⟨_, _⟩ := m9))
  trivial
theorem t_pow4 {prog : Program} {w : World} {A : Around} {E : Value → Shared → Prop} {s : Shared} {n : Int} {t u : Tok} {Q : Value → Shared → Prop} (hn : 0 ≤ n) (hn2 : n ≤ 4) (h : ∀ r t' k, 1 ≤ r → r ≤ 10000 → Q (.int r t') { s with toks := k }) : wpAny (model prog w) A (binaryOp .Pow (.int 10 t) (.int n u)) Q E s :=
  t_pow hn (by lia) (by decide) fun t' k => h _ t' k (Int.add_one_le_of_lt (pow_pos10 _)) (pow_mono10 (j := 4) (by lia))
theorem t_mul4 {prog : Program} {w : World} {A : Around} {E : Value → Shared → Prop} {s : Shared} {x y : Int} {t u : Tok} {Q : Value → Shared → Prop} (hy : 1 ≤ y) (hy2 : y ≤ 10000) (hx : 0 ≤ x) (hx2 : x ≤ 2499) (h : ∀ r t' k, x ≤ r → r ≤ 24990000 → Q (.int r t') { s with toks := k }) : wpAny (model prog w) A (binaryOp .Mult (.int x t) (.int y u)) Q E s :=
  t_mul (mulOkR (by lia) (by lia)) fun t' k => h _ t' k (by have := Int.mul_le_mul_of_nonneg_left hy hx; lia) (Int.le_trans (Int.mul_le_mul hx2 hy2 (by lia) (by decide)) (by decide))
theorem rows_f33_frac_2 : True := by
  k_with "binaryOp Pow int int" => (k_here; (with_reducible refine' t_pow4 ?k1 ?k2 ?_); (case k1 => omega); (case k2 => omega); intro _ _ _ _ _)
  k_with "binaryOp Mult int int" => (k_here; (with_reducible refine' t_mul4 ?k1 ?k2 ?k3 ?k4 ?_); (case k1 => with_reducible assumption); (case k2 => with_reducible assumption); (case k3 => omega); (case k4 => omega); intro _ _ _ _ _)
  k_with "binaryOp FloorDiv int int" => (k_here; (with_reducible refine t_fdiv ?k1 ?k2 ?_); (case k1 => with_reducible exact (lf_out (by assumption) (by assumption)).1); (case k2 => (with_reducible refine lf_lt (by assumption) (by assumption) ?_; omega)); intro _ _ _ _ _)
  trivial
def GcdIn (f s a b : Int) : Prop := 0 ≤ a ∧ 0 ≤ b ∧ (Int.gcd a b : Int) = Int.gcd f s ∧ (0 < a ∨ 0 < b) ∧ a ≤ f + s ∧ b ≤ f + s
theorem lf_init {f s : Int} (hf : 0 ≤ f) (hs : 0 < s) : GcdIn f s f s := ⟨hf, by lia, rfl, .inr hs, by lia, by lia⟩
theorem lf_turn {f s a b : Int} (h : GcdIn f s a b) (hb : 0 < b) : GcdIn f s b (a.fmod b) := by
  obtain ⟨h1, h2, h3, h4, h5, h6⟩ := h
  obtain ⟨g1, g2, g3⟩ := gcd_turn h1 h2 h3 hb
  have := Int.fmod_lt_of_pos a hb
  exact ⟨g1, g2, g3, .inl hb, h6, by lia⟩
theorem lf_less {f s a b : Int} (h : GcdIn f s a b) (hb : 0 < b) : (a.fmod b).toNat < b.toNat := gcd_less hb
theorem lf_out {f s a b : Int} (h : GcdIn f s a b) (hb : ¬ 0 < b) : 0 < a ∧ a ≤ f + s ∧ a = Int.gcd f s := by
  obtain ⟨h1, h2, h3, h4, h5, h6⟩ := h
  exact ⟨by lia, h5, gcd_end h1 h2 h3 hb⟩
/-- over and under between the steps -/
def OvUn (lo : Int) (m m' : Str → Option Value) : Prop := ∃ o u t1 t2, m' = upd2 m (Str.ofString "over") (Str.ofString "under") (.int o t1) (.int u t2) ∧ lo ≤ o ∧ o ≤ 24990000 ∧ 1 ≤ u ∧ u ≤ 24990000
theorem ovun_l {lo : Int} {m : Str → Option Value} {o u : Int} {t1 t2 : Tok} (h : m (Str.ofString "under") = some (.int u t2)) (h1 : lo ≤ o) (h2 : o ≤ 24990000) (h3 : 1 ≤ u) (h4 : u ≤ 24990000) : OvUn lo m (fun z => if z = Str.ofString "over" then some (.int o t1) else m z) := ⟨o, u, t1, t2, upd2_l h, h1, h2, h3, h4⟩
theorem ovun_r {lo : Int} {m : Str → Option Value} {o u : Int} {t1 t2 : Tok} (h : m (Str.ofString "over") = some (.int o t1)) (h1 : lo ≤ o) (h2 : o ≤ 24990000) (h3 : 1 ≤ u) (h4 : u ≤ 24990000) : OvUn lo m (fun z => if z = Str.ofString "under" then some (.int u t2) else m z) := ⟨o, u, t1, t2, upd2_r (by decide) h, h1, h2, h3, h4⟩
theorem ovun_0 {lo : Int} {m : Str → Option Value} {o u : Int} {t1 t2 : Tok} (h : m (Str.ofString "over") = some (.int o t1)) (h' : m (Str.ofString "under") = some (.int u t2)) (h1 : lo ≤ o) (h2 : o ≤ 24990000) (h3 : 1 ≤ u) (h4 : u ≤ 24990000) : OvUn lo m m := ⟨o, u, t1, t2, upd2_0 h h', h1, h2, h3, h4⟩
theorem lf_lt {f s a b : Int} (h : GcdIn f s a b) (hb : ¬ 0 < b) (hf : f + s < 2 ^ 200) : a < 2 ^ 200 := by
  have := (lf_out h hb).2.1
  lia
theorem frac_end {o d g n e : Int} (h : GcdIn (o.natAbs : Int) d g 0) (ho : -24990000 ≤ o) (ho2 : o ≤ 24990000) (hd : 1 ≤ d) (hd2 : d ≤ 24990000) (hn : n = o.fdiv g) (he : e = d.fdiv g) : 0 < e ∧ e ≤ 10 ^ 8 ∧ n.natAbs ≤ 10 ^ 8 := by
  have hg := lf_out h (by decide)
  have q := make_end (by lia) hg.2.2 hn he hg.1
  exact ⟨q.1, by lia, by lia⟩
theorem gcd_zero {f s a b : Int} (h : GcdIn f s a b) (hb : ¬ 0 < b) : GcdIn f s a 0 := by
  have : b = 0 := by have := h.2.1; lia
  exact this ▸ h
set_option maxHeartbeats 4000000 in
theorem frac_spec {w : World} {mean mg mb} {news} (D : Addr) (vs : List Value) (c : Nat) (ms : List Int) (i : Int) (ti : Tok) (hD : (D, listOf vs.toArray c) ∈ news) (hi : IntsAre vs ms) (hl : ms.length ≤ 144) (hi0 : 0 ≤ i) :
    Spec 4 w mean mg mb 198 [.ref D, .int i ti] news (fun v add => ∃ a n d t u, v = .ref a ∧ add = [(a, tupO [.int n t, .int d u])] ∧ 0 < d ∧ d ≤ 10 ^ 8 ∧ n.natAbs ≤ 10 ^ 8) := by
  w_top off
  unfold Spec; k_fill
  intro dp un gd cn cs a0 ccd cl outer A0 base h0 L0 m0 s0 Q0 E0 B F X N T hk hdp hun hret
  k_dflt refine' enter_def [(Str.ofString "start", Value.int i ti), (Str.ofString "figures_row", Value.ref D)] ?k1 ?k2 ?k3 ?k4 ?k5 ?k6 ?k7 ?k8 ?k9 ?ka ?kb ?_ ?kc ?kd ?ke ?kf
  walk_at "enter"
  k_with "exec While Compare cons nil" => k_while_given ["first!", "second!"] (fun f s _ a b => GcdIn f s a b) (fun f s _ a b => b.toNat) "first" "second"
  k_with "state" => with_reducible first | exact lf_init (by omega) (by omega) | exact lf_turn (by assumption) (by assumption)
  k_with "measure" => with_reducible exact lf_less (by assumption) (by assumption)
  k_with "exec If" => ((with_reducible show wpAny _ _ (exec (Stmt.If (Expr.Compare (Expr.Name _ _) _ _ _) _ _ _) _) _ _ _); (fail_if_success (with_reducible show wpAny _ _ _ (JoinP _ _ _ _ _) _ _)); (with_reducible rename Fr _ _ _ _ => F'); (with_reducible rename News _ _ _ _ => N'); (k_dflt refine' join_if (OvUn 0) F' N' ?_ ?_); rotate_left; clear F' N'; intro h' tk' m' P' F' N'; (unfold OvUn at P'); (obtain ⟨_, _, _, _, e9, _, _, _, _⟩ := P'); subst e9; (try k_sweep))
  k_with "exec If" => ((with_reducible show wpAny _ _ (exec (Stmt.If (Expr.Compare (Expr.Call _ _ _ _) _ _ _) _ _ _) _) _ _ _); (fail_if_success (with_reducible show wpAny _ _ _ (JoinP _ _ _ _ _) _ _)); (with_reducible rename Fr _ _ _ _ => F'); (with_reducible rename News _ _ _ _ => N'); (k_dflt refine' join_if (OvUn (-24990000)) F' N' ?_ ?_); rotate_left; clear F' N'; intro h' tk' m' P' F' N'; (unfold OvUn at P'); (obtain ⟨_, _, _, _, e9, _, _, _, _⟩ := P'); subst e9; (try k_sweep))
  k_steps
  all_goals first
    | (refine ⟨rfl, _, _, _, rfl, by with_reducible assumption, by with_reducible assumption, ?_⟩; first
        | exact ovun_l rfl (by lia) (by lia) (by lia) (by lia)
        | exact ovun_r rfl (by lia) (by lia) (by lia) (by lia)
        | exact ovun_0 rfl rfl (by lia) (by lia) (by lia) (by lia))
    | (with_reducible have q := frac_end (gcd_zero (by assumption) (by assumption)) (by assumption) (by assumption) (by assumption) (by assumption) (by assumption) (by assumption)
       exact hret _ [_] _ _ ⟨_, _, _, _, _, rfl, rfl, q⟩ (by walk_at "fresh") (by with_reducible assumption) (by walk_at "news end"))


theorem rows_f34_far_0 : True := by
  k_with "call ref" => (k_here; (with_reducible show wpAny _ _ (call (Value.ref 198) _) _ _ _); (k_dflt refine' Spec.use (frac_spec _ _ _ _ _ _ ?p0 ?p1 ?p2 ?p3) ?k1 ?k2 ?k3 ?k4 ?k5 ?k6 ?k7 ?k8 ?_); walk_at "use in"; (case p0 => k_mem); (case p1 => walk_at "as"); (case p2 => walk_at "as"); (case p3 => omega); intro _ _ _ _ hR; (obtain ⟨_, _, _, _, _, e1, e2, _, _, _⟩ := hR); subst e1; subst e2; walk_at "use new")
  trivial
/-- an int of few bits -/
def Sm (x : Int) : Prop := x.natAbs < 2 ^ 2000
theorem mulOk3 {a b : Int} (h0 : Sm a) (h2 : Sm b) : IntMulOk a b := by
  have ha : Builtin.Int.intBits a ≤ 2000 := bits_le h0
  have hb : Builtin.Int.intBits b ≤ 2000 := bits_le h2
  unfold IntMulOk Builtin.Int.intTooBig
  have : ¬ ((Builtin.Int.intBits a : Int) + (Builtin.Int.intBits b : Int) > (bitsLine : Int)) := by
    have : (bitsLine : Int) = 2 ^ 27 := rfl
    lia
  rw [decide_eq_false this]
  simp
theorem Sm.of {x : Int} {k : Nat} (h : x.natAbs < 2 ^ k) (hk : k ≤ 2000) : Sm x := Nat.lt_of_lt_of_le h (Nat.pow_le_pow_right (by decide) hk)
theorem sm_small {x : Int} (h : -(10 ^ 40) ≤ x) (h2 : x ≤ 10 ^ 40) : Sm x := Sm.of (k := 200) (by lia) (by decide)
theorem far_sm {n d p q : Int} (hn : n.natAbs ≤ 10 ^ 8) (hd : 0 < d) (hd2 : d ≤ 10 ^ 8) (hp : p.natAbs < 2 ^ 600) (hq : 0 < q) (hq2 : q < 2 ^ 150) : Sm ((n * q - p * d).natAbs : Int) ∧ Sm (d * q) ∧ 0 < d * q ∧ Sm (2 * ((n * q - p * d).natAbs : Int)) := by
  have a1 : (n * q).natAbs < 2 ^ 30 * 2 ^ 150 := by
    rw [Int.natAbs_mul]
    exact Nat.mul_lt_mul_of_lt_of_lt (by lia) (by lia)
  have a2 : (p * d).natAbs < 2 ^ 600 * 2 ^ 30 := by
    rw [Int.natAbs_mul]
    exact Nat.mul_lt_mul_of_lt_of_lt hp (by lia)
  have a3 : (d * q).natAbs < 2 ^ 30 * 2 ^ 150 := by
    rw [Int.natAbs_mul]
    exact Nat.mul_lt_mul_of_lt_of_lt (by lia) (by lia)
  have e : (2 : Nat) ^ 600 * 2 ^ 30 = 2 ^ 630 := by rw [← Nat.pow_add]
  have e2 : (2 : Nat) ^ 30 * 2 ^ 150 = 2 ^ 180 := by rw [← Nat.pow_add]
  rw [e] at a2
  rw [e2] at a1 a3
  have e3 : (2 : Nat) ^ 180 ≤ 2 ^ 630 := Nat.pow_le_pow_right (by decide) (by decide)
  have e4 : (2 : Nat) ^ 631 = 2 ^ 630 + 2 ^ 630 := by rw [Nat.pow_succ]; exact Nat.mul_two _
  have e5 : (2 : Nat) ^ 632 = 2 ^ 631 + 2 ^ 631 := by rw [Nat.pow_succ]; exact Nat.mul_two _
  suffices hh : ((n * q - p * d).natAbs : Int).natAbs < 2 ^ 631 ∧ (2 * ((n * q - p * d).natAbs : Int)).natAbs < 2 ^ 632 from ⟨Sm.of hh.1 (by decide), Sm.of a3 (by decide), Int.mul_pos hd hq, Sm.of hh.2 (by decide)⟩
  rw [e5, e4]
  generalize (2 : Nat) ^ 630 = Y at *
  generalize (2 : Nat) ^ 180 = X at *
  generalize n * q = U at *
  generalize p * d = V at *
  lia
theorem rows_f34_far_1 : True := by
  k_with "binaryOp Mult int int" => (k_here; (with_reducible refine' t_mul (mulOk3 ?k1 ?k2) ?_); (case k1 => with_reducible assumption); (case k2 => with_reducible assumption); intro _ _)
  trivial
set_option maxHeartbeats 4000000 in
theorem far_spec {w : World} {mean mg mb} {news} (n d p q : Int) (tn td tp tq : Tok) (b o : Addr) (hb : (b, tupO [.int n tn, .int d td]) ∈ news) (ho : (o, tupO [.int p tp, .int q tq]) ∈ news) (hn : n.natAbs ≤ 10 ^ 8) (hd : 0 < d) (hd2 : d ≤ 10 ^ 8) (hp : p.natAbs < 2 ^ 600) (hq : 0 < q) (hq2 : q < 2 ^ 150) :
    Spec 2 w mean mg mb 205 [.ref b, .ref o] news (fun v add => ∃ a x y t u, v = .ref a ∧ add = [(a, tupO [.int x t, .int y u])] ∧ x = ((n * q - p * d).natAbs : Int) ∧ y = d * q ∧ Sm x ∧ Sm y ∧ 0 < y ∧ Sm (2 * x)) := by
  have hs := far_sm hn hd hd2 hp hq hq2
  have s1 : Sm n := sm_small (by lia) (by lia)
  have s2 : Sm d := sm_small (by lia) (by lia)
  have s3 : Sm p := Sm.of hp (by decide)
  have s4 : Sm q := Sm.of (k := 150) (by lia) (by decide)
  clear hp hq2
  w_top off
  unfold Spec; k_fill
  intro dp un gd cn cs a0 ccd cl outer A0 base h0 L0 m0 s0 Q0 E0 B F X N T hk hdp hun hret
  k_dflt refine' enter_def [(Str.ofString "other", Value.ref o), (Str.ofString "one", Value.ref b)] ?k1 ?k2 ?k3 ?k4 ?k5 ?k6 ?k7 ?k8 ?k9 ?ka ?kb ?_ ?kc ?kd ?ke ?kf
  walk_at "enter"
  k_steps
  exact hret _ [_] _ _ ⟨_, _, _, _, _, rfl, rfl, rfl, rfl, hs⟩ (by walk_at "fresh") (by with_reducible assumption) (by walk_at "news end")
set_option maxHeartbeats 4000000 in
theorem far0_spec {w : World} {mean mg mb} {news} (n d : Int) (tn td : Tok) (b : Addr) (hb : (b, tupO [.int n tn, .int d td]) ∈ news) (hn : n.natAbs ≤ 10 ^ 8) (hd : 0 < d) (hd2 : d ≤ 10 ^ 8) :
    Spec 2 w mean mg mb 205 [.ref b, .ref 17] news (fun v add => ∃ a x y t u, v = .ref a ∧ add = [(a, tupO [.int x t, .int y u])] ∧ x = ((n * 1 - 0 * d).natAbs : Int) ∧ y = d * 1 ∧ Sm x ∧ Sm y ∧ 0 < y ∧ Sm (2 * x)) := by
  have hs := far_sm (p := 0) (q := 1) hn hd hd2 (by decide) (by decide) (by decide)
  have s1 : Sm n := sm_small (by lia) (by lia)
  have s2 : Sm d := sm_small (by lia) (by lia)
  have s3 : Sm 0 := sm_small (by decide) (by decide)
  have s4 : Sm 1 := sm_small (by decide) (by decide)
  w_top off
  unfold Spec; k_fill
  intro dp un gd cn cs a0 ccd cl outer A0 base h0 L0 m0 s0 Q0 E0 B F X N T hk hdp hun hret
  k_dflt refine' enter_def [(Str.ofString "other", Value.ref 17), (Str.ofString "one", Value.ref b)] ?k1 ?k2 ?k3 ?k4 ?k5 ?k6 ?k7 ?k8 ?k9 ?ka ?kb ?_ ?kc ?kd ?ke ?kf
  walk_at "enter"
  k_steps
  exact hret _ [_] _ _ ⟨_, _, _, _, _, rfl, rfl, rfl, rfl, hs⟩ (by walk_at "fresh") (by with_reducible assumption) (by walk_at "news end")
set_option maxHeartbeats 4000000 in
theorem less_spec {w : World} {mean mg mb} {news} (n d p q : Int) (tn td tp tq : Tok) (b o : Addr) (hb : (b, tupO [.int n tn, .int d td]) ∈ news) (ho : (o, tupO [.int p tp, .int q tq]) ∈ news) (s1 : Sm n) (s2 : Sm d) (s3 : Sm p) (s4 : Sm q) :
    Spec 2 w mean mg mb 212 [.ref b, .ref o] news (fun v add => v = .bool (decide (n * q < p * d)) ∧ add = []) := by
  w_top off
  unfold Spec; k_fill
  intro dp un gd cn cs a0 ccd cl outer A0 base h0 L0 m0 s0 Q0 E0 B F X N T hk hdp hun hret
  k_dflt refine' enter_def [(Str.ofString "other", Value.ref o), (Str.ofString "one", Value.ref b)] ?k1 ?k2 ?k3 ?k4 ?k5 ?k6 ?k7 ?k8 ?k9 ?ka ?kb ?_ ?kc ?kd ?ke ?kf
  walk_at "enter"
  k_steps
  exact hret _ [] _ _ ⟨rfl, rfl⟩ (by walk_at "no new") (by with_reducible assumption) (by walk_at "news end")


theorem sm600 {p : Int} (h : -(10 ^ 40) ≤ p) (h2 : p ≤ 10 ^ 40) : p.natAbs < 2 ^ 600 := Nat.lt_of_lt_of_le (show p.natAbs < 2 ^ 200 by lia) (Nat.pow_le_pow_right (by decide) (by decide))
theorem rows_f35_told_0 : True := by
  k_with "call ref" => (k_here; (with_reducible show wpAny _ _ (call (Value.ref 205) _) _ _ _); (k_dflt refine' Spec.use (far_spec _ _ _ _ _ _ _ _ _ _ ?p0 ?p1 ?p2 ?p3 ?p4 ?p5 ?p6 ?p7) ?k1 ?k2 ?k3 ?k4 ?k5 ?k6 ?k7 ?k8 ?_); walk_at "use in"; (case p0 => k_mem); (case p1 => k_mem); (case p2 => walk_at "as"); (case p3 => walk_at "as"); (case p4 => walk_at "as"); (case p5 => first | with_reducible assumption | exact sm600 (by omega) (by omega)); (case p6 => walk_at "ao"); (case p7 => walk_at "ao"); intro _ _ _ _ hR; (obtain ⟨_, _, _, _, _, e1, e2, _, _, _, _, _, _⟩ := hR); subst e1; subst e2; walk_at "use new")
  k_with "call ref" => (k_here; (with_reducible show wpAny _ _ (call (Value.ref 205) _) _ _ _); (k_dflt refine' Spec.use (far0_spec _ _ _ _ _ ?p0 ?p2 ?p3 ?p4) ?k1 ?k2 ?k3 ?k4 ?k5 ?k6 ?k7 ?k8 ?_); walk_at "use in"; (case p0 => k_mem); (case p2 => walk_at "as"); (case p3 => walk_at "as"); (case p4 => walk_at "as"); intro _ _ _ _ hR; (obtain ⟨_, _, _, _, _, e1, e2, _, _, _, _, _, _⟩ := hR); subst e1; subst e2; walk_at "use new")
  k_with "call ref" => (k_here; (with_reducible show wpAny _ _ (call (Value.ref 212) _) _ _ _); (k_dflt refine' Spec.use (less_spec _ _ _ _ _ _ _ _ _ _ ?p0 ?p1 ?p2 ?p3 ?p4 ?p5) ?k1 ?k2 ?k3 ?k4 ?k5 ?k6 ?k7 ?k8 ?_); walk_at "use in"; (case p0 => k_mem); (case p1 => k_mem); (case p2 => walk_at "sm"); (case p3 => walk_at "sm"); (case p4 => walk_at "sm"); (case p5 => walk_at "sm"); intro _ _ _ _ hR; (obtain ⟨e1, e2⟩ := hR); subst e1; subst e2; walk_at "use end")
  k_with "sm" => first | with_reducible assumption | exact sm_small (by omega) (by omega)
  trivial
theorem sig_head {l : List Nat} {k : Int} (hd : ∀ c ∈ l, isD c = true) (hl : (l.length : Int) = k) (hk : 1 ≤ k) (hv : 10 ^ (k - 1).toNat ≤ (val l : Int)) : ¬ ([l.getD (Int.toNat 0) 0] = [48]) := by
  intro e
  have e1 : l.getD 0 0 = 48 := by simpa using e
  cases l with
  | nil => simp at hl; lia
  | cons c r =>
    have hc : c = 48 := by simpa using e1
    have h1 : val (c :: r) = val r := by
      have := val_append [c] r
      rw [val_one, hc] at this
      rw [hc]
      simpa using this
    have h2 := val_lt r fun x hx => hd x (List.mem_cons_of_mem _ hx)
    have h3 : (k - 1).toNat = r.length := by rw [List.length_cons] at hl; lia
    have h4 : ((10 ^ r.length : Nat) : Int) = 10 ^ r.length := by simp
    rw [h3, h1, ← h4] at hv
    lia
theorem SigR.low {n d k e side : Int} {l : List Nat} (hk : 1 ≤ k) (h : SigR n d k l e side) (hn : n ≠ 0) : 10 ^ (k - 1).toNat ≤ (val l : Int) := by
  obtain ⟨_, _, _, _, _, h6⟩ := h
  rcases h6 with ⟨h, _⟩ | ⟨_, E, r, _, _, h1, _, h2⟩
  · exact absurd h hn
  · rcases h2 with ⟨_, h, _⟩ | ⟨_, h, _⟩
    · rw [h]; exact h1
    · rw [h]; exact Int.le_refl _
theorem SigR.more {n d k e side : Int} {l : List Nat} (hk : 1 ≤ k) (hk2 : k ≤ 12) (h : SigR n d k l e side) :
    (l.length : Int) = k ∧ -9 ≤ e ∧ e ≤ 10 ∧ (0 < n → side = 1) ∧ (n < 0 → side = -1) ∧ (n = 0 → side = 0 ∧ e = 0 ∧ val l = 0) ∧ (∀ c ∈ l, isD c = true) ∧ (¬ n = 0 → ¬ ([l.getD (Int.toNat 0) 0] = [48])) ∧ val l ≤ 10 ^ 12 ∧ -1 ≤ side ∧ side ≤ 1 := by
  have hS := h
  obtain ⟨h1, h2, h3, h4, h5, h6⟩ := h
  have hv := val_lt l h2
  have hl : l.length ≤ 12 := by lia
  have hp : 10 ^ l.length ≤ 10 ^ 12 := Nat.pow_le_pow_right (by decide) hl
  refine ⟨h1, h3, h4, fun q => by rw [h5]; exact Int.sign_eq_one_of_pos q, fun q => by rw [h5]; exact Int.sign_eq_neg_one_of_neg q, fun q => ?_, h2, fun q => sig_head h2 h1 hk (hS.low hk q), by lia, ?_, ?_⟩
  · rcases h6 with ⟨_, a, b⟩ | ⟨a, _⟩
    · exact ⟨by rw [h5, q]; rfl, b, a⟩
    · exact absurd q a
  · rw [h5]
    rcases Int.lt_trichotomy n 0 with q | q | q
    · rw [Int.sign_eq_neg_one_of_neg q]; decide
    · rw [q]; decide
    · rw [Int.sign_eq_one_of_pos q]; decide
  · rw [h5]
    rcases Int.lt_trichotomy n 0 with q | q | q
    · rw [Int.sign_eq_neg_one_of_neg q]; decide
    · rw [q]; decide
    · rw [Int.sign_eq_one_of_pos q]; decide
theorem rows_f35_told_1 : True := by
  k_with "call ref" => (k_here; (with_reducible show wpAny _ _ (call (Value.ref 80) _) _ _ _); (k_dflt refine' Spec.use (sig_spec _ _ _ _ _ _ _ ?p0 ?p1 ?p2 ?p3 ?p4 ?p5) ?k1 ?k2 ?k3 ?k4 ?k5 ?k6 ?k7 ?k8 ?_); walk_at "use in"; (case p0 => k_mem); (case p1 => walk_at "as"); (case p2 => walk_at "as"); (case p3 => walk_at "as"); (case p4 => walk_at "ao"); (case p5 => walk_at "ao"); intro _ _ _ _ hR; (obtain ⟨_, _, _, _, _, _, _, _, e1, e2, hT, hS⟩ := hR); subst e1; subst e2; (obtain ⟨_, _, _, _, _, _, _, _, _, _, _⟩ := SigR.more (by with_reducible assumption) (by with_reducible assumption) hS); (have hcv := congrArg val (codes_nat hT)); walk_at "use end")
  trivial
section
variable {prog : Program} {w : World} {A : Around} {E : Value → Shared → Prop} {s : Shared} {a b n : Int} {t u : Tok} {Q : Value → Shared → Prop}
theorem t_powL {B : Int} (j : Nat) (hB : B = 10 ^ j) (hn : 0 ≤ n) (hn2 : n ≤ j) (hj : j ≤ 30) (h : ∀ r t' k, r = 10 ^ n.toNat → 1 ≤ r → r ≤ B → Q (.int r t') { s with toks := k }) : wpAny (model prog w) A (binaryOp .Pow (.int 10 t) (.int n u)) Q E s :=
  t_pow hn (by lia) (by decide) fun t' k => h _ t' k rfl (Int.add_one_le_of_lt (pow_pos10 _)) (by rw [hB]; exact pow_mono10 (by lia))
theorem t_mulS (h1 : -1 ≤ a) (h2 : a ≤ 1) (h3 : 0 ≤ b) (h4 : b ≤ 10 ^ 12) (h : ∀ r t' k, r = a * b → -(10 ^ 12) ≤ r → r ≤ 10 ^ 12 → Q (.int r t') { s with toks := k }) : wpAny (model prog w) A (binaryOp .Mult (.int a t) (.int b u)) Q E s := by
  have q : -(10 ^ 12) ≤ a * b ∧ a * b ≤ 10 ^ 12 := by
    have : a = -1 ∨ a = 0 ∨ a = 1 := by lia
    rcases this with h | h | h <;> rw [h] <;> lia
  exact t_mul (mulOkR (by lia) (by lia)) fun t' k => h _ t' k rfl q.1 q.2
theorem t_mulB (h1 : -(10 ^ 12) ≤ a) (h2 : a ≤ 10 ^ 12) (h3 : 1 ≤ b) (h4 : b ≤ 10 ^ 10) (h : ∀ r t' k, r = a * b → -(10 ^ 22) ≤ r → r ≤ 10 ^ 22 → Q (.int r t') { s with toks := k }) : wpAny (model prog w) A (binaryOp .Mult (.int a t) (.int b u)) Q E s := by
  have q1 := Int.mul_le_mul h2 h4 (by lia) (by decide)
  have q2 : -a * b ≤ 10 ^ 12 * 10 ^ 10 := Int.mul_le_mul (by lia) h4 (by lia) (by decide)
  rw [Int.neg_mul] at q2
  exact t_mul (mulOkR (by lia) (by lia)) fun t' k => h _ t' k rfl (by lia) (by lia)
end
theorem rows_f35_told_2 : True := by
  k_with "binaryOp Pow int int" => (k_here; (with_reducible refine' t_powL 20 rfl ?k1 ?k2 ?k3 ?_); (case k1 => omega); (case k2 => omega); (case k3 => decide); intro _ _ _ _ _ _)
  k_with "binaryOp Pow int int" => (k_here; (with_reducible refine' t_powL 10 rfl ?k1 ?k2 ?k3 ?_); (case k1 => omega); (case k2 => omega); (case k3 => decide); intro _ _ _ _ _ _)
  k_with "binaryOp Mult int int" => (k_here; (fail_if_success (with_reducible show wpAny _ _ (binaryOp _ _ (Value.int 10 _)) _ _ _)); first | ((with_reducible refine' t_mulS ?k1 ?k2 ?k3 ?k4 ?_); (case k1 => with_reducible assumption); (case k2 => with_reducible assumption); (case k3 => omega); (case k4 => omega); intro _ _ _ _ _ _) | ((with_reducible refine' t_mulB ?k5 ?k6 ?k7 ?k8 ?_); (case k5 => with_reducible assumption); (case k6 => with_reducible assumption); (case k7 => with_reducible assumption); (case k8 => omega); intro _ _ _ _ _ _))
  k_with "call builtin:str.index" => (k_here; (with_reducible refine' tx_index ?ha ?hb ?hc ?hA ?_); (case ha => walk_at "tx"); (case hb => walk_at "tx"); (case hc => walk_at "tx dig"); (case hA => with_unfolding_all rfl); intro _ _)
  k_with "ite" => (k_here; k_openite; (try simp only [beq_iff_eq, bne_iff_ne, decide_eq_true_eq]); (refine ite_neg ?hc ?_; (case hc => with_reducible exact (by assumption : _ → ¬ _) (by omega))))
  trivial
theorem ord4 {A B C D R : Prop} (f : A → B → C → D → R) (a : A) (d : D) (b : B) (c : C) : R := f a b c d
theorem rows_f35_told_3 : True := by
  k_with "all lt" => with_reducible first | assumption | exact And.right (by assumption : _ ∧ AllLt _ _) | exact And.right (And.right (by assumption : _ ∧ _ ∧ AllLt _ _)) | exact And.right (And.right (And.right (by assumption : _ ∧ _ ∧ _ ∧ AllLt _ _))) | exact And.right (And.right (And.right (And.right (by assumption : _ ∧ _ ∧ _ ∧ _ ∧ AllLt _ _)))) | exact And.right (And.right (And.right (And.right (And.right (by assumption : _ ∧ _ ∧ _ ∧ _ ∧ _ ∧ AllLt _ _)))))
  trivial
theorem bump_rn {A B A' B' p : Int} (hB : 0 < B) (hB' : 0 < B') (hx : A * B' = 10 * (A' * B)) (h : RN A B (10 * p)) (hA : A < 10 * p * B) : RN A' B' p := by
  obtain ⟨_, h1, _⟩ := h
  have a1 : A' < p * B' := by
    refine Int.lt_of_mul_lt_mul_left (a := 10 * B) ?_ (by lia)
    have := Int.mul_lt_mul_of_pos_right hA hB'
    calc 10 * B * A' = 10 * (A' * B) := by ac_rfl
      _ = A * B' := hx.symm
      _ < 10 * p * B * B' := this
      _ = 10 * B * (p * B') := by ac_rfl
  have a2 : 20 * (p * B') - B' ≤ 20 * A' := by
    refine Int.le_of_mul_le_mul_left (a := B) ?_ hB
    have := Int.mul_le_mul_of_nonneg_right (show 2 * (10 * p * B) - B ≤ 2 * A by lia) (show 0 ≤ B' by lia)
    calc B * (20 * (p * B') - B') = (2 * (10 * p * B) - B) * B' := by
          rw [Int.mul_sub, Int.sub_mul]
          congr 1
          · calc B * (20 * (p * B')) = 20 * (B * (p * B')) := by ac_rfl
              _ = 2 * 10 * (B * (p * B')) := rfl
              _ = 2 * (10 * p * B) * B' := by ac_rfl
      _ ≤ 2 * A * B' := this
      _ = 2 * (A * B') := by ac_rfl
      _ = 2 * (10 * (A' * B)) := by rw [hx]
      _ = 2 * 10 * (A' * B) := by ac_rfl
      _ = B * (20 * A') := by rw [show (2 : Int) * 10 = 20 by decide]; ac_rfl
  unfold RN
  lia
/-- the digits are the nearest on their own step -/
theorem SigR.rn {n d k e side : Int} {l : List Nat} (hd : 0 < d) (hk : 1 ≤ k) (h : SigR n d k l e side) : RN (num n (k - 1 - e)) (den d (k - 1 - e)) (val l) := by
  obtain ⟨_, _, _, _, _, h6⟩ := h
  rcases h6 with ⟨a, b, c⟩ | ⟨_, E, r, hE, hr, h1, h2, h3⟩
  · have : num n (k - 1 - e) = 0 := by unfold num; rw [a]; simp
    have hp := den_pos (j := k - 1 - e) hd
    rw [this, b]
    unfold RN
    simp
    lia
  · rcases h3 with ⟨_, b, c⟩ | ⟨a, b, c⟩
    · rw [b, c]; exact hr
    · have q : (10 : Int) ^ k.toNat = 10 * 10 ^ (k - 1).toNat := by
        have := pow_succ10 (e := k - 1) (by lia)
        rw [show k - 1 + 1 = k by lia] at this
        lia
      have x := scale_cross (n := n) (d := d) (i := k - 1 - E) (j := k - 1 - (E + 1)) (m := 1) (by lia)
      rw [b, c]
      refine bump_rn (den_pos hd) (den_pos hd) (by simpa using x) (by rw [← q, ← a]; exact hr) (by rw [← q]; exact (exp_scaled hd hk hE).2)
theorem rn_abs {A B r : Int} (h : RN A B r) : 2 * ((A - r * B).natAbs : Int) ≤ B ∧ (2 * ((A - r * B).natAbs : Int) = B → r % 2 = 0) := by
  unfold RN at h
  lia
theorem dist_sign {n side V X : Int} (hs : side = n.sign) (hn : n ≠ 0) : (n * X - side * V).natAbs = (n.natAbs * X - V).natAbs := by
  rcases Int.lt_trichotomy n 0 with q | q | q
  · rw [hs, Int.sign_eq_neg_one_of_neg q]
    have e : n * X - -1 * V = -(n.natAbs * X - V) := by
      have : (n.natAbs : Int) = -n := by lia
      rw [this, Int.neg_mul, Int.neg_mul]
      lia
    rw [e, Int.natAbs_neg]
  · exact absurd q hn
  · rw [hs, Int.sign_eq_one_of_pos q]
    have e : (n.natAbs : Int) = n := by lia
    rw [e, Int.one_mul]
/-- what is told of the distance: at most half a unit, at half of it the digits are even -/
theorem told_up {n d k e side r w2 w3 r1 r2 r3 f : Int} {v : Nat} {l : List Nat} (h3 : w3 = ((n * 1 - r1 * d).natAbs : Int)) (h1 : r1 = r3 * r2) (h33 : r3 = side * f) (h2 : r2 = 10 ^ (e - k + 1).toNat) (hr : r = 10 ^ (e - k + 1).toNat) (hw : w2 = d * 1) (hf : f = (v : Nat)) (hcv : v = val l)
    (hS : SigR n d k l e side) (hd : 0 < d) (hk : 1 ≤ k) (hn : n ≠ 0) (h0 : 0 ≤ e - k + 1) : (r * w2 < 2 * w3 * 1 → False) ∧ (¬ (2 * w3 * 1 < r * w2) → f.fmod 2 = 1 → False) := by
  have q := rn_abs (hS.rn hd hk)
  have e1 : num n (k - 1 - e) = n.natAbs * 1 := by unfold num; rw [show (k - 1 - e).toNat = 0 by lia]; simp
  have e2 : den d (k - 1 - e) = r * w2 := by unfold den; rw [hr, hw, show -(k - 1 - e) = e - k + 1 by lia, Int.mul_one, Int.mul_comm]
  have e3 : ((n * 1 - r1 * d).natAbs : Int) = ((num n (k - 1 - e) - val l * den d (k - 1 - e)).natAbs : Int) := by
    have : r1 * d = side * (val l * den d (k - 1 - e)) := by
      rw [h1, h33, hf, hcv, e2, h2, ← hr, hw, Int.mul_one]
      ac_rfl
    rw [this, dist_sign hS.facts.2.2.2 hn, e1]
  rw [← h3] at e3
  rw [← e3, e2] at q
  refine ⟨by lia, fun g1 g2 => ?_⟩
  have g3 := q.2 (by lia)
  rw [hf, hcv, Int.fmod_eq_emod_of_nonneg _ (by decide)] at g2
  lia
theorem told_dn {n d k e side r w2 w3 r1 r3 f : Int} {v : Nat} {l : List Nat} (h3 : w3 = ((n * r1 - r3 * d).natAbs : Int)) (h33 : r3 = side * f) (h1 : r1 = 10 ^ (0 - (e - k + 1)).toNat) (hr : r = 10 ^ (0 - (e - k + 1)).toNat) (hw : w2 = d * r1) (hf : f = (v : Nat)) (hcv : v = val l)
    (hS : SigR n d k l e side) (hd : 0 < d) (hk : 1 ≤ k) (hn : n ≠ 0) (h0 : ¬ 0 ≤ e - k + 1) : (1 * w2 < 2 * w3 * r → False) ∧ (¬ (2 * w3 * r < 1 * w2) → f.fmod 2 = 1 → False) := by
  have q := rn_abs (hS.rn hd hk)
  have hrp : 0 < r := by rw [hr]; exact pow_pos10 _
  have e1 : num n (k - 1 - e) = n.natAbs * r1 := by unfold num; rw [h1, show (k - 1 - e) = 0 - (e - k + 1) by lia]
  have e2 : den d (k - 1 - e) = d := den_up (by lia)
  have e3 : ((n * r1 - r3 * d).natAbs : Int) = ((num n (k - 1 - e) - val l * den d (k - 1 - e)).natAbs : Int) := by
    have : r3 * d = side * (val l * den d (k - 1 - e)) := by
      rw [h33, hf, hcv, e2]
      ac_rfl
    rw [this, dist_sign hS.facts.2.2.2 hn, e1]
  rw [← h3] at e3
  rw [← e3, e2] at q
  have e4 : 1 * w2 = d * r := by rw [hw, h1, ← hr, Int.one_mul]
  refine ⟨fun g => ?_, fun g1 g2 => ?_⟩
  · rw [e4] at g
    have := Int.lt_of_mul_lt_mul_right g (Int.le_of_lt hrp)
    lia
  · rw [e4] at g1
    have g4 : ¬ 2 * w3 < d := fun c => g1 (Int.mul_lt_mul_of_pos_right c hrp)
    have g3 := q.2 (by lia)
    rw [hf, hcv, Int.fmod_eq_emod_of_nonneg _ (by decide)] at g2
    lia
/-- P / Q is the value that the digits tell -/
def ValR (n d k P Q : Int) : Prop := ∃ l e side, SigR n d k l e side ∧ 0 < Q ∧ P * 10 ^ (-(e - k + 1)).toNat = side * val l * 10 ^ (e - k + 1).toNat * Q ∧ -(10 ^ 22) ≤ P ∧ P ≤ 10 ^ 22 ∧ Q ≤ 10 ^ 20
theorem val_up {n d k e side r1 r2 r3 f : Int} {v : Nat} {l : List Nat} (h1 : r1 = r3 * r2) (h33 : r3 = side * f) (h2 : r2 = 10 ^ (e - k + 1).toNat) (hf : f = (v : Nat)) (hcv : v = val l) (hS : SigR n d k l e side) (h0 : 0 ≤ e - k + 1) (hb : -(10 ^ 22) ≤ r1) (hb2 : r1 ≤ 10 ^ 22) : ValR n d k r1 1 := by
  refine ⟨l, e, side, hS, by decide, ?_, hb, hb2, by decide⟩
  rw [show (-(e - k + 1)).toNat = 0 by lia, h1, h33, h2, hf, hcv]
  simp
theorem val_dn {n d k e side r1 r3 f : Int} {v : Nat} {l : List Nat} (h33 : r3 = side * f) (h1 : r1 = 10 ^ (0 - (e - k + 1)).toNat) (hf : f = (v : Nat)) (hcv : v = val l) (hS : SigR n d k l e side) (h0 : ¬ 0 ≤ e - k + 1) (hb : -(10 ^ 12) ≤ r3) (hb2 : r3 ≤ 10 ^ 12) (hq : r1 ≤ 10 ^ 20) : ValR n d k r3 r1 := by
  refine ⟨l, e, side, hS, by rw [h1]; exact pow_pos10 _, ?_, by lia, by lia, hq⟩
  rw [show (e - k + 1).toNat = 0 by lia, h33, h1, hf, hcv, show -(e - k + 1) = 0 - (e - k + 1) by lia]
  simp
theorem eq_int_t {prog : Program} {w : World} {A : Around} {E : Value → Shared → Prop} {s : Shared} {a b : Int} {t u : Tok} {Q : Value → Shared → Prop} (e : a = b) (h : Q (.bool true) s) : wpAny (model prog w) A (compareOp .Eq (.int a t) (.int b u)) Q E s := by
  subst e
  refine PyProof.Rows.eq_int ?_
  rwa [beq_self_eq_true]
theorem rows_f35_told_4 : True := by
  k_with "compareOp Eq int int" => (k_here; (with_reducible refine' eq_int_t ?hc ?_); (case hc => omega))
  trivial
set_option maxHeartbeats 4000000 in
theorem told_spec {w : World} {mean mg mb} {news} (n d k : Int) (tn td tk : Tok) (b : Addr) (hb : (b, tupO [.int n tn, .int d td]) ∈ news) (hn2 : n.natAbs ≤ 10 ^ 8) (hd : 0 < d) (hd2 : d ≤ 10 ^ 8) (hk1 : 1 ≤ k) (hk2 : k ≤ 12) :
    Spec 8 w mean mg mb 219 [.ref b, .int k tk] news (fun v add => ∃ a o P Q t u, v = .ref a ∧ add = [(a, tupO [.bool true, .ref o]), (o, tupO [.int P t, .int Q u])] ∧ ValR n d k P Q) := by
  w_top off
  unfold Spec; k_fill
  intro dp un gd cn cs a0 ccd cl outer A0 base h0 L0 m0 s0 Q0 E0 B F X N T hk hdp hun hret
  k_dflt refine' enter_def [(Str.ofString "many", Value.int k tk), (Str.ofString "x", Value.ref b)] ?k1 ?k2 ?k3 ?k4 ?k5 ?k6 ?k7 ?k8 ?k9 ?ka ?kb ?_ ?kc ?kd ?ke ?kf
  walk_at "enter"
  k_with "pyIter str" => k_state (fun pre v => v = (val (pre.map Int.toNat) : Nat)) "total"
  k_with "state" => with_reducible first | exact rfl | exact dv_turn (by assumption)
  k_with "exec If" => ((with_reducible show wpAny _ _ (exec (Stmt.If (Expr.BoolOp _ _ _) _ _ _) _) _ _ _); (fail_if_success (with_reducible show wpAny _ _ _ (JoinP _ _ _ _ _) _ _)); (with_reducible rename Fr _ _ _ _ => F'); (with_reducible rename News _ _ _ _ => N'); (k_dflt refine' join_if (fun m m' => m' = m) F' N' ?_ ?_); rotate_left; clear F' N'; intro h' tk' m' P' F' N'; (try dsimp only at P'); subst P'; (try k_sweep))
  k_steps
  all_goals first
    | (refine ⟨rfl, _, _, _, rfl, by with_reducible assumption, by with_reducible assumption, rfl⟩)
    | (exfalso; with_reducible exact (told_up (by assumption) (by assumption) (by assumption) (by assumption) (by assumption) (by assumption) (by assumption) (by assumption) (by assumption) hd hk1 (by assumption) (by assumption)).1 (by assumption))
    | (exfalso; with_reducible exact (told_dn (by assumption) (by assumption) (by assumption) (by assumption) (by assumption) (by assumption) (by assumption) (by assumption) hd hk1 (by assumption) (by assumption)).1 (by assumption))
    | (exfalso; with_reducible exact (told_up (by assumption) (by assumption) (by assumption) (by assumption) (by assumption) (by assumption) (by assumption) (by assumption) (by assumption) hd hk1 (by assumption) (by assumption)).2 (by assumption) (by assumption))
    | (exfalso; with_reducible exact (told_dn (by assumption) (by assumption) (by assumption) (by assumption) (by assumption) (by assumption) (by assumption) (by assumption) hd hk1 (by assumption) (by assumption)).2 (by assumption) (by assumption))
    | (refine' ord4 (hret _ [_, _] _ _) ⟨_, _, _, _, _, _, rfl, rfl, ?_⟩ (by walk_at "news end") (by walk_at "fresh2") (by with_reducible assumption); with_reducible first | exact val_up (by assumption) (by assumption) (by assumption) (by assumption) (by assumption) (by assumption) (by assumption) (by assumption) (by assumption) | exact val_dn (by assumption) (by assumption) (by assumption) (by assumption) (by assumption) (by assumption) (by assumption) (by assumption) (by assumption))


/-! the plain law -/
/-- 10 ^ s, forty places up -/
def pw (s : Int) : Int := 10 ^ (s + 40).toNat
theorem pw_pos {s : Int} : 0 < pw s := pow_pos10 _
theorem pw_add {a : Int} {m : Nat} (ha : -40 ≤ a) : pw (a + m) = pw a * 10 ^ m := by
  unfold pw
  rw [← Int.pow_add]
  congr 1
  lia
theorem pw_mono {a b : Int} (h : a ≤ b) : pw a ≤ pw b := pow_mono10 (by lia)
theorem pw_lt {a b : Int} (h : pw a < pw b) : a < b := Int.not_le.mp fun c => absurd (pw_mono c) (by lia)
theorem scale40 {n d s : Int} (hs : -40 ≤ s) : num n (-s) * (d * pw s) = den d (-s) * (n.natAbs * pw 0) := by
  unfold num den pw
  have e : (10 : Int) ^ (-s).toNat * 10 ^ (s + 40).toNat = 10 ^ (- -s).toNat * 10 ^ (0 + 40 : Int).toNat := by
    rw [← Int.pow_add, ← Int.pow_add]
    congr 1
    omega
  calc (n.natAbs : Int) * 10 ^ (-s).toNat * (d * 10 ^ (s + 40).toNat) = n.natAbs * d * (10 ^ (-s).toNat * 10 ^ (s + 40).toNat) := by ac_rfl
    _ = n.natAbs * d * (10 ^ (- -s).toNat * 10 ^ (0 + 40 : Int).toNat) := by rw [e]
    _ = _ := by ac_rfl
theorem rn_trans {A B A' B' r : Int} (hB : 0 < B) (hB' : 0 < B') (hx : A * B' = B * A') (h : RN A B r) : RN A' B' r := by
  have key : B' * (A - r * B) = B * (A' - r * B') := by
    rw [Int.mul_sub, Int.mul_sub, Int.mul_comm B' A, hx]
    congr 1
    ac_rfl
  unfold RN at h ⊢
  generalize A - r * B = U at *
  generalize A' - r * B' = U' at *
  obtain ⟨h1, h2, h3⟩ := h
  have k2 : B' * (2 * U) = B * (2 * U') := by
    calc B' * (2 * U) = 2 * (B' * U) := by ac_rfl
      _ = 2 * (B * U') := by rw [key]
      _ = _ := by ac_rfl
  refine ⟨?_, ?_, fun c => h3 ?_⟩
  · refine Int.le_of_mul_le_mul_left (a := B) ?_ hB
    rw [← k2, Int.mul_comm B B']
    exact Int.mul_le_mul_of_nonneg_left h1 (Int.le_of_lt hB')
  · refine Int.le_of_mul_le_mul_left (a := B) ?_ hB
    rw [← k2]
    have := Int.mul_le_mul_of_nonneg_left h2 (Int.le_of_lt hB')
    rw [Int.mul_neg] at this ⊢
    rwa [Int.mul_comm B B']
  · rcases c with c | c
    · left
      refine Int.eq_of_mul_eq_mul_left (show B' ≠ 0 by lia) ?_
      rw [k2, c, Int.mul_comm]
    · right
      refine Int.eq_of_mul_eq_mul_left (show B' ≠ 0 by lia) ?_
      rw [k2, c, Int.mul_neg, Int.mul_neg, Int.mul_comm]
theorem rn_mono {A B A' B' r r' : Int} (hB : 0 < B) (hB' : 0 < B') (hx : A * B' ≤ A' * B) (h : RN A B r) (h' : RN A' B' r') : r ≤ r' := by
  refine Int.not_lt.mp fun c => ?_
  obtain ⟨_, h2, h3⟩ := h
  obtain ⟨g1, _, g3⟩ := h'
  have e1 : (2 * r - 1) * B ≤ 2 * A := by rw [Int.sub_mul, Int.mul_assoc, Int.one_mul]; lia
  have e2 : 2 * A' ≤ (2 * r' + 1) * B' := by rw [Int.add_mul, Int.mul_assoc, Int.one_mul]; lia
  have f1 := Int.mul_le_mul_of_nonneg_right e1 (Int.le_of_lt hB')
  have f2 := Int.mul_le_mul_of_nonneg_right e2 (Int.le_of_lt hB)
  have f3 : 2 * A * B' ≤ 2 * A' * B := by rw [Int.mul_assoc, Int.mul_assoc]; lia
  have f4 : (2 * r - 1) * (B * B') ≤ (2 * r' + 1) * (B * B') := by
    calc (2 * r - 1) * (B * B') = (2 * r - 1) * B * B' := by ac_rfl
      _ ≤ 2 * A * B' := f1
      _ ≤ 2 * A' * B := f3
      _ ≤ (2 * r' + 1) * B' * B := f2
      _ = (2 * r' + 1) * (B * B') := by ac_rfl
  have f5 := Int.le_of_mul_le_mul_right f4 (Int.mul_pos hB hB')
  have hr : r = r' + 1 := by lia
  have f6 : (2 * r - 1) * B * B' = (2 * r' + 1) * B' * B := by
    rw [show 2 * r - 1 = 2 * r' + 1 by lia]
    ac_rfl
  have i1 : 2 * A = (2 * r - 1) * B := by
    refine Int.eq_of_mul_eq_mul_right (show B' ≠ 0 by lia) ?_
    omega
  have i2 : 2 * A' = (2 * r' + 1) * B' := by
    refine Int.eq_of_mul_eq_mul_right (show B ≠ 0 by lia) ?_
    omega
  rw [Int.sub_mul, Int.mul_assoc, Int.one_mul] at i1
  rw [Int.add_mul, Int.mul_assoc, Int.one_mul] at i2
  have j1 := h3 (.inr (by lia))
  have j2 := g3 (.inl (by lia))
  lia
theorem rn_near {A B r : Int} (hB : 0 < B) (h : RN A B r) (M : Int) : (A - r * B).natAbs ≤ (A - M * B).natAbs := by
  obtain ⟨h1, h2, _⟩ := h
  rcases Int.lt_trichotomy M r with c | c | c
  · have := Int.mul_le_mul_of_nonneg_right (show M + 1 ≤ r by lia) (Int.le_of_lt hB)
    rw [Int.add_mul, Int.one_mul] at this
    omega
  · rw [c]; exact Nat.le_refl _
  · have := Int.mul_le_mul_of_nonneg_right (show r + 1 ≤ M by lia) (Int.le_of_lt hB)
    rw [Int.add_mul, Int.one_mul] at this
    omega
/-- E is the exponent, r the rounded count, W the rounded value, forty places up -/
def Val40 (n d k E r W : Int) : Prop := -12 ≤ E ∧ E ≤ 12 ∧ d * pw E ≤ n.natAbs * pw 0 ∧ n.natAbs * pw 0 < 10 * (d * pw E) ∧ RN (n.natAbs * pw 0) (d * pw (E - k + 1)) r ∧ 10 ^ (k - 1).toNat ≤ r ∧ r ≤ 10 ^ k.toNat ∧ W = r * pw (E - k + 1)
theorem exp40 {n d E : Int} (hd : 0 < d) (hE : -40 ≤ E) (h : IsExp n d E) : d * pw E ≤ n.natAbs * pw 0 ∧ n.natAbs * pw 0 < 10 * (d * pw E) := by
  have x := exp_scaled (k := 1) hd (by decide) h
  have e0 : (1 : Int) - 1 - E = -E := by lia
  have e1 : (10 : Int) ^ ((1 : Int) - 1).toNat = 1 := rfl
  have e2 : (10 : Int) ^ (1 : Int).toNat = 10 := rfl
  rw [e0, e1, e2, Int.one_mul] at x
  have s := scale40 (n := n) (d := d) hE
  have p1 := den_pos (j := -E) hd
  have p2 : 0 < d * pw E := Int.mul_pos hd pw_pos
  generalize num n (-E) = A at *
  generalize den d (-E) = B at *
  generalize d * pw E = Y at *
  generalize (n.natAbs : Int) * pw 0 = X at *
  constructor
  · refine Int.le_of_mul_le_mul_left (a := B) ?_ p1
    rw [← s]
    exact Int.mul_le_mul_of_nonneg_right x.1 (Int.le_of_lt p2)
  · refine Int.lt_of_mul_lt_mul_left (a := B) ?_ (Int.le_of_lt p1)
    rw [← s]
    calc A * Y < 10 * B * Y := Int.mul_lt_mul_of_pos_right x.2 p2
      _ = B * (10 * Y) := by ac_rfl
theorem rn40 {n d s r : Int} (hd : 0 < d) (hs : -40 ≤ s) (h : RN (num n (-s)) (den d (-s)) r) : RN (n.natAbs * pw 0) (d * pw s) r :=
  rn_trans (den_pos hd) (Int.mul_pos hd pw_pos) (scale40 hs) h
theorem SigR.val40 {n d k e side : Int} {l : List Nat} (hd : 0 < d) (hk : 1 ≤ k) (hk2 : k ≤ 12) (hn : n ≠ 0) (h : SigR n d k l e side) : ∃ E r, Val40 n d k E r (val l * pw (e - k + 1)) ∧ (e = E ∨ e = E + 1) := by
  obtain ⟨_, _, h3, h4, _, h6⟩ := h
  rcases h6 with ⟨a, _⟩ | ⟨_, E, r, hE, hr, h1, h2, hc⟩
  · exact absurd a hn
  · have q : e = E ∨ e = E + 1 := by rcases hc with ⟨_, _, c⟩ | ⟨_, _, c⟩ <;> lia
    have x := exp40 hd (by lia) hE
    have e1 : k - 1 - E = -(E - k + 1) := by lia
    rw [e1] at hr
    refine ⟨E, r, ⟨by lia, by lia, x.1, x.2, rn40 hd (by lia) hr, h1, h2, ?_⟩, q⟩
    rcases hc with ⟨_, b, c⟩ | ⟨a, b, c⟩
    · rw [b, c]
    · rw [a, b, c, show E + 1 - k + 1 = (E - k + 1) + (1 : Nat) by lia, pw_add (by lia)]
      have : (10 : Int) ^ k.toNat = 10 ^ (k - 1).toNat * 10 := by
        have := pow_succ10 (e := k - 1) (by lia)
        rwa [show k - 1 + 1 = k by lia] at this
      rw [this]
      simp
      ac_rfl
theorem exp_le {n d E n' d' E' : Int} (hd : 0 < d) (hd' : 0 < d') (h1 : d * pw E ≤ n.natAbs * pw 0) (h2 : (n'.natAbs : Int) * pw 0 < 10 * (d' * pw E')) (hE : -12 ≤ E') (hx : (n.natAbs : Int) * d' ≤ n'.natAbs * d) : E ≤ E' := by
  have a1 := Int.mul_le_mul_of_nonneg_right h1 (Int.le_of_lt hd')
  have a2 := Int.mul_lt_mul_of_pos_right h2 hd
  have a3 := Int.mul_le_mul_of_nonneg_right hx (Int.le_of_lt (pw_pos (s := 0)))
  have a4 : d * d' * pw E < d * d' * pw (E' + (1 : Nat)) := by
    rw [pw_add (by lia)]
    calc d * d' * pw E = d * pw E * d' := by ac_rfl
      _ ≤ n.natAbs * pw 0 * d' := a1
      _ = n.natAbs * d' * pw 0 := by ac_rfl
      _ ≤ n'.natAbs * d * pw 0 := a3
      _ = n'.natAbs * pw 0 * d := by ac_rfl
      _ < 10 * (d' * pw E') * d := a2
      _ = d * d' * (pw E' * 10 ^ 1) := by rw [show (10 : Int) ^ 1 = 10 by decide]; ac_rfl
  have a5 := pw_lt (Int.lt_of_mul_lt_mul_left a4 (Int.le_of_lt (Int.mul_pos hd hd')))
  lia
theorem val_mono {n d k E r W n' d' E' r' W' : Int} (hd : 0 < d) (hd' : 0 < d') (hk : 1 ≤ k) (hk2 : k ≤ 12) (h : Val40 n d k E r W) (h' : Val40 n' d' k E' r' W') (hx : (n.natAbs : Int) * d' ≤ n'.natAbs * d) : W ≤ W' := by
  obtain ⟨h1, h2, h3, h4, h5, h6, h7, h8⟩ := h
  obtain ⟨g1, g2, g3, g4, g5, g6, g7, g8⟩ := h'
  have q := exp_le hd hd' h3 g4 g1 hx
  rcases Int.lt_or_eq_of_le q with c | c
  · rw [h8, g8]
    have e1 : pw (E + 1) = 10 ^ k.toNat * pw (E - k + 1) := by
      rw [show E + 1 = (E - k + 1) + (k.toNat : Nat) by lia, pw_add (by lia), Int.mul_comm]
    have e2 : pw E' = 10 ^ (k - 1).toNat * pw (E' - k + 1) := by
      have := pw_add (a := E' - k + 1) (m := (k - 1).toNat) (by lia)
      rw [show (E' - k + 1) + (((k - 1).toNat : Nat) : Int) = E' by lia] at this
      rw [this, Int.mul_comm]
    calc r * pw (E - k + 1) ≤ 10 ^ k.toNat * pw (E - k + 1) := Int.mul_le_mul_of_nonneg_right h7 (Int.le_of_lt pw_pos)
      _ = pw (E + 1) := e1.symm
      _ ≤ pw E' := pw_mono (by lia)
      _ = 10 ^ (k - 1).toNat * pw (E' - k + 1) := e2
      _ ≤ r' * pw (E' - k + 1) := Int.mul_le_mul_of_nonneg_right g6 (Int.le_of_lt pw_pos)
  · subst c
    rw [h8, g8]
    refine Int.mul_le_mul_of_nonneg_right (rn_mono (Int.mul_pos hd pw_pos) (Int.mul_pos hd' pw_pos) ?_ h5 g5) (Int.le_of_lt pw_pos)
    calc (n.natAbs : Int) * pw 0 * (d' * pw (E - k + 1)) = n.natAbs * d' * (pw 0 * pw (E - k + 1)) := by ac_rfl
      _ ≤ n'.natAbs * d * (pw 0 * pw (E - k + 1)) := Int.mul_le_mul_of_nonneg_right hx (Int.le_of_lt (Int.mul_pos pw_pos pw_pos))
      _ = n'.natAbs * pw 0 * (d * pw (E - k + 1)) := by ac_rfl


theorem pw_split {s : Int} (hs : -40 ≤ s) : (10 : Int) ^ (-s).toNat * pw s = pw 0 * 10 ^ s.toNat := by
  unfold pw
  rw [← Int.pow_add, ← Int.pow_add]
  congr 1
  lia
theorem pw_split2 {E : Int} {kb : Nat} (hs : -40 ≤ E - kb) : (10 : Int) ^ kb * 10 ^ (-E).toNat * pw (E - kb) = pw 0 * 10 ^ E.toNat := by
  unfold pw
  rw [← Int.pow_add, ← Int.pow_add, ← Int.pow_add]
  congr 1
  lia
theorem ValR.w {n d k P Q : Int} (hd : 0 < d) (hk : 1 ≤ k) (hk2 : k ≤ 12) (h : ValR n d k P Q) : 0 < Q ∧ (n = 0 → P = 0) ∧ (n ≠ 0 → ∃ E r W, Val40 n d k E r W ∧ P * pw 0 = n.sign * W * Q) := by
  obtain ⟨l, e, side, hS, hQ, heq, _, _, _⟩ := h
  have h4 := hS.facts.2.2.2
  refine ⟨hQ, fun hn => ?_, fun hn => ?_⟩
  · rw [h4, hn] at heq
    have e0 : P * 10 ^ (-(e - k + 1)).toNat = 0 := by rw [heq]; simp
    exact (Int.mul_eq_zero.mp e0).resolve_right (by have := pow_pos10 (-(e - k + 1)).toNat; lia)
  · obtain ⟨E, r, hv, _⟩ := hS.val40 hd hk hk2 hn
    refine ⟨E, r, _, hv, ?_⟩
    have b := hS.facts
    have hs := pw_split (s := e - k + 1) (by lia)
    refine Int.eq_of_mul_eq_mul_right (show (10 : Int) ^ (e - k + 1).toNat ≠ 0 by have := pow_pos10 (e - k + 1).toNat; lia) ?_
    calc P * pw 0 * 10 ^ (e - k + 1).toNat = P * (pw 0 * 10 ^ (e - k + 1).toNat) := by ac_rfl
      _ = P * (10 ^ (-(e - k + 1)).toNat * pw (e - k + 1)) := by rw [hs]
      _ = P * 10 ^ (-(e - k + 1)).toNat * pw (e - k + 1) := by ac_rfl
      _ = side * val l * 10 ^ (e - k + 1).toNat * Q * pw (e - k + 1) := by rw [heq]
      _ = side * (val l * pw (e - k + 1)) * Q * 10 ^ (e - k + 1).toNat := by ac_rfl
      _ = n.sign * (val l * pw (e - k + 1)) * Q * 10 ^ (e - k + 1).toNat := by rw [h4]
theorem dec_w {neg : Bool} {V kb : Nat} {E p q : Int} (hs : -40 ≤ E - kb) (h : DecS neg V kb E p q) : p * pw 0 = (if neg then -(V : Int) else V) * pw (E - kb) * q := by
  unfold DecS at h
  generalize (if neg then -(V : Int) else V) = S at *
  have q2 := pw_split2 hs
  refine Int.eq_of_mul_eq_mul_right (show (10 : Int) ^ E.toNat ≠ 0 by have := pow_pos10 E.toNat; lia) ?_
  calc p * pw 0 * 10 ^ E.toNat = p * (pw 0 * 10 ^ E.toNat) := by ac_rfl
    _ = p * (10 ^ kb * 10 ^ (-E).toNat * pw (E - kb)) := by rw [q2]
    _ = p * 10 ^ kb * 10 ^ (-E).toNat * pw (E - kb) := by ac_rfl
    _ = S * 10 ^ E.toNat * q * pw (E - kb) := by rw [h]
    _ = S * pw (E - kb) * q * 10 ^ E.toNat := by ac_rfl
theorem dist_w {n d P Q W : Int} (hn : n ≠ 0) (hP : P * pw 0 = n.sign * W * Q) : (n * Q - P * d).natAbs * (pw 0).natAbs = (n.natAbs * pw 0 - W * d).natAbs * Q.natAbs := by
  have e : (n * Q - P * d) * pw 0 = (n * pw 0 - n.sign * (W * d)) * Q := by
    rw [Int.sub_mul, Int.sub_mul]
    congr 1
    · ac_rfl
    · calc P * d * pw 0 = P * pw 0 * d := by ac_rfl
        _ = n.sign * W * Q * d := by rw [hP]
        _ = n.sign * (W * d) * Q := by ac_rfl
  rw [← Int.natAbs_mul, e, Int.natAbs_mul, dist_sign rfl hn]
theorem sign_if {n : Int} {T : Int} (hn : n ≠ 0) : (if decide (n < 0) then -T else T) = n.sign * T := by
  rcases Int.lt_trichotomy n 0 with q | q | q
  · rw [Int.sign_eq_neg_one_of_neg q, if_pos (decide_eq_true q)]; lia
  · exact absurd q hn
  · rw [Int.sign_eq_one_of_pos q, if_neg (by simp; lia)]; lia
/-- the printed text is no farther off than the digits -/
def Near (n d k : Int) (V kb : Nat) (E : Int) : Prop := (n = 0 → V = 0) ∧ (n ≠ 0 → ∀ E0 r W, Val40 n d k E0 r W → (n.natAbs * pw 0 - V * pw (E - kb) * d).natAbs ≤ (n.natAbs * pw 0 - W * d).natAbs)
theorem law_close {n d k P Q p q : Int} {V kb : Nat} {E : Int} (hd : 0 < d) (hk : 1 ≤ k) (hk2 : k ≤ 12) (near : Near n d k V kb E) (hE : -40 ≤ E - kb) (hV : ValR n d k P Q) (hq : 0 < q) (hD : DecS (decide (n < 0)) V kb E p q) :
    ¬ (((n * Q - P * d).natAbs : Int) * (d * q) < ((n * q - p * d).natAbs : Int) * (d * Q)) := by
  obtain ⟨hQ, w0, w1⟩ := hV.w hd hk hk2
  have hp := dec_w hE hD
  intro c
  by_cases hn : n = 0
  · have e1 := near.1 hn
    rw [e1] at hp
    have e2 : p * pw 0 = 0 := by rw [hp]; simp
    have e3 : p = 0 := (Int.mul_eq_zero.mp e2).resolve_right (by have := pw_pos (s := 0); lia)
    rw [hn, e3, w0 hn] at c
    simp at c
  · obtain ⟨E0, r, W, hv, hP⟩ := w1 hn
    have hU := near.2 hn E0 r W hv
    have hp' : p * pw 0 = n.sign * (V * pw (E - kb)) * q := by rw [hp, sign_if hn]; ac_rfl
    have a1 := dist_w (d := d) hn hP
    have a2 := dist_w (d := d) hn hp'
    have hpw : 0 < (pw 0).natAbs := by have := pw_pos (s := 0); lia
    generalize (n * Q - P * d).natAbs = x1 at *
    generalize (n * q - p * d).natAbs = x2 at *
    generalize (n.natAbs * pw 0 - W * d).natAbs = U at *
    generalize (n.natAbs * pw 0 - V * pw (E - kb) * d).natAbs = U' at *
    generalize (pw 0).natAbs = Z at *
    obtain ⟨Q', rfl⟩ := Int.eq_ofNat_of_zero_le (Int.le_of_lt hQ)
    obtain ⟨q', rfl⟩ := Int.eq_ofNat_of_zero_le (Int.le_of_lt hq)
    obtain ⟨d', rfl⟩ := Int.eq_ofNat_of_zero_le (Int.le_of_lt hd)
    simp only [Int.natAbs_natCast] at a1 a2
    have c' : x1 * (d' * q') < x2 * (d' * Q') := by exact_mod_cast c
    have c2 := Nat.mul_lt_mul_of_pos_right c' hpw
    have c3 : U * (Q' * d' * q') < U' * (Q' * d' * q') := by
      calc U * (Q' * d' * q') = U * Q' * (d' * q') := by ac_rfl
        _ = x1 * Z * (d' * q') := by rw [a1]
        _ = x1 * (d' * q') * Z := by ac_rfl
        _ < x2 * (d' * Q') * Z := c2
        _ = x2 * Z * (d' * Q') := by ac_rfl
        _ = U' * q' * (d' * Q') := by rw [a2]
        _ = U' * (Q' * d' * q') := by ac_rfl
    exact absurd (Nat.lt_of_mul_lt_mul_right c3) (by lia)
theorem Val40.pos {n d k E r W : Int} (h : Val40 n d k E r W) : 0 < W := by
  obtain ⟨_, _, _, _, _, h6, _, h8⟩ := h
  rw [h8]
  exact Int.mul_pos (by have := pow_pos10 (k - 1).toNat; lia) pw_pos
theorem law_mono {n d k P Q n' d' P' Q' : Int} (hd : 0 < d) (hd' : 0 < d') (hk : 1 ≤ k) (hk2 : k ≤ 12) (h : ValR n d k P Q) (h' : ValR n' d' k P' Q') (hx : n * d' < n' * d) : ¬ (P' * Q < P * Q') := by
  obtain ⟨hQ, w0, w1⟩ := h.w hd hk hk2
  obtain ⟨hQ', v0, v1⟩ := h'.w hd' hk hk2
  have key : ∀ S S' : Int, P * pw 0 = S * Q → P' * pw 0 = S' * Q' → S ≤ S' → ¬ (P' * Q < P * Q') := by
    intro S S' e1 e2 hS c
    have c2 := Int.mul_lt_mul_of_pos_right c (pw_pos (s := 0))
    have c3 : S' * (Q * Q') < S * (Q * Q') := by
      calc S' * (Q * Q') = S' * Q' * Q := by ac_rfl
        _ = P' * pw 0 * Q := by rw [e2]
        _ = P' * Q * pw 0 := by ac_rfl
        _ < P * Q' * pw 0 := c2
        _ = P * pw 0 * Q' := by ac_rfl
        _ = S * Q * Q' := by rw [e1]
        _ = S * (Q * Q') := by ac_rfl
    have := Int.lt_of_mul_lt_mul_right c3 (Int.le_of_lt (Int.mul_pos hQ hQ'))
    lia
  rcases Int.lt_trichotomy n 0 with q | q | q
  · obtain ⟨E, r, W, hv, e1⟩ := w1 (by lia)
    rw [Int.sign_eq_neg_one_of_neg q] at e1
    have hW := hv.pos
    rcases Int.lt_trichotomy n' 0 with q' | q' | q'
    · obtain ⟨E', r', W', hv', e2⟩ := v1 (by lia)
      rw [Int.sign_eq_neg_one_of_neg q'] at e2
      refine key _ _ e1 e2 ?_
      have := val_mono hd' hd hk hk2 hv' hv (by
        have a : (n'.natAbs : Int) = -n' := by lia
        have b : (n.natAbs : Int) = -n := by lia
        rw [a, b, Int.neg_mul, Int.neg_mul]; lia)
      lia
    · refine key _ 0 e1 (by rw [v0 q']; simp) (by lia)
    · obtain ⟨E', r', W', hv', e2⟩ := v1 (by lia)
      rw [Int.sign_eq_one_of_pos q'] at e2
      have hW' := hv'.pos
      exact key _ _ e1 e2 (by lia)
  · have q' : 0 < n' := by
      rw [q, Int.zero_mul] at hx
      exact Int.pos_of_mul_pos_left hx hd |> fun h => h
    obtain ⟨E', r', W', hv', e2⟩ := v1 (by lia)
    rw [Int.sign_eq_one_of_pos q'] at e2
    have hW' := hv'.pos
    exact key 0 _ (by rw [w0 q]; simp) e2 (by lia)
  · have q' : 0 < n' := by
      refine Int.not_le.mp fun c => ?_
      have a := Int.mul_pos q hd'
      have b := Int.mul_le_mul_of_nonneg_right c (Int.le_of_lt hd)
      rw [Int.zero_mul] at b
      lia
    obtain ⟨E, r, W, hv, e1⟩ := w1 (by lia)
    obtain ⟨E', r', W', hv', e2⟩ := v1 (by lia)
    rw [Int.sign_eq_one_of_pos q] at e1
    rw [Int.sign_eq_one_of_pos q'] at e2
    refine key _ _ e1 e2 ?_
    have := val_mono hd hd' hk hk2 hv hv' (by
      have a : (n'.natAbs : Int) = n' := by lia
      have b : (n.natAbs : Int) = n := by lia
      rw [a, b]; lia)
    lia
theorem cut_val {lk c : List Nat} (h : Cut lk c) : ∃ j, lk.length = c.length + j ∧ val lk = val c * 10 ^ j := by
  obtain ⟨_, j, h⟩ := h
  exact ⟨j, by rw [h, List.length_append, List.length_replicate], by rw [h, val_shift]⟩
theorem near_of {n d k e side count : Int} {lk c : List Nat} (hd : 0 < d) (hk : 1 ≤ k) (hk2 : k ≤ 12) (hn : n ≠ 0) (hS : SigR n d k lk e side) (hC : Cut lk c) (hc : count = c.length) {V kb : Nat} {E s r : Int} (hs : -40 ≤ s) (hse : s ≤ e - count + 1) (hR : RN (n.natAbs * pw 0) (d * pw s) r) (hT : V * pw (E - kb) = r * pw s) :
    ∀ E0 r0 W, Val40 n d k E0 r0 W → (n.natAbs * pw 0 - V * pw (E - kb) * d).natAbs ≤ (n.natAbs * pw 0 - W * d).natAbs := by
  intro E0 r0 W hW
  obtain ⟨E1, r1, hv, _⟩ := hS.val40 hd hk hk2 hn
  have e1 := val_mono hd hd hk hk2 hW hv (Int.le_refl _)
  have e2 := val_mono hd hd hk hk2 hv hW (Int.le_refl _)
  have e3 : W = val lk * pw (e - k + 1) := by lia
  obtain ⟨j, hj, hval⟩ := cut_val hC
  have b := hS.facts
  have e4 : W = val c * 10 ^ (e - count + 1 - s).toNat * pw s := by
    have a1 := pw_add (a := e - k + 1) (m := j) (by lia)
    have a2 := pw_add (a := s) (m := (e - count + 1 - s).toNat) hs
    rw [show e - k + 1 + (j : Int) = e - count + 1 by lia] at a1
    rw [show s + (((e - count + 1 - s).toNat : Nat) : Int) = e - count + 1 by lia] at a2
    rw [e3, hval]
    have : ((val c * 10 ^ j : Nat) : Int) = val c * 10 ^ j := by simp
    rw [this]
    calc (val c : Int) * 10 ^ j * pw (e - k + 1) = val c * (pw (e - k + 1) * 10 ^ j) := by ac_rfl
      _ = val c * (pw s * 10 ^ (e - count + 1 - s).toNat) := by rw [← a1, a2]
      _ = _ := by ac_rfl
  have q := rn_near (Int.mul_pos hd (pw_pos (s := s))) hR (val c * 10 ^ (e - count + 1 - s).toNat)
  have f1 : r * (d * pw s) = V * pw (E - kb) * d := by rw [hT]; ac_rfl
  have f2 : val c * 10 ^ (e - count + 1 - s).toNat * (d * pw s) = W * d := by rw [e4]; ac_rfl
  rwa [f1, f2] at q
theorem text_near {n d k : Int} {z : Str} (hn2 : n.natAbs ≤ 10 ^ 8) (hd : 0 < d) (hk : 1 ≤ k) (hk2 : k ≤ 12) (h : TextR n d k z) :
    ∃ l V kb E, TX z l ∧ Tells l (decide (n < 0)) V kb E ∧ -10 ≤ E ∧ E ≤ 10 ∧ kb ≤ 30 ∧ V < 10 ^ 14 ∧ Near n d k V kb E := by
  obtain ⟨count, places, e, hM, hc1, hc2, hF⟩ := h
  obtain ⟨m1, m2, m3⟩ := meas_small hd hn2 hk2 hM
  obtain ⟨lk, c, side, hS, hC, hc, hp0, hp1, hp2⟩ := hM
  have b := hS.facts
  rcases hF with ⟨l, V, hz, hT, hR⟩ | ⟨l, lk', e', side', hz, hS', hT⟩
  · have hV := rn_le (p := 10 ^ 13) hd hR m3
    refine ⟨l, V, places.toNat, 0, hz, hT, by lia, by lia, by lia, by lia, fun hn => ?_, fun hn => ?_⟩
    · rw [hn] at hR
      have h0 : RN 0 d V := by simpa using hR
      have := rn_le (p := 0) hd h0 (by lia)
      lia
    · refine near_of hd hk hk2 hn hS hC hc (s := -places) (r := V) (by lia) (by lia) ?_ (by rw [show (0 : Int) - (places.toNat : Int) = -places by lia])
      refine rn_trans hd (Int.mul_pos hd pw_pos) ?_ hR
      have a1 := pw_add (a := -places) (m := places.toNat) (by lia)
      rw [show -places + (places.toNat : Int) = 0 by lia] at a1
      rw [a1]
      ac_rfl
  · have b' := hS'.facts
    have hl := val_lt lk' hS'.2.1
    have hp : 10 ^ lk'.length ≤ 10 ^ 12 := Nat.pow_le_pow_right (by decide) (by lia)
    refine ⟨l, val lk', (count - 1).toNat, e', hz, hT, by lia, by lia, by lia, by lia, fun hn => ?_, fun hn => ?_⟩
    · rcases hS'.2.2.2.2.2 with ⟨_, a, _⟩ | ⟨a, _⟩
      · exact a
      · exact absurd hn a
    · obtain ⟨E1, r1, hv1, q1⟩ := hS.val40 hd hk hk2 hn
      obtain ⟨E2, r2, hv2, q2⟩ := hS'.val40 hd hc1 hc2 hn
      have x1 := exp_le hd hd hv1.2.2.1 hv2.2.2.2.1 hv2.1 (Int.le_refl _)
      have x2 := exp_le hd hd hv2.2.2.1 hv1.2.2.2.1 hv1.1 (Int.le_refl _)
      have y1 := hv2.1
      refine near_of hd hk hk2 hn hS hC hc (s := E2 - count + 1) (r := r2) (by lia) (by lia) hv2.2.2.2.2.1 ?_
      rw [show e' - (((count - 1).toNat : Nat) : Int) = e' - count + 1 by lia]
      exact hv2.2.2.2.2.2.2.2


theorem par_spec {w : World} {mean mg mb} {news} (x : Str) (tx : Tok) (l : List Nat) (neg : Bool) (V kb : Nat) (E : Int) (hx : TX x l) (hT : Tells l neg V kb E) (hE1 : -10 ≤ E) (hE2 : E ≤ 10) (hk30 : kb ≤ 30) :
    Spec 10 w mean mg mb 177 [.str x tx] news (ParR neg V kb E) := by
  obtain ⟨l', hl, hN⟩ := hT.num
  cases neg with
  | false => exact parP x tx l V kb E hx (by rw [hl]; exact hN) hE1 hE2 hk30
  | true => exact parN x tx l V kb E hx l' hl hN hE1 hE2 hk30
theorem dec_bound {neg : Bool} {V kb : Nat} {E p q : Int} (hV : V < 10 ^ 14) (hE : E ≤ 10) (hq : 0 < q) (hq2 : q < 2 ^ 150) (h : DecS neg V kb E p q) : p.natAbs < 2 ^ 600 := by
  unfold DecS at h
  have h1 := congrArg Int.natAbs h
  rw [Int.natAbs_mul, Int.natAbs_mul, Int.natAbs_mul, Int.natAbs_mul] at h1
  have e : (if neg then -(V : Int) else V).natAbs = V := by cases neg <;> simp
  rw [e] at h1
  have p1 : 0 < ((10 : Int) ^ kb).natAbs := by have := pow_pos10 kb; lia
  have p2 : 0 < ((10 : Int) ^ (-E).toNat).natAbs := by have := pow_pos10 (-E).toNat; lia
  have p3 : ((10 : Int) ^ E.toNat).natAbs ≤ 10 ^ 10 := by
    have a := pow_mono10 (show E.toNat ≤ 10 by lia)
    have := pow_pos10 E.toNat
    lia
  have b1 : p.natAbs ≤ p.natAbs * ((10 : Int) ^ kb).natAbs * ((10 : Int) ^ (-E).toNat).natAbs := by
    rw [Nat.mul_assoc]
    exact Nat.le_mul_of_pos_right _ (Nat.mul_pos p1 p2)
  have b2 : V * ((10 : Int) ^ E.toNat).natAbs ≤ 10 ^ 14 * 10 ^ 10 := Nat.mul_le_mul (by lia) p3
  have b3 : V * ((10 : Int) ^ E.toNat).natAbs * q.natAbs ≤ 10 ^ 14 * 10 ^ 10 * 2 ^ 150 := Nat.mul_le_mul b2 (by lia)
  have b4 : (10 ^ 14 * 10 ^ 10 * 2 ^ 150 : Nat) < 2 ^ 250 := by decide
  have b5 : (2 : Nat) ^ 250 ≤ 2 ^ 600 := Nat.pow_le_pow_right (by decide) (by decide)
  rw [← h1] at b3
  exact Nat.lt_of_lt_of_le (Nat.lt_of_le_of_lt (Nat.le_trans b1 b3) b4) b5
/-- what the law needs of the text read back -/
def BackR (n d k p q : Int) : Prop := ∃ V kb E, Near n d k V kb E ∧ -40 ≤ E - (kb : Int) ∧ DecS (decide (n < 0)) V kb E p q
theorem par_use {w : World} {mean : ExcName → Option Value} {mg mb : Str → Option Value} {news : List (Addr × Obj)} {n d k : Int} {z : Str} {tz : Tok}
    {dp un : Nat} {gd : Option (List Code)} {cn : Str} {cs : Scope} {a : Addr} {ccd : Value} {cl : List (Str × Addr)} {outer : List Env} {A₀ : Around} {base h₀ : Heap} {L : Addr} {m : Str → Option Value} {s : Shared} {Q E : Value → Shared → Prop}
    (hT : TextR n d k z) (hn2 : n.natAbs ≤ 10 ^ 8) (hd : 0 < d) (hk1 : 1 ≤ k) (hk2 : k ≤ 12)
    (B : Below A₀ base outer h₀) (F : Fr h₀ L s.heap m) (X : (Mine.hd.heap_39 w.params).In h₀) (N : News h₀ L s.heap news) (T : Top Mine.hd.view_39 (looseW Mine.hd.view_39 [Str.ofString "number_text"]) mean mg mb h₀) (hk : cs.kind = .function)
    (hdp : dp + 10 < recursionLimit) (hun : un + 80 < cLine)
    (hZ : ∀ a h' tk', BackR n d k 0 1 → AllLt a news → Fr h₀ L h' m → News h₀ L h' ((a, tupO [.bool true, .ref 17]) :: news) → Q (.ref a) { s with heap := h', toks := tk' })
    (hP : ∀ a r p q t u h' tk', BackR n d k p q → 0 < q → q < 2 ^ 150 → p.natAbs < 2 ^ 600 → AllLt a news → AllLt r news → Fr h₀ L h' m → News h₀ L h' ((a, tupO [.bool true, .ref r]) :: (r, tupO [.int p t, .int q u]) :: news) → Q (.ref a) { s with heap := h', toks := tk' }) :
      wpAny (model PySem.Challenge.rw_ov0062_01.row.prog w) (ktrTop dp un gd cn cs L a ccd cl outer) (call (.ref 177) [.str z tz]) Q E s := by
  obtain ⟨l, V, kb, E', hz, ht, h1, h2, h3, h4, h5⟩ := text_near hn2 hd hk1 hk2 hT
  refine (par_spec z tz l _ V kb E' hz ht h1 h2 h3).use B F X N T hk hdp (by lia) fun v add h' tk' hR ho F' N' => ?_
  rcases hR with ⟨⟨c1, c2⟩, a, hv, ha⟩ | ⟨_, a, r, p, q, t, u, hv, ha, hq, hq2, hD⟩
  · subst hv ha
    refine hZ a h' tk' ⟨V, kb, E', h5, by lia, ?_⟩ (newer ho) F' N'
    unfold DecS
    rw [c1]
    simp
  · subst hv ha
    exact hP a r p q t u h' tk' ⟨V, kb, E', h5, by lia, hD⟩ hq hq2 (dec_bound h4 h2 hq hq2 hD) (newer2 ho).1 (newer2 ho).2 F' N'
theorem back_close {n d k P Q p q x1 x2 y1 y2 : Int} (c : x1 * y2 < x2 * y1) (e1 : x1 = ((n * Q - P * d).natAbs : Int)) (e2 : x2 = ((n * q - p * d).natAbs : Int)) (f1 : y1 = d * Q) (f2 : y2 = d * q) (hV : ValR n d k P Q) (hB : BackR n d k p q) (hq : 0 < q) (hd : 0 < d) (hk : 1 ≤ k) (hk2 : k ≤ 12) : False := by
  obtain ⟨V, kb, E, h1, h2, h3⟩ := hB
  refine law_close hd hk hk2 h1 h2 hV hq h3 ?_
  rw [← e1, ← e2, ← f1, ← f2]
  exact c
theorem ValR.bd {n d k P Q : Int} (h : ValR n d k P Q) : 0 < Q ∧ Q ≤ 10 ^ 20 ∧ -(10 ^ 22) ≤ P ∧ P ≤ 10 ^ 22 := by
  obtain ⟨_, _, _, _, h1, _, h2, h3, h4⟩ := h
  exact ⟨h1, h4, h2, h3⟩


theorem rows_none : True := by
  k_with_none
  trivial
theorem rows_law_0 : True := by
  k_with "binaryOp FloorDiv int int" => (k_here; (with_reducible refine t_fdiv ?k1 ?k2 ?_); (case k1 => omega); (case k2 => omega); intro _ _ _ _ _)
  k_with "binaryOp Mod int int" => (k_here; (with_reducible refine t_mod ?k1 ?_); (case k1 => omega); intro _ _)
  k_with "binaryOp Add int int" => (k_here; (with_reducible refine t_add ?_); intro _ _)
  k_with "inplaceOp Add int int" => (k_here; (with_reducible refine t_iadd ?_); intro _ _)
  k_with "binaryOp Sub int int" => (k_here; (with_reducible refine t_sub ?_); intro _ _)
  k_with "inplaceOp Sub int int" => (k_here; (with_reducible refine t_isub ?_); intro _ _)
  k_with "binaryOp Mult int int" => (k_here; (with_reducible refine t_mul ?km ?_); (case km => first | with_reducible assumption | exact mulOkR (by omega) (by omega) | exact mulOkL (by omega) (by omega) | exact mulOk2 (by omega) (by omega) (by omega) (by omega)); intro _ _)
  k_with "binaryOp Pow int int" => (k_here; (with_reducible refine t_pow ?k1 ?k2 ?k3 ?_); (case k1 => omega); (case k2 => omega); (case k3 => decide); intro _ _)
  k_with "call builtin:abs" => (k_here; (with_reducible refine abs_nat ?_); intro _ _)
  k_with "ite" => (k_here; k_openite; (try simp only [beq_iff_eq, bne_iff_ne, decide_eq_true_eq]); first | refine ite_pos (by with_reducible assumption) ?_ | refine ite_neg (by with_reducible assumption) ?_ | refine ite_pos (by omega) ?_ | refine ite_neg (by omega) ?_ | ((with_reducible show @ite _ (@Eq (List Nat) _ _) _ _ _); first | (refine ite_pos ?hc ?_; (case hc => (simp; done))) | (refine ite_neg ?hc ?_; (case hc => (simp; done)))))
  trivial
-- into the body: behind «refine enter_def rb ?k1 ..»
theorem rows_law_1 : True := by
  k_with "enter" => ((case k1 => with_reducible assumption); (case k2 => with_reducible assumption); (case k3 => with_reducible assumption); (case k4 => with_reducible assumption); (case k5 => with_reducible assumption); (case k6 => with_reducible assumption); (case k7 => k_is); (case k8 => k_is); (case k9 => omega); (case ka => first | exact BindsTo.of_eq rfl | ((with_reducible rename Frag.In _ _ => X); (with_reducible rename Fr _ _ _ _ => F); (k_dflt exact binds_K (X.keeps F.keep) rfl (by k_is) rfl rfl rfl))); (case kb => exact locs rfl); (case kc => exact rfl); (case kd => exact rfl); (case ke => exact rfl); (case kf => decide); intro g' L' h' tk' FG' F' N' B' X' T'; k_fold; (with_reducible refine enter_let ?_); intro EN AA EE QQ)
  trivial
-- ends: no new object
theorem rows_law_2 : True := by
  k_with "no new" => (intro _ _ _ h; cases h)
  k_with "fresh" => first | with_reducible assumption | (intro p hp q hq; rw [List.mem_singleton] at hq; subst hq; first | exact (by with_reducible assumption : ∀ p ∈ _, p.1 < _) p hp | exact AllLt.mem (by with_reducible assumption) p hp | exact AllLt.mem (And.right (by with_reducible assumption : _ ∧ AllLt _ _)) p hp | exact AllLt.mem (And.right (And.right (by with_reducible assumption : _ ∧ _ ∧ AllLt _ _))) p hp | exact AllLt.mem (And.right (And.right (And.right (by with_reducible assumption : _ ∧ _ ∧ _ ∧ AllLt _ _)))) p hp | (refine AllLt.mem (lt_sub (by with_reducible assumption) ?_) p hp; clear hp; walk_at "sub"))
  k_with "sub" => (repeat first | with_reducible exact sub_refl | with_reducible refine sub_both ?_ | with_reducible refine sub_skip ?_); done
  k_with "news end" => ((try simp only [List.nil_append, List.cons_append]); first | with_reducible assumption | (refine news_drop (by with_reducible assumption) ?_; walk_at "sub"))
  trivial
-- texts

theorem rows_law_3 : True := by
  k_with "tx" => with_reducible first | assumption | exact tx_one | exact tx_c_empty | exact tx_c_0 | exact tx_c_minus | exact tx_c_plus | exact tx_c_dot | exact tx_c_e | exact tx_c_em | exact tx_c_ep | exact tx_c_0x | exact tx_c_0X | exact tx_c_NA | exact tx_c_NaN | exact tx_c_inf | exact tx_c_infinity | exact tx_c_dig | exact tx_c_hex | exact tx_c_blank | exact tx_c_fixed | exact tx_c_sci
  k_with "binaryOp Add str str" => (k_here; (with_reducible refine' tx_add ?ha ?hb ?hz ?_); (case ha => walk_at "tx"); (case hb => walk_at "tx"); (case hz => walk_at "tx size"); intro _ _ _ _)
  k_with "call builtin:len" => (k_here; (with_reducible show wpAny _ _ (PySem.call (Value.builtin "len") [Value.str _ _]) _ _ _); (with_reducible refine' tx_len ?ha ?hz ?_); (case ha => walk_at "tx"); (case hz => walk_at "tx size"); intro _ _)
  k_with "compareOp Eq str str" => (k_here; (with_reducible refine' tx_eq ?ha ?hb ?_); (case ha => walk_at "tx"); (case hb => walk_at "tx"))
  k_with "binaryOp Mult str int" => (k_here; (with_reducible refine' tx_mul ?ha ?h0 ?h1 ?_); (case ha => walk_at "tx"); (case h0 => omega); (case h1 => omega); intro _ _ _ _)
  k_with "call type:str" => (k_here; (with_reducible show wpAny _ _ (PySem.call (Value.type "str") [Value.int _ _]) _ _ _); (with_reducible refine' tx_str ?h0 ?h1 ?_); (case h0 => with_reducible first | assumption | omega); (case h1 => with_reducible first | assumption | omega); intro _ _ _ _ _)
  k_with "call builtin:str.rjust" => (k_here; (with_reducible refine' tx_rjust ?ha ?hf ?h0 ?h1 ?_); (case ha => walk_at "tx"); (case hf => walk_at "tx"); (case h0 => omega); (case h1 => omega); intro _ _ _ _)
  k_with "tx size" => first | omega | ((simp only [List.length_append, List.length_cons, List.length_nil, List.length_replicate, List.length_take, List.length_drop]); omega)
  k_with "str item" => (k_here; (with_reducible refine' tx_item ?ha ?h0 ?h1 ?hz ?_ ?hs ?ht); (case ha => walk_at "tx"); (case h0 => walk_at "tx size"); (case h1 => walk_at "tx size"); (case hz => walk_at "tx size"); (case hs => with_unfolding_all rfl); (case ht => (intro _; with_unfolding_all rfl)); intro _ _ _ _)
  k_with "subscriptTail Name BinOp str int" => walk_at "str item"
  k_with "subscriptTail Name Constant str int" => walk_at "str item"
  k_with "subscriptTail Name Name str int" => walk_at "str item"
  k_with "subscriptTail Name Slice str ref" => (k_here; (with_reducible rename Fr _ _ _ _ => F'); (with_reducible rename News _ _ _ _ => N'); (first   | ((with_reducible show wpAny _ _ (subscriptTail _ (PySem.Expr.Slice none (some _) none _) _ _) _ _ _); (refine' tx_slice_to (s := ⟨_, _, _, _, _⟩) F' N' ?ha ?h0 ?hz ?_ ?hs ?ht))   | ((with_reducible show wpAny _ _ (subscriptTail _ (PySem.Expr.Slice (some _) none none _) _ _) _ _ _); (refine' tx_slice_from (s := ⟨_, _, _, _, _⟩) F' N' ?ha ?h0 ?hz ?_ ?hs ?ht))   | ((with_reducible show wpAny _ _ (subscriptTail _ (PySem.Expr.Slice (some _) (some _) none _) _ _) _ _ _); (refine' tx_slice (s := ⟨_, _, _, _, _⟩) F' N' ?ha ?hi ?h0 ?hz ?_ ?hs ?ht); (case hi => walk_at "tx size"))); (case ha => walk_at "tx"); (case h0 => walk_at "tx size"); (case hz => walk_at "tx size"); (case hs => with_unfolding_all rfl); (case ht => (intro _; with_unfolding_all rfl)); intro _ _ _ _ _ _ _; (try k_sweep))
  k_with "call builtin:str.join" => (k_here; (with_reducible refine' tx_join1 ?hN ?hm ?he ?hz ?hl ?_); (case hN => k_asm); (case hm => k_mem); (case he => walk_at "tx"); (case hz => walk_at "tx"); (case hl => walk_at "tx size"); intro _ _ _ _)
  k_with "subscriptTail Name Constant ref int" => (k_here; (k_dflt refine' item_tupleT (News.isTup ?n ?m) ?a ?b ?c ?d ?_); (case n => k_asm); (case m => k_mem); (case a => decide); (case b => decide); (case c => k_dflt exact rfl); (case d => k_dflt exact rfl))
  k_with "ao" => with_reducible first | assumption | omega
  k_with "as" => with_reducible assumption
  k_with "use in" => ((case k1 => k_asm); (case k2 => k_asm); (case k3 => k_asm); (case k4 => k_asm); (case k5 => k_asm); (case k6 => exact rfl); (case k7 => exact room_of (by with_reducible assumption) (by decide)); (case k8 => exact units_of (by with_reducible assumption) (by decide)))
  k_with "use fin" => ((try k_sweep); (try dsimp only); (try k_fold))
  k_with "use end" => (intro l1 F' N'; (simp only [List.nil_append, List.cons_append] at N'); clear l1; walk_at "use fin")
  k_with "use e" => (intro F' N'; (simp only [List.nil_append, List.cons_append] at N'); walk_at "use fin")
  k_with "use new" => (intro l1 F' N'; (simp only [List.nil_append, List.cons_append] at N'); (replace l1 := newer l1); (try simp (config := { zetaDelta := true }) only [AllLt, and_true] at l1); (with_reducible refine news_let N' ?_); clear N'; intro nl N'; walk_at "use fin")
  k_with "use newn" => (intro l1 F' N'; (simp only [List.nil_append, List.cons_append] at N'); (replace l1 := newer l1); (try simp (config := { zetaDelta := true }) only [AllLt, and_true] at l1); walk_at "use fin")
  k_with "use new2" => (intro l1 F' N'; (simp only [List.nil_append, List.cons_append] at N'); (obtain ⟨l1, l2⟩ := newer2 l1); (try simp (config := { zetaDelta := true }) only [AllLt, and_true] at l1); (try simp (config := { zetaDelta := true }) only [AllLt, and_true] at l2); (with_reducible refine news_let2 N' ?_); clear N'; intro nl N'; walk_at "use fin")
  k_with "use new2n" => (intro l1 F' N'; (simp only [List.nil_append, List.cons_append] at N'); (obtain ⟨l1, l2⟩ := newer2 l1); (try simp (config := { zetaDelta := true }) only [AllLt, and_true] at l1); (try simp (config := { zetaDelta := true }) only [AllLt, and_true] at l2); walk_at "use fin")
  k_with "storeName" => (k_here; (fail_if_success (with_reducible rename KstMark => kk9)); (k_dflt refine' storeX_let ?F ?N ?_ ?a ?b); (case F => k_asm); (case N => k_asm); (case a => k_dflt exact rfl); (case b => k_dflt exact rfl); intro h' m' F' N'; (try k_sweep))
  k_with "execs cons" => (k_here; (fail_if_success (with_reducible rename KstMark => kk9)); (with_reducible refine execs_let ?_); intro QS)
  k_with "call ref" => (k_here; (with_reducible show wpAny _ _ (call (Value.ref 24) _) _ _ _); (k_dflt refine' Spec.use (gcd_spec _ _ _ _ ?p1 ?p2) ?k1 ?k2 ?k3 ?k4 ?k5 ?k6 ?k7 ?k8 ?_); walk_at "use in"; (case p1 => omega); (case p2 => omega); intro _ _ _ _ hR; (obtain ⟨_, _, e1, e2, _, _, _⟩ := hR); subst e1; subst e2; walk_at "use end")
  k_with "call ref" => (k_here; (with_reducible show wpAny _ _ (call (Value.ref 45) _) _ _ _); (k_dflt refine' Spec.use (nw_spec _ _ _ _ ?p1 ?p2 ?p3 ?p4) ?k1 ?k2 ?k3 ?k4 ?k5 ?k6 ?k7 ?k8 ?_); walk_at "use in"; (case p1 => walk_at "ao"); (case p2 => walk_at "ao"); (case p3 => walk_at "ao"); (case p4 => walk_at "ao"); intro _ _ _ _ hR; (obtain ⟨_, _, e1, e2, _, _, _⟩ := hR); subst e1; subst e2; walk_at "use end")
  k_with "call ref" => (k_here; (with_reducible show wpAny _ _ (call (Value.ref 31) _) _ _ _); (k_dflt refine' Spec.use (make_spec _ _ _ _ ?p1 ?p2) ?k1 ?k2 ?k3 ?k4 ?k5 ?k6 ?k7 ?k8 ?_); walk_at "use in"; (case p1 => walk_at "ao"); (case p2 => walk_at "ao"); intro _ _ _ _ hR; (obtain ⟨_, _, _, _, _, e1, e2, _, _, _, _⟩ := hR); subst e1; subst e2; walk_at "use new")
  k_with "call ref" => (k_here; (with_reducible show wpAny _ _ (call (Value.ref 38) _) _ _ _); (k_dflt refine' Spec.use (neg_spec _ _ _ _ _ ?p1) ?k1 ?k2 ?k3 ?k4 ?k5 ?k6 ?k7 ?k8 ?_); walk_at "use in"; (case p1 => k_mem); intro _ _ _ _ hR; (obtain ⟨_, _, _, e1, e2⟩ := hR); subst e1; subst e2; walk_at "use new")
  k_with "call ref" => (k_here; (with_reducible show wpAny _ _ (call (Value.ref 52) _) _ _ _); (k_dflt refine' Spec.use (ex_spec _ _ _ _ _ ?p0 ?p1 ?p2 ?p3 ?p4) ?k1 ?k2 ?k3 ?k4 ?k5 ?k6 ?k7 ?k8 ?_); walk_at "use in"; (case p0 => k_mem); (case p1 => walk_at "as"); (case p2 => walk_at "as"); (case p3 => walk_at "as"); (case p4 => walk_at "as"); intro _ _ _ _ hR; (obtain ⟨_, _, e1, e2, _, _, _⟩ := hR); subst e1; subst e2; walk_at "use end")
  k_with "call ref" => (k_here; (with_reducible show wpAny _ _ (call (Value.ref 73) _) _ _ _); (k_dflt refine' Spec.use (scaled_spec _ _ _ _ _ _ _ _ _ ?p0 ?p1 ?p2 ?p3 ?p4 ?p5 ?p6 ?p7) ?k1 ?k2 ?k3 ?k4 ?k5 ?k6 ?k7 ?k8 ?_); walk_at "use in"; (case p0 => k_mem); (case p1 => walk_at "as"); (case p2 => walk_at "as"); (case p3 => walk_at "as"); (case p4 => omega); (case p5 => omega); (case p6 => walk_at "as"); (case p7 => walk_at "as"); intro _ _ _ _ hR; (obtain ⟨_, _, e1, e2, _, _, _⟩ := hR); subst e1; subst e2; walk_at "use end")
  k_with "call ref" => (k_here; (with_reducible show wpAny _ _ (call (Value.ref 80) _) _ _ _); (k_dflt refine' Spec.use (sig_spec _ _ _ _ _ _ _ ?p0 ?p1 ?p2 ?p3 ?p4 ?p5) ?k1 ?k2 ?k3 ?k4 ?k5 ?k6 ?k7 ?k8 ?_); walk_at "use in"; (case p0 => k_mem); (case p1 => walk_at "as"); (case p2 => walk_at "as"); (case p3 => walk_at "as"); (case p4 => walk_at "ao"); (case p5 => walk_at "ao"); intro _ _ _ _ hR; (obtain ⟨_, _, _, _, _, _, _, _, e1, e2, _, hS⟩ := hR); subst e1; subst e2; (obtain ⟨_, _, _, _⟩ := SigR.facts hS); walk_at "use end")
  k_with "call ref" => (k_here; (with_reducible show wpAny _ _ (call (Value.ref 66) _) _ _ _); (k_dflt refine' Spec.use (special_spec _ _ _ _ _ ?p0 ?p1) ?k1 ?k2 ?k3 ?k4 ?k5 ?k6 ?k7 ?k8 ?_); walk_at "use in"; (case p0 => k_mem); (case p1 => walk_at "as"); intro _ _ _ _ hR; (obtain ⟨e1, e2⟩ := hR); subst e1; subst e2; walk_at "use end")
  k_with "call ref" => (k_here; (with_reducible show wpAny _ _ (call (Value.ref 87) _) _ _ _); (k_dflt refine' Spec.use (tail_spec _ _ _ ?p0 ?p1 ?p2) ?k1 ?k2 ?k3 ?k4 ?k5 ?k6 ?k7 ?k8 ?_); walk_at "use in"; (case p0 => walk_at "tx"); (case p1 => omega); (case p2 => omega); intro _ _ _ _ hR; (obtain ⟨_, _, _, e1, e2, _, hC⟩ := hR); subst e1; subst e2; (obtain ⟨_, _⟩ := Cut.len hC); walk_at "use end")
  k_with "call ref" => (k_here; (with_reducible show wpAny _ _ (call (Value.ref 59) _) _ _ _); (k_dflt refine' Spec.use (whole_spec _ _ ?p0 ?p1) ?k1 ?k2 ?k3 ?k4 ?k5 ?k6 ?k7 ?k8 ?_); walk_at "use in"; (case p0 => omega); (case p1 => omega); intro _ _ _ _ hR; (obtain ⟨_, _, e1, e2, _⟩ := hR); subst e1; subst e2; walk_at "use end")
  k_with "call ref" => (k_here; (with_reducible show wpAny _ _ (call (Value.ref 101) _) _ _ _); (k_dflt refine' Spec.use (fixed_spec _ _ _ _ _ _ _ ?p0 ?p1 ?p2 ?p3 ?p4 ?p5 ?p6) ?k1 ?k2 ?k3 ?k4 ?k5 ?k6 ?k7 ?k8 ?_); walk_at "use in"; (case p0 => k_mem); (case p1 => walk_at "as"); (case p2 => walk_at "as"); (case p3 => walk_at "as"); (case p4 => omega); (case p5 => omega); (case p6 => walk_at "as"); intro _ _ _ _ hR; (obtain ⟨_, _, e1, e2, _⟩ := hR); subst e1; subst e2; walk_at "use end")
  k_with "call ref" => (k_here; (with_reducible show wpAny _ _ (call (Value.ref 94) _) _ _ _); (k_dflt refine' Spec.use (sci_spec _ _ _ _ _ _ _ ?p0 ?p1 ?p2 ?p3 ?p4 ?p5) ?k1 ?k2 ?k3 ?k4 ?k5 ?k6 ?k7 ?k8 ?_); walk_at "use in"; (case p0 => k_mem); (case p1 => walk_at "as"); (case p2 => walk_at "as"); (case p3 => walk_at "as"); (case p4 => omega); (case p5 => omega); intro _ _ _ _ hR; (obtain ⟨_, _, e1, e2, _⟩ := hR); subst e1; subst e2; walk_at "use end")
  k_with "call builtin:max" => (k_here; (with_reducible rename Fr _ _ _ _ => F'); (with_reducible rename News _ _ _ _ => N'); (k_dflt refine' t_max ?hh F' N' ?_); (case hh => with_unfolding_all rfl); clear F' N'; intro _ _ _ _ _ _ _ _ _; (try k_sweep); (try dsimp only))
  k_with "call builtin:min" => (k_here; (with_reducible rename Fr _ _ _ _ => F'); (with_reducible rename News _ _ _ _ => N'); (k_dflt refine' t_min ?hh F' N' ?_); (case hh => with_unfolding_all rfl); clear F' N'; intro _ _ _ _ _ _ _ _ _; (try k_sweep); (try dsimp only))
  k_with "call ref" => (k_here; (with_reducible show wpAny _ _ (call (Value.ref 108) _) _ _ _); (k_dflt refine' Spec.use (meas_spec _ _ _ _ _ _ _ ?p0 ?p1 ?p2 ?p3 ?p4 ?p5) ?k1 ?k2 ?k3 ?k4 ?k5 ?k6 ?k7 ?k8 ?_); walk_at "use in"; (case p0 => k_mem); (case p1 => walk_at "as"); (case p2 => walk_at "as"); (case p3 => walk_at "as"); (case p4 => walk_at "ao"); (case p5 => walk_at "ao"); intro _ _ _ _ hR; (obtain ⟨_, _, _, _, _, _, _, _, _, e1, e2, _, _, _, _, _, _, _⟩ := hR); subst e1; subst e2; walk_at "use end")
  k_with "exec For Name Name cons nil" => (k_here; (with_reducible show wpAny _ _ (exec (PySem.Stmt.For _ (PySem.Expr.Name (Str.ofString "xs") _) _ _ _) _) _ _ _); (with_reducible rename Fr _ _ _ _ => lF'); (with_unfolding_all refine' For_invVF lF' ?k1 ?k2 ?_; (case k1 => exact rfl); (case k2 => exact rfl); k_whole))
  k_with "pyIter ref" => (k_here; (with_reducible show wpAny _ _ (pyIter (Value.ref _)) (fun it s₂ => LoopAtV _ _ _ _ _ _ _ _ _ it s₂) _ _); (with_reducible rename Fr _ _ _ _ => F'); (with_reducible rename News _ _ _ _ => N'); (with_reducible rename (_, listOf #[_] _) ∈ _ => hD'); (k_dflt refine' iter_listUnr (vs := [_]) ?hh F' N' hD' ?hc ?hd ?_); (case hh => with_unfolding_all rfl); (case hc => exact rfl); (case hd => k_dflt exact rfl); clear F' N'; intro i' l1)
  k_with "UnrEnd" => (k_here; (with_reducible rename (_, listOf #[_] _) ∈ _ => hD'); (with_reducible rename (∀ p ∈ _, @LT.lt Nat _ (Prod.fst p) _) => l1); (with_reducible rename News _ _ _ _ => N'); (with_reducible rename Fr _ _ _ _ => F'); (k_dflt refine UnrEnd.intro F' N' _ ?hs (fun p hp e => absurd e (Nat.ne_of_lt (l1 p hp))) ⟨hD', ?_⟩); (case hs => walk_at "sub"))
  k_with "call ref" => (k_here; (with_reducible show wpAny _ _ (call (Value.ref 115) _) _ _ _); (k_dflt refine' Spec.use (form_spec _ _ _ _ _ _ _ _ _ ?p9 ?p0 ?p1 ?p2 ?p3 ?p4 ?p5) ?k1 ?k2 ?k3 ?k4 ?k5 ?k6 ?k7 ?k8 ?_); walk_at "use in"; (case p9 => k_mem); (case p0 => k_mem); (case p1 => walk_at "as"); (case p2 => walk_at "as"); (case p3 => walk_at "as"); (case p4 => walk_at "ao"); (case p5 => walk_at "ao"); intro _ _ _ _ hR; (obtain ⟨_, _, _, _, _, e1, e2, _⟩ := hR); subst e1; subst e2; walk_at "use new")
  k_with "call ref" => (k_here; (with_reducible show wpAny _ _ (call (Value.ref 122) _) _ _ _); (k_dflt refine' Spec.use (formed_spec _ _ _ _ _ _ _ _ _ _ _ ?p9 ?p0 ?p1 ?p2 ?p3 ?p4 ?p5) ?k1 ?k2 ?k3 ?k4 ?k5 ?k6 ?k7 ?k8 ?_); walk_at "use in"; (case p9 => k_mem); (case p0 => k_mem); (case p1 => walk_at "as"); (case p2 => walk_at "as"); (case p3 => walk_at "as"); (case p4 => walk_at "ao"); (case p5 => walk_at "as"); intro _ _ _ _ hR; (obtain ⟨_, _, e1, e2, _⟩ := hR); subst e1; subst e2; walk_at "use end")
  k_with "CompEnd" => (k_here; (first | (with_reducible rename (_ ∧ _ ∧ _ ∧ LCg.Off3 _ _ _ _) => off') | (with_reducible rename (_ ∧ LCg.Off3 _ _ _ _) => off')); (with_reducible rename News _ _ _ _ => N'); (with_reducible rename Fr _ _ _ _ => F'); (k_dflt refine' LCg.CompEnd.intro F' N' _ (fun p hp => hp) off' (Or.inr ⟨_, ?hm, ?hc, _, ?hd⟩) ?_); (case hm => k_mem); (case hc => exact rfl); (case hd => exact rfl))
  k_with "call ref" => (k_here; (with_reducible show wpAny _ _ (call (Value.ref 127) _) _ _ _); (k_dflt refine' SpecE.use (com_spec _ _ _ _ _ _ _ _ _ ?p9 ?p0 ?p1 ?p2 ?p3 ?p4 ?p5) ?k1 ?k2 ?k3 ?k4 ?k5 ?k6 ?k7 ?k8 ?_); walk_at "use in"; (case p9 => k_mem); (case p0 => k_mem); (case p1 => walk_at "as"); (case p2 => walk_at "as"); (case p3 => walk_at "as"); (case p4 => walk_at "ao"); (case p5 => walk_at "ao"); intro _ _ _ _ hR; (obtain ⟨_, _, _, _, e1, e2, _⟩ := hR); subst e1; subst e2; walk_at "use e")
  k_with "call ref" => (k_here; (with_reducible show wpAny _ _ (call (Value.ref 135) _) _ _ _); (k_dflt refine' Spec.use (numt_spec _ _ _ _ _ _ _ ?p0 ?p1 ?p2 ?p3 ?p4 ?p5) ?k1 ?k2 ?k3 ?k4 ?k5 ?k6 ?k7 ?k8 ?_); walk_at "use in"; (case p0 => k_mem); (case p1 => walk_at "as"); (case p2 => walk_at "as"); (case p3 => walk_at "as"); (case p4 => walk_at "ao"); (case p5 => walk_at "ao"); intro _ _ _ _ hR; (obtain ⟨_, _, e1, e2, _⟩ := hR); subst e1; subst e2; walk_at "use end")
  k_with "call builtin:str.lower" => (k_here; (with_reducible refine' tx_lower ?ha ?hok ?hz ?_); (case ha => walk_at "tx"); (case hok => walk_at "tx ok"); (case hz => walk_at "tx size"); intro _ _ _ _)
  k_with "tx ok" => with_reducible first | assumption | exact one_ok (by assumption) | exact one_ok (isD_ok (codes_all (by assumption) (by assumption) (by assumption)))
  k_with "tx dig" => with_reducible first | assumption | exact codes_all (by assumption) (by assumption) (by assumption)
  k_with "call builtin:str.find" => (k_here; (with_reducible refine' tx_find ?ha ?hb ?hc ?_); (case ha => walk_at "tx"); (case hb => walk_at "tx"); (case hc => walk_at "tx dig"); intro _ _)
  k_with "call ref" => (k_here; (with_reducible show wpAny _ _ (call (Value.ref 142) _) _ _ _); (k_dflt refine' Spec.use (dv_spec _ _ _ _ ?p0 ?p1 ?p2) ?k1 ?k2 ?k3 ?k4 ?k5 ?k6 ?k7 ?k8 ?_); walk_at "use in"; (case p0 => walk_at "tx"); (case p1 => walk_at "tx digs"); (case p2 => walk_at "tx size"); intro _ _ _ _ hR; (obtain ⟨_, e1, e2⟩ := hR); subst e1; subst e2; walk_at "use end")
  k_with "tx digs" => with_reducible assumption
  k_with "tx ok" => exact one_ok (getD_ok (P := okC) (by with_reducible assumption) (by omega))
  k_with "compareOp In str str" => (k_here; (with_reducible refine' tx_contains ?ha ?hb ?_); (case ha => walk_at "tx"); (case hb => walk_at "tx"))
  k_with "call ref" => (k_here; (with_reducible show wpAny _ _ (call (Value.ref 149) _) _ _ _); (k_dflt refine' Spec.use (run_spec' _ _ _ _ _ _ _ _ ?p0 ?p1 ?p6 ?p2 ?p3 ?p4 ?p5) ?k1 ?k2 ?k3 ?k4 ?k5 ?k6 ?k7 ?k8 ?_); walk_at "use in"; (case p0 => walk_at "tx"); (case p1 => walk_at "tx"); (case p6 => walk_at "as"); (case p2 => walk_at "tx oks"); (case p3 => walk_at "tx size"); (case p4 => omega); (case p5 => walk_at "tx size"); intro _ _ _ _ hR; (obtain ⟨_, e1, e2⟩ := hR); subst e1; subst e2; walk_at "use end")
  k_with "tx oks" => with_reducible assumption
  k_with "call ref" => (k_here; (with_reducible show wpAny _ _ (call (Value.ref 163) _) _ _ _); (k_dflt refine' Spec.use (pw0_spec _ _ _ _ _ ?p0) ?k1 ?k2 ?k3 ?k4 ?k5 ?k6 ?k7 ?k8 ?_); walk_at "use in"; (case p0 => walk_at "as"); intro _ _ _ _ hR; (obtain ⟨e1, e2⟩ := hR); subst e1; subst e2; walk_at "use end")
  k_with "call ref" => (k_here; (with_reducible show wpAny _ _ (call (Value.ref 163) _) _ _ _); (k_dflt refine' Spec.use (pw1_spec _ _ _ _ _ ?p0 ?p1 ?p2) ?k1 ?k2 ?k3 ?k4 ?k5 ?k6 ?k7 ?k8 ?_); walk_at "use in"; (case p0 => walk_at "as"); (case p1 => omega); (case p2 => omega); intro _ _ _ _ hR; (obtain ⟨_, _, _, _, _, e1, e2, _, _, _, _⟩ := hR); subst e1; subst e2; walk_at "use new")
  k_with "call ref" => (k_here; (with_reducible show wpAny _ _ (call (Value.ref 38) _) _ _ _); (k_dflt refine' Spec.use (neg0_spec) ?k1 ?k2 ?k3 ?k4 ?k5 ?k6 ?k7 ?k8 ?_); walk_at "use in"; intro _ _ _ _ hR; (obtain ⟨_, _, _, e1, e2⟩ := hR); subst e1; subst e2; walk_at "use new")
  k_with "call ref" => (k_here; (with_reducible show wpAny _ _ (call (Value.ref 156) _) _ _ _); (k_dflt refine' Spec.use (ev_spec _ _ _ _ _ ?p0 ?p1 ?p2 ?p3 ?p4) ?k1 ?k2 ?k3 ?k4 ?k5 ?k6 ?k7 ?k8 ?_); walk_at "use in"; (case p0 => with_reducible exact tx_is (by assumption) (by assumption)); (case p1 => walk_at "as"); (case p2 => walk_at "as"); (case p3 => walk_at "as"); (case p4 => walk_at "as"); intro _ _ _ _ hR; (obtain ⟨_, _, e1, e2⟩ := hR); subst e1; subst e2; walk_at "use new")
  k_with "compareOp NotEq str str" => (k_here; (with_reducible refine' tx_ne ?ha ?hb ?_); (case ha => walk_at "tx"); (case hb => walk_at "tx"))
  k_with "call ref" => (k_here; (with_reducible show wpAny _ _ (call (Value.ref 31) _) _ _ _); (k_dflt refine' Spec.use (make_spec _ _ _ _ ?p1 ?p2) ?k1 ?k2 ?k3 ?k4 ?k5 ?k6 ?k7 ?k8 ?_); walk_at "use in"; (case p1 => with_reducible exact mk_pos (by assumption)); (case p2 => (with_reducible refine mk_small (by assumption) (by assumption) ?_; omega)); intro _ _ _ _ hR; (obtain ⟨_, _, _, _, _, e1, e2, _, _, _, _⟩ := hR); subst e1; subst e2; walk_at "use new")
  k_with "all lt" => with_reducible first | assumption | exact And.right (by assumption : _ ∧ AllLt _ _) | exact And.right (And.right (by assumption : _ ∧ _ ∧ AllLt _ _)) | exact And.right (And.right (And.right (by assumption : _ ∧ _ ∧ _ ∧ AllLt _ _))) | (refine lt_sub (by assumption) ?_; walk_at "sub") | (refine lt_sub (AllLt.mem (And.right (by assumption : _ ∧ AllLt _ _))) ?_; walk_at "sub")
  k_with "fresh2" => (refine fresh2 ?_ ?_ <;> walk_at "all lt")
  k_with "call ref" => (k_here; (with_reducible show wpAny _ _ (call (Value.ref 170) _) _ _ _); (k_dflt refine' Spec.use (uns_specZ _ _ _ _ _ _ ?p0 ?p1 ?p2 ?p3 ?p4 ?p5) ?k1 ?k2 ?k3 ?k4 ?k5 ?k6 ?k7 ?k8 ?_); walk_at "use in"; (case p0 => walk_at "tx"); (case p1 => walk_at "as"); (case p2 => walk_at "as"); (case p3 => walk_at "as"); (case p4 => walk_at "as"); (case p5 => walk_at "as"); intro _ _ _ _ hR; (obtain ⟨_, e1, e2⟩ := hR); subst e1; subst e2; walk_at "use new")
  k_with "call ref" => (k_here; (with_reducible show wpAny _ _ (call (Value.ref 170) _) _ _ _); (k_dflt refine' Spec.use (uns_specT _ _ _ _ _ _ ?p0 ?p1 ?p2 ?p3 ?p4 ?p5) ?k1 ?k2 ?k3 ?k4 ?k5 ?k6 ?k7 ?k8 ?_); walk_at "use in"; (case p0 => walk_at "tx"); (case p1 => walk_at "as"); (case p2 => walk_at "as"); (case p3 => walk_at "as"); (case p4 => walk_at "as"); (case p5 => walk_at "as"); intro _ _ _ _ hR; (obtain ⟨_, _, _, _, _, _, e1, e2, _, _, _⟩ := hR); subst e1; subst e2; walk_at "use new2")
  k_with "call builtin:str.strip" => (k_here; (with_reducible refine' tx_strip ?ha ?hok ?hb ?hz ?_); (case ha => walk_at "tx"); (case hok => walk_at "as"); (case hb => walk_at "tx"); (case hz => walk_at "tx size"); intro _ _ _ _)
  k_with "subscriptTail Name Slice ref ref" => (k_here; (k_dflt refine' kmk_slice_ints ?zF ?zN ?zl ?zp ?zq ?zi ?zm ?zc ?_ ?zs ?zt ?zz); (case zF => k_asm); (case zN => k_asm); (case zl => kmk_list); (case zp => kmk_part); (case zq => kmk_part); (case zi => l_ints); (case zm => kmk_nums); (case zc => kmk_len); (case zs => with_unfolding_all rfl); (case zt => kmk_pure); (case zz => with_reducible assumption); intro D' ws' h' F' N' l1 hI' hC' hL'; (try simp only [Int.reduceNeg, Int.neg_neg, Int.reduceToNat] at hI' hC' hL'); (try k_lt l1); (try k_sweep))
  k_with "call builtin:list.append" => (k_here; (with_reducible show wpAny _ _ (call (Value.builtin _) [Value.ref _, _]) _ _ _); k_dflt (refine' append_K ?zk1 ?zk2 ?zk3 ?_ ?zz); (case zk1 => k_asm); (case zk2 => k_asm); (case zk3 => k_upd); (case zz => (rw [sizeLine_eq, List.size_toArray]; omega)); intro h' F' N'; (try k_sweep))
  k_with "call builtin:len" => (k_here; (with_reducible show wpAny _ _ (PySem.call (Value.builtin "len") [Value.ref _]) _ _ _); (k_dflt refine' kst_len ?zN ?zm ?ze ?zf ?_); (case zN => k_asm); (case zm => k_mem); (case ze => exact IntsAre.length (by with_reducible assumption)); (case zf => omega))
  k_with "subscriptTail Name Name ref int" => (k_here; (k_dflt refine' item_list_ints ?k1 ?k2 ?k3 ?k4 ?k5 ?_); (case k1 => k_dflt exact News.isList (by k_asm) (by k_mem)); (case k2 => with_reducible assumption); (case k3 => omega); (case k4 => omega); (case k5 => omega); intro _)
  k_with "call ref" => (k_here; (with_reducible show wpAny _ _ (call (Value.ref 191) _) _ _ _); (k_dflt refine' Spec.use (at_spec _ _ _ _ _ _ _ _ ?p0 ?p1 ?p2 ?p3 ?p4) ?k1 ?k2 ?k3 ?k4 ?k5 ?k6 ?k7 ?k8 ?_); walk_at "use in"; (case p0 => k_mem); (case p1 => walk_at "as"); (case p2 => walk_at "as"); (case p3 => omega); (case p4 => omega); intro _ _ _ _ hR; (obtain ⟨_, _, e1, e2, _, _⟩ := hR); subst e1; subst e2; walk_at "use end")
  k_with "subscriptTail List cons Call ref int" => (k_here; walk_at "subscriptTail"; (generalize hu9 : List.getD [1, 2, 3, 7, 8, 40, 999, 1000] _ (0 : Int) = u9); (have m9 := menu_of hu9 (by omega) (by omega)); clear hu9; (obtain ⟨_, _⟩ := m9))
  k_with "binaryOp Pow int int" => (k_here; (with_reducible refine' t_pow4 ?k1 ?k2 ?_); (case k1 => omega); (case k2 => omega); intro _ _ _ _ _)
  k_with "binaryOp Mult int int" => (k_here; (with_reducible refine' t_mul4 ?k1 ?k2 ?k3 ?k4 ?_); (case k1 => with_reducible assumption); (case k2 => with_reducible assumption); (case k3 => omega); (case k4 => omega); intro _ _ _ _ _)
  k_with "binaryOp FloorDiv int int" => (k_here; (with_reducible refine t_fdiv ?k1 ?k2 ?_); (case k1 => with_reducible exact (lf_out (by assumption) (by assumption)).1); (case k2 => (with_reducible refine lf_lt (by assumption) (by assumption) ?_; omega)); intro _ _ _ _ _)
  k_with "call ref" => (k_here; (with_reducible show wpAny _ _ (call (Value.ref 198) _) _ _ _); (k_dflt refine' Spec.use (frac_spec _ _ _ _ _ _ ?p0 ?p1 ?p2 ?p3) ?k1 ?k2 ?k3 ?k4 ?k5 ?k6 ?k7 ?k8 ?_); walk_at "use in"; (case p0 => k_mem); (case p1 => walk_at "as"); (case p2 => walk_at "as"); (case p3 => omega); intro _ _ _ _ hR; (obtain ⟨_, _, _, _, _, e1, e2, _, _, _⟩ := hR); subst e1; subst e2; walk_at "use new")
  k_with "binaryOp Mult int int" => (k_here; (with_reducible refine' t_mul (mulOk3 ?k1 ?k2) ?_); (case k1 => with_reducible assumption); (case k2 => with_reducible assumption); intro _ _)
  k_with "call ref" => (k_here; (with_reducible show wpAny _ _ (call (Value.ref 205) _) _ _ _); (k_dflt refine' Spec.use (far_spec _ _ _ _ _ _ _ _ _ _ ?p0 ?p1 ?p2 ?p3 ?p4 ?p5 ?p6 ?p7) ?k1 ?k2 ?k3 ?k4 ?k5 ?k6 ?k7 ?k8 ?_); walk_at "use in"; (case p0 => k_mem); (case p1 => k_mem); (case p2 => walk_at "as"); (case p3 => walk_at "as"); (case p4 => walk_at "as"); (case p5 => first | with_reducible assumption | exact sm600 (by omega) (by omega)); (case p6 => walk_at "ao"); (case p7 => walk_at "ao"); intro _ _ _ _ hR; (obtain ⟨_, _, _, _, _, e1, e2, _, _, _, _, _, _⟩ := hR); subst e1; subst e2; walk_at "use new")
  k_with "call ref" => (k_here; (with_reducible show wpAny _ _ (call (Value.ref 205) _) _ _ _); (k_dflt refine' Spec.use (far0_spec _ _ _ _ _ ?p0 ?p2 ?p3 ?p4) ?k1 ?k2 ?k3 ?k4 ?k5 ?k6 ?k7 ?k8 ?_); walk_at "use in"; (case p0 => k_mem); (case p2 => walk_at "as"); (case p3 => walk_at "as"); (case p4 => walk_at "as"); intro _ _ _ _ hR; (obtain ⟨_, _, _, _, _, e1, e2, _, _, _, _, _, _⟩ := hR); subst e1; subst e2; walk_at "use new")
  k_with "call ref" => (k_here; (with_reducible show wpAny _ _ (call (Value.ref 212) _) _ _ _); (k_dflt refine' Spec.use (less_spec _ _ _ _ _ _ _ _ _ _ ?p0 ?p1 ?p2 ?p3 ?p4 ?p5) ?k1 ?k2 ?k3 ?k4 ?k5 ?k6 ?k7 ?k8 ?_); walk_at "use in"; (case p0 => k_mem); (case p1 => k_mem); (case p2 => walk_at "sm"); (case p3 => walk_at "sm"); (case p4 => walk_at "sm"); (case p5 => walk_at "sm"); intro _ _ _ _ hR; (obtain ⟨e1, e2⟩ := hR); subst e1; subst e2; walk_at "use end")
  k_with "sm" => first | with_reducible assumption | exact sm_small (by omega) (by omega)
  k_with "call ref" => (k_here; (with_reducible show wpAny _ _ (call (Value.ref 80) _) _ _ _); (k_dflt refine' Spec.use (sig_spec _ _ _ _ _ _ _ ?p0 ?p1 ?p2 ?p3 ?p4 ?p5) ?k1 ?k2 ?k3 ?k4 ?k5 ?k6 ?k7 ?k8 ?_); walk_at "use in"; (case p0 => k_mem); (case p1 => walk_at "as"); (case p2 => walk_at "as"); (case p3 => walk_at "as"); (case p4 => walk_at "ao"); (case p5 => walk_at "ao"); intro _ _ _ _ hR; (obtain ⟨_, _, _, _, _, _, _, _, e1, e2, hT, hS⟩ := hR); subst e1; subst e2; (obtain ⟨_, _, _, _, _, _, _, _, _, _, _⟩ := SigR.more (by with_reducible assumption) (by with_reducible assumption) hS); (have hcv := congrArg val (codes_nat hT)); walk_at "use end")
  k_with "binaryOp Pow int int" => (k_here; (with_reducible refine' t_powL 20 rfl ?k1 ?k2 ?k3 ?_); (case k1 => omega); (case k2 => omega); (case k3 => decide); intro _ _ _ _ _ _)
  k_with "binaryOp Pow int int" => (k_here; (with_reducible refine' t_powL 10 rfl ?k1 ?k2 ?k3 ?_); (case k1 => omega); (case k2 => omega); (case k3 => decide); intro _ _ _ _ _ _)
  k_with "binaryOp Mult int int" => (k_here; (fail_if_success (with_reducible show wpAny _ _ (binaryOp _ _ (Value.int 10 _)) _ _ _)); first | ((with_reducible refine' t_mulS ?k1 ?k2 ?k3 ?k4 ?_); (case k1 => with_reducible assumption); (case k2 => with_reducible assumption); (case k3 => omega); (case k4 => omega); intro _ _ _ _ _ _) | ((with_reducible refine' t_mulB ?k5 ?k6 ?k7 ?k8 ?_); (case k5 => with_reducible assumption); (case k6 => with_reducible assumption); (case k7 => with_reducible assumption); (case k8 => omega); intro _ _ _ _ _ _))
  k_with "call builtin:str.index" => (k_here; (with_reducible refine' tx_index ?ha ?hb ?hc ?hA ?_); (case ha => walk_at "tx"); (case hb => walk_at "tx"); (case hc => walk_at "tx dig"); (case hA => with_unfolding_all rfl); intro _ _)
  k_with "ite" => (k_here; k_openite; (try simp only [beq_iff_eq, bne_iff_ne, decide_eq_true_eq]); (refine ite_neg ?hc ?_; (case hc => with_reducible exact (by assumption : _ → ¬ _) (by omega))))
  k_with "all lt" => with_reducible first | assumption | exact And.right (by assumption : _ ∧ AllLt _ _) | exact And.right (And.right (by assumption : _ ∧ _ ∧ AllLt _ _)) | exact And.right (And.right (And.right (by assumption : _ ∧ _ ∧ _ ∧ AllLt _ _))) | exact And.right (And.right (And.right (And.right (by assumption : _ ∧ _ ∧ _ ∧ _ ∧ AllLt _ _)))) | exact And.right (And.right (And.right (And.right (And.right (by assumption : _ ∧ _ ∧ _ ∧ _ ∧ _ ∧ AllLt _ _)))))
  k_with "compareOp Eq int int" => (k_here; (with_reducible refine' eq_int_t ?hc ?_); (case hc => omega))
  trivial
def TailMark : Prop := True
theorem rows_last_0 : True := by
  k_with "use new" => ((fail_if_success (with_reducible rename TailMark => kk8)); walk_at "use newn")
  k_with "use in" => ((case k1 => k_asm); (case k2 => first | k_asm | k_dflt k_asm); (case k3 => k_asm); (case k4 => first | k_asm | k_dflt k_asm); (case k5 => k_asm); (case k6 => exact rfl); (case k7 => first | exact room_of (by with_reducible assumption) (by decide) | ktr_room); (case k8 => first | exact units_of (by with_reducible assumption) (by decide) | ktr_units))
  k_with "call ref" => (k_here; (with_reducible show wpAny _ _ (call (Value.ref 184) _) _ _ _); (k_dflt refine' SpecL.use (cells_spec _ _ _ ?p0 ?p1) ?kl ?k1 ?k2 ?k3 ?k4 ?k5 ?k6 ?k7 ?k8 ?_); walk_at "use in"; (case p0 => l_ints); (case kl => k_asm); (case p1 => kmk_size); intro _ _ _ _ hR; (obtain ⟨_, _, _, _, rfl, rfl, _, _⟩ := hR); walk_at "use new")
  k_with "call ref" => (k_here; (with_reducible show wpAny _ _ (call (Value.ref 219) _) _ _ _); (k_dflt refine' Spec.use (told_spec _ _ _ _ _ _ _ ?p0 ?p1 ?p2 ?p3 ?p4 ?p5) ?k1 ?k2 ?k3 ?k4 ?k5 ?k6 ?k7 ?k8 ?_); walk_at "use in"; (case p0 => k_mem); (case p1 => walk_at "as"); (case p2 => walk_at "as"); (case p3 => walk_at "as"); (case p4 => walk_at "ao"); (case p5 => walk_at "ao"); intro _ _ _ _ hR; (obtain ⟨_, _, _, _, _, _, rfl, rfl, hV⟩ := hR); (obtain ⟨_, _, _, _⟩ := ValR.bd hV); walk_at "use new2n")
  k_with "call ref" => (k_here; (with_reducible show wpAny _ _ (call (Value.ref 177) _) _ _ _); (k_dflt refine' par_use ?p0 ?p1 ?p2 ?p3 ?p4 ?k1 ?k2 ?k3 ?k4 ?k5 ?k6 ?k7 ?k8 ?_ ?_); (case p0 => with_reducible assumption); (case p1 => walk_at "as"); (case p2 => walk_at "as"); (case p3 => omega); (case p4 => omega); walk_at "use in"; (intro _ _ _ _ l1 F' N'; (try simp only [AllLt, and_true] at l1); walk_at "use fin"); rotate_left; (intro _ _ _ _ _ _ _ _ _ _ _ _ l1 l2 F' N'; (try simp only [AllLt, and_true] at l1); (try simp only [AllLt, and_true] at l2); walk_at "use fin"))
  trivial
theorem join_execs {M : Model} {A : Around} {E : Value → Shared → Prop} {s : Shared} {st : List Stmt} {env : Env} {Q : Flow → Shared → Prop} {g : Heap} {L : Addr} {m : Str → Option Value} {news : List (Addr × Obj)} (P : (Str → Option Value) → (Str → Option Value) → Prop) (_ : Fr g L s.heap m) (_ : News g L s.heap news)
    (h1 : TailMark → wpAny M A (execs st env) (JoinP g L news s (P m)) E s) (h2 : ∀ h' tk m', P m m' → Fr g L h' m' → News g L h' news → Q .next { s with heap := h', toks := tk }) : wpAny M A (execs st env) Q E s :=
  wpAny_mono (h1 trivial) (fun fl s' h => by
    obtain ⟨e, h', tk, m', e2, F, N, hP⟩ := h
    subst e
    subst e2
    exact h2 h' tk m' hP F N) fun _ _ e => e
/-- what a turn's tail leaves: two names stored -/
def Tail (m m' : Str → Option Value) : Prop := ∃ a b, m' = fun y => if y = Str.ofString "back" then some b else if y = Str.ofString "read" then some a else m y
theorem rows_last_1 : True := by
  k_with "execs cons" => ((with_reducible show wpAny _ _ (execs [Stmt.Assign _ _ _, Stmt.If _ _ _ _, Stmt.If _ _ _ _] _) _ _ _); (fail_if_success (with_reducible show wpAny _ _ _ (JoinP _ _ _ _ _) _ _)); (with_reducible rename Fr _ _ _ _ => F'); (with_reducible rename News _ _ _ _ => N'); (try simp only [List.push_toArray, List.nil_append, List.cons_append] at N'); (k_dflt refine' join_execs Tail F' N' (fun tm => ?_) ?_); rotate_left; clear F' N'; intro h' tk' m' P' F' N'; (unfold Tail at P'); (obtain ⟨_, _, e9⟩ := P'); subst e9; (try k_sweep))
  trivial
theorem mono_any {n d k P Q n' d' P' Q' : Int} (h : ValR n d k P Q) (h' : ValR n' d' k P' Q') (hx : n * d' < n' * d) (hc : P' * Q < P * Q') (hd : 0 < d) (hd' : 0 < d') (hk : 1 ≤ k) (hk2 : k ≤ 12) : False := law_mono hd hd' hk hk2 h h' hx hc
theorem truthy_no {prog : Program} {w : World} {A : Around} {E : Value → Shared → Prop} {s : Shared} {Q : Bool → Shared → Prop} {c : Prop} [Decidable c] (h : c → False) (k : wpAny (model prog w) A (truthy (.bool false)) Q E s) : wpAny (model prog w) A (truthy (.bool (decide c))) Q E s := by rw [decide_eq_false h]; exact k
theorem rows_last_2 : True := by
  k_with "mono" => ((with_reducible refine' mono_any ?v1 ?v2 ?hx ?hc ?hd ?hd' ?hk ?hk2); (case hc => with_reducible assumption); (case v1 => with_reducible assumption); (case v2 => with_reducible assumption); (case hx => with_reducible assumption); (case hd => with_reducible assumption); (case hd' => with_reducible assumption); (case hk => omega); (case hk2 => omega))
  k_with "truthy bool" => ((with_reducible refine truthy_no ?nd ?_); (case nd => (intro hcc; walk_at "mono")))
  k_with "execs cons Return" => (exfalso; walk_at "mono")
  k_with "execs cons Return" => (exfalso; walk_at "close")
  k_with "close" => ((with_reducible refine' back_close ?c ?e1 ?e2 ?f1 ?f2 ?hV ?hB ?hq ?hd ?hk ?hk2); (case c => with_reducible assumption); (case e1 => with_reducible assumption); (case e2 => with_reducible assumption); (case f1 => with_reducible assumption); (case f2 => with_reducible assumption); (case hV => with_reducible assumption); (case hB => with_reducible assumption); (case hq => first | with_reducible assumption | decide); (case hd => with_reducible assumption); (case hk => omega); (case hk2 => omega))
  k_with "JoinP cons" => (exact ⟨rfl, _, _, _, rfl, by with_reducible assumption, by walk_at "news end", _, _, rfl⟩)
  trivial
set_option maxHeartbeats 0 in
theorem law_holds : PySem.Challenge.rw_ov0062_01.Holds := hd (by
  k_go0
  w_top off
  all_goals try k_fold
  with_reducible refine enter_let ?_
  intro EN AA EE QQ
  k_steps)

end Mine
theorem PySem.Challenge.cw_ov0062_01_holds : PySem.Challenge.rw_ov0062_01.Holds :=
  Mine.law_holds

import PyProof.Rows.All
import Wide.All
import OpenK.AllK
import Wide.FinOn
import Lean
import PySem.Challenge.RW_pb0218_01
open PySem PySem.Calls PySem.W PyProof.Rows
set_option Elab.async false
set_option maxRecDepth 100000
set_option maxHeartbeats 3000000
namespace Mine
open_top hd for PySem.Challenge.rw_pb0218_01

section
@[irreducible] def S (l : List Nat) : Str := ⟨l.toArray⟩
theorem S_def (l : List Nat) : S l = ⟨l.toArray⟩ := by unfold S; rfl
theorem S_cps (l : List Nat) : (S l).cps = l.toArray := by rw [S_def]
theorem S_list (l : List Nat) : (S l).cps.toList = l := by rw [S_def]
theorem S_len (l : List Nat) : (S l).length = l.length := by rw [S_def]; simp [Str.length]
theorem S_inj {a b : List Nat} (h : S a = S b) : a = b := by
  have := congrArg (fun x : Str => x.cps.toList) h
  simpa only [S_list] using this
theorem S_append (a b : List Nat) : S a ++ S b = S (a ++ b) := by
  rw [S_def, S_def, S_def]
  show Str.mk (a.toArray ++ b.toArray) = _
  simp
theorem lit_zero : Str.ofString "0" = S [48] := by rw [S_def]; decide +kernel
theorem lit_dot : Str.ofString "." = S [46] := by rw [S_def]; decide +kernel
theorem lit_minus : Str.ofString "-" = S [45] := by rw [S_def]; decide +kernel
theorem lit_plus : Str.ofString "+" = S [43] := by rw [S_def]; decide +kernel
theorem lit_nil : Str.ofString "" = S [] := by rw [S_def]; decide +kernel
theorem lit_p00 : Str.ofString "+00" = S [43, 48, 48] := by rw [S_def]; decide +kernel
theorem lit_d00 : Str.ofString ".00" = S [46, 48, 48] := by rw [S_def]; decide +kernel
theorem slice_to (l : List Nat) {j : Int} (h : 0 ≤ j) (h2 : j ≤ l.length) : Txt.slice (S l) none (some j) = S (l.take j.toNat) := by
  have e := StrLaws.sliceText_to (x := S l) (j := j) ⟨h, by rw [S_list]; exact h2⟩
  show StrLaws.sliceText _ _ _ = _
  rw [e, S_list, S_def]; simp
theorem slice_from (l : List Nat) {i : Int} (h : 0 ≤ i) (h2 : i ≤ l.length) : Txt.slice (S l) (some i) none = S (l.drop i.toNat) := by
  have e := StrLaws.sliceText_from (x := S l) (i := i) ⟨h, by rw [S_list]; exact h2⟩
  show StrLaws.sliceText _ _ _ = _
  rw [e, S_list, S_def]
  congr 2
  rw [List.take_of_length_le]
  rw [List.length_drop]; omega
theorem slice_from_beyond (l : List Nat) {i : Int} (h2 : (l.length : Int) ≤ i) : Txt.slice (S l) (some i) none = S [] := by
  rw [slice_beyond (by rw [S_len]; exact h2), S_def]; rfl
theorem slice_last (l : List Nat) : Txt.slice (S l) (some (-1)) none = S (l.drop (l.length - 1)) := by
  rw [slice_from_neg (by decide), S_len]
  by_cases h : l.length = 0
  · have : l = [] := List.length_eq_zero_iff.mp h
    subst this
    rw [slice_from _ (by decide) (by decide)]; rfl
  · rw [slice_from _ (by omega) (by omega)]
    congr 2
    omega
theorem slice_one (l : List Nat) : Txt.slice (S l) none (some 1) = S (l.take 1) := by
  by_cases h : l.length = 0
  · have : l = [] := List.length_eq_zero_iff.mp h
    subst this
    rw [S_def]; decide +kernel
  · exact slice_to l (by decide) (by omega)
theorem mul_one (c : Nat) (n : Int) : Txt.mul (S [c]) n = S (List.replicate n.toNat c) := by
  unfold Txt.mul
  by_cases h : n < 1
  · rw [if_pos h]
    have : n.toNat = 0 := by omega
    rw [this, S_def]; rfl
  · rw [if_neg h]
    by_cases h1 : n = 1
    · subst h1
      have h2 : ((1 : Int) == 1 || (S [c]).length == 0) = true := rfl
      rw [if_pos h2]; rfl
    · have h2 : ¬ ((n == 1 || (S [c]).length == 0) = true) := by
        rw [S_len]; simp; exact h1
      rw [if_neg h2, S_cps, S_def]
      congr 1
      generalize n.toNat = k
      have : ∀ (k : Nat) (acc : Array Nat), (List.replicate k #[c]).foldl (· ++ ·) acc = acc ++ (List.replicate k c).toArray := by
        intro k
        induction k with
        | zero => intro acc; simp
        | succ k ih => intro acc; rw [List.replicate_succ, List.foldl_cons, ih, List.replicate_succ]; apply Array.toList_inj.mp; simp
      rw [this]; simp
theorem in_one (l : List Nat) (c : Nat) : (!(Builtin.Str.occurrences (S l) (S [c]) 0 (S l).length 1).isEmpty) = decide (c ∈ l) := by
  have h := StrLaws.found_one (S l) c
  rw [S_list] at h
  rw [← h, S_def [c]]
theorem notin_one (l : List Nat) (c : Nat) : (Builtin.Str.occurrences (S l) (S [c]) 0 (S l).length 1).isEmpty = !decide (c ∈ l) := by
  rw [← in_one, Bool.not_not]
theorem item_at (l : List Nat) (i : Nat) (h : i < l.length) : Txt.item (S l) (i : Int) = S [l[i]] := by
  unfold Txt.item
  rw [S_def [l[i]]]
  have : Txt.charAt (S l) (i : Int) = some l[i] := by
    unfold Txt.charAt
    have h0 : ¬ ((i : Int) < 0) := by omega
    have h1 : (0 : Int) ≤ i ∧ (i : Int) < l.length := by omega
    simp only [seqIndex?, S_len, S_cps, if_neg h0]
    simp [h1, h]
  rw [this]; rfl
theorem At_iff (l : List Nat) (c i : Nat) : StrLaws.At (S l) (S [c]) (S l).length i ↔ l[i]? = some c := by
  have h := StrLaws.subAt_one (S l) c i
  rw [S_list] at h
  rw [S_def [c]]
  exact h
theorem occ_none (l : List Nat) (c : Nat) (h : c ∉ l) : Builtin.Str.occurrences (S l) (S [c]) 0 (S l).length 1 = [] := by
  have e := notin_one l c
  rw [decide_eq_false h] at e
  exact List.isEmpty_iff.mp e
theorem occ_first (a b : List Nat) (c : Nat) (h : c ∉ a) : ∃ r, Builtin.Str.occurrences (S (a ++ c :: b)) (S [c]) 0 (S (a ++ c :: b)).length 1 = a.length :: r := by
  rcases StrLaws.occ_head_from (S (a ++ c :: b)) (S [c]) 0 1 (Nat.le_refl 1) with ⟨_, hn⟩ | ⟨i, r, e, _, hat, hn⟩
  · exfalso
    refine hn a.length (Nat.zero_le _) ((At_iff _ _ _).mpr ?_)
    simp
  · refine ⟨r, ?_⟩
    have hi := (At_iff _ _ _).mp hat
    have h1 : ¬ a.length < i := fun hlt => hn a.length (Nat.zero_le _) hlt ((At_iff _ _ _).mpr (by simp))
    have h2 : ¬ i < a.length := fun hlt => by
      rw [List.getElem?_append_left hlt] at hi
      exact h (List.mem_of_getElem? hi)
    have : i = a.length := by omega
    rw [e, this]
theorem find_at (a b : List Nat) (c : Nat) (h : c ∉ a) : Txt.find (S (a ++ c :: b)) (S [c]) = (a.length : Int) := by
  obtain ⟨r, e⟩ := occ_first a b c h
  unfold Txt.find
  rw [e]
theorem strSub_S (l : List Nat) (i j : Nat) : Builtin.Str.strSub (S l) i j = S ((l.drop i).take (j - i)) := by
  have h := StrLaws.strSub_toList (S l) i j
  rw [S_list] at h
  rw [S_def ((l.drop i).take (j - i)), ← h]
theorem part_none (l : List Nat) (c : Nat) (h : c ∉ l) : Txt.partition (S l) (S [c]) = (S l, S [], S []) := by
  unfold Txt.partition
  rw [occ_none l c h, S_def []]; rfl
theorem part_at (a b : List Nat) (c : Nat) (h : c ∉ a) : Txt.partition (S (a ++ c :: b)) (S [c]) = (S a, S [c], S b) := by
  obtain ⟨r, e⟩ := occ_first a b c h
  unfold Txt.partition
  rw [e]
  show (Builtin.Str.strSub _ 0 a.length, S [c], Builtin.Str.strSub _ (a.length + (S [c]).length) (S (a ++ c :: b)).length) = _
  rw [strSub_S, strSub_S, S_len, S_len]
  congr 2
  · simp
  · have : a.length + [c].length = a.length + 1 := rfl
    rw [this]
    have e1 : (a ++ c :: b).drop (a.length + 1) = b := by
      rw [List.drop_append]; simp
    rw [e1]
    simp
    rw [List.take_of_length_le]; omega
theorem lstrip_S (l : List Nat) (c : Nat) : Txt.lstripChars (S l) (S [c]) = S (l.dropWhile (· == c)) := by
  have hd : ∀ l : List Nat, l.drop (l.takeWhile (· == c)).length = l.dropWhile (· == c) := by
    intro l
    induction l with
    | nil => rfl
    | cons a r ih =>
      by_cases h : (a == c) = true
      · rw [List.takeWhile_cons, if_pos h, List.dropWhile_cons, if_pos h]; simpa using ih
      · rw [List.takeWhile_cons, if_neg h, List.dropWhile_cons, if_neg h]; rfl
  have hg : ((S [c]).cps.contains) = fun x => x == c := by
    funext x
    rw [S_cps]
    rw [Bool.eq_iff_iff]; simp
  unfold Txt.lstripChars
  rw [PyProof.Rows.stripBy_eq]
  show Builtin.Str.strSub (S l) (stripLo _ true (S l)) (stripHi _ false (S l) _) = _
  rw [hg]
  simp only [stripLo, stripHi, if_true, Bool.false_eq_true, if_false]
  rw [strSub_S, S_list, S_len, hd]
  congr 1
  rw [List.take_of_length_le]
  have e := List.takeWhile_append_dropWhile (p := (· == c)) (l := l)
  have e2 := congrArg List.length e
  rw [List.length_append] at e2
  omega
theorem count_S (l : List Nat) (c : Nat) : Txt.count (S l) (S [c]) = (l.count c : Int) := by
  have h := count_cnt (S l) c
  rw [S_list] at h
  rw [S_def [c], h]
  clear h
  induction l with
  | nil => rfl
  | cons a r ih =>
    rw [cnt_cons, ih, List.count_cons]
    by_cases h : a = c
    · rw [if_pos h, if_pos (by simpa using h)]; omega
    · rw [if_neg h, if_neg (by simpa using h)]; omega
section
variable {prog : Program} {w : World} {A : Around} {E : Value → Shared → Prop} {s : Shared} {x y : Str} {a b : List Nat} {t u : Tok} {Q : Value → Shared → Prop}
theorem r_len (hx : x = S a) (hl : a.length ≤ 100000) (h : ∀ t' tk', Q (.int (a.length : Int) t') { s with toks := tk' }) : wpAny (model prog w) A (call (.builtin "len") [.str x t]) Q E s := by
  subst hx
  refine P.len_str (by rw [S_len]; omega) ?_
  rw [S_len]
  exact h _ _
theorem r_add (hx : x = S a) (hy : y = S b) (hl : a.length + b.length ≤ 100000) (h : ∀ t' tk', Q (.str (S (a ++ b)) t') { s with toks := tk' }) : wpAny (model prog w) A (binaryOp .Add (.str x t) (.str y u)) Q E s := by
  subst hx; subst hy
  refine P.add_str ?_
  by_cases h1 : ((S a).length == 0) = true
  · rw [if_pos h1]
    have : a = [] := by rw [S_len] at h1; simpa using h1
    subst this
    exact h _ _
  · rw [if_neg h1]
    by_cases h2 : ((S b).length == 0) = true
    · rw [if_pos h2]
      have : b = [] := by rw [S_len] at h2; simpa using h2
      subst this
      have e := h t s.toks
      rw [List.append_nil] at e
      exact e
    · rw [if_neg h2, S_append]
      exact ⟨by rw [S_len, List.length_append, sizeLine_eq]; omega, h _ _⟩
theorem r_str {v : Int} {n : Nat} (hv : v = (n : Int)) (hn : n < 10 ^ 100) (h : ∀ t' tk', Q (.str (Str.ofString (toString n)) t') { s with toks := tk' }) : wpAny (model prog w) A (call (.type "str") [.int v t]) Q E s := by
  subst hv
  refine P.str_of_int ?_ ?_
  · rw [Int.natAbs_natCast]
    by_cases h0 : n = 0
    · subst h0; decide
    · exact (Nat.log2_lt h0).mpr (Nat.lt_trans hn (by decide +kernel))
  · exact h _ _
theorem r_mul {c : Nat} {n : Int} (hx : x = S [c]) (hn : n ≤ 1000) (hn2 : -1000 ≤ n) (h : ∀ t' tk', Q (.str (S (List.replicate n.toNat c)) t') { s with toks := tk' }) : wpAny (model prog w) A (binaryOp .Mult (.str x t) (.int n u)) Q E s := by
  subst hx
  refine KXi.mul (n := 1) (by rw [S_len]; rfl) (by decide) (by omega) (by omega) ?_
  intro t' k _ _
  rw [mul_one]
  exact h _ _
variable {value slice : Expr} {h₀ : Heap} {L : Addr} {m : Str → Option Value} {news : List (Addr × Obj)}
theorem r_slice_to {j : Int} {uj : Tok} (hx : x = S a) (h0 : 0 ≤ j) (h2 : j ≤ a.length) (hl : a.length ≤ 100000) (hF : Fr h₀ L s.heap m) (hN : News h₀ L s.heap news) (h : ∀ h' t' k, Fr h₀ L h' m → News h₀ L h' news → Q (.str (S (a.take j.toNat)) t') { s with heap := h', toks := k })
    (hs : subscripted slice false (.str x t) (.ref s.heap.objs.size) = operate [.ref s.heap.objs.size, .str x t] (getItem (.str x t) (.ref s.heap.objs.size)) := by with_unfolding_all rfl)
    (ht : ∀ r, letTemporaryGo value (.str x t) r = pure () := by intro _; with_unfolding_all rfl) :
    wpAny (model prog w) A (subscriptTail value slice (.str x t) (.ref s.heap.objs.size)) Q E { s with heap := s.heap.push { cls := .type "slice", data := .fields #[.none, .int j uj, .none] } } := by
  subst hx
  refine slice_strN_ns hF hN (fun h' t' k F N => ?_) hs ht (by rw [S_len, sizeLine_eq]; omega)
  rw [slice_to a h0 h2]
  exact h h' t' k F N
theorem r_slice_one {uj : Tok} (hx : x = S a) (hl : a.length ≤ 100000) (hF : Fr h₀ L s.heap m) (hN : News h₀ L s.heap news) (h : ∀ h' t' k, Fr h₀ L h' m → News h₀ L h' news → Q (.str (S (a.take 1)) t') { s with heap := h', toks := k })
    (hs : subscripted slice false (.str x t) (.ref s.heap.objs.size) = operate [.ref s.heap.objs.size, .str x t] (getItem (.str x t) (.ref s.heap.objs.size)) := by with_unfolding_all rfl)
    (ht : ∀ r, letTemporaryGo value (.str x t) r = pure () := by intro _; with_unfolding_all rfl) :
    wpAny (model prog w) A (subscriptTail value slice (.str x t) (.ref s.heap.objs.size)) Q E { s with heap := s.heap.push { cls := .type "slice", data := .fields #[.none, .int 1 uj, .none] } } := by
  subst hx
  refine slice_strN_ns hF hN (fun h' t' k F N => ?_) hs ht (by rw [S_len, sizeLine_eq]; omega)
  rw [slice_one a]
  exact h h' t' k F N
theorem r_slice_from {i : Int} {ui : Tok} (hx : x = S a) (h0 : 0 ≤ i) (h2 : i ≤ a.length) (hl : a.length ≤ 100000) (hF : Fr h₀ L s.heap m) (hN : News h₀ L s.heap news) (h : ∀ h' t' k, Fr h₀ L h' m → News h₀ L h' news → Q (.str (S (a.drop i.toNat)) t') { s with heap := h', toks := k })
    (hs : subscripted slice false (.str x t) (.ref s.heap.objs.size) = operate [.ref s.heap.objs.size, .str x t] (getItem (.str x t) (.ref s.heap.objs.size)) := by with_unfolding_all rfl)
    (ht : ∀ r, letTemporaryGo value (.str x t) r = pure () := by intro _; with_unfolding_all rfl) :
    wpAny (model prog w) A (subscriptTail value slice (.str x t) (.ref s.heap.objs.size)) Q E { s with heap := s.heap.push { cls := .type "slice", data := .fields #[.int i ui, .none, .none] } } := by
  subst hx
  refine slice_strN_sn hF hN (fun h' t' k F N => ?_) hs ht (by rw [S_len, sizeLine_eq]; omega)
  rw [slice_from a h0 h2]
  exact h h' t' k F N
theorem r_slice_last {ui : Tok} (hx : x = S a) (hl : a.length ≤ 100000) (hF : Fr h₀ L s.heap m) (hN : News h₀ L s.heap news) (h : ∀ h' t' k, Fr h₀ L h' m → News h₀ L h' news → Q (.str (S (a.drop (a.length - 1))) t') { s with heap := h', toks := k })
    (hs : subscripted slice false (.str x t) (.ref s.heap.objs.size) = operate [.ref s.heap.objs.size, .str x t] (getItem (.str x t) (.ref s.heap.objs.size)) := by with_unfolding_all rfl)
    (ht : ∀ r, letTemporaryGo value (.str x t) r = pure () := by intro _; with_unfolding_all rfl) :
    wpAny (model prog w) A (subscriptTail value slice (.str x t) (.ref s.heap.objs.size)) Q E { s with heap := s.heap.push { cls := .type "slice", data := .fields #[.int (-1) ui, .none, .none] } } := by
  subst hx
  refine slice_strN_sn hF hN (fun h' t' k F N => ?_) hs ht (by rw [S_len, sizeLine_eq]; omega)
  rw [slice_last a]
  exact h h' t' k F N
end
end

section
def isDig (c : Nat) : Prop := 48 ≤ c ∧ c ≤ 57
def val (l : List Nat) : Int := l.foldl (fun (n : Int) (c : Nat) => n * 10 + ((c : Int) - 48)) 0
theorem val_snoc (l : List Nat) (c : Nat) : val (l ++ [c]) = val l * 10 + ((c : Int) - 48) := by simp [val]
theorem foldl_lead (l : List Nat) (n : Int) : l.foldl (fun (n : Int) (c : Nat) => n * 10 + ((c : Int) - 48)) n = n * 10 ^ l.length + val l := by
  induction l generalizing n with
  | nil => simp [val]
  | cons c r ih =>
    rw [List.foldl_cons, ih]
    unfold val
    rw [List.foldl_cons, ih (0 * 10 + _), List.length_cons, Int.pow_succ]
    unfold val
    generalize hq : List.foldl _ _ r = q
    have : ∀ (p x : Int), (n * 10 + x) * p + q = n * (p * 10) + ((0 * 10 + x) * p + q) := by
      intro p x
      rw [Int.add_mul, Int.zero_mul, Int.zero_add, Int.mul_assoc, Int.mul_comm 10 p]
      omega
    exact this _ _
theorem val_append (a b : List Nat) : val (a ++ b) = val a * 10 ^ b.length + val b := by
  unfold val
  rw [List.foldl_append, foldl_lead]; rfl
theorem val_zeros (k : Nat) : val (List.replicate k 48) = 0 := by
  induction k with
  | zero => rfl
  | succ k ih => rw [List.replicate_succ', val_snoc, ih]; rfl
theorem val_lead (k : Nat) (l : List Nat) : val (List.replicate k 48 ++ l) = val l := by
  rw [val_append, val_zeros]; simp
def ds (n : Nat) : List Nat := (Nat.toDigits 10 n).map Char.toNat
theorem ds_text (n : Nat) : Str.ofString (toString n) = S (ds n) := by
  rw [S_def, Str.ofString_eq_toList]
  congr 3
  show (Nat.repr n).toList = _
  exact Nat.toList_repr
theorem digitChar_nat {n : Nat} (h : n < 10) : (Nat.digitChar n).toNat = 48 + n := by
  have : n = 0 ∨ n = 1 ∨ n = 2 ∨ n = 3 ∨ n = 4 ∨ n = 5 ∨ n = 6 ∨ n = 7 ∨ n = 8 ∨ n = 9 := by omega
  rcases this with h | h | h | h | h | h | h | h | h | h <;> subst h <;> rfl
theorem ds_small {n : Nat} (h : n < 10) : ds n = [48 + n] := by
  unfold ds
  rw [Nat.toDigits_of_lt_base h, List.map_cons, digitChar_nat h]; rfl
theorem ds_big {n : Nat} (h : 10 ≤ n) : ds n = ds (n / 10) ++ [48 + n % 10] := by
  unfold ds
  rw [Nat.toDigits_of_base_le (by decide) h, List.map_append, List.map_cons, digitChar_nat (Nat.mod_lt _ (by decide))]; rfl
theorem ds_rec (P : Nat → List Nat → Prop) (h0 : ∀ n, n < 10 → P n [48 + n]) (h1 : ∀ n, 10 ≤ n → P (n / 10) (ds (n / 10)) → P n (ds (n / 10) ++ [48 + n % 10])) : ∀ n, P n (ds n) := by
  intro n
  induction n using Nat.strongRecOn with
  | _ n ih =>
    by_cases h : n < 10
    · rw [ds_small h]; exact h0 n h
    · rw [ds_big (by omega)]; exact h1 n (by omega) (ih _ (by omega))
theorem ds_val (n : Nat) : val (ds n) = n := by
  refine ds_rec (fun n l => val l = n) (fun n h => ?_) (fun n h ih => ?_) n
  · simp [val]; omega
  · rw [val_snoc, ih]; omega
theorem ds_dig (n : Nat) : ∀ c ∈ ds n, isDig c := by
  refine ds_rec (fun n l => ∀ c ∈ l, isDig c) (fun n h c hc => ?_) (fun n h ih c hc => ?_) n
  · rcases List.mem_singleton.mp hc with rfl
    unfold isDig; omega
  · rcases List.mem_append.mp hc with hc | hc
    · exact ih c hc
    · rcases List.mem_singleton.mp hc with rfl
      unfold isDig; omega
theorem ds_pos (n : Nat) : 0 < (ds n).length := by
  refine ds_rec (fun n l => 0 < l.length) (fun n h => by simp) (fun n h ih => by simp) n
theorem ds_head (n : Nat) : (ds n).length = 1 ∨ (ds n).head? ≠ some 48 := by
  have h : (n < 10 ∧ (ds n).length = 1) ∨ (0 < n ∧ (ds n).head? ≠ some 48) := by
    refine ds_rec (fun n l => (n < 10 ∧ l.length = 1) ∨ (0 < n ∧ l.head? ≠ some 48)) (fun n h => .inl ⟨h, rfl⟩) (fun n h ih => .inr ⟨by omega, ?_⟩) n
    have hp := ds_pos (n / 10)
    have e : (ds (n / 10) ++ [48 + n % 10]).head? = (ds (n / 10)).head? := by
      cases hd : ds (n / 10) with
      | nil => rw [hd] at hp; simp at hp
      | cons a r => rfl
    rw [e]
    rcases ih with ⟨h9, _⟩ | ⟨_, h2⟩
    · rw [ds_small h9]; simp; omega
    · exact h2
  rcases h with h | h
  · exact .inl h.2
  · exact .inr h.2
theorem ds_len {n k : Nat} (hk : 0 < k) (h : n < 10 ^ k) : (ds n).length ≤ k := by
  unfold ds
  rw [List.length_map]
  exact (Nat.length_toDigits_le_iff (by decide) hk).mpr h
/-- the figures, padded -/
def pad (k : Nat) (l : List Nat) : List Nat := List.replicate (k + 1 - l.length) 48 ++ l
def Ah (n k : Nat) : List Nat := (pad k (ds n)).take ((pad k (ds n)).length - k)
def Bh (n k : Nat) : List Nat := (pad k (ds n)).drop ((pad k (ds n)).length - k)
def sg (u : Int) : List Nat := if u < 0 then [45] else []
def fig (n k : Nat) : List Nat := if 0 < k then Ah n k ++ 46 :: Bh n k else ds n
def W (u : Int) (k : Nat) : List Nat := sg u ++ fig u.natAbs k
theorem pad_len (k : Nat) (l : List Nat) : (pad k l).length = max (k + 1) l.length := by
  unfold pad; simp; omega
theorem AB (n k : Nat) : Ah n k ++ Bh n k = pad k (ds n) := List.take_append_drop _ _
theorem Bh_len (n k : Nat) : (Bh n k).length = k := by
  unfold Bh; rw [List.length_drop, pad_len]; omega
theorem Ah_len (n k : Nat) : (Ah n k).length = max (k + 1) (ds n).length - k := by
  unfold Ah; rw [List.length_take, pad_len]; omega
theorem pad_dig (n k : Nat) : ∀ c ∈ pad k (ds n), isDig c := by
  intro c hc
  rcases List.mem_append.mp hc with hc | hc
  · rw [List.eq_of_mem_replicate hc]; unfold isDig; omega
  · exact ds_dig n c hc
theorem Ah_dig (n k : Nat) : ∀ c ∈ Ah n k, isDig c := fun c hc => pad_dig n k c (List.mem_of_mem_take hc)
theorem Bh_dig (n k : Nat) : ∀ c ∈ Bh n k, isDig c := fun c hc => pad_dig n k c (List.mem_of_mem_drop hc)
theorem AB_val (n k : Nat) : val (Ah n k ++ Bh n k) = n := by
  rw [AB]; unfold pad; rw [val_lead, ds_val]
theorem Ah_head (n k : Nat) : (Ah n k).length = 1 ∨ (Ah n k).head? ≠ some 48 := by
  by_cases h : (ds n).length ≤ k + 1
  · left; rw [Ah_len]; omega
  · have e : k + 1 - (ds n).length = 0 := by omega
    have e2 : pad k (ds n) = ds n := by unfold pad; rw [e]; rfl
    rcases ds_head n with h1 | h1
    · omega
    · right
      unfold Ah
      rw [e2]
      intro h2
      refine h1 ?_
      rw [List.head?_take] at h2
      split at h2
      · cases h2
      · exact h2
theorem Bh_last {n k : Nat} (hk : 0 < k) (hn : n % 10 ≠ 0) : ∃ l c, Bh n k = l ++ [c] ∧ c ≠ 48 := by
  have hl := Bh_len n k
  have hne : Bh n k ≠ [] := by intro e; rw [e] at hl; simp at hl; omega
  refine ⟨(Bh n k).dropLast, (Bh n k).getLast hne, (List.dropLast_concat_getLast hne).symm, ?_⟩
  intro h
  have e := AB_val n k
  rw [← List.dropLast_concat_getLast hne, ← List.append_assoc, val_snoc, h] at e
  omega
end

section
noncomputable abbrev loose : List Str := looseW hd.view_39 [Str.ofString "LedgerError", Str.ofString "decimal"]
abbrev Led := List (Addr × Obj)
def Con (w : World) (mean : ExcName → Option Value) (mg mb : Str → Option Value) (f : Addr) (vs : List Value) (news : Led) (dD uD : Nat) (Out : Value → Led → Prop) : Prop :=
  ∀ (dp un : Nat) (gd : Option (List Code)) (cn : Str) (cs : Scope) (a : Addr) (ccd : Value) (cl : List (Str × Addr)) (outer : List Env) (A₀ : Around) (base h₀ : Heap) (L : Addr) (m : Str → Option Value) (s : Shared) (Q E : Value → Shared → Prop),
    Below A₀ base outer h₀ → Fr h₀ L s.heap m → (hd.heap_39 w.params).In h₀ → News h₀ L s.heap news → Top hd.view_39 loose mean mg mb h₀ → cs.kind = .function → dp + dD < recursionLimit → un + uD < cLine →
    (∀ r tl h' tk', Fr h₀ L h' m → News h₀ L h' (tl ++ news) → (∀ q ∈ news, ∀ p ∈ tl, q.1 < p.1) → Out r tl → Q r { s with heap := h', toks := tk' }) →
    wpAny (model PySem.Challenge.rw_pb0218_01.row.prog w) (ktrTop dp un gd cn cs L a ccd cl outer) (call (.ref f) vs) Q E s

local macro_rules | `(tactic| walk_at "my_enter") => `(tactic| (refine' code_def ?k1 ?k2 ?k3 ?k4 ?k5 ?kA ?kF ?kK ?k6 ?k7 ?k8 ?k9 ?kB ?_ ?c2 ?c3 ?c4 ?c5; (case kA => exact rfl); (case kF => exact rfl); (case kK => assumption); (case k1 => k_asm); (case k2 => k_asm); (case k3 => k_asm); (case k4 => k_asm); (case k5 => k_asm); (case k6 => k_is); (case k7 => k_is); (case k8 => ktr_room); (case k9 => first | exact BindsTo.of_eq rfl | exact binds_K (by k_in) rfl (by k_is) rfl rfl rfl); (case c5 => decide); (case kB => exact locs rfl); (case c2 => exact rfl); (case c3 => exact rfl); (case c4 => exact rfl); k_whole; intro g' L' h' FG' F' N' B' X' T'; (try dsimp only); (try k_lift B'); (try k_fold)))


def Norm (u k : Int) : Prop := 0 ≤ k ∧ (0 < k → u.fmod 10 ≠ 0)
def DecOf (u k u' k' : Int) : Prop := if k < 0 then u' = u * 10 ^ (-k).toNat ∧ k' = 0 else Norm u' k' ∧ k' ≤ k ∧ u = u' * 10 ^ (k - k').toNat
theorem pow_bits (k : Int) (h : -3 ≤ k) : Builtin.Int.intBits (10 ^ (-k).toNat) ≤ 64 := by
  apply PySem.intBits_le_64
  · have : (0:Int) ≤ 10 ^ (-k).toNat := Int.pow_nonneg (by decide)
    omega
  · have h3 : (-k).toNat = 0 ∨ (-k).toNat = 1 ∨ (-k).toNat = 2 ∨ (-k).toNat = 3 := by omega
    rcases h3 with h | h | h | h <;> rw [h] <;> decide
def DInv (u0 k0 u k : Int) : Prop := 0 ≤ k ∧ k ≤ k0 ∧ u0 = u * 10 ^ (k0 - k).toNat
theorem dinv0 {u k : Int} (h : 0 ≤ k) : DInv u k u k := ⟨h, Int.le_refl _, by simp⟩
theorem dinvS {u0 k0 u k : Int} (h : DInv u0 k0 u k) (hk : 0 < k) (hm : u.fmod 10 = 0) : DInv u0 k0 (u.fdiv 10) (k - 1) := by
  obtain ⟨h1, h2, h3⟩ := h
  refine ⟨by omega, by omega, ?_⟩
  have e : (k0 - (k - 1)).toNat = (k0 - k).toNat + 1 := by omega
  have hu : u = u.fdiv 10 * 10 := by
    have h10 : u.fmod 10 = u % 10 := Int.fmod_eq_emod_of_nonneg u (by omega)
    have h11 : u.fdiv 10 = u / 10 := Int.fdiv_eq_ediv_of_nonneg u (by omega)
    omega
  rw [e, Int.pow_succ]
  rw [h3]
  conv => lhs; rw [hu]
  rw [Int.mul_assoc, Int.mul_comm 10]
theorem dec_neg {u k : Int} (h : k < 0) : DecOf u k (u * 10 ^ (-k).toNat) 0 := by
  unfold DecOf; rw [if_pos h]; exact ⟨rfl, rfl⟩
theorem dec_stop {u0 k0 u k : Int} (h0 : ¬ k0 < 0) (h : DInv u0 k0 u k) (hn : 0 < k → u.fmod 10 ≠ 0) : DecOf u0 k0 u k := by
  unfold DecOf; rw [if_neg h0]; exact ⟨⟨h.1, hn⟩, h.2.1, h.2.2⟩


theorem decimal_con {w : World} {mean : ExcName → Option Value} {mg mb : Str → Option Value} (u k : Int) (t t' : Tok) (news : Led) (hk : k ≤ 44) (hk' : -3 ≤ k) :
    Con w mean mg mb 70 [.int u t, .int k t'] news 3 20 (fun r tl => ∃ x u' k' t1 t2 , r = .ref x ∧ tl = [(x, { cls := .type "tuple", data := .seq #[.int u' t1, .int k' t2] })] ∧ DecOf u k u' k') := by
  have hbits := pow_bits k hk'
  unfold Con
  k_fill
  w_top off
  intro dp un gd cn cs a ccd cl outer A₀ base h₀ L m s Q E B F X N T hkf hd' hu hret
  refine wpAny_call ?_
  k_dflt walk_at "my_enter"
  k_with_none
  k_with "state" => first | exact dinv0 (by omega) | exact dinvS (by assumption) (by omega) (by omega)
  k_with "exec While BoolOp cons nil" => k_while_given ["units!", "scale!"] (fun u0 k0 _ u k => DInv u0 k0 u k) (fun u0 k0 _ u k => k.toNat) "units" "scale"
  k_steps
  all_goals (refine hret _ [_] _ _ (by assumption) (by assumption) (fun q hq p hp => by rcases List.mem_singleton.mp hp with rfl; with_reducible rename (∀ p ∈ news, _) => hlt; exact hlt q hq) ⟨_, _, _, _, _, rfl, rfl, ?_⟩)
  · exact dec_neg (by assumption)
  · exact dec_stop (by omega) (by assumption) (fun _ => by assumption)
  · exact dec_stop (by omega) (by assumption) (fun h => absurd h (by assumption))
end

section
local macro_rules | `(tactic| walk_at "my_enter") => `(tactic| (refine' code_def ?k1 ?k2 ?k3 ?k4 ?k5 ?kA ?kF ?kK ?k6 ?k7 ?k8 ?k9 ?kB ?_ ?c2 ?c3 ?c4 ?c5; (case kA => exact rfl); (case kF => exact rfl); (case kK => assumption); (case k1 => k_asm); (case k2 => k_asm); (case k3 => k_asm); (case k4 => k_asm); (case k5 => k_asm); (case k6 => k_is); (case k7 => k_is); (case k8 => ktr_room); (case k9 => first | exact BindsTo.of_eq rfl | exact binds_K (by k_in) rfl (by k_is) rfl rfl rfl); (case c5 => decide); (case kB => exact locs rfl); (case c2 => exact rfl); (case c3 => exact rfl); (case c4 => exact rfl); k_whole; intro g' L' h' FG' F' N' B' X' T'; (try dsimp only); (try k_lift B'); (try k_fold)))



def valL : List Int → Int := fun l => l.foldl (fun n c => n * 10 + (c - 48)) 0
theorem valL_snoc (l : List Int) (c : Int) : valL (l ++ [c]) = valL l * 10 + (c - 48) := by simp [valL]
theorem val_int {x y : Int} {t : Tok} (h : x = y) : Value.int x t = Value.int y t := by rw [h]
theorem dig_cases {c : Nat} (h : isDig c) : c = 48 ∨ c = 49 ∨ c = 50 ∨ c = 51 ∨ c = 52 ∨ c = 53 ∨ c = 54 ∨ c = 55 ∨ c = 56 ∨ c = 57 := by
  unfold isDig at h; omega
theorem find_dig {c : Nat} (h : isDig c) : Txt.find (Str.ofString "0123456789") { cps := #[c] } = (c : Int) - 48 := by
  rcases dig_cases h with h | h | h | h | h | h | h | h | h | h <;> subst h <;> decide +kernel
theorem code_dig {x : Str} (hx : ∀ c ∈ x.cps.toList, isDig c) {pre post : List Int} {n : Nat} (e : KStt.codes x = pre ++ (n : Int) :: post) : isDig n := by
  have h : (n : Int) ∈ KStt.codes x := by rw [e]; simp
  unfold KStt.codes at h
  obtain ⟨c, hc, hcn⟩ := List.mem_map.mp h
  have : c = n := by have := hcn; omega
  subst this
  exact hx c hc
theorem wo_step {x : Str} (hx : ∀ c ∈ x.cps.toList, isDig c) {pre post : List Int} {n : Nat} {v : Int} (e : KStt.codes x = pre ++ (n : Int) :: post) (h : v = valL pre) :
    v * 10 + Txt.find (Str.ofString "0123456789") { cps := #[n] } = valL (pre ++ [(n : Int)]) := by
  rw [valL_snoc, find_dig (code_dig hx e), h]
theorem wo_raise {x : Str} (hx : ∀ c ∈ x.cps.toList, isDig c) {pre post : List Int} {n : Nat} (e : KStt.codes x = pre ++ (n : Int) :: post) (h : Txt.find (Str.ofString "0123456789") { cps := #[n] } = -1) : False := by
  have hd := code_dig hx e
  rw [find_dig hd] at h
  unfold isDig at hd
  omega


local macro_rules | `(tactic| walk_at "InvEndN") => `(tactic| (k_here; k_dflt kst_close))
theorem worth_of_con {w : World} {mean : ExcName → Option Value} {mg mb : Str → Option Value} (x : Str) (t : Tok) (news : Led) (hx : ∀ c ∈ x.cps.toList, isDig c) (hl : x.length ≤ 200) :
    Con w mean mg mb 77 [.str x t] news 3 20 (fun r tl => tl = [] ∧ ∃ t1, r = .int (valL (KStt.codes x)) t1) := by
  unfold Con
  k_fill
  w_top off
  intro dp un gd cn cs a ccd cl outer A₀ base h₀ L m s Q E B F X N T hkf hd' hu hret
  refine wpAny_call ?_
  k_dflt walk_at "my_enter"
  k_with_none
  k_with "state" => first | rfl | exact wo_step hx (by assumption) (by assumption)
  k_with "pyIter str" => k_state (fun pre n => n = valL pre) "number"
  k_steps
  · exact (wo_raise hx (by assumption) (by assumption)).elim
  · refine hret _ [] _ _ (by assumption) (by assumption) (fun q hq p hp => nomatch hp) ⟨rfl, _, val_int (by assumption)⟩
end

section
local macro_rules | `(tactic| walk_at "my_enter") => `(tactic| (refine' code_def ?k1 ?k2 ?k3 ?k4 ?k5 ?kA ?kF ?kK ?k6 ?k7 ?k8 ?k9 ?kB ?_ ?c2 ?c3 ?c4 ?c5; (case kA => exact rfl); (case kF => exact rfl); (case kK => assumption); (case k1 => k_asm); (case k2 => k_asm); (case k3 => k_asm); (case k4 => k_asm); (case k5 => k_asm); (case k6 => k_is); (case k7 => k_is); (case k8 => ktr_room); (case k9 => first | exact BindsTo.of_eq rfl | exact binds_K (by k_in) rfl (by k_is) rfl rfl rfl); (case c5 => decide); (case kB => exact locs rfl); (case c2 => exact rfl); (case c3 => exact rfl); (case c4 => exact rfl); k_whole; intro g' L' h' FG' F' N' B' X' T'; (try dsimp only); (try k_lift B'); (try k_fold)))


abbrev tupO (u : Int) (t1 : Tok) (k : Int) (t2 : Tok) : Obj := { cls := .type "tuple", data := .seq #[.int u t1, .int k t2] }
section
variable {prog : Program} {w : World} {A : Around} {E : Value → Shared → Prop} {s : Shared} {Q : Value → Shared → Prop} {value slice : Expr} {h₀ : Heap} {L x : Addr} {news : Led} {u k : Int} {t1 t2 v : Tok}
theorem r_tup0 (N : News h₀ L s.heap news) (hm : (x, tupO u t1 k t2) ∈ news) (h : Q (.int u t1) s)
    (hs : subscripted slice false (.ref x) (.int 0 v) = operate [.ref x, .int 0 v] (getItem (.ref x) (.int 0 v)) := by with_unfolding_all rfl) : wpAny (model prog w) A (subscriptTail value slice (.ref x) (.int 0 v)) Q E s :=
  item_tupleT (l := [.int u t1, .int k t2]) (j := 0) (News.isTup N hm) (by decide) (by decide) rfl rfl h hs
theorem r_tup1 (N : News h₀ L s.heap news) (hm : (x, tupO u t1 k t2) ∈ news) (h : Q (.int k t2) s)
    (hs : subscripted slice false (.ref x) (.int 1 v) = operate [.ref x, .int 1 v] (getItem (.ref x) (.int 1 v)) := by with_unfolding_all rfl) : wpAny (model prog w) A (subscriptTail value slice (.ref x) (.int 1 v)) Q E s :=
  item_tupleT (l := [.int u t1, .int k t2]) (j := 1) (News.isTup N hm) (by decide) (by decide) rfl rfl h hs
end
theorem abs_nat (u : Int) : (if u < 0 then -u else u) = ((u.natAbs : Nat) : Int) := by split <;> omega
theorem val_str {a b : List Nat} {t : Tok} (h : a = b) : Value.str (S a) t = Value.str (S b) t := by rw [h]
theorem r_strN {prog : Program} {w : World} {A : Around} {E : Value → Shared → Prop} {s : Shared} {Q : Value → Shared → Prop} {t : Tok} {v : Int} {n : Nat} (hv : v = (n : Int)) (hn : n < 10 ^ 60) (h : ∀ t' tk', Q (.str (S (ds n)) t') { s with toks := tk' }) : wpAny (model prog w) A (call (.type "str") [.int v t]) Q E s :=
  r_str hv (Nat.lt_trans hn (by decide +kernel)) (fun t' tk' => by rw [ds_text]; exact h t' tk')
theorem fig_pos {n k : Nat} {l : List Nat} (h : 0 < (k : Int)) (e : l = List.replicate ((k : Int) + 1 - ((ds n).length : Int)).toNat 48 ++ ds n) :
    List.take ((l.length : Int) - (k : Int)).toNat l ++ [46] ++ List.drop ((l.length : Int) - (k : Int)).toNat l = fig n k := by
  have e1 : ((k : Int) + 1 - ((ds n).length : Int)).toNat = k + 1 - (ds n).length := by omega
  have e2 : l = pad k (ds n) := by rw [e, e1]; rfl
  have e3 : (((pad k (ds n)).length : Int) - (k : Int)).toNat = (pad k (ds n)).length - k := by omega
  rw [e2, e3]
  unfold fig
  rw [if_pos (by omega), List.append_assoc]; rfl
theorem W_neg_pos {u : Int} {k : Nat} {l : List Nat} (hu : u < 0) (h : l = fig u.natAbs k) : [45] ++ l = W u k := by
  unfold W sg; rw [if_pos hu, h]
theorem W_nn_pos {u : Int} {k : Nat} {l : List Nat} (hu : ¬ u < 0) (h : l = fig u.natAbs k) : l = W u k := by
  unfold W sg; rw [if_neg hu, h]; rfl
theorem fig_zero {n k : Nat} (h : ¬ 0 < (k : Int)) : ds n = fig n k := by
  unfold fig; rw [if_neg (by omega)]
local macro_rules | `(tactic| walk_at "subscriptTail Name Constant ref int") => `(tactic| (k_here; (with_reducible show wpAny _ _ (subscriptTail _ _ (Value.ref _) (Value.int 0 _)) _ _ _); (with_reducible rename News _ _ _ _ => N'); k_dflt (refine r_tup0 N' (by k_mem) ?_)))
local macro_rules | `(tactic| walk_at "subscriptTail Name Constant ref int") => `(tactic| (k_here; (with_reducible show wpAny _ _ (subscriptTail _ _ (Value.ref _) (Value.int 1 _)) _ _ _); (with_reducible rename News _ _ _ _ => N'); k_dflt (refine r_tup1 N' (by k_mem) ?_)))
local macro_rules | `(tactic| walk_at "my_lit") => `(tactic| first | exact rfl | exact lit_zero | exact lit_dot | exact lit_minus | exact lit_plus | exact lit_nil | exact lit_p00 | exact lit_d00)
local macro_rules | `(tactic| walk_at "my_size") => `(tactic| ((try simp only [List.length_append, List.length_replicate, List.length_take, List.length_drop, List.length_cons, List.length_nil, Int.natCast_add, Int.natCast_one]); omega))
local macro_rules | `(tactic| walk_at "call builtin:len") => `(tactic| (k_here; (with_reducible show wpAny _ _ (call (Value.builtin "len") [Value.str _ _]) _ _ _); (refine r_len (by walk_at "my_lit") (by walk_at "my_size") ?_); intro _ _))
local macro_rules | `(tactic| walk_at "binaryOp Add str str") => `(tactic| (k_here; (with_reducible show wpAny _ _ (binaryOp Operator.Add (Value.str _ _) (Value.str _ _)) _ _ _); (refine r_add (by walk_at "my_lit") (by walk_at "my_lit") (by walk_at "my_size") ?_); intro _ _))
local macro_rules | `(tactic| walk_at "binaryOp Mult str int") => `(tactic| (k_here; (with_reducible show wpAny _ _ (binaryOp Operator.Mult (Value.str _ _) (Value.int _ _)) _ _ _); (refine r_mul (by walk_at "my_lit") (by omega) (by omega) ?_); intro _ _))
local macro_rules | `(tactic| walk_at "call type:str") => `(tactic| (k_here; (with_reducible show wpAny _ _ (call (Value.type "str") [Value.int _ _]) _ _ _); (refine r_strN (abs_nat _) (by assumption) ?_); intro _ _))
local macro_rules | `(tactic| walk_at "subscriptTail Name Slice str ref") => `(tactic| (k_here; (with_reducible rename Fr _ _ _ _ => F'); (with_reducible rename News _ _ _ _ => N'); (first
  | ((with_reducible show wpAny _ _ (subscriptTail _ (Expr.Slice none (some _) none _) _ _) _ _ _); (refine r_slice_to (s := ⟨_, _, _, _, _⟩) (by walk_at "my_lit") (by walk_at "my_size") (by walk_at "my_size") (by walk_at "my_size") F' N' ?_); intro _ _ _ _ _)
  | ((with_reducible show wpAny _ _ (subscriptTail _ (Expr.Slice (some _) none none _) _ _) _ _ _); (refine r_slice_from (s := ⟨_, _, _, _, _⟩) (by walk_at "my_lit") (by walk_at "my_size") (by walk_at "my_size") (by walk_at "my_size") F' N' ?_); intro _ _ _ _ _))))

theorem write_con {w : World} {mean : ExcName → Option Value} {mg mb : Str → Option Value} (x : Addr) (u : Int) (k : Nat) (t1 t2 : Tok) (rest : Led) (hk : k ≤ 44) (hu0 : u.natAbs < 10 ^ 60) :
    Con w mean mg mb 91 [.ref x] ((x, tupO u t1 k t2) :: rest) 3 20 (fun r tl => tl = [] ∧ ∃ t, r = .str (S (W u k)) t) := by
  have hD := ds_len (n := u.natAbs) (by decide) hu0
  have hD0 := ds_pos u.natAbs
  unfold Con
  k_fill
  w_top off
  intro dp un gd cn cs a ccd cl outer A₀ base h₀ L m s Q E B F X N T hkf hd' hu hret
  refine wpAny_call ?_
  k_dflt walk_at "my_enter"
  k_with_none
  k_steps
  all_goals (refine hret _ [] _ _ (by assumption) (by assumption) (fun q hq p hp => nomatch hp) ⟨rfl, _, val_str ?_⟩)
  · exact W_neg_pos (by assumption) (fig_pos (by assumption) rfl)
  · exact W_nn_pos (by assumption) (fig_pos (by assumption) rfl)
  · exact W_neg_pos (by assumption) (fig_zero (by assumption))
  · exact W_nn_pos (by assumption) (fig_zero (by assumption))
end

section
/-- the law's own reading, sign by sign -/
def agStep (p : Int × Int × Bool) (c : Int) : Int × Int × Bool := if c = 46 then (p.1, p.2.1, true) else (p.1 * 10 + (c - 48), p.2.1 + (if p.2.2 = true then 1 else 0), p.2.2)
def agn (l : List Int) : Int × Int × Bool := l.foldl agStep (0, 0, false)
@[irreducible] def AgInv (l : List Int) (n b : Int) (p : Bool) : Prop := agn l = (n, b, p)
theorem ag_nil : AgInv [] 0 0 false := by unfold AgInv; rfl
theorem ag_dot {l : List Int} {n b : Int} {p : Bool} {c : Nat} (h : AgInv l n b p) (hc : [c] = [46]) : AgInv (l ++ [(c : Int)]) n b true := by
  have : c = 46 := by simpa using hc
  subst this
  unfold AgInv agn at *
  rw [List.foldl_append, h]; rfl
theorem ag_fig {l : List Int} {n b : Int} {p : Bool} {c : Nat} (h : AgInv l n b p) (hc : ¬ [c] = [46]) : AgInv (l ++ [(c : Int)]) (n * 10 + ((c : Int) - 48)) (b + (if p = true then 1 else 0)) p := by
  have : ¬ (c : Int) = 46 := by intro e; exact hc (by congr 1; omega)
  unfold AgInv agn at *
  rw [List.foldl_append, h]
  show agStep (n, b, p) (c : Int) = _
  unfold agStep
  rw [if_neg this]
def cs (l : List Nat) : List Int := l.map fun (c : Nat) => (c : Int)
theorem ag_digs (l : List Nat) (hl : ∀ c ∈ l, isDig c) (n b : Int) (p : Bool) : (cs l).foldl agStep (n, b, p) = (n * 10 ^ l.length + val l, b + (if p = true then (l.length : Int) else 0), p) := by
  induction l generalizing n b with
  | nil => cases p <;> simp [cs, val]
  | cons c r ih =>
    have hd : ¬ ((c : Int) = 46) := by have := hl c (List.mem_cons_self ..); unfold isDig at this; omega
    show (cs r).foldl agStep (agStep (n, b, p) (c : Int)) = _
    unfold agStep
    rw [if_neg hd]
    have e := ih (fun c hc => hl c (List.mem_cons_of_mem _ hc)) (n * 10 + ((c : Int) - 48)) (b + (if p = true then 1 else 0))
    unfold agStep at e
    refine e.trans ?_
    have e1 : (n * 10 + ((c : Int) - 48)) * 10 ^ r.length + val r = n * 10 ^ (c :: r).length + val (c :: r) := by
      have v : val (c :: r) = ((c : Int) - 48) * 10 ^ r.length + val r := by
        show List.foldl _ (0 * 10 + ((c : Int) - 48)) r = _
        rw [foldl_lead]; simp
      rw [v, List.length_cons, Int.pow_succ, Int.add_mul, Int.mul_assoc, Int.mul_comm 10, Int.add_assoc]
    refine Prod.ext e1 (Prod.ext ?_ rfl)
    cases p
    · simp
    · show b + (if true = true then 1 else 0) + (if true = true then (r.length : Int) else 0) = b + (if true = true then ((c :: r).length : Int) else 0)
      simp; omega
theorem fig_dig {n k : Nat} : ∀ c ∈ fig n k, isDig c ∨ c = 46 := by
  intro c hc
  unfold fig at hc
  split at hc
  · rcases List.mem_append.mp hc with h | h
    · exact .inl (Ah_dig n k c h)
    · rcases List.mem_cons.mp h with h | h
      · exact .inr h
      · exact .inl (Bh_dig n k c h)
  · exact .inl (ds_dig n c hc)
theorem ag_whole (n k : Nat) : ∃ p, agn (cs (fig n k)) = ((n : Int), (k : Int), p) := by
  unfold fig
  split
  · refine ⟨true, ?_⟩
    unfold agn
    have e : cs (Ah n k ++ 46 :: Bh n k) = cs (Ah n k) ++ (46 :: cs (Bh n k)) := by simp [cs]
    rw [e, List.foldl_append, ag_digs _ (Ah_dig n k), List.foldl_cons]
    have e2 : ∀ x y : Int, agStep (x, y, false) 46 = (x, y, true) := fun x y => rfl
    rw [e2, ag_digs _ (Bh_dig n k)]
    have v := AB_val n k
    rw [val_append] at v
    refine Prod.ext ?_ (Prod.ext ?_ rfl)
    · show (0 * 10 ^ _ + val (Ah n k)) * 10 ^ _ + val (Bh n k) = (n : Int)
      rw [Int.zero_mul, Int.zero_add]; exact v
    · show (0 + (if false = true then _ else 0)) + (if true = true then ((Bh n k).length : Int) else 0) = (k : Int)
      rw [Bh_len]; simp
  · rename_i hk
    refine ⟨false, ?_⟩
    unfold agn
    rw [ag_digs _ (ds_dig n), ds_val]
    have : k = 0 := by omega
    subst this
    simp
theorem fig_head (n k : Nat) : ∃ c r, fig n k = c :: r ∧ isDig c := by
  have : ∃ c r, (∀ x ∈ c :: r, isDig x ∨ x = 46) ∧ fig n k = c :: r ∧ isDig c := by
    unfold fig
    split
    · have hl := Ah_len n k
      cases hA : Ah n k with
      | nil => rw [hA] at hl; simp at hl; omega
      | cons c r =>
        have hc : isDig c := Ah_dig n k c (by rw [hA]; exact List.mem_cons_self ..)
        refine ⟨c, r ++ 46 :: Bh n k, ?_, by simp, hc⟩
        intro x hx
        have := fig_dig (n := n) (k := k) x
        unfold fig at this
        rename_i h
        rw [if_pos h, hA] at this
        exact this (by simpa using hx)
    · cases hA : ds n with
      | nil => have := ds_pos n; rw [hA] at this; simp at this
      | cons c r => exact ⟨c, r, fun x hx => .inl (ds_dig n x (by rw [hA]; exact hx)), rfl, ds_dig n c (by rw [hA]; exact List.mem_cons_self ..)⟩
  obtain ⟨c, r, _, h⟩ := this
  exact ⟨c, r, h⟩
theorem W_lstrip (u : Int) (k : Nat) : (W u k).dropWhile (· == 45) = fig u.natAbs k := by
  obtain ⟨c, r, e, hc⟩ := fig_head u.natAbs k
  unfold W sg
  rw [e]
  have hc2 : ¬ ((c == 45) = true) := by unfold isDig at hc; simp; omega
  split
  · show List.dropWhile _ (45 :: c :: r) = _
    rw [List.dropWhile_cons, if_pos (by rfl), List.dropWhile_cons, if_neg hc2]
  · show List.dropWhile _ (c :: r) = _
    rw [List.dropWhile_cons, if_neg hc2]
theorem W_one {u : Int} {k : Nat} : (W u k).take 1 = [45] ↔ u < 0 := by
  obtain ⟨c, r, e, hc⟩ := fig_head u.natAbs k
  unfold W sg
  rw [e]
  split
  · simp; assumption
  · simp; unfold isDig at hc; omega
theorem fig_len {n k : Nat} (hn : n < 10 ^ 60) (hk : k ≤ 44) : (fig n k).length ≤ 120 := by
  have := ds_len (by decide) hn
  unfold fig
  split
  · rw [List.length_append, List.length_cons, Ah_len, Bh_len]; omega
  · omega
theorem W_len {u : Int} {k : Nat} (hn : u.natAbs < 10 ^ 60) (hk : k ≤ 44) : (W u k).length ≤ 121 := by
  have := fig_len hn hk
  unfold W sg
  rw [List.length_append]
  split <;> simp <;> omega
theorem W_len1 {u : Int} {k : Nat} : 1 ≤ (W u k).length := by
  obtain ⟨c, r, e, hc⟩ := fig_head u.natAbs k
  unfold W
  rw [e, List.length_append]; simp; omega
end

section
local macro_rules | `(tactic| walk_at "my_enter") => `(tactic| (refine' code_def ?k1 ?k2 ?k3 ?k4 ?k5 ?kA ?kF ?kK ?k6 ?k7 ?k8 ?k9 ?kB ?_ ?c2 ?c3 ?c4 ?c5; (case kA => exact rfl); (case kF => exact rfl); (case kK => assumption); (case k1 => k_asm); (case k2 => k_asm); (case k3 => k_asm); (case k4 => k_asm); (case k5 => k_asm); (case k6 => k_is); (case k7 => k_is); (case k8 => ktr_room); (case k9 => first | exact BindsTo.of_eq rfl | exact binds_K (by k_in) rfl (by k_is) rfl rfl rfl); (case c5 => decide); (case kB => exact locs rfl); (case c2 => exact rfl); (case c3 => exact rfl); (case c4 => exact rfl); k_whole; intro g' L' h' FG' F' N' B' X' T'; (try dsimp only); (try k_lift B'); (try k_fold)))


theorem one_S (c : Nat) : ({ cps := #[c] } : Str) = S [c] := by rw [S_def]
section
variable {prog : Program} {w : World} {A : Around} {E : Value → Shared → Prop} {s : Shared} {x y : Str} {a b : List Nat} {t u : Tok} {Q : Value → Shared → Prop}
theorem r_eq (hx : x = S a) (hy : y = S b) (h : Q (.bool (decide (a = b))) s) : wpAny (model prog w) A (compareOp .Eq (.str x t) (.str y u)) Q E s := by
  subst hx; subst hy
  refine P.eq_str ?_
  rw [S_list, S_list]
  have e : (a == b) = decide (a = b) := by rw [Bool.eq_iff_iff]; simp
  rw [e]; exact h
theorem r_ne (hx : x = S a) (hy : y = S b) (h : Q (.bool (!decide (a = b))) s) : wpAny (model prog w) A (compareOp .NotEq (.str x t) (.str y u)) Q E s := by
  subst hx; subst hy
  refine P.ne_str ?_
  rw [S_list, S_list]
  have e : (a != b) = !decide (a = b) := by rw [bne]; congr 1; rw [Bool.eq_iff_iff]; simp
  rw [e]; exact h
theorem r_lstrip {c : Nat} (hx : x = S a) (hy : y = S [c]) (hl : a.length ≤ 100000) (h : ∀ t' tk', Q (.str (S (a.dropWhile (· == c))) t') { s with toks := tk' }) : wpAny (model prog w) A (call (.builtin "str.lstrip") [.str x t, .str y u]) Q E s := by
  subst hx; subst hy
  exact KXw.lstripChars (lstrip_S a c) (by rw [S_len, sizeLine_eq]; omega) (fun t' k => h t' k)
end
theorem allLt_mem {d : Addr} {l : List (Addr × Obj)} (h : AllLt d l) : ∀ p ∈ l, p.1 < d := by
  induction l with
  | nil => exact fun p hp => absurd hp List.not_mem_nil
  | cons a r ih =>
    intro p hp
    rcases List.mem_cons.mp hp with e | e
    · rw [e]; exact h.1
    · exact ih h.2 p e
theorem mem_drop2 {p q : Addr × Obj} {l : List (Addr × Obj)} : ∀ x ∈ [p] ++ l, x ∈ p :: q :: l := by
  intro x hx
  rcases List.mem_cons.mp hx with e | e
  · rw [e]; exact List.mem_cons_self
  · exact List.mem_cons_of_mem _ (List.mem_cons_of_mem _ e)
theorem one_lt {p : Addr × Obj} {l : List (Addr × Obj)} (h : AllLt p.1 l) : ∀ q ∈ l, ∀ p' ∈ [p], q.1 < p'.1 := by
  intro q hq p' hp'
  rw [List.mem_singleton.mp hp']
  exact allLt_mem h q hq
theorem ret2 {h₀ : Heap} {L : Addr} {m : Str → Option Value} {news : Led} {s : Shared} {Q : Value → Shared → Prop} {Out : Value → Led → Prop} {r : Value} {p q : Addr × Obj} {h' : Heap} {tk' : Nat}
    (hret : ∀ r tl h' tk', Fr h₀ L h' m → News h₀ L h' (tl ++ news) → (∀ q ∈ news, ∀ p ∈ tl, q.1 < p.1) → Out r tl → Q r { s with heap := h', toks := tk' })
    (F : Fr h₀ L h' m) (N : News h₀ L h' (p :: q :: news)) (l : q.1 < p.1 ∧ AllLt p.1 news) (o : Out r [p]) : Q r { s with heap := h', toks := tk' } :=
  hret r [p] h' tk' F (fun x hx => N x (mem_drop2 x hx)) (one_lt l.2) o
theorem sign_dig {l : List Nat} {pre post : List Int} {n : Nat} (e : KStt.codes (S l) = pre ++ (n : Int) :: post) (hl : ∀ c ∈ l, isDig c ∨ c = 46) (h : ¬ [n] = [46]) : isDig n := by
  have hm : (n : Int) ∈ KStt.codes (S l) := by rw [e]; simp
  unfold KStt.codes at hm
  obtain ⟨c, hc, hcn⟩ := List.mem_map.mp hm
  have : c = n := by have := hcn; omega
  subst this
  rw [S_list] at hc
  rcases hl c hc with h' | h'
  · exact h'
  · subst h'; exact absurd rfl h
theorem sign_not {l : List Nat} {pre post : List Int} {n : Nat} (e : KStt.codes (S l) = pre ++ (n : Int) :: post) (hl : ∀ c ∈ l, isDig c ∨ c = 46) (h : ¬ [n] = [46]) (hf : Txt.find (Str.ofString "0123456789") { cps := #[n] } = -1) : False := by
  have hd := sign_dig e hl h
  rw [find_dig hd] at hf
  unfold isDig at hd
  omega
theorem ag_fig_t {x : List Nat} {l post : List Int} {n b : Int} {p : Bool} {c : Nat} (e : KStt.codes (S x) = l ++ (c : Int) :: post) (hx : ∀ c ∈ x, isDig c ∨ c = 46) (h : AgInv l n b p) (hc : ¬ [c] = [46]) (hp : p = true) :
    AgInv (l ++ [(c : Int)]) (n * 10 + Txt.find (Str.ofString "0123456789") { cps := #[c] }) (b + 1) p := by
  rw [find_dig (sign_dig e hx hc)]
  have := ag_fig h hc
  subst hp
  exact this
theorem ag_fig_f {x : List Nat} {l post : List Int} {n b : Int} {p : Bool} {c : Nat} (e : KStt.codes (S x) = l ++ (c : Int) :: post) (hx : ∀ c ∈ x, isDig c ∨ c = 46) (h : AgInv l n b p) (hc : ¬ [c] = [46]) (hp : p = false) :
    AgInv (l ++ [(c : Int)]) (n * 10 + Txt.find (Str.ofString "0123456789") { cps := #[c] }) (b + 0) p := by
  rw [find_dig (sign_dig e hx hc)]
  have := ag_fig h hc
  subst hp
  exact this
theorem codes_S (l : List Nat) : KStt.codes (S l) = cs l := by unfold KStt.codes cs; rw [S_list]
theorem ag_fin {n k : Nat} {a b : Int} {p : Bool} (h : AgInv (KStt.codes (S (fig n k))) a b p) : a = (n : Int) ∧ b = (k : Int) := by
  rw [codes_S] at h
  obtain ⟨q, e⟩ := ag_whole n k
  unfold AgInv at h
  rw [e] at h
  have h1 := congrArg Prod.fst h
  have h2 := congrArg (fun x => x.2.1) h
  exact ⟨h1.symm, h2.symm⟩
theorem tup_eq {y : Addr} {a u b k : Int} {t1 t2 : Tok} (h1 : a = u) (h2 : b = k) : ([(y, { cls := .type "tuple", data := .seq #[.int a t1, .int b t2] })] : Led) = [(y, tupO u t1 k t2)] := by rw [h1, h2]
local macro_rules | `(tactic| walk_at "my_lit") => `(tactic| first | exact rfl | exact lit_zero | exact lit_dot | exact lit_minus | exact lit_plus | exact lit_nil | exact lit_p00 | exact lit_d00)
local macro_rules | `(tactic| walk_at "my_size") => `(tactic| ((try simp only [List.length_append, List.length_replicate, List.length_take, List.length_drop, List.length_cons, List.length_nil, Int.natCast_add, Int.natCast_one]); omega))
local macro_rules | `(tactic| walk_at "call builtin:len") => `(tactic| (k_here; (with_reducible show wpAny _ _ (call (Value.builtin "len") [Value.str _ _]) _ _ _); (refine r_len (by walk_at "my_lit") (by walk_at "my_size") ?_); intro _ _))
local macro_rules | `(tactic| walk_at "binaryOp Add str str") => `(tactic| (k_here; (with_reducible show wpAny _ _ (binaryOp Operator.Add (Value.str _ _) (Value.str _ _)) _ _ _); (refine r_add (by walk_at "my_lit") (by walk_at "my_lit") (by walk_at "my_size") ?_); intro _ _))
local macro_rules | `(tactic| walk_at "binaryOp Mult str int") => `(tactic| (k_here; (with_reducible show wpAny _ _ (binaryOp Operator.Mult (Value.str _ _) (Value.int _ _)) _ _ _); (refine r_mul (by walk_at "my_lit") (by omega) (by omega) ?_); intro _ _))
local macro_rules | `(tactic| walk_at "call type:str") => `(tactic| (k_here; (with_reducible show wpAny _ _ (call (Value.type "str") [Value.int _ _]) _ _ _); (refine r_strN (abs_nat _) (by assumption) ?_); intro _ _))
local macro_rules | `(tactic| walk_at "subscriptTail Name Slice str ref") => `(tactic| (k_here; (with_reducible rename Fr _ _ _ _ => F'); (with_reducible rename News _ _ _ _ => N'); (first
  | ((with_reducible show wpAny _ _ (subscriptTail _ (Expr.Slice none (some _) none _) _ _) _ _ _); (refine r_slice_to (s := ⟨_, _, _, _, _⟩) (by walk_at "my_lit") (by walk_at "my_size") (by walk_at "my_size") (by walk_at "my_size") F' N' ?_); intro _ _ _ _ _)
  | ((with_reducible show wpAny _ _ (subscriptTail _ (Expr.Slice (some _) none none _) _ _) _ _ _); (refine r_slice_from (s := ⟨_, _, _, _, _⟩) (by walk_at "my_lit") (by walk_at "my_size") (by walk_at "my_size") (by walk_at "my_size") F' N' ?_); intro _ _ _ _ _))))
local macro_rules | `(tactic| walk_at "my_lit") => `(tactic| first | exact rfl | exact lit_zero | exact lit_dot | exact lit_minus | exact lit_plus | exact lit_nil | exact lit_p00 | exact lit_d00 | exact one_S _)
local macro_rules | `(tactic| walk_at "compareOp Eq str str") => `(tactic| (k_here; (with_reducible show wpAny _ _ (compareOp CmpOp.Eq (Value.str _ _) (Value.str _ _)) _ _ _); (refine r_eq (by walk_at "my_lit") (by walk_at "my_lit") ?_)))
local macro_rules | `(tactic| walk_at "compareOp NotEq str str") => `(tactic| (k_here; (with_reducible show wpAny _ _ (compareOp CmpOp.NotEq (Value.str _ _) (Value.str _ _)) _ _ _); (refine r_ne (by walk_at "my_lit") (by walk_at "my_lit") ?_)))
local macro_rules | `(tactic| walk_at "call builtin:str.lstrip") => `(tactic| (k_here; (with_reducible show wpAny _ _ (call (Value.builtin "str.lstrip") [Value.str _ _, Value.str _ _]) _ _ _); (refine r_lstrip (by walk_at "my_lit") (by walk_at "my_lit") (by walk_at "my_size") ?_); intro _ _; (try rw [W_lstrip])))

local macro_rules | `(tactic| walk_at "InvEndN") => `(tactic| (k_here; k_dflt kst_close))


theorem again_con {w : World} {mean : ExcName → Option Value} {mg mb : Str → Option Value} (u : Int) (k : Nat) (t : Tok) (news : Led) (hk : k ≤ 44) (hu0 : u.natAbs < 10 ^ 60) :
    Con w mean mg mb 98 [.str (S (W u k)) t] news 3 20 (fun r tl => ∃ y t1 t2, r = .ref y ∧ tl = [(y, tupO u t1 k t2)]) := by
  have hW := W_len hu0 hk
  have hW1 := W_len1 (u := u) (k := k)
  unfold Con
  k_fill
  w_top off
  intro dp un gd cn cs a ccd cl outer A₀ base h₀ L m s Q E B F X N T hkf hd' hu hret
  refine wpAny_call ?_
  k_dflt walk_at "my_enter"
  k_with_none
  k_with "state" => first | exact ag_nil | exact ag_dot (by assumption) (by assumption) | exact ag_fig_t (by assumption) (fig_dig) (by assumption) (by assumption) (by assumption) | exact ag_fig_f (by assumption) (fig_dig) (by assumption) (by assumption) (by assumption)
  k_with "pyIter str" => k_state (fun pre n b p => AgInv pre n b p) "units" "behind" "is_part"
  k_steps
  · exact (sign_not (by assumption) (fig_dig) (by assumption) (by assumption)).elim
  · with_reducible rename AgInv _ _ _ _ => hag
    obtain ⟨e1, e2⟩ := ag_fin hag
    with_reducible rename (List.take _ _ = _) => h1
    have hneg := W_one.mp h1
    exact ret2 hret (by assumption) (by assumption) (by assumption) ⟨_, _, _, rfl, tup_eq (by omega) e2⟩
  · with_reducible rename AgInv _ _ _ _ => hag
    obtain ⟨e1, e2⟩ := ag_fin hag
    with_reducible rename (¬ List.take _ _ = _) => h1
    have hneg : ¬ u < 0 := fun h => h1 (W_one.mpr h)
    exact ret2 hret (by assumption) (by assumption) (by assumption) ⟨_, _, _, rfl, tup_eq (by omega) e2⟩
end

section
theorem no46 {l : List Nat} (h : ∀ c ∈ l, isDig c) : 46 ∉ l := fun m => by have := h _ m; unfold isDig at this; omega
theorem in_pt (A B : List Nat) : decide (46 ∈ A ++ 46 :: B) = true := by simp
theorem not_in {A : List Nat} (h : ∀ c ∈ A, isDig c) : decide (46 ∈ A) = false := decide_eq_false (no46 h)
theorem dig_app {A B : List Nat} (hA : ∀ c ∈ A, isDig c) (hB : ∀ c ∈ B, isDig c) : ∀ c ∈ A ++ B, isDig c := by
  intro c hc
  rcases List.mem_append.mp hc with h | h
  · exact hA c h
  · exact hB c h
/-- every place behind the sign bears a figure, or it is the point's -/
theorem at_dig {A B : List Nat} (hA : ∀ c ∈ A, isDig c) (hB : ∀ c ∈ B, isDig c) {i : Nat} (hi : i < (A ++ 46 :: B).length) (hp : i ≠ A.length) : isDig ((A ++ 46 :: B)[i]) := by
  by_cases h : i < A.length
  · rw [List.getElem_append_left h]; exact hA _ (List.getElem_mem h)
  · rw [List.getElem_append_right (by omega)]
    have hlt : i - A.length < (46 :: B).length := by rw [List.length_append] at hi; omega
    have key : ∀ (j : Nat) (hj : j < (46 :: B).length), j ≠ 0 → isDig ((46 :: B)[j]) := by
      intro j hj h0
      cases j with
      | zero => exact absurd rfl h0
      | succ j => rw [List.getElem_cons_succ]; exact hB _ (List.getElem_mem _)
    exact key _ hlt (by omega)


theorem drop_pt (A B : List Nat) : List.drop ((A.length : Int) + 1).toNat (A ++ 46 :: B) = B := by
  have : ((A.length : Int) + 1).toNat = A.length + 1 := by omega
  rw [this, List.drop_append]; simp


theorem lit_fig : Str.ofString "0123456789" = S [48, 49, 50, 51, 52, 53, 54, 55, 56, 57] := by rw [S_def]; decide +kernel
theorem loop_dig {T : List Nat} {kN : Int} {i : Nat} (hi : kN = (i : Int)) (hlt : i < T.length) (hd : isDig (T[i]))
    (h : (Builtin.Str.occurrences (Str.ofString "0123456789") (Txt.item (S T) kN) 0 (Str.ofString "0123456789").length 1).isEmpty = true) : False := by
  subst hi
  rw [item_at T i hlt, lit_fig, notin_one] at h
  have hm : T[i] ∈ [48, 49, 50, 51, 52, 53, 54, 55, 56, 57] := by
    unfold isDig at hd
    generalize T[i] = d at hd
    have : d = 48 ∨ d = 49 ∨ d = 50 ∨ d = 51 ∨ d = 52 ∨ d = 53 ∨ d = 54 ∨ d = 55 ∨ d = 56 ∨ d = 57 := by omega
    simpa using this
  rw [decide_eq_true hm] at h
  cases h
theorem loop_p1 {c : Nat} {A B : List Nat} {kN : Int} {pre : List Int} (hA : ∀ c ∈ A, isDig c) (hB : ∀ c ∈ B, isDig c) (e : kN = 1 + (pre.length : Int)) (lt : pre.length < (((c :: (A ++ 46 :: B)).length : Int) - 1).toNat)
    (h : (Builtin.Str.occurrences (Str.ofString "0123456789") (Txt.item (S (c :: (A ++ 46 :: B))) kN) 0 (Str.ofString "0123456789").length 1).isEmpty = true) (ne : kN ≠ 1 + (A.length : Int)) : False := by
  have l2 : (c :: (A ++ 46 :: B)).length = (A ++ 46 :: B).length + 1 := rfl
  refine loop_dig (i := pre.length + 1) (by omega) (by omega) ?_ h
  rw [List.getElem_cons_succ]
  exact at_dig hA hB (by omega) (by omega)
theorem loop_p0 {A B : List Nat} {kN : Int} {pre : List Int} (hA : ∀ c ∈ A, isDig c) (hB : ∀ c ∈ B, isDig c) (e : kN = 0 + (pre.length : Int)) (lt : pre.length < (((A ++ 46 :: B).length : Int) - 0).toNat)
    (h : (Builtin.Str.occurrences (Str.ofString "0123456789") (Txt.item (S (A ++ 46 :: B)) kN) 0 (Str.ofString "0123456789").length 1).isEmpty = true) (ne : kN ≠ 0 + (A.length : Int)) : False :=
  loop_dig (i := pre.length) (by omega) (by omega) (at_dig hA hB (by omega) (by omega)) h
theorem loop_n1 {c : Nat} {A : List Nat} {kN : Int} {pre : List Int} (hA : ∀ c ∈ A, isDig c) (e : kN = 1 + (pre.length : Int)) (lt : pre.length < (((c :: A).length : Int) - 1).toNat)
    (h : (Builtin.Str.occurrences (Str.ofString "0123456789") (Txt.item (S (c :: A)) kN) 0 (Str.ofString "0123456789").length 1).isEmpty = true) : False := by
  have l2 : (c :: A).length = A.length + 1 := rfl
  refine loop_dig (i := pre.length + 1) (by omega) (by omega) ?_ h
  rw [List.getElem_cons_succ]
  exact hA _ (List.getElem_mem _)
theorem loop_n0 {A : List Nat} {kN : Int} {pre : List Int} (hA : ∀ c ∈ A, isDig c) (e : kN = 0 + (pre.length : Int)) (lt : pre.length < ((A.length : Int) - 0).toNat)
    (h : (Builtin.Str.occurrences (Str.ofString "0123456789") (Txt.item (S A) kN) 0 (Str.ofString "0123456789").length 1).isEmpty = true) : False :=
  loop_dig (i := pre.length) (by omega) (by omega) (hA _ (List.getElem_mem _)) h
theorem loop_out {T : List Nat} {kN : Int} {n : Nat} {b : Int} (e : kN = b + (n : Int)) (hb : 0 ≤ b) (lt : n < ((T.length : Int) - b).toNat) (h : kN < -((S T).length : Int) ∨ ((S T).length : Int) ≤ kN) : False := by
  rw [S_len] at h; omega


theorem take_one {A : List Nat} (hA : ∀ c ∈ A, isDig c) (h0 : A ≠ []) (r : List Nat) : ∃ d, isDig d ∧ List.take (Int.toNat 1) (A ++ r) = [d] := by
  cases A with
  | nil => exact absurd rfl h0
  | cons d A => exact ⟨d, hA d List.mem_cons_self, rfl⟩
theorem dig_pm {d : Nat} (h : isDig d) : (decide ([d] = [43]) || decide ([d] = [45])) = false := by
  unfold isDig at h
  have h1 : ¬ ([d] = [43]) := by simp; omega
  have h2 : ¬ ([d] = [45]) := by simp; omega
  rw [decide_eq_false h1, decide_eq_false h2]; rfl
theorem dig_minus {d : Nat} (h : isDig d) : decide ([d] = [45]) = false := by
  unfold isDig at h
  exact decide_eq_false (by simp; omega)


theorem loop_p1' {c : Nat} {A B : List Nat} {kN : Int} {pre : List Int}
    (h : (Builtin.Str.occurrences (Str.ofString "0123456789") (Txt.item (S (c :: (A ++ 46 :: B))) kN) 0 (Str.ofString "0123456789").length 1).isEmpty = true) (ne : kN ≠ 1 + (A.length : Int)) (e : kN = 1 + (pre.length : Int)) (lt : pre.length < (((c :: (A ++ 46 :: B)).length : Int) - 1).toNat) (hA : ∀ c ∈ A, isDig c) (hB : ∀ c ∈ B, isDig c) : False := loop_p1 hA hB e lt h ne
theorem loop_p0' {A B : List Nat} {kN : Int} {pre : List Int}
    (h : (Builtin.Str.occurrences (Str.ofString "0123456789") (Txt.item (S (A ++ 46 :: B)) kN) 0 (Str.ofString "0123456789").length 1).isEmpty = true) (ne : kN ≠ 0 + (A.length : Int)) (e : kN = 0 + (pre.length : Int)) (lt : pre.length < (((A ++ 46 :: B).length : Int) - 0).toNat) (hA : ∀ c ∈ A, isDig c) (hB : ∀ c ∈ B, isDig c) : False := loop_p0 hA hB e lt h ne
theorem loop_n1' {c : Nat} {A : List Nat} {kN : Int} {pre : List Int}
    (h : (Builtin.Str.occurrences (Str.ofString "0123456789") (Txt.item (S (c :: A)) kN) 0 (Str.ofString "0123456789").length 1).isEmpty = true) (e : kN = 1 + (pre.length : Int)) (lt : pre.length < (((c :: A).length : Int) - 1).toNat) (hA : ∀ c ∈ A, isDig c) : False := loop_n1 hA e lt h
theorem loop_n0' {A : List Nat} {kN : Int} {pre : List Int}
    (h : (Builtin.Str.occurrences (Str.ofString "0123456789") (Txt.item (S A) kN) 0 (Str.ofString "0123456789").length 1).isEmpty = true) (e : kN = 0 + (pre.length : Int)) (lt : pre.length < ((A.length : Int) - 0).toNat) (hA : ∀ c ∈ A, isDig c) : False := loop_n0 hA e lt h
end

section
section
variable {prog : Program} {w : World} {A : Around} {E : Value → Shared → Prop} {s : Shared} {x y : Str} {a b : List Nat} {t u : Tok} {Q : Value → Shared → Prop}
theorem r_in {c : Nat} {v : Bool} (hx : x = S a) (hy : y = S [c]) (hv : decide (c ∈ a) = v) (h : Q (.bool v) s) : wpAny (model prog w) A (compareOp .In (.str y u) (.str x t)) Q E s := by
  subst hx; subst hy
  refine P.in_str ?_
  rw [in_one, hv]; exact h
theorem r_index {c : Nat} {b₂ : List Nat} (hx : x = S (a ++ c :: b₂)) (hy : y = S [c]) (hc : c ∉ a) (h : ∀ t' tk', Q (.int (a.length : Int) t') { s with toks := tk' }) : wpAny (model prog w) A (call (.builtin "str.index") [.str x t, .str y u]) Q E s := by
  subst hx; subst hy
  obtain ⟨r, e⟩ := occ_first a b₂ c hc
  refine SC.index e ?_
  exact h _ _
theorem r_in_pm {l : Addr} {v : Bool} {t1 t2 : Tok} (hx : x = S a) (hl : IsTup s.heap l #[.str (Str.ofString "+") t1, .str (Str.ofString "-") t2]) (hv : (decide (a = [43]) || decide (a = [45])) = v) (h : Q (.bool v) s) : wpAny (model prog w) A (compareOp .In (.str x t) (.ref l)) Q E s := by
  subst hx
  refine in_tuple_strs (ys := [Str.ofString "+", Str.ofString "-"]) hl (.cons _ _ (.cons _ _ .nil)) ?_
  have e : ([Str.ofString "+", Str.ofString "-"].any (· == S a)) = v := by
    rw [← hv, lit_plus, lit_minus]
    have e : ∀ c : Nat, (S [c] == S a) = decide (a = [c]) := by
      intro c
      rw [Bool.eq_iff_iff, beq_iff_eq, decide_eq_true_eq]
      exact ⟨fun h => (S_inj h).symm, fun h => by rw [h]⟩
    simp [List.any_cons, List.any_nil, e]
  rw [e]; exact h
variable {value slice : Expr} {h₀ : Heap} {L : Addr} {m : Str → Option Value} {news : List (Addr × Obj)}
theorem r_slice_toE {j : Int} {uj : Tok} (hx : x = S a) (h0 : 0 ≤ j) (h2 : j ≤ a.length) (hl : a.length ≤ 100000) (he : a.take j.toNat = b) (hF : Fr h₀ L s.heap m) (hN : News h₀ L s.heap news) (h : ∀ h' t' k, Fr h₀ L h' m → News h₀ L h' news → Q (.str (S b) t') { s with heap := h', toks := k })
    (hs : subscripted slice false (.str x t) (.ref s.heap.objs.size) = operate [.ref s.heap.objs.size, .str x t] (getItem (.str x t) (.ref s.heap.objs.size)) := by with_unfolding_all rfl)
    (ht : ∀ r, letTemporaryGo value (.str x t) r = pure () := by intro _; with_unfolding_all rfl) :
    wpAny (model prog w) A (subscriptTail value slice (.str x t) (.ref s.heap.objs.size)) Q E { s with heap := s.heap.push { cls := .type "slice", data := .fields #[.none, .int j uj, .none] } } := by
  subst he
  exact r_slice_to hx h0 h2 hl hF hN h hs ht
theorem r_slice_fromE {i : Int} {ui : Tok} (hx : x = S a) (h0 : 0 ≤ i) (h2 : i ≤ a.length) (hl : a.length ≤ 100000) (he : a.drop i.toNat = b) (hF : Fr h₀ L s.heap m) (hN : News h₀ L s.heap news) (h : ∀ h' t' k, Fr h₀ L h' m → News h₀ L h' news → Q (.str (S b) t') { s with heap := h', toks := k })
    (hs : subscripted slice false (.str x t) (.ref s.heap.objs.size) = operate [.ref s.heap.objs.size, .str x t] (getItem (.str x t) (.ref s.heap.objs.size)) := by with_unfolding_all rfl)
    (ht : ∀ r, letTemporaryGo value (.str x t) r = pure () := by intro _; with_unfolding_all rfl) :
    wpAny (model prog w) A (subscriptTail value slice (.str x t) (.ref s.heap.objs.size)) Q E { s with heap := s.heap.push { cls := .type "slice", data := .fields #[.int i ui, .none, .none] } } := by
  subst he
  exact r_slice_from hx h0 h2 hl hF hN h hs ht
end

section
variable {prog : Program} {w : World} {A : Around} {E : Value → Shared → Prop} {s : Shared} {x y : Str} {a b : List Nat} {t u : Tok} {Q : Value → Shared → Prop}
theorem r_eqF {v : Bool} (hx : x = S a) (hy : y = S b) (hv : decide (a = b) = v) (h : Q (.bool v) s) : wpAny (model prog w) A (compareOp .Eq (.str x t) (.str y u)) Q E s := r_eq hx hy (by rw [hv]; exact h)
end
theorem valL_cs (l : List Nat) : valL (cs l) = val l := by
  unfold valL cs val
  rw [List.foldl_map]
section
variable {w : World} {mean : ExcName → Option Value} {mg mb : Str → Option Value} {news : Led} {dp un : Nat} {gd : Option (List Code)} {cn : Str} {scp : Scope} {a : Addr} {ccd : Value} {cl : List (Str × Addr)} {outer : List Env} {A₀ : Around} {base h₀ : Heap} {L : Addr} {m : Str → Option Value} {s : Shared} {Q E : Value → Shared → Prop}
theorem use_worth {x : Str} {l : List Nat} {t : Tok} (hx : x = S l) (hl : ∀ c ∈ l, isDig c) (hn : l.length ≤ 200)
    (B : Below A₀ base outer h₀) (F : Fr h₀ L s.heap m) (X : (hd.heap_39 w.params).In h₀) (N : News h₀ L s.heap news) (T : Top hd.view_39 loose mean mg mb h₀) (hk : scp.kind = .function) (hd' : dp + 3 < recursionLimit) (hu : un + 20 < cLine)
    (ret : ∀ t' h' tk', Fr h₀ L h' m → News h₀ L h' news → Q (.int (val l) t') { s with heap := h', toks := tk' }) :
    wpAny (model PySem.Challenge.rw_pb0218_01.row.prog w) (ktrTop dp un gd cn scp L a ccd cl outer) (call (.ref 77) [.str x t]) Q E s := by
  subst hx
  refine worth_of_con (w := w) (mean := mean) (mg := mg) (mb := mb) (S l) t news (by rw [S_list]; exact hl) (by rw [S_len]; exact hn) dp un gd cn scp a ccd cl outer A₀ base h₀ L m s Q E B F X N T hk hd' hu ?_
  intro r tl h' tk' F' N' _ o
  obtain ⟨e, t1, e2⟩ := o
  rw [e] at N'
  rw [e2, codes_S, valL_cs]
  exact ret t1 h' tk' F' N'
theorem use_dec {u k : Int} {t1 t2 : Tok} (h1 : k ≤ 44) (h2 : -3 ≤ k)
    (B : Below A₀ base outer h₀) (F : Fr h₀ L s.heap m) (X : (hd.heap_39 w.params).In h₀) (N : News h₀ L s.heap news) (T : Top hd.view_39 loose mean mg mb h₀) (hk : scp.kind = .function) (hd' : dp + 3 < recursionLimit) (hu : un + 20 < cLine)
    (ret : ∀ y u' k' ta tb h' tk', Fr h₀ L h' m → News h₀ L h' ((y, tupO u' ta k' tb) :: news) → (∀ p ∈ news, p.1 < y) → DecOf u k u' k' → Q (.ref y) { s with heap := h', toks := tk' }) :
    wpAny (model PySem.Challenge.rw_pb0218_01.row.prog w) (ktrTop dp un gd cn scp L a ccd cl outer) (call (.ref 70) [.int u t1, .int k t2]) Q E s := by
  refine decimal_con (w := w) (mean := mean) (mg := mg) (mb := mb) u k t1 t2 news h1 h2 dp un gd cn scp a ccd cl outer A₀ base h₀ L m s Q E B F X N T hk hd' hu ?_
  intro r tl h' tk' F' N' hlt o
  obtain ⟨y, u', k', ta, tb, e1, e2, hd⟩ := o
  rw [e2] at N'
  rw [e1]
  exact ret y u' k' ta tb h' tk' F' N' (fun p hp => hlt p hp _ (by rw [e2]; exact List.mem_singleton.mpr rfl)) hd
end
theorem retN {h₀ : Heap} {L : Addr} {m : Str → Option Value} {news : Led} {s : Shared} {Q : Value → Shared → Prop} {Out : Value → Led → Prop} {r : Value} {p : Addr × Obj} (mid : Led) {h' : Heap} {tk' : Nat}
    (hret : ∀ r tl h' tk', Fr h₀ L h' m → News h₀ L h' (tl ++ news) → (∀ q ∈ news, ∀ p ∈ tl, q.1 < p.1) → Out r tl → Q r { s with heap := h', toks := tk' })
    (F : Fr h₀ L h' m) (N : News h₀ L h' (p :: (mid ++ news))) (l : AllLt p.1 (mid ++ news)) (o : Out r [p]) : Q r { s with heap := h', toks := tk' } := by
  refine hret r [p] h' tk' F (fun x hx => N x ?_) (fun q hq p' hp' => ?_) o
  · rcases List.mem_cons.mp hx with e | e
    · rw [e]; exact List.mem_cons_self
    · exact List.mem_cons_of_mem _ (List.mem_append_right _ e)
  · rw [List.mem_singleton.mp hp']
    exact allLt_mem l q (List.mem_append_right _ hq)
theorem dec_t {c : Nat} {x y k u' k' : Int} (h : [c] = [45]) (hx : DecOf x k u' k') (e : x = -y) : DecOf (if c = 45 then -y else y) k u' k' := by
  have : c = 45 := by simpa using h
  rw [if_pos this, ← e]; exact hx
theorem dec_f {c : Nat} {y k u' k' : Int} (h : ¬ [c] = [45]) (hx : DecOf y k u' k') : DecOf (if c = 45 then -y else y) k u' k' := by
  have : ¬ c = 45 := by intro e; exact h (by rw [e])
  rw [if_neg this]; exact hx
end

section
local macro_rules | `(tactic| walk_at "my_enter") => `(tactic| (refine' code_def ?k1 ?k2 ?k3 ?k4 ?k5 ?kA ?kF ?kK ?k6 ?k7 ?k8 ?k9 ?kB ?_ ?c2 ?c3 ?c4 ?c5; (case kA => exact rfl); (case kF => exact rfl); (case kK => assumption); (case k1 => k_asm); (case k2 => k_asm); (case k3 => k_asm); (case k4 => k_asm); (case k5 => k_asm); (case k6 => k_is); (case k7 => k_is); (case k8 => ktr_room); (case k9 => first | exact BindsTo.of_eq rfl | exact binds_K (by k_in) rfl (by k_is) rfl rfl rfl); (case c5 => decide); (case kB => exact locs rfl); (case c2 => exact rfl); (case c3 => exact rfl); (case c4 => exact rfl); k_whole; intro g' L' h' FG' F' N' B' X' T'; (try dsimp only); (try k_lift B'); (try k_fold)))

local macro_rules | `(tactic| walk_at "my_lit") => `(tactic| first | exact rfl | exact lit_zero | exact lit_dot | exact lit_minus | exact lit_plus | exact lit_nil | exact lit_p00 | exact lit_d00)
local macro_rules | `(tactic| walk_at "my_size") => `(tactic| ((try simp only [List.length_append, List.length_replicate, List.length_take, List.length_drop, List.length_cons, List.length_nil, Int.natCast_add, Int.natCast_one]); omega))
local macro_rules | `(tactic| walk_at "call builtin:len") => `(tactic| (k_here; (with_reducible show wpAny _ _ (call (Value.builtin "len") [Value.str _ _]) _ _ _); (refine r_len (by walk_at "my_lit") (by walk_at "my_size") ?_); intro _ _))
local macro_rules | `(tactic| walk_at "binaryOp Add str str") => `(tactic| (k_here; (with_reducible show wpAny _ _ (binaryOp Operator.Add (Value.str _ _) (Value.str _ _)) _ _ _); (refine r_add (by walk_at "my_lit") (by walk_at "my_lit") (by walk_at "my_size") ?_); intro _ _))
local macro_rules | `(tactic| walk_at "binaryOp Mult str int") => `(tactic| (k_here; (with_reducible show wpAny _ _ (binaryOp Operator.Mult (Value.str _ _) (Value.int _ _)) _ _ _); (refine r_mul (by walk_at "my_lit") (by omega) (by omega) ?_); intro _ _))
local macro_rules | `(tactic| walk_at "call type:str") => `(tactic| (k_here; (with_reducible show wpAny _ _ (call (Value.type "str") [Value.int _ _]) _ _ _); (refine r_strN (abs_nat _) (by assumption) ?_); intro _ _))
local macro_rules | `(tactic| walk_at "subscriptTail Name Slice str ref") => `(tactic| (k_here; (with_reducible rename Fr _ _ _ _ => F'); (with_reducible rename News _ _ _ _ => N'); (first
  | ((with_reducible show wpAny _ _ (subscriptTail _ (Expr.Slice none (some _) none _) _ _) _ _ _); (refine r_slice_to (s := ⟨_, _, _, _, _⟩) (by walk_at "my_lit") (by walk_at "my_size") (by walk_at "my_size") (by walk_at "my_size") F' N' ?_); intro _ _ _ _ _)
  | ((with_reducible show wpAny _ _ (subscriptTail _ (Expr.Slice (some _) none none _) _ _) _ _ _); (refine r_slice_from (s := ⟨_, _, _, _, _⟩) (by walk_at "my_lit") (by walk_at "my_size") (by walk_at "my_size") (by walk_at "my_size") F' N' ?_); intro _ _ _ _ _))))
local macro_rules | `(tactic| walk_at "my_lit") => `(tactic| first | exact rfl | exact lit_zero | exact lit_dot | exact lit_minus | exact lit_plus | exact lit_nil | exact lit_p00 | exact lit_d00 | exact one_S _)
local macro_rules | `(tactic| walk_at "compareOp Eq str str") => `(tactic| (k_here; (with_reducible show wpAny _ _ (compareOp CmpOp.Eq (Value.str _ _) (Value.str _ _)) _ _ _); (refine r_eq (by walk_at "my_lit") (by walk_at "my_lit") ?_)))
local macro_rules | `(tactic| walk_at "compareOp NotEq str str") => `(tactic| (k_here; (with_reducible show wpAny _ _ (compareOp CmpOp.NotEq (Value.str _ _) (Value.str _ _)) _ _ _); (refine r_ne (by walk_at "my_lit") (by walk_at "my_lit") ?_)))
local macro_rules | `(tactic| walk_at "call builtin:str.lstrip") => `(tactic| (k_here; (with_reducible show wpAny _ _ (call (Value.builtin "str.lstrip") [Value.str _ _, Value.str _ _]) _ _ _); (refine r_lstrip (by walk_at "my_lit") (by walk_at "my_lit") (by walk_at "my_size") ?_); intro _ _; (try rw [W_lstrip])))
local macro_rules | `(tactic| walk_at "my_fact") => `(tactic| first | assumption | rfl)
local macro_rules | `(tactic| walk_at "subscriptTail Name Slice str ref") => `(tactic| (k_here; (with_reducible rename Fr _ _ _ _ => F'); (with_reducible rename News _ _ _ _ => N'); (first
  | ((with_reducible show wpAny _ _ (subscriptTail _ (Expr.Slice none (some _) none _) _ _) _ _ _); (refine r_slice_toE (s := ⟨_, _, _, _, _⟩) (by walk_at "my_lit") (by walk_at "my_size") (by walk_at "my_size") (by walk_at "my_size") (by walk_at "my_fact") F' N' ?_); intro _ _ _ _ _)
  | ((with_reducible show wpAny _ _ (subscriptTail _ (Expr.Slice (some _) none none _) _ _) _ _ _); (refine r_slice_fromE (s := ⟨_, _, _, _, _⟩) (by walk_at "my_lit") (by walk_at "my_size") (by walk_at "my_size") (by walk_at "my_size") (by walk_at "my_fact") F' N' ?_); intro _ _ _ _ _))))
local macro_rules | `(tactic| walk_at "compareOp In str str") => `(tactic| (k_here; (with_reducible show wpAny _ _ (compareOp CmpOp.In (Value.str _ _) (Value.str _ _)) _ _ _); (refine r_in (by walk_at "my_lit") (by walk_at "my_lit") (by assumption) ?_)))
local macro_rules | `(tactic| walk_at "compareOp In str ref") => `(tactic| (k_here; (with_reducible show wpAny _ _ (compareOp CmpOp.In (Value.str _ _) (Value.ref _)) _ _ _); (with_unfolding_all refine' r_in_pm ?k0 ?k1 ?kb ?_; (case k0 => walk_at "my_lit"); (case k1 => exact News.isTup (by k_asm) (by news_mem)); (case kb => assumption); k_whole)))
local macro_rules | `(tactic| walk_at "call builtin:str.index") => `(tactic| (k_here; (with_reducible show wpAny _ _ (call (Value.builtin "str.index") [Value.str _ _, Value.str _ _]) _ _ _); (refine r_index (by walk_at "my_lit") (by walk_at "my_lit") (by assumption) ?_); intro _ _))
local macro_rules | `(tactic| walk_at "compareOp Eq str str") => `(tactic| (k_here; (with_reducible show wpAny _ _ (compareOp CmpOp.Eq (Value.str _ _) (Value.str _ _)) _ _ _); (refine r_eqF (by walk_at "my_lit") (by walk_at "my_lit") (by assumption) ?_)))
local macro_rules | `(tactic| walk_at "call ref") => `(tactic| (k_here; (with_reducible show wpAny _ _ (call (Value.ref 77) [Value.str _ _] _) _ _ _); (k_dflt (refine' use_worth ?kx ?kg ?kl ?k1 ?k2 ?k3 ?k4 ?k5 ?kK ?kd ?ku ?_; (case kx => walk_at "my_lit"); (case kg => assumption); (case kl => walk_at "my_size"); (case k1 => k_asm); (case k2 => k_asm); (case k3 => k_asm); (case k4 => k_asm); (case k5 => k_asm); (case kK => first | exact rfl | assumption); (case kd => ktr_room); (case ku => ktr_units))); intro t9 h9 tk9 F9 N9; (try dsimp only); (try k_fold)))
local macro_rules | `(tactic| walk_at "call ref") => `(tactic| (k_here; (with_reducible show wpAny _ _ (call (Value.ref 70) [Value.int _ _, Value.int _ _] _) _ _ _); (k_dflt (refine' use_dec ?kg ?kl ?k1 ?k2 ?k3 ?k4 ?k5 ?kK ?kd ?ku ?_; (case kg => first | omega | (simp; done)); (case kl => first | omega | (simp; done)); (case k1 => k_asm); (case k2 => k_asm); (case k3 => k_asm); (case k4 => k_asm); (case k5 => k_asm); (case kK => first | exact rfl | assumption); (case kd => ktr_room); (case ku => ktr_units))); intro y9 u9 s9 ta9 tb9 h9 tk9 F9 N9 l1 hDec; (try k_lt l1); (try dsimp only); (try k_fold)))

local macro_rules | `(tactic| walk_at "InvEndN") => `(tactic| (k_here; k_dflt ksr_close))
local macro_rules | `(tactic| walk_at "exec Raise some none") => `(tactic| (k_here; exfalso; (first
  | exact loop_p1' (by with_reducible assumption) (by with_reducible assumption) (by with_reducible assumption) (by with_reducible assumption) (by with_reducible assumption) (by with_reducible assumption)
  | exact loop_p0' (by with_reducible assumption) (by with_reducible assumption) (by with_reducible assumption) (by with_reducible assumption) (by with_reducible assumption) (by with_reducible assumption)
  | exact loop_n1' (by with_reducible assumption) (by with_reducible assumption) (by with_reducible assumption) (by with_reducible assumption)
  | exact loop_n0' (by with_reducible assumption) (by with_reducible assumption) (by with_reducible assumption) (by with_reducible assumption))))
theorem read_p1 {w : World} {mean : ExcName → Option Value} {mg mb : Str → Option Value} (c : Nat) (A B : List Nat) (t : Tok) (news : Led) (hc : c = 43 ∨ c = 45) (hA : ∀ c ∈ A, isDig c) (hB : ∀ c ∈ B, isDig c) (hB0 : B ≠ []) (hAl : A.length ≤ 80) (hBl : B.length ≤ 44) :
    Con w mean mg mb 84 [.str (S (c :: (A ++ 46 :: B))) t] news 6 60 (fun r tl => ∃ y u' k' t1 t2, r = .ref y ∧ tl = [(y, tupO u' t1 k' t2)] ∧ DecOf (if c = 45 then - val (A ++ B) else val (A ++ B)) B.length u' k') := by
  have hlen : (c :: (A ++ 46 :: B)).length ≤ 130 := by simp; omega
  have ht1 : List.take (Int.toNat 1) (c :: (A ++ 46 :: B)) = [c] := rfl
  have hpm : (decide ([c] = [43]) || decide ([c] = [45])) = true := by
    rcases hc with h | h <;> subst h <;> rfl
  have hin := in_pt A B
  have hno := no46 hA
  have hd1 : List.drop (Int.toNat 1) (c :: (A ++ 46 :: B)) = A ++ 46 :: B := rfl
  have hs1 : List.take (A.length : Int).toNat (A ++ 46 :: B) = A := by simp
  have hs2 : List.drop ((A.length : Int) + 1).toNat (A ++ 46 :: B) = B := drop_pt A B
  have hbe : decide (B = []) = false := decide_eq_false hB0
  have hab : decide (A ++ B = []) = false := decide_eq_false (by simp [hB0])
  have hAB := dig_app hA hB
  unfold Con
  k_fill
  w_top off
  intro dp un gd cn cs a ccd cl outer A₀ base h₀ L m s Q E B F X N T hkf hd' hu hret
  refine wpAny_call ?_
  k_dflt walk_at "my_enter"
  k_with_none
  k_with "pyIter ref" => k_search (fun _ => True)
  k_steps
  · exact (loop_out kEq (by decide) kLt (by assumption)).elim
  · exact retN [_, _, _] hret (by assumption) (by assumption) (by assumption) ⟨_, _, _, _, _, rfl, rfl, dec_t (by assumption) (by assumption) rfl⟩
  · exact retN [_, _, _] hret (by assumption) (by assumption) (by assumption) ⟨_, _, _, _, _, rfl, rfl, dec_f (by assumption) (by assumption)⟩
theorem read_p0 {w : World} {mean : ExcName → Option Value} {mg mb : Str → Option Value} (A B : List Nat) (t : Tok) (news : Led) (hA : ∀ c ∈ A, isDig c) (hA0 : A ≠ []) (hB : ∀ c ∈ B, isDig c) (hB0 : B ≠ []) (hAl : A.length ≤ 80) (hBl : B.length ≤ 44) :
    Con w mean mg mb 84 [.str (S (A ++ 46 :: B)) t] news 6 60 (fun r tl => ∃ y u' k' t1 t2, r = .ref y ∧ tl = [(y, tupO u' t1 k' t2)] ∧ DecOf (val (A ++ B)) B.length u' k') := by
  have hlen : (A ++ 46 :: B).length ≤ 130 := by simp; omega
  have hlen1 : 1 ≤ (A ++ 46 :: B).length := by simp; omega
  obtain ⟨d, hdg, ht1⟩ := take_one hA hA0 (46 :: B)
  have hpm := dig_pm hdg
  have hmi := dig_minus hdg
  have hin := in_pt A B
  have hno := no46 hA
  have hd1 : List.drop (Int.toNat 0) (A ++ 46 :: B) = A ++ 46 :: B := rfl
  have hs1 : List.take (A.length : Int).toNat (A ++ 46 :: B) = A := by simp
  have hs2 : List.drop ((A.length : Int) + 1).toNat (A ++ 46 :: B) = B := drop_pt A B
  have hbe : decide (B = []) = false := decide_eq_false hB0
  have hab : decide (A ++ B = []) = false := decide_eq_false (by simp [hB0])
  have hAB := dig_app hA hB
  unfold Con
  k_fill
  w_top off
  intro dp un gd cn cs a ccd cl outer A₀ base h₀ L m s Q E B F X N T hkf hd' hu hret
  refine wpAny_call ?_
  k_dflt walk_at "my_enter"
  k_with_none
  k_with "pyIter ref" => k_search (fun _ => True)
  k_steps
  · exact (loop_out kEq (by decide) kLt (by assumption)).elim
  · exact retN [_, _, _] hret (by assumption) (by assumption) (by assumption) ⟨_, _, _, _, _, rfl, rfl, by assumption⟩
theorem read_n1 {w : World} {mean : ExcName → Option Value} {mg mb : Str → Option Value} (c : Nat) (A : List Nat) (t : Tok) (news : Led) (hc : c = 43 ∨ c = 45) (hA : ∀ c ∈ A, isDig c) (hA0 : A ≠ []) (hAl : A.length ≤ 80) :
    Con w mean mg mb 84 [.str (S (c :: A)) t] news 6 60 (fun r tl => ∃ y u' k' t1 t2, r = .ref y ∧ tl = [(y, tupO u' t1 k' t2)] ∧ DecOf (if c = 45 then - val (A ++ []) else val (A ++ [])) ([] : List Nat).length u' k') := by
  have hlen : (c :: A).length ≤ 130 := by simp; omega
  have ht1 : List.take (Int.toNat 1) (c :: A) = [c] := rfl
  have hpm : (decide ([c] = [43]) || decide ([c] = [45])) = true := by
    rcases hc with h | h <;> subst h <;> rfl
  have hin := not_in hA
  have hd1 : List.drop (Int.toNat 1) (c :: A) = A := rfl
  have hab : decide (A ++ [] = []) = false := decide_eq_false (by simp [hA0])
  have hAB := dig_app hA (B := []) (fun c hc => nomatch hc)
  unfold Con
  k_fill
  w_top off
  intro dp un gd cn cs a ccd cl outer A₀ base h₀ L m s Q E B F X N T hkf hd' hu hret
  refine wpAny_call ?_
  k_dflt walk_at "my_enter"
  k_with_none
  k_with "pyIter ref" => k_search (fun _ => True)
  k_steps
  · exact (loop_out kEq (by decide) kLt (by assumption)).elim
  · exact retN [_, _] hret (by assumption) (by assumption) (by assumption) ⟨_, _, _, _, _, rfl, rfl, dec_t (by assumption) (by assumption) rfl⟩
  · exact retN [_, _] hret (by assumption) (by assumption) (by assumption) ⟨_, _, _, _, _, rfl, rfl, dec_f (by assumption) (by assumption)⟩
theorem read_n0 {w : World} {mean : ExcName → Option Value} {mg mb : Str → Option Value} (A : List Nat) (t : Tok) (news : Led) (hA : ∀ c ∈ A, isDig c) (hA0 : A ≠ []) (hAl : A.length ≤ 80) :
    Con w mean mg mb 84 [.str (S A) t] news 6 60 (fun r tl => ∃ y u' k' t1 t2, r = .ref y ∧ tl = [(y, tupO u' t1 k' t2)] ∧ DecOf (val (A ++ [])) ([] : List Nat).length u' k') := by
  have hlen1 : 1 ≤ A.length := List.length_pos_iff.mpr hA0
  obtain ⟨d, hdg, ht1⟩ := take_one hA hA0 []
  rw [List.append_nil] at ht1
  have hpm := dig_pm hdg
  have hmi := dig_minus hdg
  have hin := not_in hA
  have hd1 : List.drop (Int.toNat 0) A = A := rfl
  have hab : decide (A ++ [] = []) = false := decide_eq_false (by simp [hA0])
  have hAB := dig_app hA (B := []) (fun c hc => nomatch hc)
  unfold Con
  k_fill
  w_top off
  intro dp un gd cn cs a ccd cl outer A₀ base h₀ L m s Q E B F X N T hkf hd' hu hret
  refine wpAny_call ?_
  k_dflt walk_at "my_enter"
  k_with_none
  k_with "pyIter ref" => k_search (fun _ => True)
  k_steps
  · exact (loop_out kEq (by decide) kLt (by assumption)).elim
  · exact retN [_, _] hret (by assumption) (by assumption) (by assumption) ⟨_, _, _, _, _, rfl, rfl, by assumption⟩
end

section
theorem pow_pos' (n : Nat) : (0 : Int) < 10 ^ n := Int.pow_pos (by decide)
theorem fmod_mul (u : Int) {n : Nat} (h : 0 < n) : (u * 10 ^ n).fmod 10 = 0 := by
  obtain ⟨m, rfl⟩ : ∃ m, n = m + 1 := ⟨n - 1, by omega⟩
  rw [Int.pow_succ, ← Int.mul_assoc, Int.fmod_eq_emod_of_nonneg _ (by decide)]
  exact Int.mul_emod_left _ _
theorem mul_cancel {a b : Int} {n : Nat} (h : a * 10 ^ n = b * 10 ^ n) : a = b :=
  Int.eq_of_mul_eq_mul_right (Int.ne_of_gt (pow_pos' n)) h
theorem dec_same {u : Int} {k j : Nat} {u' k' : Int} (hn : Norm u k) (hd : DecOf (u * 10 ^ j) ((k : Int) + j) u' k') : u' = u ∧ k' = k := by
  unfold DecOf at hd
  rw [if_neg (by omega)] at hd
  obtain ⟨⟨h0, hn'⟩, hle, he⟩ := hd
  obtain ⟨q, rfl⟩ : ∃ q : Nat, k' = (q : Int) := ⟨k'.toNat, by omega⟩
  have e1 : ((k : Int) + j - q).toNat = k + j - q := by omega
  rw [e1] at he
  by_cases h1 : q < k
  · exfalso
    have e2 : k + j - q = (k - q) + j := by omega
    rw [e2, Int.pow_add, ← Int.mul_assoc] at he
    have := mul_cancel he
    refine hn.2 (by omega) ?_
    rw [this]; exact fmod_mul _ (by omega)
  · by_cases h2 : k < q
    · exfalso
      have e2 : j = (q - k) + (k + j - q) := by omega
      have e3 : u * 10 ^ j = u * 10 ^ (q - k) * 10 ^ (k + j - q) := by
        conv => lhs; rw [e2, Int.pow_add]
        rw [Int.mul_assoc]
      rw [e3] at he
      have := mul_cancel he
      refine hn' (by omega) ?_
      rw [← this]; exact fmod_mul _ (by omega)
    · have : q = k := by omega
      subst this
      have e2 : q + j - q = j := by omega
      rw [e2] at he
      exact ⟨(mul_cancel he).symm, rfl⟩
/-- a text of read_decimal's, its figures' worth and how many stand behind the point -/
inductive RForm : List Nat → Int → Nat → Prop where
  | p1 (c : Nat) (A B : List Nat) (hc : c = 43 ∨ c = 45) (hA : ∀ c ∈ A, isDig c) (hB : ∀ c ∈ B, isDig c) (hB0 : B ≠ []) (hAl : A.length ≤ 80) (hBl : B.length ≤ 44) : RForm (c :: (A ++ 46 :: B)) (if c = 45 then - val (A ++ B) else val (A ++ B)) B.length
  | p0 (A B : List Nat) (hA : ∀ c ∈ A, isDig c) (hA0 : A ≠ []) (hB : ∀ c ∈ B, isDig c) (hB0 : B ≠ []) (hAl : A.length ≤ 80) (hBl : B.length ≤ 44) : RForm (A ++ 46 :: B) (val (A ++ B)) B.length
  | n1 (c : Nat) (A : List Nat) (hc : c = 43 ∨ c = 45) (hA : ∀ c ∈ A, isDig c) (hA0 : A ≠ []) (hAl : A.length ≤ 80) : RForm (c :: A) (if c = 45 then - val (A ++ []) else val (A ++ [])) 0
  | n0 (A : List Nat) (hA : ∀ c ∈ A, isDig c) (hA0 : A ≠ []) (hAl : A.length ≤ 80) : RForm A (val (A ++ [])) 0
def ReadsTo (T : List Nat) (u : Int) (k : Nat) : Prop := ∃ j, RForm T (u * 10 ^ j) (k + j) ∧ Norm u k
theorem RForm.eq {T T' : List Nat} {U U' : Int} {K K' : Nat} (h : RForm T U K) (h1 : T = T') (h2 : U = U') (h3 : K = K') : RForm T' U' K' := by subst h1; subst h2; subst h3; exact h
theorem ds_val' (n : Nat) : val (ds n ++ []) = n := by rw [List.append_nil, ds_val]
theorem Ah_ne (n k : Nat) : Ah n k ≠ [] := by
  intro e; have := Ah_len n k; rw [e] at this; simp at this; omega
theorem Bh_ne {n k : Nat} (h : 0 < k) : Bh n k ≠ [] := by
  intro e; have := Bh_len n k; rw [e] at this; simp at this; omega
theorem ds_ne (n : Nat) : ds n ≠ [] := by
  intro e; have := ds_pos n; rw [e] at this; simp at this
section
variable {u : Int} {k : Nat}
theorem Ah_le (hu : u.natAbs < 10 ^ 60) (hk : k ≤ 43) : (Ah u.natAbs k).length ≤ 60 := by
  have := ds_len (by decide) hu
  rw [Ah_len]; omega
theorem reads_1p (hu : u.natAbs < 10 ^ 60) (h0 : 0 < k) (hk : k ≤ 43) (hn : Norm u k) : ReadsTo (W u k) u k := by
  refine ⟨0, ?_, hn⟩
  have hf : fig u.natAbs k = Ah u.natAbs k ++ 46 :: Bh u.natAbs k := by unfold fig; rw [if_pos h0]
  have hl := Ah_le hu hk
  have hB := Bh_len u.natAbs k
  unfold W sg
  split
  · rename_i hneg
    refine (RForm.p1 45 _ _ (.inr rfl) (Ah_dig u.natAbs k) (Bh_dig u.natAbs k) (Bh_ne h0) (by omega) (by omega)).eq (by rw [hf]; rfl) ?_ (by omega)
    rw [if_pos rfl, AB_val]; simp; omega
  · refine (RForm.p0 _ _ (Ah_dig u.natAbs k) (Ah_ne _ _) (Bh_dig u.natAbs k) (Bh_ne h0) (by omega) (by omega)).eq (by rw [hf]; rfl) ?_ (by omega)
    rw [AB_val]; simp; omega
theorem reads_1n (hu : u.natAbs < 10 ^ 60) (h0 : k = 0) (hn : Norm u k) : ReadsTo (W u k) u k := by
  refine ⟨0, ?_, hn⟩
  have hf : fig u.natAbs k = ds u.natAbs := by unfold fig; rw [if_neg (by omega)]
  have hl := ds_len (by decide) hu
  unfold W sg
  split
  · refine (RForm.n1 45 _ (.inr rfl) (ds_dig u.natAbs) (ds_ne _) (by omega)).eq (by rw [hf]; rfl) ?_ (by omega)
    rw [if_pos rfl, ds_val']; simp; omega
  · refine (RForm.n0 _ (ds_dig u.natAbs) (ds_ne _) (by omega)).eq (by rw [hf]; rfl) ?_ (by omega)
    rw [ds_val']; simp; omega
theorem dig0 {A : List Nat} (hA : ∀ c ∈ A, isDig c) : ∀ c ∈ 48 :: 48 :: A, isDig c := by
  intro c hc
  rcases List.mem_cons.mp hc with e | hc
  · rw [e]; unfold isDig; omega
  · rcases List.mem_cons.mp hc with e | hc
    · rw [e]; unfold isDig; omega
    · exact hA c hc
theorem val_00 (A : List Nat) : val (48 :: 48 :: A) = val A := val_lead 2 A
theorem reads_2p (hu : u.natAbs < 10 ^ 60) (h0 : 0 < k) (hk : k ≤ 43) (hn : Norm u k) (hs : ¬ u < 0) : ReadsTo ([43, 48, 48] ++ W u k) u k := by
  refine ⟨0, ?_, hn⟩
  have hf : fig u.natAbs k = Ah u.natAbs k ++ 46 :: Bh u.natAbs k := by unfold fig; rw [if_pos h0]
  have hl := Ah_le hu hk
  have hB := Bh_len u.natAbs k
  unfold W sg
  rw [if_neg hs]
  refine (RForm.p1 43 (48 :: 48 :: Ah u.natAbs k) _ (.inl rfl) (dig0 (Ah_dig u.natAbs k)) (Bh_dig u.natAbs k) (Bh_ne h0) (by simp; omega) (by omega)).eq (by rw [hf]; rfl) ?_ (by omega)
  rw [if_neg (by decide)]
  show val (48 :: 48 :: (Ah u.natAbs k ++ Bh u.natAbs k)) = _
  rw [val_00, AB_val]; simp; omega
theorem reads_2n (hu : u.natAbs < 10 ^ 60) (h0 : k = 0) (hn : Norm u k) (hs : ¬ u < 0) : ReadsTo ([43, 48, 48] ++ W u k) u k := by
  refine ⟨0, ?_, hn⟩
  have hf : fig u.natAbs k = ds u.natAbs := by unfold fig; rw [if_neg (by omega)]
  have hl := ds_len (by decide) hu
  unfold W sg
  rw [if_neg hs]
  refine (RForm.n1 43 (48 :: 48 :: ds u.natAbs) (.inl rfl) (dig0 (ds_dig u.natAbs)) (by simp) (by simp; omega)).eq (by rw [hf]; rfl) ?_ (by omega)
  rw [if_neg (by decide)]
  show val (48 :: 48 :: (ds u.natAbs ++ [])) = _
  rw [val_00, ds_val']; simp; omega
theorem zero_dig : ∀ c ∈ [48], isDig c := fun c hc => by rw [List.mem_singleton.mp hc]; unfold isDig; omega
theorem zeros_dig : ∀ c ∈ [48, 48], isDig c := dig0 (A := []) (fun c hc => nomatch hc)
theorem val_app0 (l : List Nat) : val (l ++ [48]) = val l * 10 := by rw [val_snoc]; omega
theorem val_app00 (l : List Nat) : val (l ++ [48, 48]) = val l * 100 := by
  have : l ++ [48, 48] = (l ++ [48]) ++ [48] := by simp
  rw [this, val_app0, val_app0]; omega
theorem reads_3p (hu : u.natAbs < 10 ^ 60) (h0 : 0 < k) (hk : k ≤ 43) (hn : Norm u k) : ReadsTo (W u k ++ [48]) u k := by
  refine ⟨1, ?_, hn⟩
  have hf : fig u.natAbs k = Ah u.natAbs k ++ 46 :: Bh u.natAbs k := by unfold fig; rw [if_pos h0]
  have hl := Ah_le hu hk
  have hB := Bh_len u.natAbs k
  unfold W sg
  split
  · refine (RForm.p1 45 _ (Bh u.natAbs k ++ [48]) (.inr rfl) (Ah_dig u.natAbs k) (dig_app (Bh_dig u.natAbs k) zero_dig) (by simp) (by omega) (by simp; omega)).eq (by rw [hf]; simp) ?_ (by simp; omega)
    rw [if_pos rfl, ← List.append_assoc, val_app0, AB_val]; simp; omega
  · refine (RForm.p0 _ (Bh u.natAbs k ++ [48]) (Ah_dig u.natAbs k) (Ah_ne _ _) (dig_app (Bh_dig u.natAbs k) zero_dig) (by simp) (by omega) (by simp; omega)).eq (by rw [hf]; simp) ?_ (by simp; omega)
    rw [← List.append_assoc, val_app0, AB_val]; simp; omega
theorem reads_3n (hu : u.natAbs < 10 ^ 60) (h0 : k = 0) (hn : Norm u k) : ReadsTo (W u k ++ [46, 48, 48]) u k := by
  refine ⟨2, ?_, hn⟩
  have hf : fig u.natAbs k = ds u.natAbs := by unfold fig; rw [if_neg (by omega)]
  have hl := ds_len (by decide) hu
  unfold W sg
  split
  · refine (RForm.p1 45 (ds u.natAbs) [48, 48] (.inr rfl) (ds_dig u.natAbs) zeros_dig (by simp) (by omega) (by simp)).eq (by rw [hf]; simp) ?_ (by simp; omega)
    rw [if_pos rfl, val_app00, ds_val]; simp; omega
  · refine (RForm.p0 (ds u.natAbs) [48, 48] (ds_dig u.natAbs) (ds_ne _) zeros_dig (by simp) (by omega) (by simp)).eq (by rw [hf]; simp) ?_ (by simp; omega)
    rw [val_app00, ds_val]; simp; omega
theorem no45 {l : List Nat} (h : ∀ c ∈ l, isDig c ∨ c = 46) : l.count 45 = 0 := by
  apply List.count_eq_zero_of_not_mem
  intro m
  have := h _ m
  unfold isDig at this; omega
theorem W_count : (u < 0 ∧ (W u k).count 45 = 1) ∨ (¬ u < 0 ∧ (W u k).count 45 = 0) := by
  unfold W sg
  rw [List.count_append, no45 fig_dig]
  split
  · exact .inl ⟨by assumption, rfl⟩
  · exact .inr ⟨by assumption, rfl⟩
theorem part_p (h0 : 0 < k) : Txt.partition (S (fig u.natAbs k)) (S [46]) = (S (Ah u.natAbs k), S [46], S (Bh u.natAbs k)) := by
  unfold fig
  rw [if_pos h0]
  exact part_at _ _ _ (no46 (Ah_dig _ _))
theorem part_n (h0 : k = 0) : Txt.partition (S (fig u.natAbs k)) (S [46]) = (S (ds u.natAbs), S [], S []) := by
  unfold fig
  rw [if_neg (by omega)]
  exact part_none _ _ (no46 (ds_dig _))
theorem last_p (h0 : 0 < k) (hn : Norm u k) : decide ((Bh u.natAbs k).drop ((Bh u.natAbs k).length - 1) = [48]) = false := by
  have h1 : u.natAbs % 10 ≠ 0 := by
    have := hn.2 (by omega)
    rw [Int.fmod_eq_emod_of_nonneg _ (by decide)] at this
    omega
  obtain ⟨l, c, e, hc⟩ := Bh_last h0 h1
  rw [e]
  apply decide_eq_false
  simp; exact hc
theorem lead_p : (Ah u.natAbs k).length = 1 ∨ (Ah u.natAbs k)[0]? ≠ some 48 := by
  have := Ah_head u.natAbs k
  rw [List.head?_eq_getElem?] at this
  exact this
theorem lead_n : (ds u.natAbs).length = 1 ∨ (ds u.natAbs)[0]? ≠ some 48 := by
  have := ds_head u.natAbs
  rw [List.head?_eq_getElem?] at this
  exact this
theorem head_ex {l : List Nat} (h : l ≠ []) (hl : l.length = 1 ∨ l[0]? ≠ some 48) : ∃ a, l[0]? = some a ∧ (l.length = 1 ∨ a ≠ 48) := by
  cases l with
  | nil => exact absurd rfl h
  | cons a r => exact ⟨a, rfl, hl.imp id (fun h e => h (by rw [e]; rfl))⟩
end
end

section
section
variable {w : World} {mean : ExcName → Option Value} {mg mb : Str → Option Value} {news : Led} {dp un : Nat} {gd : Option (List Code)} {cn : Str} {scp : Scope} {a : Addr} {ccd : Value} {cl : List (Str × Addr)} {outer : List Env} {A₀ : Around} {base h₀ : Heap} {L : Addr} {m : Str → Option Value} {s : Shared} {Q E : Value → Shared → Prop}
theorem read_con {T : List Nat} {U : Int} {K : Nat} (t : Tok) (news : Led) (h : RForm T U K) : Con w mean mg mb 84 [.str (S T) t] news 6 60 (fun r tl => ∃ y u' k' t1 t2, r = .ref y ∧ tl = [(y, tupO u' t1 k' t2)] ∧ DecOf U K u' k') := by
  cases h with
  | p1 c A B hc hA hB hB0 hAl hBl => exact read_p1 _ _ _ t news hc hA hB hB0 hAl hBl
  | p0 A B hA hA0 hB hB0 hAl hBl => exact read_p0 _ _ t news hA hA0 hB hB0 hAl hBl
  | n1 c A hc hA hA0 hAl => exact read_n1 _ _ t news hc hA hA0 hAl
  | n0 => rename_i hA hA0 hAl; exact read_n0 _ t news hA hA0 hAl
theorem use_read {x : Str} {T : List Nat} {u : Int} {k : Nat} {t : Tok} (hx : x = S T) (hr : ReadsTo T u k)
    (B : Below A₀ base outer h₀) (F : Fr h₀ L s.heap m) (X : (hd.heap_39 w.params).In h₀) (N : News h₀ L s.heap news) (T' : Top hd.view_39 loose mean mg mb h₀) (hk : scp.kind = .function) (hd' : dp + 6 < recursionLimit) (hu : un + 60 < cLine)
    (ret : ∀ y ta tb h' tk', Fr h₀ L h' m → News h₀ L h' ((y, tupO u ta k tb) :: news) → (∀ p ∈ news, p.1 < y) → Q (.ref y) { s with heap := h', toks := tk' }) :
    wpAny (model PySem.Challenge.rw_pb0218_01.row.prog w) (ktrTop dp un gd cn scp L a ccd cl outer) (call (.ref 84) [.str x t]) Q E s := by
  subst hx
  obtain ⟨j, hf, hn⟩ := hr
  refine read_con (w := w) (mean := mean) (mg := mg) (mb := mb) t news hf dp un gd cn scp a ccd cl outer A₀ base h₀ L m s Q E B F X N T' hk hd' hu ?_
  intro r tl h' tk' F' N' hlt o
  obtain ⟨y, u', k', ta, tb, e1, e2, hd⟩ := o
  obtain ⟨eu, ek⟩ := dec_same hn (by exact_mod_cast hd)
  rw [e2, eu, ek] at N'
  rw [e1]
  exact ret y ta tb h' tk' F' N' (fun p hp => hlt p hp _ (by rw [e2]; exact List.mem_singleton.mpr rfl))
theorem use_again {x : Str} {u : Int} {k : Nat} {t : Tok} (hx : x = S (W u k)) (hk' : k ≤ 44) (hu0 : u.natAbs < 10 ^ 60)
    (B : Below A₀ base outer h₀) (F : Fr h₀ L s.heap m) (X : (hd.heap_39 w.params).In h₀) (N : News h₀ L s.heap news) (T' : Top hd.view_39 loose mean mg mb h₀) (hk : scp.kind = .function) (hd' : dp + 3 < recursionLimit) (hu : un + 20 < cLine)
    (ret : ∀ y ta tb h' tk', Fr h₀ L h' m → News h₀ L h' ((y, tupO u ta k tb) :: news) → (∀ p ∈ news, p.1 < y) → Q (.ref y) { s with heap := h', toks := tk' }) :
    wpAny (model PySem.Challenge.rw_pb0218_01.row.prog w) (ktrTop dp un gd cn scp L a ccd cl outer) (call (.ref 98) [.str x t]) Q E s := by
  subst hx
  refine again_con (w := w) (mean := mean) (mg := mg) (mb := mb) u k t news hk' hu0 dp un gd cn scp a ccd cl outer A₀ base h₀ L m s Q E B F X N T' hk hd' hu ?_
  intro r tl h' tk' F' N' hlt o
  obtain ⟨y, ta, tb, e1, e2⟩ := o
  rw [e2] at N'
  rw [e1]
  exact ret y ta tb h' tk' F' N' (fun p hp => hlt p hp _ (by rw [e2]; exact List.mem_singleton.mpr rfl))
theorem use_write {x : Addr} {u : Int} {k : Nat} {t1 t2 : Tok} (hm : (x, tupO u t1 k t2) ∈ news) (hk' : k ≤ 44) (hu0 : u.natAbs < 10 ^ 60)
    (B : Below A₀ base outer h₀) (F : Fr h₀ L s.heap m) (X : (hd.heap_39 w.params).In h₀) (N : News h₀ L s.heap news) (T' : Top hd.view_39 loose mean mg mb h₀) (hk : scp.kind = .function) (hd' : dp + 3 < recursionLimit) (hu : un + 20 < cLine)
    (ret : ∀ t h' tk', Fr h₀ L h' m → News h₀ L h' news → Q (.str (S (W u k)) t) { s with heap := h', toks := tk' }) :
    wpAny (model PySem.Challenge.rw_pb0218_01.row.prog w) (ktrTop dp un gd cn scp L a ccd cl outer) (call (.ref 91) [.ref x]) Q E s := by
  have N2 : News h₀ L s.heap ((x, tupO u t1 k t2) :: news) := by
    intro p hp
    rcases List.mem_cons.mp hp with e | e
    · rw [e]; exact N _ hm
    · exact N p e
  refine write_con (w := w) (mean := mean) (mg := mg) (mb := mb) x u k t1 t2 news hk' hu0 dp un gd cn scp a ccd cl outer A₀ base h₀ L m s Q E B F X N2 T' hk hd' hu ?_
  intro r tl h' tk' F' N' hlt o
  obtain ⟨e, t, e2⟩ := o
  rw [e] at N'
  rw [e2]
  exact ret t h' tk' F' (fun p hp => N' p (List.mem_cons_of_mem _ hp))
end
section
variable {prog : Program} {w : World} {A : Around} {E : Value → Shared → Prop} {s : Shared} {x y : Str} {a b : List Nat} {t u : Tok} {Q : Value → Shared → Prop}
theorem r_count {c n : Nat} (hx : x = S a) (hy : y = S [c]) (hc : a.count c = n) (h : ∀ t' tk', Q (.int (n : Int) t') { s with toks := tk' }) : wpAny (model prog w) A (call (.builtin "str.count") [.str x t, .str y u]) Q E s := by
  subst hx; subst hy
  exact KXw.count (by rw [count_S, hc]) (fun t' k => h t' k)
theorem r_item0 {value slice : Expr} {c : Nat} {v : Tok} (hx : x = S a) (hc : a[0]? = some c) (h : ∀ t' tk', Q (.str (S [c]) t') { s with toks := tk' })
    (hs : subscripted slice false (.str x t) (.int 0 v) = operate [.str x t, .int 0 v] (getItem (.str x t) (.int 0 v)) := by with_unfolding_all rfl)
    (ht : ∀ r, letTemporaryGo value (.str x t) r = pure () := by intro _; with_unfolding_all rfl) :
    wpAny (model prog w) A (subscriptTail value slice (.str x t) (.int 0 v)) Q E s := by
  subst hx
  have hl : 0 < a.length := by
    cases a with
    | nil => cases hc
    | cons d r => simp
  refine item_str (by decide) (by rw [S_len]; omega) (by rw [S_len]; omega) (fun _ => ?_) hs ht
  have e : a[0] = c := by
    rw [List.getElem?_eq_getElem hl] at hc
    exact Option.some.inj hc
  have := item_at a 0 hl
  rw [e] at this
  rw [show Txt.item (S a) 0 = S [c] from this]
  exact h _ _
theorem r_eq1 {c d : Nat} (hx : x = S [c]) (hy : y = S [d]) (h : Q (.bool (decide (c = d))) s) : wpAny (model prog w) A (compareOp .Eq (.str x t) (.str y u)) Q E s := by
  refine r_eq hx hy ?_
  have : decide ([c] = [d]) = decide (c = d) := by simp
  rw [this]; exact h
theorem r_neF {v : Bool} (hx : x = S a) (hy : y = S b) (hv : decide (a = b) = v) (h : Q (.bool (!v)) s) : wpAny (model prog w) A (compareOp .NotEq (.str x t) (.str y u)) Q E s := r_ne hx hy (by rw [hv]; exact h)
variable {h₀ : Heap} {L : Addr} {m : Str → Option Value} {news : List (Addr × Obj)}
theorem r_part {c : Nat} {p q r : List Nat} (hx : x = S a) (hy : y = S [c]) (hp : Txt.partition (S a) (S [c]) = (S p, S q, S r)) (hl : a.length ≤ 100000) (hF : Fr h₀ L s.heap m) (hN : News h₀ L s.heap news)
    (h : ∀ D ta tb tc h' k, Fr h₀ L h' m → News h₀ L h' ((D, { cls := .type "tuple", data := .seq [.str (S p) ta, .str (S q) tb, .str (S r) tc].toArray }) :: news) → (∀ a ∈ news, a.1 < D) → Q (.ref D) { s with heap := h', toks := k }) :
    wpAny (model prog w) A (call (.builtin "str.partition") [.str x t, .str y u]) Q E s := by
  subst hx; subst hy
  exact KXpa.partition hF hN (by rw [S_len]; rfl) (by rw [hp]) (by rw [hp]) (by rw [hp]) (by rw [S_len, sizeLine_eq]; omega) h
end
structure Cond (p q : Prop) : Prop where
  h : p → q
theorem ret0 {h₀ : Heap} {L : Addr} {m : Str → Option Value} {news : Led} {s : Shared} {Q : Value → Shared → Prop} {Out : Value → Led → Prop} {r : Value} (mid : Led) {h' : Heap} {tk' : Nat}
    (hret : ∀ r tl h' tk', Fr h₀ L h' m → News h₀ L h' (tl ++ news) → (∀ q ∈ news, ∀ p ∈ tl, q.1 < p.1) → Out r tl → Q r { s with heap := h', toks := tk' })
    (F : Fr h₀ L h' m) (N : News h₀ L h' (mid ++ news)) (o : Out r []) : Q r { s with heap := h', toks := tk' } :=
  hret r [] h' tk' F (fun x hx => N x (List.mem_append_right _ hx)) (fun q hq p' hp' => absurd hp' List.not_mem_nil) o
end

section
local macro_rules | `(tactic| walk_at "my_enter") => `(tactic| (refine' code_def ?k1 ?k2 ?k3 ?k4 ?k5 ?kA ?kF ?kK ?k6 ?k7 ?k8 ?k9 ?kB ?_ ?c2 ?c3 ?c4 ?c5; (case kA => exact rfl); (case kF => exact rfl); (case kK => assumption); (case k1 => k_asm); (case k2 => k_asm); (case k3 => k_asm); (case k4 => k_asm); (case k5 => k_asm); (case k6 => k_is); (case k7 => k_is); (case k8 => ktr_room); (case k9 => first | exact BindsTo.of_eq rfl | exact binds_K (by k_in) rfl (by k_is) rfl rfl rfl); (case c5 => decide); (case kB => exact locs rfl); (case c2 => exact rfl); (case c3 => exact rfl); (case c4 => exact rfl); k_whole; intro g' L' h' FG' F' N' B' X' T'; (try dsimp only); (try k_lift B'); (try k_fold)))

local macro_rules | `(tactic| walk_at "my_lit") => `(tactic| first | exact rfl | exact lit_zero | exact lit_dot | exact lit_minus | exact lit_plus | exact lit_nil | exact lit_p00 | exact lit_d00)
local macro_rules | `(tactic| walk_at "my_size") => `(tactic| ((try simp only [List.length_append, List.length_replicate, List.length_take, List.length_drop, List.length_cons, List.length_nil, Int.natCast_add, Int.natCast_one]); omega))
local macro_rules | `(tactic| walk_at "call builtin:len") => `(tactic| (k_here; (with_reducible show wpAny _ _ (call (Value.builtin "len") [Value.str _ _]) _ _ _); (refine r_len (by walk_at "my_lit") (by walk_at "my_size") ?_); intro _ _))
local macro_rules | `(tactic| walk_at "binaryOp Add str str") => `(tactic| (k_here; (with_reducible show wpAny _ _ (binaryOp Operator.Add (Value.str _ _) (Value.str _ _)) _ _ _); (refine r_add (by walk_at "my_lit") (by walk_at "my_lit") (by walk_at "my_size") ?_); intro _ _))
local macro_rules | `(tactic| walk_at "binaryOp Mult str int") => `(tactic| (k_here; (with_reducible show wpAny _ _ (binaryOp Operator.Mult (Value.str _ _) (Value.int _ _)) _ _ _); (refine r_mul (by walk_at "my_lit") (by omega) (by omega) ?_); intro _ _))
local macro_rules | `(tactic| walk_at "call type:str") => `(tactic| (k_here; (with_reducible show wpAny _ _ (call (Value.type "str") [Value.int _ _]) _ _ _); (refine r_strN (abs_nat _) (by assumption) ?_); intro _ _))
local macro_rules | `(tactic| walk_at "subscriptTail Name Slice str ref") => `(tactic| (k_here; (with_reducible rename Fr _ _ _ _ => F'); (with_reducible rename News _ _ _ _ => N'); (first
  | ((with_reducible show wpAny _ _ (subscriptTail _ (Expr.Slice none (some _) none _) _ _) _ _ _); (refine r_slice_to (s := ⟨_, _, _, _, _⟩) (by walk_at "my_lit") (by walk_at "my_size") (by walk_at "my_size") (by walk_at "my_size") F' N' ?_); intro _ _ _ _ _)
  | ((with_reducible show wpAny _ _ (subscriptTail _ (Expr.Slice (some _) none none _) _ _) _ _ _); (refine r_slice_from (s := ⟨_, _, _, _, _⟩) (by walk_at "my_lit") (by walk_at "my_size") (by walk_at "my_size") (by walk_at "my_size") F' N' ?_); intro _ _ _ _ _))))
local macro_rules | `(tactic| walk_at "my_lit") => `(tactic| first | exact rfl | exact lit_zero | exact lit_dot | exact lit_minus | exact lit_plus | exact lit_nil | exact lit_p00 | exact lit_d00 | exact one_S _)
local macro_rules | `(tactic| walk_at "compareOp Eq str str") => `(tactic| (k_here; (with_reducible show wpAny _ _ (compareOp CmpOp.Eq (Value.str _ _) (Value.str _ _)) _ _ _); (refine r_eq (by walk_at "my_lit") (by walk_at "my_lit") ?_)))
local macro_rules | `(tactic| walk_at "compareOp NotEq str str") => `(tactic| (k_here; (with_reducible show wpAny _ _ (compareOp CmpOp.NotEq (Value.str _ _) (Value.str _ _)) _ _ _); (refine r_ne (by walk_at "my_lit") (by walk_at "my_lit") ?_)))
local macro_rules | `(tactic| walk_at "call builtin:str.lstrip") => `(tactic| (k_here; (with_reducible show wpAny _ _ (call (Value.builtin "str.lstrip") [Value.str _ _, Value.str _ _]) _ _ _); (refine r_lstrip (by walk_at "my_lit") (by walk_at "my_lit") (by walk_at "my_size") ?_); intro _ _; (try rw [W_lstrip])))
local macro_rules | `(tactic| walk_at "my_fact") => `(tactic| first | assumption | rfl)
local macro_rules | `(tactic| walk_at "subscriptTail Name Slice str ref") => `(tactic| (k_here; (with_reducible rename Fr _ _ _ _ => F'); (with_reducible rename News _ _ _ _ => N'); (first
  | ((with_reducible show wpAny _ _ (subscriptTail _ (Expr.Slice none (some _) none _) _ _) _ _ _); (refine r_slice_toE (s := ⟨_, _, _, _, _⟩) (by walk_at "my_lit") (by walk_at "my_size") (by walk_at "my_size") (by walk_at "my_size") (by walk_at "my_fact") F' N' ?_); intro _ _ _ _ _)
  | ((with_reducible show wpAny _ _ (subscriptTail _ (Expr.Slice (some _) none none _) _ _) _ _ _); (refine r_slice_fromE (s := ⟨_, _, _, _, _⟩) (by walk_at "my_lit") (by walk_at "my_size") (by walk_at "my_size") (by walk_at "my_size") (by walk_at "my_fact") F' N' ?_); intro _ _ _ _ _))))
local macro_rules | `(tactic| walk_at "compareOp In str str") => `(tactic| (k_here; (with_reducible show wpAny _ _ (compareOp CmpOp.In (Value.str _ _) (Value.str _ _)) _ _ _); (refine r_in (by walk_at "my_lit") (by walk_at "my_lit") (by assumption) ?_)))
local macro_rules | `(tactic| walk_at "compareOp In str ref") => `(tactic| (k_here; (with_reducible show wpAny _ _ (compareOp CmpOp.In (Value.str _ _) (Value.ref _)) _ _ _); (with_unfolding_all refine' r_in_pm ?k0 ?k1 ?kb ?_; (case k0 => walk_at "my_lit"); (case k1 => exact News.isTup (by k_asm) (by news_mem)); (case kb => assumption); k_whole)))
local macro_rules | `(tactic| walk_at "call builtin:str.index") => `(tactic| (k_here; (with_reducible show wpAny _ _ (call (Value.builtin "str.index") [Value.str _ _, Value.str _ _]) _ _ _); (refine r_index (by walk_at "my_lit") (by walk_at "my_lit") (by assumption) ?_); intro _ _))
local macro_rules | `(tactic| walk_at "compareOp Eq str str") => `(tactic| (k_here; (with_reducible show wpAny _ _ (compareOp CmpOp.Eq (Value.str _ _) (Value.str _ _)) _ _ _); (refine r_eqF (by walk_at "my_lit") (by walk_at "my_lit") (by assumption) ?_)))
local macro_rules | `(tactic| walk_at "call ref") => `(tactic| (k_here; (with_reducible show wpAny _ _ (call (Value.ref 77) [Value.str _ _] _) _ _ _); (k_dflt (refine' use_worth ?kx ?kg ?kl ?k1 ?k2 ?k3 ?k4 ?k5 ?kK ?kd ?ku ?_; (case kx => walk_at "my_lit"); (case kg => assumption); (case kl => walk_at "my_size"); (case k1 => k_asm); (case k2 => k_asm); (case k3 => k_asm); (case k4 => k_asm); (case k5 => k_asm); (case kK => first | exact rfl | assumption); (case kd => ktr_room); (case ku => ktr_units))); intro t9 h9 tk9 F9 N9; (try dsimp only); (try k_fold)))
local macro_rules | `(tactic| walk_at "call ref") => `(tactic| (k_here; (with_reducible show wpAny _ _ (call (Value.ref 70) [Value.int _ _, Value.int _ _] _) _ _ _); (k_dflt (refine' use_dec ?kg ?kl ?k1 ?k2 ?k3 ?k4 ?k5 ?kK ?kd ?ku ?_; (case kg => first | omega | (simp; done)); (case kl => first | omega | (simp; done)); (case k1 => k_asm); (case k2 => k_asm); (case k3 => k_asm); (case k4 => k_asm); (case k5 => k_asm); (case kK => first | exact rfl | assumption); (case kd => ktr_room); (case ku => ktr_units))); intro y9 u9 s9 ta9 tb9 h9 tk9 F9 N9 l1 hDec; (try k_lt l1); (try dsimp only); (try k_fold)))

local macro_rules | `(tactic| walk_at "compareOp Eq str str") => `(tactic| (k_here; (with_reducible show wpAny _ _ (compareOp CmpOp.Eq (Value.str _ _) (Value.str _ _)) _ _ _); (first | refine r_eqF (by walk_at "my_lit") (by walk_at "my_lit") (by assumption) ?_ | refine r_eq1 (by walk_at "my_lit") (by walk_at "my_lit") ?_)))
local macro_rules | `(tactic| walk_at "compareOp NotEq str str") => `(tactic| (k_here; (with_reducible show wpAny _ _ (compareOp CmpOp.NotEq (Value.str _ _) (Value.str _ _)) _ _ _); (refine r_neF (by walk_at "my_lit") (by walk_at "my_lit") (by assumption) ?_)))
local macro_rules | `(tactic| walk_at "call builtin:str.count") => `(tactic| (k_here; (with_reducible show wpAny _ _ (call (Value.builtin "str.count") [Value.str _ _, Value.str _ _]) _ _ _); (refine r_count (by walk_at "my_lit") (by walk_at "my_lit") (by assumption) ?_); intro _ _))
local macro_rules | `(tactic| walk_at "call builtin:str.partition") => `(tactic| (k_here; (with_reducible show wpAny _ _ (call (Value.builtin "str.partition") [Value.str _ _, Value.str _ _]) _ _ _); (refine r_part (by walk_at "my_lit") (by walk_at "my_lit") (by assumption) (by walk_at "my_size") (by k_asm) (by k_asm) ?_); intro D' _ _ _ _ _ F' N' l1; (try k_lt l1)))
local macro_rules | `(tactic| walk_at "subscriptTail Name Constant str int") => `(tactic| (k_here; (with_reducible show wpAny _ _ (subscriptTail _ _ (Value.str _ _) (Value.int 0 _)) _ _ _); (refine r_item0 (by walk_at "my_lit") (by assumption) ?_); intro _ _))
local macro_rules | `(tactic| walk_at "subscriptTail Name Slice str ref") => `(tactic| (k_here; (with_reducible show wpAny _ _ (subscriptTail _ (Expr.Slice (some (Expr.UnaryOp _ _ _)) none none _) _ _) _ _ _); (with_reducible rename Fr _ _ _ _ => F'); (with_reducible rename News _ _ _ _ => N'); (refine r_slice_last (s := ⟨_, _, _, _, _⟩) (by walk_at "my_lit") (by walk_at "my_size") F' N' ?_); intro _ _ _ _ _))
local macro_rules | `(tactic| walk_at "call ref") => `(tactic| (k_here; (with_reducible show wpAny _ _ (call (Value.ref 84) [Value.str _ _] _) _ _ _); (k_dflt (refine' use_read ?kx ?kr ?k1 ?k2 ?k3 ?k4 ?k5 ?kK ?kd ?ku ?_; (case kx => walk_at "my_lit"); (case kr => first | assumption | exact Cond.h (by assumption) (by omega)); (case k1 => k_asm); (case k2 => k_asm); (case k3 => k_asm); (case k4 => k_asm); (case k5 => k_asm); (case kK => first | exact rfl | assumption); (case kd => ktr_room); (case ku => ktr_units))); intro y9 ta9 tb9 h9 tk9 F9 N9 l1; (try k_lt l1); (try dsimp only); (try k_fold)))
local macro_rules | `(tactic| walk_at "call ref") => `(tactic| (k_here; (with_reducible show wpAny _ _ (call (Value.ref 98) [Value.str _ _] _) _ _ _); (k_dflt (refine' use_again ?kx ?kr ?kt ?k1 ?k2 ?k3 ?k4 ?k5 ?kK ?kd ?ku ?_; (case kx => walk_at "my_lit"); (case kr => omega); (case kt => assumption); (case k1 => k_asm); (case k2 => k_asm); (case k3 => k_asm); (case k4 => k_asm); (case k5 => k_asm); (case kK => first | exact rfl | assumption); (case kd => ktr_room); (case ku => ktr_units))); intro y9 ta9 tb9 h9 tk9 F9 N9 l1; (try k_lt l1); (try dsimp only); (try k_fold)))
local macro_rules | `(tactic| walk_at "call ref") => `(tactic| (k_here; (with_reducible show wpAny _ _ (call (Value.ref 91) [Value.ref _] _) _ _ _); (k_dflt (refine' use_write ?kx ?kr ?kt ?k1 ?k2 ?k3 ?k4 ?k5 ?kK ?kd ?ku ?_; (case k2 => k_asm); (case k4 => k_asm); (case kx => k_mem); (case kr => omega); (case kt => assumption); (case k1 => k_asm); (case k3 => k_asm); (case k5 => k_asm); (case kK => first | exact rfl | assumption); (case kd => ktr_room); (case ku => ktr_units))); intro t9 h9 tk9 F9 N9; (try dsimp only); (try k_fold)))
local macro_rules | `(tactic| walk_at "subscriptTail Name Constant ref int") => `(tactic| (k_here; (with_reducible show wpAny _ _ (subscriptTail _ _ (Value.ref _) (Value.int 0 _)) _ _ _); (with_reducible rename News _ _ _ _ => N'); k_dflt (refine r_tup0 N' (by k_mem) ?_)))
local macro_rules | `(tactic| walk_at "subscriptTail Name Constant ref int") => `(tactic| (k_here; (with_reducible show wpAny _ _ (subscriptTail _ _ (Value.ref _) (Value.int 1 _)) _ _ _); (with_reducible rename News _ _ _ _ => N'); k_dflt (refine r_tup1 N' (by k_mem) ?_)))
theorem right_p {w : World} {mean : ExcName → Option Value} {mg mb : Str → Option Value} (x : Addr) (u : Int) (k : Nat) (t1 t2 : Tok) (rest : Led) (hk0 : 0 < k) (hk : k ≤ 42) (hu0 : u.natAbs < 10 ^ 60) (hn : Norm u k) :
    Con w mean mg mb 105 [.ref x] ((x, tupO u t1 k t2) :: rest) 10 100 (fun r tl => tl = [] ∧ r = .bool true) := by
  have hlen := W_len hu0 (k := k) (by omega)
  have hlen1 := W_len1 (u := u) (k := k)
  have hflen := fig_len hu0 (k := k) (by omega)
  have hpt := part_p (u := u) hk0
  have hr1 := reads_1p hu0 hk0 (by omega) hn
  have hr2 : Cond (¬ u < 0) (ReadsTo ([43, 48, 48] ++ W u k) u k) := ⟨reads_2p hu0 hk0 (by omega) hn⟩
  have hr3 := reads_3p hu0 hk0 (by omega) hn
  have hlast := last_p hk0 hn
  have hBl := Bh_len u.natAbs k
  have hAl := Ah_le hu0 (k := k) (by omega)
  obtain ⟨a0, ha0, hlead⟩ := head_ex (Ah_ne u.natAbs k) lead_p
  have hA0 : decide (Ah u.natAbs k = []) = false := decide_eq_false (Ah_ne _ _)
  have hP0 : decide (([46] : List Nat) = []) = false := rfl
  have hdk : decide (0 < (k : Int)) = true := decide_eq_true (by omega)
  generalize Ah u.natAbs k = A at *
  generalize Bh u.natAbs k = Bk at *
  have hcnt := W_count (u := u) (k := k)
  generalize hcn : (W u k).count 45 = cn9 at hcnt
  unfold Con
  k_fill
  w_top off
  intro dp un gd cn cs a ccd cl outer A₀ base h₀ L m s Q E B F X N T hkf hd' hu hret
  refine wpAny_call ?_
  k_dflt walk_at "my_enter"
  k_with_none
  k_steps
  all_goals first
    | exact ret0 [_, _, _, _] hret (by assumption) (by assumption) ⟨rfl, rfl⟩
    | exact ret0 [_, _, _, _, _] hret (by assumption) (by assumption) ⟨rfl, rfl⟩
    | (exfalso; omega)
    | (exfalso; with_reducible rename ((_ != _) = true) => hbad; rw [hdk] at hbad; exact absurd hbad (by decide))

theorem right_n {w : World} {mean : ExcName → Option Value} {mg mb : Str → Option Value} (x : Addr) (u : Int) (k : Nat) (t1 t2 : Tok) (rest : Led) (hk0 : k = 0) (hu0 : u.natAbs < 10 ^ 60) (hn : Norm u k) :
    Con w mean mg mb 105 [.ref x] ((x, tupO u t1 k t2) :: rest) 10 100 (fun r tl => tl = [] ∧ r = .bool true) := by
  have hlen := W_len hu0 (k := k) (by omega)
  have hlen1 := W_len1 (u := u) (k := k)
  have hflen := fig_len hu0 (k := k) (by omega)
  have hpt := part_n (u := u) hk0
  have hr1 := reads_1n hu0 hk0 hn
  have hr2 : Cond (¬ u < 0) (ReadsTo ([43, 48, 48] ++ W u k) u k) := ⟨reads_2n hu0 hk0 hn⟩
  have hr3 := reads_3n hu0 hk0 hn
  have hlast : decide (List.drop (([] : List Nat).length - 1) [] = [48]) = false := rfl
  have hBl : ([] : List Nat).length = k := by rw [hk0]; rfl
  have hAl := ds_len (n := u.natAbs) (by decide) hu0
  obtain ⟨a0, ha0, hlead⟩ := head_ex (ds_ne u.natAbs) lead_n
  have hA0 : decide (ds u.natAbs = []) = false := decide_eq_false (ds_ne _)
  have hP0 : decide (([] : List Nat) = []) = true := rfl
  have hdk : decide (0 < (k : Int)) = false := decide_eq_false (by omega)
  generalize ds u.natAbs = A at *
  have hcnt := W_count (u := u) (k := k)
  generalize hcn : (W u k).count 45 = cn9 at hcnt
  unfold Con
  k_fill
  w_top off
  intro dp un gd cn cs a ccd cl outer A₀ base h₀ L m s Q E B F X N T hkf hd' hu hret
  refine wpAny_call ?_
  k_dflt walk_at "my_enter"
  k_with_none
  k_steps
  all_goals first
    | exact ret0 [_, _, _, _] hret (by assumption) (by assumption) ⟨rfl, rfl⟩
    | exact ret0 [_, _, _, _, _] hret (by assumption) (by assumption) ⟨rfl, rfl⟩
    | (exfalso; omega)
    | (exfalso; with_reducible rename ((_ != _) = true) => hbad; rw [hdk] at hbad; exact absurd hbad (by decide))
end

section
theorem W_inj {u u' : Int} {k k' : Nat} (h : W u k = W u' k') : u = u' ∧ k = k' := by
  have hf : fig u.natAbs k = fig u'.natAbs k' := by rw [← W_lstrip u k, h, W_lstrip]
  obtain ⟨p, e⟩ := ag_whole u.natAbs k
  obtain ⟨p', e'⟩ := ag_whole u'.natAbs k'
  rw [hf, e'] at e
  have h1 := congrArg Prod.fst e
  have h2 := congrArg (fun x => x.2.1) e
  have h3 : u < 0 ↔ u' < 0 := by rw [← W_one (k := k), h, W_one]
  dsimp only at h1 h2
  omega
def Good (u : Int) (k : Nat) : Prop := Norm u k ∧ k ≤ 42 ∧ u.natAbs < 10 ^ 60
theorem natAbs_mul_le {a b : Int} {m n : Nat} (h1 : a.natAbs ≤ m) (h2 : b.natAbs ≤ n) : (a * b).natAbs ≤ m * n := by
  rw [Int.natAbs_mul]; exact Nat.mul_le_mul h1 h2
theorem good_of_dec {u k u' k' : Int} (h : DecOf u k u' k') (h1 : -3 ≤ k) (h2 : k ≤ 42) (hu : u.natAbs < 10 ^ 45) : ∃ q : Nat, k' = (q : Int) ∧ Good u' q := by
  unfold DecOf at h
  split at h
  · rename_i hneg
    obtain ⟨e1, e2⟩ := h
    refine ⟨0, e2, ⟨⟨by omega, fun h => by omega⟩, by omega, ?_⟩⟩
    rw [e1, Int.natAbs_mul, Int.natAbs_pow]
    have : (-k).toNat = 0 ∨ (-k).toNat = 1 ∨ (-k).toNat = 2 ∨ (-k).toNat = 3 := by omega
    have hp : (Int.natAbs 10) ^ (-k).toNat ≤ 1000 := by
      rcases this with h | h | h | h <;> rw [h] <;> decide
    calc u.natAbs * (Int.natAbs 10) ^ (-k).toNat ≤ 10 ^ 45 * 1000 := Nat.mul_le_mul (Nat.le_of_lt hu) hp
      _ < 10 ^ 60 := by decide
  · obtain ⟨⟨h0, hn⟩, hle, e⟩ := h
    refine ⟨k'.toNat, by omega, ⟨⟨by omega, fun h => hn (by omega)⟩, by omega, ?_⟩⟩
    have e2 : u.natAbs = u'.natAbs * 10 ^ (k - k').toNat := by rw [e, Int.natAbs_mul, Int.natAbs_pow]; rfl
    have e3 : 1 ≤ 10 ^ (k - k').toNat := Nat.one_le_pow _ _ (by decide)
    have : u'.natAbs ≤ u.natAbs := by rw [e2]; exact Nat.le_mul_of_pos_right _ e3
    exact Nat.lt_of_le_of_lt this (Nat.lt_trans hu (by decide))
def WOk (vs : List Value) (tups : Led) : Prop := ∀ v ∈ vs, ∃ (a : Addr) (u : Int) (k : Nat) (t1 t2 : Tok), v = .ref a ∧ (a, tupO u t1 k t2) ∈ tups ∧ Good u k
theorem WOk.nil {tups : Led} : WOk [] tups := fun v hv => absurd hv List.not_mem_nil
theorem WOk.snoc {vs : List Value} {tups : Led} {a : Addr} {u k' : Int} {q : Nat} {t1 t2 : Tok} (h : WOk vs tups) (e : k' = (q : Int)) (hg : Good u q) : WOk (vs ++ [.ref a]) ((a, tupO u t1 k' t2) :: tups) := by
  subst e
  intro v hv
  rcases List.mem_append.mp hv with hv | hv
  · obtain ⟨b, u', k, ta, tb, e1, e2, e3⟩ := h v hv
    exact ⟨b, u', k, ta, tb, e1, List.mem_cons_of_mem _ e2, e3⟩
  · exact ⟨a, u, q, t1, t2, List.mem_singleton.mp hv, List.mem_cons_self, hg⟩
def DOk (kvs : List (Str × Value)) (tups : Led) : Prop := ∀ x v, valueAt kvs x = some v → ∃ (a : Addr) (u : Int) (k : Nat) (t1 t2 : Tok), x = S (W u k) ∧ v = .ref a ∧ (a, tupO u t1 k t2) ∈ tups ∧ Good u k
theorem DOk.nil {tups : Led} : DOk [] tups := fun x v h => by cases h
theorem valueAt_stored {K : Type} [DecidableEq K] (kvs : List (K × Value)) (k x : K) (v : Value) : valueAt (stored kvs k v) x = if x = k then some v else valueAt kvs x := by
  unfold stored valueAt
  by_cases ha : (kvs.any fun kv => kv.1 = k) = true
  · rw [if_pos ha]
    by_cases hx : x = k
    · rw [if_pos hx]
      subst hx
      induction kvs with
      | nil => simp at ha
      | cons p r ih =>
        by_cases hp : p.1 = x
        · simp [hp]
        · have hr : (r.any fun kv => kv.1 = x) = true := by simpa [hp] using ha
          simp only [List.map_cons, if_neg hp]
          rw [List.find?_cons_of_neg (by simpa using hp)]
          exact ih hr
    · rw [if_neg hx]
      clear ha
      induction kvs with
      | nil => rfl
      | cons p r ih =>
        by_cases hp : p.1 = k
        · have : ¬ p.1 = x := by rw [hp]; exact fun e => hx e.symm
          simp only [List.map_cons, if_pos hp]
          rw [List.find?_cons_of_neg (by simpa using this), List.find?_cons_of_neg (by simpa using this)]
          exact ih
        · simp only [List.map_cons, if_neg hp]
          by_cases hpx : p.1 = x
          · rw [List.find?_cons_of_pos (by simpa using hpx), List.find?_cons_of_pos (by simpa using hpx)]
          · rw [List.find?_cons_of_neg (by simpa using hpx), List.find?_cons_of_neg (by simpa using hpx)]
            exact ih
  · rw [if_neg ha, List.find?_append]
    have hn : ∀ p ∈ kvs, ¬ p.1 = k := by
      intro p hp e
      exact ha (List.any_eq_true.mpr ⟨p, hp, by simpa using e⟩)
    by_cases hx : x = k
    · subst hx
      have : kvs.find? (fun kv => decide (kv.1 = x)) = none := List.find?_eq_none.mpr (fun p hp => by simpa using hn p hp)
      rw [this]; simp
    · rw [if_neg hx]
      have : ([(k, v)] : List (K × Value)).find? (fun kv => decide (kv.1 = x)) = none := by
        rw [List.find?_cons_of_neg (by simpa using fun e : k = x => hx e.symm)]; rfl
      rw [this, Option.or_none]
theorem stored_len {K : Type} [DecidableEq K] (kvs : List (K × Value)) (k : K) (v : Value) : (stored kvs k v).length ≤ kvs.length + 1 := by
  unfold stored
  split <;> simp
theorem DOk.put {kvs : List (Str × Value)} {tups : Led} {a : Addr} {u : Int} {k : Nat} {t1 t2 : Tok} (h : DOk kvs tups) (hm : (a, tupO u t1 k t2) ∈ tups) (hg : Good u k) : DOk (stored kvs (S (W u k)) (.ref a)) tups := by
  intro x v hv
  rw [valueAt_stored] at hv
  split at hv
  · rename_i e
    exact ⟨a, u, k, t1, t2, e, (Option.some.inj hv).symm, hm, hg⟩
  · exact h x v hv
def J1 (WL SL : Addr) (i : Nat) (m : Str → Option Value) (nx : Led) : Prop := ∃ (vs : List Value) (n : Nat) (tups : Led), nx = (WL, W.listOf vs.toArray n) :: tups ∧ WOk vs tups ∧ vs.length = 5 + i ∧ OwnOff tups [WL] ∧ m (Str.ofString "worths") = some (.ref WL) ∧ m (Str.ofString "script") = some (.ref SL)
def J2 (WL : Addr) (vs : List Value) (n : Nat) (tups : Led) (_i : Nat) (m : Str → Option Value) (nx : Led) : Prop := nx = (WL, W.listOf vs.toArray n) :: tups ∧ m (Str.ofString "worths") = some (.ref WL)
def J3 (prog : Program) (w : World) (D WL : Addr) (vs : List Value) (n : Nat) (tups : Led) (i : Nat) (m : Str → Option Value) (nx : Led) : Prop := ∃ (d : Obj) (kvs : List (Str × Value)), nx = (D, d) :: (WL, W.listOf vs.toArray n) :: tups ∧ d.IsDictOf (strKind prog w) kvs ∧ DOk kvs tups ∧ kvs.length ≤ i ∧ m (Str.ofString "worths") = some (.ref WL) ∧ m (Str.ofString "texts") = some (.ref D)
theorem fr_two {h₀ h : Heap} {L : Addr} {x a b : Str} {v va vb : Value} {m₁ : Str → Option Value} (F : Fr h₀ L h (fun y => if y = x then some v else m₁ y)) (ha : m₁ a = some va) (hb : m₁ b = some vb) :
    Fr h₀ L h (fun y => if y = x then some v else if y = a then some va else if y = b then some vb else m₁ y) := by
  have e : (fun y => if y = x then some v else if y = a then some va else if y = b then some vb else m₁ y) = fun y => if y = x then some v else m₁ y := by
    funext y
    by_cases h1 : y = x
    · rw [if_pos h1, if_pos h1]
    · rw [if_neg h1, if_neg h1]
      by_cases h2 : y = a
      · rw [if_pos h2, h2, ha]
      · rw [if_neg h2]
        by_cases h3 : y = b
        · rw [if_pos h3, h3, hb]
        · rw [if_neg h3]
  rw [e]; exact F
theorem fr_two0 {h₀ h : Heap} {L : Addr} {a b : Str} {va vb : Value} {m₁ : Str → Option Value} (F : Fr h₀ L h m₁) (ha : m₁ a = some va) (hb : m₁ b = some vb) :
    Fr h₀ L h (fun y => if y = a then some va else if y = b then some vb else m₁ y) := by
  have e : (fun y => if y = a then some va else if y = b then some vb else m₁ y) = m₁ := by
    funext y
    by_cases h2 : y = a
    · rw [if_pos h2, h2, ha]
    · rw [if_neg h2]
      by_cases h3 : y = b
      · rw [if_pos h3, h3, hb]
      · rw [if_neg h3]
  rw [e]; exact F
section
variable {prog : Program} {w : World} {A : Around} {E : Value → Shared → Prop} {s : Shared} {env : Env} {h₀ : Heap} {x : Str} {body : List Stmt} {Q : Flow → Shared → Prop}
theorem range_G {r : Addr} {b₀ : Int} {t₀ u₀ v₀ : Tok} {n : Nat} {m₀ : Str → Option Value} {news : Led} (J : Nat → (Str → Option Value) → Led → Prop)
    (hh : A.handled = none) (hr : IsRange s.heap r 0 b₀ 1 t₀ u₀ v₀) (hsmall : Builtin.Range.small 0 b₀ 1 = true) (hsz : Builtin.Range.rangeSize 0 b₀ 1 = (n : Int)) (F : Fr h₀ env.locals s.heap m₀) (N : News h₀ env.locals s.heap news) (hj : J 0 m₀ news)
    (turn : ∀ i t m₁ nx h tk own, i < n → OwnOff own (nx.map (·.1)) → J i m₁ nx → Fr h₀ env.locals h (fun y => if y = x then some (.int (i : Int) t) else m₁ y) → News h₀ env.locals h (nx ++ own) →
      wpAny (model prog w) A (execs body env) (InvPostG h₀ env.locals (J (i + 1)) own { s with heap := h, toks := tk } Q) E { s with heap := h, toks := tk })
    (done : ∀ m₁ nx h tk, J n m₁ nx → Fr h₀ env.locals h m₁ → News h₀ env.locals h nx → Q .next { s with heap := h, toks := tk }) :
    wpAny (model prog w) A (pyIter (.ref r)) (fun it s₂ => LoopAtV prog w A h₀ env x body Q E it s₂) E s := by
  refine wpAny_pyIter_range hr hsmall ?_
  have Wk : Walks prog w A s.heap.objs.size [s.heap.objs.size] [s.heap.objs.size] n (fun i v => i < n ∧ ∃ t, v = .int (0 + i * 1) t)
      (fun i h => IsRangeIter h s.heap.objs.size (0 + (i : Nat) * 1) ((n : Int) - (i : Nat)) 1) := (Walks.range hh _ 0 1 n).bound
  refine kdr_loop J Wk (fun _ h => h) (fun _ h => h) ?_ ?_ ?_ ?_ (by show IsRangeIter _ _ _ _ _; rw [hsz]; simpa using Heap.get?_push_size _ rfl) (F.push _) (fun p hp => ⟨Heap.get?_push_of_some _ (N p hp).1, (N p hp).2⟩) hj ?_ ?_
  · intro i h hi b hb
    rw [List.mem_singleton.mp hb]
    exact ⟨_, hi⟩
  · intro hm
    exact absurd F.ns.lt ((List.mem_singleton.mp hm) ▸ Nat.lt_irrefl _)
  · intro b hb
    rw [List.mem_singleton.mp hb]
    exact next_is_new F
  · intro p hp hI
    exact absurd (Heap.lt_size (N p hp).1) ((List.mem_singleton.mp hI) ▸ Nat.lt_irrefl _)
  · rintro i v m₁ nx h tk own hi ⟨_, t, rfl⟩ hoff hJ F₁ N₁
    have e1 : (0 : Int) + (i : Int) * 1 = (i : Int) := by omega
    rw [e1] at F₁
    exact turn i t m₁ nx h tk own hi hoff hJ F₁ N₁
  · rintro m₁ nx h tk hJ F₁ N₁
    exact done m₁ nx h tk hJ F₁ N₁
end
section
variable {w : World} {mean : ExcName → Option Value} {mg mb : Str → Option Value} {news : Led} {dp un : Nat} {gd : Option (List Code)} {cn : Str} {scp : Scope} {a : Addr} {ccd : Value} {cl : List (Str × Addr)} {outer : List Env} {A₀ : Around} {base h₀ : Heap} {L : Addr} {m : Str → Option Value} {s : Shared} {Q E : Value → Shared → Prop}
theorem right_con (x : Addr) (u : Int) (k : Nat) (t1 t2 : Tok) (rest : Led) (hg : Good u k) :
    Con w mean mg mb 105 [.ref x] ((x, tupO u t1 k t2) :: rest) 10 100 (fun r tl => tl = [] ∧ r = .bool true) := by
  by_cases h : 0 < k
  · exact right_p x u k t1 t2 rest h hg.2.1 hg.2.2 hg.1
  · exact right_n x u k t1 t2 rest (by omega) hg.2.2 hg.1
theorem use_right {x : Addr} {u : Int} {k : Nat} {t1 t2 : Tok} (hm : (x, tupO u t1 k t2) ∈ news) (hg : Good u k)
    (B : Below A₀ base outer h₀) (F : Fr h₀ L s.heap m) (X : (hd.heap_39 w.params).In h₀) (N : News h₀ L s.heap news) (T' : Top hd.view_39 loose mean mg mb h₀) (hk : scp.kind = .function) (hd' : dp + 10 < recursionLimit) (hu : un + 100 < cLine)
    (ret : ∀ h' tk', Fr h₀ L h' m → News h₀ L h' news → Q (.bool true) { s with heap := h', toks := tk' }) :
    wpAny (model PySem.Challenge.rw_pb0218_01.row.prog w) (ktrTop dp un gd cn scp L a ccd cl outer) (call (.ref 105) [.ref x]) Q E s := by
  have N2 : News h₀ L s.heap ((x, tupO u t1 k t2) :: news) := by
    intro p hp
    rcases List.mem_cons.mp hp with e | e
    · rw [e]; exact N _ hm
    · exact N p e
  refine right_con (w := w) (mean := mean) (mg := mg) (mb := mb) x u k t1 t2 news hg dp un gd cn scp a ccd cl outer A₀ base h₀ L m s Q E B F X N2 T' hk hd' hu ?_
  intro r tl h' tk' F' N' _ o
  obtain ⟨e, e2⟩ := o
  rw [e] at N'
  rw [e2]
  exact ret h' tk' F' (fun p hp => N' p (List.mem_cons_of_mem _ hp))
theorem use_writeI {x : Addr} {u kI : Int} {t1 t2 : Tok} (hm : (x, tupO u t1 kI t2) ∈ news) (h0 : 0 ≤ kI) (hk' : kI ≤ 44) (hu0 : u.natAbs < 10 ^ 60)
    (B : Below A₀ base outer h₀) (F : Fr h₀ L s.heap m) (X : (hd.heap_39 w.params).In h₀) (N : News h₀ L s.heap news) (T' : Top hd.view_39 loose mean mg mb h₀) (hk : scp.kind = .function) (hd' : dp + 3 < recursionLimit) (hu : un + 20 < cLine)
    (ret : ∀ t h' tk', Fr h₀ L h' m → News h₀ L h' news → Q (.str (S (W u kI.toNat)) t) { s with heap := h', toks := tk' }) :
    wpAny (model PySem.Challenge.rw_pb0218_01.row.prog w) (ktrTop dp un gd cn scp L a ccd cl outer) (call (.ref 91) [.ref x]) Q E s := by
  have e : kI = (kI.toNat : Int) := by omega
  rw [e] at hm
  exact use_write hm (by omega) hu0 B F X N T' hk hd' hu ret
end
section
variable {prog : Program} {w : World} {A : Around} {E : Value → Shared → Prop} {s : Shared} {h₀ : Heap} {L d x : Addr} {m : Str → Option Value} {news tups : Led} {o : Obj} {kvs : List (Str × Value)} {u : Int} {k : Nat} {t t1 t2 : Tok}
theorem r_dmeth {pl : Sem Bool} {Q : Value × List Value → Shared → Prop} (N : News h₀ L s.heap news) (hp : (d, o) ∈ news) (hd : o.IsDictOf (strKind prog w) kvs) (h : Q (.builtin "dict.get", [.ref d]) s) : wpAny (model prog w) A (getMethod (.ref d) "get" pl) Q E s := kdg_method N hp hd h
theorem r_dget {Q : Value → Shared → Prop} (N : News h₀ L s.heap news) (hp : (d, o) ∈ news) (hd : o.IsDictOf (strKind prog w) kvs) (lo : (d == sysModules) = false) (hok : DOk kvs tups) (hsub : ∀ p ∈ tups, p ∈ news) (hoff : ∀ p ∈ tups, p.1 ≠ d) (hxd : x ≠ d) (hx : (x, tupO u t1 k t2) ∈ news)
    (h : ∀ y ta tb tk', y ≠ d → News h₀ L s.heap ((y, tupO u ta k tb) :: news) → Q (.ref y) { s with toks := tk' }) :
    wpAny (model prog w) A (call (.builtin "dict.get") [.ref d, .str (S (W u k)) t, .ref x]) Q E s := by
  have fin : ∀ y ta tb tk', y ≠ d → (y, tupO u ta k tb) ∈ news → Q (.ref y) { s with toks := tk' } := by
    intro y ta tb tk' hy hm
    refine h y ta tb tk' hy (fun p hp => ?_)
    rcases List.mem_cons.mp hp with e | e
    · rw [e]; exact N _ hm
    · exact N p e
  refine kdg_get2 (knd := strKind prog w) N hp hd lo (strKind_is _ _ _ _) _ rfl ?_
  cases hv : valueAt kvs (S (W u k)) with
  | none => exact fin x t1 t2 _ hxd hx
  | some v =>
    obtain ⟨a, u', k', ta, tb, e1, e2, e3, _⟩ := hok _ _ hv
    obtain ⟨hu, hk⟩ := W_inj (S_inj e1)
    subst hu; subst hk
    rw [e2]
    exact fin a ta tb _ (hoff _ e3) (hsub _ e3)
end
theorem j1_start {WL SL a1 a2 a3 a4 a5 : Addr} {u1 u2 u3 u4 u5 k1 k2 k3 k4 k5 : Int} {s1 s2 s3 s4 s5 t1 t2 t3 t4 t5 : Tok} {m : Str → Option Value} (d1 : DecOf 5 1 u1 k1) (d2 : DecOf (-70) 0 u2 k2) (d3 : DecOf 0 4 u3 k3) (d4 : DecOf 1 12 u4 k4) (d5 : DecOf (-305) 2 u5 k5)
    (o : a5 < WL ∧ a4 < WL ∧ a3 < WL ∧ a2 < WL ∧ a1 < WL) (hm1 : m (Str.ofString "worths") = some (.ref WL)) (hm2 : m (Str.ofString "script") = some (.ref SL)) :
    J1 WL SL 0 m [(WL, W.listOf #[.ref a1, .ref a2, .ref a3, .ref a4, .ref a5] 0), (a5, tupO u5 s5 k5 t5), (a4, tupO u4 s4 k4 t4), (a3, tupO u3 s3 k3 t3), (a2, tupO u2 s2 k2 t2), (a1, tupO u1 s1 k1 t1)] := by
  obtain ⟨q1, e1, g1⟩ := good_of_dec d1 (by decide) (by decide) (by decide)
  obtain ⟨q2, e2, g2⟩ := good_of_dec d2 (by decide) (by decide) (by decide)
  obtain ⟨q3, e3, g3⟩ := good_of_dec d3 (by decide) (by decide) (by decide)
  obtain ⟨q4, e4, g4⟩ := good_of_dec d4 (by decide) (by decide) (by decide)
  obtain ⟨q5, e5, g5⟩ := good_of_dec d5 (by decide) (by decide) (by decide)
  refine ⟨[.ref a1, .ref a2, .ref a3, .ref a4, .ref a5], 0, _, rfl, ?_, rfl, ?_, hm1, hm2⟩
  · exact ((((WOk.nil.snoc e1 g1).snoc e2 g2).snoc e3 g3).snoc e4 g4).snoc e5 g5
  · intro p hp b hb
    rw [List.mem_singleton.mp hb]
    obtain ⟨o5, o4, o3, o2, o1⟩ := o
    simp only [List.mem_cons, List.not_mem_nil, or_false] at hp
    rcases hp with e | e | e | e | e <;> rw [e] <;> exact Nat.ne_of_lt (by assumption)
theorem off_app {a b : Led} {adr : List Addr} (h1 : OwnOff a adr) (h2 : OwnOff b adr) : OwnOff (a ++ b) adr := by
  intro p hp
  rcases List.mem_append.mp hp with h | h
  · exact h1 p h
  · exact h2 p h
theorem off_sub {a : Led} {adr adr' : List Addr} (h : OwnOff a adr) (hs : ∀ b ∈ adr', b ∈ adr) : OwnOff a adr' := fun p hp b hb => h p hp b (hs b hb)
theorem j1_end {h₀ : Heap} {L WL SL y : Addr} {h' : Heap} {m' : Str → Option Value} {u k u0 k0 : Int} {t1 t2 : Tok} {vs : List Value} {X : Array Value} {n' i : Nat} {tups own : Led} {s : Shared} {tk : Nat}
    (F : Fr h₀ L h' m') (N : News h₀ L h' ((y, tupO u t1 k t2) :: (WL, W.listOf X n') :: (tups ++ own))) (hX : X = (vs ++ [Value.ref y]).toArray) (d : DecOf u0 k0 u k) (hb1 : -3 ≤ k0) (hb2 : k0 ≤ 42) (hb3 : u0.natAbs < 10 ^ 45)
    (hW : WOk vs tups) (hlen : vs.length = 5 + i) (hoff : OwnOff own (WL :: tups.map (·.1))) (hT : OwnOff tups [WL]) (hy : WL < y ∧ AllLt y (tups ++ own)) (hm1 : m' (Str.ofString "worths") = some (.ref WL)) (hm2 : m' (Str.ofString "script") = some (.ref SL)) :
    InvEndG h₀ L (J1 WL SL (i + 1)) own s { s with heap := h', toks := tk } := by
  subst hX
  obtain ⟨q, e, g⟩ := good_of_dec d hb1 hb2 hb3
  refine InvEndG.intro (nx := (WL, W.listOf (vs ++ [Value.ref y]).toArray n') :: (y, tupO u t1 k t2) :: tups) F N ⟨_, _, _, rfl, hW.snoc e g, by rw [List.length_append, hlen]; rfl, ?_, hm1, hm2⟩ ?_ ?_ ?_
  · intro p hp b hb
    rcases List.mem_cons.mp hp with e' | e'
    · rw [e', List.mem_singleton.mp hb]; exact Nat.ne_of_gt hy.1
    · exact hT p e' b hb
  · intro p hp b hb
    rcases List.mem_cons.mp hb with e' | e'
    · rw [e']; exact hoff p hp _ List.mem_cons_self
    · rcases List.mem_cons.mp e' with e'' | e''
      · rw [e'']; exact Nat.ne_of_lt (allLt_mem hy.2 p (List.mem_append_right _ hp))
      · exact hoff p hp _ (List.mem_cons_of_mem _ e'')
  · intro p hp
    rcases List.mem_cons.mp hp with e' | e'
    · rw [e']; exact List.mem_cons_of_mem _ List.mem_cons_self
    · rcases List.mem_cons.mp e' with e'' | e''
      · rw [e'']; exact List.mem_cons_self
      · exact List.mem_cons_of_mem _ (List.mem_cons_of_mem _ (List.mem_append_left _ e''))
  · intro p hp
    exact List.mem_cons_of_mem _ (List.mem_cons_of_mem _ (List.mem_append_right _ hp))
section
variable {prog : Program} {w : World} {A : Around} {E : Value → Shared → Prop} {s : Shared} {env : Env} {h₀ : Heap} {x : Str} {body : List Stmt} {Q : Flow → Shared → Prop}
theorem range_J1 {WL SL : Addr} {r : Addr} {b₀ : Int} {t₀ u₀ v₀ : Tok} {n : Nat} {m₀ : Str → Option Value} {news : Led} {p₀ : Addr × Obj} (F : Fr h₀ env.locals s.heap m₀) (N : News h₀ env.locals s.heap (p₀ :: news))
    (hh : A.handled = none) (hr : IsRange s.heap r 0 b₀ 1 t₀ u₀ v₀) (hsmall : Builtin.Range.small 0 b₀ 1 = true) (hsz : Builtin.Range.rangeSize 0 b₀ 1 = (n : Int)) (hj : J1 WL SL 0 m₀ news)
    (turn : ∀ i t m₁ nx h tk own, i < n → OwnOff own (nx.map (·.1)) → J1 WL SL i m₁ nx → Fr h₀ env.locals h (fun y => if y = x then some (.int (i : Int) t) else m₁ y) → News h₀ env.locals h (nx ++ own) →
      wpAny (model prog w) A (execs body env) (InvPostG h₀ env.locals (J1 WL SL (i + 1)) own { s with heap := h, toks := tk } Q) E { s with heap := h, toks := tk })
    (done : ∀ m₁ nx h tk, J1 WL SL n m₁ nx → Fr h₀ env.locals h m₁ → News h₀ env.locals h nx → Q .next { s with heap := h, toks := tk }) :
    wpAny (model prog w) A (pyIter (.ref r)) (fun it s₂ => LoopAtV prog w A h₀ env x body Q E it s₂) E s :=
  range_G (J1 WL SL) hh hr hsmall hsz F (fun p hp => N p (List.mem_cons_of_mem _ hp)) hj turn done
end
theorem fm44_hi (c : Int) : c.fmod 44 - 3 ≤ 44 := by have := fmod_hi c (n := 44) (by decide); omega
theorem fm44_hi2 (c : Int) : c.fmod 44 - 3 ≤ 42 := by have := fmod_hi c (n := 44) (by decide); omega
theorem fm44_lo (c : Int) : -3 ≤ c.fmod 44 - 3 := by have := fmod_lo c (n := 44) (by decide); omega
theorem units_ok (c : Int) : (c.fmod (10 ^ Int.toNat 40)).natAbs < 10 ^ 45 := by
  have h0 : (0 : Int) < 10 ^ Int.toNat 40 := by decide
  have h1 := fmod_lo c h0
  have h2 := fmod_hi c h0
  have h3 : (10 : Int) ^ Int.toNat 40 < 10 ^ 45 := by decide
  omega
theorem units_neg (c : Int) : (-(c.fmod (10 ^ Int.toNat 40))).natAbs < 10 ^ 45 := by rw [Int.natAbs_neg]; exact units_ok c
theorem fr_one {h₀ h : Heap} {L : Addr} {x a : Str} {v va : Value} {m₁ : Str → Option Value} (F : Fr h₀ L h (fun y => if y = x then some v else m₁ y)) (ha : m₁ a = some va) :
    Fr h₀ L h (fun y => if y = x then some v else if y = a then some va else m₁ y) := by
  have e : (fun y => if y = x then some v else if y = a then some va else m₁ y) = fun y => if y = x then some v else m₁ y := by
    funext y
    by_cases h1 : y = x
    · rw [if_pos h1, if_pos h1]
    · rw [if_neg h1, if_neg h1]
      by_cases h2 : y = a
      · rw [if_pos h2, h2, ha]
      · rw [if_neg h2]
  rw [e]; exact F
theorem fr_one0 {h₀ h : Heap} {L : Addr} {a : Str} {va : Value} {m₁ : Str → Option Value} (F : Fr h₀ L h m₁) (ha : m₁ a = some va) : Fr h₀ L h (fun y => if y = a then some va else m₁ y) := by
  have e : (fun y => if y = a then some va else m₁ y) = m₁ := by
    funext y
    by_cases h2 : y = a
    · rw [if_pos h2, h2, ha]
    · rw [if_neg h2]
  rw [e]; exact F
section
variable {prog : Program} {w : World} {A : Around} {E : Value → Shared → Prop} {s : Shared} {env : Env} {h₀ : Heap} {x : Str} {body : List Stmt} {Q : Flow → Shared → Prop}
def J2' (WL : Addr) (vs : List Value) (n : Nat) (tups : Led) (m : Str → Option Value) (nx : Led) : Prop := (WL, W.listOf vs.toArray n) ∈ nx ∧ J2 WL vs n tups 0 m nx
theorem iter_J2 {WL : Addr} {vs : List Value} {n : Nat} {tups : Led} {m₀ : Str → Option Value} (F : Fr h₀ env.locals s.heap m₀) (N : News h₀ env.locals s.heap ((WL, W.listOf vs.toArray n) :: tups)) (hh : A.handled = none) (hW : WOk vs tups) (hm : m₀ (Str.ofString "worths") = some (.ref WL))
    (turn : ∀ (a : Addr) (u : Int) (k : Nat) (t1 t2 : Tok) (m₁ : Str → Option Value) (h : Heap) (tk : Nat) (own : Led), Good u k → OwnOff own (WL :: tups.map (·.1)) → Fr h₀ env.locals h (fun y => if y = x then some (.ref a) else if y = Str.ofString "worths" then some (.ref WL) else m₁ y) → News h₀ env.locals h ((a, tupO u t1 (k : Nat) t2) :: (WL, W.listOf vs.toArray n) :: (tups ++ own)) →
      wpAny (model prog w) A (execs body env) (InvPostG h₀ env.locals (J2' WL vs n tups) own { s with heap := h, toks := tk } Q) E { s with heap := h, toks := tk })
    (done : ∀ (m₁ : Str → Option Value) (h : Heap) (tk : Nat), Fr h₀ env.locals h (fun y => if y = Str.ofString "worths" then some (.ref WL) else m₁ y) → News h₀ env.locals h ((WL, W.listOf vs.toArray n) :: tups) → Q .next { s with heap := h, toks := tk }) :
    wpAny (model prog w) A (pyIter (.ref WL)) (fun it s₂ => LoopAtV prog w A h₀ env x body Q E it s₂) E s := by
  refine kdl_iter (fun _ => J2 WL vs n tups 0) hh List.mem_cons_self F N ⟨rfl, hm⟩ ?_ ?_
  · rintro i v m₁ nx h tk own hv hoff _ ⟨rfl, hm'⟩ F₁ N₁
    obtain ⟨a, u, k, t1, t2, rfl, hmem, hg⟩ := hW v (List.mem_of_getElem? hv)
    refine turn a u k t1 t2 m₁ h tk own hg hoff (fr_one F₁ hm') (fun p hp => ?_)
    rcases List.mem_cons.mp hp with e | e
    · rw [e]; exact N₁ _ (List.mem_append_left _ (List.mem_cons_of_mem _ hmem))
    · exact N₁ p e
  · rintro m₁ nx h tk ⟨rfl, hm'⟩ F₁ N₁
    exact done m₁ h tk (fr_one0 F₁ hm') N₁
end
theorem j2_end {h₀ : Heap} {L WL a : Addr} {h' : Heap} {m' : Str → Option Value} {o : Obj} {vs : List Value} {n : Nat} {tups own : Led} {s : Shared} {tk : Nat}
    (F : Fr h₀ L h' m') (N : News h₀ L h' ((a, o) :: (WL, W.listOf vs.toArray n) :: (tups ++ own))) (hoff : OwnOff own (WL :: tups.map (·.1))) (hm : m' (Str.ofString "worths") = some (.ref WL)) :
    InvEndG h₀ L (J2' WL vs n tups) own s { s with heap := h', toks := tk } :=
  InvEndG.intro (nx := (WL, W.listOf vs.toArray n) :: tups) F N ⟨List.mem_cons_self, rfl, hm⟩ hoff
    (fun p hp => by
      rcases List.mem_cons.mp hp with e | e
      · rw [e]; exact List.mem_cons_of_mem _ List.mem_cons_self
      · exact List.mem_cons_of_mem _ (List.mem_cons_of_mem _ (List.mem_append_left _ e)))
    (fun p hp => List.mem_cons_of_mem _ (List.mem_cons_of_mem _ (List.mem_append_right _ hp)))
theorem fr_two_c {h₀ h : Heap} {L : Addr} {x a b : Str} {v va vb : Value} {m₁ : Str → Option Value} (F : Fr h₀ L h (fun y => if y = x then some v else m₁ y)) (ha : m₁ a = some va) (hb : m₁ b = some vb) :
    Fr h₀ L h (fun y => if y = x then some v else if y = a then some va else if y = b then some vb else m₁ y) := fr_two F ha hb
section
variable {prog : Program} {w : World} {A : Around} {E : Value → Shared → Prop} {s : Shared} {env : Env} {h₀ : Heap} {x : Str} {body : List Stmt} {Q : Flow → Shared → Prop}
def J3' (prog : Program) (w : World) (D WL : Addr) (vs : List Value) (n : Nat) (tups : Led) (i : Nat) (m : Str → Option Value) (nx : Led) : Prop := (WL, W.listOf vs.toArray n) ∈ nx ∧ J3 prog w D WL vs n tups i m nx
theorem iter_J3 {D WL : Addr} {o : Obj} {vs : List Value} {n : Nat} {tups : Led} {m₀ : Str → Option Value} (F : Fr h₀ env.locals s.heap m₀) (N : News h₀ env.locals s.heap ((D, o) :: (WL, W.listOf vs.toArray n) :: tups)) (hh : A.handled = none) (hW : WOk vs tups) (hv : vs.length ≤ 20)
    (hd : o.IsDictOf (strKind prog w) []) (hT : OwnOff tups [WL]) (hlt : WL < D ∧ AllLt D tups) (hm : m₀ (Str.ofString "worths") = some (.ref WL)) (hm2 : m₀ (Str.ofString "texts") = some (.ref D))
    (turn : ∀ (a : Addr) (u : Int) (k : Nat) (t1 t2 : Tok) (m₁ : Str → Option Value) (d : Obj) (kvs : List (Str × Value)) (h : Heap) (tk : Nat) (own : Led) (i : Nat), Good u k → k ≤ 44 → u.natAbs < 10 ^ 60 → (a, tupO u t1 (k : Nat) t2) ∈ tups → a ≠ D → (∀ p ∈ tups, p.1 ≠ D) → OwnOff (tups ++ own) [D, WL] → OwnOff own (D :: WL :: tups.map (·.1)) → d.IsDictOf (strKind prog w) kvs → DOk kvs tups → kvs.length ≤ i → i ≤ 20 →
      Fr h₀ env.locals h (fun y => if y = x then some (.ref a) else if y = Str.ofString "worths" then some (.ref WL) else if y = Str.ofString "texts" then some (.ref D) else m₁ y) → News h₀ env.locals h ((a, tupO u t1 (k : Nat) t2) :: (D, d) :: (WL, W.listOf vs.toArray n) :: (tups ++ own)) →
      wpAny (model prog w) A (execs body env) (InvPostG h₀ env.locals (J3' prog w D WL vs n tups (i + 1)) own { s with heap := h, toks := tk } Q) E { s with heap := h, toks := tk })
    (done : ∀ (m₁ : Str → Option Value) (d : Obj) (h : Heap) (tk : Nat), Fr h₀ env.locals h m₁ → News h₀ env.locals h ((D, d) :: (WL, W.listOf vs.toArray n) :: tups) → Q .next { s with heap := h, toks := tk }) :
    wpAny (model prog w) A (pyIter (.ref WL)) (fun it s₂ => LoopAtV prog w A h₀ env x body Q E it s₂) E s := by
  have hTD : ∀ p ∈ tups, p.1 ≠ D := fun p hp => Nat.ne_of_lt (allLt_mem hlt.2 p hp)
  refine kdl_iter (fun i => J3 prog w D WL vs n tups i) hh (List.mem_cons_of_mem _ List.mem_cons_self) F N ⟨o, [], rfl, hd, DOk.nil, Nat.le_refl _, hm, hm2⟩ ?_ ?_
  · rintro i v m₁ nx h tk own hvi hoff _ ⟨d, kvs, rfl, hd', hok, hlen, hm', hm2'⟩ F₁ N₁
    obtain ⟨a, u, k, t1, t2, rfl, hmem, hg⟩ := hW v (List.mem_of_getElem? hvi)
    have hi : i < vs.length := by
      by_cases h : i < vs.length
      · exact h
      · rw [List.getElem?_eq_none (by omega)] at hvi; cases hvi
    have hoff' : OwnOff own (D :: WL :: tups.map (·.1)) := hoff
    refine turn a u k t1 t2 m₁ d kvs h tk own i hg (Nat.le_trans hg.2.1 (by decide)) hg.2.2 hmem (hTD _ hmem) hTD ?_ hoff' hd' hok hlen (by omega) (fr_two F₁ hm' hm2') (fun p hp => ?_)
    · intro p hp b hb
      rcases List.mem_append.mp hp with e | e
      · rcases List.mem_cons.mp hb with e' | e'
        · rw [e']; exact hTD p e
        · exact hT p e b e'
      · refine hoff' p e b ?_
        rcases List.mem_cons.mp hb with e' | e'
        · rw [e']; exact List.mem_cons_self
        · rw [List.mem_singleton.mp e']; exact List.mem_cons_of_mem _ List.mem_cons_self
    · rcases List.mem_cons.mp hp with e | e
      · rw [e]; exact N₁ _ (List.mem_append_left _ (List.mem_cons_of_mem _ (List.mem_cons_of_mem _ hmem)))
      · exact N₁ p e
  · rintro m₁ nx h tk ⟨d, kvs, rfl, _⟩ F₁ N₁
    exact done m₁ d h tk F₁ N₁
end
theorem j3_end {prog : Program} {w : World} {h₀ : Heap} {L D WL a y : Addr} {h' : Heap} {m' : Str → Option Value} {o' oy : Obj} {u : Int} {k i : Nat} {t1 t2 : Tok} {kvs : List (Str × Value)} {vs : List Value} {n : Nat} {tups own : Led} {s : Shared} {tk : Nat}
    (F : Fr h₀ L h' m') (N : News h₀ L h' ((y, oy) :: (a, tupO u t1 (k : Nat) t2) :: (D, o') :: (WL, W.listOf vs.toArray n) :: (tups ++ own))) (hoff : OwnOff own (D :: WL :: tups.map (·.1))) (hd : o'.IsDictOf (strKind prog w) (stored kvs (S (W u k)) (.ref a))) (hok : DOk kvs tups) (hlen : kvs.length ≤ i) (hmem : (a, tupO u t1 (k : Nat) t2) ∈ tups) (hg : Good u k)
    (hm : m' (Str.ofString "worths") = some (.ref WL)) (hm2 : m' (Str.ofString "texts") = some (.ref D)) :
    InvEndG h₀ L (J3' prog w D WL vs n tups (i + 1)) own s { s with heap := h', toks := tk } :=
  InvEndG.intro (nx := (D, o') :: (WL, W.listOf vs.toArray n) :: tups) F N ⟨List.mem_cons_of_mem _ List.mem_cons_self, o', _, rfl, hd, hok.put hmem hg, Nat.le_trans (stored_len _ _ _) (Nat.succ_le_succ hlen), hm, hm2⟩ hoff
    (fun p hp => by
      refine List.mem_cons_of_mem _ (List.mem_cons_of_mem _ ?_)
      rcases List.mem_cons.mp hp with e | e
      · rw [e]; exact List.mem_cons_self
      · rcases List.mem_cons.mp e with e | e
        · rw [e]; exact List.mem_cons_of_mem _ List.mem_cons_self
        · exact List.mem_cons_of_mem _ (List.mem_cons_of_mem _ (List.mem_append_left _ e)))
    (fun p hp => List.mem_cons_of_mem _ (List.mem_cons_of_mem _ (List.mem_cons_of_mem _ (List.mem_cons_of_mem _ (List.mem_append_right _ hp)))))
theorem sub3 {e1 e2 e3 : Addr × Obj} {tups own : Led} : ∀ p ∈ tups, p ∈ e1 :: e2 :: e3 :: (tups ++ own) := fun _ hp => List.mem_cons_of_mem _ (List.mem_cons_of_mem _ (List.mem_cons_of_mem _ (List.mem_append_left _ hp)))
theorem lit_05 : Str.ofString "0.5" = S [48, 46, 53] := by rw [S_def]; decide +kernel
theorem lit_305 : Str.ofString "-3.05" = S [45, 51, 46, 48, 53] := by rw [S_def]; decide +kernel
theorem lit_12 : Str.ofString "0.000000000001" = S [48, 46, 48, 48, 48, 48, 48, 48, 48, 48, 48, 48, 48, 49] := by rw [S_def]; decide +kernel
theorem W_05 : decide (W 5 1 = [48, 46, 53]) = true := by decide +kernel
theorem W_305 : decide (W (-305) 2 = [45, 51, 46, 48, 53]) = true := by decide +kernel
theorem W_12 : decide (W 1 12 = [48, 46, 48, 48, 48, 48, 48, 48, 48, 48, 48, 48, 48, 49]) = true := by decide +kernel
end

def Stop (P : Prop) : Prop := P
theorem Stop.out {P : Prop} (h : Stop P) : P := h
end Mine
open Mine
local macro_rules | `(tactic| walk_at "my_enter") => `(tactic| (refine' code_def ?k1 ?k2 ?k3 ?k4 ?k5 ?kA ?kF ?kK ?k6 ?k7 ?k8 ?k9 ?kB ?_ ?c2 ?c3 ?c4 ?c5; (case kA => exact rfl); (case kF => exact rfl); (case kK => assumption); (case k1 => k_asm); (case k2 => k_asm); (case k3 => k_asm); (case k4 => k_asm); (case k5 => k_asm); (case k6 => k_is); (case k7 => k_is); (case k8 => ktr_room); (case k9 => first | exact BindsTo.of_eq rfl | exact binds_K (by k_in) rfl (by k_is) rfl rfl rfl); (case c5 => decide); (case kB => exact locs rfl); (case c2 => exact rfl); (case c3 => exact rfl); (case c4 => exact rfl); k_whole; intro g' L' h' FG' F' N' B' X' T'; (try dsimp only); (try k_lift B'); (try k_fold)))

local macro_rules | `(tactic| walk_at "my_lit") => `(tactic| first | exact rfl | exact lit_zero | exact lit_dot | exact lit_minus | exact lit_plus | exact lit_nil | exact lit_p00 | exact lit_d00)
local macro_rules | `(tactic| walk_at "my_size") => `(tactic| ((try simp only [List.length_append, List.length_replicate, List.length_take, List.length_drop, List.length_cons, List.length_nil, Int.natCast_add, Int.natCast_one]); omega))
local macro_rules | `(tactic| walk_at "call builtin:len") => `(tactic| (k_here; (with_reducible show wpAny _ _ (call (Value.builtin "len") [Value.str _ _]) _ _ _); (refine r_len (by walk_at "my_lit") (by walk_at "my_size") ?_); intro _ _))
local macro_rules | `(tactic| walk_at "binaryOp Add str str") => `(tactic| (k_here; (with_reducible show wpAny _ _ (binaryOp Operator.Add (Value.str _ _) (Value.str _ _)) _ _ _); (refine r_add (by walk_at "my_lit") (by walk_at "my_lit") (by walk_at "my_size") ?_); intro _ _))
local macro_rules | `(tactic| walk_at "binaryOp Mult str int") => `(tactic| (k_here; (with_reducible show wpAny _ _ (binaryOp Operator.Mult (Value.str _ _) (Value.int _ _)) _ _ _); (refine r_mul (by walk_at "my_lit") (by omega) (by omega) ?_); intro _ _))
local macro_rules | `(tactic| walk_at "call type:str") => `(tactic| (k_here; (with_reducible show wpAny _ _ (call (Value.type "str") [Value.int _ _]) _ _ _); (refine r_strN (abs_nat _) (by assumption) ?_); intro _ _))
local macro_rules | `(tactic| walk_at "subscriptTail Name Slice str ref") => `(tactic| (k_here; (with_reducible rename Fr _ _ _ _ => F'); (with_reducible rename News _ _ _ _ => N'); (first
  | ((with_reducible show wpAny _ _ (subscriptTail _ (Expr.Slice none (some _) none _) _ _) _ _ _); (refine r_slice_to (s := ⟨_, _, _, _, _⟩) (by walk_at "my_lit") (by walk_at "my_size") (by walk_at "my_size") (by walk_at "my_size") F' N' ?_); intro _ _ _ _ _)
  | ((with_reducible show wpAny _ _ (subscriptTail _ (Expr.Slice (some _) none none _) _ _) _ _ _); (refine r_slice_from (s := ⟨_, _, _, _, _⟩) (by walk_at "my_lit") (by walk_at "my_size") (by walk_at "my_size") (by walk_at "my_size") F' N' ?_); intro _ _ _ _ _))))
local macro_rules | `(tactic| walk_at "my_lit") => `(tactic| first | exact rfl | exact lit_zero | exact lit_dot | exact lit_minus | exact lit_plus | exact lit_nil | exact lit_p00 | exact lit_d00 | exact one_S _)
local macro_rules | `(tactic| walk_at "compareOp Eq str str") => `(tactic| (k_here; (with_reducible show wpAny _ _ (compareOp CmpOp.Eq (Value.str _ _) (Value.str _ _)) _ _ _); (refine r_eq (by walk_at "my_lit") (by walk_at "my_lit") ?_)))
local macro_rules | `(tactic| walk_at "compareOp NotEq str str") => `(tactic| (k_here; (with_reducible show wpAny _ _ (compareOp CmpOp.NotEq (Value.str _ _) (Value.str _ _)) _ _ _); (refine r_ne (by walk_at "my_lit") (by walk_at "my_lit") ?_)))
local macro_rules | `(tactic| walk_at "call builtin:str.lstrip") => `(tactic| (k_here; (with_reducible show wpAny _ _ (call (Value.builtin "str.lstrip") [Value.str _ _, Value.str _ _]) _ _ _); (refine r_lstrip (by walk_at "my_lit") (by walk_at "my_lit") (by walk_at "my_size") ?_); intro _ _; (try rw [W_lstrip])))
local macro_rules | `(tactic| walk_at "my_fact") => `(tactic| first | assumption | rfl)
local macro_rules | `(tactic| walk_at "subscriptTail Name Slice str ref") => `(tactic| (k_here; (with_reducible rename Fr _ _ _ _ => F'); (with_reducible rename News _ _ _ _ => N'); (first
  | ((with_reducible show wpAny _ _ (subscriptTail _ (Expr.Slice none (some _) none _) _ _) _ _ _); (refine r_slice_toE (s := ⟨_, _, _, _, _⟩) (by walk_at "my_lit") (by walk_at "my_size") (by walk_at "my_size") (by walk_at "my_size") (by walk_at "my_fact") F' N' ?_); intro _ _ _ _ _)
  | ((with_reducible show wpAny _ _ (subscriptTail _ (Expr.Slice (some _) none none _) _ _) _ _ _); (refine r_slice_fromE (s := ⟨_, _, _, _, _⟩) (by walk_at "my_lit") (by walk_at "my_size") (by walk_at "my_size") (by walk_at "my_size") (by walk_at "my_fact") F' N' ?_); intro _ _ _ _ _))))
local macro_rules | `(tactic| walk_at "compareOp In str str") => `(tactic| (k_here; (with_reducible show wpAny _ _ (compareOp CmpOp.In (Value.str _ _) (Value.str _ _)) _ _ _); (refine r_in (by walk_at "my_lit") (by walk_at "my_lit") (by assumption) ?_)))
local macro_rules | `(tactic| walk_at "compareOp In str ref") => `(tactic| (k_here; (with_reducible show wpAny _ _ (compareOp CmpOp.In (Value.str _ _) (Value.ref _)) _ _ _); (with_unfolding_all refine' r_in_pm ?k0 ?k1 ?kb ?_; (case k0 => walk_at "my_lit"); (case k1 => exact News.isTup (by k_asm) (by news_mem)); (case kb => assumption); k_whole)))
local macro_rules | `(tactic| walk_at "call builtin:str.index") => `(tactic| (k_here; (with_reducible show wpAny _ _ (call (Value.builtin "str.index") [Value.str _ _, Value.str _ _]) _ _ _); (refine r_index (by walk_at "my_lit") (by walk_at "my_lit") (by assumption) ?_); intro _ _))
local macro_rules | `(tactic| walk_at "compareOp Eq str str") => `(tactic| (k_here; (with_reducible show wpAny _ _ (compareOp CmpOp.Eq (Value.str _ _) (Value.str _ _)) _ _ _); (refine r_eqF (by walk_at "my_lit") (by walk_at "my_lit") (by assumption) ?_)))
local macro_rules | `(tactic| walk_at "call ref") => `(tactic| (k_here; (with_reducible show wpAny _ _ (call (Value.ref 77) [Value.str _ _] _) _ _ _); (k_dflt (refine' use_worth ?kx ?kg ?kl ?k1 ?k2 ?k3 ?k4 ?k5 ?kK ?kd ?ku ?_; (case kx => walk_at "my_lit"); (case kg => assumption); (case kl => walk_at "my_size"); (case k1 => k_asm); (case k2 => k_asm); (case k3 => k_asm); (case k4 => k_asm); (case k5 => k_asm); (case kK => first | exact rfl | assumption); (case kd => ktr_room); (case ku => ktr_units))); intro t9 h9 tk9 F9 N9; (try dsimp only); (try k_fold)))
local macro_rules | `(tactic| walk_at "call ref") => `(tactic| (k_here; (with_reducible show wpAny _ _ (call (Value.ref 70) [Value.int _ _, Value.int _ _] _) _ _ _); (k_dflt (refine' use_dec ?kg ?kl ?k1 ?k2 ?k3 ?k4 ?k5 ?kK ?kd ?ku ?_; (case kg => first | omega | (simp; done)); (case kl => first | omega | (simp; done)); (case k1 => k_asm); (case k2 => k_asm); (case k3 => k_asm); (case k4 => k_asm); (case k5 => k_asm); (case kK => first | exact rfl | assumption); (case kd => ktr_room); (case ku => ktr_units))); intro y9 u9 s9 ta9 tb9 h9 tk9 F9 N9 l1 hDec; (try k_lt l1); (try dsimp only); (try k_fold)))

local macro_rules | `(tactic| walk_at "compareOp Eq str str") => `(tactic| (k_here; (with_reducible show wpAny _ _ (compareOp CmpOp.Eq (Value.str _ _) (Value.str _ _)) _ _ _); (first | refine r_eqF (by walk_at "my_lit") (by walk_at "my_lit") (by assumption) ?_ | refine r_eq1 (by walk_at "my_lit") (by walk_at "my_lit") ?_)))
local macro_rules | `(tactic| walk_at "compareOp NotEq str str") => `(tactic| (k_here; (with_reducible show wpAny _ _ (compareOp CmpOp.NotEq (Value.str _ _) (Value.str _ _)) _ _ _); (refine r_neF (by walk_at "my_lit") (by walk_at "my_lit") (by assumption) ?_)))
local macro_rules | `(tactic| walk_at "call builtin:str.count") => `(tactic| (k_here; (with_reducible show wpAny _ _ (call (Value.builtin "str.count") [Value.str _ _, Value.str _ _]) _ _ _); (refine r_count (by walk_at "my_lit") (by walk_at "my_lit") (by assumption) ?_); intro _ _))
local macro_rules | `(tactic| walk_at "call builtin:str.partition") => `(tactic| (k_here; (with_reducible show wpAny _ _ (call (Value.builtin "str.partition") [Value.str _ _, Value.str _ _]) _ _ _); (refine r_part (by walk_at "my_lit") (by walk_at "my_lit") (by assumption) (by walk_at "my_size") (by k_asm) (by k_asm) ?_); intro D' _ _ _ _ _ F' N' l1; (try k_lt l1)))
local macro_rules | `(tactic| walk_at "subscriptTail Name Constant str int") => `(tactic| (k_here; (with_reducible show wpAny _ _ (subscriptTail _ _ (Value.str _ _) (Value.int 0 _)) _ _ _); (refine r_item0 (by walk_at "my_lit") (by assumption) ?_); intro _ _))
local macro_rules | `(tactic| walk_at "subscriptTail Name Slice str ref") => `(tactic| (k_here; (with_reducible show wpAny _ _ (subscriptTail _ (Expr.Slice (some (Expr.UnaryOp _ _ _)) none none _) _ _) _ _ _); (with_reducible rename Fr _ _ _ _ => F'); (with_reducible rename News _ _ _ _ => N'); (refine r_slice_last (s := ⟨_, _, _, _, _⟩) (by walk_at "my_lit") (by walk_at "my_size") F' N' ?_); intro _ _ _ _ _))
local macro_rules | `(tactic| walk_at "call ref") => `(tactic| (k_here; (with_reducible show wpAny _ _ (call (Value.ref 84) [Value.str _ _] _) _ _ _); (k_dflt (refine' use_read ?kx ?kr ?k1 ?k2 ?k3 ?k4 ?k5 ?kK ?kd ?ku ?_; (case kx => walk_at "my_lit"); (case kr => first | assumption | exact Cond.h (by assumption) (by omega)); (case k1 => k_asm); (case k2 => k_asm); (case k3 => k_asm); (case k4 => k_asm); (case k5 => k_asm); (case kK => first | exact rfl | assumption); (case kd => ktr_room); (case ku => ktr_units))); intro y9 ta9 tb9 h9 tk9 F9 N9 l1; (try k_lt l1); (try dsimp only); (try k_fold)))
local macro_rules | `(tactic| walk_at "call ref") => `(tactic| (k_here; (with_reducible show wpAny _ _ (call (Value.ref 98) [Value.str _ _] _) _ _ _); (k_dflt (refine' use_again ?kx ?kr ?kt ?k1 ?k2 ?k3 ?k4 ?k5 ?kK ?kd ?ku ?_; (case kx => walk_at "my_lit"); (case kr => omega); (case kt => assumption); (case k1 => k_asm); (case k2 => k_asm); (case k3 => k_asm); (case k4 => k_asm); (case k5 => k_asm); (case kK => first | exact rfl | assumption); (case kd => ktr_room); (case ku => ktr_units))); intro y9 ta9 tb9 h9 tk9 F9 N9 l1; (try k_lt l1); (try dsimp only); (try k_fold)))
local macro_rules | `(tactic| walk_at "call ref") => `(tactic| (k_here; (with_reducible show wpAny _ _ (call (Value.ref 91) [Value.ref _] _) _ _ _); (k_dflt (refine' use_write ?kx ?kr ?kt ?k1 ?k2 ?k3 ?k4 ?k5 ?kK ?kd ?ku ?_; (case k2 => k_asm); (case k4 => k_asm); (case kx => k_mem); (case kr => omega); (case kt => assumption); (case k1 => k_asm); (case k3 => k_asm); (case k5 => k_asm); (case kK => first | exact rfl | assumption); (case kd => ktr_room); (case ku => ktr_units))); intro t9 h9 tk9 F9 N9; (try dsimp only); (try k_fold)))

local macro_rules | `(tactic| walk_at "exec For Name Call cons nil") => `(tactic| (k_here; (with_reducible show wpAny _ _ (exec (Stmt.For _ _ _ _ _) _) _ _ _); refine Stop.out ?_))
local macro_rules | `(tactic| walk_at "exec For Name Name cons nil") => `(tactic| (k_here; (with_reducible show wpAny _ _ (exec (Stmt.For _ _ _ _ _) _) _ _ _); refine Stop.out ?_))
local macro_rules | `(tactic| walk_at "call type:range") => `(tactic| (k_here; (rename Fr _ _ _ _ => F'); (rename News _ _ _ _ => N'); (with_unfolding_all refine range1_rows F' N' ?_); intro _ _ _ _ _ _ _ _ _))
local macro_rules | `(tactic| walk_at "pyIter ref") => `(tactic| (k_here; (with_reducible show wpAny _ _ (pyIter (Value.ref _)) (fun it s₂ => LoopAtV _ _ _ _ _ _ _ _ _ it s₂) _ _); refine Stop.out ?_))
local macro_rules | `(tactic| walk_at "call ref") => `(tactic| (k_here; (with_reducible show wpAny _ _ (call (Value.ref 70) [Value.int _ _, Value.int _ _] _) _ _ _); (k_dflt (refine' use_dec ?kg ?kl ?k1 ?k2 ?k3 ?k4 ?k5 ?kK ?kd ?ku ?_; (case kg => first | decide | exact fm44_hi _); (case kl => first | decide | exact fm44_lo _); (case k1 => k_asm); (case k2 => k_asm); (case k3 => k_asm); (case k4 => k_asm); (case k5 => k_asm); (case kK => first | exact rfl | assumption); (case kd => ktr_room); (case ku => ktr_units))); intro y9 u9 s9 ta9 tb9 h9 tk9 F9 N9 l1 hDec; (try k_lt l1); (try dsimp only); (try k_fold)))
local macro_rules | `(tactic| walk_at "InvEndG") => `(tactic| (k_here; (with_reducible show InvEndG _ _ _ _ _ _); refine Stop.out ?_))
local macro_rules | `(tactic| walk_at "call ref") => `(tactic| (k_here; (with_reducible show wpAny _ _ (call (Value.ref 105) [Value.ref _] _) _ _ _); (k_dflt (refine' use_right ?kx ?kg ?k1 ?k2 ?k3 ?k4 ?k5 ?kK ?kd ?ku ?_; (case k2 => k_asm); (case k4 => k_asm); (case kx => k_mem); (case kg => assumption); (case k1 => k_asm); (case k3 => k_asm); (case k5 => k_asm); (case kK => first | exact rfl | assumption); (case kd => ktr_room); (case ku => ktr_units))); intro h9 tk9 F9 N9; (try dsimp only); (try k_fold)))
local macro_rules | `(tactic| walk_at "my_lit") => `(tactic| first | exact rfl | exact lit_zero | exact lit_dot | exact lit_minus | exact lit_plus | exact lit_nil | exact lit_p00 | exact lit_d00 | exact one_S _ | exact lit_05 | exact lit_305 | exact lit_12)
local macro_rules | `(tactic| walk_at "getMethod ref") => `(tactic| (k_here; (with_reducible show wpAny _ _ (getMethod (Value.ref _) (Str.ofString "get") _) _ _ _); k_dflt (refine r_dmeth (by k_asm) (by k_mem) (by k_asm) ?_)))
local macro_rules | `(tactic| walk_at "call builtin:dict.get") => `(tactic| (k_here; (with_reducible show wpAny _ _ (call (Value.builtin "dict.get") [Value.ref _, Value.str _ _, Value.ref _]) _ _ _); (rename DOk _ _ => hDok); (k_dflt (refine' r_dget ?kN ?kp ?kd ?kl hDok ?ks ?ko ?kx ?km ?_; (case kN => k_asm); (case kp => k_mem); (case kd => k_asm); (case kl => assumption); (case ks => exact sub3); (case ko => assumption); (case kx => assumption); (case km => k_mem))); intro y9 ta9 tb9 tk9 hyd N9; (try dsimp only); (try k_fold)))
local macro_rules | `(tactic| walk_at "setItem ref str") => `(tactic| (k_here; k_dflt (refine' kda_set (knd := PySem.strKind _ _) ?F ?N ?U ?d (strKind_is _ _ _ _) ?z ?_; (case F => k_asm); (case N => k_asm); (case U => k_updF); (case d => k_asm); (case z => rw [sizeLine_eq]; omega)); intro h' o' F' N' hd'; (try dsimp only at N')))
local macro_rules | `(tactic| walk_at "call ref") => `(tactic| (k_here; (with_reducible show wpAny _ _ (call (Value.ref 91) [Value.ref _] _) _ _ _); (k_dflt (refine' use_write ?kx ?kr ?kt ?k1 ?k2 ?k3 ?k4 ?k5 ?kK ?kd ?ku ?_; (case k2 => k_asm); (case k4 => k_asm); (case kx => k_mem); (case kr => first | assumption | decide); (case kt => first | assumption | decide); (case k1 => k_asm); (case k3 => k_asm); (case k5 => k_asm); (case kK => first | exact rfl | assumption); (case kd => ktr_room); (case ku => ktr_units))); intro t9 h9 tk9 F9 N9; (try dsimp only); (try k_fold)))
set_option maxRecDepth 100000 in
set_option maxHeartbeats 8000000 in
theorem PySem.Challenge.cw_pb0218_01_holds : PySem.Challenge.rw_pb0218_01.Holds := by
  refine Mine.hd ?_
  k_go0
  (all_goals try k_fold)
  k_with_none
  k_steps
  unfold Stop
  (rename Fr _ _ _ _ => lF')
  (with_unfolding_all refine' For_invVF lF' ?k1 ?k2 ?_)
  (case k1 => exact rfl)
  (case k2 => exact rfl)
  k_steps
  unfold Stop
  (rename Fr _ _ _ _ => lF')
  (rename News _ _ _ _ => lN')
  (rename IsRange _ _ _ _ _ _ _ _ => lR')
  (with_unfolding_all refine' range_J1 lF' lN' ?hh ?hr ?hs ?hz ?hj ?turn ?done)
  (case hh => exact rfl)
  (case hr => exact lR')
  (case hz => exact rangeSize_nat _ _)
  (case hj => exact j1_start (by assumption) (by assumption) (by assumption) (by assumption) (by assumption) (by assumption) (by with_unfolding_all rfl) (by with_unfolding_all rfl))
  (case hs => exact small_one (by omega) (by omega) (by omega) (by omega))
  case turn =>
    intro i t m₁ nx h tk own hi hoff hJ F₁ N₁
    obtain ⟨vs, n, tups, rfl, hW, hlen, hoffT, hm1, hm2⟩ := hJ
    have F2 := fr_two F₁ hm1 hm2
    clear F₁
    have N2 : News _ _ h ((_, W.listOf vs.toArray n) :: (tups ++ own)) := N₁
    clear N₁
    have hoff2 := off_app hoffT (off_sub hoff (adr' := [_]) (fun b hb => List.mem_cons.mpr (.inl (List.mem_singleton.mp hb))))
    (try dsimp only)
    (try k_fold)
    k_steps
    · unfold Stop
      exact j1_end (by assumption) (by assumption) (List.push_toArray ..) (by assumption) (fm44_lo _) (fm44_hi2 _) (units_neg _) hW hlen hoff hoffT (by assumption) (by with_unfolding_all rfl) (by with_unfolding_all rfl)
    · unfold Stop
      exact j1_end (by assumption) (by assumption) (List.push_toArray ..) (by assumption) (fm44_lo _) (fm44_hi2 _) (units_ok _) hW hlen hoff hoffT (by assumption) (by with_unfolding_all rfl) (by with_unfolding_all rfl)
  case done =>
    intro m₁ nx h tk hJ F₁ N₁
    obtain ⟨vs, n, tups, rfl, hW, hlen, hoffT, hm1, hm2⟩ := hJ
    have F2 := fr_two0 F₁ hm1 hm2
    clear F₁
    (try dsimp only)
    (try k_fold)
    k_steps
    unfold Stop
    (rename Fr _ _ _ _ => lF')
    (with_unfolding_all refine' For_invVF lF' ?k1 ?k2 ?_)
    (case k1 => exact rfl)
    (case k2 => exact rfl)
    k_steps
    unfold Stop
    (rename Fr _ _ _ _ => lF')
    (with_unfolding_all refine' iter_J2 lF' N₁ ?hh hW ?hm ?turn ?done)
    (case hh => exact rfl)
    (case hm => with_unfolding_all rfl)
    case turn =>
      intro a u k t1 t2 m₂ h2 tk2 own hg hoff F₂ N₂
      (try dsimp only)
      (try k_fold)
      k_steps
      all_goals (unfold Stop; exact j2_end (by assumption) (by assumption) hoff (by with_unfolding_all rfl))
    case done =>
      intro m₂ h2 tk2 F₂ N₂
      (try dsimp only)
      (try k_fold)
      k_steps
      unfold Stop
      (rename Fr _ _ _ _ => lF')
      (rename News _ _ _ _ => lN')
      (with_unfolding_all refine' For_invVF lF' ?k1 ?k2 ?_)
      (case k1 => exact rfl)
      (case k2 => exact rfl)
      k_steps
      unfold Stop
      (rename Fr _ _ _ _ => lF')
      (with_unfolding_all refine' iter_J3 lF' lN' ?hh hW ?hv ?hd hoffT ?hlt ?hm ?hm2 ?turn ?done)
      (case hh => exact rfl)
      (case hv => omega)
      (case hd => assumption)
      (case hlt => assumption)
      (case hm => with_unfolding_all rfl)
      (case hm2 => with_unfolding_all rfl)
      case turn =>
        intro a u k t1 t2 m₃ d kvs h3 tk3 own i hg hk44 hu60 hmem haD hTD hoff2 hoff hd hok hlen3 hi20 F₃ N₃
        (try dsimp only)
        (try k_fold)
        k_steps
        unfold Stop
        exact j3_end (by assumption) (by assumption) hoff (by assumption) (by assumption) hlen3 hmem hg (by with_unfolding_all rfl) (by with_unfolding_all rfl)
      case done =>
        intro m₃ d h3 tk3 F₃ N₃
        have hw1 := W_05
        have hw2 := W_305
        have hw3 := W_12
        (try dsimp only)
        (try k_fold)
        k_steps
        all_goals trace_state
        all_goals w_report

/- TokenLong: for every input the law returns true and leaves its argument as it was. Conditions: those of the given row, and no other; the card ties the listed library variables to the program's text. -/
import Derived.Test.YtjkacllmilafoaaGreatDoorTie
import Derived.Test.YtjkacllmilafoaaGreatDoorCards
import Derived.ChangeMaps5
import Derived.Test.YtjkacllmilafoaaGreatDoorXD2e40fbe9
set_option maxHeartbeats 2000000
set_option linter.all false
/- Laws of strings.Trim, where what is cut off are ASCII bytes, more than one. -/
namespace Go.Pv
open Go Go.Proofs
set_option maxRecDepth 4000
variable {G : Frz}
/-- A set of bytes, as it is laid. -/
def ascL (f : Nat → Bool) : List AV := (List.range 256).map fun i => .bool (f i)
theorem ascL_len (f : Nat → Bool) : (ascL f).length = 256 := by simp [ascL]
theorem ascL_get (f : Nat → Bool) (i : Nat) (h : i < 256) : (ascL f)[i]? = some (.bool (f i)) := by simp [ascL, h]
theorem ascL_take (f : Nat → Bool) : (ascL f).take 256 = ascL f := List.take_of_length_le (by rw [ascL_len]; omega)
theorem ascL_drop (f : Nat → Bool) : (ascL f).drop 256 = [] := List.drop_of_length_le (by rw [ascL_len]; omega)
theorem ascL_weak (f : Nat → Bool) : (ascL f).map weak = ascL f := by simp [ascL, Function.comp_def, weak]
theorem ascL_promW (f : Nat → Bool) : (ascL f).map promW = ascL f := by simp [ascL, Function.comp_def, promW, prom, weak]
theorem ascL_canon0 (f : Nat → Bool) : (ascL f).map canon0 = ascL f := by simp [ascL, Function.comp_def, canon0]
theorem ascL_ren1 (ks : List Nat) (f : Nat → Bool) : (ascL f).map (ren1 ks) = ascL f := by simp [ascL, Function.comp_def, ren1, ren0]
theorem ascL_set (f : Nat → Bool) (i : Nat) (h : i < 256) : (ascL f).take i ++ [AV.bool true] ++ (ascL f).drop (i + 1) = ascL fun j => if j = i then true else f j := by
  apply List.ext_getElem?
  intro j
  have hl : ((ascL f).take i).length = i := by rw [List.length_take, ascL_len]; omega
  by_cases h1 : j < i
  · rw [List.append_assoc, List.getElem?_append_left (by omega), List.getElem?_take_of_lt h1, ascL_get f j (by omega), ascL_get _ j (by omega), if_neg (by omega)]
  · by_cases h2 : j = i
    · subst h2
      rw [List.append_assoc, List.getElem?_append_right (by omega), hl, ascL_get _ j h]
      simp
    · rw [List.getElem?_append_right (by simp [hl]; omega)]
      simp only [List.length_append, hl, List.length_cons, List.length_nil, List.getElem?_drop]
      have : i + 1 + (j - (i + (0 + 1))) = j := by omega
      rw [this]
      by_cases h3 : j < 256
      · rw [ascL_get f j h3, ascL_get _ j h3, if_neg h2]
      · rw [List.getElem?_eq_none (by rw [ascL_len]; omega), List.getElem?_eq_none (by rw [ascL_len]; omega)]
@[go_sem high] theorem z237 : zeroA Tryz.prog 237 = some (ascL fun _ => false) := by rw [tb_z237] <;> rfl
def ascB (f : Nat → Bool) : Blk := .cells 237 (ascL f)
@[go_sem high] theorem renB_asc (ks : List Nat) (f : Nat → Bool) : renB ks (ascB f) = ascB f := by simp [ascB, renB, ascL_ren1]
def IarK (a : Option (Nat × Nat)) (b off : Nat) (n : Int) (F : AV → Prop) : Prop := match a with
  | some (len, sz) => 0 ≤ n ∧ n < len ∧ F (.ptr b (off + n.toNat * sz))
  | none => False
@[go_sem] theorem iarK_some (len sz b off : Nat) (n : Int) (F : AV → Prop) : IarK (some (len, sz)) b off n F = (0 ≤ n ∧ n < len ∧ F (.ptr b (off + n.toNat * sz))) := rfl
@[go_sem] theorem iaddr_ptr (P : Program) (T : TypeId) (b off : Nat) (k : IntKind) (n : Int) (F : AV → Prop) : OptK (iaddrV P T (.ptr b off) (.int k n)) F = IarK (arr P T) b off n F := by
  unfold iaddrV IarK
  cases arr P T with
  | none => rfl
  | some p =>
    obtain ⟨len, sz⟩ := p
    simp only
    by_cases h : 0 ≤ n ∧ n < (len : Int)
    · rw [if_pos h]; simp [h, OptK]
    · rw [if_neg h]
      simp only [OptK, false_iff, eq_iff_iff]
      rintro ⟨h1, h2, _⟩
      exact h ⟨h1, h2⟩
theorem c244 (f : Nat → Bool) (c : UInt8) : RR G 244 [.ptr 0 0, byte c] [ascB f] (.bool (f c.toNat)) [ascB f] := by
  have hc := c.toNat_lt
  have hdl : (0 + c.toNat * 1) = c.toNat := by omega
  have hget : ((ascL f).drop c.toNat)[0]? = some (.bool (f c.toNat)) := by rw [List.getElem?_drop, Nat.add_zero, ascL_get f _ (by omega)]
  unfold ascB
  refine ret_intro Tryz.func244 rfl Tryz.results244 (by decide +kernel) rfl (Nat.le_refl _) rfl (by simp [renB, ascL_ren1]) ?_
  simp -implicitDefEqProofs only [hdl, hget, strLim, lenLim, ne_eq, Nat.reduceLT, Nat.lt_irrefl, Nat.zero_lt_succ, List.getD_cons_zero, Nat.reduceEqDiff, Nat.reduceLeDiff, Nat.reduceAdd, Nat.reduceSub, Int.reduceNe, Int.reduceEq, Int.reduceLE, Int.reduceLT, Int.reduceToNat, Int.reduceNeg, Int.reduceBEq, Int.reduceBNe, reduceCtorEq, go_sem, ↓reduceIte]
  omega
theorem c187 (f : Nat → Bool) (s : Bytes) (hs : s.length ≤ 4611686018427387904) : RR G 187 [.str s, .ptr 0 0] [ascB f] (.str (s.dropWhile fun c => f c.toNat)) [ascB f] := by
  refine ret_intro Tryz.func187 rfl Tryz.results187 (by decide +kernel) rfl (Nat.le_refl _) rfl (by simp [ascB, renB, ascL_ren1]) ?_
  refine wp_mid [(0, .str s), (1, .ptr 0 0)] [ascB f] ?_ fun env ⟨h0, h1, _⟩ => ?_
  · simp -implicitDefEqProofs only [strLim, lenLim, ne_eq, Nat.reduceLT, Nat.lt_irrefl, Nat.zero_lt_succ, List.getD_cons_zero, Nat.reduceEqDiff, Nat.reduceLeDiff, Nat.reduceAdd, Nat.reduceSub, Int.reduceNe, Int.reduceEq, Int.reduceLE, Int.reduceLT, Int.reduceToNat, Int.reduceNeg, Int.reduceBEq, Int.reduceBNe, reduceCtorEq, go_sem, ↓reduceIte]
  refine wp_mid [(0, .str (s.dropWhile fun c => f c.toNat)), (1, .ptr 0 0)] [ascB f] ?_ fun env ⟨h0, h1, _⟩ => ?_
  · rw [wp_block_eq]
    refine wp_loop_use (A := Bytes) (fun u => [(0, .str u), (1, .ptr 0 0)]) (fun _ => [ascB f]) (fun u => u.dropWhile (fun c => f c.toNat) = s.dropWhile (fun c => f c.toNat)) (fun u => u.length) s rfl rfl ⟨h0, h1, trivial⟩ ?_
    intro u hu
    cases u with
    | nil =>
      simp -implicitDefEqProofs only [strLim, lenLim, ne_eq, Nat.reduceLT, Nat.lt_irrefl, Nat.zero_lt_succ, List.getD_cons_zero, Nat.reduceEqDiff, Nat.reduceLeDiff, Nat.reduceAdd, Nat.reduceSub, Int.reduceNe, Int.reduceEq, Int.reduceLE, Int.reduceLT, Int.reduceToNat, Int.reduceNeg, Int.reduceBEq, Int.reduceBNe, reduceCtorEq, go_sem, ↓reduceIte]
      rw [← hu]
      rfl
    | cons c r =>
      simp -implicitDefEqProofs only [List.length_cons, strLim, lenLim, ne_eq, Nat.reduceLT, Nat.lt_irrefl, Nat.zero_lt_succ, List.getD_cons_zero, Nat.reduceEqDiff, Nat.reduceLeDiff, Nat.reduceAdd, Nat.reduceSub, Int.reduceNe, Int.reduceEq, Int.reduceLE, Int.reduceLT, Int.reduceToNat, Int.reduceNeg, Int.reduceBEq, Int.reduceBNe, reduceCtorEq, go_sem, ↓reduceIte]
      refine callW_at [0] [0] (c244 f c) (by simp) rfl rfl rfl rfl rfl ?_
      simp -implicitDefEqProofs only [strLim, lenLim, ne_eq, Nat.reduceLT, Nat.lt_irrefl, Nat.zero_lt_succ, List.getD_cons_zero, Nat.reduceEqDiff, Nat.reduceLeDiff, Nat.reduceAdd, Nat.reduceSub, Int.reduceNe, Int.reduceEq, Int.reduceLE, Int.reduceLT, Int.reduceToNat, Int.reduceNeg, Int.reduceBEq, Int.reduceBNe, reduceCtorEq, go_sem, ↓reduceIte]
      rw [List.dropWhile_cons] at hu
      refine ⟨fun hc => ?_, fun hc => ?_⟩
      · rw [if_pos hc] at hu
        exact ⟨r, ⟨hu, by omega⟩, by rw [List.take_length]⟩
      · rw [if_neg (by simp [hc])] at hu
        rw [hu]
  simp -implicitDefEqProofs only [h0, strLim, lenLim, ne_eq, Nat.reduceLT, Nat.lt_irrefl, Nat.zero_lt_succ, List.getD_cons_zero, Nat.reduceEqDiff, Nat.reduceLeDiff, Nat.reduceAdd, Nat.reduceSub, Int.reduceNe, Int.reduceEq, Int.reduceLE, Int.reduceLT, Int.reduceToNat, Int.reduceNeg, Int.reduceBEq, Int.reduceBNe, reduceCtorEq, go_sem, ↓reduceIte]
/-- Without the bytes of a set at the end. -/
def rdrop (g : UInt8 → Bool) (s : Bytes) : Bytes := (s.reverse.dropWhile g).reverse
theorem rdrop_snoc (g : UInt8 → Bool) (r : Bytes) (c : UInt8) : rdrop g (r ++ [c]) = if g c = true then rdrop g r else r ++ [c] := by
  unfold rdrop
  rw [List.reverse_append, List.reverse_singleton, List.singleton_append, List.dropWhile_cons]
  split
  · rfl
  · simp
theorem rdrop_len (g : UInt8 → Bool) (s : Bytes) : (rdrop g s).length ≤ s.length := by
  unfold rdrop
  have := dropWhile_len g s.reverse
  simp only [List.length_reverse] at this ⊢
  omega
theorem c188 (f : Nat → Bool) (s : Bytes) (hs : s.length ≤ 4611686018427387904) : RR G 188 [.str s, .ptr 0 0] [ascB f] (.str (rdrop (fun c => f c.toNat) s)) [ascB f] := by
  refine ret_intro Tryz.func188 rfl Tryz.results188 (by decide +kernel) rfl (Nat.le_refl _) rfl (by simp [ascB, renB, ascL_ren1]) ?_
  refine wp_mid [(0, .str s), (1, .ptr 0 0)] [ascB f] ?_ fun env ⟨h0, h1, _⟩ => ?_
  · simp -implicitDefEqProofs only [strLim, lenLim, ne_eq, Nat.reduceLT, Nat.lt_irrefl, Nat.zero_lt_succ, List.getD_cons_zero, Nat.reduceEqDiff, Nat.reduceLeDiff, Nat.reduceAdd, Nat.reduceSub, Int.reduceNe, Int.reduceEq, Int.reduceLE, Int.reduceLT, Int.reduceToNat, Int.reduceNeg, Int.reduceBEq, Int.reduceBNe, reduceCtorEq, go_sem, ↓reduceIte]
  refine wp_mid [(0, .str (rdrop (fun c => f c.toNat) s)), (1, .ptr 0 0)] [ascB f] ?_ fun env ⟨h0, h1, _⟩ => ?_
  · rw [wp_block_eq]
    refine wp_loop_use (A := Bytes) (fun u => [(0, .str u), (1, .ptr 0 0)]) (fun _ => [ascB f]) (fun u => u.length ≤ 4611686018427387904 ∧ rdrop (fun c => f c.toNat) u = rdrop (fun c => f c.toNat) s) (fun u => u.length) s ⟨hs, rfl⟩ rfl ⟨h0, h1, trivial⟩ ?_
    rintro u ⟨hul, hu⟩
    rcases List.eq_nil_or_concat u with rfl | ⟨r, c, rfl⟩
    · simp -implicitDefEqProofs only [strLim, lenLim, ne_eq, Nat.reduceLT, Nat.lt_irrefl, Nat.zero_lt_succ, List.getD_cons_zero, Nat.reduceEqDiff, Nat.reduceLeDiff, Nat.reduceAdd, Nat.reduceSub, Int.reduceNe, Int.reduceEq, Int.reduceLE, Int.reduceLT, Int.reduceToNat, Int.reduceNeg, Int.reduceBEq, Int.reduceBNe, reduceCtorEq, go_sem, ↓reduceIte]
      rw [← hu] <;> rfl
    · rw [List.concat_eq_append] at hul hu ⊢
      rw [List.length_append, List.length_singleton] at hul
      rw [rdrop_snoc] at hu
      have hw : IntKind.i64.wrap (((r.length + 1 : Nat) : Int) - 1) = (r.length : Int) := by rw [IntKind.wrap_i64]; omega
      have hg : (r ++ [c]).getD r.length 0 = c := by simp
      have hlt : (r.length < r.length + 1) = True := by simp
      have hle : (r.length ≤ r.length + 1) = True := by simp
      have htk : (r ++ [c]).take r.length = r := by simp
      simp -implicitDefEqProofs only [List.length_append, hw, hg, hlt, hle, htk, strLim, lenLim, ne_eq, Nat.reduceLT, Nat.lt_irrefl, Nat.zero_lt_succ, List.getD_cons_zero, Nat.reduceEqDiff, Nat.reduceLeDiff, Nat.reduceAdd, Nat.reduceSub, Int.reduceNe, Int.reduceEq, Int.reduceLE, Int.reduceLT, Int.reduceToNat, Int.reduceNeg, Int.reduceBEq, Int.reduceBNe, reduceCtorEq, go_sem, ↓reduceIte]
      refine callW_at [0] [0] (c244 f c) (by simp) rfl rfl rfl rfl rfl ?_
      simp -implicitDefEqProofs only [List.length_append, hw, hg, hlt, hle, htk, strLim, lenLim, ne_eq, Nat.reduceLT, Nat.lt_irrefl, Nat.zero_lt_succ, List.getD_cons_zero, Nat.reduceEqDiff, Nat.reduceLeDiff, Nat.reduceAdd, Nat.reduceSub, Int.reduceNe, Int.reduceEq, Int.reduceLE, Int.reduceLT, Int.reduceToNat, Int.reduceNeg, Int.reduceBEq, Int.reduceBNe, reduceCtorEq, go_sem, ↓reduceIte]
      refine ⟨fun hc => ?_, fun hc => ?_⟩
      · rw [if_pos hc] at hu
        exact ⟨r, ⟨⟨by omega, hu⟩, by omega⟩, rfl⟩
      · rw [if_neg (by simp [hc])] at hu
        rw [hu]
  simp -implicitDefEqProofs only [h0, strLim, lenLim, ne_eq, Nat.reduceLT, Nat.lt_irrefl, Nat.zero_lt_succ, List.getD_cons_zero, Nat.reduceEqDiff, Nat.reduceLeDiff, Nat.reduceAdd, Nat.reduceSub, Int.reduceNe, Int.reduceEq, Int.reduceLE, Int.reduceLT, Int.reduceToNat, Int.reduceNeg, Int.reduceBEq, Int.reduceBNe, reduceCtorEq, go_sem, ↓reduceIte]
theorem c186 (s : Bytes) (hs : s.length ≤ 4611686018427387904) (h128 : ∀ c ∈ s, c.toNat < 128) : RR G 186 [.str s] [] (.tup [.agg (ascL fun i => s.any fun c => c.toNat == i), .bool true]) [] := by
  refine ret_intro Tryz.func186 rfl Tryz.results186 (by decide +kernel) rfl (Nat.le_refl _) rfl (by simp) ?_
  refine wp_mid [(0, .str s), (2, .ptr 0 0)] [ascB fun _ => false] ?_ fun env ⟨h0, h2, _⟩ => ?_
  · simp -implicitDefEqProofs only [ascL_promW, ascB, strLim, lenLim, ne_eq, Nat.reduceLT, Nat.lt_irrefl, Nat.zero_lt_succ, List.getD_cons_zero, Nat.reduceEqDiff, Nat.reduceLeDiff, Nat.reduceAdd, Nat.reduceSub, Int.reduceNe, Int.reduceEq, Int.reduceLE, Int.reduceLT, Int.reduceToNat, Int.reduceNeg, Int.reduceBEq, Int.reduceBNe, reduceCtorEq, go_sem, ↓reduceIte]
  refine wp_mid [(2, .ptr 0 0)] [ascB fun i => s.any fun c => c.toNat == i] ?_ fun env ⟨h2, _⟩ => ?_
  · refine wp_mid [(0, .str s), (2, .ptr 0 0), (4, i64 (0 : Nat))] [ascB fun _ => false] ?_ fun env ⟨h0, h2, h4, _⟩ => ?_
    · simp -implicitDefEqProofs only [h0, h2, strLim, lenLim, ne_eq, Nat.reduceLT, Nat.lt_irrefl, Nat.zero_lt_succ, List.getD_cons_zero, Nat.reduceEqDiff, Nat.reduceLeDiff, Nat.reduceAdd, Nat.reduceSub, Int.reduceNe, Int.reduceEq, Int.reduceLE, Int.reduceLT, Int.reduceToNat, Int.reduceNeg, Int.reduceBEq, Int.reduceBNe, reduceCtorEq, go_sem, ↓reduceIte]
      rfl
    rw [wp_block_eq]
    refine wp_loop_use (A := Nat) (fun k => [(0, .str s), (2, .ptr 0 0), (4, i64 k)]) (fun k => [ascB fun i => (s.take k).any fun c => c.toNat == i]) (fun k => k ≤ s.length) (fun k => s.length - k) 0 (Nat.zero_le _) rfl ⟨h0, h2, h4, trivial⟩ ?_
    intro k hk
    by_cases hlt : k < s.length
    · have hc := h128 _ (List.getElem_mem hlt)
      have hgc : s.getD k 0 = s[k] := by simp [hlt]
      have htk : s.take (k + 1) = s.take k ++ [s[k]] := by rw [List.take_add_one]; simp [hlt]
      have hkw : k < 9223372036854775807 := by omega
      generalize s[k] = c at *
      have hc1 : (128 ≤ (c.toNat : Int)) = False := by simp; omega
      have hc2 : ((c.toNat : Int) < ((256 : Nat) : Int)) = True := by simp; omega
      have hset := ascL_set (fun i => (s.take k).any fun c => c.toNat == i) c.toNat (by omega)
      have hdl : (0 + c.toNat * 1) = c.toNat := by omega
      simp -implicitDefEqProofs only [hlt, hgc, hkw, wrap_cast_succ, ascB, hc1, hc2, hdl, ascL_len, hset, strLim, lenLim, ne_eq, Nat.reduceLT, Nat.lt_irrefl, Nat.zero_lt_succ, List.getD_cons_zero, Nat.reduceEqDiff, Nat.reduceLeDiff, Nat.reduceAdd, Nat.reduceSub, Int.reduceNe, Int.reduceEq, Int.reduceLE, Int.reduceLT, Int.reduceToNat, Int.reduceNeg, Int.reduceBEq, Int.reduceBNe, reduceCtorEq, go_sem, ↓reduceIte]
      rw [if_pos (by omega)]
      refine ⟨k + 1, ⟨by omega, by omega⟩, ?_, rfl⟩
      rw [htk]
      congr 3
      funext j
      rw [List.any_append]
      by_cases hj : j = c.toNat
      · simp [hj]
      · have : (c.toNat == j) = false := by simp; omega
        simp [hj, this]
    · have : k = s.length := by omega
      subst this
      simp -implicitDefEqProofs only [hlt, List.take_length, strLim, lenLim, ne_eq, Nat.reduceLT, Nat.lt_irrefl, Nat.zero_lt_succ, List.getD_cons_zero, Nat.reduceEqDiff, Nat.reduceLeDiff, Nat.reduceAdd, Nat.reduceSub, Int.reduceNe, Int.reduceEq, Int.reduceLE, Int.reduceLT, Int.reduceToNat, Int.reduceNeg, Int.reduceBEq, Int.reduceBNe, reduceCtorEq, go_sem, ↓reduceIte]
  simp -implicitDefEqProofs only [h2, ascB, ascL_len, ascL_take, ascL_weak, ascL_canon0, ascL_promW, ascL_drop, List.append_nil, strLim, lenLim, ne_eq, Nat.reduceLT, Nat.lt_irrefl, Nat.zero_lt_succ, List.getD_cons_zero, Nat.reduceEqDiff, Nat.reduceLeDiff, Nat.reduceAdd, Nat.reduceSub, Int.reduceNe, Int.reduceEq, Int.reduceLE, Int.reduceLT, Int.reduceToNat, Int.reduceNeg, Int.reduceBEq, Int.reduceBNe, reduceCtorEq, go_sem, ↓reduceIte]
/-- Without the bytes of a set at both ends. -/
def trimG (g : UInt8 → Bool) (s : Bytes) : Bytes := (rdrop g s).dropWhile g
theorem dw_nil (g : UInt8 → Bool) (s : Bytes) : s.dropWhile g = [] ↔ s.all g = true := by
  induction s with
  | nil => simp
  | cons c r ih =>
    rw [List.dropWhile_cons, List.all_cons]
    cases hg : g c <;> simp [ih]
theorem trimG_nil (g : UInt8 → Bool) (s : Bytes) : trimG g s = [] ↔ s.all g = true := by
  unfold trimG
  rw [dw_nil]
  constructor
  · intro h
    have hr : rdrop g s = [] := by
      unfold rdrop at h ⊢
      cases hd : s.reverse.dropWhile g with
      | nil => rfl
      | cons c r =>
        rw [hd, List.reverse_cons, List.all_append] at h
        simp only [List.all_cons, List.all_nil, Bool.and_true, Bool.and_eq_true] at h
        have := List.head_dropWhile_not g (l := s.reverse) (by rw [hd]; simp)
        simp only [hd, List.head_cons] at this
        rw [h.2] at this
        cases this
    unfold rdrop at hr
    rw [List.reverse_eq_nil_iff, dw_nil, List.all_reverse] at hr
    exact hr
  · intro h
    have : s.reverse.dropWhile g = [] := by rw [dw_nil, List.all_reverse]; exact h
    simp [rdrop, this]
theorem c118 (s set : Bytes) (hs : s.length ≤ 4611686018427387904) (h0 : s ≠ []) (h1 : 1 < set.length) (h2 : set.length ≤ 4611686018427387904) (h128 : ∀ c ∈ set, c.toNat < 128) : RR G 118 [.str s, .str set] [] (.str (trimG (fun c => set.any fun d => d.toNat == c.toNat) s)) [] := by
  have hset : set ≠ [] := fun e => by rw [e] at h1; cases h1
  have hne : ¬ set.length = 1 := by omega
  refine ret_intro Tryz.func118 rfl Tryz.results118 (by decide +kernel) rfl (Nat.le_refl _) rfl (by simp) ?_
  refine wp_mid [(0, .str s), (1, .str set)] [] ?_ fun env ⟨h0', h1', _⟩ => ?_
  · simp -implicitDefEqProofs only [strLim, lenLim, ne_eq, Nat.reduceLT, Nat.lt_irrefl, Nat.zero_lt_succ, List.getD_cons_zero, Nat.reduceEqDiff, Nat.reduceLeDiff, Nat.reduceAdd, Nat.reduceSub, Int.reduceNe, Int.reduceEq, Int.reduceLE, Int.reduceLT, Int.reduceToNat, Int.reduceNeg, Int.reduceBEq, Int.reduceBNe, reduceCtorEq, go_sem, ↓reduceIte]
  refine wp_mid [(0, .str s), (1, .str set)] [] ?_ fun env ⟨h0', h1', _⟩ => ?_
  · simp -implicitDefEqProofs only [h0', h1', h0, hset, strLim, lenLim, ne_eq, Nat.reduceLT, Nat.lt_irrefl, Nat.zero_lt_succ, List.getD_cons_zero, Nat.reduceEqDiff, Nat.reduceLeDiff, Nat.reduceAdd, Nat.reduceSub, Int.reduceNe, Int.reduceEq, Int.reduceLE, Int.reduceLT, Int.reduceToNat, Int.reduceNeg, Int.reduceBEq, Int.reduceBNe, reduceCtorEq, go_sem, ↓reduceIte]
  refine wp_mid [(0, .str s), (1, .str set)] [] ?_ fun env ⟨h0', h1', _⟩ => ?_
  · simp -implicitDefEqProofs only [h0', h1', hne, strLim, lenLim, ne_eq, Nat.reduceLT, Nat.lt_irrefl, Nat.zero_lt_succ, List.getD_cons_zero, Nat.reduceEqDiff, Nat.reduceLeDiff, Nat.reduceAdd, Nat.reduceSub, Int.reduceNe, Int.reduceEq, Int.reduceLE, Int.reduceLT, Int.reduceToNat, Int.reduceNeg, Int.reduceBEq, Int.reduceBNe, reduceCtorEq, go_sem, ↓reduceIte]
  simp -implicitDefEqProofs only [h0', h1', strLim, lenLim, ne_eq, Nat.reduceLT, Nat.lt_irrefl, Nat.zero_lt_succ, List.getD_cons_zero, Nat.reduceEqDiff, Nat.reduceLeDiff, Nat.reduceAdd, Nat.reduceSub, Int.reduceNe, Int.reduceEq, Int.reduceLE, Int.reduceLT, Int.reduceToNat, Int.reduceNeg, Int.reduceBEq, Int.reduceBNe, reduceCtorEq, go_sem, ↓reduceIte]
  refine callW_pure (c186 set h2 h128) rfl rfl ?_
  simp -implicitDefEqProofs only [h0', h1', ascL_canon0, ascL_len, strLim, lenLim, ne_eq, Nat.reduceLT, Nat.lt_irrefl, Nat.zero_lt_succ, List.getD_cons_zero, Nat.reduceEqDiff, Nat.reduceLeDiff, Nat.reduceAdd, Nat.reduceSub, Int.reduceNe, Int.reduceEq, Int.reduceLE, Int.reduceLT, Int.reduceToNat, Int.reduceNeg, Int.reduceBEq, Int.reduceBNe, reduceCtorEq, go_sem, ↓reduceIte]
  refine callW_at [0] [0] (c188 (fun i => set.any fun c => c.toNat == i) s hs) (by simp) rfl rfl rfl rfl rfl ?_
  simp -implicitDefEqProofs only [strLim, lenLim, ne_eq, Nat.reduceLT, Nat.lt_irrefl, Nat.zero_lt_succ, List.getD_cons_zero, Nat.reduceEqDiff, Nat.reduceLeDiff, Nat.reduceAdd, Nat.reduceSub, Int.reduceNe, Int.reduceEq, Int.reduceLE, Int.reduceLT, Int.reduceToNat, Int.reduceNeg, Int.reduceBEq, Int.reduceBNe, reduceCtorEq, go_sem, ↓reduceIte]
  refine callW_at [0] [0] (c187 (fun i => set.any fun c => c.toNat == i) (rdrop (fun c => set.any fun d => d.toNat == c.toNat) s) (by have := rdrop_len (fun c => set.any fun d => d.toNat == c.toNat) s; omega)) (by simp) rfl rfl rfl rfl rfl ?_
  simp -implicitDefEqProofs only [strLim, lenLim, ne_eq, Nat.reduceLT, Nat.lt_irrefl, Nat.zero_lt_succ, List.getD_cons_zero, Nat.reduceEqDiff, Nat.reduceLeDiff, Nat.reduceAdd, Nat.reduceSub, Int.reduceNe, Int.reduceEq, Int.reduceLE, Int.reduceLT, Int.reduceToNat, Int.reduceNeg, Int.reduceBEq, Int.reduceBNe, reduceCtorEq, go_sem, ↓reduceIte]
  rfl
def withL : Bytes := [97, 98, 99, 100, 101, 102, 103, 104, 105, 106, 107, 108, 109, 110, 111, 112, 113, 114, 115, 116, 117, 118, 119, 120, 121, 122, 48, 49, 50, 51, 52, 53, 54, 55, 56, 57, 95]
theorem withL_any : (fun c : UInt8 => withL.any fun d => d.toNat == c.toNat) = within := by
  funext c
  have h : ∀ n : Fin 256, (withL.any fun d => d.toNat == (UInt8.ofNat n.val).toNat) = within (UInt8.ofNat n.val) := by decide +kernel
  have := h ⟨c.toNat, c.toNat_lt⟩
  simpa using this
theorem lowL_idx (c : UInt8) : (0 ≤ idxB lowL c) = (letter c = true) := by
  have h : ∀ n : Fin 256, decide (0 ≤ idxB lowL (UInt8.ofNat n.val)) = letter (UInt8.ofNat n.val) := by decide +kernel
  have := h ⟨c.toNat, c.toNat_lt⟩
  simp only [UInt8.ofNat_toNat] at this
  rw [eq_iff_iff, ← this]
  simp
theorem c46 (w : Bytes) (hw : w.length ≤ 2147483000) : RR G 46 [.str w, .str lowL] [] (.bool (wordB w)) [] := by
  cases w with
  | nil =>
    refine ret_intro Tryz.func46 rfl Tryz.results46 (by decide +kernel) rfl (Nat.le_refl _) rfl (by simp) ?_
    simp -implicitDefEqProofs only [strLim, lenLim, ne_eq, Nat.reduceLT, Nat.lt_irrefl, Nat.zero_lt_succ, List.getD_cons_zero, Nat.reduceEqDiff, Nat.reduceLeDiff, Nat.reduceAdd, Nat.reduceSub, Int.reduceNe, Int.reduceEq, Int.reduceLE, Int.reduceLT, Int.reduceToNat, Int.reduceNeg, Int.reduceBEq, Int.reduceBNe, reduceCtorEq, go_sem, ↓reduceIte]
    rfl
  | cons c r =>
    have ht := c118 (G := G) (c :: r) withL (by omega) (by simp) (by decide) (by decide) (by decide)
    rw [withL_any] at ht
    have hl := lowL_idx c
    unfold withL at ht
    have hne : ¬ (c :: r) = ([] : Bytes) := by simp
    refine ret_intro Tryz.func46 rfl Tryz.results46 (by decide +kernel) rfl (Nat.le_refl _) rfl (by simp) ?_
    simp -implicitDefEqProofs only [strLim, lenLim, ne_eq, Nat.reduceLT, Nat.lt_irrefl, Nat.zero_lt_succ, List.getD_cons_zero, Nat.reduceEqDiff, Nat.reduceLeDiff, Nat.reduceAdd, Nat.reduceSub, Int.reduceNe, Int.reduceEq, Int.reduceLE, Int.reduceLT, Int.reduceToNat, Int.reduceNeg, Int.reduceBEq, Int.reduceBNe, reduceCtorEq, go_sem, ↓reduceIte]
    refine callW_pure (c117 lowL c) rfl rfl ?_
    simp -implicitDefEqProofs only [hl, strLim, lenLim, ne_eq, Nat.reduceLT, Nat.lt_irrefl, Nat.zero_lt_succ, List.getD_cons_zero, Nat.reduceEqDiff, Nat.reduceLeDiff, Nat.reduceAdd, Nat.reduceSub, Int.reduceNe, Int.reduceEq, Int.reduceLE, Int.reduceLT, Int.reduceToNat, Int.reduceNeg, Int.reduceBEq, Int.reduceBNe, reduceCtorEq, go_sem, ↓reduceIte]
    refine ⟨fun h => ?_, fun h => ?_⟩
    · refine callW_pure ht rfl rfl ?_
      simp -implicitDefEqProofs only [strLim, lenLim, ne_eq, Nat.reduceLT, Nat.lt_irrefl, Nat.zero_lt_succ, List.getD_cons_zero, Nat.reduceEqDiff, Nat.reduceLeDiff, Nat.reduceAdd, Nat.reduceSub, Int.reduceNe, Int.reduceEq, Int.reduceLE, Int.reduceLT, Int.reduceToNat, Int.reduceNeg, Int.reduceBEq, Int.reduceBNe, reduceCtorEq, go_sem, ↓reduceIte]
      have hb : (trimG within (c :: r) == []) = (c :: r).all within := by
        rw [Bool.eq_iff_iff, beq_iff_eq, trimG_nil]
      rw [hb]
      simp only [wordB, h, Bool.true_and]
    · simp [wordB, h]
/-! ### Numbers, printed -/
theorem dec_len : ∀ (k n : Nat), n < 10 ^ (k + 1) → (Lib.decDigits n).length ≤ k + 1
  | 0, n, h => by
    rw [Lib.decDigits, dif_pos (by omega)]
    simp
  | k + 1, n, h => by
    rw [Lib.decDigits]
    split
    · simp
    · have := dec_len k (n / 10) (by rw [Nat.pow_succ] at h; omega)
      rw [List.length_append, List.length_singleton]
      omega
theorem dec_len19 (n : Nat) (hn : n < 9223372036854775808) : (Lib.decDigits n).length ≤ 19 := dec_len 18 n (by omega)
theorem c53 (n : Nat) (hn : n < 9223372036854775808) : RR G 53 [i64 n] [] (.str (Lib.decDigits n)) [] := by
  have hlen := dec_len19 n hn
  refine ret_intro Tryz.func53 rfl Tryz.results53 (by decide +kernel) rfl (Nat.le_refl _) rfl (by simp) ?_
  refine wp_mid [(0, i64 n)] [] ?_ fun env ⟨h0, _⟩ => ?_
  · simp -implicitDefEqProofs only [strLim, lenLim, ne_eq, Nat.reduceLT, Nat.lt_irrefl, Nat.zero_lt_succ, List.getD_cons_zero, Nat.reduceEqDiff, Nat.reduceLeDiff, Nat.reduceAdd, Nat.reduceSub, Int.reduceNe, Int.reduceEq, Int.reduceLE, Int.reduceLT, Int.reduceToNat, Int.reduceNeg, Int.reduceBEq, Int.reduceBNe, reduceCtorEq, go_sem, ↓reduceIte]
  have hmag : mag (n : Int) = (n : Int) := by unfold mag; rw [if_neg (by omega)]
  refine wp_mid [(0, i64 n), (3, .int .u64 (n : Nat))] [] ?_ fun env ⟨h0, h3, _⟩ => ?_
  · simp -implicitDefEqProofs only [h0, strLim, lenLim, ne_eq, Nat.reduceLT, Nat.lt_irrefl, Nat.zero_lt_succ, List.getD_cons_zero, Nat.reduceEqDiff, Nat.reduceLeDiff, Nat.reduceAdd, Nat.reduceSub, Int.reduceNe, Int.reduceEq, Int.reduceLE, Int.reduceLT, Int.reduceToNat, Int.reduceNeg, Int.reduceBEq, Int.reduceBNe, reduceCtorEq, go_sem, ↓reduceIte]
    refine callW_pure (c127 (n : Int) (by omega)) rfl rfl ?_
    simp -implicitDefEqProofs only [h0, hmag, strLim, lenLim, ne_eq, Nat.reduceLT, Nat.lt_irrefl, Nat.zero_lt_succ, List.getD_cons_zero, Nat.reduceEqDiff, Nat.reduceLeDiff, Nat.reduceAdd, Nat.reduceSub, Int.reduceNe, Int.reduceEq, Int.reduceLE, Int.reduceLT, Int.reduceToNat, Int.reduceNeg, Int.reduceBEq, Int.reduceBNe, reduceCtorEq, go_sem, ↓reduceIte]
  refine wp_mid [(0, i64 n), (3, .int .u64 (n : Nat)), (4, .str [])] [] ?_ fun env ⟨h0, h3, h4, _⟩ => ?_
  · simp -implicitDefEqProofs only [h0, h3, strLim, lenLim, ne_eq, Nat.reduceLT, Nat.lt_irrefl, Nat.zero_lt_succ, List.getD_cons_zero, Nat.reduceEqDiff, Nat.reduceLeDiff, Nat.reduceAdd, Nat.reduceSub, Int.reduceNe, Int.reduceEq, Int.reduceLE, Int.reduceLT, Int.reduceToNat, Int.reduceNeg, Int.reduceBEq, Int.reduceBNe, reduceCtorEq, go_sem, ↓reduceIte]
  have key (m : Nat) (hm : m ≤ n) : IntKind.u64.wrap ((m : Int).tdiv 10) = ((m / 10 : Nat) : Int) ∧ IntKind.u8.wrap (IntKind.u64.wrap (48 + (m : Int).tmod 10)) = ((48 + m % 10 : Nat) : Int) := by
    have h1 : (m : Int).tdiv 10 = ((m / 10 : Nat) : Int) := (Int.ofNat_tdiv _ _).symm
    have h2 : (m : Int).tmod 10 = ((m % 10 : Nat) : Int) := (Int.ofNat_tmod _ _).symm
    rw [h1, h2, IntKind.wrap_u64, IntKind.wrap_u64, IntKind.wrap_u8]
    omega
  refine wp_ghost (A := Nat × Bytes) (fun x => x.1 < 10 ∧ x.1 ≤ n ∧ Lib.decDigits x.1 ++ x.2 = Lib.decDigits n) (fun _ => []) (fun x => [(0, i64 n), (3, .int .u64 (x.1 : Nat)), (4, .str x.2)]) ?_ fun x hx env ⟨h0, h3, h4, _⟩ => ?_
  · rw [wp_block_eq]
    refine wp_loop_use (A := Nat × Bytes) (fun x => [(0, i64 n), (3, .int .u64 (x.1 : Nat)), (4, .str x.2)]) (fun _ => []) (fun x => x.1 ≤ n ∧ Lib.decDigits x.1 ++ x.2 = Lib.decDigits n) (fun x => x.1) (n, []) ⟨Nat.le_refl _, by simp⟩ rfl ⟨h0, h3, h4, trivial⟩ ?_
    rintro ⟨m, out⟩ ⟨hm, hd⟩
    simp only at hm hd
    obtain ⟨k1, k2⟩ := key m hm
    have hol : out.length ≤ 19 := by rw [← hd, List.length_append] at hlen; omega
    simp -implicitDefEqProofs only [k1, k2, strLim, lenLim, ne_eq, Nat.reduceLT, Nat.lt_irrefl, Nat.zero_lt_succ, List.getD_cons_zero, Nat.reduceEqDiff, Nat.reduceLeDiff, Nat.reduceAdd, Nat.reduceSub, Int.reduceNe, Int.reduceEq, Int.reduceLE, Int.reduceLT, Int.reduceToNat, Int.reduceNeg, Int.reduceBEq, Int.reduceBNe, reduceCtorEq, go_sem, ↓reduceIte]
    refine ⟨fun h10 => ⟨by omega, (m / 10, UInt8.ofNat (48 + m % 10) :: out), ⟨⟨by simp only; omega, ?_⟩, by simp only; omega⟩, rfl, rfl⟩, fun h10 => ⟨(m, out), ⟨by simp only; omega, hm, hd⟩, rfl, rfl⟩⟩
    rw [← hd, Lib.decDigits.eq_def m, dif_neg (by omega)]
    simp
  obtain ⟨m, out⟩ := x
  obtain ⟨h10, hm, hd⟩ := hx
  simp only at h10 hm hd h3 h4
  have hol : out.length ≤ 19 := by rw [← hd, List.length_append] at hlen; omega
  have k3 : IntKind.u8.wrap (IntKind.u64.wrap (48 + (m : Int))) = ((48 + m : Nat) : Int) := by rw [IntKind.wrap_u64, IntKind.wrap_u8]; omega
  have hneg : ((n : Int) < 0) = False := by simp
  simp -implicitDefEqProofs only [h0, h3, h4, k3, hneg, strLim, lenLim, ne_eq, Nat.reduceLT, Nat.lt_irrefl, Nat.zero_lt_succ, List.getD_cons_zero, Nat.reduceEqDiff, Nat.reduceLeDiff, Nat.reduceAdd, Nat.reduceSub, Int.reduceNe, Int.reduceEq, Int.reduceLE, Int.reduceLT, Int.reduceToNat, Int.reduceNeg, Int.reduceBEq, Int.reduceBNe, reduceCtorEq, go_sem, ↓reduceIte]
  rw [← hd, Lib.decDigits.eq_def m, dif_pos h10]
  exact ⟨by omega, rfl⟩
end Go.Pv
/- Laws of the functions under TokenBack: small, same, the reference's Text and Join. -/
namespace Go.Pv
open Go Go.Proofs
set_option maxRecDepth 4000
variable {G : Frz}
@[go_sem] theorem iaddr_zero (P : Program) (T : TypeId) (o : Ow) (sz : SlT) (x : AV) (r : List AV) (k : IntKind) (F : AV → Prop) : OptK (iaddrV P T (.sl o sz (x :: r)) (.int k 0)) F = (esz P T = some sz ∧ F (.ref x.cells)) := by
  unfold iaddrV
  by_cases h : esz P T = some sz
  · simp [h, OptK]
  · simp [h, OptK]
def smallP (p : Part) : Bool := decide (p.1.length ≤ 60) && decide (p.2.length ≤ 60)
def smallK (t : ZTok) : Bool := decide (t.word.length ≤ 60) && (decide (t.parts.length ≤ 6) && t.parts.all smallP)
def smallT (ts : List ZTok) : Bool := decide (ts.length ≤ 30) && ts.all smallK
def zTB (t : ZTok) : Blk := .cells 32 [i64 t.kind, .str t.word, i64 t.n, partsA t.parts, i64 t.at']
theorem renB_zT (ks : List Nat) (t : ZTok) : renB ks (zTB t) = zTB t := rfl
theorem all_take {A : Type} (p : A → Bool) (l : List A) (i : Nat) (h : i < l.length) : (l.take (i + 1)).all p = ((l.take i).all p && p l[i]) := by
  rw [List.take_add_one, List.all_append]
  simp [h]
theorem c13 (ts : List ZTok) : RR G 13 [.sl .no ⟨5, 32⟩ (ts.map zA)] [] (.bool (smallT ts)) [] := by
  refine ret_intro Tryz.func13 rfl Tryz.results13 (by decide +kernel) rfl (Nat.le_refl _) rfl (by simp) ?_
  refine wp_mid [(0, .sl .no ⟨5, 32⟩ (ts.map zA))] [] ?_ fun env ⟨h0, _⟩ => ?_
  · simp -implicitDefEqProofs only [strLim, lenLim, ne_eq, Nat.reduceLT, Nat.lt_irrefl, Nat.zero_lt_succ, List.getD_cons_zero, Nat.reduceEqDiff, Nat.reduceLeDiff, Nat.reduceAdd, Nat.reduceSub, Int.reduceNe, Int.reduceEq, Int.reduceLE, Int.reduceLT, Int.reduceToNat, Int.reduceNeg, Int.reduceBEq, Int.reduceBNe, reduceCtorEq, go_sem, ↓reduceIte]
  by_cases h30 : 30 < ts.length
  · have : smallT ts = false := by simp only [smallT, decide_eq_false (show ¬ ts.length ≤ 30 by omega), Bool.false_and]
    rw [this]
    simp -implicitDefEqProofs only [h0, List.length_map, h30, strLim, lenLim, ne_eq, Nat.reduceLT, Nat.lt_irrefl, Nat.zero_lt_succ, List.getD_cons_zero, Nat.reduceEqDiff, Nat.reduceLeDiff, Nat.reduceAdd, Nat.reduceSub, Int.reduceNe, Int.reduceEq, Int.reduceLE, Int.reduceLT, Int.reduceToNat, Int.reduceNeg, Int.reduceBEq, Int.reduceBNe, reduceCtorEq, go_sem, ↓reduceIte]
  refine wp_mid [(0, .sl .no ⟨5, 32⟩ (ts.map zA))] [] ?_ fun env ⟨h0, _⟩ => ?_
  · simp -implicitDefEqProofs only [h0, List.length_map, h30, strLim, lenLim, ne_eq, Nat.reduceLT, Nat.lt_irrefl, Nat.zero_lt_succ, List.getD_cons_zero, Nat.reduceEqDiff, Nat.reduceLeDiff, Nat.reduceAdd, Nat.reduceSub, Int.reduceNe, Int.reduceEq, Int.reduceLE, Int.reduceLT, Int.reduceToNat, Int.reduceNeg, Int.reduceBEq, Int.reduceBNe, reduceCtorEq, go_sem, ↓reduceIte]
  have hT : smallT ts = ts.all smallK := by simp only [smallT, decide_eq_true (show ts.length ≤ 30 by omega), Bool.true_and]
  refine wp_ghost (A := List Blk) (fun _ => ts.all smallK = true) (fun z => z) (fun _ => []) ?_ fun z hz env _ => ?_
  · refine wp_mid [(10, .sl .no ⟨5, 32⟩ (ts.map zA)), (11, i64 ts.length), (12, i64 (0 : Nat))] [] ?_ fun env ⟨h10, h11, h12, _⟩ => ?_
    · simp -implicitDefEqProofs only [h0, List.length_map, strLim, lenLim, ne_eq, Nat.reduceLT, Nat.lt_irrefl, Nat.zero_lt_succ, List.getD_cons_zero, Nat.reduceEqDiff, Nat.reduceLeDiff, Nat.reduceAdd, Nat.reduceSub, Int.reduceNe, Int.reduceEq, Int.reduceLE, Int.reduceLT, Int.reduceToNat, Int.reduceNeg, Int.reduceBEq, Int.reduceBNe, reduceCtorEq, go_sem, ↓reduceIte]
      rfl
    rw [wp_block_eq]
    refine wp_loop_garb (A := Nat) (fun i => [(10, .sl .no ⟨5, 32⟩ (ts.map zA)), (11, i64 ts.length), (12, i64 i)]) (fun _ => []) (fun i => i ≤ ts.length ∧ (ts.take i).all smallK = true) (fun i => ts.length - i) 0 ⟨Nat.zero_le _, rfl⟩ rfl ⟨h10, h11, h12, trivial⟩ ?_ ?_
    · intro x hx
      exact ⟨Nat.zero_le _, by simp, by simp [ren, ren2, ren1, ren0]⟩
    rintro i ⟨hi, hp⟩
    by_cases hlt : i < ts.length
    · have hg : ts.getD i default = ts[i] := by simp [hlt]
      have hwl : i < 9223372036854775807 := by omega
      have htk := all_take smallK ts i hlt
      rw [hp, Bool.true_and] at htk
      have hbad : smallK ts[i] = false → ts.all smallK = false := fun h => List.all_eq_false.2 ⟨ts[i], List.getElem_mem _, by rw [h]; simp⟩
      generalize ts[i] = t at *
      refine wp_assoc (wp_mid [(10, .sl .no ⟨5, 32⟩ (ts.map zA)), (11, i64 ts.length), (12, i64 i)] [] ?_ fun env ⟨h10, h11, h12, _⟩ => ?_)
      · simp -implicitDefEqProofs only [hlt, strLim, lenLim, ne_eq, Nat.reduceLT, Nat.lt_irrefl, Nat.zero_lt_succ, List.getD_cons_zero, Nat.reduceEqDiff, Nat.reduceLeDiff, Nat.reduceAdd, Nat.reduceSub, Int.reduceNe, Int.reduceEq, Int.reduceLE, Int.reduceLT, Int.reduceToNat, Int.reduceNeg, Int.reduceBEq, Int.reduceBNe, reduceCtorEq, go_sem, ↓reduceIte]
      refine wp_ghost (A := List Blk) (fun _ => smallK t = true) (fun z => z) (fun _ => [(10, .sl .no ⟨5, 32⟩ (ts.map zA)), (11, i64 ts.length), (12, i64 i)]) ?_ fun z hz env ⟨h10, h11, h12, _⟩ => ?_
      · rw [wp_block_eq]
        refine wp_mid [(10, .sl .no ⟨5, 32⟩ (ts.map zA)), (11, i64 ts.length), (12, i64 i), (4, .ptr 0 0)] [zTB t] ?_ fun env ⟨h10, h11, h12, h4, _⟩ => ?_
        · simp -implicitDefEqProofs only [h10, h11, h12, hlt, hg, zA, zTB, partsA, List.length_map, strLim, lenLim, ne_eq, Nat.reduceLT, Nat.lt_irrefl, Nat.zero_lt_succ, List.getD_cons_zero, Nat.reduceEqDiff, Nat.reduceLeDiff, Nat.reduceAdd, Nat.reduceSub, Int.reduceNe, Int.reduceEq, Int.reduceLE, Int.reduceLT, Int.reduceToNat, Int.reduceNeg, Int.reduceBEq, Int.reduceBNe, reduceCtorEq, go_sem, ↓reduceIte]
        refine wp_ghost (A := Unit) (fun _ => t.word.length ≤ 60 ∧ t.parts.length ≤ 6) (fun _ => [zTB t]) (fun _ => [(10, .sl .no ⟨5, 32⟩ (ts.map zA)), (11, i64 ts.length), (12, i64 i), (4, .ptr 0 0)]) ?_ fun _ hb env ⟨h10, h11, h12, h4, _⟩ => ?_
        · simp -implicitDefEqProofs only [h10, h11, h12, h4, zTB, partsA, List.length_map, strLim, lenLim, ne_eq, Nat.reduceLT, Nat.lt_irrefl, Nat.zero_lt_succ, List.getD_cons_zero, Nat.reduceEqDiff, Nat.reduceLeDiff, Nat.reduceAdd, Nat.reduceSub, Int.reduceNe, Int.reduceEq, Int.reduceLE, Int.reduceLT, Int.reduceToNat, Int.reduceNeg, Int.reduceBEq, Int.reduceBNe, reduceCtorEq, go_sem, ↓reduceIte]
          have hb1 : ¬ (t.word.length ≤ 60 ∧ t.parts.length ≤ 6) → smallT ts = false := fun h => by
            rw [hT]
            refine hbad ?_
            simp only [smallK]
            by_cases h1 : t.word.length ≤ 60
            · simp [h1, show ¬ t.parts.length ≤ 6 from fun h2 => h ⟨h1, h2⟩]
            · simp [h1]
          refine ⟨fun h1 => ⟨fun h2 => by rw [hb1 (by omega)], fun h2 => ⟨(), by omega, by omega⟩⟩, fun h1 => by rw [hb1 (by omega)]⟩
        refine wp_mid [(10, .sl .no ⟨5, 32⟩ (ts.map zA)), (11, i64 ts.length), (12, i64 i), (27, partsA t.parts), (28, i64 t.parts.length), (29, i64 (0 : Nat))] [zTB t] ?_ fun env ⟨h10, h11, h12, h27, h28, h29, _⟩ => ?_
        · simp -implicitDefEqProofs only [h10, h11, h12, h4, zTB, partsA, List.length_map, strLim, lenLim, ne_eq, Nat.reduceLT, Nat.lt_irrefl, Nat.zero_lt_succ, List.getD_cons_zero, Nat.reduceEqDiff, Nat.reduceLeDiff, Nat.reduceAdd, Nat.reduceSub, Int.reduceNe, Int.reduceEq, Int.reduceLE, Int.reduceLT, Int.reduceToNat, Int.reduceNeg, Int.reduceBEq, Int.reduceBNe, reduceCtorEq, go_sem, ↓reduceIte]
          rfl
        rw [wp_block_eq]
        refine wp_loop_garb (A := Nat) (fun k => [(10, .sl .no ⟨5, 32⟩ (ts.map zA)), (11, i64 ts.length), (12, i64 i), (27, partsA t.parts), (28, i64 t.parts.length), (29, i64 k)]) (fun _ => []) (fun k => k ≤ t.parts.length ∧ (t.parts.take k).all smallP = true) (fun k => t.parts.length - k) 0 ⟨Nat.zero_le _, rfl⟩ rfl ⟨h10, h11, h12, h27, h28, h29, trivial⟩ ?_ ?_
        · intro x hx
          exact ⟨Nat.zero_le _, by simp, by simp [ren, ren2, ren1, ren0, partsA]⟩
        rintro k ⟨hk, hq⟩
        by_cases hkt : k < t.parts.length
        · have hgk : t.parts.getD k default = t.parts[k] := by simp [hkt]
          have hkw : k < 9223372036854775807 := by omega
          have htq := all_take smallP t.parts k hkt
          rw [hq, Bool.true_and] at htq
          have hbadq : smallP t.parts[k] = false → smallK t = false := fun h => by
            have : t.parts.all smallP = false := List.all_eq_false.2 ⟨t.parts[k], List.getElem_mem _, by rw [h]; simp⟩
            simp [smallK, this]
          generalize t.parts[k] = p at *
          obtain ⟨nm, tx⟩ := p
          simp -implicitDefEqProofs only [hkt, hgk, hkw, wrap_cast_succ, partsA, partA, List.length_map, strLim, lenLim, ne_eq, Nat.reduceLT, Nat.lt_irrefl, Nat.zero_lt_succ, List.getD_cons_zero, Nat.reduceEqDiff, Nat.reduceLeDiff, Nat.reduceAdd, Nat.reduceSub, Int.reduceNe, Int.reduceEq, Int.reduceLE, Int.reduceLT, Int.reduceToNat, Int.reduceNeg, Int.reduceBEq, Int.reduceBNe, reduceCtorEq, go_sem, ↓reduceIte]
          have hb2 : smallP (nm, tx) = false → some (AV.bool false) = some (AV.bool (smallT ts)) := fun h => by rw [hT, hbad (hbadq h)]
          refine ⟨fun h1 => ⟨fun h2 => hb2 ?_, fun h2 => ⟨k + 1, ⟨⟨by omega, ?_⟩, by omega⟩, rfl⟩⟩, fun h1 => hb2 ?_⟩
          · simp [smallP, show ¬ tx.length ≤ 60 by omega]
          · rw [htq]; simp [smallP]; omega
          · simp [smallP, show ¬ nm.length ≤ 60 by omega]
        · have : k = t.parts.length := by omega
          subst this
          simp -implicitDefEqProofs only [hkt, List.take_length, strLim, lenLim, ne_eq, Nat.reduceLT, Nat.lt_irrefl, Nat.zero_lt_succ, List.getD_cons_zero, Nat.reduceEqDiff, Nat.reduceLeDiff, Nat.reduceAdd, Nat.reduceSub, Int.reduceNe, Int.reduceEq, Int.reduceLE, Int.reduceLT, Int.reduceToNat, Int.reduceNeg, Int.reduceBEq, Int.reduceBNe, reduceCtorEq, go_sem, ↓reduceIte]
          rw [List.take_length] at hq
          exact ⟨[], by simp [smallK, hb, hq], rfl⟩
      · simp -implicitDefEqProofs only [h10, h11, h12, hwl, wrap_cast_succ, strLim, lenLim, ne_eq, Nat.reduceLT, Nat.lt_irrefl, Nat.zero_lt_succ, List.getD_cons_zero, Nat.reduceEqDiff, Nat.reduceLeDiff, Nat.reduceAdd, Nat.reduceSub, Int.reduceNe, Int.reduceEq, Int.reduceLE, Int.reduceLT, Int.reduceToNat, Int.reduceNeg, Int.reduceBEq, Int.reduceBNe, reduceCtorEq, go_sem, ↓reduceIte]
        exact ⟨i + 1, ⟨⟨by omega, by rw [htk, hz]⟩, by omega⟩, rfl⟩
    · have : i = ts.length := by omega
      subst this
      rw [List.take_length] at hp
      simp -implicitDefEqProofs only [hlt, List.take_length, strLim, lenLim, ne_eq, Nat.reduceLT, Nat.lt_irrefl, Nat.zero_lt_succ, List.getD_cons_zero, Nat.reduceEqDiff, Nat.reduceLeDiff, Nat.reduceAdd, Nat.reduceSub, Int.reduceNe, Int.reduceEq, Int.reduceLE, Int.reduceLT, Int.reduceToNat, Int.reduceNeg, Int.reduceBEq, Int.reduceBNe, reduceCtorEq, go_sem, ↓reduceIte]
      exact ⟨_, hp, rfl⟩
  rw [hT, hz]
  simp -implicitDefEqProofs only [strLim, lenLim, ne_eq, Nat.reduceLT, Nat.lt_irrefl, Nat.zero_lt_succ, List.getD_cons_zero, Nat.reduceEqDiff, Nat.reduceLeDiff, Nat.reduceAdd, Nat.reduceSub, Int.reduceNe, Int.reduceEq, Int.reduceLE, Int.reduceLT, Int.reduceToNat, Int.reduceNeg, Int.reduceBEq, Int.reduceBNe, reduceCtorEq, go_sem, ↓reduceIte]
theorem c21z (t u : ZTok) (ht : t.parts.length ≤ 2147483000) : RR G 21 [zA t, zA u] [] (.bool (decide (t = u))) [] := by
  have hdec : decide (t = u) = (t.kind == u.kind && (t.word == u.word) && (t.n == u.n) && (t.at' == u.at') && decide (t.parts = u.parts)) := by
    cases t; cases u
    rw [Bool.eq_iff_iff]
    simp
    grind
  rw [hdec]
  unfold zA
  refine ret_intro Tryz.func21 rfl Tryz.results21 (by decide +kernel) rfl (Nat.le_refl _) rfl (by simp) ?_
  cases e1 : (t.kind == u.kind) with
  | false => simp -implicitDefEqProofs only [e1, Bool.false_and, Nat.reduceEqDiff, Nat.reduceLeDiff, Nat.reduceAdd, reduceCtorEq, go_sem, ↓reduceIte]
  | true =>
    cases e2 : (t.word == u.word) with
    | false => simp -implicitDefEqProofs only [e1, e2, Bool.false_and, Bool.true_and, Nat.reduceEqDiff, Nat.reduceLeDiff, Nat.reduceAdd, reduceCtorEq, go_sem, ↓reduceIte]
    | true =>
      cases e3 : (t.n == u.n) with
      | false => simp -implicitDefEqProofs only [e1, e2, e3, Bool.false_and, Bool.true_and, Nat.reduceEqDiff, Nat.reduceLeDiff, Nat.reduceAdd, reduceCtorEq, go_sem, ↓reduceIte]
      | true =>
        cases e4 : (t.at' == u.at') with
        | false => simp -implicitDefEqProofs only [e1, e2, e3, e4, Bool.false_and, Bool.true_and, Nat.reduceEqDiff, Nat.reduceLeDiff, Nat.reduceAdd, reduceCtorEq, go_sem, ↓reduceIte]
        | true =>
          simp -implicitDefEqProofs only [e1, e2, e3, e4, Bool.false_and, Bool.true_and, partsA, Nat.reduceEqDiff, Nat.reduceLeDiff, Nat.reduceAdd, reduceCtorEq, go_sem, ↓reduceIte]
          refine callW_pure (c60 t.parts u.parts ht) rfl rfl ?_
          simp -implicitDefEqProofs only [e1, e2, e3, e4, Bool.true_and, Nat.reduceEqDiff, Nat.reduceLeDiff, Nat.reduceAdd, reduceCtorEq, go_sem, ↓reduceIte]
theorem c19 (a b : List ZTok) (hN : a.length ≤ 2147483000) (hq : ∀ t ∈ a, t.parts.length ≤ 2147483000) : RR G 19 [.sl .no ⟨5, 32⟩ (a.map zA), .sl .no ⟨5, 32⟩ (b.map zA)] [] (.bool (decide (a.map ZTok.bare0 = b.map ZTok.bare0))) [] := by
  refine ret_intro Tryz.func19 rfl Tryz.results19 (by decide +kernel) rfl (Nat.le_refl _) rfl (by simp) ?_
  refine wp_mid [(0, .sl .no ⟨5, 32⟩ (a.map zA)), (1, .sl .no ⟨5, 32⟩ (b.map zA))] [] ?_ fun env ⟨h0, h1, _⟩ => ?_
  · simp -implicitDefEqProofs only [strLim, lenLim, ne_eq, Nat.reduceLT, Nat.lt_irrefl, Nat.zero_lt_succ, List.getD_cons_zero, Nat.reduceEqDiff, Nat.reduceLeDiff, Nat.reduceAdd, Nat.reduceSub, Int.reduceNe, Int.reduceEq, Int.reduceLE, Int.reduceLT, Int.reduceToNat, Int.reduceNeg, Int.reduceBEq, Int.reduceBNe, reduceCtorEq, go_sem, ↓reduceIte]
  by_cases hab : a.length = b.length
  rotate_left
  · have : decide (a.map ZTok.bare0 = b.map ZTok.bare0) = false := by
      simp only [decide_eq_false_iff_not]
      intro h
      have := congrArg List.length h
      simp at this
      omega
    rw [this]
    simp -implicitDefEqProofs only [h0, h1, List.length_map, cast_eq_cast, hab, strLim, lenLim, ne_eq, Nat.reduceLT, Nat.lt_irrefl, Nat.zero_lt_succ, List.getD_cons_zero, Nat.reduceEqDiff, Nat.reduceLeDiff, Nat.reduceAdd, Nat.reduceSub, Int.reduceNe, Int.reduceEq, Int.reduceLE, Int.reduceLT, Int.reduceToNat, Int.reduceNeg, Int.reduceBEq, Int.reduceBNe, reduceCtorEq, go_sem, ↓reduceIte]
  refine wp_mid [(0, .sl .no ⟨5, 32⟩ (a.map zA)), (1, .sl .no ⟨5, 32⟩ (b.map zA))] [] ?_ fun env ⟨h0, h1, _⟩ => ?_
  · simp -implicitDefEqProofs only [h0, h1, List.length_map, cast_eq_cast, hab, strLim, lenLim, ne_eq, Nat.reduceLT, Nat.lt_irrefl, Nat.zero_lt_succ, List.getD_cons_zero, Nat.reduceEqDiff, Nat.reduceLeDiff, Nat.reduceAdd, Nat.reduceSub, Int.reduceNe, Int.reduceEq, Int.reduceLE, Int.reduceLT, Int.reduceToNat, Int.reduceNeg, Int.reduceBEq, Int.reduceBNe, reduceCtorEq, go_sem, ↓reduceIte]
  refine wp_ghost (A := List Blk) (fun _ => a.map ZTok.bare0 = b.map ZTok.bare0) (fun z => z) (fun _ => []) ?_ fun z hz env _ => ?_
  · refine wp_mid [(0, .sl .no ⟨5, 32⟩ (a.map zA)), (1, .sl .no ⟨5, 32⟩ (b.map zA)), (14, i64 a.length), (15, i64 (0 : Nat))] [] ?_ fun env ⟨h0, h1, h14, h15, _⟩ => ?_
    · simp -implicitDefEqProofs only [h0, h1, List.length_map, strLim, lenLim, ne_eq, Nat.reduceLT, Nat.lt_irrefl, Nat.zero_lt_succ, List.getD_cons_zero, Nat.reduceEqDiff, Nat.reduceLeDiff, Nat.reduceAdd, Nat.reduceSub, Int.reduceNe, Int.reduceEq, Int.reduceLE, Int.reduceLT, Int.reduceToNat, Int.reduceNeg, Int.reduceBEq, Int.reduceBNe, reduceCtorEq, go_sem, ↓reduceIte]
      rfl
    rw [wp_block_eq]
    refine wp_loop_garb (A := Nat) (fun i => [(0, .sl .no ⟨5, 32⟩ (a.map zA)), (1, .sl .no ⟨5, 32⟩ (b.map zA)), (14, i64 a.length), (15, i64 i)]) (fun _ => []) (fun i => i ≤ a.length ∧ (a.take i).map ZTok.bare0 = (b.take i).map ZTok.bare0) (fun i => a.length - i) 0 ⟨Nat.zero_le _, rfl⟩ rfl ⟨h0, h1, h14, h15, trivial⟩ ?_ ?_
    · intro x hx
      exact ⟨Nat.zero_le _, by simp, by simp [ren, ren2, ren1, ren0]⟩
    rintro i ⟨hi, hp⟩
    by_cases hlt : i < a.length
    · have hltb : i < b.length := by omega
      have hga : a.getD i default = a[i] := by simp [hlt]
      have hgb : b.getD i default = b[i] := by simp [hltb]
      have hm : a[i] ∈ a := List.getElem_mem _
      have hsame := c21z (G := G) a[i].bare0 b[i].bare0 (hq a[i] hm)
      have hta : (a.take (i + 1)).map ZTok.bare0 = (a.take i).map ZTok.bare0 ++ [a[i].bare0] := by rw [List.take_add_one, List.map_append]; simp [hlt]
      have htb : (b.take (i + 1)).map ZTok.bare0 = (b.take i).map ZTok.bare0 ++ [b[i].bare0] := by rw [List.take_add_one, List.map_append]; simp [hltb]
      have hbad : a[i].bare0 ≠ b[i].bare0 → decide (a.map ZTok.bare0 = b.map ZTok.bare0) = false := fun h => by
        simp only [decide_eq_false_iff_not]
        intro e
        have := congrArg (fun l => l[i]?) e
        simp [hlt, hltb] at this
        exact h this
      have hwl : i < 9223372036854775807 := by omega
      generalize a[i] = t at *
      generalize b[i] = u at *
      unfold zA ZTok.bare0 partsA at hsame
      simp only at hsame
      simp -implicitDefEqProofs only [hlt, strLim, lenLim, ne_eq, Nat.reduceLT, Nat.lt_irrefl, Nat.zero_lt_succ, List.getD_cons_zero, Nat.reduceEqDiff, Nat.reduceLeDiff, Nat.reduceAdd, Nat.reduceSub, Int.reduceNe, Int.reduceEq, Int.reduceLE, Int.reduceLT, Int.reduceToNat, Int.reduceNeg, Int.reduceBEq, Int.reduceBNe, reduceCtorEq, go_sem, ↓reduceIte]
      (refine WT_ord (t := lin [0, 1, 2, 4, 5, 6] (.both (lin [3] (.both (lin [7] (.both (lin [8, 9, 10, 11] .nil) (.both (lin [9, 8, 10, 11] .nil) (.top)))) (.both (lin [8] (.both (lin [7, 9, 10, 11] .nil) (.both (lin [9] (.both (lin [7, 10, 11] .nil) (.both (lin [10, 7, 11] .nil) (.top)))) (.top)))) (.both (lin [9] (.both (lin [7, 8, 10, 11] .nil) (.both (lin [8] (.both (lin [7, 10, 11] .nil) (.both (lin [10, 7, 11] .nil) (.top)))) (.top)))) (.top))))) (.both (lin [7] (.both (lin [3] (.both (lin [8, 9, 10, 11] .nil) (.both (lin [9, 8, 10, 11] .nil) (.top)))) (.both (lin [8] (.both (lin [3, 9, 10, 11] .nil) (.both (lin [9, 3, 10, 11] .nil) (.top)))) (.both (lin [9] (.both (lin [3, 8, 10, 11] .nil) (.both (lin [8, 3, 10, 11] .nil) (.top)))) (.top))))) (.both (lin [8] (.both (lin [3] (.both (lin [7, 9, 10, 11] .nil) (.both (lin [9] (.both (lin [7, 10, 11] .nil) (.both (lin [10, 7, 11] .nil) (.top)))) (.top)))) (.both (lin [7] (.both (lin [3, 9, 10, 11] .nil) (.both (lin [9, 3, 10, 11] .nil) (.top)))) (.both (lin [9, 3] (.both (lin [7, 10, 11] .nil) (.both (lin [10, 7, 11] .nil) (.top)))) (.top))))) (.both (lin [9] (.both (lin [3] (.both (lin [7, 8, 10, 11] .nil) (.both (lin [8] (.both (lin [7, 10, 11] .nil) (.both (lin [10, 7, 11] .nil) (.top)))) (.top)))) (.both (lin [7] (.both (lin [3, 8, 10, 11] .nil) (.both (lin [8, 3, 10, 11] .nil) (.top)))) (.both (lin [8, 3] (.both (lin [7, 10, 11] .nil) (.both (lin [10, 7, 11] .nil) (.top)))) (.top))))) (.top)))))) ?_ ?_; kernel_rfl)
      simp -implicitDefEqProofs only [hlt, hltb, hga, hgb, zA, partsA, strLim, lenLim, ne_eq, Nat.reduceLT, Nat.lt_irrefl, Nat.zero_lt_succ, List.getD_cons_zero, Nat.reduceEqDiff, Nat.reduceLeDiff, Nat.reduceAdd, Nat.reduceSub, Int.reduceNe, Int.reduceEq, Int.reduceLE, Int.reduceLT, Int.reduceToNat, Int.reduceNeg, Int.reduceBEq, Int.reduceBNe, reduceCtorEq, go_sem, ↓reduceIte]
      repeat' refine And.intro ?_ ?_
      all_goals
        refine callW_pure hsame rfl rfl ?_
        simp -implicitDefEqProofs only [hwl, wrap_cast_succ, strLim, lenLim, ne_eq, Nat.reduceLT, Nat.lt_irrefl, Nat.zero_lt_succ, List.getD_cons_zero, Nat.reduceEqDiff, Nat.reduceLeDiff, Nat.reduceAdd, Nat.reduceSub, Int.reduceNe, Int.reduceEq, Int.reduceLE, Int.reduceLT, Int.reduceToNat, Int.reduceNeg, Int.reduceBEq, Int.reduceBNe, reduceCtorEq, go_sem, ↓reduceIte]
        refine ⟨fun hs => ?_, fun hs => ?_⟩
        · have hs : t.bare0 = u.bare0 := hs
          exact ⟨i + 1, ⟨⟨by omega, by rw [hta, htb, hp, hs]⟩, by omega⟩, rfl⟩
        · have hs : t.bare0 ≠ u.bare0 := hs
          rw [hbad hs]
    · have : i = a.length := by omega
      subst this
      rw [List.take_length, hab, List.take_length] at hp
      simp -implicitDefEqProofs only [hlt, List.take_length, strLim, lenLim, ne_eq, Nat.reduceLT, Nat.lt_irrefl, Nat.zero_lt_succ, List.getD_cons_zero, Nat.reduceEqDiff, Nat.reduceLeDiff, Nat.reduceAdd, Nat.reduceSub, Int.reduceNe, Int.reduceEq, Int.reduceLE, Int.reduceLT, Int.reduceToNat, Int.reduceNeg, Int.reduceBEq, Int.reduceBNe, reduceCtorEq, go_sem, ↓reduceIte]
      exact ⟨[], hp, rfl⟩
  rw [decide_eq_true hz]
  simp -implicitDefEqProofs only [strLim, lenLim, ne_eq, Nat.reduceLT, Nat.lt_irrefl, Nat.zero_lt_succ, List.getD_cons_zero, Nat.reduceEqDiff, Nat.reduceLeDiff, Nat.reduceAdd, Nat.reduceSub, Int.reduceNe, Int.reduceEq, Int.reduceLE, Int.reduceLT, Int.reduceToNat, Int.reduceNeg, Int.reduceBEq, Int.reduceBNe, reduceCtorEq, go_sem, ↓reduceIte]
/-! ### The reference's text of a token -/
def refTL (t : ZTok) : Prop := t.word.length ≤ 60 ∧ (refS t).length ≤ 2000 ∧ (pPrint t.parts).length ≤ 2147483000 ∧ t.parts.length ≤ 2147483000 ∧ (∀ p ∈ t.parts, p.1.length ≤ 2147483000)
theorem scanR_e (l : Bytes) : ∀ (a : Nat) (out : List Tok), (scanR l a out).2.2 ≠ 2 := by
  induction h : l.length using Nat.strongRecOn generalizing l with
  | _ m ih =>
    subst h
    intro a out
    cases l with
    | nil => rw [scanR_nil]; simp
    | cons c r =>
      rw [scanR_cons]
      split
      · exact ih r.length (by simp) r rfl _ _
      · split
        · have hl := dropWhile_len notNl r
          exact ih (r.dropWhile notNl).length (by simp only [List.length_cons]; omega) _ rfl _ _
        · split
          · rename_i t k hk
            have := oneR_ok hk
            exact ih (r.drop (k - 1)).length (by simp only [List.length_drop, List.length_cons]; omega) _ rfl _ _
          · rename_i b e hk
            have := oneR_err hk
            simp only
            omega
theorem c17 (t : ZTok) (hn : -9223372036854775808 ≤ t.n ∧ t.n < 9223372036854775808) (hl : refTL t) : RR G 17 [zA t] [] (.tup [.str (refT t (scanT (refS t))).1, i64 (refT t (scanT (refS t))).2]) [] := by
  obtain ⟨hl1, hl2, hl3, hl4, hl5⟩ := hl
  have z12 : ∀ (j k : Int), j ≠ k → t.kind = j → ¬ t.kind = k := fun j k h1 h2 h3 => h1 (by omega)
  refine ret_intro Tryz.func17 rfl Tryz.results17 (by decide +kernel) rfl (Nat.le_refl _) rfl (by simp) ?_
  refine wp_mid [(1, .ptr 0 0)] [zTB t] ?_ fun env ⟨h1, _⟩ => ?_
  · simp -implicitDefEqProofs only [zA, zTB, partsA, strLim, lenLim, ne_eq, Nat.reduceLT, Nat.lt_irrefl, Nat.zero_lt_succ, List.getD_cons_zero, Nat.reduceEqDiff, Nat.reduceLeDiff, Nat.reduceAdd, Nat.reduceSub, Int.reduceNe, Int.reduceEq, Int.reduceLE, Int.reduceLT, Int.reduceToNat, Int.reduceNeg, Int.reduceBEq, Int.reduceBNe, reduceCtorEq, go_sem, ↓reduceIte]
  refine wp_mid [(1, .ptr 0 0), (4, .str [])] [zTB t] ?_ fun env ⟨h1, h4, _⟩ => ?_
  · simp -implicitDefEqProofs only [h1, zTB, partsA, strLim, lenLim, ne_eq, Nat.reduceLT, Nat.lt_irrefl, Nat.zero_lt_succ, List.getD_cons_zero, Nat.reduceEqDiff, Nat.reduceLeDiff, Nat.reduceAdd, Nat.reduceSub, Int.reduceNe, Int.reduceEq, Int.reduceLE, Int.reduceLT, Int.reduceToNat, Int.reduceNeg, Int.reduceBEq, Int.reduceBNe, reduceCtorEq, go_sem, ↓reduceIte]
  refine wp_assoc (wp_assoc (wp_assoc (wp_assoc (wp_mid [(1, .ptr 0 0), (4, .str (refS t))] [zTB t] ?_ fun env ⟨h1, h4, _⟩ => ?_))))
  · by_cases k1 : t.kind = 1
    · have e : refS t = t.word := by simp [refS, k1]
      rw [e]
      simp -implicitDefEqProofs only [h1, h4, zTB, partsA, k1, strLim, lenLim, ne_eq, Nat.reduceLT, Nat.lt_irrefl, Nat.zero_lt_succ, List.getD_cons_zero, Nat.reduceEqDiff, Nat.reduceLeDiff, Nat.reduceAdd, Nat.reduceSub, Int.reduceNe, Int.reduceEq, Int.reduceLE, Int.reduceLT, Int.reduceToNat, Int.reduceNeg, Int.reduceBEq, Int.reduceBNe, reduceCtorEq, go_sem, ↓reduceIte]
    by_cases k4 : t.kind = 4
    · have e : refS t = t.word := by simp [refS, k4]
      rw [e]
      simp -implicitDefEqProofs only [h1, h4, zTB, partsA, k4, strLim, lenLim, ne_eq, Nat.reduceLT, Nat.lt_irrefl, Nat.zero_lt_succ, List.getD_cons_zero, Nat.reduceEqDiff, Nat.reduceLeDiff, Nat.reduceAdd, Nat.reduceSub, Int.reduceNe, Int.reduceEq, Int.reduceLE, Int.reduceLT, Int.reduceToNat, Int.reduceNeg, Int.reduceBEq, Int.reduceBNe, reduceCtorEq, go_sem, ↓reduceIte]
    by_cases k2 : t.kind = 2
    · have e : refS t = if 0 ≤ t.n then Lib.decDigits t.n.toNat else [] := by simp [refS, k2]
      rw [e]
      simp -implicitDefEqProofs only [h1, h4, zTB, partsA, k2, strLim, lenLim, ne_eq, Nat.reduceLT, Nat.lt_irrefl, Nat.zero_lt_succ, List.getD_cons_zero, Nat.reduceEqDiff, Nat.reduceLeDiff, Nat.reduceAdd, Nat.reduceSub, Int.reduceNe, Int.reduceEq, Int.reduceLE, Int.reduceLT, Int.reduceToNat, Int.reduceNeg, Int.reduceBEq, Int.reduceBNe, reduceCtorEq, go_sem, ↓reduceIte]
      refine ⟨fun h => ?_, fun h => by rw [if_neg h]⟩
      have hp := c53 (G := G) t.n.toNat (by omega)
      rw [Int.toNat_of_nonneg h] at hp
      refine callW_pure hp rfl rfl ?_
      simp -implicitDefEqProofs only [h1, h4, zTB, partsA, k2, h, strLim, lenLim, ne_eq, Nat.reduceLT, Nat.lt_irrefl, Nat.zero_lt_succ, List.getD_cons_zero, Nat.reduceEqDiff, Nat.reduceLeDiff, Nat.reduceAdd, Nat.reduceSub, Int.reduceNe, Int.reduceEq, Int.reduceLE, Int.reduceLT, Int.reduceToNat, Int.reduceNeg, Int.reduceBEq, Int.reduceBNe, reduceCtorEq, go_sem, ↓reduceIte]
    by_cases k3 : t.kind = 3
    · have e : refS t = if pMay false t.parts = true then pPrint t.parts else [] := by simp [refS, k3]
      rw [e]
      simp -implicitDefEqProofs only [h1, h4, zTB, partsA, k3, strLim, lenLim, ne_eq, Nat.reduceLT, Nat.lt_irrefl, Nat.zero_lt_succ, List.getD_cons_zero, Nat.reduceEqDiff, Nat.reduceLeDiff, Nat.reduceAdd, Nat.reduceSub, Int.reduceNe, Int.reduceEq, Int.reduceLE, Int.reduceLT, Int.reduceToNat, Int.reduceNeg, Int.reduceBEq, Int.reduceBNe, reduceCtorEq, go_sem, ↓reduceIte]
      refine callW_pure (c54 t.parts hl4 hl5) rfl rfl ?_
      simp -implicitDefEqProofs only [h1, h4, zTB, partsA, k3, strLim, lenLim, ne_eq, Nat.reduceLT, Nat.lt_irrefl, Nat.zero_lt_succ, List.getD_cons_zero, Nat.reduceEqDiff, Nat.reduceLeDiff, Nat.reduceAdd, Nat.reduceSub, Int.reduceNe, Int.reduceEq, Int.reduceLE, Int.reduceLT, Int.reduceToNat, Int.reduceNeg, Int.reduceBEq, Int.reduceBNe, reduceCtorEq, go_sem, ↓reduceIte]
      refine ⟨fun h => ?_, fun h => by rw [if_neg (by simp [h])]⟩
      refine callW_pure (c55 t.parts hl4 hl3) rfl rfl ?_
      simp -implicitDefEqProofs only [h1, h4, zTB, partsA, k3, h, strLim, lenLim, ne_eq, Nat.reduceLT, Nat.lt_irrefl, Nat.zero_lt_succ, List.getD_cons_zero, Nat.reduceEqDiff, Nat.reduceLeDiff, Nat.reduceAdd, Nat.reduceSub, Int.reduceNe, Int.reduceEq, Int.reduceLE, Int.reduceLT, Int.reduceToNat, Int.reduceNeg, Int.reduceBEq, Int.reduceBNe, reduceCtorEq, go_sem, ↓reduceIte]
    by_cases k5 : t.kind = 5
    · have e : refS t = 45 :: t.word := by simp [refS, k5]
      rw [e]
      simp -implicitDefEqProofs only [h1, h4, zTB, partsA, k5, strLim, lenLim, ne_eq, Nat.reduceLT, Nat.lt_irrefl, Nat.zero_lt_succ, List.getD_cons_zero, Nat.reduceEqDiff, Nat.reduceLeDiff, Nat.reduceAdd, Nat.reduceSub, Int.reduceNe, Int.reduceEq, Int.reduceLE, Int.reduceLT, Int.reduceToNat, Int.reduceNeg, Int.reduceBEq, Int.reduceBNe, reduceCtorEq, go_sem, ↓reduceIte]
      omega
    by_cases k6 : t.kind = 6
    · have e : refS t = 36 :: t.word := by simp [refS, k6]
      rw [e]
      simp -implicitDefEqProofs only [h1, h4, zTB, partsA, k6, strLim, lenLim, ne_eq, Nat.reduceLT, Nat.lt_irrefl, Nat.zero_lt_succ, List.getD_cons_zero, Nat.reduceEqDiff, Nat.reduceLeDiff, Nat.reduceAdd, Nat.reduceSub, Int.reduceNe, Int.reduceEq, Int.reduceLE, Int.reduceLT, Int.reduceToNat, Int.reduceNeg, Int.reduceBEq, Int.reduceBNe, reduceCtorEq, go_sem, ↓reduceIte]
      omega
    have e : refS t = [] := by simp [refS, k1, k2, k3, k4, k5, k6]
    rw [e]
    simp -implicitDefEqProofs only [h1, h4, zTB, partsA, k1, k2, k3, k4, k5, k6, strLim, lenLim, ne_eq, Nat.reduceLT, Nat.lt_irrefl, Nat.zero_lt_succ, List.getD_cons_zero, Nat.reduceEqDiff, Nat.reduceLeDiff, Nat.reduceAdd, Nat.reduceSub, Int.reduceNe, Int.reduceEq, Int.reduceLE, Int.reduceLT, Int.reduceToNat, Int.reduceNeg, Int.reduceBEq, Int.reduceBNe, reduceCtorEq, go_sem, ↓reduceIte]
  have hlen : (2000 < (refS t).length) = False := by simp; omega
  refine wp_mid [(1, .ptr 0 0), (4, .str (refS t))] [zTB t] ?_ fun env ⟨h1, h4, _⟩ => ?_
  · simp -implicitDefEqProofs only [h1, h4, hlen, strLim, lenLim, ne_eq, Nat.reduceLT, Nat.lt_irrefl, Nat.zero_lt_succ, List.getD_cons_zero, Nat.reduceEqDiff, Nat.reduceLeDiff, Nat.reduceAdd, Nat.reduceSub, Int.reduceNe, Int.reduceEq, Int.reduceLE, Int.reduceLT, Int.reduceToNat, Int.reduceNeg, Int.reduceBEq, Int.reduceBNe, reduceCtorEq, go_sem, ↓reduceIte]
  rcases hT : scanT (refS t) with ⟨L, q, e⟩
  have h20 := c20 (G := G) (refS t) (by omega) _ hT
  refine wp_assoc (wp_mid [(4, .str (refS t)), (5, toksA L), (7, i64 e), (1, .ptr 0 0)] [zTB t.bare0] ?_ fun env ⟨h4, h5, h7, h1, _⟩ => ?_)
  · simp -implicitDefEqProofs only [h1, h4, strLim, lenLim, ne_eq, Nat.reduceLT, Nat.lt_irrefl, Nat.zero_lt_succ, List.getD_cons_zero, Nat.reduceEqDiff, Nat.reduceLeDiff, Nat.reduceAdd, Nat.reduceSub, Int.reduceNe, Int.reduceEq, Int.reduceLE, Int.reduceLT, Int.reduceToNat, Int.reduceNeg, Int.reduceBEq, Int.reduceBNe, reduceCtorEq, go_sem, ↓reduceIte]
    refine callW_pure h20 rfl rfl ?_
    simp -implicitDefEqProofs only [h1, h4, toksA, zTB, ZTok.bare0, strLim, lenLim, ne_eq, Nat.reduceLT, Nat.lt_irrefl, Nat.zero_lt_succ, List.getD_cons_zero, Nat.reduceEqDiff, Nat.reduceLeDiff, Nat.reduceAdd, Nat.reduceSub, Int.reduceNe, Int.reduceEq, Int.reduceLE, Int.reduceLT, Int.reduceToNat, Int.reduceNeg, Int.reduceBEq, Int.reduceBNe, reduceCtorEq, go_sem, ↓reduceIte]
  have he2 : e ≠ 2 := by
    have := scanR_e (refS t) 0 []
    unfold scanT at hT
    rw [if_neg (by omega)] at hT
    rw [hT] at this
    exact this
  have hB := (scanT_len (refS t)).2
  rw [hT] at hB
  simp only at hB
  by_cases he : e = 0
  · by_cases hL : L.length = 1
    · obtain ⟨u, rfl⟩ : ∃ u, L = [u] := List.length_eq_one_iff.1 hL
      have hsame := c21z (G := G) u.z t.bare0 (by have := hB u (by simp); simp only [Tok.z]; omega)
      unfold zA ZTok.bare0 Tok.z partsA at hsame
      simp only at hsame
      have hr : refT t ([u], q, e) = if u.z = t.bare0 then (refS t, 0) else ([], 5) := by
        unfold refT
        simp only [he, ne_eq, not_true_eq_false, List.length_singleton, List.getD_cons_zero, false_or]
        by_cases h : u.z = t.bare0 <;> simp [h]
      rw [hr]
      unfold Tok.z ZTok.bare0
      simp -implicitDefEqProofs only [h1, h4, h5, h7, toksA, zTB, ZTok.bare0, partsA, tokA, he, strLim, lenLim, ne_eq, Nat.reduceLT, Nat.lt_irrefl, Nat.zero_lt_succ, List.getD_cons_zero, Nat.reduceEqDiff, Nat.reduceLeDiff, Nat.reduceAdd, Nat.reduceSub, Int.reduceNe, Int.reduceEq, Int.reduceLE, Int.reduceLT, Int.reduceToNat, Int.reduceNeg, Int.reduceBEq, Int.reduceBNe, reduceCtorEq, go_sem, ↓reduceIte]
      (refine WT_ord (t := lin [0, 1, 2, 3, 4, 5, 6, 7, 8, 9, 10, 11, 12, 13, 14] .nil) ?_ ?_; kernel_rfl)
      simp -implicitDefEqProofs only [h1, h4, h5, h7, toksA, zTB, ZTok.bare0, partsA, tokA, he, strLim, lenLim, ne_eq, Nat.reduceLT, Nat.lt_irrefl, Nat.zero_lt_succ, List.getD_cons_zero, Nat.reduceEqDiff, Nat.reduceLeDiff, Nat.reduceAdd, Nat.reduceSub, Int.reduceNe, Int.reduceEq, Int.reduceLE, Int.reduceLT, Int.reduceToNat, Int.reduceNeg, Int.reduceBEq, Int.reduceBNe, reduceCtorEq, go_sem, ↓reduceIte]
      refine callW_pure hsame rfl rfl ?_
      simp -implicitDefEqProofs only [h4, h7, he, strLim, lenLim, ne_eq, Nat.reduceLT, Nat.lt_irrefl, Nat.zero_lt_succ, List.getD_cons_zero, Nat.reduceEqDiff, Nat.reduceLeDiff, Nat.reduceAdd, Nat.reduceSub, Int.reduceNe, Int.reduceEq, Int.reduceLE, Int.reduceLT, Int.reduceToNat, Int.reduceNeg, Int.reduceBEq, Int.reduceBNe, reduceCtorEq, go_sem, ↓reduceIte]
      refine ⟨fun h => ?_, fun h => ?_⟩
      · rw [if_pos h] <;> rfl
      · rw [if_neg h] <;> rfl
    · have hr : refT t (L, q, e) = ([], 5) := by
        unfold refT
        rw [if_pos (.inr (.inl hL))]
      rw [hr]
      simp -implicitDefEqProofs only [h1, h4, h5, h7, toksA, zTB, ZTok.bare0, partsA, List.length_map, he, hL, strLim, lenLim, ne_eq, Nat.reduceLT, Nat.lt_irrefl, Nat.zero_lt_succ, List.getD_cons_zero, Nat.reduceEqDiff, Nat.reduceLeDiff, Nat.reduceAdd, Nat.reduceSub, Int.reduceNe, Int.reduceEq, Int.reduceLE, Int.reduceLT, Int.reduceToNat, Int.reduceNeg, Int.reduceBEq, Int.reduceBNe, reduceCtorEq, go_sem, ↓reduceIte]
      (refine WT_ord (t := lin [0, 1, 2, 3, 4, 5, 6, 7, 8, 9, 10, 11, 12, 13, 14] .nil) ?_ ?_; kernel_rfl)
      simp -implicitDefEqProofs only [h1, h4, h5, h7, toksA, zTB, ZTok.bare0, partsA, List.length_map, he, hL, strLim, lenLim, ne_eq, Nat.reduceLT, Nat.lt_irrefl, Nat.zero_lt_succ, List.getD_cons_zero, Nat.reduceEqDiff, Nat.reduceLeDiff, Nat.reduceAdd, Nat.reduceSub, Int.reduceNe, Int.reduceEq, Int.reduceLE, Int.reduceLT, Int.reduceToNat, Int.reduceNeg, Int.reduceBEq, Int.reduceBNe, reduceCtorEq, go_sem, ↓reduceIte]
      rfl
  · have hr : refT t (L, q, e) = ([], 5) := by
      unfold refT
      rw [if_pos (.inl he)]
    rw [hr]
    simp -implicitDefEqProofs only [h1, h4, h5, h7, toksA, zTB, ZTok.bare0, partsA, List.length_map, he, he2, strLim, lenLim, ne_eq, Nat.reduceLT, Nat.lt_irrefl, Nat.zero_lt_succ, List.getD_cons_zero, Nat.reduceEqDiff, Nat.reduceLeDiff, Nat.reduceAdd, Nat.reduceSub, Int.reduceNe, Int.reduceEq, Int.reduceLE, Int.reduceLT, Int.reduceToNat, Int.reduceNeg, Int.reduceBEq, Int.reduceBNe, reduceCtorEq, go_sem, ↓reduceIte]
    (refine WT_ord (t := lin [0, 1, 2, 3, 4, 5, 6, 7, 8, 9, 10, 11, 12, 13, 14] .nil) ?_ ?_; kernel_rfl)
    simp -implicitDefEqProofs only [h1, h4, h5, h7, toksA, zTB, ZTok.bare0, partsA, List.length_map, he, he2, strLim, lenLim, ne_eq, Nat.reduceLT, Nat.lt_irrefl, Nat.zero_lt_succ, List.getD_cons_zero, Nat.reduceEqDiff, Nat.reduceLeDiff, Nat.reduceAdd, Nat.reduceSub, Int.reduceNe, Int.reduceEq, Int.reduceLE, Int.reduceLT, Int.reduceToNat, Int.reduceNeg, Int.reduceBEq, Int.reduceBNe, reduceCtorEq, go_sem, ↓reduceIte]
    rfl
theorem join_snoc (l : List Bytes) (x : Bytes) : Lib.join (l ++ [x]) [32] = (if l = [] then [] else Lib.join l [32] ++ [32]) ++ x := by
  cases l with
  | nil => simp [Lib.join_one]
  | cons y r =>
    rw [List.cons_append, Lib.join_cons, Lib.join_cons, if_neg (by simp)]
    simp [Lib.joinTail]
theorem join_take (l : List Bytes) (i : Nat) : (Lib.join (l.take i) [32]).length ≤ (Lib.join l [32]).length := by
  cases l with
  | nil => simp
  | cons y r =>
    cases i with
    | zero => simp [Lib.join_nil]
    | succ i =>
      rw [List.take_succ_cons, Lib.join_cons, Lib.join_cons]
      have h : Lib.joinTail [32] r = Lib.joinTail [32] (r.take i) ++ Lib.joinTail [32] (r.drop i) := by
        simp only [Lib.joinTail, ← List.flatten_append, ← List.map_append, List.take_append_drop]
      rw [h]
      simp
theorem joinT_err {ts : List ZTok} {f : ZTok → Bytes × Nat} {i : Nat} (hlt : i < ts.length) (hp : ∀ t ∈ ts.take i, (f t).2 = 0) (h0 : (f ts[i]).2 ≠ 0) : joinT (ts.map f) = ([], (f ts[i]).2) := by
  have hfd : (ts.map f).find? (fun x => x.2 != 0) = some (f ts[i]) := by
    have h1 : ts = ts.take i ++ ts[i] :: ts.drop (i + 1) := by rw [List.getElem_cons_drop, List.take_append_drop]
    have h2 : (List.map f (ts.take i)).find? (fun x => x.2 != 0) = none := by
      rw [List.find?_eq_none]
      intro x hx
      obtain ⟨y, hy, rfl⟩ := List.mem_map.1 hx
      simp [hp y hy]
    conv => lhs; rw [h1]
    rw [List.map_append, List.find?_append, h2, List.map_cons, List.find?_cons_of_pos (by simp [h0])]
    rfl
  simp [joinT, hfd]
theorem joinT_ok {ts : List ZTok} {f : ZTok → Bytes × Nat} (hz : ∀ t ∈ ts, (f t).2 = 0) : joinT (ts.map f) = if (Lib.join (ts.map fun t => (f t).1) [32]).length > 2000 then ([], 2) else (Lib.join (ts.map fun t => (f t).1) [32], 0) := by
  have hfd : (ts.map f).find? (fun x => x.2 != 0) = none := by
    rw [List.find?_eq_none]
    intro x hx
    obtain ⟨y, hy, rfl⟩ := List.mem_map.1 hx
    simp [hz y hy]
  have hmm : (ts.map f).map (·.1) = ts.map fun t => (f t).1 := by simp [Function.comp_def]
  unfold joinT
  rw [hfd, hmm]
theorem c15 (ts : List ZTok) (f : ZTok → Bytes × Nat) (hN : ts.length ≤ 2147483000) (hlen : (Lib.join (ts.map fun t => (f t).1) [32]).length ≤ 140737488355328)
    (hf : ∀ t ∈ ts, RR G 17 [zA t] [] (.tup [.str (f t).1, i64 (f t).2]) []) : RR G 15 [.sl .no ⟨5, 32⟩ (ts.map zA)] [] (.tup [.str (joinT (ts.map f)).1, i64 (joinT (ts.map f)).2]) [] := by
  refine ret_intro Tryz.func15 rfl Tryz.results15 (by decide +kernel) rfl (Nat.le_refl _) rfl (by simp) ?_
  refine wp_assoc (wp_mid [(0, .sl .no ⟨5, 32⟩ (ts.map zA)), (4, .str [])] [] ?_ fun env ⟨h0, h4, _⟩ => ?_)
  · simp -implicitDefEqProofs only [strLim, lenLim, ne_eq, Nat.reduceLT, Nat.lt_irrefl, Nat.zero_lt_succ, List.getD_cons_zero, Nat.reduceEqDiff, Nat.reduceLeDiff, Nat.reduceAdd, Nat.reduceSub, Int.reduceNe, Int.reduceEq, Int.reduceLE, Int.reduceLT, Int.reduceToNat, Int.reduceNeg, Int.reduceBEq, Int.reduceBNe, reduceCtorEq, go_sem, ↓reduceIte]
  refine wp_ghost (A := Unit) (fun _ => ∀ t ∈ ts, (f t).2 = 0) (fun _ => []) (fun _ => [(4, .str (Lib.join (ts.map fun t => (f t).1) [32]))]) ?_ fun _ hz env ⟨h4, _⟩ => ?_
  · refine wp_mid [(0, .sl .no ⟨5, 32⟩ (ts.map zA)), (4, .str []), (5, i64 (0 : Nat))] [] ?_ fun env ⟨h0, h4, h5, _⟩ => ?_
    · simp -implicitDefEqProofs only [h0, h4, strLim, lenLim, ne_eq, Nat.reduceLT, Nat.lt_irrefl, Nat.zero_lt_succ, List.getD_cons_zero, Nat.reduceEqDiff, Nat.reduceLeDiff, Nat.reduceAdd, Nat.reduceSub, Int.reduceNe, Int.reduceEq, Int.reduceLE, Int.reduceLT, Int.reduceToNat, Int.reduceNeg, Int.reduceBEq, Int.reduceBNe, reduceCtorEq, go_sem, ↓reduceIte]
      rfl
    rw [wp_block_eq]
    refine wp_loop_use (A := Nat) (fun i => [(0, .sl .no ⟨5, 32⟩ (ts.map zA)), (4, .str (Lib.join ((ts.take i).map fun t => (f t).1) [32])), (5, i64 i)]) (fun _ => []) (fun i => i ≤ ts.length ∧ ∀ t ∈ ts.take i, (f t).2 = 0) (fun i => ts.length - i) 0 ⟨Nat.zero_le _, by simp⟩ rfl ⟨h0, h4, h5, trivial⟩ ?_
    rintro i ⟨hi, hp⟩
    by_cases hlt : i < ts.length
    · have hg : ts.getD i default = ts[i] := by simp [hlt]
      have hwl : i < 9223372036854775807 := by omega
      have hft := hf _ (List.getElem_mem hlt)
      have htk : ts.take (i + 1) = ts.take i ++ [ts[i]] := by rw [List.take_add_one]; simp [hlt]
      have herr := fun h0 => joinT_err (f := f) hlt hp h0
      have hsn : Lib.join ((ts.take (i + 1)).map fun t => (f t).1) [32] = (if i = 0 then [] else Lib.join ((ts.take i).map fun t => (f t).1) [32] ++ [32]) ++ (f ts[i]).1 := by
        rw [htk, List.map_append, List.map_singleton, join_snoc]
        congr 1
        by_cases h : i = 0
        · simp [h]
        · rw [if_neg h, if_neg (by simp; exact ⟨h, fun e => by rw [e] at hlt; simp at hlt⟩)]
      have hle := join_take (ts.map fun t => (f t).1) (i + 1)
      rw [← List.map_take, hsn, List.length_append] at hle
      generalize ts[i] = t at *
      generalize hJ : Lib.join ((ts.take i).map fun t => (f t).1) [32] = J at *
      unfold zA partsA at hft
      simp -implicitDefEqProofs only [hlt, hg, zA, partsA, List.length_map, strLim, lenLim, ne_eq, Nat.reduceLT, Nat.lt_irrefl, Nat.zero_lt_succ, List.getD_cons_zero, Nat.reduceEqDiff, Nat.reduceLeDiff, Nat.reduceAdd, Nat.reduceSub, Int.reduceNe, Int.reduceEq, Int.reduceLE, Int.reduceLT, Int.reduceToNat, Int.reduceNeg, Int.reduceBEq, Int.reduceBNe, reduceCtorEq, go_sem, ↓reduceIte]
      refine callW_pure hft rfl rfl ?_
      simp -implicitDefEqProofs only [hwl, wrap_cast_succ, strLim, lenLim, ne_eq, Nat.reduceLT, Nat.lt_irrefl, Nat.zero_lt_succ, List.getD_cons_zero, Nat.reduceEqDiff, Nat.reduceLeDiff, Nat.reduceAdd, Nat.reduceSub, Int.reduceNe, Int.reduceEq, Int.reduceLE, Int.reduceLT, Int.reduceToNat, Int.reduceNeg, Int.reduceBEq, Int.reduceBNe, reduceCtorEq, go_sem, ↓reduceIte]
      have hJ0 : i = 0 → J = [] := fun h => by rw [← hJ, h] <;> rfl
      have hall : (f t).2 = 0 → ∀ y ∈ ts.take (i + 1), (f y).2 = 0 := fun h0 y hy => by
        rw [htk] at hy
        rcases List.mem_append.1 hy with h | h
        · exact hp y h
        · rw [List.mem_singleton.1 h]; exact h0
      refine ⟨fun h0 => by rw [herr h0], fun h0 => ⟨fun h1 => ?_, fun h1 => ?_⟩⟩
      · rw [if_neg (by omega)] at hsn hle
        simp only [List.length_append, List.length_singleton] at hle ⊢
        exact ⟨by omega, by omega, i + 1, ⟨⟨by omega, hall h0⟩, by omega⟩, by rw [hsn], rfl⟩
      · rw [if_pos (by omega)] at hsn hle
        rw [hJ0 (by omega)]
        simp only [List.length_nil] at hle ⊢
        exact ⟨by omega, i + 1, ⟨⟨by omega, hall h0⟩, by omega⟩, by rw [hsn], rfl⟩
    · have : i = ts.length := by omega
      subst this
      rw [List.take_length] at hp
      simp -implicitDefEqProofs only [hlt, List.length_map, List.take_length, strLim, lenLim, ne_eq, Nat.reduceLT, Nat.lt_irrefl, Nat.zero_lt_succ, List.getD_cons_zero, Nat.reduceEqDiff, Nat.reduceLeDiff, Nat.reduceAdd, Nat.reduceSub, Int.reduceNe, Int.reduceEq, Int.reduceLE, Int.reduceLT, Int.reduceToNat, Int.reduceNeg, Int.reduceBEq, Int.reduceBNe, reduceCtorEq, go_sem, ↓reduceIte]
      exact ⟨(), hp⟩
  rw [joinT_ok hz]
  simp -implicitDefEqProofs only [h4, strLim, lenLim, ne_eq, Nat.reduceLT, Nat.lt_irrefl, Nat.zero_lt_succ, List.getD_cons_zero, Nat.reduceEqDiff, Nat.reduceLeDiff, Nat.reduceAdd, Nat.reduceSub, Int.reduceNe, Int.reduceEq, Int.reduceLE, Int.reduceLT, Int.reduceToNat, Int.reduceNeg, Int.reduceBEq, Int.reduceBNe, reduceCtorEq, go_sem, ↓reduceIte]
  exact ⟨fun h => by rw [if_pos h] <;> rfl, fun h => by rw [if_neg h] <;> rfl⟩
theorem joinT_zero {ts : List ZTok} {f : ZTok → Bytes × Nat} (h : (joinT (ts.map f)).2 = 0) : (∀ t ∈ ts, (f t).2 = 0) ∧ joinT (ts.map f) = (Lib.join (ts.map fun t => (f t).1) [32], 0) ∧ (Lib.join (ts.map fun t => (f t).1) [32]).length ≤ 2000 := by
  have hz : ∀ t ∈ ts, (f t).2 = 0 := fun t ht => by
    apply Classical.byContradiction
    intro h0
    cases hfd : (ts.map f).find? (fun x => x.2 != 0) with
    | none =>
      rw [List.find?_eq_none] at hfd
      exact hfd (f t) (List.mem_map.2 ⟨t, ht, rfl⟩) (by simp [h0])
    | some x =>
      have h1 := List.find?_some hfd
      unfold joinT at h
      rw [hfd] at h
      simp only [bne_iff_ne, ne_eq] at h1
      exact h1 h
  refine ⟨hz, ?_⟩
  have h2 := joinT_ok hz
  rw [h2] at h ⊢
  by_cases hl : (Lib.join (ts.map fun t => (f t).1) [32]).length > 2000
  · rw [if_pos hl] at h; simp at h
  · rw [if_neg hl]
    exact ⟨rfl, by omega⟩
/-! ### TokenBack -/
theorem pByte_le (c : UInt8) : (pByte c).length ≤ 4 := by
  unfold pByte
  repeat' split
  all_goals simp
theorem pText_le4 (s : Bytes) : (pText s).length ≤ 4 * s.length := by
  induction s with
  | nil => simp [pText]
  | cons c s ih =>
    have e : pText (c :: s) = pByte c ++ pText s := by simp [pText]
    have := pByte_le c
    rw [e, List.length_append, List.length_cons]
    omega
theorem parts_le (l : List Part) (h : l.all smallP = true) : (l.flatMap pPart).length ≤ 303 * l.length := by
  induction l with
  | nil => simp
  | cons p l ih =>
    simp only [List.all_cons, Bool.and_eq_true] at h
    have := ih h.2
    obtain ⟨nm, tx⟩ := p
    have h1 := h.1
    simp only [smallP, Bool.and_eq_true, decide_eq_true_eq] at h1
    have h2 := pText_le4 tx
    have h3 : (pPart (nm, tx)).length ≤ 303 := by
      unfold pPart
      split
      · simp only [List.nil_append]; omega
      · simp only [List.length_append, List.length_cons, List.length_nil]; omega
    rw [List.flatMap_cons, List.length_append, List.length_cons]
    omega
theorem smallK_facts {t : ZTok} (h : smallK t = true) : t.word.length ≤ 60 ∧ t.parts.length ≤ 6 ∧ (pPrint t.parts).length ≤ 1820 ∧ ∀ p ∈ t.parts, p.1.length ≤ 2147483000 := by
  simp only [smallK, Bool.and_eq_true, decide_eq_true_eq] at h
  obtain ⟨h1, h2, h3⟩ := h
  refine ⟨h1, h2, ?_, fun p hp => ?_⟩
  · have := parts_le _ h3
    unfold pPrint
    rw [List.length_cons, List.length_append, List.length_singleton]
    omega
  · have := List.all_eq_true.1 h3 p hp
    simp only [smallP, Bool.and_eq_true, decide_eq_true_eq] at this
    omega
theorem refS_le {t : ZTok} (h : smallK t = true) (hn : t.n < 9223372036854775808) : (refS t).length ≤ 1820 := by
  obtain ⟨h1, h2, h3, h4⟩ := smallK_facts h
  have h5 := dec_len19 t.n.toNat (by omega)
  unfold refS
  repeat' split
  all_goals (try simp only [List.length_cons, List.length_nil]) <;> omega
theorem join_le (l : List Bytes) (B : Nat) (h : ∀ x ∈ l, x.length ≤ B) : (Lib.join l [32]).length ≤ l.length * (B + 1) := by
  cases l with
  | nil => simp [Lib.join_nil]
  | cons y r =>
    rw [Lib.join_cons, List.length_append, List.length_cons]
    have hy := h y (by simp)
    have : ∀ r : List Bytes, (∀ x ∈ r, x.length ≤ B) → (Lib.joinTail [32] r).length ≤ r.length * (B + 1) := by
      intro r
      induction r with
      | nil => intro _; simp [Lib.joinTail]
      | cons z r ih =>
        intro h
        have e : Lib.joinTail [32] (z :: r) = 32 :: (z ++ Lib.joinTail [32] r) := by simp [Lib.joinTail]
        have hz := h z (by simp)
        have ih := ih fun x hx => h x (by simp [hx])
        rw [e, List.length_cons, List.length_append, List.length_cons, Nat.succ_mul]
        omega
    have := this r fun x hx => h x (by simp [hx])
    rw [Nat.succ_mul]
    omega
def ZTok.fits (t : ZTok) : Prop := (-9223372036854775808 ≤ t.kind ∧ t.kind < 9223372036854775808) ∧ -9223372036854775808 ≤ t.n ∧ t.n < 9223372036854775808
theorem text_law (hG : GOk G) (t : ZTok) (hf : t.fits) (h : smallK t = true) : RR G 16 [zA t] [] (.tup [.str (textP t).1, i64 (textP t).2]) [] := by
  obtain ⟨h1, h2, h3, h4⟩ := smallK_facts h
  refine c16 hG t ⟨wordB t.word, Lib.decDigits t.n.toNat, prQ t.parts⟩ (by omega) hf.1 (fun hw c hc => ?_) (fun _ => c46 t.word (by omega)) (fun _ h0 => ?_) (fun _ => c48 hG t.parts (by omega) (by omega))
  · intro e
    subst e
    have hw : wordB t.word = true := hw
    cases hw2 : t.word with
    | nil => rw [hw2] at hc; cases hc
    | cons x r =>
      rw [hw2] at hw hc
      simp only [wordB, Bool.and_eq_true] at hw
      have := List.all_eq_true.1 hw.2 32 hc
      exact absurd this (by decide)
  · have := sound119 hG t.n hf.2.1 (by have := hf.2.2; omega) []
    rw [show Lib.itoa t.n = Lib.decDigits t.n.toNat by unfold Lib.itoa; rw [if_neg (by omega)]] at this
    exact this
theorem refT_law (t : ZTok) (hf : t.fits) (h : smallK t = true) : RR G 17 [zA t] [] (.tup [.str (textP t).1, i64 (textP t).2]) [] := by
  obtain ⟨h1, h2, h3, h4⟩ := smallK_facts h
  have h5 := refS_le h hf.2.2
  have := c17 (G := G) t hf.2 ⟨h1, by omega, by omega, by omega, h4⟩
  rw [refT_eq t hf.2.2 (by omega)] at this
  exact this
theorem textP_len {t : ZTok} (hf : t.fits) (h : smallK t = true) : (textP t).1.length ≤ 1820 := by
  have h1 := refT_eq t hf.2.2 (by have := refS_le h hf.2.2; omega)
  have h2 := refS_le h hf.2.2
  rw [← h1]
  unfold refT
  split
  · simp
  · exact h2
theorem c3 (hG : GOk G) (ts : List ZTok) (hfit : ∀ t ∈ ts, t.fits) : RR G 3 [.sl .no ⟨5, 32⟩ (ts.map zA)] [] (.bool true) [] := by
  refine ret_intro Tryz.func3 rfl Tryz.results3 (by decide +kernel) rfl (Nat.le_refl _) rfl (by simp) ?_
  refine wp_mid [(0, .sl .no ⟨5, 32⟩ (ts.map zA))] [] ?_ fun env ⟨h0, _⟩ => ?_
  · simp -implicitDefEqProofs only [strLim, lenLim, ne_eq, Nat.reduceLT, Nat.lt_irrefl, Nat.zero_lt_succ, List.getD_cons_zero, Nat.reduceEqDiff, Nat.reduceLeDiff, Nat.reduceAdd, Nat.reduceSub, Int.reduceNe, Int.reduceEq, Int.reduceLE, Int.reduceLT, Int.reduceToNat, Int.reduceNeg, Int.reduceBEq, Int.reduceBNe, reduceCtorEq, go_sem, ↓reduceIte]
  refine wp_mid [(0, .sl .no ⟨5, 32⟩ (ts.map zA))] [] ?_ fun env ⟨h0, _⟩ => ?_
  · simp -implicitDefEqProofs only [h0, strLim, lenLim, ne_eq, Nat.reduceLT, Nat.lt_irrefl, Nat.zero_lt_succ, List.getD_cons_zero, Nat.reduceEqDiff, Nat.reduceLeDiff, Nat.reduceAdd, Nat.reduceSub, Int.reduceNe, Int.reduceEq, Int.reduceLE, Int.reduceLT, Int.reduceToNat, Int.reduceNeg, Int.reduceBEq, Int.reduceBNe, reduceCtorEq, go_sem, ↓reduceIte]
    refine callW_pure (c12 hG) rfl rfl ?_
    simp -implicitDefEqProofs only [h0, strLim, lenLim, ne_eq, Nat.reduceLT, Nat.lt_irrefl, Nat.zero_lt_succ, List.getD_cons_zero, Nat.reduceEqDiff, Nat.reduceLeDiff, Nat.reduceAdd, Nat.reduceSub, Int.reduceNe, Int.reduceEq, Int.reduceLE, Int.reduceLT, Int.reduceToNat, Int.reduceNeg, Int.reduceBEq, Int.reduceBNe, reduceCtorEq, go_sem, ↓reduceIte]
  cases hs : smallT ts with
  | false =>
    simp -implicitDefEqProofs only [h0, strLim, lenLim, ne_eq, Nat.reduceLT, Nat.lt_irrefl, Nat.zero_lt_succ, List.getD_cons_zero, Nat.reduceEqDiff, Nat.reduceLeDiff, Nat.reduceAdd, Nat.reduceSub, Int.reduceNe, Int.reduceEq, Int.reduceLE, Int.reduceLT, Int.reduceToNat, Int.reduceNeg, Int.reduceBEq, Int.reduceBNe, reduceCtorEq, go_sem, ↓reduceIte]
    refine callW_pure (c13 ts) rfl rfl ?_
    rw [hs]
    simp -implicitDefEqProofs only [strLim, lenLim, ne_eq, Nat.reduceLT, Nat.lt_irrefl, Nat.zero_lt_succ, List.getD_cons_zero, Nat.reduceEqDiff, Nat.reduceLeDiff, Nat.reduceAdd, Nat.reduceSub, Int.reduceNe, Int.reduceEq, Int.reduceLE, Int.reduceLT, Int.reduceToNat, Int.reduceNeg, Int.reduceBEq, Int.reduceBNe, reduceCtorEq, go_sem, ↓reduceIte]
  | true =>
  refine wp_mid [(0, .sl .no ⟨5, 32⟩ (ts.map zA))] [] ?_ fun env ⟨h0, _⟩ => ?_
  · simp -implicitDefEqProofs only [h0, strLim, lenLim, ne_eq, Nat.reduceLT, Nat.lt_irrefl, Nat.zero_lt_succ, List.getD_cons_zero, Nat.reduceEqDiff, Nat.reduceLeDiff, Nat.reduceAdd, Nat.reduceSub, Int.reduceNe, Int.reduceEq, Int.reduceLE, Int.reduceLT, Int.reduceToNat, Int.reduceNeg, Int.reduceBEq, Int.reduceBNe, reduceCtorEq, go_sem, ↓reduceIte]
    refine callW_pure (c13 ts) rfl rfl ?_
    rw [hs]
    simp -implicitDefEqProofs only [h0, strLim, lenLim, ne_eq, Nat.reduceLT, Nat.lt_irrefl, Nat.zero_lt_succ, List.getD_cons_zero, Nat.reduceEqDiff, Nat.reduceLeDiff, Nat.reduceAdd, Nat.reduceSub, Int.reduceNe, Int.reduceEq, Int.reduceLE, Int.reduceLT, Int.reduceToNat, Int.reduceNeg, Int.reduceBEq, Int.reduceBNe, reduceCtorEq, go_sem, ↓reduceIte]
  simp only [smallT, Bool.and_eq_true, decide_eq_true_eq] at hs
  obtain ⟨hN, hK⟩ := hs
  have hK := List.all_eq_true.1 hK
  have h16 : ∀ t ∈ ts, RR G 16 [zA t] [] (.tup [.str (textP t).1, i64 (textP t).2]) [] := fun t ht => text_law hG t (hfit t ht) (hK t ht)
  have h17 : ∀ t ∈ ts, RR G 17 [zA t] [] (.tup [.str (textP t).1, i64 (textP t).2]) [] := fun t ht => refT_law t (hfit t ht) (hK t ht)
  have hjl : (Lib.join (ts.map fun t => (textP t).1) [32]).length ≤ 140737488355328 := by
    have := join_le (ts.map fun t => (textP t).1) 1820 (fun x hx => by
      obtain ⟨t, ht, rfl⟩ := List.mem_map.1 hx
      exact textP_len (hfit t ht) (hK t ht))
    rw [List.length_map] at this
    have h2 : ts.length * (1820 + 1) ≤ 30 * 1821 := Nat.mul_le_mul_right _ hN
    omega
  have h14 := c14 ts textP (by omega) hjl h16
  have h15 := c15 ts textP (by omega) hjl h17
  generalize hJ : joinT (ts.map textP) = J at *
  refine wp_assoc (wp_mid [(0, .sl .no ⟨5, 32⟩ (ts.map zA)), (3, .str J.1), (4, i64 J.2), (5, .str J.1), (6, i64 J.2)] [] ?_ fun env ⟨h0, h3, h4, h5, h6, _⟩ => ?_)
  · simp -implicitDefEqProofs only [h0, strLim, lenLim, ne_eq, Nat.reduceLT, Nat.lt_irrefl, Nat.zero_lt_succ, List.getD_cons_zero, Nat.reduceEqDiff, Nat.reduceLeDiff, Nat.reduceAdd, Nat.reduceSub, Int.reduceNe, Int.reduceEq, Int.reduceLE, Int.reduceLT, Int.reduceToNat, Int.reduceNeg, Int.reduceBEq, Int.reduceBNe, reduceCtorEq, go_sem, ↓reduceIte]
    refine callW_pure h14 rfl rfl ?_
    simp -implicitDefEqProofs only [h0, strLim, lenLim, ne_eq, Nat.reduceLT, Nat.lt_irrefl, Nat.zero_lt_succ, List.getD_cons_zero, Nat.reduceEqDiff, Nat.reduceLeDiff, Nat.reduceAdd, Nat.reduceSub, Int.reduceNe, Int.reduceEq, Int.reduceLE, Int.reduceLT, Int.reduceToNat, Int.reduceNeg, Int.reduceBEq, Int.reduceBNe, reduceCtorEq, go_sem, ↓reduceIte]
    refine callW_pure h15 rfl rfl ?_
    simp -implicitDefEqProofs only [h0, strLim, lenLim, ne_eq, Nat.reduceLT, Nat.lt_irrefl, Nat.zero_lt_succ, List.getD_cons_zero, Nat.reduceEqDiff, Nat.reduceLeDiff, Nat.reduceAdd, Nat.reduceSub, Int.reduceNe, Int.reduceEq, Int.reduceLE, Int.reduceLT, Int.reduceToNat, Int.reduceNeg, Int.reduceBEq, Int.reduceBNe, reduceCtorEq, go_sem, ↓reduceIte]
  refine wp_mid [(0, .sl .no ⟨5, 32⟩ (ts.map zA)), (3, .str J.1), (6, i64 J.2)] [] ?_ fun env ⟨h0, h3, h6, _⟩ => ?_
  · simp -implicitDefEqProofs only [h0, h3, h4, h5, h6, strLim, lenLim, ne_eq, Nat.reduceLT, Nat.lt_irrefl, Nat.zero_lt_succ, List.getD_cons_zero, Nat.reduceEqDiff, Nat.reduceLeDiff, Nat.reduceAdd, Nat.reduceSub, Int.reduceNe, Int.reduceEq, Int.reduceLE, Int.reduceLT, Int.reduceToNat, Int.reduceNeg, Int.reduceBEq, Int.reduceBNe, reduceCtorEq, go_sem, ↓reduceIte]
  refine wp_ghost (A := List Blk) (fun _ => True) (fun z => z) (fun _ => [(0, .sl .no ⟨5, 32⟩ (ts.map zA)), (3, .str J.1), (6, i64 J.2)]) ?_ fun z _ env ⟨h0, h3, h6, _⟩ => ?_
  · refine wp_mid [(0, .sl .no ⟨5, 32⟩ (ts.map zA)), (3, .str J.1), (6, i64 J.2), (39, .sl .no ⟨5, 32⟩ (ts.map zA)), (40, i64 ts.length), (41, i64 (0 : Nat))] [] ?_ fun env ⟨h0, h3, h6, h39, h40, h41, _⟩ => ?_
    · simp -implicitDefEqProofs only [h0, h3, h6, List.length_map, strLim, lenLim, ne_eq, Nat.reduceLT, Nat.lt_irrefl, Nat.zero_lt_succ, List.getD_cons_zero, Nat.reduceEqDiff, Nat.reduceLeDiff, Nat.reduceAdd, Nat.reduceSub, Int.reduceNe, Int.reduceEq, Int.reduceLE, Int.reduceLT, Int.reduceToNat, Int.reduceNeg, Int.reduceBEq, Int.reduceBNe, reduceCtorEq, go_sem, ↓reduceIte]
      rfl
    rw [wp_block_eq]
    refine wp_loop_garb (A := Nat) (fun i => [(0, .sl .no ⟨5, 32⟩ (ts.map zA)), (3, .str J.1), (6, i64 J.2), (39, .sl .no ⟨5, 32⟩ (ts.map zA)), (40, i64 ts.length), (41, i64 i)]) (fun _ => []) (fun i => i ≤ ts.length) (fun i => ts.length - i) 0 (Nat.zero_le _) rfl ⟨h0, h3, h6, h39, h40, h41, trivial⟩ ?_ ?_
    · intro x hx
      exact ⟨Nat.zero_le _, by simp, by simp [ren, ren2, ren1, ren0]⟩
    intro i hi
    by_cases hlt : i < ts.length
    · have hg : ts.getD i default = ts[i] := by simp [hlt]
      have hwl : i < 9223372036854775807 := by omega
      have a16 := h16 _ (List.getElem_mem hlt)
      have a17 := h17 _ (List.getElem_mem hlt)
      generalize ts[i] = t at *
      unfold zA partsA at a16 a17
      simp -implicitDefEqProofs only [hlt, hg, zA, partsA, List.length_map, strLim, lenLim, ne_eq, Nat.reduceLT, Nat.lt_irrefl, Nat.zero_lt_succ, List.getD_cons_zero, Nat.reduceEqDiff, Nat.reduceLeDiff, Nat.reduceAdd, Nat.reduceSub, Int.reduceNe, Int.reduceEq, Int.reduceLE, Int.reduceLT, Int.reduceToNat, Int.reduceNeg, Int.reduceBEq, Int.reduceBNe, reduceCtorEq, go_sem, ↓reduceIte]
      refine callW_pure a16 rfl rfl ?_
      simp -implicitDefEqProofs only [partsA, strLim, lenLim, ne_eq, Nat.reduceLT, Nat.lt_irrefl, Nat.zero_lt_succ, List.getD_cons_zero, Nat.reduceEqDiff, Nat.reduceLeDiff, Nat.reduceAdd, Nat.reduceSub, Int.reduceNe, Int.reduceEq, Int.reduceLE, Int.reduceLT, Int.reduceToNat, Int.reduceNeg, Int.reduceBEq, Int.reduceBNe, reduceCtorEq, go_sem, ↓reduceIte]
      refine callW_pure a17 rfl rfl ?_
      simp -implicitDefEqProofs only [hwl, wrap_cast_succ, strLim, lenLim, ne_eq, Nat.reduceLT, Nat.lt_irrefl, Nat.zero_lt_succ, List.getD_cons_zero, Nat.reduceEqDiff, Nat.reduceLeDiff, Nat.reduceAdd, Nat.reduceSub, Int.reduceNe, Int.reduceEq, Int.reduceLE, Int.reduceLT, Int.reduceToNat, Int.reduceNeg, Int.reduceBEq, Int.reduceBNe, reduceCtorEq, go_sem, ↓reduceIte]
      exact ⟨i + 1, ⟨by omega, by omega⟩, rfl⟩
    · have : i = ts.length := by omega
      subst this
      simp -implicitDefEqProofs only [hlt, List.length_map, List.take_length, strLim, lenLim, ne_eq, Nat.reduceLT, Nat.lt_irrefl, Nat.zero_lt_succ, List.getD_cons_zero, Nat.reduceEqDiff, Nat.reduceLeDiff, Nat.reduceAdd, Nat.reduceSub, Int.reduceNe, Int.reduceEq, Int.reduceLE, Int.reduceLT, Int.reduceToNat, Int.reduceNeg, Int.reduceBEq, Int.reduceBNe, reduceCtorEq, go_sem, ↓reduceIte]
      exact ⟨[], rfl⟩
  by_cases h2 : J.2 = 0
  · obtain ⟨hz, hJ1, hJ2⟩ := joinT_zero (by rw [hJ]; exact h2)
    rw [hJ] at hJ1
    obtain ⟨L, hL1, hL2⟩ := scan_join ts fun t ht => ⟨hz t ht, (hfit t ht).2.2⟩
    have hT : scanT J.1 = (L, 0, 0) := by
      rw [hJ1]
      unfold scanT
      rw [if_neg (by simp only; omega)]
      exact hL1
    have hB := scanT_len J.1
    rw [hT, hJ1] at hB
    simp only at hB
    have h18 := c18 (G := G) hG J.1 (by rw [hJ1]; simp only; omega) _ hT
    have h19 := c19 (G := G) (L.map Tok.z) ts (by rw [List.length_map]; omega) (fun t ht => by
      obtain ⟨u, hu, rfl⟩ := List.mem_map.1 ht
      have := hB.2 u hu
      simp only [Tok.z]
      omega)
    rw [decide_eq_true (by rw [List.map_map]; exact hL2), List.map_map] at h19
    have hzA : (zA ∘ Tok.z) = tokA := rfl
    rw [hzA] at h19
    refine wp_mid [(0, .sl .no ⟨5, 32⟩ (ts.map zA)), (3, .str J.1)] z ?_ fun env ⟨h0, h3, _⟩ => ?_
    · simp -implicitDefEqProofs only [h0, h3, h6, h2, strLim, lenLim, ne_eq, Nat.reduceLT, Nat.lt_irrefl, Nat.zero_lt_succ, List.getD_cons_zero, Nat.reduceEqDiff, Nat.reduceLeDiff, Nat.reduceAdd, Nat.reduceSub, Int.reduceNe, Int.reduceEq, Int.reduceLE, Int.reduceLT, Int.reduceToNat, Int.reduceNeg, Int.reduceBEq, Int.reduceBNe, reduceCtorEq, go_sem, ↓reduceIte]
    simp -implicitDefEqProofs only [h0, h3, strLim, lenLim, ne_eq, Nat.reduceLT, Nat.lt_irrefl, Nat.zero_lt_succ, List.getD_cons_zero, Nat.reduceEqDiff, Nat.reduceLeDiff, Nat.reduceAdd, Nat.reduceSub, Int.reduceNe, Int.reduceEq, Int.reduceLE, Int.reduceLT, Int.reduceToNat, Int.reduceNeg, Int.reduceBEq, Int.reduceBNe, reduceCtorEq, go_sem, ↓reduceIte]
    refine callW_pure h18 rfl rfl ?_
    simp -implicitDefEqProofs only [h0, toksA, strLim, lenLim, ne_eq, Nat.reduceLT, Nat.lt_irrefl, Nat.zero_lt_succ, List.getD_cons_zero, Nat.reduceEqDiff, Nat.reduceLeDiff, Nat.reduceAdd, Nat.reduceSub, Int.reduceNe, Int.reduceEq, Int.reduceLE, Int.reduceLT, Int.reduceToNat, Int.reduceNeg, Int.reduceBEq, Int.reduceBNe, reduceCtorEq, go_sem, ↓reduceIte]
    refine callW_pure h19 rfl rfl ?_
    simp -implicitDefEqProofs only [strLim, lenLim, ne_eq, Nat.reduceLT, Nat.lt_irrefl, Nat.zero_lt_succ, List.getD_cons_zero, Nat.reduceEqDiff, Nat.reduceLeDiff, Nat.reduceAdd, Nat.reduceSub, Int.reduceNe, Int.reduceEq, Int.reduceLE, Int.reduceLT, Int.reduceToNat, Int.reduceNeg, Int.reduceBEq, Int.reduceBNe, reduceCtorEq, go_sem, ↓reduceIte]
  · simp -implicitDefEqProofs only [h6, h2, strLim, lenLim, ne_eq, Nat.reduceLT, Nat.lt_irrefl, Nat.zero_lt_succ, List.getD_cons_zero, Nat.reduceEqDiff, Nat.reduceLeDiff, Nat.reduceAdd, Nat.reduceSub, Int.reduceNe, Int.reduceEq, Int.reduceLE, Int.reduceLT, Int.reduceToNat, Int.reduceNeg, Int.reduceBEq, Int.reduceBNe, reduceCtorEq, go_sem, ↓reduceIte]
end Go.Pv
/- The law of TokenLong's code. -/
namespace Go.Pv
open Go Go.Proofs
set_option maxRecDepth 4000
variable {G : Frz}
theorem same_toks (L M : List Tok) (hN : L.length ≤ 2147483000) (hq : ∀ t ∈ L, t.parts.length ≤ 2147483000) : RR G 19 [toksA L, toksA M] [] (.bool (decide (L.map Tok.bare0 = M.map Tok.bare0))) [] := by
  have h := c19 (G := G) (L.map Tok.z) (M.map Tok.z) (by simpa using hN) (fun t ht => by
    obtain ⟨u, hu, rfl⟩ := List.mem_map.1 ht
    exact hq u hu)
  have e : ((L.map Tok.z).map ZTok.bare0 = (M.map Tok.z).map ZTok.bare0) ↔ (L.map Tok.bare0 = M.map Tok.bare0) := by
    have hz : ∀ l : List Tok, (l.map Tok.z).map ZTok.bare0 = (l.map Tok.bare0).map Tok.z := fun l => by
      rw [List.map_map, List.map_map]
      rfl
    rw [hz, hz]
    refine List.map_inj_right fun a b hab => ?_
    cases a; cases b
    simp only [Tok.z, ZTok.mk.injEq, Int.ofNat_inj] at hab
    obtain ⟨rfl, rfl, rfl, rfl, rfl⟩ := hab
    rfl
  rw [decide_eq_decide.2 e] at h
  rw [List.map_map, List.map_map] at h
  exact h
theorem c5 (hG : GOk G) (s : Bytes) (n : Nat) (hn : n < 65536) : RR G 5 [.str s, .int .u16 n] [] (.bool true) [] := by
  refine ret_intro Tryz.func5 rfl Tryz.results5 (by decide +kernel) rfl (Nat.le_refl _) rfl (by simp) ?_
  refine wp_mid [(0, .str s), (1, .int .u16 n)] [] ?_ fun env ⟨h0, h1, _⟩ => ?_
  · simp -implicitDefEqProofs only [strLim, lenLim, ne_eq, Nat.reduceLT, Nat.lt_irrefl, Nat.zero_lt_succ, List.getD_cons_zero, Nat.reduceEqDiff, Nat.reduceLeDiff, Nat.reduceAdd, Nat.reduceSub, Int.reduceNe, Int.reduceEq, Int.reduceLE, Int.reduceLT, Int.reduceToNat, Int.reduceNeg, Int.reduceBEq, Int.reduceBNe, reduceCtorEq, go_sem, ↓reduceIte]
  refine wp_mid [(0, .str s), (1, .int .u16 n)] [] ?_ fun env ⟨h0, h1, _⟩ => ?_
  · simp -implicitDefEqProofs only [h0, h1, strLim, lenLim, ne_eq, Nat.reduceLT, Nat.lt_irrefl, Nat.zero_lt_succ, List.getD_cons_zero, Nat.reduceEqDiff, Nat.reduceLeDiff, Nat.reduceAdd, Nat.reduceSub, Int.reduceNe, Int.reduceEq, Int.reduceLE, Int.reduceLT, Int.reduceToNat, Int.reduceNeg, Int.reduceBEq, Int.reduceBNe, reduceCtorEq, go_sem, ↓reduceIte]
    refine callW_pure (c12 hG) rfl rfl ?_
    simp -implicitDefEqProofs only [h0, h1, strLim, lenLim, ne_eq, Nat.reduceLT, Nat.lt_irrefl, Nat.zero_lt_succ, List.getD_cons_zero, Nat.reduceEqDiff, Nat.reduceLeDiff, Nat.reduceAdd, Nat.reduceSub, Int.reduceNe, Int.reduceEq, Int.reduceLE, Int.reduceLT, Int.reduceToNat, Int.reduceNeg, Int.reduceBEq, Int.reduceBNe, reduceCtorEq, go_sem, ↓reduceIte]
  by_cases hl : 60 < s.length
  · simp -implicitDefEqProofs only [h0, hl, strLim, lenLim, ne_eq, Nat.reduceLT, Nat.lt_irrefl, Nat.zero_lt_succ, List.getD_cons_zero, Nat.reduceEqDiff, Nat.reduceLeDiff, Nat.reduceAdd, Nat.reduceSub, Int.reduceNe, Int.reduceEq, Int.reduceLE, Int.reduceLT, Int.reduceToNat, Int.reduceNeg, Int.reduceBEq, Int.reduceBNe, reduceCtorEq, go_sem, ↓reduceIte]
  refine wp_mid [(0, .str s), (1, .int .u16 n)] [] ?_ fun env ⟨h0, h1, _⟩ => ?_
  · simp -implicitDefEqProofs only [h0, h1, hl, strLim, lenLim, ne_eq, Nat.reduceLT, Nat.lt_irrefl, Nat.zero_lt_succ, List.getD_cons_zero, Nat.reduceEqDiff, Nat.reduceLeDiff, Nat.reduceAdd, Nat.reduceSub, Int.reduceNe, Int.reduceEq, Int.reduceLE, Int.reduceLT, Int.reduceToNat, Int.reduceNeg, Int.reduceBEq, Int.reduceBNe, reduceCtorEq, go_sem, ↓reduceIte]
  rcases hT : scanT s with ⟨L, q, e⟩
  have hB := scanT_len s
  rw [hT] at hB
  simp only at hB
  have h18 := c18 (G := G) hG s (by omega) _ hT
  have hm : ((n : Int)).tmod 2100 = ((n % 2100 : Nat) : Int) := (Int.ofNat_tmod _ _).symm
  generalize hk : n % 2100 = k at *
  have hk2 : k < 2100 := by omega
  refine wp_assoc (wp_mid [(0, .str s), (1, .int .u16 n), (5, toksA L), (7, i64 e), (8, .sl .yes ⟨1, 5⟩ (bytesA' s))] [] ?_ fun env ⟨h0, h1, h5, h7, h8, _⟩ => ?_)
  · have hs32 : (s.length ≤ 4294967296) = True := by simp; omega
    simp -implicitDefEqProofs only [h0, h1, strLim, lenLim, ne_eq, Nat.reduceLT, Nat.lt_irrefl, Nat.zero_lt_succ, List.getD_cons_zero, Nat.reduceEqDiff, Nat.reduceLeDiff, Nat.reduceAdd, Nat.reduceSub, Int.reduceNe, Int.reduceEq, Int.reduceLE, Int.reduceLT, Int.reduceToNat, Int.reduceNeg, Int.reduceBEq, Int.reduceBNe, reduceCtorEq, go_sem, ↓reduceIte]
    refine callW_pure h18 rfl rfl ?_
    simp -implicitDefEqProofs only [h0, h1, toksA, hs32, strLim, lenLim, ne_eq, Nat.reduceLT, Nat.lt_irrefl, Nat.zero_lt_succ, List.getD_cons_zero, Nat.reduceEqDiff, Nat.reduceLeDiff, Nat.reduceAdd, Nat.reduceSub, Int.reduceNe, Int.reduceEq, Int.reduceLE, Int.reduceLT, Int.reduceToNat, Int.reduceNeg, Int.reduceBEq, Int.reduceBNe, reduceCtorEq, go_sem, ↓reduceIte]
    rfl
  have hw : IntKind.i64.wrap (k : Int) = (k : Int) := by rw [IntKind.wrap_i64]; omega
  refine wp_mid [(0, .str s), (5, toksA L), (7, i64 e), (8, .sl .yes ⟨1, 5⟩ (bytesA' (s ++ List.replicate k 32)))] [] ?_ fun env ⟨h0, h5, h7, h8, _⟩ => ?_
  · refine wp_mid [(0, .str s), (5, toksA L), (7, i64 e), (8, .sl .yes ⟨1, 5⟩ (bytesA' s)), (31, i64 k), (32, i64 (0 : Nat))] [] ?_ fun env ⟨h0, h5, h7, h8, h31, h32, _⟩ => ?_
    · simp -implicitDefEqProofs only [h0, h1, h5, h7, h8, hm, hw, strLim, lenLim, ne_eq, Nat.reduceLT, Nat.lt_irrefl, Nat.zero_lt_succ, List.getD_cons_zero, Nat.reduceEqDiff, Nat.reduceLeDiff, Nat.reduceAdd, Nat.reduceSub, Int.reduceNe, Int.reduceEq, Int.reduceLE, Int.reduceLT, Int.reduceToNat, Int.reduceNeg, Int.reduceBEq, Int.reduceBNe, reduceCtorEq, go_sem, ↓reduceIte]
      rfl
    rw [wp_block_eq]
    refine wp_loop_use (A := Nat) (fun i => [(0, .str s), (5, toksA L), (7, i64 e), (8, .sl .yes ⟨1, 5⟩ (bytesA' (s ++ List.replicate i 32))), (31, i64 k), (32, i64 i)]) (fun _ => []) (fun i => i ≤ k) (fun i => k - i) 0 (Nat.zero_le _) rfl ⟨h0, h5, h7, by rw [h8]; simp, h31, h32, trivial⟩ ?_
    intro i hi
    by_cases hlt : i < k
    · have hwl : i < 9223372036854775807 := by omega
      simp -implicitDefEqProofs only [hlt, hwl, wrap_cast_succ, strLim, lenLim, ne_eq, Nat.reduceLT, Nat.lt_irrefl, Nat.zero_lt_succ, List.getD_cons_zero, Nat.reduceEqDiff, Nat.reduceLeDiff, Nat.reduceAdd, Nat.reduceSub, Int.reduceNe, Int.reduceEq, Int.reduceLE, Int.reduceLT, Int.reduceToNat, Int.reduceNeg, Int.reduceBEq, Int.reduceBNe, reduceCtorEq, go_sem, ↓reduceIte]
      exact ⟨by rw [bytesA'_len, List.length_append, List.length_replicate]; omega, i + 1, ⟨by omega, by omega⟩, by simp [bytesA', List.replicate_succ'], rfl⟩
    · have : i = k := by omega
      subst this
      simp -implicitDefEqProofs only [hlt, strLim, lenLim, ne_eq, Nat.reduceLT, Nat.lt_irrefl, Nat.zero_lt_succ, List.getD_cons_zero, Nat.reduceEqDiff, Nat.reduceLeDiff, Nat.reduceAdd, Nat.reduceSub, Int.reduceNe, Int.reduceEq, Int.reduceLE, Int.reduceLT, Int.reduceToNat, Int.reduceNeg, Int.reduceBEq, Int.reduceBNe, reduceCtorEq, go_sem, ↓reduceIte]
  have hbl : (s ++ List.replicate k 32).length = s.length + k := by simp
  have hsp := scanT_sp s k
  generalize hb : s ++ List.replicate k 32 = b at *
  rcases hT2 : scanT b with ⟨M, q2, e2⟩
  have h18b := c18 (G := G) hG b (by omega) _ hT2
  have hbb : bytesA (bytesA' b) = some b := bytesA_map b
  refine wp_mid [(0, .str s), (5, toksA L), (7, i64 e), (8, .sl .yes ⟨1, 5⟩ (bytesA' b)), (9, toksA M), (10, i64 q2), (11, i64 e2)] [] ?_ fun env ⟨h0, h5, h7, h8, h9, h10, h11, _⟩ => ?_
  · simp -implicitDefEqProofs only [h0, h5, h7, h8, hbb, strLim, lenLim, ne_eq, Nat.reduceLT, Nat.lt_irrefl, Nat.zero_lt_succ, List.getD_cons_zero, Nat.reduceEqDiff, Nat.reduceLeDiff, Nat.reduceAdd, Nat.reduceSub, Int.reduceNe, Int.reduceEq, Int.reduceLE, Int.reduceLT, Int.reduceToNat, Int.reduceNeg, Int.reduceBEq, Int.reduceBNe, reduceCtorEq, go_sem, ↓reduceIte]
    refine callW_pure h18b rfl rfl ?_
    simp -implicitDefEqProofs only [h0, h5, h7, h8, toksA, strLim, lenLim, ne_eq, Nat.reduceLT, Nat.lt_irrefl, Nat.zero_lt_succ, List.getD_cons_zero, Nat.reduceEqDiff, Nat.reduceLeDiff, Nat.reduceAdd, Nat.reduceSub, Int.reduceNe, Int.reduceEq, Int.reduceLE, Int.reduceLT, Int.reduceToNat, Int.reduceNeg, Int.reduceBEq, Int.reduceBNe, reduceCtorEq, go_sem, ↓reduceIte]
  by_cases h2000 : b.length > 2000
  · have hM : (M, q2, e2) = ([], 2000, 2) := by rw [← hT2]; unfold scanT; rw [if_pos h2000]
    cases hM
    have hlb : ((2000 : Int) < (b.length : Int)) = True := by simp; omega
    simp -implicitDefEqProofs only [h0, h5, h7, h8, h9, h10, h11, bytesA'_len, toksA, hlb, h2000, strLim, lenLim, ne_eq, Nat.reduceLT, Nat.lt_irrefl, Nat.zero_lt_succ, List.getD_cons_zero, Nat.reduceEqDiff, Nat.reduceLeDiff, Nat.reduceAdd, Nat.reduceSub, Int.reduceNe, Int.reduceEq, Int.reduceLE, Int.reduceLT, Int.reduceToNat, Int.reduceNeg, Int.reduceBEq, Int.reduceBNe, reduceCtorEq, go_sem, ↓reduceIte]
    exact ⟨fun _ => rfl, fun h => absurd rfl h⟩
  refine wp_mid [(0, .str s), (5, toksA L), (7, i64 e), (9, toksA M), (11, i64 e2)] [] ?_ fun env ⟨h0, h5, h7, h9, h11, _⟩ => ?_
  · have hlb : (2000 < b.length) = False := by simp; omega
    simp -implicitDefEqProofs only [h0, h5, h7, h8, h9, h10, h11, bytesA'_len, hlb, strLim, lenLim, ne_eq, Nat.reduceLT, Nat.lt_irrefl, Nat.zero_lt_succ, List.getD_cons_zero, Nat.reduceEqDiff, Nat.reduceLeDiff, Nat.reduceAdd, Nat.reduceSub, Int.reduceNe, Int.reduceEq, Int.reduceLE, Int.reduceLT, Int.reduceToNat, Int.reduceNeg, Int.reduceBEq, Int.reduceBNe, reduceCtorEq, go_sem, ↓reduceIte]
  obtain ⟨hsp1, hsp2⟩ := hsp (by omega)
  rw [hT] at hsp1 hsp2
  simp only at hsp1 hsp2
  by_cases he : e = 0
  rotate_left
  · have he2 : e2 ≠ 0 := by have := hsp2 he; rw [hT2] at this; exact this
    have hne : ((e2 : Int) != 0) = true := by rw [bne_iff_ne]; omega
    simp -implicitDefEqProofs only [h7, h11, he, hne, strLim, lenLim, ne_eq, Nat.reduceLT, Nat.lt_irrefl, Nat.zero_lt_succ, List.getD_cons_zero, Nat.reduceEqDiff, Nat.reduceLeDiff, Nat.reduceAdd, Nat.reduceSub, Int.reduceNe, Int.reduceEq, Int.reduceLE, Int.reduceLT, Int.reduceToNat, Int.reduceNeg, Int.reduceBEq, Int.reduceBNe, reduceCtorEq, go_sem, ↓reduceIte]
  have hM : (M, q2, e2) = (L, q, e) := by rw [← hT2]; exact hsp1 he
  cases hM
  subst he
  have hNL : L.length ≤ 2147483000 := by omega
  have hqL : ∀ t ∈ L, t.parts.length ≤ 2147483000 := fun t ht => by have := hB.2 t ht; omega
  have hLL := same_toks (G := G) L L hNL hqL
  rw [decide_eq_true rfl] at hLL
  rcases hT3 : scanT (35 :: (s ++ 10 :: s)) with ⟨R, q3, e3⟩
  have h18r := c18 (G := G) hG (35 :: (s ++ 10 :: s)) (by simp; omega) _ hT3
  have hrm := scanT_remark s
  rw [hT, hT3] at hrm
  refine wp_mid [(0, .str s), (5, toksA L), (9, toksA L), (11, i64 (0 : Nat))] [] ?_ fun env ⟨h0, h5, h9, h11, _⟩ => ?_
  · simp -implicitDefEqProofs only [h0, h5, h7, h9, h11, strLim, lenLim, ne_eq, Nat.reduceLT, Nat.lt_irrefl, Nat.zero_lt_succ, List.getD_cons_zero, Nat.reduceEqDiff, Nat.reduceLeDiff, Nat.reduceAdd, Nat.reduceSub, Int.reduceNe, Int.reduceEq, Int.reduceLE, Int.reduceLT, Int.reduceToNat, Int.reduceNeg, Int.reduceBEq, Int.reduceBNe, reduceCtorEq, go_sem, ↓reduceIte]
  have hx : ([35] ++ s ++ [10] ++ s : Bytes) = 35 :: (s ++ 10 :: s) := by simp
  refine wp_mid [(0, .str s), (5, toksA L), (9, toksA L), (11, i64 (0 : Nat)), (12, toksA R), (14, i64 e3)] [] ?_ fun env ⟨h0, h5, h9, h11, h12, h14, _⟩ => ?_
  · have hx2 : (35 :: (s ++ [10] ++ s) : Bytes) = 35 :: (s ++ 10 :: s) := by simp
    simp -implicitDefEqProofs only [h0, h5, h9, h11, hx2, strLim, lenLim, ne_eq, Nat.reduceLT, Nat.lt_irrefl, Nat.zero_lt_succ, List.getD_cons_zero, Nat.reduceEqDiff, Nat.reduceLeDiff, Nat.reduceAdd, Nat.reduceSub, Int.reduceNe, Int.reduceEq, Int.reduceLE, Int.reduceLT, Int.reduceToNat, Int.reduceNeg, Int.reduceBEq, Int.reduceBNe, reduceCtorEq, go_sem, ↓reduceIte]
    refine ⟨by omega, by omega, by rw [List.length_append, List.length_singleton]; omega, ?_⟩
    refine callW_pure h18r rfl rfl ?_
    simp -implicitDefEqProofs only [h0, h5, h9, h11, toksA, strLim, lenLim, ne_eq, Nat.reduceLT, Nat.lt_irrefl, Nat.zero_lt_succ, List.getD_cons_zero, Nat.reduceEqDiff, Nat.reduceLeDiff, Nat.reduceAdd, Nat.reduceSub, Int.reduceNe, Int.reduceEq, Int.reduceLE, Int.reduceLT, Int.reduceToNat, Int.reduceNeg, Int.reduceBEq, Int.reduceBNe, reduceCtorEq, go_sem, ↓reduceIte]
  unfold toksA at hLL
  refine wp_ghost (A := Unit) (fun _ => ∀ x ∈ s, x ≠ 10) (fun _ => []) (fun _ => [(5, toksA L), (9, toksA L), (11, i64 (0 : Nat)), (12, toksA R), (14, i64 e3)]) ?_ fun _ h10 env ⟨h5, h9, h11, h12, h14, _⟩ => ?_
  · refine wp_mid [(0, .str s), (5, toksA L), (9, toksA L), (11, i64 (0 : Nat)), (12, toksA R), (14, i64 e3), (74, i64 s.length), (75, i64 (0 : Nat))] [] ?_ fun env ⟨h0, h5, h9, h11, h12, h14, h74, h75, _⟩ => ?_
    · simp -implicitDefEqProofs only [h0, h5, h9, h11, h12, h14, strLim, lenLim, ne_eq, Nat.reduceLT, Nat.lt_irrefl, Nat.zero_lt_succ, List.getD_cons_zero, Nat.reduceEqDiff, Nat.reduceLeDiff, Nat.reduceAdd, Nat.reduceSub, Int.reduceNe, Int.reduceEq, Int.reduceLE, Int.reduceLT, Int.reduceToNat, Int.reduceNeg, Int.reduceBEq, Int.reduceBNe, reduceCtorEq, go_sem, ↓reduceIte]
      rfl
    rw [wp_block_eq]
    refine wp_loop_use (A := Nat) (fun i => [(0, .str s), (5, toksA L), (9, toksA L), (11, i64 (0 : Nat)), (12, toksA R), (14, i64 e3), (74, i64 s.length), (75, i64 i)]) (fun _ => []) (fun i => i ≤ s.length ∧ ∀ x ∈ s.take i, x ≠ 10) (fun i => s.length - i) 0 ⟨Nat.zero_le _, by simp⟩ rfl ⟨h0, h5, h9, h11, h12, h14, h74, h75, trivial⟩ ?_
    rintro i ⟨hi, hp⟩
    by_cases hlt : i < s.length
    · have hwl : i < 9223372036854775807 := by omega
      have hg : s.getD i 0 = s[i] := by simp [hlt]
      have htk : s.take (i + 1) = s.take i ++ [s[i]] := by rw [List.take_add_one]; simp [hlt]
      generalize s[i] = c at *
      simp -implicitDefEqProofs only [hlt, hg, hwl, wrap_cast_succ, toksA, strLim, lenLim, ne_eq, Nat.reduceLT, Nat.lt_irrefl, Nat.zero_lt_succ, List.getD_cons_zero, Nat.reduceEqDiff, Nat.reduceLeDiff, Nat.reduceAdd, Nat.reduceSub, Int.reduceNe, Int.reduceEq, Int.reduceLE, Int.reduceLT, Int.reduceToNat, Int.reduceNeg, Int.reduceBEq, Int.reduceBNe, reduceCtorEq, go_sem, ↓reduceIte]
      refine ⟨fun hc => ?_, fun hc => ⟨i + 1, ⟨⟨by omega, fun x hx => ?_⟩, by omega⟩, rfl⟩⟩
      · refine callW_pure hLL rfl rfl ?_
        simp -implicitDefEqProofs only [strLim, lenLim, ne_eq, Nat.reduceLT, Nat.lt_irrefl, Nat.zero_lt_succ, List.getD_cons_zero, Nat.reduceEqDiff, Nat.reduceLeDiff, Nat.reduceAdd, Nat.reduceSub, Int.reduceNe, Int.reduceEq, Int.reduceLE, Int.reduceLT, Int.reduceToNat, Int.reduceNeg, Int.reduceBEq, Int.reduceBNe, reduceCtorEq, go_sem, ↓reduceIte]
      · rw [htk] at hx
        rcases List.mem_append.1 hx with h | h
        · exact hp x h
        · rw [List.mem_singleton.1 h]; exact hc
    · have : i = s.length := by omega
      subst this
      rw [List.take_length] at hp
      simp -implicitDefEqProofs only [hlt, strLim, lenLim, ne_eq, Nat.reduceLT, Nat.lt_irrefl, Nat.zero_lt_succ, List.getD_cons_zero, Nat.reduceEqDiff, Nat.reduceLeDiff, Nat.reduceAdd, Nat.reduceSub, Int.reduceNe, Int.reduceEq, Int.reduceLE, Int.reduceLT, Int.reduceToNat, Int.reduceNeg, Int.reduceBEq, Int.reduceBNe, reduceCtorEq, go_sem, ↓reduceIte]
      exact ⟨(), hp⟩
  obtain ⟨hr1, hr2⟩ := hrm h10 (by omega) rfl
  simp only at hr1 hr2
  subst hr1
  have hLR := same_toks (G := G) L R hNL hqL
  rw [decide_eq_true hr2] at hLR
  unfold toksA at hLR
  simp -implicitDefEqProofs only [h5, h9, h11, h12, h14, toksA, strLim, lenLim, ne_eq, Nat.reduceLT, Nat.lt_irrefl, Nat.zero_lt_succ, List.getD_cons_zero, Nat.reduceEqDiff, Nat.reduceLeDiff, Nat.reduceAdd, Nat.reduceSub, Int.reduceNe, Int.reduceEq, Int.reduceLE, Int.reduceLT, Int.reduceToNat, Int.reduceNeg, Int.reduceBEq, Int.reduceBNe, reduceCtorEq, go_sem, ↓reduceIte]
  refine callW_pure hLL rfl rfl ?_
  simp -implicitDefEqProofs only [h5, h9, h11, h12, h14, toksA, strLim, lenLim, ne_eq, Nat.reduceLT, Nat.lt_irrefl, Nat.zero_lt_succ, List.getD_cons_zero, Nat.reduceEqDiff, Nat.reduceLeDiff, Nat.reduceAdd, Nat.reduceSub, Int.reduceNe, Int.reduceEq, Int.reduceLE, Int.reduceLT, Int.reduceToNat, Int.reduceNeg, Int.reduceBEq, Int.reduceBNe, reduceCtorEq, go_sem, ↓reduceIte]
  refine callW_pure hLR rfl rfl ?_
  simp -implicitDefEqProofs only [h5, h9, h11, h12, h14, toksA, strLim, lenLim, ne_eq, Nat.reduceLT, Nat.lt_irrefl, Nat.zero_lt_succ, List.getD_cons_zero, Nat.reduceEqDiff, Nat.reduceLeDiff, Nat.reduceAdd, Nat.reduceSub, Int.reduceNe, Int.reduceEq, Int.reduceLE, Int.reduceLT, Int.reduceToNat, Int.reduceNeg, Int.reduceBEq, Int.reduceBNe, reduceCtorEq, go_sem, ↓reduceIte]
  refine callW_pure (c22 [97] (by decide)) rfl rfl ?_
  have h97 : name2 [97] = true := by decide
  rw [h97]
  simp -implicitDefEqProofs only [strLim, lenLim, ne_eq, Nat.reduceLT, Nat.lt_irrefl, Nat.zero_lt_succ, List.getD_cons_zero, Nat.reduceEqDiff, Nat.reduceLeDiff, Nat.reduceAdd, Nat.reduceSub, Int.reduceNe, Int.reduceEq, Int.reduceLE, Int.reduceLT, Int.reduceToNat, Int.reduceNeg, Int.reduceBEq, Int.reduceBNe, reduceCtorEq, go_sem, ↓reduceIte]
end Go.Pv
/- The closed facts of the row of TokenLong. -/
namespace Go.Proofs.YtjkacllmilafoaaGreatDoor.tokenLong
open Go Go.Proofs Go.Pv
set_option maxRecDepth 4000
theorem band {a b : Bool} (h1 : a = true) (h2 : b = true) : (a && b) = true := by rw [h1, h2] <;> rfl
theorem fact0 : (Rows.tokenLongRow.wf (OpenSpec.ofChange Rows.tokenLongSpec) : Bool) = true := by kernel_rfl
theorem fact1 : (laidOutB Tryz.prog : Bool) = true := by kernel_rfl
theorem fact2 : (mapsRowed Tryz.prog : Bool) = true := by kernel_rfl
theorem fact3 : (Tryz.f5.params.all (Tryz.prog.readableRec ·) : Bool) = true := by kernel_rfl
theorem fact4 : (namedTie Tryz.prog Rows.tokenLongRow.named Rows.tokenLongSpec.vars : Bool) = true := by kernel_rfl
theorem fact5 : ((Rows.tokenLongRow.stops == []) : Bool) = true := by kernel_rfl
theorem fact6 : ((Tryz.prog.stops == []) : Bool) = true := by kernel_rfl
theorem fact7 : ((Rows.tokenLongRow.knobs == []) : Bool) = true := by kernel_rfl
theorem fact8 : ((Tryz.prog.stopKnobs == []) : Bool) = true := by kernel_rfl
theorem fact9 : ((Rows.tokenLongRow.inPlace == Tryz.prog.inPlace 5) : Bool) = true := by kernel_rfl
theorem fact10 : ((Rows.tokenLongRow.unfollowed == Tryz.prog.unfollowed 5) : Bool) = true := by kernel_rfl
theorem fact11 : ((Rows.tokenLongRow.recurses == Tryz.prog.recurses 5) : Bool) = true := by kernel_rfl
theorem fact12 : ((Rows.tokenLongRow.named == Tryz.prog.varsNamed 5) : Bool) = true := by kernel_rfl
theorem fact13 : ((Rows.tokenLongRow.maps == (Tryz.f5.params.toList ++ Rows.tokenLongSpec.plain.varTypes Tryz.prog).any (Tryz.prog.mapsRec ·)) : Bool) = true := by kernel_rfl
theorem fact14 : ((Rows.tokenLongRow.ifaces == (Tryz.f5.params.toList ++ Rows.tokenLongSpec.plain.varTypes Tryz.prog).any (Tryz.prog.ifacesRec ·)) : Bool) = true := by kernel_rfl
theorem fact15 : ((Rows.tokenLongRow.mapsOut == Tryz.prog.mapsAmong Tryz.f5.resultTypes.toList) : Bool) = true := by kernel_rfl
theorem fact16 : ((Rows.tokenLongRow.loops == (Tryz.f5.params.toList ++ Rows.tokenLongSpec.plain.varTypes Tryz.prog).any (Tryz.prog.loopsFrom ·)) : Bool) = true := by kernel_rfl
theorem fact17 : ((Rows.tokenLongRow.wideKeys == (Tryz.f5.params.toList ++ Rows.tokenLongSpec.plain.varTypes Tryz.prog ++ Tryz.f5.resultTypes.toList).any (Tryz.prog.wideKeysFrom ·)) : Bool) = true := by kernel_rfl
theorem fact18 : (Rows.tokenLongSpec.vars.all (Tryz.prog.varReadable ·) : Bool) = true := by kernel_rfl
theorem fact19 : (Tryz.f5.resultTypes.all (fun t => Tryz.prog.readableRec t && decide (t < Tryz.prog.types.size)) : Bool) = true := by kernel_rfl
theorem fact20 : ((Rows.tokenLongRow.ifacesOut == Tryz.f5.resultTypes.toList.any (Tryz.prog.ifacesRec ·)) : Bool) = true := by kernel_rfl
theorem fact21 : ((Rows.tokenLongRow.loopsOut == Tryz.f5.resultTypes.toList.any (Tryz.prog.loopsFrom ·)) : Bool) = true := by kernel_rfl
theorem fact22 : ((Rows.tokenLongRow.plainKeys == Tryz.prog.plainKeys) : Bool) = true := by kernel_rfl
theorem fact23 : (Rows.tokenLongRow.shortTexts.isNone : Bool) = true := by kernel_rfl
theorem fact24 : (Tryz.prog.stopsHeard : Bool) = true := by kernel_rfl
theorem fact25 : (Tryz.prog.mayEnter : Bool) = true := by kernel_rfl
theorem fact26 : ((Rows.tokenLongRow.lifted == Tryz.prog.liftsFinal) : Bool) = true := by kernel_rfl
theorem fact27 : ((Tryz.prog.make == some Rows.tokenLongRow.make) : Bool) = true := by kernel_rfl
theorem fact28 : ((Rows.tokenLongRow.kinds == (if Rows.tokenLongRow.domain.isEmpty then [] else Tryz.f5.params.toList.map fun t => match Tryz.prog.underlying t with | some (.int k) => some k | _ => none)) : Bool) = true := by kernel_rfl
theorem fact29 : ((Rows.tokenLongRow.pinned == Rows.tokenLongRow.pinnedBy) : Bool) = true := by kernel_rfl
theorem fact30 : ((Rows.tokenLongRow.veiled == (Tryz.f5.params.toList ++ Rows.tokenLongSpec.plain.varTypes Tryz.prog ++ Tryz.f5.resultTypes.toList).any (Tryz.prog.veiledRec ·)) : Bool) = true := by kernel_rfl
theorem fact31 : (Rows.tokenLongRow.veiledFits Tryz.prog Tryz.f5.params.toList (Tryz.f5.params.toList ++ Rows.tokenLongSpec.plain.varTypes Tryz.prog ++ Tryz.f5.resultTypes.toList) : Bool) = true := by kernel_rfl
theorem closed : joinedFacts Tryz.prog 5 Tryz.f5 Rows.tokenLongSpec Rows.tokenLongRow = true := (band (band (band (band (band (band (band (band (band (band (band (band (band (band (band (band (band (band (band (band (band (band (band (band (band (band (band (band (band (band (band fact0 fact1) fact2) fact3) fact4) fact5) fact6) fact7) fact8) fact9) fact10) fact11) fact12) fact13) fact14) fact15) fact16) fact17) fact18) fact19) fact20) fact21) fact22) fact23) fact24) fact25) fact26) fact27) fact28) fact29) fact30) fact31)
end Go.Proofs.YtjkacllmilafoaaGreatDoor.tokenLong
/- TokenLong: for every input the law returns true and leaves its argument as it was. Conditions: those of the given row, and no other; the card ties the listed library variables to the program's text. -/
namespace Go.Proofs.YtjkacllmilafoaaGreatDoor.tokenLong
open Go Go.Proofs Go.Pv Go.ChangeMaps Go.ChangeShapes Go.WideShapes Go.ChangeAt Go.RowKit
set_option maxRecDepth 4000
theorem own : ownKnob Tryz.prog.godebug = none := by kernel_rfl
theorem contract (H : Type) (enc : TypeId × Value → H) (W : World) (base : Nat) (args : Array Value) (ds gs : List (DataW H)) (before : List MemPlace)
    (hval : ∀ (j : Nat) t v, Tryz.f5.params[j]? = some t → args[j]? = some v → Value.okWide Tryz.prog W .any base t v)
    (hW : DataW.Whole enc Tryz.prog Tryz.f5.params.toList Rows.tokenLongSpec.vars false W args.toList ds gs before) (hL : laidMetH Tryz.prog Rows.tokenLongRow.laid W) (hS : W.ShapedOpen Tryz.prog) :
    Calls Tryz.prog 5 args W fun e W' => ∃ v, e = .returned v ∧ Rows.tokenLongSpec.post enc Tryz.prog Tryz.f5 false true false false W args v W' := by
  have hW' := hW
  obtain ⟨p, q, hA0, hV, rfl, hfz, hnd⟩ := hW
  have hA : DataW.TrodAll enc Tryz.prog W 0 (fun _ => true) true Tryz.f5.params.toList args.toList ds p := hA0
  rw [Tryz.params5] at hA hval
  obtain ⟨v0, v1, d0, d1, p0, p1, rfl, rfl, rfl, h0, h1⟩ := trodAll_two hA
  obtain ⟨rfl, rfl⟩ := trodVars_none hV
  obtain ⟨s, rfl⟩ := okWide_string Tryz.underlying9 (hval 0 9 v0 rfl rfl)
  obtain ⟨k, rfl⟩ := okWide_int Tryz.underlying42 (hval 1 42 v1 rfl rfl)
  clear hA0
  simp only [List.append_nil] at hW'
  obtain ⟨n1, ht1⟩ := h1
  obtain ⟨k', hc1, _, hwf⟩ := DataW.trod_int Tryz.underlying42 ht1
  have hk : k' = k := by
    have : [Value.int .u16 k] = [Value.int .u16 k'] := hc1
    cases this; rfl
  subst hk
  have hk2 : 0 ≤ k' ∧ k' < 65536 := by
    have h2 : IntKind.u16.min ≤ k' ∧ k' ≤ IntKind.u16.max := by simpa [Lit.wf] using hwf
    have e1 : IntKind.u16.min = 0 := rfl
    have e2 : IntKind.u16.max = 65535 := rfl
    rw [e1, e2] at h2
    omega
  have hl := c5 (gok_of hS hL) s.data.toList k'.toNat (by omega)
  rw [Int.toNat_of_nonneg hk2.1] at hl
  refine (calls_of_ret hl (by decide +kernel) (vargs := #[.string s, .int .u16 k']) ?_ (tab_laid hL)).mono fun e W' h => ?_
  · refine ⟨rfl, fun i c v hc hv => ?_⟩
    match i with
    | 0 =>
      simp at hc hv
      subst hc; subst hv
      exact VP.str s.data.toList
    | 1 =>
      simp at hc hv
      subst hc; subst hv
      exact VP.int _ _
    | i + 2 => simp at hc
  obtain ⟨v, S', rfl, hv, hb⟩ := h
  cases vr_bool hv
  refine ⟨_, rfl, post_below (pa := p0 ++ p1) (pv := []) hW' (fun _ _ _ => trodAll_mk1 (shut_bool Tryz.underlying4 _)) (fun sp hsp => ?_) (fun _ _ => rfl) (by simp)
    hb (ok_one (by kernel_rfl) rfl (okWide_bool_mk Tryz.underlying4 _))⟩
  have hL2 : closedB Tryz.prog [9, 42] = true := by decide +kernel
  exact trodAll_mk2 (trod_again hL2 (by decide) h0 hb fun p hp => hsp p (by simp [hp])) (trod_again hL2 (by decide) ⟨n1, ht1⟩ hb fun p hp => hsp p (by simp [hp]))
noncomputable def world (os : Os) : World := World.laidAll Tryz.prog os Rows.tokenLongRow.laid
theorem laid_met (os : Os) (args : Array Value) : laidMetH Tryz.prog Rows.tokenLongRow.laid ((world os).forCall (fun _ _ => 0) ⟨#[], args, []⟩).memory := by
  rw [MakeChecks.laidMetH_plain _ _ _ (by kernel_rfl)]
  exact laidMet_laidAll _ (by kernel_rfl) (by kernel_rfl)
theorem shaped (os : Os) : ((world os).forCall (fun _ _ => 0) ⟨#[], #[.string ⟨#[]⟩, .int .u16 0], []⟩).Shaped Tryz.prog :=
  World.shaped_of_ZipB (by kernel_rfl) (by kernel_rfl)
theorem reads (os : Os) {H : Type} (enc : TypeId × Value → H) : ∃ places, DataW.whole enc Tryz.prog ((world os).forCall (fun _ _ => 0) ⟨#[], #[.string ⟨#[]⟩, .int .u16 0], []⟩).memory Tryz.f5.params.toList Rows.tokenLongSpec.vars false (#[.string ⟨#[]⟩, .int .u16 0] : Array Value).toList 8 = some ([.lit (.string []), .lit (.int .u16 0)], [], places) :=
  ⟨[], by kernel_rfl⟩
set_option maxRecDepth 100000 in
theorem lifted (os : Os) (started : os.Started) (H : Type) (enc : TypeId × Value → H) (F : Stop.Interp) :
    ReturnsInHanded {} Tryz.checked os 5 .any ((OpenSpec.ofChange Rows.tokenLongSpec).preRow enc Tryz.prog Tryz.f5 Rows.tokenLongRow.domain false Rows.tokenLongRow.laid) (((OpenSpec.ofChange Rows.tokenLongSpec).at F).post enc Tryz.prog Tryz.f5 false true false false) := by
  obtain ⟨places, hx⟩ := reads os enc
  refine returnsInHanded_of_row (C := Tryz.checked) (s := OpenSpec.ofChange Rows.tokenLongSpec) own started (by kernel_rfl) Tryz.func5 ?_ ?_
  · have hok : Input.okWideB Tryz.prog ((world os).forCall (fun _ _ => 0) ⟨#[], #[.string ⟨#[]⟩, .int .u16 0], []⟩) 5 ⟨#[], #[.string ⟨#[]⟩, .int .u16 0], []⟩ = true := by kernel_rfl
    refine ⟨world os, fun _ _ => 0, ⟨#[], #[.string ⟨#[]⟩, .int .u16 0], []⟩, World.laidAll_os _ _ _, shaped os, (Input.okWide_of_okWideB (base := 0) hok).1, (Input.okWide_of_okWideB hok).2,
      OpenSpec.preRow_of_cond 8 hx (by kernel_rfl) (fun k hk => by cases hk) (by kernel_rfl) (laid_met os _), ?_⟩
    simp only [Assume.holds]
    exact ⟨by simp, by simp, fun _ => Modest.zero, by simp, by simp⟩
  · intro W base args ds gs before hval hW _ _ _ hL hS _
    exact contract H enc W base args ds gs before hval hW hL hS
theorem named : Tryz.prog.funcNamed "souffleur/souffleurlaw08.TokenLong" = some 5 := by kernel_rfl
theorem inst : Tryz.f5.isInstance Tryz.prog Rows.tokenLongRow.origin Rows.tokenLongRow.targs := of_decide_eq_true (by kernel_rfl)
theorem wrap : Tryz.f5.isWrapper Tryz.prog Rows.tokenLongRow.wrapper Rows.tokenLongRow.mainSum := by
  unfold Func.isWrapper
  first | (rw [if_pos (by decide +kernel)]; kernel_rfl) | (rw [if_neg (by decide +kernel)]; exact ⟨rfl, rfl⟩)
theorem said : Rows.TokenLongSaid :=
  OpenClaim.holds_of_cond 5 Tryz.f5 rfl rfl rfl rfl rfl rfl rfl ⟨rfl, rfl, rfl, rfl, rfl⟩ rfl rfl rfl rfl rfl named Tryz.func5 closed inst wrap
    (fun os started H enc _ F => by rw [OpenClaim.pre_eq_preRow]; exact lifted os started H enc F)
theorem plain (f : FuncId) (fn : Func) (hf : Tryz.pinned.checked.prog.funcNamed "souffleur/souffleurlaw08.TokenLong" = some f) (hfn : Tryz.pinned.checked.prog.funcs[f]? = some fn) :
    true = Tryz.pinned.checked.prog.looks [] ∧ ∀ (j : Nat) t, fn.params[j]? = some t → Tryz.pinned.checked.prog.wantsStandIn t = false := by
  obtain rfl : f = 5 := Option.some.inj (named.symm.trans hf) |>.symm
  obtain rfl : fn = Tryz.f5 := (Option.some.inj (Tryz.func5.symm.trans hfn)).symm
  refine ⟨by kernel_rfl, fun j t ht => ?_⟩
  rw [Tryz.params5] at ht
  have hm := Array.mem_of_getElem? ht
  simp at hm
  rcases hm with rfl | rfl
  · exact (show Tryz.prog.wantsStandIn 9 = false by kernel_rfl)
  · exact (show Tryz.prog.wantsStandIn 42 = false by kernel_rfl)
theorem wfText : Rows.tokenLongRow.wfByText (OpenSpec.ofChange Rows.tokenLongSpec) = true := by kernel_rfl
theorem mainIs : Tryz.prog.mainIs = some (true, "f86487806e02c675690c908327e6bdddef86320820f7f0ff51c0fdf8428e3888".toList) := by kernel_rfl
theorem goes : false = Rows.tokenLongRow.goesBy Tryz.prog := by kernel_rfl
theorem card : Rows.TokenLongCardSaid :=
  Claim7.holds_tied_plain_at .later [] _ _ _ _ said (fun _ h => by cases h) wfText (fun _ h => by cases h) tokenLong_row_tie rfl ⟨rfl, rfl⟩ mainIs rfl plain goes
#print axioms card
end Go.Proofs.YtjkacllmilafoaaGreatDoor.tokenLong

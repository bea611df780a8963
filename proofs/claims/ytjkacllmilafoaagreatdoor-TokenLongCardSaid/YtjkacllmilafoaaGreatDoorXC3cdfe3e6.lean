/- Laws of the second reference: bytes, digits, what stands behind a stroke, variables. -/
import Derived.Test.YtjkacllmilafoaaGreatDoorProg
import Derived.Shelf.Strings.Builder1
import Derived.Shelf.Strings.Builder2
import Derived.Shelf.Strings.OnBuilder
import Derived.Shelf.Strings.Trim
import Derived.Shelf.Small.Utf8
import Derived.Shelf.Small.Strs
import Derived.Shelf.Strconv.Itoa0
import Derived.Shelf.Strconv.Itoa1
import Derived.Shelf.LaysM
import Derived.Shelf.Strconv.Itoa2
import Derived.Shelf.Strconv.Itoa3
import Derived.Shelf.Strconv.Itoa4
import Derived.Shelf.Strconv.ParseIntEmpty
import Derived.Shelf.Strconv.Clone
import Derived.Shelf.Strconv.SyntaxError
import Derived.Shelf.LaysC
import Derived.Shelf.Strconv.ToError
import Derived.Shelf.Strconv.Lower
import Derived.Shelf.Strconv.ParseUint10
import Derived.Shelf.Strconv.ParseUint10Empty
import Derived.Shelf.Strconv.ParseUint10Any
import Derived.Shelf.Strconv.ParseInt10
import Derived.Shelf.Strconv.RangeError
import Derived.Shelf.Strconv.ToErrorRange
import Derived.Shelf.Strconv.ParseUintEmpty
import Derived.Shelf.Strconv.ParseUint10b64
import Derived.Shelf.Strconv.ParseUint10b32
import Derived.Shelf.Strconv.ParseUint10b16
import Derived.Shelf.Strconv.ParseUint10b8
import Derived.Shelf.Strconv.ParseUint10At
import Derived.Shelf.Strconv.ParseInt10At64
import Derived.Shelf.Strconv.ParseInt10At32
import Derived.Shelf.Strconv.ParseInt10At16
import Derived.Shelf.Strconv.ParseInt10At8
import Derived.Shelf.Strconv.ParseInt10All
import Derived.Shelf.Strconv.ParseIntPublic10
import Derived.Shelf.Strings.Search1
import Derived.Shelf.Strings.Search2
import Derived.Shelf.Strings.Search3
import Derived.Shelf.Strings.Shaped
import Derived.Shelf.Strings.Runes
import Derived.Shelf.Strings.AsciiSet
import Derived.Shelf.Unicode.DecodeSlow
import Derived.Lib.DecodeN
import Derived.Test.YtjkacllmilafoaaGreatDoorXBf06ab8ea
set_option maxHeartbeats 2000000
set_option linter.all false
/- Laws of functions of strings. -/
namespace Go.Pv
open Go Go.Proofs
set_option maxRecDepth 4000
abbrev RR (G : Frz) : CallRel := Ret Tryz.prog (Sound Tryz.prog G)
variable {G : Frz}
theorem c183 (s : List UInt8) (c : UInt8) : RR G 183 [.str s, byte c] [] (i64 (idxB s c)) [] := by
  refine ret_intro Tryz.func183 rfl Tryz.results183 (by decide +kernel) rfl (Nat.le_refl _) rfl (by simp) ?_
  simp -implicitDefEqProofs only [Nat.reduceEqDiff, Nat.reduceLeDiff, Nat.reduceAdd, reduceCtorEq, go_sem, ↓reduceIte]
  refine callW_pure (ret_prim (sound243 s c [])) rfl rfl ?_
  simp -implicitDefEqProofs only [Nat.reduceEqDiff, Nat.reduceLeDiff, Nat.reduceAdd, reduceCtorEq, go_sem, ↓reduceIte]
theorem c117 (s : List UInt8) (c : UInt8) : RR G 117 [.str s, byte c] [] (i64 (idxB s c)) [] := by
  refine ret_intro Tryz.func117 rfl Tryz.results117 (by decide +kernel) rfl (Nat.le_refl _) rfl (by simp) ?_
  simp -implicitDefEqProofs only [Nat.reduceEqDiff, Nat.reduceLeDiff, Nat.reduceAdd, reduceCtorEq, go_sem, ↓reduceIte]
  refine callW_pure (c183 s c) rfl rfl ?_
  simp -implicitDefEqProofs only [Nat.reduceEqDiff, Nat.reduceLeDiff, Nat.reduceAdd, reduceCtorEq, go_sem, ↓reduceIte]
end Go.Pv
/- Laws of functions of strings, and of texts. -/
namespace Go.Pv
open Go Go.Proofs
set_option maxRecDepth 4000
variable {G : Frz}
theorem c265 (s p : List UInt8) : RR G 265 [.str s, .str p] [] (.bool (p.isPrefixOf s)) [] := by
  refine ret_intro Tryz.func265 rfl Tryz.results265 (by decide +kernel) rfl (Nat.le_refl _) rfl (by simp) ?_
  simp -implicitDefEqProofs only [Nat.reduceEqDiff, Nat.reduceLeDiff, Nat.reduceAdd, reduceCtorEq, go_sem, ↓reduceIte]
  have hp : p.isPrefixOf s = decide (s.take p.length = p) := by
    rw [Bool.eq_iff_iff, List.isPrefixOf_iff_prefix, decide_eq_true_iff, List.prefix_iff_eq_take]
    exact eq_comm
  rw [hp]
  refine ⟨fun h => ?_, fun h => ?_⟩
  · simp at h
    refine ⟨by omega, by omega, ?_⟩
    simp
    rw [Bool.eq_iff_iff]; simp
  · simp at h
    have : ¬ s.take p.length = p := fun e => by
      have := congrArg List.length e
      simp at this
      omega
    simp [this]
theorem c198 (s p : List UInt8) : RR G 198 [.str s, .str p] [] (.bool (p.isPrefixOf s)) [] := by
  refine ret_intro Tryz.func198 rfl Tryz.results198 (by decide +kernel) rfl (Nat.le_refl _) rfl (by simp) ?_
  simp -implicitDefEqProofs only [Nat.reduceEqDiff, Nat.reduceLeDiff, Nat.reduceAdd, reduceCtorEq, go_sem, ↓reduceIte]
  refine callW_pure (c265 s p) rfl rfl ?_
  simp -implicitDefEqProofs only [Nat.reduceEqDiff, Nat.reduceLeDiff, Nat.reduceAdd, reduceCtorEq, go_sem, ↓reduceIte]
end Go.Pv
/- What texts, numbers, quotes and tokens are: plain functions on lists of bytes, with no program in sight. -/
namespace Go.Pv
open Go
abbrev Bytes := List UInt8
abbrev Part := Bytes × Bytes

/-! ### Quotes -/
def hexd (c : UInt8) : Option Nat := if digit c then some (c.toNat - 48) else if 97 ≤ c.toNat ∧ c.toNat ≤ 102 then some (c.toNat - 87) else none
/-- What stands behind a stroke: the byte, and how many bytes it has; or how far away the bad place is. -/
def escR : Bytes → Except Nat (UInt8 × Nat)
  | [] => .error 0
  | c :: r => if c = 110 then .ok (10, 1) else if c = 114 then .ok (13, 1) else if c = 116 then .ok (9, 1)
    else if c = 34 ∨ c = 92 ∨ c = 36 then .ok (c, 1)
    else if c = 120 then match r with
      | [] => .error 1
      | a :: r => match hexd a with
        | none => .error 1
        | some x => match r with
          | [] => .error 2
          | b :: _ => match hexd b with
            | none => .error 2
            | some y => .ok (UInt8.ofNat (x * 16 + y), 3)
    else .error 0
/-- A name, that begins with a byte. -/
def nameR (c : UInt8) (r : Bytes) : Bytes := c :: (if letter c then (r.take 7).takeWhile within else [])
/-- What stands behind a dollar: the name, and how many bytes. -/
def varR : Bytes → Except Nat (Bytes × Nat)
  | [] => .error 0
  | b :: r => if b = 123 then match r with
      | [] => .error 1
      | c :: r1 => if letter c || digit c then
          if (r1.drop ((nameR c r1).length - 1)).head? = some 125 then .ok (nameR c r1, (nameR c r1).length + 2) else .error ((nameR c r1).length + 1)
        else .error 1
    else .error 0
def flushT (out : List Part) (text : Bytes) : List Part := if text = [] then out else out ++ [([], text)]
/-- The parts of a quote, behind its first byte: the parts, the place, is it well? -/
def qRun (l : Bytes) (out : List Part) (text : Bytes) (i : Nat) : List Part × Nat × Bool := match l with
  | [] => ([], i, false)
  | c :: r =>
    if c = 34 then (flushT out text, i + 1, true)
    else if c = 36 then match varR r with
      | .ok (nm, k) => qRun (r.drop k) (flushT out text ++ [(nm, [])]) [] (i + 1 + k)
      | .error k => ([], i + 1 + k, false)
    else if c = 92 then match escR r with
      | .ok (b, k) => qRun (r.drop k) out (text ++ [b]) (i + 1 + k)
      | .error k => ([], i + 1 + k, false)
    else if 32 ≤ c.toNat ∧ c.toNat ≤ 126 then qRun r out (text ++ [c]) (i + 1)
    else ([], i, false)
termination_by l.length
decreasing_by all_goals simp; try omega
def qParse : Bytes → List Part × Nat × Bool
  | [] => ([], 0, false)
  | c :: r => if c = 34 then qRun r [] [] 1 else ([], 0, false)

/-! ### Numbers -/
def decN (l : Bytes) : Nat := l.foldl (fun a c => a * 10 + (c.toNat - 48)) 0
/-- A row of digits: its number; or 1: no such; 3: too great. -/
def numP (l : Bytes) : Except Nat Nat :=
  if l = [] then .error 1 else if l.head? = some 48 ∧ l.length > 1 then .error 1 else if l.all digit = false then .error 1
  else if decN l < 9223372036854775808 then .ok (decN l) else .error 3

/-! ### Tokens -/
structure Tok where
  kind : Nat
  word : Bytes
  n : Nat
  parts : List Part
  at' : Nat
  deriving DecidableEq
def signL : List Bytes := [[60, 61], [62, 61], [61, 61], [33, 61], [38, 38], [124, 124], [123], [125], [40], [41], [43], [45], [42], [47], [37], [60], [62], [33]]
def nameP (w : Bytes) : Bool := match w with
  | [] => false
  | [c] => letter c || digit c
  | c :: _ => letter c && w.all within && decide (w.length ≤ 8)
def flagP (w : Bytes) : Bool := decide (w = [105]) || decide (w = [101, 120]) || decide (w = [103, 108]) || decide (w = [114, 101])
/-- The token with which a text begins, and its bytes; or how far away the bad place is, and the error. -/
def oneR (l : Bytes) (at' : Nat) : Except (Nat × Nat) (Tok × Nat) := match l with
  | [] => .error (0, 1)
  | c :: r =>
    if letter c then
      let w := l.takeWhile within
      if w.length > 14 then .error (0, 1) else .ok (⟨1, w, 0, [], at'⟩, w.length)
    else if digit c then
      let w := l.takeWhile digit
      match numP w with
      | .ok n => .ok (⟨2, [], n, [], at'⟩, w.length)
      | .error e => .error (0, e)
    else if c = 34 then match qParse l with
      | (p, k, true) => .ok (⟨3, [], 0, p, at'⟩, k)
      | (_, k, false) => .error (k, 1)
    else if c = 36 then
      let w := r.takeWhile within
      if nameP w then .ok (⟨6, w, 0, [], at'⟩, w.length + 1) else .error (0, 1)
    else if c = 45 ∧ (r.takeWhile letter) ≠ [] then
      let w := r.takeWhile letter
      if flagP w then .ok (⟨5, w, 0, [], at'⟩, w.length + 1) else .error (0, 1)
    else match signL.find? fun w => w.isPrefixOf l with
      | some w => .ok (⟨4, w, 0, [], at'⟩, w.length)
      | none => .error (0, 1)
def blank (c : UInt8) : Bool := c = 32 || c = 9 || c = 10
def notNl (c : UInt8) : Bool := c ≠ 10
end Go.Pv
/- Plain laws of the words of LawSpec. -/
namespace Go.Pv
open Go
theorem escR_ok {l : Bytes} {b : UInt8} {k : Nat} (h : escR l = .ok (b, k)) : 1 ≤ k ∧ k ≤ l.length := by
  unfold escR at h
  repeat' split at h
  all_goals first
    | (simp only [Except.ok.injEq, Prod.mk.injEq] at h; obtain ⟨_, rfl⟩ := h; simp; done)
    | cases h
theorem escR_err {l : Bytes} {k : Nat} (h : escR l = .error k) : k ≤ l.length := by
  unfold escR at h
  repeat' split at h
  all_goals first
    | (simp only [Except.error.injEq] at h; subst h; simp; done)
    | cases h
theorem tw_le (p : UInt8 → Bool) (l : Bytes) : (l.takeWhile p).length ≤ l.length := List.Sublist.length_le (List.takeWhile_sublist p)
theorem nameR_len (c : UInt8) (r : Bytes) : 1 ≤ (nameR c r).length ∧ (nameR c r).length ≤ r.length + 1 ∧ (nameR c r).length ≤ 8 := by
  unfold nameR
  split
  · have h1 := tw_le within (r.take 7)
    simp at h1 ⊢
    omega
  · simp
theorem varR_ok {l nm : Bytes} {k : Nat} (h : varR l = .ok (nm, k)) : 2 ≤ k ∧ k ≤ l.length := by
  unfold varR at h
  split at h
  · cases h
  · rename_i b r
    split at h
    · split at h
      · cases h
      · rename_i c r1
        split at h
        · split at h
          · rename_i hh
            simp only [Except.ok.injEq, Prod.mk.injEq] at h
            obtain ⟨rfl, rfl⟩ := h
            refine ⟨by omega, ?_⟩
            have : 0 < (List.drop ((nameR c r1).length - 1) r1).length := List.length_pos_iff.2 (fun e => by rw [e] at hh; cases hh)
            simp only [List.length_drop, List.length_cons] at this ⊢
            omega
          · cases h
        · cases h
    · cases h
theorem varR_err {l : Bytes} {k : Nat} (h : varR l = .error k) : k ≤ l.length := by
  unfold varR at h
  split at h
  · cases h; simp
  · rename_i b r
    split at h
    · split at h
      · cases h; simp
      · rename_i c r1
        split at h
        · split at h
          · cases h
          · simp only [Except.error.injEq] at h
            subst h
            have := nameR_len c r1
            simp; omega
        · simp only [Except.error.injEq] at h
          subst h; simp
    · cases h; simp
theorem qRun_nil (out : List Part) (text : Bytes) (i : Nat) : qRun [] out text i = ([], i, false) := by rw [qRun]
theorem qRun_cons (c : UInt8) (r : Bytes) (out : List Part) (text : Bytes) (i : Nat) : qRun (c :: r) out text i = if c = 34 then (flushT out text, i + 1, true)
    else if c = 36 then match varR r with
      | .ok (nm, k) => qRun (r.drop k) (flushT out text ++ [(nm, [])]) [] (i + 1 + k)
      | .error k => ([], i + 1 + k, false)
    else if c = 92 then match escR r with
      | .ok (b, k) => qRun (r.drop k) out (text ++ [b]) (i + 1 + k)
      | .error k => ([], i + 1 + k, false)
    else if 32 ≤ c.toNat ∧ c.toNat ≤ 126 then qRun r out (text ++ [c]) (i + 1)
    else ([], i, false) := by rw [qRun] <;> rfl
/-- The place that a quote's run tells lies in the text. -/
theorem qRun_le (l : Bytes) (out : List Part) (text : Bytes) (i : Nat) : i ≤ (qRun l out text i).2.1 ∧ (qRun l out text i).2.1 ≤ i + l.length := by
  induction h : l.length using Nat.strongRecOn generalizing l out text i with
  | _ n ih =>
    subst h
    cases l with
    | nil => rw [qRun_nil]; simp
    | cons c r =>
      rw [qRun_cons]
      split
      · simp
      · split
        · split
          · rename_i nm k hv
            have h1 := varR_ok hv
            have h2 := ih (r.drop k).length (by simp; omega) (r.drop k) (flushT out text ++ [(nm, [])]) [] (i + 1 + k) rfl
            simp only [List.length_drop, List.length_cons] at h2 ⊢
            omega
          · rename_i k hv
            have h1 := varR_err hv
            simp; omega
        · split
          · split
            · rename_i b k hv
              have h1 := escR_ok hv
              have h2 := ih (r.drop k).length (by simp; omega) (r.drop k) out (text ++ [b]) (i + 1 + k) rfl
              simp only [List.length_drop, List.length_cons] at h2 ⊢
              omega
            · rename_i k hv
              have h1 := escR_err hv
              simp; omega
          · split
            · have h2 := ih r.length (by simp) r out (text ++ [c]) (i + 1) rfl
              simp only [List.length_cons] at h2 ⊢
              omega
            · simp
theorem qParse_le (l : Bytes) : (qParse l).2.1 ≤ l.length := by
  unfold qParse
  split
  · simp
  · split
    · rename_i c r _
      have := (qRun_le r [] [] 1).2
      simp; omega
    · simp
theorem qParse_pos {c : UInt8} {r : Bytes} (h : c = 34) : 1 ≤ (qParse (c :: r)).2.1 := by
  have := (qRun_le r [] [] 1).1
  simp [qParse, h]; omega

theorem oneR_ok {l : Bytes} {a : Nat} {t : Tok} {k : Nat} (h : oneR l a = .ok (t, k)) : 1 ≤ k ∧ k ≤ l.length := by
  unfold oneR at h
  split at h
  · cases h
  · rename_i c r
    have hr (p : UInt8 → Bool) := tw_le p r
    have hl (p : UInt8 → Bool) := tw_le p (c :: r)
    simp only at h
    split at h
    · rename_i hc
      split at h
      · cases h
      · simp only [Except.ok.injEq, Prod.mk.injEq] at h
        obtain ⟨_, rfl⟩ := h
        refine ⟨?_, hl _⟩
        rw [List.takeWhile_cons_of_pos (by simp [within, hc])]; simp
    · split at h
      · rename_i hc
        split at h
        · simp only [Except.ok.injEq, Prod.mk.injEq] at h
          obtain ⟨_, rfl⟩ := h
          refine ⟨?_, hl _⟩
          rw [List.takeWhile_cons_of_pos (by simp [hc])]; simp
        · cases h
      · split at h
        · rename_i hc
          split at h
          · rename_i p k' hq
            simp only [Except.ok.injEq, Prod.mk.injEq] at h
            obtain ⟨_, rfl⟩ := h
            have h1 := qParse_le (c :: r)
            have h2 := qParse_pos (c := c) (r := r) hc
            rw [hq] at h1 h2
            exact ⟨h2, h1⟩
          · cases h
        · split at h
          · split at h
            · simp only [Except.ok.injEq, Prod.mk.injEq] at h
              obtain ⟨_, rfl⟩ := h
              have := hr within
              simp; omega
            · cases h
          · split at h
            · split at h
              · simp only [Except.ok.injEq, Prod.mk.injEq] at h
                obtain ⟨_, rfl⟩ := h
                have := hr letter
                simp; omega
              · cases h
            · split at h
              · rename_i w hw
                simp only [Except.ok.injEq, Prod.mk.injEq] at h
                obtain ⟨_, rfl⟩ := h
                have h1 := List.mem_of_find?_eq_some hw
                have h2 := List.find?_some hw
                rw [List.isPrefixOf_iff_prefix] at h2
                refine ⟨?_, h2.length_le⟩
                have : ∀ w ∈ signL, 1 ≤ w.length := by decide
                exact this _ h1
              · cases h
theorem oneR_err {l : Bytes} {a b e : Nat} (h : oneR l a = .error (b, e)) : b ≤ l.length ∧ (e = 1 ∨ e = 3) := by
  unfold oneR at h
  split at h
  · cases h; simp
  · rename_i c r
    simp only at h
    split at h
    · split at h <;> cases h; simp
    · split at h
      · split at h
        · cases h
        · rename_i e' hn
          simp only [Except.error.injEq, Prod.mk.injEq] at h
          obtain ⟨rfl, rfl⟩ := h
          refine ⟨by simp, ?_⟩
          unfold numP at hn
          repeat' split at hn
          all_goals first | cases hn; simp | cases hn
      · split at h
        · split at h
          · cases h
          · rename_i p k' hq
            simp only [Except.error.injEq, Prod.mk.injEq] at h
            obtain ⟨rfl, rfl⟩ := h
            have h1 := qParse_le (c :: r)
            rw [hq] at h1
            exact ⟨h1, .inl rfl⟩
        · split at h
          · split at h <;> cases h; simp
          · split at h
            · split at h <;> cases h; simp
            · split at h
              · cases h
              · cases h; simp

/-- The tokens of a text from a place on, behind those that are there; the place; and the error. -/
def scanR (l : Bytes) (at' : Nat) (out : List Tok) : List Tok × Nat × Nat := match l with
  | [] => (out, 0, 0)
  | c :: r => if blank c then scanR r (at' + 1) out
    else if c = 35 then scanR (r.dropWhile notNl) (at' + 1 + (r.takeWhile notNl).length) out
    else match oneR (c :: r) at' with
      | .ok (t, k) => scanR (r.drop (k - 1)) (at' + k) (out ++ [t])
      | .error (b, e) => ([], at' + b, e)
termination_by l.length
decreasing_by
  · simp
  · have : (r.dropWhile notNl).length ≤ r.length := List.Sublist.length_le (List.dropWhile_sublist _)
    simp; omega
  · simp; omega
def scanT (s : Bytes) : List Tok × Nat × Nat := if s.length > 2000 then ([], 2000, 2) else scanR s 0 []
end Go.Pv
/- The law of what is a number's text. -/
namespace Go.Pv
open Go Go.Proofs
set_option maxRecDepth 4000
set_option linter.unusedSimpArgs false
def Num.digit (c : UInt8) : Bool := decide (48 ≤ c.toNat ∧ c.toNat ≤ 57)
def Num.cut (s : List UInt8) : List UInt8 := if s.head? = some 45 then s.drop 1 else s
def Num.body (u : List UInt8) : Bool := if u = [] ∨ u.head? = some 48 then false else u.all Num.digit
def Num.form (s : List UInt8) : Bool := if s = [48] then true else Num.body (Num.cut s)
theorem c196 (Prim : CallRel) (s : List UInt8) (hs : s.length ≤ strLim) : Ret Tryz.prog Prim 196 [.str s] [] (.bool (Num.form s)) [] := by
  refine ret_intro Tryz.func196 rfl Tryz.results196 (by decide +kernel) rfl (Nat.le_refl _) rfl (by simp) ?_
  refine wp_mid [(0, .str s)] [] ?_ fun env ⟨h0, _⟩ => ?_
  · simp -implicitDefEqProofs only [Nat.reduceEqDiff, reduceCtorEq, go_sem, Tryz.underlying9, ↓reduceIte]
  refine wp_ghost (A := Unit) (fun _ => s ≠ [48]) (fun _ => []) (fun _ => [(0, .str s)]) ?_ fun _ hs48 env ⟨h0, _⟩ => ?_
  · simp -implicitDefEqProofs only [h0, Nat.reduceEqDiff, reduceCtorEq, go_sem, Tryz.underlying9, ↓reduceIte]
    simp +contextual [Num.form]
  refine wp_mid [(0, .str (Num.cut s))] [] ?_ fun env ⟨h0, _⟩ => ?_
  · simp -implicitDefEqProofs only [h0, Nat.reduceEqDiff, reduceCtorEq, go_sem, Tryz.underlying9, ↓reduceIte]
    cases s with
    | nil => simp [Num.cut]
    | cons a l =>
      have := u8_eq a 45
      simp [Num.cut]
      grind
  have hform : Num.form s = Num.body (Num.cut s) := by simp [Num.form, hs48]
  have hul : (Num.cut s).length ≤ strLim := by unfold Num.cut; split <;> simp_all <;> omega
  rw [hform]
  generalize Num.cut s = u at h0 hul
  refine wp_ghost (A := Unit) (fun _ => ¬ (u = [] ∨ u.head? = some 48)) (fun _ => []) (fun _ => [(0, .str u)]) ?_ fun _ hu48 env ⟨h0, _⟩ => ?_
  · simp -implicitDefEqProofs only [h0, Nat.reduceEqDiff, reduceCtorEq, go_sem, Tryz.underlying9, ↓reduceIte]
    cases u with
    | nil => simp [Num.body]
    | cons a l =>
      have := u8_eq a 48
      simp [Num.body]
      grind
  refine wp_ghost (A := Unit) (fun _ => u.all Num.digit = true) (fun _ => []) (fun _ => []) ?_ fun _ hall env _ => ?_
  · refine wp_mid [(0, .str u), (24, .int .i64 (0 : Nat)), (23, .int .i64 u.length)] [] ?_ fun env ⟨h0, h24, h23, _⟩ => ?_
    · simp -implicitDefEqProofs only [h0, Nat.reduceEqDiff, reduceCtorEq, go_sem, Tryz.underlying9, ↓reduceIte]; rfl
    rw [wp_block_eq]
    refine wp_loop_use (A := Nat) (fun i => [(0, .str u), (24, .int .i64 i), (23, .int .i64 u.length)]) (fun _ => []) (fun i => i ≤ u.length ∧ (u.take i).all Num.digit = true) (fun i => u.length - i) 0 (by simp) rfl ⟨h0, h24, h23, trivial⟩ ?_
    intro i hi
    simp -implicitDefEqProofs only [Nat.reduceEqDiff, reduceCtorEq, go_sem, Tryz.underlying9, ↓reduceIte]
    refine ⟨fun hlt => ?_, fun hge => ?_⟩
    · simp at hlt
      have hget : u.getD (Int.toNat (i : Int)) 0 = u[i] := by simp [hlt]
      have hd : Num.digit u[i] = true ↔ 48 ≤ u[i].toNat ∧ u[i].toNat ≤ 57 := by simp [Num.digit]
      have hbad : Num.digit u[i] = false → Num.body u = false := fun h => by
        unfold Num.body
        split
        · rfl
        · rw [List.all_eq_false]; exact ⟨u[i], by simp, by simp [h]⟩
      rw [hget]
      refine ⟨by omega, by simpa using hlt, fun h => ⟨by omega, by simpa using hlt, fun h2 => ?_, fun h2 => ⟨i + 1, ⟨⟨by omega, ?_⟩, by omega⟩, ?_⟩⟩, fun h => ?_⟩
      · simp at h2; simp; exact hbad (by cases hx : Num.digit u[i] with | false => rfl | true => have := hd.1 hx; omega)
      · simp at h h2
        rw [List.take_succ, List.all_append, hi.2]
        simp [hlt, Num.digit]
        omega
      · rw [wrap_succ i u.length hlt hul]
      · simp at h; simp; exact hbad (by cases hx : Num.digit u[i] with | false => rfl | true => have := hd.1 hx; omega)
    · simp at hge
      have : i = u.length := by omega
      subst this
      simpa using hi.2
  simp -implicitDefEqProofs only [Nat.reduceEqDiff, reduceCtorEq, go_sem, Tryz.underlying9, ↓reduceIte]
  simp [Num.body, hu48, hall]
end Go.Pv
/-
  DERIVED: THE SHELF's CONTRACTS AT THIS DUMP, IN PLAIN WORDS (tools/lay-plain.mjs out of 'TryzShelf.lean', which tools/lay-shelf.mjs wrote): THE SAME DECLARATIONS UNDER THE SAME NAMES: 'import', 'namespace', 'open', 'def', 'theorem' AND NOTHING ELSE: no command of the shelf's: FOR A HAND-IN. Each laying: the table of numbers ('.._ren') and one theorem, a field a fact of the dump's own or the kernel's comparison; each contract: ONE APPLICATION.
-/
namespace Go.Proofs
open Go.Shelf
def Tryz.lays169_ren : Go.Shelf.Ren := ⟨fun | 169 => 116 | n => n, fun | 70 => 177 | 9 => 9 | 0 => 0 | 72 => 179 | 37 => 43 | 127 => 234 | 3 => 3 | 5 => 5 | n => n, fun | n => n⟩
theorem Tryz.lays169 : Go.Proofs.Lays.n169 Tryz.prog Tryz.lays169_ren := {
  mixed := by kernel_rfl
  f169 := Tryz.func116.trans (congrArg some (by kernel_rfl))
  t0 := Tryz.underlying0
  a0 := Tryz.isAgg0
  z0 := Tryz.sizeOf0
  v0 := Tryz.zeroValue0
  t3 := Tryz.underlying3
  a3 := Tryz.isAgg3
  z3 := Tryz.sizeOf3
  v3 := Tryz.zeroValue3
  t9 := Tryz.underlying9
  a9 := Tryz.isAgg9
  z9 := Tryz.sizeOf9
  v9 := Tryz.zeroValue9
  t37 := Tryz.underlying43
  a37 := Tryz.isAgg43
  z37 := Tryz.sizeOf43
  v37 := Tryz.zeroValue43
  t70 := Tryz.underlying177
  a70 := Tryz.isAgg177
  z70 := Tryz.sizeOf177
  v70 := Tryz.zeroValue177
  t72 := Tryz.underlying179
  a72 := Tryz.isAgg179
  z72 := Tryz.sizeOf179
  v72 := Tryz.zeroValue179
  t127 := Tryz.underlying234
  a127 := Tryz.isAgg234
  z127 := Tryz.sizeOf234
  v127 := Tryz.zeroValue234 }
def Tryz.lays156_ren : Go.Shelf.Ren := ⟨fun | 156 => 44 | 165 => 114 | 166 => 115 | 169 => 116 | 240 => 181 | 241 => 182 | 276 => 241 | 277 => 242 | n => n, fun | 31 => 79 | 9 => 9 | 3 => 3 | 4 => 4 | 0 => 0 | 20 => 20 | 72 => 179 | 76 => 182 | 70 => 177 | 37 => 43 | 75 => 181 | 127 => 234 | 164 => 278 | 5 => 5 | 80 => 184 | n => n, fun | n => n⟩
theorem Tryz.lays156 : Go.Proofs.Lays.n156 Tryz.prog Tryz.lays156_ren := {
  mixed := by kernel_rfl
  f156 := Tryz.func44.trans (congrArg some (by kernel_rfl))
  f165 := Tryz.func114.trans (congrArg some (by kernel_rfl))
  f166 := Tryz.func115.trans (congrArg some (by kernel_rfl))
  f169 := Tryz.func116.trans (congrArg some (by kernel_rfl))
  f240 := Tryz.func181.trans (congrArg some (by kernel_rfl))
  f241 := Tryz.func182.trans (congrArg some (by kernel_rfl))
  f276 := Tryz.func241.trans (congrArg some (by kernel_rfl))
  f277 := Tryz.func242.trans (congrArg some (by kernel_rfl))
  t0 := Tryz.underlying0
  a0 := Tryz.isAgg0
  z0 := Tryz.sizeOf0
  v0 := Tryz.zeroValue0
  t3 := Tryz.underlying3
  a3 := Tryz.isAgg3
  z3 := Tryz.sizeOf3
  v3 := Tryz.zeroValue3
  t4 := Tryz.underlying4
  a4 := Tryz.isAgg4
  z4 := Tryz.sizeOf4
  v4 := Tryz.zeroValue4
  t9 := Tryz.underlying9
  a9 := Tryz.isAgg9
  z9 := Tryz.sizeOf9
  v9 := Tryz.zeroValue9
  t20 := Tryz.underlying20
  a20 := Tryz.isAgg20
  z20 := Tryz.sizeOf20
  v20 := Tryz.zeroValue20
  t31 := Tryz.underlying79
  a31 := Tryz.isAgg79
  z31 := Tryz.sizeOf79
  v31 := Tryz.zeroValue79
  t37 := Tryz.underlying43
  a37 := Tryz.isAgg43
  z37 := Tryz.sizeOf43
  v37 := Tryz.zeroValue43
  t70 := Tryz.underlying177
  a70 := Tryz.isAgg177
  z70 := Tryz.sizeOf177
  v70 := Tryz.zeroValue177
  t72 := Tryz.underlying179
  a72 := Tryz.isAgg179
  z72 := Tryz.sizeOf179
  v72 := Tryz.zeroValue179
  t75 := Tryz.underlying181
  a75 := Tryz.isAgg181
  z75 := Tryz.sizeOf181
  v75 := Tryz.zeroValue181
  t76 := Tryz.underlying182
  a76 := Tryz.isAgg182
  z76 := Tryz.sizeOf182
  v76 := Tryz.zeroValue182
  t127 := Tryz.underlying234
  a127 := Tryz.isAgg234
  z127 := Tryz.sizeOf234
  v127 := Tryz.zeroValue234
  t164 := Tryz.underlying278
  a164 := Tryz.isAgg278
  z164 := Tryz.sizeOf278
  v164 := Tryz.zeroValue278 }
theorem Tryz.Builder_Extra_156 : Builder.Extra Tryz.prog Tryz.lays156_ren := {
  sizeBuilder := by kernel_rfl
  liesBuilder := by kernel_rfl
  t5 := Tryz.underlying5
  a5 := Tryz.isAgg5
  z5 := Tryz.sizeOf5
  v5 := Tryz.zeroValue5
  infoByte := by kernel_rfl
  cellsByte := by kernel_rfl
  sizeByte := by kernel_rfl
  neB5 := by decide }
open Go.RowKit in
/-- No element: the empty string; the world is as it was. (Whatever the slice's address and capacity: a nil slice too.) (LAID: no walk: one application.) -/
theorem Tryz.strings_Join_none (a : Option Addr) (c : Nat) (sep : ByteArray) (w : World) :
    Calls Tryz.prog 44 #[.slice a 0 c, .string sep] w fun e w' => e = .returned (.string ⟨#[]⟩) ∧ w' = w := Any.strings_Join_none Tryz.lays156 Tryz.Builder_Extra_156 a c sep w
open Go.RowKit in
/-- strings.Join: "Join concatenates the elements of its first argument to create a single string. The separator string sep is placed between elements in the resulting string.": HOWEVER MANY ELEMENTS. Below the heap's end the world is as it was. (LAID: no walk: one application.) -/
theorem Tryz.strings_Join (bk o c : Nat) (xs : List ByteArray) (sep : ByteArray) (w : World) (hcells : ∀ (j : Nat) x, xs[j]? = some x → w.cell? ⟨bk, o + j, none⟩ = some (.string x)) (hbk : bk < w.heap.size) (hN : xs.length ≤ 140737488355328) (hcap : xs.length ≤ c) (hlen : (Lib.join (xs.map (·.data.toList)) sep.data.toList).length ≤ 140737488355328) :
    Calls Tryz.prog 44 #[.slice (some ⟨bk, o, none⟩) xs.length c, .string sep] w fun e w' => e = .returned (.string ⟨(Lib.join (xs.map (·.data.toList)) sep.data.toList).toArray⟩) ∧ Below w.heap.size w w' := Any.strings_Join Tryz.lays156 Tryz.Builder_Extra_156 bk o c xs sep w hcells hbk hN hcap hlen
def Tryz.laysM173_ren : Go.Shelf.Ren := ⟨fun | 173 => 119 | 246 => 191 | 283 => 248 | 284 => 249 | 285 => 250 | 286 => 251 | 129 => 294 | 317 => 293 | 318 => 295 | 319 => 296 | 320 => 297 | 337 => 322 | 338 => 323 | n => n, fun | 2 => 2 | 3 => 3 | 9 => 9 | 4 => 4 | 171 => 285 | 0 => 0 | 53 => 193 | 37 => 43 | 5 => 5 | 173 => 288 | 212 => 327 | 51 => 328 | 20 => 20 | 213 => 329 | 46 => 242 | 232 => 379 | 233 => 380 | n => n, fun | 17 => 1 | 18 => 6 | 19 => 7 | n => n⟩
theorem Tryz.laysM173 : Go.Proofs.LaysM.n173 Tryz.prog Tryz.laysM173_ren := {
  mixed := by kernel_rfl
  f129 := Tryz.func294.trans (congrArg some (by kernel_rfl))
  f173 := Tryz.func119.trans (congrArg some (by kernel_rfl))
  f246 := Tryz.func191.trans (congrArg some (by kernel_rfl))
  f283 := Tryz.func248.trans (congrArg some (by kernel_rfl))
  f284 := Tryz.func249.trans (congrArg some (by kernel_rfl))
  f285 := Tryz.func250.trans (congrArg some (by kernel_rfl))
  f286 := Tryz.func251.trans (congrArg some (by kernel_rfl))
  f317 := Tryz.func293.trans (congrArg some (by kernel_rfl))
  f318 := Tryz.func295.trans (congrArg some (by kernel_rfl))
  f319 := Tryz.func296.trans (congrArg some (by kernel_rfl))
  f320 := Tryz.func297.trans (congrArg some (by kernel_rfl))
  f337 := Tryz.func322.trans (congrArg some (by kernel_rfl))
  f338 := Tryz.func323.trans (congrArg some (by kernel_rfl))
  t0 := Tryz.underlying0
  a0 := Tryz.isAgg0
  z0 := Tryz.sizeOf0
  v0 := Tryz.zeroValue0
  t2 := Tryz.underlying2
  a2 := Tryz.isAgg2
  z2 := Tryz.sizeOf2
  v2 := Tryz.zeroValue2
  t3 := Tryz.underlying3
  a3 := Tryz.isAgg3
  z3 := Tryz.sizeOf3
  v3 := Tryz.zeroValue3
  t4 := Tryz.underlying4
  a4 := Tryz.isAgg4
  z4 := Tryz.sizeOf4
  v4 := Tryz.zeroValue4
  t5 := Tryz.underlying5
  a5 := Tryz.isAgg5
  z5 := Tryz.sizeOf5
  v5 := Tryz.zeroValue5
  t9 := Tryz.underlying9
  a9 := Tryz.isAgg9
  z9 := Tryz.sizeOf9
  v9 := Tryz.zeroValue9
  t20 := Tryz.underlying20
  a20 := Tryz.isAgg20
  z20 := Tryz.sizeOf20
  v20 := Tryz.zeroValue20
  t37 := Tryz.underlying43
  a37 := Tryz.isAgg43
  z37 := Tryz.sizeOf43
  v37 := Tryz.zeroValue43
  t46 := Tryz.underlying242
  a46 := Tryz.isAgg242
  z46 := Tryz.sizeOf242
  v46 := Tryz.zeroValue242
  t51 := Tryz.underlying328
  a51 := Tryz.isAgg328
  z51 := Tryz.sizeOf328
  v51 := Tryz.zeroValue328
  t53 := Tryz.underlying193
  a53 := Tryz.isAgg193
  z53 := Tryz.sizeOf193
  v53 := Tryz.zeroValue193
  t171 := Tryz.underlying285
  a171 := Tryz.isAgg285
  z171 := Tryz.sizeOf285
  v171 := Tryz.zeroValue285
  t173 := Tryz.underlying288
  a173 := Tryz.isAgg288
  z173 := Tryz.sizeOf288
  v173 := Tryz.zeroValue288
  t212 := Tryz.underlying327
  a212 := Tryz.isAgg327
  z212 := Tryz.sizeOf327
  v212 := Tryz.zeroValue327
  t213 := Tryz.underlying329
  a213 := Tryz.isAgg329
  z213 := Tryz.sizeOf329
  t232 := Tryz.underlying379
  a232 := Tryz.isAgg379
  z232 := Tryz.sizeOf379
  v232 := Tryz.zeroValue379
  t233 := Tryz.underlying380
  a233 := Tryz.isAgg380
  z233 := Tryz.sizeOf380
  v233 := Tryz.zeroValue380
  g17 := by kernel_rfl
  g18 := by kernel_rfl
  g19 := by kernel_rfl
  i0 := by kernel_rfl
  i2 := by kernel_rfl
  i3 := by kernel_rfl
  i4 := by kernel_rfl
  i5 := by kernel_rfl
  i9 := by kernel_rfl
  i20 := by kernel_rfl
  i37 := by kernel_rfl
  i46 := by kernel_rfl
  i51 := by kernel_rfl
  i53 := by kernel_rfl
  i171 := by kernel_rfl
  i173 := by kernel_rfl
  i212 := by kernel_rfl
  i232 := by kernel_rfl
  i233 := by kernel_rfl
  m17 := by kernel_rfl
  m18 := by kernel_rfl
  m19 := by kernel_rfl }
open Go.RowKit Go.Sort Go.Lib in
/-- strconv.FormatInt: "FormatInt returns the string representation of i in the given base": AT BASE 10: i's decimal numeral, for every int64. (LAID: no walk: one application.) -/
theorem Tryz.strconv_FormatInt_10 (n : Int) (h0 : -9223372036854775808 ≤ n) (h1 : n ≤ 9223372036854775807) (w : World) (htab : Lib.TabIs Tryz.prog w "internal/strconv.uint64pow10" .u64 Lib.pow10Tab) :
    Calls Tryz.prog 119 #[.int .i64 n, .int .i64 10] w fun e w' => e = .returned (.string ⟨(Lib.itoa n).toArray⟩) ∧ ∃ k os, w' = grow (w.drewN k) os := Any.strconv_FormatInt_10 Tryz.laysM173 n h0 h1 w htab
def Tryz.lays173_ren : Go.Shelf.Ren := ⟨fun | 173 => 119 | 246 => 191 | 283 => 248 | 284 => 249 | 285 => 250 | 286 => 251 | 129 => 294 | 317 => 293 | 318 => 295 | 319 => 296 | 320 => 297 | 337 => 322 | 338 => 323 | n => n, fun | 2 => 2 | 3 => 3 | 9 => 9 | 4 => 4 | 171 => 285 | 0 => 0 | 53 => 193 | 37 => 43 | 5 => 5 | 173 => 288 | 212 => 327 | 51 => 328 | 20 => 20 | 213 => 329 | 46 => 242 | 232 => 379 | 233 => 380 | n => n, fun | 17 => 1 | 18 => 6 | 19 => 7 | n => n⟩
theorem Tryz.lays173 : Go.Proofs.Lays.n173 Tryz.prog Tryz.lays173_ren := {
  mixed := by kernel_rfl
  f129 := Tryz.func294.trans (congrArg some (by kernel_rfl))
  f173 := Tryz.func119.trans (congrArg some (by kernel_rfl))
  f246 := Tryz.func191.trans (congrArg some (by kernel_rfl))
  f283 := Tryz.func248.trans (congrArg some (by kernel_rfl))
  f284 := Tryz.func249.trans (congrArg some (by kernel_rfl))
  f285 := Tryz.func250.trans (congrArg some (by kernel_rfl))
  f286 := Tryz.func251.trans (congrArg some (by kernel_rfl))
  f317 := Tryz.func293.trans (congrArg some (by kernel_rfl))
  f318 := Tryz.func295.trans (congrArg some (by kernel_rfl))
  f319 := Tryz.func296.trans (congrArg some (by kernel_rfl))
  f320 := Tryz.func297.trans (congrArg some (by kernel_rfl))
  f337 := Tryz.func322.trans (congrArg some (by kernel_rfl))
  f338 := Tryz.func323.trans (congrArg some (by kernel_rfl))
  t0 := Tryz.underlying0
  a0 := Tryz.isAgg0
  z0 := Tryz.sizeOf0
  v0 := Tryz.zeroValue0
  t2 := Tryz.underlying2
  a2 := Tryz.isAgg2
  z2 := Tryz.sizeOf2
  v2 := Tryz.zeroValue2
  t3 := Tryz.underlying3
  a3 := Tryz.isAgg3
  z3 := Tryz.sizeOf3
  v3 := Tryz.zeroValue3
  t4 := Tryz.underlying4
  a4 := Tryz.isAgg4
  z4 := Tryz.sizeOf4
  v4 := Tryz.zeroValue4
  t5 := Tryz.underlying5
  a5 := Tryz.isAgg5
  z5 := Tryz.sizeOf5
  v5 := Tryz.zeroValue5
  t9 := Tryz.underlying9
  a9 := Tryz.isAgg9
  z9 := Tryz.sizeOf9
  v9 := Tryz.zeroValue9
  t20 := Tryz.underlying20
  a20 := Tryz.isAgg20
  z20 := Tryz.sizeOf20
  v20 := Tryz.zeroValue20
  t37 := Tryz.underlying43
  a37 := Tryz.isAgg43
  z37 := Tryz.sizeOf43
  v37 := Tryz.zeroValue43
  t46 := Tryz.underlying242
  a46 := Tryz.isAgg242
  z46 := Tryz.sizeOf242
  v46 := Tryz.zeroValue242
  t51 := Tryz.underlying328
  a51 := Tryz.isAgg328
  z51 := Tryz.sizeOf328
  v51 := Tryz.zeroValue328
  t53 := Tryz.underlying193
  a53 := Tryz.isAgg193
  z53 := Tryz.sizeOf193
  v53 := Tryz.zeroValue193
  t171 := Tryz.underlying285
  a171 := Tryz.isAgg285
  z171 := Tryz.sizeOf285
  v171 := Tryz.zeroValue285
  t173 := Tryz.underlying288
  a173 := Tryz.isAgg288
  z173 := Tryz.sizeOf288
  v173 := Tryz.zeroValue288
  t212 := Tryz.underlying327
  a212 := Tryz.isAgg327
  z212 := Tryz.sizeOf327
  v212 := Tryz.zeroValue327
  t213 := Tryz.underlying329
  a213 := Tryz.isAgg329
  z213 := Tryz.sizeOf329
  t232 := Tryz.underlying379
  a232 := Tryz.isAgg379
  z232 := Tryz.sizeOf379
  v232 := Tryz.zeroValue379
  t233 := Tryz.underlying380
  a233 := Tryz.isAgg380
  z233 := Tryz.sizeOf380
  v233 := Tryz.zeroValue380
  g17 := by kernel_rfl
  g18 := by kernel_rfl
  g19 := by kernel_rfl }
open Go.RowKit Go.Sort Go.Lib in
/-- THE ROAD WITHOUT THE TABLE: 0 <= i < 100. (LAID: no walk: one application.) -/
theorem Tryz.strconv_FormatInt_10_small (i : Nat) (hi : i < 100) (w : World) :
    Calls Tryz.prog 119 #[.int .i64 i, .int .i64 10] w fun e w' => e = .returned (.string ⟨(Lib.decDigits i).toArray⟩) ∧ w' = w := Any.strconv_FormatInt_10_small Tryz.lays173 i hi w
def Tryz.laysC174_ren : Go.Shelf.Ren := ⟨fun | 174 => 197 | 247 => 263 | 245 => 264 | 287 => 303 | 279 => 304 | 280 => 305 | 281 => 306 | 282 => 307 | 321 => 325 | 322 => 326 | 316 => 327 | 171 => 329 | 205 => 328 | 243 => 348 | 246 => 191 | 283 => 248 | 284 => 249 | 285 => 250 | 286 => 251 | 129 => 294 | 317 => 293 | 318 => 295 | 319 => 296 | 320 => 297 | 337 => 322 | 338 => 323 | n => n, fun | 9 => 9 | 3 => 3 | 2 => 2 | 75 => 181 | 85 => 245 | 4 => 4 | 167 => 333 | 5 => 5 | 53 => 193 | 175 => 334 | 46 => 242 | 168 => 336 | 37 => 43 | 0 => 0 | 210 => 367 | 21 => 21 | 127 => 234 | 145 => 383 | 143 => 381 | 171 => 285 | 173 => 288 | 212 => 327 | 51 => 328 | 20 => 20 | 213 => 329 | 232 => 379 | 233 => 380 | 80 => 184 | n => n, fun | 15 => 4 | 16 => 5 | 17 => 1 | 18 => 6 | 19 => 7 | n => n⟩
theorem Tryz.laysC174 : Go.Proofs.LaysC.n174 Tryz.prog Tryz.laysC174_ren := {
  mixed := by kernel_rfl
  f129 := Tryz.func294.trans (congrArg some (by kernel_rfl))
  f171 := Tryz.func329.trans (congrArg some (by kernel_rfl))
  f174 := Tryz.func197.trans (congrArg some (by kernel_rfl))
  f205 := Tryz.func328.trans (congrArg some (by kernel_rfl))
  f243 := Tryz.func348.trans (congrArg some (by kernel_rfl))
  f245 := Tryz.func264.trans (congrArg some (by kernel_rfl))
  f246 := Tryz.func191.trans (congrArg some (by kernel_rfl))
  f247 := Tryz.func263.trans (congrArg some (by kernel_rfl))
  f279 := Tryz.func304.trans (congrArg some (by kernel_rfl))
  f280 := Tryz.func305.trans (congrArg some (by kernel_rfl))
  f281 := Tryz.func306.trans (congrArg some (by kernel_rfl))
  f282 := Tryz.func307.trans (congrArg some (by kernel_rfl))
  f283 := Tryz.func248.trans (congrArg some (by kernel_rfl))
  f284 := Tryz.func249.trans (congrArg some (by kernel_rfl))
  f285 := Tryz.func250.trans (congrArg some (by kernel_rfl))
  f286 := Tryz.func251.trans (congrArg some (by kernel_rfl))
  f287 := Tryz.func303.trans (congrArg some (by kernel_rfl))
  f316 := Tryz.func327.trans (congrArg some (by kernel_rfl))
  f317 := Tryz.func293.trans (congrArg some (by kernel_rfl))
  f318 := Tryz.func295.trans (congrArg some (by kernel_rfl))
  f319 := Tryz.func296.trans (congrArg some (by kernel_rfl))
  f320 := Tryz.func297.trans (congrArg some (by kernel_rfl))
  f321 := Tryz.func325.trans (congrArg some (by kernel_rfl))
  f322 := Tryz.func326.trans (congrArg some (by kernel_rfl))
  f337 := Tryz.func322.trans (congrArg some (by kernel_rfl))
  f338 := Tryz.func323.trans (congrArg some (by kernel_rfl))
  t0 := Tryz.underlying0
  a0 := Tryz.isAgg0
  z0 := Tryz.sizeOf0
  v0 := Tryz.zeroValue0
  t2 := Tryz.underlying2
  a2 := Tryz.isAgg2
  z2 := Tryz.sizeOf2
  v2 := Tryz.zeroValue2
  t3 := Tryz.underlying3
  a3 := Tryz.isAgg3
  z3 := Tryz.sizeOf3
  v3 := Tryz.zeroValue3
  t4 := Tryz.underlying4
  a4 := Tryz.isAgg4
  z4 := Tryz.sizeOf4
  v4 := Tryz.zeroValue4
  t5 := Tryz.underlying5
  a5 := Tryz.isAgg5
  z5 := Tryz.sizeOf5
  v5 := Tryz.zeroValue5
  t9 := Tryz.underlying9
  a9 := Tryz.isAgg9
  z9 := Tryz.sizeOf9
  v9 := Tryz.zeroValue9
  t20 := Tryz.underlying20
  a20 := Tryz.isAgg20
  z20 := Tryz.sizeOf20
  v20 := Tryz.zeroValue20
  t21 := Tryz.underlying21
  a21 := Tryz.isAgg21
  z21 := Tryz.sizeOf21
  v21 := Tryz.zeroValue21
  t37 := Tryz.underlying43
  a37 := Tryz.isAgg43
  z37 := Tryz.sizeOf43
  v37 := Tryz.zeroValue43
  t46 := Tryz.underlying242
  a46 := Tryz.isAgg242
  z46 := Tryz.sizeOf242
  v46 := Tryz.zeroValue242
  t51 := Tryz.underlying328
  a51 := Tryz.isAgg328
  z51 := Tryz.sizeOf328
  v51 := Tryz.zeroValue328
  t53 := Tryz.underlying193
  a53 := Tryz.isAgg193
  z53 := Tryz.sizeOf193
  v53 := Tryz.zeroValue193
  t75 := Tryz.underlying181
  a75 := Tryz.isAgg181
  z75 := Tryz.sizeOf181
  v75 := Tryz.zeroValue181
  t85 := Tryz.underlying245
  a85 := Tryz.isAgg245
  z85 := Tryz.sizeOf245
  v85 := Tryz.zeroValue245
  t127 := Tryz.underlying234
  a127 := Tryz.isAgg234
  z127 := Tryz.sizeOf234
  v127 := Tryz.zeroValue234
  t143 := Tryz.underlying381
  a143 := Tryz.isAgg381
  z143 := Tryz.sizeOf381
  v143 := Tryz.zeroValue381
  t145 := Tryz.underlying383
  a145 := Tryz.isAgg383
  z145 := Tryz.sizeOf383
  v145 := Tryz.zeroValue383
  t167 := Tryz.underlying333
  a167 := Tryz.isAgg333
  z167 := Tryz.sizeOf333
  v167 := Tryz.zeroValue333
  t168 := Tryz.underlying336
  a168 := Tryz.isAgg336
  z168 := Tryz.sizeOf336
  v168 := Tryz.zeroValue336
  t171 := Tryz.underlying285
  a171 := Tryz.isAgg285
  z171 := Tryz.sizeOf285
  v171 := Tryz.zeroValue285
  t173 := Tryz.underlying288
  a173 := Tryz.isAgg288
  z173 := Tryz.sizeOf288
  v173 := Tryz.zeroValue288
  t175 := Tryz.underlying334
  a175 := Tryz.isAgg334
  z175 := Tryz.sizeOf334
  v175 := Tryz.zeroValue334
  t210 := Tryz.underlying367
  a210 := Tryz.isAgg367
  z210 := Tryz.sizeOf367
  v210 := Tryz.zeroValue367
  t212 := Tryz.underlying327
  a212 := Tryz.isAgg327
  z212 := Tryz.sizeOf327
  v212 := Tryz.zeroValue327
  t213 := Tryz.underlying329
  a213 := Tryz.isAgg329
  z213 := Tryz.sizeOf329
  t232 := Tryz.underlying379
  a232 := Tryz.isAgg379
  z232 := Tryz.sizeOf379
  v232 := Tryz.zeroValue379
  t233 := Tryz.underlying380
  a233 := Tryz.isAgg380
  z233 := Tryz.sizeOf380
  v233 := Tryz.zeroValue380
  g15 := by kernel_rfl
  g16 := by kernel_rfl
  g17 := by kernel_rfl
  g18 := by kernel_rfl
  g19 := by kernel_rfl
  t80 := Tryz.underlying184
  a80 := Tryz.isAgg184
  z80 := Tryz.sizeOf184
  v80 := Tryz.zeroValue184
  i0 := by kernel_rfl
  i2 := by kernel_rfl
  i3 := by kernel_rfl
  i4 := by kernel_rfl
  i5 := by kernel_rfl
  i9 := by kernel_rfl
  i20 := by kernel_rfl
  i21 := by kernel_rfl
  i37 := by kernel_rfl
  i46 := by kernel_rfl
  i51 := by kernel_rfl
  i53 := by kernel_rfl
  i75 := by kernel_rfl
  i80 := by kernel_rfl
  i85 := by kernel_rfl
  i127 := by kernel_rfl
  i143 := by kernel_rfl
  i145 := by kernel_rfl
  i167 := by kernel_rfl
  i168 := by kernel_rfl
  i171 := by kernel_rfl
  i173 := by kernel_rfl
  i175 := by kernel_rfl
  i210 := by kernel_rfl
  i212 := by kernel_rfl
  i232 := by kernel_rfl
  i233 := by kernel_rfl
  m15 := by kernel_rfl
  m16 := by kernel_rfl
  m17 := by kernel_rfl
  m18 := by kernel_rfl
  m19 := by kernel_rfl
  c0 := by kernel_rfl
  c2 := by kernel_rfl
  c3 := by kernel_rfl
  c4 := by kernel_rfl
  c5 := by kernel_rfl
  c9 := by kernel_rfl
  c20 := by kernel_rfl
  c21 := by kernel_rfl
  c37 := by kernel_rfl
  c46 := by kernel_rfl
  c51 := by kernel_rfl
  c53 := by kernel_rfl
  c75 := by kernel_rfl
  c80 := by kernel_rfl
  c85 := by kernel_rfl
  c127 := by kernel_rfl
  c143 := by kernel_rfl
  c145 := by kernel_rfl
  c167 := by kernel_rfl
  c168 := by kernel_rfl
  c171 := by kernel_rfl
  c173 := by kernel_rfl
  c175 := by kernel_rfl
  c210 := by kernel_rfl
  c212 := by kernel_rfl
  c213 := by kernel_rfl
  c232 := by kernel_rfl
  c233 := by kernel_rfl }
open Go.RowKit in
/-- strconv.ParseInt(s, 10, 64), AT EVERY STRING THAT SPELLS AN int64 ('Lib.parseIntB 64 s.data.toList = .ok v'): v, AND NO ERROR. (LAID: no walk: one application.) -/
theorem Tryz.strconv_ParseInt_10_at64_ok (s : ByteArray) (hmax : s.size ≤ 9223372036854775806) (v : Int) (h : Lib.parseIntB 64 s.data.toList = .ok v) (w : World) :
    Calls Tryz.prog 197 #[.string s, .int .i64 10, .int .i64 64] w fun e w' => e = .returned (.tuple #[.int .i64 v, .nilIface]) ∧ (w' = w ∨ ∃ t, w' = Lib.bytesWorld w 5 t) := Any.strconv_ParseInt_10_at64_ok Tryz.laysC174 s hmax v h w
open Go.RowKit in
/-- strconv.ParseInt(s, 10, 64), AT EVERY NUMERAL THAT NO int64 HOLDS: THE GREATEST OR THE LEAST int64, BY THE SIGN ('Lib.intSat 64'), AND AN ERROR THAT IS NOT nil: a *NumError in a new block N: {Func: "ParseInt", Num: s's bytes, Err: what the variable ErrRange holds}. Of what was there nothing has turned. (LAID: no walk: one application.) -/
theorem Tryz.strconv_ParseInt_10_at64_range (s : ByteArray) (hlim : s.size ≤ 281474976710656) (h : Lib.parseIntB 64 s.data.toList = .range) (ev : Value) (w : World) (hv : w.cell? ⟨5, 0, none⟩ = some ev) (hev : ev = .nilIface ∨ ∃ te pe, ev = .iface te pe) :
    Calls Tryz.prog 197 #[.string s, .int .i64 10, .int .i64 64] w fun e w' => ∃ N, e = .returned (.tuple #[.int .i64 (Lib.intSat 64 s.data.toList), .iface 336 (.pointer (some ⟨N, 0, none⟩))]) ∧ w.heap.size ≤ N ∧ w'.heap[N]? = some (.cells #[.string ⟨#[80, 97, 114, 115, 101, 73, 110, 116]⟩, .string s, ev] 367 (0, 0)) ∧ Below w.heap.size w w' := Any.strconv_ParseInt_10_at64_range Tryz.laysC174 s hlim h ev w hv hev
def Tryz.lays144_ren : Go.Shelf.Ren := ⟨fun | 144 => 51 | 143 => 124 | 219 => 192 | 217 => 183 | 225 => 252 | 224 => 253 | 267 => 254 | 266 => 243 | 314 => 298 | n => n, fun | 9 => 9 | 4 => 4 | 3 => 3 | 5 => 5 | 46 => 242 | 146 => 331 | 51 => 328 | n => n, fun | 1 => 0 | n => n⟩
theorem Tryz.lays144 : Go.Proofs.Lays.n144 Tryz.prog Tryz.lays144_ren := {
  mixed := by kernel_rfl
  f143 := Tryz.func124.trans (congrArg some (by kernel_rfl))
  f144 := Tryz.func51.trans (congrArg some (by kernel_rfl))
  f217 := Tryz.func183.trans (congrArg some (by kernel_rfl))
  f219 := Tryz.func192.trans (congrArg some (by kernel_rfl))
  f224 := Tryz.func253.trans (congrArg some (by kernel_rfl))
  f225 := Tryz.func252.trans (congrArg some (by kernel_rfl))
  f266 := Tryz.func243.trans (congrArg some (by kernel_rfl))
  f267 := Tryz.func254.trans (congrArg some (by kernel_rfl))
  f314 := Tryz.func298.trans (congrArg some (by kernel_rfl))
  t3 := Tryz.underlying3
  a3 := Tryz.isAgg3
  z3 := Tryz.sizeOf3
  v3 := Tryz.zeroValue3
  t4 := Tryz.underlying4
  a4 := Tryz.isAgg4
  z4 := Tryz.sizeOf4
  v4 := Tryz.zeroValue4
  t5 := Tryz.underlying5
  a5 := Tryz.isAgg5
  z5 := Tryz.sizeOf5
  v5 := Tryz.zeroValue5
  t9 := Tryz.underlying9
  a9 := Tryz.isAgg9
  z9 := Tryz.sizeOf9
  v9 := Tryz.zeroValue9
  t46 := Tryz.underlying242
  a46 := Tryz.isAgg242
  z46 := Tryz.sizeOf242
  v46 := Tryz.zeroValue242
  t51 := Tryz.underlying328
  a51 := Tryz.isAgg328
  z51 := Tryz.sizeOf328
  v51 := Tryz.zeroValue328
  t146 := Tryz.underlying331
  a146 := Tryz.isAgg331
  z146 := Tryz.sizeOf331
  v146 := Tryz.zeroValue331
  g1 := by kernel_rfl }
open Go.RowKit Go.Lib in
/-- strings.Contains: "Contains reports whether substr is within s.": IT RETURNS 'Lib.contains s substr'; the world is as it was. (LAID: no walk: one application.) -/
theorem Tryz.strings_Contains (s sub : ByteArray) (m : Int) (w : World) (hs : s.size < 4294967281) (hm : w.cell? ⟨0, 0, none⟩ = some (.int .i64 m)) :
    Calls Tryz.prog 51 #[.string s, .string sub] w fun e w' => e = .returned (.bool (Lib.contains s.data.toList sub.data.toList)) ∧ w' = w := Any.strings_Contains Tryz.lays144 s sub m w hs hm
def Tryz.laysM144_ren : Go.Shelf.Ren := ⟨fun | 144 => 51 | 143 => 124 | 219 => 192 | 217 => 183 | 225 => 252 | 224 => 253 | 267 => 254 | 266 => 243 | 314 => 298 | n => n, fun | 9 => 9 | 4 => 4 | 3 => 3 | 5 => 5 | 46 => 242 | 146 => 331 | 51 => 328 | n => n, fun | 1 => 0 | n => n⟩
theorem Tryz.laysM144 : Go.Proofs.LaysM.n144 Tryz.prog Tryz.laysM144_ren := {
  mixed := by kernel_rfl
  f143 := Tryz.func124.trans (congrArg some (by kernel_rfl))
  f144 := Tryz.func51.trans (congrArg some (by kernel_rfl))
  f217 := Tryz.func183.trans (congrArg some (by kernel_rfl))
  f219 := Tryz.func192.trans (congrArg some (by kernel_rfl))
  f224 := Tryz.func253.trans (congrArg some (by kernel_rfl))
  f225 := Tryz.func252.trans (congrArg some (by kernel_rfl))
  f266 := Tryz.func243.trans (congrArg some (by kernel_rfl))
  f267 := Tryz.func254.trans (congrArg some (by kernel_rfl))
  f314 := Tryz.func298.trans (congrArg some (by kernel_rfl))
  t3 := Tryz.underlying3
  a3 := Tryz.isAgg3
  z3 := Tryz.sizeOf3
  v3 := Tryz.zeroValue3
  t4 := Tryz.underlying4
  a4 := Tryz.isAgg4
  z4 := Tryz.sizeOf4
  v4 := Tryz.zeroValue4
  t5 := Tryz.underlying5
  a5 := Tryz.isAgg5
  z5 := Tryz.sizeOf5
  v5 := Tryz.zeroValue5
  t9 := Tryz.underlying9
  a9 := Tryz.isAgg9
  z9 := Tryz.sizeOf9
  v9 := Tryz.zeroValue9
  t46 := Tryz.underlying242
  a46 := Tryz.isAgg242
  z46 := Tryz.sizeOf242
  v46 := Tryz.zeroValue242
  t51 := Tryz.underlying328
  a51 := Tryz.isAgg328
  z51 := Tryz.sizeOf328
  v51 := Tryz.zeroValue328
  t146 := Tryz.underlying331
  a146 := Tryz.isAgg331
  z146 := Tryz.sizeOf331
  v146 := Tryz.zeroValue331
  g1 := by kernel_rfl
  i3 := by kernel_rfl
  i4 := by kernel_rfl
  i5 := by kernel_rfl
  i9 := by kernel_rfl
  i46 := by kernel_rfl
  i51 := by kernel_rfl
  i146 := by kernel_rfl
  m1 := by kernel_rfl
  s1_3 := fun w h => Go.Proofs.cell_of_shapedOpen_int (zero := #[.int .i64 0]) (t := 3) h (of_decide_eq_true (by kernel_rfl)) (by kernel_rfl) rfl (by kernel_rfl) (by kernel_rfl) Tryz.underlying3 }
end Go.Proofs
/- Laws of functions of the library, from the shelf's contracts; a number's text, parsed. -/
namespace Go.Pv
open Go Go.Proofs
set_option maxRecDepth 4000
/-- What is known of the library's variables. -/
structure GOk (G : Frz) : Prop where
  g0 : ∃ m, G 0 0 = some (.int .i64 m)
  g5 : ∃ ev, G 5 0 = some ev ∧ (ev = .nilIface ∨ ∃ te pe, ev = .iface te pe)
  g1 : ∀ (i : Nat) (z : Int), Lib.pow10Tab[i]? = some z → G 1 i = some (.int .u64 z)
variable {G : Frz}
/-- The table of powers of ten is as the library lays it. -/
theorem tab_of {S : Frz} {w : World} (hG : GOk G) (hS : G.le S) (hk : Sok S w) : Lib.TabIs Tryz.prog w "internal/strconv.uint64pow10" .u64 Lib.pow10Tab := by
  obtain ⟨_, cs, T, fr, h1, h2⟩ := hk.tab 1 20 rfl
  unfold Lib.TabIs World.var?
  rw [show Tryz.prog.globalNamed "internal/strconv.uint64pow10" = some 1 by kernel_rfl]
  simp only [Option.bind_some, h1, Option.some.injEq]
  apply Array.ext
  · simp [h2, Lib.pow10Tab_length]
  · intro i hi hj
    have hi' : i < Lib.pow10Tab.length := by simpa using hj
    have h3 := (hk _ _ _ (hS _ _ _ (hG.g1 i _ (List.getElem?_eq_getElem hi')))).1
    rw [cell_heap h1, Array.getElem?_eq_getElem hi] at h3
    simpa using h3
theorem sound119 (hG : GOk G) (n : Int) (h0 : -9223372036854775808 ≤ n) (h1 : n ≤ 9223372036854775807) (σ : List Blk) : Sound Tryz.prog G 119 [i64 n, i64 10] σ (.str (Lib.itoa n)) σ := by
  refine sound_calls (by simp [callOk, Tryz.func119]; decide) (by simp) (fun φ S w vargs hS hk ha => ?_) σ
  obtain ⟨u, v, rfl, h2, h3⟩ := rl_two ha
  cases vr_int h2; cases vr_int h3
  refine (Tryz.strconv_FormatInt_10 n h0 h1 w (tab_of hG hS hk)).mono ?_
  rintro e w' ⟨rfl, k, os, rfl⟩
  refine ⟨_, rfl, (VP.str _ : VP S _ _), rfl, rfl, rfl, by simp [Go.Sort.grow, World.drewN], fun j hj => ?_⟩
  show (w.heap ++ os)[j]? = _
  rw [Array.getElem?_append_left hj]
theorem sound51 (hG : GOk G) (s sub : Bytes) (hs : s.length < 4294967281) (σ : List Blk) : Sound Tryz.prog G 51 [.str s, .str sub] σ (.bool (Lib.contains s sub)) σ := by
  refine sound_calls (by simp [callOk, Tryz.func51]; decide) (by simp) (fun φ S w vargs hS hk ha => ?_) σ
  obtain ⟨u, v, rfl, h1, h2⟩ := rl_two ha
  cases vr_str h1; cases vr_str h2
  obtain ⟨m, hm⟩ := hG.g0
  refine (Tryz.strings_Contains ⟨s.toArray⟩ ⟨sub.toArray⟩ m w (by simpa [ByteArray.size] using hs) (hk _ _ _ (hS _ _ _ hm)).1).mono ?_
  rintro e w' ⟨rfl, rfl⟩
  exact ⟨_, rfl, VP.bool _, Longer.refl _⟩
theorem vr_pair {φ : List Nat} {S : Frz} {a b : AV} {u v : Value} (h1 : R2 φ S a u) (h2 : R2 φ S b v) : VR φ S (.tup [a, b]) (.tuple #[u, v]) := by
  refine ⟨_, rfl, rfl, fun i c x hc hx => ?_⟩
  match i with
  | 0 => simp at hc hx; subst hc; subst hx; exact h1
  | 1 => simp at hc hx; subst hc; subst hx; exact h2
  | i + 2 => simp at hc
theorem sound197_ok (s : Bytes) (hs : s.length ≤ 281474976710656) (v : Int) (h : Lib.parseIntB 64 s = .ok v) (σ : List Blk) : Sound Tryz.prog G 197 [.str s, i64 10, i64 64] σ (.tup [i64 v, .nili]) σ := by
  refine sound_calls (by simp [callOk, Tryz.func197]; decide) (by simp) (fun φ S w vargs hS hk ha => ?_) σ
  obtain ⟨u, a, b, rfl, h1, h2, h3⟩ := rl_three ha
  cases vr_str h1; cases vr_int h2; cases vr_int h3
  refine (Tryz.strconv_ParseInt_10_at64_ok ⟨s.toArray⟩ (by simp [ByteArray.size]; omega) v (by simpa using h) w).mono ?_
  rintro e w' ⟨rfl, hw⟩
  refine ⟨_, rfl, vr_pair (VP.int _ _).r2 VP.nili.r2, ?_⟩
  rcases hw with rfl | ⟨t, rfl⟩
  · exact Longer.refl _
  · exact Longer.below (Lib.bytesWorld_below _ _ _)
theorem sound197_range (hG : GOk G) (s : Bytes) (hs : s.length ≤ 281474976710656) (h : Lib.parseIntB 64 s = .range) (σ : List Blk) : Sound Tryz.prog G 197 [.str s, i64 10, i64 64] σ (.tup [i64 (Lib.intSat 64 s), .iface 336 .undef]) σ := by
  refine sound_calls (by simp [callOk, Tryz.func197]; decide) (by simp) (fun φ S w vargs hS hk ha => ?_) σ
  obtain ⟨u, a, b, rfl, h1, h2, h3⟩ := rl_three ha
  cases vr_str h1; cases vr_int h2; cases vr_int h3
  obtain ⟨ev, he, hev⟩ := hG.g5
  refine (Tryz.strconv_ParseInt_10_at64_range ⟨s.toArray⟩ (by simp [ByteArray.size]; omega) (by simpa using h) ev w (hk _ _ _ (hS _ _ _ he)).1 hev).mono ?_
  rintro e w' ⟨N, rfl, _, _, hw⟩
  refine ⟨_, rfl, vr_pair ?_ (VP.iface 336 .undef _ (VP.undef _)).r2, Longer.below hw⟩
  have := (VP.int .i64 (Lib.intSat 64 s) : VP S _ _).r2 (φ := φ)
  simpa using this
/-! ### A row of digits -/
def accN (a : Nat) (l : Bytes) : Nat := l.foldl (fun a c => a * 10 + (c.toNat - 48)) a
theorem accN_ge : ∀ (l : Bytes) (a : Nat), a ≤ accN a l
  | [], a => Nat.le_refl _
  | c :: l, a => by
    have := accN_ge l (a * 10 + (c.toNat - 48))
    show a ≤ accN (a * 10 + (c.toNat - 48)) l
    omega
theorem parseUintM_digits : ∀ (l : Bytes) (a : Nat), l.all digit = true → Lib.parseUintM (2 ^ 64 - 1) a l = if accN a l ≤ 2 ^ 64 - 1 ∨ l = [] then .ok (accN a l) else .range
  | [], a, _ => by simp [Lib.parseUintM, accN]
  | c :: l, a, h => by
    simp only [List.all_cons, Bool.and_eq_true] at h
    have hc : 48 ≤ c.toNat ∧ c.toNat ≤ 57 := by simpa [digit] using h.1
    have hs : accN a (c :: l) = accN (a * 10 + (c.toNat - 48)) l := rfl
    have hge := accN_ge l (a * 10 + (c.toNat - 48))
    rw [Lib.parseUintM, if_pos hc]
    rw [hs]
    by_cases h1 : 1844674407370955162 ≤ a
    · rw [if_pos h1, if_neg (by simp; omega)]
    · rw [if_neg h1]
      by_cases h2 : 2 ^ 64 - 1 < a * 10 + (c.toNat - 48)
      · rw [if_pos h2, if_neg (by simp; omega)]
      · rw [if_neg h2, parseUintM_digits l _ h.2]
        by_cases hl : l = []
        · subst hl
          have : accN (a * 10 + (c.toNat - 48)) [] = a * 10 + (c.toNat - 48) := rfl
          rw [if_pos (.inr rfl), if_pos (.inl (by rw [this]; omega))]
        · simp [hl]
theorem parseIntB_digits (l : Bytes) (hne : l ≠ []) (h : l.all digit = true) : Lib.parseIntB 64 l = if decN l < 9223372036854775808 then .ok (decN l : Int) else .range := by
  cases l with
  | nil => exact absurd rfl hne
  | cons c r =>
    have hc : 48 ≤ c.toNat ∧ c.toNat ≤ 57 := by
      simp only [List.all_cons, Bool.and_eq_true] at h
      simpa [digit] using h.1
    have h45 : ¬ (c.toNat = 43 ∨ c.toNat = 45) := by omega
    have h45' : ¬ c.toNat = 45 := by omega
    have hd : decN (c :: r) = accN 0 (c :: r) := rfl
    simp only [Lib.parseIntB, if_neg h45, Lib.parseUintB, if_neg (by simp : ¬ (c :: r) = [])]
    rw [parseUintM_digits _ _ h, hd]
    by_cases h1 : accN 0 (c :: r) ≤ 2 ^ 64 - 1
    · rw [if_pos (.inl h1)]
      by_cases h2 : accN 0 (c :: r) < 9223372036854775808
      · simp [h45', h2]
      · simp [h45', h2]
    · rw [if_neg (by simp; omega), if_neg (by omega)]
theorem c133 (hG : GOk G) (w : Bytes) (hne : w ≠ []) (hd : w.all digit = true) (hs : w.length ≤ 281474976710656) : RR G 133 [.str w] [] (match numP w with | .ok n => .tup [i64 n, i64 0] | .error e => .tup [i64 0, i64 e]) [] := by
  have hform : Num.form w = if w.head? = some 48 ∧ w.length > 1 then false else true := by
    cases w with
    | nil => exact absurd rfl hne
    | cons c r =>
      have hc : 48 ≤ c.toNat ∧ c.toNat ≤ 57 := by
        simp only [List.all_cons, Bool.and_eq_true] at hd
        simpa [digit] using hd.1
      have h45 : ¬ c = 45 := fun e => by subst e; simp at hc
      have hda : (c :: r).all Num.digit = true := hd
      unfold Num.form Num.cut Num.body
      by_cases h0 : c = 48
      · subst h0
        cases r with
        | nil => simp
        | cons d r => simp
      · have : ¬ (c :: r) = [48] := fun e => h0 (by cases e; rfl)
        simp [this, h45, h0, hda]
  have hlim : w.length ≤ strLim := Nat.le_trans hs (by decide)
  by_cases hf : w.head? = some 48 ∧ w.length > 1
  · have hnum : numP w = .error 1 := by
      unfold numP
      rw [if_neg hne, if_pos hf]
    rw [if_pos hf] at hform
    rw [hnum]
    refine ret_intro Tryz.func133 rfl Tryz.results133 (by decide +kernel) rfl (Nat.le_refl _) rfl (by simp) ?_
    simp -implicitDefEqProofs only [Nat.reduceEqDiff, Nat.reduceLeDiff, Nat.reduceAdd, reduceCtorEq, go_sem, ↓reduceIte]
    refine callW_pure (c196 _ w hlim) rfl rfl ?_
    simp -implicitDefEqProofs only [hform, Nat.reduceEqDiff, Nat.reduceLeDiff, Nat.reduceAdd, reduceCtorEq, go_sem, ↓reduceIte]
    rfl
  rw [if_neg hf] at hform
  have hnum : numP w = if decN w < 9223372036854775808 then .ok (decN w) else .error 3 := by
    unfold numP
    rw [if_neg hne, if_neg hf, if_neg (by simp [hd])]
  rw [hnum]
  by_cases hv : decN w < 9223372036854775808
  · rw [if_pos hv]
    refine ret_intro Tryz.func133 rfl Tryz.results133 (by decide +kernel) rfl (Nat.le_refl _) rfl (by simp) ?_
    simp -implicitDefEqProofs only [Nat.reduceEqDiff, Nat.reduceLeDiff, Nat.reduceAdd, reduceCtorEq, go_sem, ↓reduceIte]
    refine callW_pure (c196 _ w hlim) rfl rfl ?_
    simp -implicitDefEqProofs only [hform, Nat.reduceEqDiff, Nat.reduceLeDiff, Nat.reduceAdd, reduceCtorEq, go_sem, ↓reduceIte]
    refine callW_pure (ret_prim (sound197_ok w hs (decN w) (by rw [parseIntB_digits w hne hd, if_pos hv]) [])) rfl rfl ?_
    simp -implicitDefEqProofs only [Nat.reduceEqDiff, Nat.reduceLeDiff, Nat.reduceAdd, reduceCtorEq, go_sem, ↓reduceIte]
  · rw [if_neg hv]
    refine ret_intro Tryz.func133 rfl Tryz.results133 (by decide +kernel) rfl (Nat.le_refl _) rfl (by simp) ?_
    simp -implicitDefEqProofs only [Nat.reduceEqDiff, Nat.reduceLeDiff, Nat.reduceAdd, reduceCtorEq, go_sem, ↓reduceIte]
    refine callW_pure (c196 _ w hlim) rfl rfl ?_
    simp -implicitDefEqProofs only [hform, Nat.reduceEqDiff, Nat.reduceLeDiff, Nat.reduceAdd, reduceCtorEq, go_sem, ↓reduceIte]
    refine callW_pure (ret_prim (sound197_range hG w hs (by rw [parseIntB_digits w hne hd, if_neg hv]) [])) rfl rfl ?_
    simp -implicitDefEqProofs only [Nat.reduceEqDiff, Nat.reduceLeDiff, Nat.reduceAdd, reduceCtorEq, go_sem, ↓reduceIte]
    rfl
end Go.Pv
/- Laws of the scanner's functions. -/
namespace Go.Pv
open Go Go.Proofs
set_option maxRecDepth 4000
variable {G : Frz}
def scanB (s : Bytes) (at' : Nat) : Blk := .cells 92 [.str s, i64 at']
theorem wrap_nat (a b : Nat) (h : a + b ≤ 4611686018427387905) : IntKind.i64.wrap ((a : Int) + (b : Int)) = ((a + b : Nat) : Int) := by
  rw [IntKind.wrap_i64]; omega
theorem scan_closed (s : Bytes) (at' : Nat) : ∀ b ∈ [scanB s at'], renB (List.range [scanB s at'].length) b = b := by
  simp [scanB, renB, ren1, ren0]
theorem c130 (s of : Bytes) (at' k : Nat) (h : at' ≤ s.length) (hs : s.length ≤ 4611686018427387904) (hk : k ≤ 1) : RR G 130 [.ptr 0 0, .str of, i64 k] [scanB s at'] (.bool ((s.drop (at' + k)).head?.any fun c => decide (0 ≤ idxB of c))) [scanB s at'] := by
  unfold scanB
  refine ret_intro Tryz.func130 rfl Tryz.results130 (by decide +kernel) rfl (Nat.le_refl _) rfl (by simp [renB, ren1, ren0]) ?_
  simp -implicitDefEqProofs only [Nat.reduceEqDiff, Nat.reduceLeDiff, Nat.reduceAdd, reduceCtorEq, go_sem, ↓reduceIte]
  (refine WT_ord (t := lin [0, 1, 2, 3, 4, 5, 6, 7, 8, 9, 10, 11, 12, 13, 14, 15, 16, 17, 18, 19, 20, 21, 22, 23, 24, 25, 26, 27, 28] .nil) ?_ ?_; kernel_rfl)
  have hw := wrap_nat at' k (by omega)
  simp -implicitDefEqProofs only [hw, Nat.reduceEqDiff, Nat.reduceLeDiff, Nat.reduceAdd, reduceCtorEq, go_sem, ↓reduceIte]
  refine ⟨fun hlt => ?_, fun hge => ?_⟩
  · simp at hlt
    have hlt' : at' + k < s.length := by omega
    have hti : Int.toNat ((at' + k : Nat) : Int) = at' + k := Int.toNat_natCast _
    refine ⟨by omega, by rw [hti]; exact hlt', ?_⟩
    refine callW_pure (c117 _ _) rfl rfl ?_
    simp -implicitDefEqProofs only [hti, Nat.reduceEqDiff, Nat.reduceLeDiff, Nat.reduceAdd, reduceCtorEq, go_sem, ↓reduceIte]
    rw [List.drop_eq_getElem_cons hlt']
    simp [hlt']
  · simp at hge
    have hlt' : s.length ≤ at' + k := by omega
    rw [List.drop_eq_nil_of_le hlt']
    simp
/-! ### A text without the bytes of a set at its begin -/
theorem ba_get (s : Bytes) (i : Nat) : (⟨s.toArray⟩ : ByteArray).get! i = s.getD i 0 := by
  show s.toArray[i]! = _
  simp [List.getD, getElem!_def]
  rfl
theorem dec_ascii (s : Bytes) (i : Nat) (ha : (s.getD i 0).toNat < 128) : Utf8.decode ⟨s.toArray⟩ i = ((s.getD i 0).toNat, 1) := by
  rw [Lib.decode_at, ba_get]
  have : (s.getD i 0).toNat < 128 := ha
  unfold Lib.decodeN
  rw [if_pos this]
theorem dec_high (s : Bytes) (i : Nat) (ha : 128 ≤ (s.getD i 0).toNat) : 128 ≤ (Utf8.decode ⟨s.toArray⟩ i).1 := by
  rw [Lib.decode_at, ba_get]
  unfold Lib.decodeN
  repeat' split
  all_goals simp only
  all_goals omega
def inSet (set : Bytes) (c : UInt8) : Bool := set.any fun d => c == d
theorem c194 (s set : Bytes) (hs : s.length ≤ 4611686018427387904) (hset : set.all (fun d => decide (d.toNat < 128)) = true) : RR G 194 [.str s, .str set] [] (.str (s.dropWhile (inSet set))) [] := by
  refine ret_intro Tryz.func194 rfl Tryz.results194 (by decide +kernel) rfl (Nat.le_refl _) rfl (by simp) ?_
  refine wp_mid [(0, .str s), (1, .str set)] [] ?_ fun env ⟨h0, h1, _⟩ => ?_
  · simp -implicitDefEqProofs only [Nat.reduceEqDiff, Nat.reduceLeDiff, Nat.reduceAdd, reduceCtorEq, go_sem, ↓reduceIte]
  refine wp_ghost (A := List Blk) (fun _ => s.dropWhile (inSet set) = []) (fun b => b) (fun _ => []) ?_ fun b hb env _ => ?_
  · refine wp_mid [(0, .str s), (1, .str set), (11, .iter 0)] [.siter s 0] ?_ fun env ⟨h0, h1, h2, _⟩ => ?_
    · simp -implicitDefEqProofs only [h0, h1, Nat.reduceEqDiff, Nat.reduceLeDiff, Nat.reduceAdd, reduceCtorEq, go_sem, ↓reduceIte]
    rw [wp_block_eq]
    refine wp_loop_garb (A := Nat) (fun i => [(0, .str s), (1, .str set), (11, .iter 0)]) (fun i => [.siter s i]) (fun i => i ≤ s.length ∧ (s.drop i).dropWhile (inSet set) = s.dropWhile (inSet set)) (fun i => s.length - i) 0 ⟨by omega, by simp⟩ rfl ⟨h0, h1, h2, trivial⟩ ?_ ?_
    · intro i hi
      exact ⟨Nat.zero_le _, by simp [renB], by simp [ren, ren2, ren1, ren0]⟩
    intro i hi
    by_cases hlt : i < s.length
    · refine wp_mid [(0, .str s), (1, .str set), (11, .iter 0), (12, .tup [.bool true, i64 i, .int .i32 (Utf8.decode ⟨s.toArray⟩ i).1]), (13, .bool true)] [.siter s (i + (Utf8.decode ⟨s.toArray⟩ i).2)] ?_ fun env ⟨h0, h1, h2, h3, h4, _⟩ => ?_
      · simp -implicitDefEqProofs only [Nat.reduceEqDiff, Nat.reduceLeDiff, Nat.reduceAdd, reduceCtorEq, go_sem, ↓reduceIte]
        exact fun h => absurd hlt (by omega)
      refine wp_mid [(0, .str s), (1, .str set), (11, .iter 0), (12, .tup [.bool true, i64 i, .int .i32 (Utf8.decode ⟨s.toArray⟩ i).1])] [.siter s (i + (Utf8.decode ⟨s.toArray⟩ i).2)] ?_ fun env ⟨h0, h1, h2, h3, _⟩ => ?_
      · simp -implicitDefEqProofs only [h4, Nat.reduceEqDiff, Nat.reduceLeDiff, Nat.reduceAdd, reduceCtorEq, go_sem, ↓reduceIte]
        exact ⟨h0, h1, h2, h3⟩
      generalize hr : (Utf8.decode ⟨s.toArray⟩ i).1 = r at h3
      generalize hn : (Utf8.decode ⟨s.toArray⟩ i).2 = n
      rw [wp_block_eq]
      refine wp_mid [(0, .str s), (1, .str set), (11, .iter 0), (5, i64 i), (6, .int .i32 r)] [.siter s (i + n)] ?_ fun env ⟨h0, h1, h2, h5, h6, _⟩ => ?_
      · simp -implicitDefEqProofs only [h0, h1, h2, h3, Nat.reduceEqDiff, Nat.reduceLeDiff, Nat.reduceAdd, reduceCtorEq, go_sem, ↓reduceIte]
      refine wp_mid [(0, .str s), (1, .str set), (11, .iter 0), (5, i64 i), (6, .int .i32 r), (7, .bool false)] [.siter s (i + n)] ?_ fun env ⟨h0, h1, h2, h5, h6, h7, _⟩ => ?_
      · simp -implicitDefEqProofs only [h0, h1, h2, h5, h6, Nat.reduceEqDiff, Nat.reduceLeDiff, Nat.reduceAdd, reduceCtorEq, go_sem, ↓reduceIte]
      refine wp_mid [(0, .str s), (1, .str set), (11, .iter 0), (5, i64 i), (7, .bool (set.any fun d => r == d.toNat))] [.siter s (i + n), .siter set set.length] ?_ fun env ⟨h0, h1, h2, h5, h7, _⟩ => ?_
      · refine wp_mid [(0, .str s), (1, .str set), (11, .iter 0), (5, i64 i), (6, .int .i32 r), (7, .bool false), (17, .iter 1)] [.siter s (i + n), .siter set 0] ?_ fun env ⟨h0, h1, h2, h5, h6, h7, h17, _⟩ => ?_
        · simp -implicitDefEqProofs only [h0, h1, h2, h5, h6, h7, Nat.reduceEqDiff, Nat.reduceLeDiff, Nat.reduceAdd, reduceCtorEq, go_sem, ↓reduceIte]
        rw [wp_block_eq]
        refine wp_loop_use (A := Nat) (fun j => [(0, .str s), (1, .str set), (11, .iter 0), (5, i64 i), (6, .int .i32 r), (7, .bool ((set.take j).any fun d => r == d.toNat)), (17, .iter 1)]) (fun j => [.siter s (i + n), .siter set j]) (fun j => j ≤ set.length) (fun j => set.length - j) 0 (Nat.zero_le _) rfl ⟨h0, h1, h2, h5, h6, h7, h17, trivial⟩ ?_
        intro j hj
        by_cases hjl : j < set.length
        · have hd : (set.getD j 0).toNat < 128 := by
            have := List.all_eq_true.1 hset set[j] (List.getElem_mem hjl)
            simp [hjl]
            simpa using this
          have hdec := dec_ascii set j hd
          simp -implicitDefEqProofs only [hdec, Nat.reduceEqDiff, Nat.reduceLeDiff, Nat.reduceAdd, reduceCtorEq, go_sem, ↓reduceIte]
          have hany : (set.take (j + 1)).any (fun d => r == d.toNat) = ((set.take j).any (fun d => r == d.toNat) || r == (set.getD j 0).toNat) := by
            rw [List.take_succ_eq_append_getElem hjl, List.any_append]
            simp [hjl]
          have hcast : ((r : Int) == ((set.getD j 0).toNat : Int)) = (r == (set.getD j 0).toNat) := by
            rw [Bool.eq_iff_iff]; simp; omega
          refine ⟨fun _ => ⟨fun ht => ⟨j + 1, ⟨by omega, by omega⟩, rfl, ?_⟩, fun hf => ⟨j + 1, ⟨by omega, by omega⟩, rfl, ?_⟩⟩, fun h => absurd hjl (by omega)⟩
          · rw [hany, ht, ← hcast] <;> rfl
          · rw [hany, hf] <;> rfl
        · have hje : j = set.length := by omega
          subst hje
          simp -implicitDefEqProofs only [Nat.reduceEqDiff, Nat.reduceLeDiff, Nat.reduceAdd, reduceCtorEq, go_sem, ↓reduceIte]
          refine ⟨fun h => absurd h (by omega), fun _ => ?_⟩
          simp
      have hin : (set.any fun d => r == d.toNat) = inSet set (s.getD i 0) := by
        unfold inSet
        by_cases ha : (s.getD i 0).toNat < 128
        · have := dec_ascii s i ha
          rw [this] at hr
          subst hr
          congr 1
          funext d
          rw [Bool.eq_iff_iff]; simp [u8_inj]
        · have h1 := dec_high s i (by omega)
          rw [hr] at h1
          have e1 : (set.any fun d => r == d.toNat) = false := by
            rw [List.any_eq_false]
            intro d hd
            have := List.all_eq_true.1 hset d hd
            simp at this ⊢
            omega
          have e2 : (set.any fun d => s.getD i 0 == d) = false := by
            rw [List.any_eq_false]
            intro d hd
            have := List.all_eq_true.1 hset d hd
            intro he
            simp at this
            rw [beq_iff_eq] at he
            rw [he] at ha
            omega
          rw [e1, e2]
      have hdrop : s.drop i = s.getD i 0 :: s.drop (i + 1) := by
        rw [List.drop_eq_getElem_cons hlt]; simp [hlt]
      rw [hin] at h7
      simp -implicitDefEqProofs only [h0, h1, h2, h5, h7, Nat.reduceEqDiff, Nat.reduceLeDiff, Nat.reduceAdd, reduceCtorEq, go_sem, ↓reduceIte]
      refine ⟨fun hf => ?_, fun ht => ?_⟩
      · have hf' : inSet set (s.getD i 0) = false := by simpa using hf
        refine ⟨by omega, by omega, ?_⟩
        rw [← hi.2, hdrop, List.dropWhile_cons_of_neg (by rw [hf']; simp)]
        simp [hdrop]
      · have ht' : inSet set (s.getD i 0) = true := by simpa using ht
        have hn1 : n = 1 := by
          have ha : (s.getD i 0).toNat < 128 := by
            obtain ⟨d, hd, he⟩ := List.any_eq_true.1 ht'
            have := List.all_eq_true.1 hset d hd
            rw [beq_iff_eq] at he
            rw [he]
            simpa using this
          rw [← hn, dec_ascii s i ha]
        subst hn1
        refine ⟨i + 1, ⟨⟨by omega, ?_⟩, by omega⟩, rfl⟩
        rw [← hi.2, hdrop, List.dropWhile_cons_of_pos ht']
    · have hie : i = s.length := by omega
      subst hie
      simp -implicitDefEqProofs only [Nat.reduceEqDiff, Nat.reduceLeDiff, Nat.reduceAdd, reduceCtorEq, go_sem, ↓reduceIte]
      refine ⟨fun h => absurd h hlt, fun _ => ⟨_, ?_, rfl⟩⟩
      rw [← hi.2]; simp
  simp -implicitDefEqProofs only [hb, Nat.reduceEqDiff, Nat.reduceLeDiff, Nat.reduceAdd, reduceCtorEq, go_sem, ↓reduceIte]
end Go.Pv
/- Laws of the scanner's functions: how it goes on, signs, blanks. -/
namespace Go.Pv
open Go Go.Proofs
set_option maxRecDepth 4000
variable {G : Frz}
def partA (p : Part) : AV := .agg [.str p.1, .str p.2]
def partsA (l : List Part) : AV := .sl .no ⟨2, 78⟩ (l.map partA)
def tokA (t : Tok) : AV := .agg [i64 t.kind, .str t.word, i64 t.n, partsA t.parts, i64 t.at']
theorem drop_take_len (s : Bytes) (k : Nat) : (s.take (s.length - (s.drop k).length)) = s.take k := by
  by_cases h : k ≤ s.length
  · congr 1; simp; omega
  · rw [List.take_of_length_le (by simp; omega), List.take_of_length_le (by omega)]
theorem dropWhile_len (p : UInt8 → Bool) (l : Bytes) : l.length = (l.takeWhile p).length + (l.dropWhile p).length := by
  conv => lhs; rw [← List.takeWhile_append_dropWhile (p := p) (l := l)]
  rw [List.length_append]
theorem take_tw (p : UInt8 → Bool) (l : Bytes) : l.take (l.takeWhile p).length = l.takeWhile p := by
  conv => lhs; arg 2; rw [← List.takeWhile_append_dropWhile (p := p) (l := l)]
  rw [List.take_left']
  rfl
theorem c129 (s of : Bytes) (at' : Nat) (h : at' ≤ s.length) (hs : s.length ≤ 4611686018427387904) (hof : of.all (fun d => decide (d.toNat < 128)) = true) : RR G 129 [.ptr 0 0, .str of] [scanB s at'] (.str ((s.drop at').takeWhile (inSet of))) [scanB s (at' + ((s.drop at').takeWhile (inSet of)).length)] := by
  have hl := dropWhile_len (inSet of) (s.drop at')
  have hl2 : (s.drop at').length = s.length - at' := List.length_drop
  have e1 : IntKind.i64.wrap (((s.drop at').length : Int) - ((s.drop at').dropWhile (inSet of)).length) = (((s.drop at').takeWhile (inSet of)).length : Nat) := by
    rw [IntKind.wrap_i64]; omega
  have e2 := wrap_nat at' ((s.drop at').takeWhile (inSet of)).length (by omega)
  have e3 : ((((s.drop at').takeWhile (inSet of)).length : Nat) : Int).toNat = ((s.drop at').takeWhile (inSet of)).length := Int.toNat_natCast _
  have e4 : ((at' : Nat) : Int).toNat = at' := Int.toNat_natCast _
  unfold scanB
  refine ret_intro Tryz.func129 rfl Tryz.results129 (by decide +kernel) rfl (Nat.le_refl _) rfl (by simp [renB, ren1, ren0]) ?_
  simp -implicitDefEqProofs only [Nat.reduceEqDiff, Nat.reduceLeDiff, Nat.reduceAdd, reduceCtorEq, go_sem, ↓reduceIte]
  (refine WT_ord (t := lin [0, 1, 2, 3, 4, 5, 6, 7, 8, 9] .nil) ?_ ?_; kernel_rfl)
  simp -implicitDefEqProofs only [e4, Nat.reduceEqDiff, Nat.reduceLeDiff, Nat.reduceAdd, reduceCtorEq, go_sem, ↓reduceIte]
  refine ⟨by omega, by omega, ?_⟩
  rw [List.take_length]
  refine callW_pure (c194 (s.drop at') of (by omega) hof) rfl rfl ?_
  simp -implicitDefEqProofs only [e1, e2, e3, Nat.reduceEqDiff, Nat.reduceLeDiff, Nat.reduceAdd, reduceCtorEq, go_sem, ↓reduceIte]
  refine ⟨by omega, by omega, ?_⟩
  rw [take_tw]
theorem c50 : RR G 50 [] [] (.sl .yes ⟨1, 9⟩ (signL.map .str)) [] := by
  refine ret_intro Tryz.func50 rfl Tryz.results50 (by decide +kernel) rfl (Nat.le_refl _) rfl (by simp) ?_
  simp -implicitDefEqProofs only [Nat.reduceEqDiff, Nat.reduceLeDiff, Nat.reduceAdd, reduceCtorEq, go_sem, ↓reduceIte]
  rfl
theorem find_some_take {α : Type} (p : α → Bool) (l : List α) (i : Nat) (hi : i < l.length) (hb : ∀ j (hj : j < i), p (l[j]'(by omega)) = false) (hp : p l[i] = true) : l.find? p = some l[i] := by
  rw [List.find?_eq_some_iff_getElem]
  exact ⟨hp, i, hi, rfl, fun j hj => by simp [hb j hj]⟩
theorem c134 (s : Bytes) (at' : Nat) (h : at' ≤ s.length) (hs : s.length ≤ 4611686018427387904) (o : Option Bytes) (ho : signL.find? (fun w => w.isPrefixOf (s.drop at')) = o) :
    RR G 134 [.ptr 0 0] [scanB s at'] (.tup [tokA ⟨o.elim 0 fun _ => 4, o.getD [], 0, [], 0⟩, i64 (o.elim 1 fun _ => 0)]) [scanB s (at' + (o.getD []).length)] := by
  unfold scanB
  refine ret_intro Tryz.func134 rfl Tryz.results134 (by decide +kernel) rfl (Nat.le_refl _) rfl (by simp [renB, ren1, ren0]) ?_
  refine wp_mid [(0, .ptr 0 0), (2, .ptr 1 0), (3, i64 0)] [.cells 92 [.str s, i64 at'], .cells 32 [i64 0, .str [], i64 0, .sl .yes ⟨2, 78⟩ [], i64 0]] ?_ fun env ⟨h0, h2, h3, _⟩ => ?_
  · simp -implicitDefEqProofs only [Nat.reduceEqDiff, Nat.reduceLeDiff, Nat.reduceAdd, reduceCtorEq, go_sem, ↓reduceIte]
  refine wp_ghost (A := Unit) (fun _ => o = none) (fun _ => [.cells 92 [.str s, i64 at'], .cells 32 [i64 0, .str [], i64 0, .sl .yes ⟨2, 78⟩ [], i64 0]]) (fun _ => [(0, .ptr 0 0), (2, .ptr 1 0), (3, i64 0)]) ?_ fun _ hn env ⟨h0, h2, h3, _⟩ => ?_
  · refine wp_mid [(0, .ptr 0 0), (2, .ptr 1 0), (3, i64 0), (6, .sl .yes ⟨1, 9⟩ (signL.map .str)), (7, i64 18), (8, i64 0)] [.cells 92 [.str s, i64 at'], .cells 32 [i64 0, .str [], i64 0, .sl .yes ⟨2, 78⟩ [], i64 0]] ?_ fun env ⟨h0, h2, h3, h6, h7, h8, _⟩ => ?_
    · simp -implicitDefEqProofs only [h0, h2, h3, Nat.reduceEqDiff, Nat.reduceLeDiff, Nat.reduceAdd, reduceCtorEq, go_sem, ↓reduceIte]
      refine callW_pure c50 rfl rfl ?_
      simp -implicitDefEqProofs only [h0, h2, h3, Nat.reduceEqDiff, Nat.reduceLeDiff, Nat.reduceAdd, reduceCtorEq, go_sem, ↓reduceIte]
      rfl
    rw [wp_block_eq]
    refine wp_loop_use (A := Nat) (fun i => [(0, .ptr 0 0), (2, .ptr 1 0), (3, i64 0), (6, .sl .yes ⟨1, 9⟩ (signL.map .str)), (7, i64 18), (8, i64 i)]) (fun _ => [.cells 92 [.str s, i64 at'], .cells 32 [i64 0, .str [], i64 0, .sl .yes ⟨2, 78⟩ [], i64 0]]) (fun i => i ≤ 18 ∧ ∀ j (hj : j < i) (h18 : j < 18), (signL[j]'h18).isPrefixOf (s.drop at') = false) (fun i => 18 - i) 0 ⟨by omega, fun j hj => absurd hj (by omega)⟩ rfl ⟨h0, h2, h3, h6, h7, h8, trivial⟩ ?_
    intro i hi
    by_cases hlt : i < 18
    · have hd : decide ((i : Int) < 18) = true := by simp; omega
      have hti : ((i : Nat) : Int).toNat = i := Int.toNat_natCast _
      have hat : ((at' : Nat) : Int).toNat = at' := Int.toNat_natCast _
      simp -implicitDefEqProofs only [hd, Nat.reduceEqDiff, Nat.reduceLeDiff, Nat.reduceAdd, reduceCtorEq, go_sem, ↓reduceIte]
      refine ⟨by omega, by rw [hti]; exact hlt, ?_⟩
      (refine WT_ord (t := lin [0, 1, 2, 3, 4, 5, 6, 7, 8, 9, 10] .nil) ?_ ?_; kernel_rfl)
      have hget : signL.getD (((i : Nat) : Int).toNat) default = signL[i]'hlt := by
        rw [hti, List.getD, List.getElem?_eq_getElem (show i < signL.length from hlt)] <;> rfl
      simp -implicitDefEqProofs only [hget, hat, Nat.reduceEqDiff, Nat.reduceLeDiff, Nat.reduceAdd, reduceCtorEq, go_sem, ↓reduceIte]
      refine ⟨by omega, by omega, ?_⟩
      rw [List.take_length]
      refine callW_pure (c198 _ _) rfl rfl ?_
      simp -implicitDefEqProofs only [Nat.reduceEqDiff, Nat.reduceLeDiff, Nat.reduceAdd, reduceCtorEq, go_sem, ↓reduceIte]
      refine ⟨fun hp => ?_, fun hp => ⟨i + 1, ⟨⟨by omega, fun j hj h18 => ?_⟩, by omega⟩, ?_⟩⟩
      · have he : o = some (signL[i]'hlt) := by
          rw [← ho]
          exact find_some_take _ signL i hlt (fun j hj => hi.2 j hj (by omega)) hp
        have hpl : (signL[i]'hlt).length ≤ (s.drop at').length := (List.isPrefixOf_iff_prefix.1 hp).length_le
        rw [List.length_drop] at hpl
        subst he
        refine ⟨rfl, ?_⟩
        rw [wrap_nat at' (signL[i]'hlt).length (by omega)]
        rfl
      · by_cases hji : j < i
        · exact hi.2 j hji h18
        · have : j = i := by omega
          subst this
          exact hp
      · rw [wrap_succ i 18 hlt (by omega)]
    · have hie : i = 18 := by omega
      subst hie
      have hdd : decide (((18 : Nat) : Int) < 18) = false := rfl
      simp -implicitDefEqProofs only [hdd, Nat.reduceEqDiff, Nat.reduceLeDiff, Nat.reduceAdd, reduceCtorEq, go_sem, ↓reduceIte]
      refine ⟨(), ?_⟩
      rw [← ho, List.find?_eq_none]
      intro w hw
      obtain ⟨j, hj, rfl⟩ := List.mem_iff_getElem.1 hw
      simp [hi.2 j hj hj]
  subst hn
  simp -implicitDefEqProofs only [h0, h2, h3, Nat.reduceEqDiff, Nat.reduceLeDiff, Nat.reduceAdd, reduceCtorEq, go_sem, ↓reduceIte]
  exact ⟨rfl, rfl⟩
/-! ### Blanks and remarks -/
/-- How many bytes of blanks and remarks stand at a text's begin. -/
def skipR (l : Bytes) : Nat := match l with
  | [] => 0
  | c :: r => if blank c then skipR r + 1 else if c = 35 then skipR (r.dropWhile notNl) + ((r.takeWhile notNl).length + 1) else 0
termination_by l.length
decreasing_by
  · simp
  · have : (r.dropWhile notNl).length ≤ r.length := List.Sublist.length_le (List.dropWhile_sublist _)
    simp; omega
theorem skipR_nil : skipR [] = 0 := by rw [skipR]
theorem skipR_cons (c : UInt8) (r : Bytes) : skipR (c :: r) = if blank c then skipR r + 1 else if c = 35 then skipR (r.dropWhile notNl) + ((r.takeWhile notNl).length + 1) else 0 := by rw [skipR]
theorem skipR_blanks : ∀ l : Bytes, skipR l = skipR (l.dropWhile blank) + (l.takeWhile blank).length
  | [] => by simp
  | c :: r => by
    by_cases h : blank c = true
    · rw [skipR_cons, if_pos h, List.dropWhile_cons_of_pos h, List.takeWhile_cons_of_pos h, skipR_blanks r]
      simp; omega
    · rw [List.dropWhile_cons_of_neg h, List.takeWhile_cons_of_neg h]; simp
theorem dw_drop (p : UInt8 → Bool) (l : Bytes) : l.dropWhile p = l.drop (l.takeWhile p).length := by
  conv => rhs; arg 2; rw [← List.takeWhile_append_dropWhile (p := p) (l := l)]
  rw [List.drop_left']
  rfl
theorem dw_head (p : UInt8 → Bool) : ∀ (l : Bytes) (c : UInt8), (l.dropWhile p).head? = some c → p c = false
  | [], c, h => by simp at h
  | d :: l, c, h => by
    by_cases hd : p d = true
    · rw [List.dropWhile_cons_of_pos hd] at h; exact dw_head p l c h
    · rw [List.dropWhile_cons_of_neg hd] at h
      simp at h; subst h; simpa using hd
theorem idxB_tw (l : Bytes) (c : UInt8) : idxB l c = if (l.takeWhile (fun x => x != c)).length < l.length then (((l.takeWhile (fun x => x != c)).length : Nat) : Int) else -1 := by
  unfold idxB
  have hk := take_tw (fun x => x != c) l
  have hle := tw_le (fun x => x != c) l
  generalize hkk : (l.takeWhile (fun x => x != c)).length = k at hk hle
  have hbelow : ∀ j, j < k → (l.getD j 0 == c) = false := fun j hj => by
    have hm : l.getD j 0 ∈ l.takeWhile (fun x => x != c) := by
      rw [← hk]
      have : j < l.length := by omega
      rw [List.mem_iff_getElem]
      exact ⟨j, by simp; omega, by simp [this]⟩
    have := List.all_eq_true.1 (List.all_takeWhile (p := fun x => x != c) (l := l)) _ hm
    simpa using this
  by_cases h : k < l.length
  · rw [if_pos h]
    have hh : (l.dropWhile (fun x => x != c)).head? = some l[k] := by
      rw [dw_drop, hkk, List.drop_eq_getElem_cons h] <;> rfl
    have hat := dw_head _ _ _ hh
    have : (List.range l.length).find? (fun i => l.getD i 0 == c) = some k := by
      rw [List.find?_range_eq_some]
      refine ⟨?_, by simpa using h, fun j hj => by rw [hbelow j hj] <;> rfl⟩
      simp [h]; simpa using hat
    rw [this]
  · rw [if_neg h]
    have : (List.range l.length).find? (fun i => l.getD i 0 == c) = none := by
      rw [List.find?_eq_none]
      intro j hj
      simp at hj
      rw [hbelow j (by omega)]; simp
    rw [this]
theorem c57 (s : Bytes) (at' : Nat) (h : at' ≤ s.length) (hs : s.length ≤ 4611686018427387904) : RR G 57 [.ptr 0 0] [scanB s at'] (.tup []) [scanB s (at' + skipR (s.drop at'))] := by
  have hb : inSet [32, 9, 10] = blank := by
    funext c
    rw [Bool.eq_iff_iff]; simp [inSet, blank, or_assoc]
  unfold scanB
  refine ret_intro Tryz.func57 rfl Tryz.results57 (by decide +kernel) rfl (Nat.le_refl _) rfl (by simp [renB, ren1, ren0]) ?_
  refine wp_mid [(0, .ptr 0 0)] [.cells 92 [.str s, i64 (at' + ((s.drop at').takeWhile blank).length : Nat)]] ?_ fun env ⟨h0, _⟩ => ?_
  · simp -implicitDefEqProofs only [Nat.reduceEqDiff, Nat.reduceLeDiff, Nat.reduceAdd, reduceCtorEq, go_sem, ↓reduceIte]
    refine callW_at [0] [0] (c129 s [32, 9, 10] at' h hs (by decide)) (by simp) rfl rfl rfl rfl rfl ?_
    rw [hb]
    simp -implicitDefEqProofs only [scanB, Nat.reduceEqDiff, Nat.reduceLeDiff, Nat.reduceAdd, reduceCtorEq, go_sem, ↓reduceIte]
  rw [wp_block_eq]
  have hlen := dropWhile_len blank (s.drop at')
  have hdl : (s.drop at').length = s.length - at' := List.length_drop
  refine wp_loop_use (A := Nat) (fun _ => [(0, .ptr 0 0)]) (fun a => [.cells 92 [.str s, i64 a]]) (fun a => a ≤ s.length ∧ a + skipR (s.drop a) = at' + skipR (s.drop at') ∧ ∀ c, (s.drop a).head? = some c → blank c = false) (fun a => s.length - a) (at' + ((s.drop at').takeWhile blank).length) ?_ rfl ⟨h0, trivial⟩ ?_
  · refine ⟨by omega, ?_, fun c hc => ?_⟩
    · rw [skipR_blanks (s.drop at'), dw_drop, List.drop_drop]; omega
    · rw [← List.drop_drop, ← dw_drop] at hc
      exact dw_head _ _ _ hc
  intro a ⟨ha, hskip, hhead⟩
  have hat : ((a : Nat) : Int).toNat = a := Int.toNat_natCast _
  by_cases hlt : a < s.length
  · have hd : decide ((a : Int) < s.length) = true := by simp; omega
    have hdr : s.drop a = s.getD a 0 :: s.drop (a + 1) := by
      rw [List.drop_eq_getElem_cons hlt]; simp [hlt]
    have hnb : blank (s.getD a 0) = false := hhead _ (by rw [hdr] <;> rfl)
    by_cases hc : s.getD a 0 = 35
    · have hc' : (((s.getD a 0).toNat : Int) == 35) = true := by rw [hc] <;> rfl
      refine wp_mid [(0, .ptr 0 0), (26, .bool true)] [.cells 92 [.str s, i64 a]] ?_ fun env ⟨h0, h26, _⟩ => ?_
      · (refine WT_ord (t := lin [0, 1, 2, 3, 4, 5, 6, 7, 8, 9, 10, 11, 12, 13, 14, 15, 16, 17, 18, 19, 20, 21] .nil) ?_ ?_; kernel_rfl)
        simp -implicitDefEqProofs only [hd, hat, hc', Nat.reduceEqDiff, Nat.reduceLeDiff, Nat.reduceAdd, reduceCtorEq, go_sem, ↓reduceIte]
        exact ⟨by omega, hlt⟩
      have hk := idxB_tw (s.drop a) 10
      have hn : (fun x : UInt8 => x != 10) = notNl := by
        funext c; rw [Bool.eq_iff_iff]; simp [notNl]
      rw [hn] at hk
      have hkl := tw_le notNl (s.drop a)
      have hsk : skipR (s.drop a) = ((s.drop a).takeWhile notNl).length + skipR (s.drop (a + ((s.drop a).takeWhile notNl).length)) := by
        have h1 : notNl (s.getD a 0) = true := by rw [hc] <;> rfl
        rw [← List.drop_drop, ← dw_drop, hdr, skipR_cons, if_neg (by rw [hnb]; simp), if_pos hc, List.takeWhile_cons_of_pos h1, List.dropWhile_cons_of_pos h1]
        simp; omega
      have hdl2 : (s.drop a).length = s.length - a := List.length_drop
      have hkpos : 1 ≤ ((s.drop a).takeWhile notNl).length := by
        have h1 : notNl (s.getD a 0) = true := by rw [hc] <;> rfl
        rw [hdr, List.takeWhile_cons_of_pos h1]; simp
      generalize ((s.drop a).takeWhile notNl).length = k at hk hsk hkl hkpos
      refine wp_mid [(0, .ptr 0 0)] [.cells 92 [.str s, i64 (a + k : Nat)]] ?_ fun env ⟨h0, _⟩ => ?_
      · rw [wp_block_eq]
        refine wp_mid [(0, .ptr 0 0), (2, i64 (idxB (s.drop a) 10))] [.cells 92 [.str s, i64 a]] ?_ fun env ⟨h0, h2, _⟩ => ?_
        · simp -implicitDefEqProofs only [h0, Nat.reduceEqDiff, Nat.reduceLeDiff, Nat.reduceAdd, reduceCtorEq, go_sem, ↓reduceIte]
          (refine WT_ord (t := lin [0, 1, 2, 3, 4, 5, 6, 7, 8, 9, 10] .nil) ?_ ?_; kernel_rfl)
          simp -implicitDefEqProofs only [h0, hat, Nat.reduceEqDiff, Nat.reduceLeDiff, Nat.reduceAdd, reduceCtorEq, go_sem, ↓reduceIte]
          refine ⟨by omega, by omega, ?_⟩
          rw [List.take_length]
          refine callW_pure (c117 (s.drop a) 10) rfl rfl ?_
          simp -implicitDefEqProofs only [h0, Nat.reduceEqDiff, Nat.reduceLeDiff, Nat.reduceAdd, reduceCtorEq, go_sem, ↓reduceIte]
        refine wp_mid [(0, .ptr 0 0), (2, i64 k)] [.cells 92 [.str s, i64 a]] ?_ fun env ⟨h0, h2, _⟩ => ?_
        · simp -implicitDefEqProofs only [h0, h2, Nat.reduceEqDiff, Nat.reduceLeDiff, Nat.reduceAdd, reduceCtorEq, go_sem, ↓reduceIte]
          refine ⟨fun hlt0 => ?_, fun hge => ?_⟩
          · (refine WT_ord (t := lin [0, 1, 2, 3, 4, 5, 6, 7, 8, 9, 10] .nil) ?_ ?_; kernel_rfl)
            simp -implicitDefEqProofs only [h0, h2, Nat.reduceEqDiff, Nat.reduceLeDiff, Nat.reduceAdd, reduceCtorEq, go_sem, ↓reduceIte]
            have : IntKind.i64.wrap ((s.length : Int) - a) = k := by
              rw [wrap_id _ (by omega) (by omega)]
              simp at hlt0
              rw [hk] at hlt0
              split at hlt0 <;> omega
            rw [this]
          · simp at hge
            rw [hk] at hge h2
            split at hge
            · rename_i hkk
              rw [if_pos hkk] at h2
              rw [hk, if_pos hkk]
            · omega
        have hw := wrap_nat a k (by omega)
        simp -implicitDefEqProofs only [h0, h2, hw, Nat.reduceEqDiff, Nat.reduceLeDiff, Nat.reduceAdd, reduceCtorEq, go_sem, ↓reduceIte]
      simp -implicitDefEqProofs only [h0, Nat.reduceEqDiff, Nat.reduceLeDiff, Nat.reduceAdd, reduceCtorEq, go_sem, ↓reduceIte]
      refine callW_at [0] [0] (c129 s [32, 9, 10] (a + k) (by omega) hs (by decide)) (by simp) rfl rfl rfl rfl rfl ?_
      rw [hb]
      have hlen2 := tw_le blank (s.drop (a + k))
      rw [List.length_drop] at hlen2
      simp -implicitDefEqProofs only [scanB, Nat.reduceEqDiff, Nat.reduceLeDiff, Nat.reduceAdd, reduceCtorEq, go_sem, ↓reduceIte]
      refine ⟨a + k + ((s.drop (a + k)).takeWhile blank).length, ⟨⟨by omega, ?_, fun c hc => ?_⟩, by omega⟩, rfl, h0⟩
      · rw [← hskip, hsk, skipR_blanks (s.drop (a + k)), dw_drop, List.drop_drop]; omega
      · rw [← List.drop_drop, ← dw_drop] at hc
        exact dw_head _ _ _ hc
    · have hc' : (((s.getD a 0).toNat : Int) == 35) = false := by
        rw [beq_eq_false_iff_ne]
        intro e
        exact hc (UInt8.toNat_inj.1 (show (s.getD a 0).toNat = 35 by omega))
      simp -implicitDefEqProofs only [Nat.reduceEqDiff, Nat.reduceLeDiff, Nat.reduceAdd, reduceCtorEq, go_sem, ↓reduceIte]
      (refine WT_ord (t := lin [0, 1, 2, 3, 4, 5, 6, 7, 8, 9, 10, 11, 12, 13, 14, 15, 16, 17, 18, 19, 20, 21] .nil) ?_ ?_; kernel_rfl)
      simp -implicitDefEqProofs only [hd, hat, hc', Nat.reduceEqDiff, Nat.reduceLeDiff, Nat.reduceAdd, reduceCtorEq, go_sem, ↓reduceIte]
      have h0s : skipR (s.drop a) = 0 := by
        rw [hdr, skipR_cons, if_neg (by rw [hnb]; simp), if_neg hc]
      refine ⟨by omega, hlt, ?_⟩
      rw [← hskip, h0s] <;> rfl
  · have hd : decide ((a : Int) < s.length) = false := by simp; omega
    simp -implicitDefEqProofs only [Nat.reduceEqDiff, Nat.reduceLeDiff, Nat.reduceAdd, reduceCtorEq, go_sem, ↓reduceIte]
    (refine WT_ord (t := lin [0, 1, 2, 3, 4, 5, 6, 7, 8, 9, 10, 11, 12, 13, 14, 15, 16, 17, 18, 19, 20, 21] .nil) ?_ ?_; kernel_rfl)
    simp -implicitDefEqProofs only [hd, Nat.reduceEqDiff, Nat.reduceLeDiff, Nat.reduceAdd, reduceCtorEq, go_sem, ↓reduceIte]
    have h0s : s.drop a = [] := List.drop_eq_nil_of_le (by omega)
    rw [← hskip, h0s, skipR_nil] <;> rfl
end Go.Pv
/- Laws of the reader's functions. -/
namespace Go.Pv
open Go Go.Proofs
set_option maxRecDepth 4000
variable {G : Frz}
def readerB (s : Bytes) (at' : Nat) (bad : Bool) : Blk := .cells 292 [.str s, i64 at', .bool bad]
/-- Does a rule take the byte that is there? -/
def nxOk (s : Bytes) (at' : Nat) (bad : Bool) (p : UInt8 → Bool) : Bool := !bad && (decide (at' < s.length) && p (s.getD at' 0))
def nxC (s : Bytes) (at' : Nat) (bad : Bool) (p : UInt8 → Bool) : UInt8 := if nxOk s at' bad p then s.getD at' 0 else 0
def nxAt (s : Bytes) (at' : Nat) (bad : Bool) (p : UInt8 → Bool) : Nat := if nxOk s at' bad p then at' + 1 else at'
theorem c258a (f : Nat) (p : UInt8 → Bool) (hf : ∀ c, RR G f [byte c] [] (.bool (p c)) []) (s : Bytes) (at' : Nat) (bad : Bool) (h : at' ≤ s.length) (hs : s.length ≤ 4611686018427387904) :
    RR G 258 [.ptr 0 0, .fn f [] []] [readerB s at' bad] (byte (nxC s at' bad p)) [readerB s (nxAt s at' bad p) (!nxOk s at' bad p)] := by
  have hti : ((at' : Nat) : Int).toNat = at' := Int.toNat_natCast _
  unfold readerB
  refine ret_intro Tryz.func258 rfl Tryz.results258 (by decide +kernel) rfl (Nat.le_refl _) rfl (by simp [renB, ren1, ren0]) ?_
  simp -implicitDefEqProofs only [Nat.reduceEqDiff, Nat.reduceLeDiff, Nat.reduceAdd, reduceCtorEq, go_sem, ↓reduceIte]
  (refine WT_ord (t := lin [0, 1, 2, 3, 4, 5, 6, 7, 8, 9, 10, 11, 12, 13, 14, 15, 16, 17, 18, 19, 20, 21, 22, 23, 24, 25, 26, 27, 28, 29] .nil) ?_ ?_; kernel_rfl)
  cases bad with
  | true =>
    simp -implicitDefEqProofs only [Nat.reduceEqDiff, Nat.reduceLeDiff, Nat.reduceAdd, reduceCtorEq, go_sem, ↓reduceIte]
    exact ⟨rfl, rfl⟩
  | false =>
    by_cases hlt : at' < s.length
    · have hd : decide ((at' : Int) ≥ s.length) = false := by simp; omega
      simp -implicitDefEqProofs only [hd, hti, Nat.reduceEqDiff, Nat.reduceLeDiff, Nat.reduceAdd, reduceCtorEq, go_sem, ↓reduceIte]
      refine ⟨by omega, hlt, ?_⟩
      refine callW_pure (hf (s.getD at' 0)) rfl rfl ?_
      have hok : nxOk s at' false p = p (s.getD at' 0) := by simp [nxOk, hlt]
      cases hp : p (s.getD at' 0) with
      | true =>
        simp -implicitDefEqProofs only [Nat.reduceEqDiff, Nat.reduceLeDiff, Nat.reduceAdd, reduceCtorEq, go_sem, ↓reduceIte]
        (refine WT_ord (t := lin [0, 1, 2, 3, 4, 5, 6, 7, 8, 9] .nil) ?_ ?_; kernel_rfl)
        have hw := wrap_succ at' s.length hlt hs
        simp -implicitDefEqProofs only [hti, hw, Nat.reduceEqDiff, Nat.reduceLeDiff, Nat.reduceAdd, reduceCtorEq, go_sem, ↓reduceIte]
        refine ⟨by omega, hlt, ?_⟩
        unfold nxC nxAt
        rw [hok, hp]
        exact ⟨rfl, rfl⟩
      | false =>
        simp -implicitDefEqProofs only [Nat.reduceEqDiff, Nat.reduceLeDiff, Nat.reduceAdd, reduceCtorEq, go_sem, ↓reduceIte]
        unfold nxC nxAt
        rw [hok, hp]
        exact ⟨rfl, rfl⟩
    · have hd : decide ((at' : Int) ≥ s.length) = true := by simp; omega
      have hok : nxOk s at' false p = false := by simp [nxOk, hlt]
      simp -implicitDefEqProofs only [hd, Nat.reduceEqDiff, Nat.reduceLeDiff, Nat.reduceAdd, reduceCtorEq, go_sem, ↓reduceIte]
      unfold nxC nxAt
      rw [hok]
      exact ⟨rfl, rfl⟩
theorem c258b (f : Nat) (x : UInt8) (p : UInt8 → Bool) (hf : ∀ c, RR G f [byte c, .ptr 0 0] [.cells 5 [byte x]] (.bool (p c)) [.cells 5 [byte x]]) (s : Bytes) (at' : Nat) (bad : Bool) (h : at' ≤ s.length) (hs : s.length ≤ 4611686018427387904) :
    RR G 258 [.ptr 0 0, .fn f [] [.ptr 1 0]] [readerB s at' bad, .cells 5 [byte x]] (byte (nxC s at' bad p)) [readerB s (nxAt s at' bad p) (!nxOk s at' bad p), .cells 5 [byte x]] := by
  have hti : ((at' : Nat) : Int).toNat = at' := Int.toNat_natCast _
  unfold readerB
  refine ret_intro Tryz.func258 rfl Tryz.results258 (by decide +kernel) rfl (Nat.le_refl _) rfl (by simp [renB, ren1, ren0]) ?_
  simp -implicitDefEqProofs only [Nat.reduceEqDiff, Nat.reduceLeDiff, Nat.reduceAdd, reduceCtorEq, go_sem, ↓reduceIte]
  (refine WT_ord (t := lin [0, 1, 2, 3, 4, 5, 6, 7, 8, 9, 10, 11, 12, 13, 14, 15, 16, 17, 18, 19, 20, 21, 22, 23, 24, 25, 26, 27, 28, 29] .nil) ?_ ?_; kernel_rfl)
  cases bad with
  | true =>
    simp -implicitDefEqProofs only [Nat.reduceEqDiff, Nat.reduceLeDiff, Nat.reduceAdd, reduceCtorEq, go_sem, ↓reduceIte]
    exact ⟨rfl, rfl⟩
  | false =>
    by_cases hlt : at' < s.length
    · have hd : decide ((at' : Int) ≥ s.length) = false := by simp; omega
      simp -implicitDefEqProofs only [hd, hti, Nat.reduceEqDiff, Nat.reduceLeDiff, Nat.reduceAdd, reduceCtorEq, go_sem, ↓reduceIte]
      refine ⟨by omega, hlt, ?_⟩
      refine callW_at [1] [1] (hf (s.getD at' 0)) (by simp) rfl rfl rfl rfl rfl ?_
      have hok : nxOk s at' false p = p (s.getD at' 0) := by simp [nxOk, hlt]
      cases hp : p (s.getD at' 0) with
      | true =>
        simp -implicitDefEqProofs only [Nat.reduceEqDiff, Nat.reduceLeDiff, Nat.reduceAdd, reduceCtorEq, go_sem, ↓reduceIte]
        (refine WT_ord (t := lin [0, 1, 2, 3, 4, 5, 6, 7, 8, 9] .nil) ?_ ?_; kernel_rfl)
        have hw := wrap_succ at' s.length hlt hs
        simp -implicitDefEqProofs only [hti, hw, Nat.reduceEqDiff, Nat.reduceLeDiff, Nat.reduceAdd, reduceCtorEq, go_sem, ↓reduceIte]
        refine ⟨by omega, hlt, ?_⟩
        unfold nxC nxAt
        rw [hok, hp]
        exact ⟨rfl, rfl⟩
      | false =>
        simp -implicitDefEqProofs only [Nat.reduceEqDiff, Nat.reduceLeDiff, Nat.reduceAdd, reduceCtorEq, go_sem, ↓reduceIte]
        unfold nxC nxAt
        rw [hok, hp]
        exact ⟨rfl, rfl⟩
    · have hd : decide ((at' : Int) ≥ s.length) = true := by simp; omega
      have hok : nxOk s at' false p = false := by simp [nxOk, hlt]
      simp -implicitDefEqProofs only [hd, Nat.reduceEqDiff, Nat.reduceLeDiff, Nat.reduceAdd, reduceCtorEq, go_sem, ↓reduceIte]
      unfold nxC nxAt
      rw [hok]
      exact ⟨rfl, rfl⟩
theorem c299 (c x : UInt8) : RR G 299 [byte c, .ptr 0 0] [.cells 5 [byte x]] (.bool (c == x)) [.cells 5 [byte x]] := by
  refine ret_intro Tryz.func299 rfl Tryz.results299 (by decide +kernel) rfl (Nat.le_refl _) rfl (by simp [renB, ren1, ren0]) ?_
  simp -implicitDefEqProofs only [Nat.reduceEqDiff, Nat.reduceLeDiff, Nat.reduceAdd, reduceCtorEq, go_sem, ↓reduceIte]
  have : ((c.toNat : Int) == (x.toNat : Int)) = (c == x) := by
    rw [Bool.eq_iff_iff, beq_iff_eq, beq_iff_eq]
    exact ⟨fun h => UInt8.toNat_inj.1 (by omega), fun h => by rw [h]⟩
  rw [this]
theorem c259 (x : UInt8) : RR G 259 [byte x] [] (.fn 299 [] [.ptr 0 0]) [.cells 5 [byte x]] := by
  refine ret_intro Tryz.func259 rfl Tryz.results259 (by decide +kernel) rfl (by simp) rfl (by simp [renB, ren1, ren0]) ?_
  simp -implicitDefEqProofs only [Nat.reduceEqDiff, Nat.reduceLeDiff, Nat.reduceAdd, reduceCtorEq, go_sem, ↓reduceIte]
def printable (c : UInt8) : Bool := decide (32 ≤ c.toNat ∧ c.toNat ≤ 126)
theorem c260 (c : UInt8) : RR G 260 [byte c] [] (.bool (printable c)) [] := by
  refine ret_intro Tryz.func260 rfl Tryz.results260 (by decide +kernel) rfl (Nat.le_refl _) rfl (by simp) ?_
  simp -implicitDefEqProofs only [Nat.reduceEqDiff, Nat.reduceLeDiff, Nat.reduceAdd, reduceCtorEq, go_sem, ↓reduceIte]
  simp [printable]
  grind
theorem c300 (c : UInt8) : RR G 300 [byte c] [] (.bool (letter c || digit c)) [] := by
  refine ret_intro Tryz.func300 rfl Tryz.results300 (by decide +kernel) rfl (Nat.le_refl _) rfl (by simp) ?_
  simp -implicitDefEqProofs only [Nat.reduceEqDiff, Nat.reduceLeDiff, Nat.reduceAdd, reduceCtorEq, go_sem, ↓reduceIte]
  refine callW_pure (c125 c) rfl rfl ?_
  simp -implicitDefEqProofs only [Nat.reduceEqDiff, Nat.reduceLeDiff, Nat.reduceAdd, reduceCtorEq, go_sem, ↓reduceIte]
  simp [digit]
  grind
def isEsc (c : UInt8) : Bool := c == 110 || c == 114 || c == 116 || c == 120 || c == 34 || c == 92 || c == 36
theorem idxB_ge (l : Bytes) (c : UInt8) : decide (0 ≤ idxB l c) = l.any fun d => c == d := by
  rw [idxB_tw]
  have h := dropWhile_len (fun x => x != c) l
  rw [Bool.eq_iff_iff, decide_eq_true_iff, List.any_eq_true]
  constructor
  · intro hh
    split at hh
    · rename_i hlt
      have : (l.dropWhile fun x => x != c) ≠ [] := fun e => by rw [e] at h; simp at h; omega
      obtain ⟨d, r, hd⟩ := List.exists_cons_of_ne_nil this
      have h1 := dw_head (fun x => x != c) l d (by rw [hd] <;> rfl)
      refine ⟨d, ?_, by simpa using (by simpa using h1 : d = c).symm⟩
      exact (List.dropWhile_sublist _).subset (by rw [hd]; simp)
    · omega
  · rintro ⟨d, hd, he⟩
    have he : c = d := by simpa using he
    subst he
    rw [if_pos]
    · omega
    · refine Nat.lt_of_not_le fun hle => ?_
      have h0 : (l.dropWhile fun x => x != c) = [] := List.eq_nil_of_length_eq_zero (by omega)
      have h1 : l.takeWhile (fun x => x != c) = l := by
        have := List.takeWhile_append_dropWhile (p := fun x => x != c) (l := l)
        rw [h0, List.append_nil] at this; exact this
      have h2 := List.all_eq_true.1 (List.all_takeWhile (p := fun x => x != c) (l := l)) c (by rw [h1]; exact hd)
      simp at h2
theorem c301 (c : UInt8) : RR G 301 [byte c] [] (.bool (isEsc c)) [] := by
  refine ret_intro Tryz.func301 rfl Tryz.results301 (by decide +kernel) rfl (Nat.le_refl _) rfl (by simp) ?_
  simp -implicitDefEqProofs only [Nat.reduceEqDiff, Nat.reduceLeDiff, Nat.reduceAdd, reduceCtorEq, go_sem, ↓reduceIte]
  refine callW_pure (c117 [110, 114, 116, 120, 34, 92, 36] c) rfl rfl ?_
  simp -implicitDefEqProofs only [Nat.reduceEqDiff, Nat.reduceLeDiff, Nat.reduceAdd, reduceCtorEq, go_sem, ↓reduceIte]
  have := idxB_ge [110, 114, 116, 120, 34, 92, 36] c
  have h2 : decide (idxB [110, 114, 116, 120, 34, 92, 36] c ≥ 0) = decide (0 ≤ idxB [110, 114, 116, 120, 34, 92, 36] c) := rfl
  rw [h2, this]
  simp [isEsc, Bool.or_assoc]
theorem hexd_idx (c : UInt8) : idxB [48, 49, 50, 51, 52, 53, 54, 55, 56, 57, 97, 98, 99, 100, 101, 102] c = match hexd c with | some n => (n : Int) | none => -1 := by
  have h : ∀ n : Fin 256, idxB [48, 49, 50, 51, 52, 53, 54, 55, 56, 57, 97, 98, 99, 100, 101, 102] (UInt8.ofNat n.val) = match hexd (UInt8.ofNat n.val) with | some n => (n : Int) | none => -1 := by decide +kernel
  have := h ⟨c.toNat, UInt8.toNat_lt c⟩
  simpa using this
def isHex (c : UInt8) : Bool := (hexd c).isSome
theorem c324 (c : UInt8) : RR G 324 [byte c] [] (.bool (isHex c)) [] := by
  refine ret_intro Tryz.func324 rfl Tryz.results324 (by decide +kernel) rfl (Nat.le_refl _) rfl (by simp) ?_
  simp -implicitDefEqProofs only [Nat.reduceEqDiff, Nat.reduceLeDiff, Nat.reduceAdd, reduceCtorEq, go_sem, ↓reduceIte]
  refine callW_pure (c117 [48, 49, 50, 51, 52, 53, 54, 55, 56, 57, 97, 98, 99, 100, 101, 102] c) rfl rfl ?_
  simp -implicitDefEqProofs only [Nat.reduceEqDiff, Nat.reduceLeDiff, Nat.reduceAdd, reduceCtorEq, go_sem, ↓reduceIte]
  rw [hexd_idx]
  unfold isHex
  cases hexd c <;> simp
def hexV (c : UInt8) : UInt8 := UInt8.ofNat ((hexd c).getD 0)
theorem hexd_lt (c : UInt8) (n : Nat) (h : hexd c = some n) : n < 16 := by
  unfold hexd at h
  split at h
  · rename_i hd
    simp [digit] at hd
    cases h; omega
  · split at h
    · cases h; omega
    · cases h
theorem c302 (s : Bytes) (at' : Nat) (bad : Bool) (h : at' ≤ s.length) (hs : s.length ≤ 4611686018427387904) :
    RR G 302 [.ptr 0 0] [readerB s at' bad] (byte (hexV (nxC s at' bad isHex))) [readerB s (nxAt s at' bad isHex) (!nxOk s at' bad isHex)] := by
  unfold readerB
  refine ret_intro Tryz.func302 rfl Tryz.results302 (by decide +kernel) rfl (Nat.le_refl _) rfl (by simp [renB, ren1, ren0]) ?_
  have hx := hexd_idx (nxC s at' bad isHex)
  generalize hc : nxC s at' bad isHex = c at hx
  simp -implicitDefEqProofs only [readerB, Nat.reduceEqDiff, Nat.reduceLeDiff, Nat.reduceAdd, reduceCtorEq, go_sem, ↓reduceIte]
  refine callW_at [0] [0] (c258a 324 isHex c324 s at' bad h hs) (by simp) rfl rfl rfl rfl rfl ?_
  rw [hc]
  simp -implicitDefEqProofs only [readerB, Nat.reduceEqDiff, Nat.reduceLeDiff, Nat.reduceAdd, reduceCtorEq, go_sem, ↓reduceIte]
  refine callW_pure (c117 [48, 49, 50, 51, 52, 53, 54, 55, 56, 57, 97, 98, 99, 100, 101, 102] c) rfl rfl ?_
  rw [hx]
  simp -implicitDefEqProofs only [Nat.reduceEqDiff, Nat.reduceLeDiff, Nat.reduceAdd, reduceCtorEq, go_sem, ↓reduceIte]
  have : AV.int .u8 (IntKind.u8.wrap (if (0 : Int) > (match hexd c with | some n => (n : Int) | none => -1) then 0 else (match hexd c with | some n => (n : Int) | none => -1))) = byte (hexV c) := by
    unfold hexV
    cases hh : hexd c with
    | none => rfl
    | some n =>
      have hlt := hexd_lt c n hh
      have h16 : ∀ n : Fin 16, IntKind.u8.wrap (n.val : Int) = ((UInt8.ofNat n.val).toNat : Int) := by decide
      show AV.int .u8 (IntKind.u8.wrap (if (0 : Int) > (n : Int) then 0 else (n : Int))) = byte (UInt8.ofNat n)
      rw [if_neg (by omega), h16 ⟨n, hlt⟩]
  rw [this]
/-! ### Behind a stroke -/
def escN (l : Bytes) : Nat := match escR l with
  | .ok (_, k) => k
  | .error k => k
def escBad (l : Bytes) : Bool := match escR l with
  | .ok _ => false
  | .error _ => true
theorem or_hex : ∀ a b : Fin 16, IntKind.u8.wrap (BitVec.ofInt IntKind.u8.bits (IntKind.u8.wrap (((UInt8.ofNat a.val).toNat : Int) * 2 ^ (min (4 : Int).toNat IntKind.u8.bits))) ||| BitVec.ofInt IntKind.u8.bits ((UInt8.ofNat b.val).toNat : Int)).toNat = ((UInt8.ofNat (a.val * 16 + b.val)).toNat : Int) := by decide +kernel
theorem byte_ne (c d : UInt8) (h : c ≠ d) : ((c.toNat : Int) == (d.toNat : Int)) = false := by
  rw [beq_eq_false_iff_ne]
  exact fun e => h (UInt8.toNat_inj.1 (by omega))
theorem byte_self (c : UInt8) : ((c.toNat : Int) == (c.toNat : Int)) = true := by simp
/-- How far the reader goes for a digit. -/
theorem hexd_none (c : UInt8) : isHex c = false ↔ hexd c = none := by simp [isHex]
theorem c262_x (s : Bytes) (i : Nat) (hs : s.length ≤ 4611686018427387904) (hlt : i < s.length) (hc : s.getD i 0 = 120) (b : UInt8) (n : Nat) (bad : Bool)
    (hn : nxAt s (nxAt s (i + 1) false isHex) (!nxOk s (i + 1) false isHex) isHex = n) (hb : (!nxOk s (nxAt s (i + 1) false isHex) (!nxOk s (i + 1) false isHex) isHex) = bad)
    (hv : IntKind.u8.wrap (BitVec.ofInt IntKind.u8.bits (IntKind.u8.wrap (((hexV (nxC s (i + 1) false isHex)).toNat : Int) * 2 ^ (min (4 : Int).toNat IntKind.u8.bits))) ||| BitVec.ofInt IntKind.u8.bits ((hexV (nxC s (nxAt s (i + 1) false isHex) (!nxOk s (i + 1) false isHex) isHex)).toNat : Int)).toNat = (b.toNat : Int)) :
    RR G 262 [.ptr 0 0] [readerB s i false] (byte b) [readerB s n bad] := by
  have hok : nxOk s i false isEsc = true := by simp only [nxOk, hc]; simp [hlt]; rfl
  have hnc : nxC s i false isEsc = 120 := by unfold nxC; rw [if_pos hok, hc]
  have hna : nxAt s i false isEsc = i + 1 := by unfold nxAt; rw [if_pos hok]
  have hn1 : nxAt s (i + 1) false isHex ≤ s.length := by
    unfold nxAt nxOk
    split
    · rename_i h; simp at h; omega
    · omega
  have e1 : (((120 : UInt8).toNat : Int) == 110) = false := rfl
  have e2 : (((120 : UInt8).toNat : Int) == 114) = false := rfl
  have e3 : (((120 : UInt8).toNat : Int) == 116) = false := rfl
  have e4 : (((120 : UInt8).toNat : Int) == 120) = true := rfl
  unfold readerB
  refine ret_intro Tryz.func262 rfl Tryz.results262 (by decide +kernel) rfl (Nat.le_refl _) rfl (by simp [renB, ren1, ren0]) ?_
  simp -implicitDefEqProofs only [Nat.reduceEqDiff, Nat.reduceLeDiff, Nat.reduceAdd, reduceCtorEq, go_sem, ↓reduceIte]
  refine callW_at [0] [0] (c258a 301 isEsc c301 s i false (by omega) hs) (by simp) rfl rfl rfl rfl rfl ?_
  rw [hnc, hna, hok]
  simp -implicitDefEqProofs only [readerB, e1, e2, e3, e4, Nat.reduceEqDiff, Nat.reduceLeDiff, Nat.reduceAdd, reduceCtorEq, go_sem, ↓reduceIte]
  refine callW_at [0] [0] (c302 s (i + 1) false (by omega) hs) (by simp) rfl rfl rfl rfl rfl ?_
  simp -implicitDefEqProofs only [readerB, Nat.reduceEqDiff, Nat.reduceLeDiff, Nat.reduceAdd, reduceCtorEq, go_sem, ↓reduceIte]
  refine ⟨by decide, ?_⟩
  refine callW_at [0] [0] (c302 s (nxAt s (i + 1) false isHex) (!nxOk s (i + 1) false isHex) hn1 hs) (by simp) rfl rfl rfl rfl rfl ?_
  rw [hn, hb]
  simp -implicitDefEqProofs only [readerB, hv, Nat.reduceEqDiff, Nat.reduceLeDiff, Nat.reduceAdd, reduceCtorEq, go_sem, ↓reduceIte]
  exact congrArg (fun z => some (AV.int .u8 z)) hv
theorem c262_no (s : Bytes) (i : Nat) (h : i ≤ s.length) (hs : s.length ≤ 4611686018427387904) (hok : nxOk s i false isEsc = false) : RR G 262 [.ptr 0 0] [readerB s i false] (byte 0) [readerB s i true] := by
  have hnc : nxC s i false isEsc = 0 := by unfold nxC; rw [hok] <;> rfl
  have hna : nxAt s i false isEsc = i := by unfold nxAt; rw [hok] <;> rfl
  have e1 : (((0 : UInt8).toNat : Int) == 110) = false := rfl
  have e2 : (((0 : UInt8).toNat : Int) == 114) = false := rfl
  have e3 : (((0 : UInt8).toNat : Int) == 116) = false := rfl
  have e4 : (((0 : UInt8).toNat : Int) == 120) = false := rfl
  unfold readerB
  refine ret_intro Tryz.func262 rfl Tryz.results262 (by decide +kernel) rfl (Nat.le_refl _) rfl (by simp [renB, ren1, ren0]) ?_
  simp -implicitDefEqProofs only [Nat.reduceEqDiff, Nat.reduceLeDiff, Nat.reduceAdd, reduceCtorEq, go_sem, ↓reduceIte]
  refine callW_at [0] [0] (c258a 301 isEsc c301 s i false h hs) (by simp) rfl rfl rfl rfl rfl ?_
  rw [hnc, hna, hok]
  simp -implicitDefEqProofs only [readerB, e1, e2, e3, e4, Nat.reduceEqDiff, Nat.reduceLeDiff, Nat.reduceAdd, reduceCtorEq, go_sem, ↓reduceIte]
theorem c262_one (s : Bytes) (i : Nat) (hs : s.length ≤ 4611686018427387904) (hlt : i < s.length) (c : UInt8) (hc : s.getD i 0 = c) (he : isEsc c = true) (hx : c ≠ 120) :
    RR G 262 [.ptr 0 0] [readerB s i false] (byte (if c = 110 then 10 else if c = 114 then 13 else if c = 116 then 9 else c)) [readerB s (i + 1) false] := by
  have hok : nxOk s i false isEsc = true := by simp only [nxOk, hc, he]; simp [hlt]
  have hnc : nxC s i false isEsc = c := by unfold nxC; rw [if_pos hok, hc]
  have hna : nxAt s i false isEsc = i + 1 := by unfold nxAt; rw [if_pos hok]
  have e4 : ((c.toNat : Int) == 120) = false := byte_ne c 120 hx
  unfold readerB
  refine ret_intro Tryz.func262 rfl Tryz.results262 (by decide +kernel) rfl (Nat.le_refl _) rfl (by simp [renB, ren1, ren0]) ?_
  simp -implicitDefEqProofs only [Nat.reduceEqDiff, Nat.reduceLeDiff, Nat.reduceAdd, reduceCtorEq, go_sem, ↓reduceIte]
  refine callW_at [0] [0] (c258a 301 isEsc c301 s i false (by omega) hs) (by simp) rfl rfl rfl rfl rfl ?_
  rw [hnc, hna, hok]
  by_cases h1 : c = 110
  · subst h1
    have e1 : (((110 : UInt8).toNat : Int) == 110) = true := rfl
    simp -implicitDefEqProofs only [readerB, e1, Nat.reduceEqDiff, Nat.reduceLeDiff, Nat.reduceAdd, reduceCtorEq, go_sem, ↓reduceIte]
    rfl
  · have e1 : ((c.toNat : Int) == 110) = false := byte_ne c 110 h1
    by_cases h2 : c = 114
    · subst h2
      have e2 : (((114 : UInt8).toNat : Int) == 114) = true := rfl
      simp -implicitDefEqProofs only [readerB, e1, e2, Nat.reduceEqDiff, Nat.reduceLeDiff, Nat.reduceAdd, reduceCtorEq, go_sem, ↓reduceIte]
      rfl
    · have e2 : ((c.toNat : Int) == 114) = false := byte_ne c 114 h2
      by_cases h3 : c = 116
      · subst h3
        have e3 : (((116 : UInt8).toNat : Int) == 116) = true := rfl
        simp -implicitDefEqProofs only [readerB, e1, e2, e3, Nat.reduceEqDiff, Nat.reduceLeDiff, Nat.reduceAdd, reduceCtorEq, go_sem, ↓reduceIte]
        rfl
      · have e3 : ((c.toNat : Int) == 116) = false := byte_ne c 116 h3
        simp -implicitDefEqProofs only [readerB, e1, e2, e3, e4, Nat.reduceEqDiff, Nat.reduceLeDiff, Nat.reduceAdd, reduceCtorEq, go_sem, ↓reduceIte]
        rw [if_neg h1, if_neg h2, if_neg h3]
theorem nxOk_drop (s : Bytes) (j : Nat) (p : UInt8 → Bool) : nxOk s j false p = (s.drop j).head?.any p := by
  by_cases h : j < s.length
  · rw [List.drop_eq_getElem_cons h]; simp [nxOk, h]
  · rw [List.drop_eq_nil_of_le (by omega)]; simp [nxOk, h]
theorem getD_drop (s : Bytes) (j : Nat) (c : UInt8) (r : Bytes) (h : s.drop j = c :: r) : j < s.length ∧ s.getD j 0 = c ∧ s.drop (j + 1) = r := by
  have hlt : j < s.length := Nat.lt_of_not_le fun hle => by rw [List.drop_eq_nil_of_le hle] at h; cases h
  rw [List.drop_eq_getElem_cons hlt] at h
  simp only [List.cons.injEq] at h
  exact ⟨hlt, by simp [hlt, h.1], h.2⟩
theorem nx_no (s : Bytes) (j : Nat) (bad : Bool) (p : UInt8 → Bool) (h : nxOk s j bad p = false) : nxAt s j bad p = j ∧ nxC s j bad p = 0 := by
  simp [nxAt, nxC, h]
theorem nx_yes (s : Bytes) (j : Nat) (p : UInt8 → Bool) (c : UInt8) (r : Bytes) (h : s.drop j = c :: r) (hp : p c = true) : nxOk s j false p = true ∧ nxAt s j false p = j + 1 ∧ nxC s j false p = c := by
  have hok : nxOk s j false p = true := by rw [nxOk_drop, h]; simpa using hp
  simp only [nxAt, nxC, hok]
  exact ⟨trivial, rfl, (getD_drop s j c r h).2.1⟩
theorem c262 (s : Bytes) (i : Nat) (h : i ≤ s.length) (hs : s.length ≤ 4611686018427387904) :
    ∃ b, RR G 262 [.ptr 0 0] [readerB s i false] (byte b) [readerB s (i + escN (s.drop i)) (escBad (s.drop i))] ∧ ∀ b' k, escR (s.drop i) = .ok (b', k) → b = b' := by
  unfold escN escBad
  cases hd : s.drop i with
  | nil =>
    have hok : nxOk s i false isEsc = false := by rw [nxOk_drop, hd] <;> rfl
    exact ⟨0, c262_no s i h hs hok, fun b' k hk => by simp [escR] at hk⟩
  | cons c r =>
    obtain ⟨hlt, hget, hr⟩ := getD_drop s i c r hd
    by_cases he : isEsc c = true
    · by_cases hx : c = 120
      · subst hx
        have hx' : ∀ b n bad, nxAt s (nxAt s (i + 1) false isHex) (!nxOk s (i + 1) false isHex) isHex = n → (!nxOk s (nxAt s (i + 1) false isHex) (!nxOk s (i + 1) false isHex) isHex) = bad → _ → RR G 262 [.ptr 0 0] [readerB s i false] (byte b) [readerB s n bad] := fun b n bad => c262_x s i hs hlt hget b n bad
        have hdone : ∀ j (bd : Bool) (q : Nat), nxOk s j bd isHex = false → nxAt s j bd isHex = j := fun j bd q hh => (nx_no s j bd isHex hh).1
        cases hr1 : r with
        | nil =>
          have h1 : nxOk s (i + 1) false isHex = false := by rw [nxOk_drop, hr, hr1] <;> rfl
          have h2 := nx_no s (i + 1) false isHex h1
          have h3 : nxOk s (i + 1) true isHex = false := rfl
          have h4 := nx_no s (i + 1) true isHex h3
          refine ⟨0, ?_, fun b' k hk => by simp [escR] at hk⟩
          refine hx' 0 (i + 1) true ?_ ?_ ?_
          · rw [h2.1, h1]; exact h4.1
          · rw [h2.1, h1] <;> rfl
          · rw [h2.1, h1, h2.2]; simp only [Bool.not_false]; rw [h4.2] <;> rfl
        | cons a r2 =>
          rw [hr1] at hr
          cases ha : hexd a with
          | none =>
            have h1 : nxOk s (i + 1) false isHex = false := by rw [nxOk_drop, hr]; simp [isHex, ha]
            have h2 := nx_no s (i + 1) false isHex h1
            have h3 : nxOk s (i + 1) true isHex = false := rfl
            have h4 := nx_no s (i + 1) true isHex h3
            refine ⟨0, ?_, fun b' k hk => by simp [escR, ha] at hk⟩
            simp only [escR, ha]
            refine hx' 0 (i + 1) true ?_ ?_ ?_
            · rw [h2.1, h1]; exact h4.1
            · rw [h2.1, h1] <;> rfl
            · rw [h2.1, h1, h2.2]; simp only [Bool.not_false]; rw [h4.2] <;> rfl
          | some x =>
            have hxl := hexd_lt a x ha
            obtain ⟨h1, h2, h3⟩ := nx_yes s (i + 1) isHex a r2 hr (by simp [isHex, ha])
            have hr3 := (getD_drop s (i + 1) a r2 hr).2.2
            have hva : hexV a = UInt8.ofNat x := by simp [hexV, ha]
            have zero : ∀ n : Fin 16, IntKind.u8.wrap (BitVec.ofInt IntKind.u8.bits (IntKind.u8.wrap (((UInt8.ofNat n.val).toNat : Int) * 2 ^ (min (4 : Int).toNat IntKind.u8.bits))) ||| BitVec.ofInt IntKind.u8.bits ((hexV 0).toNat : Int)).toNat = ((UInt8.ofNat (n.val * 16)).toNat : Int) := by decide +kernel
            cases hr2 : r2 with
            | nil =>
              have h4 : nxOk s (i + 1 + 1) false isHex = false := by rw [nxOk_drop, hr3, hr2] <;> rfl
              have h5 := nx_no s (i + 1 + 1) false isHex h4
              refine ⟨UInt8.ofNat (x * 16), ?_, fun b' k hk => by simp [escR, ha] at hk⟩
              simp only [escR, ha]
              refine hx' _ (i + 2) true ?_ ?_ ?_
              · rw [h2, h1]; exact h5.1
              · rw [h2, h1]; exact congrArg (!·) h4
              · rw [h2, h1, h3, hva]; simp only [Bool.not_true]; rw [h5.2]; exact zero ⟨x, hxl⟩
            | cons b r4 =>
              rw [hr2] at hr3
              cases hb : hexd b with
              | none =>
                have h4 : nxOk s (i + 1 + 1) false isHex = false := by rw [nxOk_drop, hr3]; simp [isHex, hb]
                have h5 := nx_no s (i + 1 + 1) false isHex h4
                refine ⟨UInt8.ofNat (x * 16), ?_, fun b' k hk => by simp [escR, ha, hb] at hk⟩
                simp only [escR, ha, hb]
                refine hx' _ (i + 2) true ?_ ?_ ?_
                · rw [h2, h1]; exact h5.1
                · rw [h2, h1]; exact congrArg (!·) h4
                · rw [h2, h1, h3, hva]; simp only [Bool.not_true]; rw [h5.2]; exact zero ⟨x, hxl⟩
              | some y =>
                have hyl := hexd_lt b y hb
                obtain ⟨h4, h5, h6⟩ := nx_yes s (i + 1 + 1) isHex b r4 hr3 (by simp [isHex, hb])
                have hvb : hexV b = UInt8.ofNat y := by simp [hexV, hb]
                refine ⟨UInt8.ofNat (x * 16 + y), ?_, fun b' k hk => by simp [escR, ha, hb] at hk; rw [← hk.1]; simp⟩
                simp only [escR, ha, hb]
                refine hx' _ (i + 3) false ?_ ?_ ?_
                · rw [h2, h1]; exact h5
                · rw [h2, h1]; exact congrArg (!·) h4
                · rw [h2, h1, h3, hva]; simp only [Bool.not_true]; rw [h6, hvb]; exact or_hex ⟨x, hxl⟩ ⟨y, hyl⟩
      · have hone := c262_one (G := G) s i hs hlt c hget he hx
        have hesc : escR (c :: r) = .ok (if c = 110 then 10 else if c = 114 then 13 else if c = 116 then 9 else c, 1) := by
          simp only [isEsc, Bool.or_eq_true, beq_iff_eq] at he
          unfold escR
          by_cases h1 : c = 110
          · simp [h1]
          · by_cases h2 : c = 114
            · simp [h2]
            · by_cases h3 : c = 116
              · simp [h3]
              · have : c = 34 ∨ c = 92 ∨ c = 36 := by
                  rcases he with (((((e | e) | e) | e) | e) | e) | e
                  · exact absurd e h1
                  · exact absurd e h2
                  · exact absurd e h3
                  · exact absurd e hx
                  · exact .inl e
                  · exact .inr (.inl e)
                  · exact .inr (.inr e)
                simp [h1, h2, h3, this]
        rw [hesc]
        exact ⟨_, hone, fun b' k hk => by cases hk; rfl⟩
    · have hok : nxOk s i false isEsc = false := by rw [nxOk_drop, hd]; simpa using he
      have hesc : escR (c :: r) = .error 0 := by
        simp only [isEsc, Bool.or_eq_true, beq_iff_eq, not_or] at he
        obtain ⟨⟨⟨⟨⟨⟨e1, e2⟩, e3⟩, e4⟩, e5⟩, e6⟩, e7⟩ := he
        simp [escR, e1, e2, e3, e4, e5, e6, e7]
      rw [hesc]
      exact ⟨0, c262_no s i h hs hok, fun b' k hk => by cases hk⟩
end Go.Pv
/- The law of the reader's variable. -/
namespace Go.Pv
open Go Go.Proofs
set_option maxRecDepth 4000
variable {G : Frz}
def nmRun (s : Bytes) (p1 j : Nat) : Nat := (((s.drop j).take (p1 + 8 - j)).takeWhile within).length
theorem nmRun_stop (s : Bytes) (p1 j : Nat) (h : s.length ≤ j ∨ p1 + 8 ≤ j ∨ within (s.getD j 0) = false) : nmRun s p1 j = 0 := by
  unfold nmRun
  rcases h with h | h | h
  · rw [List.drop_eq_nil_of_le h]; simp
  · rw [show p1 + 8 - j = 0 by omega]; simp
  · by_cases hl : j < s.length
    · rw [List.drop_eq_getElem_cons hl]
      cases hk : p1 + 8 - j with
      | zero => simp
      | succ k =>
        rw [List.take_succ_cons, List.takeWhile_cons_of_neg (by simpa [hl] using h)]
        rfl
    · rw [List.drop_eq_nil_of_le (by omega)]; simp
theorem nmRun_step (s : Bytes) (p1 j : Nat) (h1 : j < s.length) (h2 : j < p1 + 8) (h3 : within (s.getD j 0) = true) : nmRun s p1 j = 1 + nmRun s p1 (j + 1) := by
  unfold nmRun
  rw [List.drop_eq_getElem_cons h1]
  have hk : p1 + 8 - j = (p1 + 8 - (j + 1)) + 1 := by omega
  rw [hk, List.take_succ_cons, List.takeWhile_cons_of_pos (by simpa [h1] using h3)]
  simp; omega
def isB (x c : UInt8) : Bool := c == x
def isFst (c : UInt8) : Bool := letter c || digit c
theorem c261_gen (s : Bytes) (i : Nat) (h : i ≤ s.length) (hs : s.length ≤ 4611686018427387904) (p1 p2 p3 p4 : Nat) (b1 b2 b4 : Bool) (c : UInt8)
    (e1 : nxAt s i false (isB 123) = p1) (e2 : (!nxOk s i false (isB 123)) = b1) (e3 : nxAt s p1 b1 isFst = p2) (e4 : (!nxOk s p1 b1 isFst) = b2) (e5 : nxC s p1 b1 isFst = c)
    (e6 : (if b2 = false ∧ letter c = true then p2 + nmRun s p1 p2 else p2) = p3) (e7 : nxAt s p3 b2 (isB 125) = p4) (e8 : (!nxOk s p3 b2 (isB 125)) = b4)
    (l1 : p1 ≤ s.length) (l2 : p1 ≤ p2) (l3 : p2 ≤ s.length) :
    RR G 261 [.ptr 0 0] [readerB s i false] (.str ((s.take p3).drop p1)) [readerB s p4 b4] := by
  unfold readerB
  refine ret_intro Tryz.func261 rfl Tryz.results261 (by decide +kernel) rfl (Nat.le_refl _) rfl (by simp [renB, ren1, ren0]) ?_
  refine wp_mid [(0, .ptr 0 0)] [readerB s i false] ?_ fun env ⟨h0, _⟩ => ?_
  · simp -implicitDefEqProofs only [readerB, Nat.reduceEqDiff, Nat.reduceLeDiff, Nat.reduceAdd, reduceCtorEq, go_sem, ↓reduceIte]
  refine wp_mid [(0, .ptr 0 0)] [readerB s p1 b1, .cells 5 [byte 123]] ?_ fun env ⟨h0, _⟩ => ?_
  · simp -implicitDefEqProofs only [h0, readerB, Nat.reduceEqDiff, Nat.reduceLeDiff, Nat.reduceAdd, reduceCtorEq, go_sem, ↓reduceIte]
    refine callW_new [1] (c259 123) rfl rfl ?_
    simp -implicitDefEqProofs only [h0, Nat.reduceEqDiff, Nat.reduceLeDiff, Nat.reduceAdd, reduceCtorEq, go_sem, ↓reduceIte]
    refine callW_at [0, 1] [0, 1] (c258b 299 123 (isB 123) (fun c => c299 c 123) s i false h hs) (by simp) rfl rfl rfl rfl rfl ?_
    rw [e1, e2]
    simp -implicitDefEqProofs only [readerB, h0, Nat.reduceEqDiff, Nat.reduceLeDiff, Nat.reduceAdd, reduceCtorEq, go_sem, ↓reduceIte]
  refine wp_mid [(0, .ptr 0 0), (3, i64 p1)] [readerB s p1 b1, .cells 5 [byte 123]] ?_ fun env ⟨h0, h3, _⟩ => ?_
  · simp -implicitDefEqProofs only [h0, readerB, Nat.reduceEqDiff, Nat.reduceLeDiff, Nat.reduceAdd, reduceCtorEq, go_sem, ↓reduceIte]
  refine wp_mid [(0, .ptr 0 0), (3, i64 p1), (4, byte c)] [readerB s p2 b2, .cells 5 [byte 123]] ?_ fun env ⟨h0, h3, h4, _⟩ => ?_
  · simp -implicitDefEqProofs only [h0, readerB, h3, Nat.reduceEqDiff, Nat.reduceLeDiff, Nat.reduceAdd, reduceCtorEq, go_sem, ↓reduceIte]
    refine callW_at [0] [0] (c258a 300 isFst c300 s p1 b1 l1 hs) (by simp) rfl rfl rfl rfl rfl ?_
    rw [e3, e4, e5]
    simp -implicitDefEqProofs only [readerB, h0, h3, Nat.reduceEqDiff, Nat.reduceLeDiff, Nat.reduceAdd, reduceCtorEq, go_sem, ↓reduceIte]
  have hp3 : p2 ≤ p3 := by rw [← e6]; split <;> omega
  refine wp_mid [(0, .ptr 0 0), (3, i64 p1)] [readerB s p3 b2, .cells 5 [byte 123]] ?_ fun env ⟨h0, h3, _⟩ => ?_
  · rw [wp_block_eq]
    refine wp_loop_use (A := Nat) (fun _ => [(0, .ptr 0 0), (3, i64 p1), (4, byte c)]) (fun j => [.cells 292 [.str s, i64 j, .bool b2], .cells 5 [byte 123]]) (fun j => p2 ≤ j ∧ j ≤ s.length ∧ (if b2 = false ∧ letter c = true then j + nmRun s p1 j else j) = p3) (fun j => s.length - j) p2 ⟨Nat.le_refl _, l3, e6⟩ rfl ⟨h0, h3, h4, trivial⟩ ?_
    intro j ⟨hj1, hj2, hj3⟩
    have tj : ((j : Nat) : Int).toNat = j := Int.toNat_natCast _
    have hw8 : IntKind.i64.wrap ((p1 : Int) + 8) = ((p1 + 8 : Nat) : Int) := by rw [IntKind.wrap_i64]; omega
    refine wp_ghost (A := Unit) (fun _ => b2 = false ∧ letter c = true ∧ j < s.length ∧ j < p1 + 8 ∧ within (s.getD j 0) = true) (fun _ => [.cells 292 [.str s, i64 j, .bool b2], .cells 5 [byte 123]]) (fun _ => [(0, .ptr 0 0), (3, i64 p1), (4, byte c)]) ?_ fun _ hgo env ⟨h0, h3, h4, _⟩ => ?_
    · simp -implicitDefEqProofs only [Nat.reduceEqDiff, Nat.reduceLeDiff, Nat.reduceAdd, reduceCtorEq, go_sem, ↓reduceIte]
      (refine WT_ord (t := lin [0, 1, 2, 3, 4, 5, 6, 7, 8, 9, 10, 11, 12, 13, 14, 15, 16, 17, 18, 19, 20, 21, 22, 23, 24, 25, 26, 27, 28, 29, 30, 31, 32, 33, 34, 35, 36, 37, 38, 39, 40, 41] .nil) ?_ ?_; kernel_rfl)
      cases b2 with
      | true =>
        simp -implicitDefEqProofs only [Nat.reduceEqDiff, Nat.reduceLeDiff, Nat.reduceAdd, reduceCtorEq, go_sem, ↓reduceIte]
        simp at hj3
        rw [hj3] <;> rfl
      | false =>
        simp -implicitDefEqProofs only [Nat.reduceEqDiff, Nat.reduceLeDiff, Nat.reduceAdd, reduceCtorEq, go_sem, ↓reduceIte]
        refine callW_pure (c125 c) rfl rfl ?_
        cases hl : letter c with
        | false =>
          simp -implicitDefEqProofs only [Nat.reduceEqDiff, Nat.reduceLeDiff, Nat.reduceAdd, reduceCtorEq, go_sem, ↓reduceIte]
          simp [hl] at hj3
          rw [hj3] <;> rfl
        | true =>
          rw [if_pos ⟨rfl, hl⟩] at hj3
          by_cases hlt : j < s.length
          · have d1 : decide ((j : Int) < s.length) = true := by simp; omega
            by_cases h8 : j < p1 + 8
            · have d2 : decide ((j : Int) < ((p1 + 8 : Nat) : Int)) = true := by simp; omega
              simp -implicitDefEqProofs only [d1, hw8, d2, tj, Nat.reduceEqDiff, Nat.reduceLeDiff, Nat.reduceAdd, reduceCtorEq, go_sem, ↓reduceIte]
              refine ⟨by omega, hlt, ?_⟩
              refine callW_pure (c126 (s.getD j 0)) rfl rfl ?_
              cases hwi : within (s.getD j 0) with
              | true =>
                simp -implicitDefEqProofs only [Nat.reduceEqDiff, Nat.reduceLeDiff, Nat.reduceAdd, reduceCtorEq, go_sem, ↓reduceIte]
                exact ⟨(), hlt, h8⟩
              | false =>
                simp -implicitDefEqProofs only [Nat.reduceEqDiff, Nat.reduceLeDiff, Nat.reduceAdd, reduceCtorEq, go_sem, ↓reduceIte]
                rw [nmRun_stop s p1 j (.inr (.inr hwi))] at hj3
                rw [← hj3] <;> rfl
            · have d2 : decide ((j : Int) < ((p1 + 8 : Nat) : Int)) = false := by simp; omega
              simp -implicitDefEqProofs only [d1, hw8, d2, Nat.reduceEqDiff, Nat.reduceLeDiff, Nat.reduceAdd, reduceCtorEq, go_sem, ↓reduceIte]
              rw [nmRun_stop s p1 j (.inr (.inl (by omega)))] at hj3
              rw [← hj3] <;> rfl
          · have d1 : decide ((j : Int) < s.length) = false := by simp; omega
            simp -implicitDefEqProofs only [d1, Nat.reduceEqDiff, Nat.reduceLeDiff, Nat.reduceAdd, reduceCtorEq, go_sem, ↓reduceIte]
            rw [nmRun_stop s p1 j (.inl (by omega))] at hj3
            rw [← hj3] <;> rfl
    · obtain ⟨g1, g2, g3, g4, g5⟩ := hgo
      have hw := wrap_succ j s.length g3 hs
      simp -implicitDefEqProofs only [h0, h3, h4, hw, Nat.reduceEqDiff, Nat.reduceLeDiff, Nat.reduceAdd, reduceCtorEq, go_sem, ↓reduceIte]
      refine ⟨j + 1, ⟨⟨by omega, by omega, ?_⟩, by omega⟩, rfl⟩
      rw [if_pos ⟨g1, g2⟩] at hj3 ⊢
      rw [nmRun_step s p1 j g3 g4 g5] at hj3
      omega
  have hp3l : p3 ≤ s.length := by
    rw [← e6]
    split
    · have h1 := tw_le within ((s.drop p2).take (p1 + 8 - p2))
      have h2 : ((s.drop p2).take (p1 + 8 - p2)).length ≤ s.length - p2 := by simp; omega
      unfold nmRun
      omega
    · exact l3
  refine wp_mid [(0, .ptr 0 0), (3, i64 p1), (5, i64 p3)] [readerB s p3 b2, .cells 5 [byte 123]] ?_ fun env ⟨h0, h3, h5, _⟩ => ?_
  · simp -implicitDefEqProofs only [h0, readerB, h3, Nat.reduceEqDiff, Nat.reduceLeDiff, Nat.reduceAdd, reduceCtorEq, go_sem, ↓reduceIte]
  refine wp_mid [(0, .ptr 0 0), (3, i64 p1), (5, i64 p3)] [readerB s p4 b4, .cells 5 [byte 123], .cells 5 [byte 125]] ?_ fun env ⟨h0, h3, h5, _⟩ => ?_
  · simp -implicitDefEqProofs only [h0, readerB, h3, h5, Nat.reduceEqDiff, Nat.reduceLeDiff, Nat.reduceAdd, reduceCtorEq, go_sem, ↓reduceIte]
    refine callW_new [2] (c259 125) rfl rfl ?_
    simp -implicitDefEqProofs only [h0, Nat.reduceEqDiff, Nat.reduceLeDiff, Nat.reduceAdd, reduceCtorEq, go_sem, ↓reduceIte]
    refine callW_at [0, 2] [0, 2] (c258b 299 125 (isB 125) (fun c => c299 c 125) s p3 b2 hp3l hs) (by simp) rfl rfl rfl rfl rfl ?_
    rw [e7, e8]
    simp -implicitDefEqProofs only [readerB, h0, h3, h5, Nat.reduceEqDiff, Nat.reduceLeDiff, Nat.reduceAdd, reduceCtorEq, go_sem, ↓reduceIte]
  have t1 : ((p1 : Nat) : Int).toNat = p1 := Int.toNat_natCast _
  have t3 : ((p3 : Nat) : Int).toNat = p3 := Int.toNat_natCast _
  simp -implicitDefEqProofs only [h0, readerB, h3, h5, t1, t3, Nat.reduceEqDiff, Nat.reduceLeDiff, Nat.reduceAdd, reduceCtorEq, go_sem, ↓reduceIte]
  exact ⟨by omega, by omega, by omega, by omega⟩
def varN (l : Bytes) : Nat := match varR l with
  | .ok (_, k) => k
  | .error k => k
def varBad (l : Bytes) : Bool := match varR l with
  | .ok _ => false
  | .error _ => true
theorem nmRun_name (s : Bytes) (i : Nat) (c : UInt8) (r : Bytes) (hr : s.drop (i + 1) = c :: r) : (nameR c r).length = 1 + (if letter c = true then nmRun s (i + 1) (i + 2) else 0) ∧ (s.take (i + 1 + (nameR c r).length)).drop (i + 1) = nameR c r := by
  have h2 := (getD_drop s (i + 1) c r hr).2.2
  have e : (nameR c r).length = 1 + (if letter c = true then nmRun s (i + 1) (i + 2) else 0) := by
    unfold nameR nmRun
    rw [show i + 1 + 8 - (i + 2) = 7 by omega, h2]
    split <;> simp
    omega
  refine ⟨e, ?_⟩
  rw [List.drop_take, hr, show i + 1 + (nameR c r).length - (i + 1) = (nameR c r).length by omega]
  unfold nameR
  by_cases hl : letter c = true
  · rw [if_pos hl]
    simp only [List.length_cons, List.take_succ_cons, List.cons.injEq, true_and]
    have h3 := take_tw within (r.take 7)
    have h4 := tw_le within (r.take 7)
    rw [List.take_take] at h3
    rw [← h3]
    congr 1
    simp at h4 ⊢
    omega
  · rw [if_neg hl]
    simp
theorem c261 (s : Bytes) (i : Nat) (h : i ≤ s.length) (hs : s.length ≤ 4611686018427387904) :
    ∃ nm, RR G 261 [.ptr 0 0] [readerB s i false] (.str nm) [readerB s (i + varN (s.drop i)) (varBad (s.drop i))] ∧ ∀ nm' k, varR (s.drop i) = .ok (nm', k) → nm = nm' := by
  unfold varN varBad
  have noB : ∀ j p, nxOk s j true p = false := fun j p => rfl
  cases hd : s.drop i with
  | nil =>
    have h1 : nxOk s i false (isB 123) = false := by rw [nxOk_drop, hd] <;> rfl
    obtain ⟨a1, a2⟩ := nx_no s i false _ h1
    obtain ⟨b1, b2⟩ := nx_no s i true isFst (noB _ _)
    obtain ⟨d1, _⟩ := nx_no s i true (isB 125) (noB _ _)
    refine ⟨_, c261_gen s i h hs i i i i true true true 0 a1 (by rw [h1] <;> rfl) b1 rfl b2 (by simp) d1 rfl h (Nat.le_refl _) h, fun nm' k hk => by simp [varR] at hk⟩
  | cons b r =>
    obtain ⟨hlt, hget, hr⟩ := getD_drop s i b r hd
    by_cases hb : b = 123
    · subst hb
      obtain ⟨a1, a2, a3⟩ := nx_yes s i (isB 123) 123 r hd rfl
      cases hr1 : r with
      | nil =>
        rw [hr1] at hr
        have h1 : nxOk s (i + 1) false isFst = false := by rw [nxOk_drop, hr] <;> rfl
        obtain ⟨b1, b2⟩ := nx_no s (i + 1) false isFst h1
        obtain ⟨d1, _⟩ := nx_no s (i + 1) true (isB 125) (noB _ _)
        refine ⟨_, c261_gen s i h hs (i + 1) (i + 1) (i + 1) (i + 1) false true true 0 a2 (by rw [a1] <;> rfl) b1 (by rw [h1] <;> rfl) b2 (by simp) d1 rfl (by omega) (Nat.le_refl _) (by omega), fun nm' k hk => by simp [varR] at hk⟩
      | cons c r1 =>
        rw [hr1] at hr
        have hlt1 := (getD_drop s (i + 1) c r1 hr).1
        have hr2 := (getD_drop s (i + 1) c r1 hr).2.2
        by_cases hf : isFst c = true
        · obtain ⟨b1, b2, b3⟩ := nx_yes s (i + 1) isFst c r1 hr hf
          obtain ⟨n1, n2⟩ := nmRun_name s i c r1 hr
          have hnm : (if (false : Bool) = false ∧ letter c = true then i + 2 + nmRun s (i + 1) (i + 2) else i + 2) = i + 1 + (nameR c r1).length := by
            rw [n1]
            by_cases hl : letter c = true
            · simp [hl]; omega
            · simp [hl]
          have hdr : s.drop (i + 1 + (nameR c r1).length) = r1.drop ((nameR c r1).length - 1) := by
            have := (nameR_len c r1).1
            rw [← List.drop_drop, hr]
            obtain ⟨m, hm⟩ : ∃ m, (nameR c r1).length = m + 1 := ⟨(nameR c r1).length - 1, by omega⟩
            rw [hm] <;> rfl
          by_cases h125 : (r1.drop ((nameR c r1).length - 1)).head? = some 125
          · obtain ⟨r3, hr3⟩ : ∃ r3, s.drop (i + 1 + (nameR c r1).length) = 125 :: r3 := by
              rw [hdr]
              cases hh : r1.drop ((nameR c r1).length - 1) with
              | nil => rw [hh] at h125; cases h125
              | cons x y => rw [hh] at h125; cases h125; exact ⟨y, rfl⟩
            obtain ⟨d1, d2, d3⟩ := nx_yes s _ (isB 125) 125 r3 hr3 rfl
            have hv : varR (123 :: c :: r1) = .ok (nameR c r1, (nameR c r1).length + 2) := by
              have hf' : (letter c || digit c) = true := hf
              simp only [varR, hf', if_true]
              rw [if_pos h125]
            rw [hv]
            refine ⟨nameR c r1, ?_, fun nm' k hk => by cases hk; rfl⟩
            have := c261_gen (G := G) s i h hs (i + 1) (i + 2) _ _ false false false c a2 (by rw [a1] <;> rfl) b2 (by rw [b1] <;> rfl) b3 hnm d2 (by rw [d1] <;> rfl) (by omega) (by omega) (by omega)
            rw [n2] at this
            simp only
            rw [show i + ((nameR c r1).length + 2) = i + 1 + (nameR c r1).length + 1 by omega]
            exact this
          · have h5 : nxOk s (i + 1 + (nameR c r1).length) false (isB 125) = false := by
              rw [nxOk_drop, hdr]
              cases hh : (r1.drop ((nameR c r1).length - 1)).head? with
              | none => rfl
              | some x =>
                have : x ≠ 125 := fun e => h125 (by rw [hh, e])
                simp [isB, this]
            obtain ⟨d1, d2⟩ := nx_no s _ false (isB 125) h5
            have hv : varR (123 :: c :: r1) = .error ((nameR c r1).length + 1) := by
              have hf' : (letter c || digit c) = true := hf
              simp only [varR, hf', if_true]
              rw [if_neg h125]
            rw [hv]
            refine ⟨nameR c r1, ?_, fun nm' k hk => by cases hk⟩
            have := c261_gen (G := G) s i h hs (i + 1) (i + 2) _ _ false false true c a2 (by rw [a1] <;> rfl) b2 (by rw [b1] <;> rfl) b3 hnm d1 (by rw [h5] <;> rfl) (by omega) (by omega) (by omega)
            rw [n2] at this
            simp only
            rw [show i + ((nameR c r1).length + 1) = i + 1 + (nameR c r1).length by omega]
            exact this
        · have h1 : nxOk s (i + 1) false isFst = false := by rw [nxOk_drop, hr]; simpa using hf
          obtain ⟨b1, b2⟩ := nx_no s (i + 1) false isFst h1
          obtain ⟨d1, _⟩ := nx_no s (i + 1) true (isB 125) (noB _ _)
          have hv : varR (123 :: c :: r1) = .error 1 := by
            have hf' : (letter c || digit c) = false := by simpa [isFst] using hf
            simp [varR, hf']
          rw [hv]
          refine ⟨_, c261_gen s i h hs (i + 1) (i + 1) (i + 1) (i + 1) false true true 0 a2 (by rw [a1] <;> rfl) b1 (by rw [h1] <;> rfl) b2 (by simp) d1 rfl (by omega) (Nat.le_refl _) (by omega), fun nm' k hk => by cases hk⟩
    · have h1 : nxOk s i false (isB 123) = false := by rw [nxOk_drop, hd]; simpa [isB] using hb
      obtain ⟨a1, a2⟩ := nx_no s i false _ h1
      obtain ⟨b1, b2⟩ := nx_no s i true isFst (noB _ _)
      obtain ⟨d1, _⟩ := nx_no s i true (isB 125) (noB _ _)
      have hv : varR (b :: r) = .error 0 := by simp [varR, hb]
      rw [hv]
      refine ⟨_, c261_gen s i h hs i i i i true true true 0 a1 (by rw [h1] <;> rfl) b1 rfl b2 (by simp) d1 rfl h (Nat.le_refl _) h, fun nm' k hk => by cases hk⟩
end Go.Pv
/- Laws of strings.Builder's functions. -/
namespace Go.Pv
open Go Go.Proofs
set_option maxRecDepth 4000
variable {G : Frz}
def bytesA' (l : Bytes) : List AV := l.map fun c => .int .u8 c.toNat
/-- The block of a builder that holds some bytes. -/
def bldB (a : AV) (l : Bytes) : Blk := .cells 179 [a, .sl .yes ⟨1, 5⟩ (bytesA' l)]
set_option maxHeartbeats 1000000 in
set_option maxRecDepth 100000 in
theorem string_run (b g cap : Nat) (p : Value) (cur : Array Value) (fz : Nat × Nat) (l : Bytes) (w : World) (h0 : l ≠ []) (hbk : w.heap[b]? = some (.cells #[p, .slice (some ⟨g, 0, none⟩) l.length cap] 179 (0, 0)))
    (hg : w.heap[g]? = some (.cells cur 5 fz)) (hnc : l.length ≤ cap) (hcs : cur.size = cap) (hlen : l.length ≤ 4294967296) (hcells : ∀ (j : Nat) (x : UInt8), l[j]? = some x → w.cell? ⟨g, j, none⟩ = some (.int .u8 x.toNat)) :
    Calls Tryz.prog 116 #[.pointer (some ⟨b, 0, none⟩)] w fun e w' => e = .returned (.string ⟨l.toArray⟩) ∧ w' = w.drew.freeze ⟨g, 0, none⟩ l.length := by
  have hl0 : l.length ≠ 0 := by simpa using h0
  have c1 : w.drew.cell? ⟨b, 1, none⟩ = some (.slice (some ⟨g, 0, none⟩) l.length cap) := by
    have : w.drew.heap[b]? = some (.cells #[p, .slice (some ⟨g, 0, none⟩) l.length cap] 179 (0, 0)) := hbk
    rw [Lib.cell_of_heap this] <;> rfl
  have hSD : (Builtin.unsafeSliceData_ #[43] 234 #[.slice (some ⟨g, 0, none⟩) l.length cap]).run Tryz.prog w.drew = .ok (.pointer (some ⟨g, 0, none⟩)) w.drew :=
    Lib.run_unsafeSliceData_row _ _ _ _ _ _ (by omega)
  have hUS : (Builtin.unsafeString_ #[234, 3] 9 #[.pointer (some ⟨g, 0, none⟩), .int .i64 l.length]).run Tryz.prog w.drew = .ok (.string ⟨l.toArray⟩) (w.drew.freeze ⟨g, 0, none⟩ l.length) := by
    refine Lib.run_unsafeString_row w.drew 234 3 9 5 Tryz.underlying234 (by kernel_rfl) g cur.size (by have hg' : w.drew.heap[g]? = some (.cells cur 5 fz) := hg; simp [World.shape?, hg']) l h0 (by omega) (by omega) ?_
    intro j x hx
    have : (⟨g, 0, none⟩ : Addr).add j = ⟨g, j, none⟩ := by rw [add_plain]; simp
    rw [this]
    exact hcells j x hx
  have mixed := Tryz.lays169.mixed
  go_enter Tryz.func116, Tryz.ntmps116
  go_wp2
  go_region_o
  all_goals (go_wp2; go_ret; exact ⟨rfl, rfl⟩)
theorem freeze_at (w : World) (g n : Nat) (cur : Array Value) (e : TypeId) (fr : Nat × Nat) (hg : w.heap[g]? = some (.cells cur e fr)) :
    ∃ fr', (w.freeze ⟨g, 0, none⟩ n).heap[g]? = some (.cells cur e fr') := by
  unfold World.freeze
  split
  · exact ⟨fr, hg⟩
  · obtain ⟨lo, hi⟩ := fr
    simp only [Array.getElem?_modify, if_true, hg, Option.map_some]
    exact ⟨_, rfl⟩
theorem freeze_other (w : World) (g n k : Nat) (hk : k ≠ g) : (w.freeze ⟨g, 0, none⟩ n).heap[k]? = w.heap[k]? := by
  unfold World.freeze
  split
  · rfl
  · simp only [Array.getElem?_modify]
    rw [if_neg (Ne.symm hk)]
/-- A builder whose row is no longer its own. -/
def bldN (a : AV) (l : Bytes) : Blk := .cells 179 [a, .sl .no ⟨1, 5⟩ (bytesA' l)]
theorem sound116 (a : AV) (l : Bytes) (h0 : l ≠ []) (hlen : l.length ≤ 4294967296) : Sound Tryz.prog G 116 [.ptr 0 0] [bldB a l] (.str l) [bldN a l] := fun φ S w vargs hG hR ha => by
  obtain ⟨u, rfl, hu⟩ := rl_one ha
  obtain ⟨k, hk, rfl⟩ := vr_ptr hu
  obtain ⟨cs, hc1, hc2, hc3⟩ := hR.blk 0 k _ rfl hk
  obtain ⟨p, v1, rfl, hp, hv1⟩ := rl_two hc2
  have hvr : VR φ S (.sl .yes ⟨1, 5⟩ (bytesA' l)) v1 := hv1.vr
  obtain ⟨A, cap, rfl, hcap, _, _, hr⟩ := vr_sl hvr
  have hlb : (bytesA' l).length = l.length := by simp [bytesA']
  have hne : bytesA' l ≠ [] := fun e => h0 (by have := congrArg List.length e; rw [hlb] at this; exact List.eq_nil_of_length_eq_zero this)
  obtain ⟨g, off, rfl, hcell⟩ := hr hne
  have hcell1 : w.cell? ⟨k, 1, none⟩ = some (.slice (some ⟨g, off, none⟩) (bytesA' l).length cap) := by rw [cell_heap hc1] <;> rfl
  have ha0 : haA (fun _ => AV.undef) [bldB a l] (.cell 0 1) = .sl .yes ⟨1, 5⟩ (bytesA' l) := rfl
  have hv0 : haV φ #[] w (.cell 0 1) = .slice (some ⟨g, off, none⟩) (bytesA' l).length cap := by simp only [haV, hk, hcell1]; rfl
  have hown := hR.own (.cell 0 1) _ _ ha0
  rw [hv0] at hown
  obtain ⟨o1, o2, ⟨cur, fr, o3, o4, o5⟩, o6⟩ := hown
  cases o1
  have hcs : cur.size = cap := by rw [o4]; simp
  have hcells : ∀ (j : Nat) (x : UInt8), l[j]? = some x → w.cell? ⟨g, j, none⟩ = some (.int .u8 x.toNat) := fun j x hx => by
    obtain ⟨y, hy, hvy⟩ := hcell j 0 (.int .u8 x.toNat) (.int .u8 x.toNat) (by simp [bytesA', hx]) rfl
    cases hvy
    have := (hR.sok _ _ _ hy).1
    simpa using this
  rw [hlb] at hc1 hcap
  refine .inl ⟨by simp [callOk, Tryz.func116]; decide, (string_run k g cap p cur fr l w h0 hc1 o3 hcap hcs hlen hcells).mono ?_⟩
  rintro e w' ⟨rfl, rfl⟩
  obtain ⟨fr', f1⟩ := freeze_at w.drew g l.length cur 5 fr o3
  have hsz : (w.drew.freeze ⟨g, 0, none⟩ l.length).heap.size = w.heap.size := by
    unfold World.freeze
    split
    · rfl
    · simp
  have hbg : blkOf (haV φ #[] w (.cell 0 1)) = some g := by rw [hv0] <;> rfl
  obtain ⟨hW, hA⟩ := hR.weakCell (b := 0) (off := 1) (sz := ⟨1, 5⟩) (cs := [a, .sl .yes ⟨1, 5⟩ (bytesA' l)]) (l := bytesA' l) rfl rfl
  have hF := hW.refreeze (w' := w.drew.freeze ⟨g, 0, none⟩ l.length) o3 f1 (fun hd sz' l' ha2 hg2 => by
      obtain ⟨h1, h2⟩ := hA hd sz' l' ha2
      exact hR.apart hd (.cell 0 1) sz' l' _ _ g h2 h1 ha0 hg2 hbg) o2 (hR.ownT (.cell 0 1) _ _ g ha0 hbg) (fun j hj => freeze_other w.drew g l.length j hj) hsz (by unfold World.freeze; split <;> rfl) (by unfold World.freeze; split <;> rfl) (by unfold World.freeze; split <;> rfl)
  exact ⟨_, φ, S, rfl, fun _ _ h => h, rel_ret (P := Tryz.prog) hF (VP.str l).vr (by simp)⟩
theorem sound241 (b : Blk) : Sound Tryz.prog G 241 [.ptr 0 0] [b] (.ptr 0 0) [b] := by
  refine sound_place (fun φ S w vargs hk ha hb => ?_) (by simp)
  obtain ⟨u, rfl, hu⟩ := rl_one ha
  obtain ⟨k, hk2, rfl⟩ := vr_ptr hu
  refine ⟨.pointer (some ⟨k, 0, none⟩), ?_, ⟨k, hk2, rfl⟩⟩
  rw [run_callFunc_extern Tryz.func241 (by kernel_rfl) (by kernel_rfl) (by kernel_rfl) (e := Extern.AbiNoEscape.same) (by kernel_rfl)]
  rw [Lib.run_noEscape]
  rfl
theorem bytesA'_len (l : Bytes) : (bytesA' l).length = l.length := by simp [bytesA']
theorem c256 (a : AV) (ha : a = .nilp ∨ a = .ptr 0 0) (l : Bytes) : RR G 256 [.ptr 0 0] [bldB a l] (i64 l.length) [bldB a l] := by
  unfold bldB
  rcases ha with rfl | rfl
  · refine ret_intro Tryz.func256 rfl Tryz.results256 (by decide +kernel) rfl (Nat.le_refl _) rfl (by simp [renB, ren1, ren0]) ?_
    simp -implicitDefEqProofs only [bytesA'_len, Nat.reduceEqDiff, Nat.reduceLeDiff, Nat.reduceAdd, reduceCtorEq, go_sem, ↓reduceIte]
  · refine ret_intro Tryz.func256 rfl Tryz.results256 (by decide +kernel) rfl (Nat.le_refl _) rfl (by simp [renB, ren1, ren0]) ?_
    simp -implicitDefEqProofs only [bytesA'_len, Nat.reduceEqDiff, Nat.reduceLeDiff, Nat.reduceAdd, reduceCtorEq, go_sem, ↓reduceIte]
theorem c257 (a : AV) (l : Bytes) (ha : a = .nilp ∨ a = .ptr 0 0) : RR G 257 [.ptr 0 0] [bldN a l] (.tup []) [bldB .nilp []] := by
  unfold bldB bldN
  refine ret_intro Tryz.func257 rfl Tryz.results257 (by decide +kernel) rfl (Nat.le_refl _) rfl (by simp [renB, ren1, ren0]) ?_
  simp -implicitDefEqProofs only [Nat.reduceEqDiff, Nat.reduceLeDiff, Nat.reduceAdd, reduceCtorEq, go_sem, ↓reduceIte]
  rfl
theorem lies179 : liesAt Tryz.prog Tryz.prog.depth 179 (2 / Tryz.prog.cellsOf 179) 0 179 1 = true := by kernel_rfl
theorem c181 (a : AV) (ha : a = .nilp ∨ a = .ptr 0 0) (l : Bytes) : RR G 181 [.ptr 0 0] [bldB a l] (.tup []) [bldB (.ptr 0 0) l] := by
  unfold bldB
  rcases ha with rfl | rfl
  · have hA : ((2 : Nat) ≠ 0 ∧ 0 < 2) = True := by simp
    have hB : ((2 : Nat) ≠ 0 ∧ liesAt Tryz.prog Tryz.prog.depth 179 (2 / Tryz.prog.cellsOf 179) 0 179 1 = true) = True := by simp [lies179]
    refine ret_intro Tryz.func181 rfl Tryz.results181 (by decide +kernel) rfl (Nat.le_refl _) rfl (by simp [renB, ren1, ren0]) ?_
    simp -implicitDefEqProofs only [hA, if_true, Nat.reduceEqDiff, Nat.reduceLeDiff, Nat.reduceAdd, reduceCtorEq, go_sem, ↓reduceIte]
    refine callW_at [0] [0] (ret_prim (sound241 (.cells 179 [.nilp, .sl .yes ⟨1, 5⟩ (bytesA' l)]))) (by simp) rfl rfl rfl rfl rfl ?_
    simp -implicitDefEqProofs only [hB, if_true, Nat.reduceEqDiff, Nat.reduceLeDiff, Nat.reduceAdd, reduceCtorEq, go_sem, ↓reduceIte]
  · refine ret_intro Tryz.func181 rfl Tryz.results181 (by decide +kernel) rfl (Nat.le_refl _) rfl (by simp [renB, ren1, ren0]) ?_
    simp -implicitDefEqProofs only [Nat.reduceEqDiff, Nat.reduceLeDiff, Nat.reduceAdd, reduceCtorEq, go_sem, ↓reduceIte]
theorem c121 (a : AV) (ha : a = .nilp ∨ a = .ptr 0 0) (l : Bytes) (c : UInt8) (hl : l.length + 1 ≤ 4294967296) : RR G 121 [.ptr 0 0, byte c] [bldB a l] .nili [bldB (.ptr 0 0) (l ++ [c])] := by
  have hlen : ((bytesA' l).length + 1 ≤ lenLim) = True := by rw [bytesA'_len]; simp [lenLim]; omega
  unfold bldB
  rcases ha with rfl | rfl
  · refine ret_intro Tryz.func121 rfl Tryz.results121 (by decide +kernel) rfl (Nat.le_refl _) rfl (by simp [renB, ren1, ren0]) ?_
    simp -implicitDefEqProofs only [Nat.reduceEqDiff, Nat.reduceLeDiff, Nat.reduceAdd, reduceCtorEq, go_sem, ↓reduceIte]
    refine callW_at [0] [0] (c181 .nilp (.inl rfl) l) (by simp) rfl rfl rfl rfl rfl ?_
    simp -implicitDefEqProofs only [bldB, hlen, Nat.reduceEqDiff, Nat.reduceLeDiff, Nat.reduceAdd, reduceCtorEq, go_sem, ↓reduceIte]
    simp [bytesA']
  · refine ret_intro Tryz.func121 rfl Tryz.results121 (by decide +kernel) rfl (Nat.le_refl _) rfl (by simp [renB, ren1, ren0]) ?_
    simp -implicitDefEqProofs only [Nat.reduceEqDiff, Nat.reduceLeDiff, Nat.reduceAdd, reduceCtorEq, go_sem, ↓reduceIte]
    refine callW_at [0] [0] (c181 (.ptr 0 0) (.inr rfl) l) (by simp) rfl rfl rfl rfl rfl ?_
    simp -implicitDefEqProofs only [bldB, hlen, Nat.reduceEqDiff, Nat.reduceLeDiff, Nat.reduceAdd, reduceCtorEq, go_sem, ↓reduceIte]
    simp [bytesA']
/-! ### A quote's parts -/
def outB (out : List Part) : Blk := .cells 30 [.sl .yes ⟨2, 78⟩ (out.map partA)]
theorem c255_nil (a : AV) (ha : a = .nilp ∨ a = .ptr 0 0) (out : List Part) : RR G 255 [.ptr 0 0, .ptr 1 0] [bldB a [], outB out] (.tup []) [bldB a [], outB out] := by
  have hm : ∀ (x : AV), x ∈ out.map partA → True := fun _ _ => trivial
  have hd : decide ((0 : Int) > 0) = false := rfl
  unfold bldB outB
  rcases ha with rfl | rfl
  · refine ret_intro Tryz.func255 rfl Tryz.results255 (by decide +kernel) rfl (Nat.le_refl _) rfl (by simp [renB, ren1, ren0]) ?_
    simp -implicitDefEqProofs only [Nat.reduceEqDiff, Nat.reduceLeDiff, Nat.reduceAdd, reduceCtorEq, go_sem, ↓reduceIte]
    refine callW_at [0] [0] (c256 .nilp (.inl rfl) []) (by simp) rfl rfl rfl rfl rfl ?_
    simp -implicitDefEqProofs only [bldB, Nat.reduceEqDiff, Nat.reduceLeDiff, Nat.reduceAdd, reduceCtorEq, go_sem, ↓reduceIte]
    exact fun h => absurd h (by decide)
  · refine ret_intro Tryz.func255 rfl Tryz.results255 (by decide +kernel) rfl (Nat.le_refl _) rfl (by simp [renB, ren1, ren0]) ?_
    simp -implicitDefEqProofs only [Nat.reduceEqDiff, Nat.reduceLeDiff, Nat.reduceAdd, reduceCtorEq, go_sem, ↓reduceIte]
    refine callW_at [0] [0] (c256 (.ptr 0 0) (.inr rfl) []) (by simp) rfl rfl rfl rfl rfl ?_
    simp -implicitDefEqProofs only [bldB, Nat.reduceEqDiff, Nat.reduceLeDiff, Nat.reduceAdd, reduceCtorEq, go_sem, ↓reduceIte]
    exact fun h => absurd h (by decide)
theorem c255 (a : AV) (ha : a = .nilp ∨ a = .ptr 0 0) (l : Bytes) (hl : l ≠ []) (hlen : l.length ≤ 4294967296) (out : List Part) (ho : out.length + 1 ≤ 4294967296) :
    RR G 255 [.ptr 0 0, .ptr 1 0] [bldB a l, outB out] (.tup []) [bldB .nilp [], outB (out ++ [([], l)])] := by
  have hd : decide ((l.length : Int) > 0) = true := by
    have := List.length_pos_iff.2 hl
    simp; omega
  have hol : (out.length + 1 ≤ lenLim) = True := by simp [lenLim]; omega
  have hmem : (1 ∈ [0]) = False := by simp
  unfold outB
  rcases ha with rfl | rfl
  · unfold bldB
    refine ret_intro Tryz.func255 rfl Tryz.results255 (by decide +kernel) rfl (Nat.le_refl _) rfl (by simp [renB, ren1, ren0]) ?_
    simp -implicitDefEqProofs only [Nat.reduceEqDiff, Nat.reduceLeDiff, Nat.reduceAdd, reduceCtorEq, go_sem, ↓reduceIte]
    refine callW_at [0] [0] (c256 .nilp (.inl rfl) l) (by simp) rfl rfl rfl rfl rfl ?_
    simp -implicitDefEqProofs only [bldB, hd, Nat.reduceEqDiff, Nat.reduceLeDiff, Nat.reduceAdd, reduceCtorEq, go_sem, ↓reduceIte]
    (refine WU_ord (t := .both (lin [0] (.both (lin [1] (.both (lin [2] (.both (lin [3] (.both (lin [4] (.both (lin [5] .nil) (.top))) (.top))) (.top))) (.top))) (.top))) (.both (lin [1] (.both (lin [0] (.both (lin [2] (.both (lin [3] (.both (lin [4] (.both (lin [5] .nil) (.top))) (.top))) (.top))) (.top))) (.both (lin [2] (.both (lin [0] (.both (lin [3] (.both (lin [4] (.both (lin [5] .nil) (.top))) (.top))) (.top))) (.both (lin [3] (.both (lin [0] (.both (lin [4] (.both (lin [5] .nil) (.top))) (.top))) (.top))) (.top)))) (.top)))) (.top))) ?_ ?_; kernel_rfl)
    simp -implicitDefEqProofs only [Nat.reduceEqDiff, Nat.reduceLeDiff, Nat.reduceAdd, reduceCtorEq, go_sem, ↓reduceIte]
    refine ⟨?_, ?_⟩
    · refine callW_at [0] [0] (ret_prim (sound116 .nilp l hl hlen)) (by simp) rfl rfl rfl rfl rfl ?_
      simp -implicitDefEqProofs only [bldB, bldN, List.length_map, hol, hmem, Nat.reduceEqDiff, Nat.reduceLeDiff, Nat.reduceAdd, reduceCtorEq, go_sem, ↓reduceIte]
      refine callW_at [0] [0] (c257 .nilp l (.inl rfl)) (by simp) rfl rfl rfl rfl rfl ?_
      simp -implicitDefEqProofs only [bldB, Nat.reduceEqDiff, Nat.reduceLeDiff, Nat.reduceAdd, reduceCtorEq, go_sem, ↓reduceIte]
      simp [partA, bytesA']
    · refine callW_at [0] [0] (ret_prim (sound116 .nilp l hl hlen)) (by simp) rfl rfl rfl rfl rfl ?_
      simp -implicitDefEqProofs only [bldB, bldN, List.length_map, hol, hmem, Nat.reduceEqDiff, Nat.reduceLeDiff, Nat.reduceAdd, reduceCtorEq, go_sem, ↓reduceIte]
      refine ⟨?_, ?_, ?_⟩
      · refine callW_at [0] [0] (c257 .nilp l (.inl rfl)) (by simp) rfl rfl rfl rfl rfl ?_
        simp -implicitDefEqProofs only [bldB, Nat.reduceEqDiff, Nat.reduceLeDiff, Nat.reduceAdd, reduceCtorEq, go_sem, ↓reduceIte]
        simp [partA, bytesA']
      · refine callW_at [0] [0] (c257 .nilp l (.inl rfl)) (by simp) rfl rfl rfl rfl rfl ?_
        simp -implicitDefEqProofs only [bldB, Nat.reduceEqDiff, Nat.reduceLeDiff, Nat.reduceAdd, reduceCtorEq, go_sem, ↓reduceIte]
        simp [partA, bytesA']
      · refine callW_at [0] [0] (c257 .nilp l (.inl rfl)) (by simp) rfl rfl rfl rfl rfl ?_
        simp -implicitDefEqProofs only [bldB, Nat.reduceEqDiff, Nat.reduceLeDiff, Nat.reduceAdd, reduceCtorEq, go_sem, ↓reduceIte]
        simp [partA, bytesA']
  · unfold bldB
    refine ret_intro Tryz.func255 rfl Tryz.results255 (by decide +kernel) rfl (Nat.le_refl _) rfl (by simp [renB, ren1, ren0]) ?_
    simp -implicitDefEqProofs only [Nat.reduceEqDiff, Nat.reduceLeDiff, Nat.reduceAdd, reduceCtorEq, go_sem, ↓reduceIte]
    refine callW_at [0] [0] (c256 (.ptr 0 0) (.inr rfl) l) (by simp) rfl rfl rfl rfl rfl ?_
    simp -implicitDefEqProofs only [bldB, hd, Nat.reduceEqDiff, Nat.reduceLeDiff, Nat.reduceAdd, reduceCtorEq, go_sem, ↓reduceIte]
    (refine WU_ord (t := .both (lin [0] (.both (lin [1] (.both (lin [2] (.both (lin [3] (.both (lin [4] (.both (lin [5] .nil) (.top))) (.top))) (.top))) (.top))) (.top))) (.both (lin [1] (.both (lin [0] (.both (lin [2] (.both (lin [3] (.both (lin [4] (.both (lin [5] .nil) (.top))) (.top))) (.top))) (.top))) (.both (lin [2] (.both (lin [0] (.both (lin [3] (.both (lin [4] (.both (lin [5] .nil) (.top))) (.top))) (.top))) (.both (lin [3] (.both (lin [0] (.both (lin [4] (.both (lin [5] .nil) (.top))) (.top))) (.top))) (.top)))) (.top)))) (.top))) ?_ ?_; kernel_rfl)
    simp -implicitDefEqProofs only [Nat.reduceEqDiff, Nat.reduceLeDiff, Nat.reduceAdd, reduceCtorEq, go_sem, ↓reduceIte]
    refine ⟨?_, ?_⟩
    · refine callW_at [0] [0] (ret_prim (sound116 (.ptr 0 0) l hl hlen)) (by simp) rfl rfl rfl rfl rfl ?_
      simp -implicitDefEqProofs only [bldB, bldN, List.length_map, hol, hmem, Nat.reduceEqDiff, Nat.reduceLeDiff, Nat.reduceAdd, reduceCtorEq, go_sem, ↓reduceIte]
      refine callW_at [0] [0] (c257 (.ptr 0 0) l (.inr rfl)) (by simp) rfl rfl rfl rfl rfl ?_
      simp -implicitDefEqProofs only [bldB, Nat.reduceEqDiff, Nat.reduceLeDiff, Nat.reduceAdd, reduceCtorEq, go_sem, ↓reduceIte]
      simp [partA, bytesA']
    · refine callW_at [0] [0] (ret_prim (sound116 (.ptr 0 0) l hl hlen)) (by simp) rfl rfl rfl rfl rfl ?_
      simp -implicitDefEqProofs only [bldB, bldN, List.length_map, hol, hmem, Nat.reduceEqDiff, Nat.reduceLeDiff, Nat.reduceAdd, reduceCtorEq, go_sem, ↓reduceIte]
      refine ⟨?_, ?_, ?_⟩
      · refine callW_at [0] [0] (c257 (.ptr 0 0) l (.inr rfl)) (by simp) rfl rfl rfl rfl rfl ?_
        simp -implicitDefEqProofs only [bldB, Nat.reduceEqDiff, Nat.reduceLeDiff, Nat.reduceAdd, reduceCtorEq, go_sem, ↓reduceIte]
        simp [partA, bytesA']
      · refine callW_at [0] [0] (c257 (.ptr 0 0) l (.inr rfl)) (by simp) rfl rfl rfl rfl rfl ?_
        simp -implicitDefEqProofs only [bldB, Nat.reduceEqDiff, Nat.reduceLeDiff, Nat.reduceAdd, reduceCtorEq, go_sem, ↓reduceIte]
        simp [partA, bytesA']
      · refine callW_at [0] [0] (c257 (.ptr 0 0) l (.inr rfl)) (by simp) rfl rfl rfl rfl rfl ?_
        simp -implicitDefEqProofs only [bldB, Nat.reduceEqDiff, Nat.reduceLeDiff, Nat.reduceAdd, reduceCtorEq, go_sem, ↓reduceIte]
        simp [partA, bytesA']
end Go.Pv
/- The law of a quote, parsed. -/
namespace Go.Pv
open Go Go.Proofs
set_option maxRecDepth 4000
variable {G : Frz}
structure QS where
  at' : Nat
  bad : Bool
  out : List Part
  a : AV
  text : Bytes
def QS.blks (s : Bytes) (q : QS) : List Blk := [readerB s q.at' q.bad, outB q.out, bldB q.a q.text, .cells 5 [byte 34]]
def qVars : List (Nat × AV) := [(5, .ptr 0 0), (6, .ptr 1 0), (7, .ptr 2 0), (8, .fn 255 [] [.ptr 2 0, .ptr 1 0])]
structure QInv (s : Bytes) (F : List Part × Nat × Bool) (q : QS) : Prop where
  a : q.a = .nilp ∨ q.a = .ptr 2 0
  at' : q.at' ≤ s.length
  out : q.out.length ≤ 2 * q.at'
  text : q.text.length ≤ q.at'
  go : q.bad = false → qRun (s.drop q.at') q.out q.text q.at' = F
  stop : q.bad = true → F = ([], q.at', false)
theorem callW_wb {R O X : Blk} {a : AV} (ha : a = .nilp ∨ a = .ptr 2 0) {text : Bytes} {c : UInt8} (hl : text.length + 1 ≤ 4294967296) {e : Env} {al : Nat → Option Src} {dst : Option Nat} {K : St → Prop}
    (hk : ∀ al', K (St.put ⟨e, al', [R, O, bldB (.ptr 2 0) (text ++ [c]), X]⟩ dst .nili none)) : callW (RR G) 121 [.ptr 2 0, byte c] ⟨e, al, [R, O, bldB a text, X]⟩ dst K := by
  rcases ha with rfl | rfl
  · exact callW_at [2] [2] (c121 .nilp (.inl rfl) text c hl) (by simp) rfl rfl rfl rfl rfl (hk _)
  · exact callW_at [2] [2] (c121 (.ptr 0 0) (.inr rfl) text c hl) (by simp) rfl rfl rfl rfl rfl (hk _)
theorem renB_out (ks : List Nat) (out : List Part) : renB ks (outB out) = outB out := rfl
theorem callW_fl {R X : Blk} {a : AV} (ha : a = .nilp ∨ a = .ptr 2 0) {text : Bytes} {out : List Part} (hl : text.length ≤ 4294967296) (ho : out.length + 1 ≤ 4294967296) {e : Env} {al : Nat → Option Src} {dst : Option Nat} {K : St → Prop}
    (hk : ∀ al' a', (a' = .nilp ∨ a' = .ptr 2 0) → K (St.put ⟨e, al', [R, outB (flushT out text), bldB a' [], X]⟩ dst (.tup []) none)) : callW (RR G) 255 [.ptr 2 0, .ptr 1 0] ⟨e, al, [R, outB out, bldB a text, X]⟩ dst K := by
  unfold flushT at hk
  by_cases ht : text = []
  · subst ht
    rcases ha with rfl | rfl
    · exact callW_at [2, 1] [2, 1] (c255_nil .nilp (.inl rfl) out) (by simp) rfl rfl rfl rfl rfl (hk _ .nilp (.inl rfl))
    · exact callW_at [2, 1] [2, 1] (c255_nil (.ptr 0 0) (.inr rfl) out) (by simp) rfl rfl rfl rfl rfl (hk _ (.ptr 2 0) (.inr rfl))
  · rw [if_neg ht] at hk
    rcases ha with rfl | rfl
    · exact callW_at [2, 1] [2, 1] (c255 .nilp (.inl rfl) text ht hl out ho) (by simp) rfl rfl rfl rfl rfl (hk _ .nilp (.inl rfl))
    · exact callW_at [2, 1] [2, 1] (c255 (.ptr 0 0) (.inr rfl) text ht hl out ho) (by simp) rfl rfl rfl rfl rfl (hk _ .nilp (.inl rfl))
theorem c195 (s : Bytes) (hs : s.length ≤ 2147483000) (F : List Part × Nat × Bool) (hF : qParse s = F) : RR G 195 [.str s] [] (.tup [partsA F.1, i64 F.2.1, i64 (if F.2.2 then 0 else 1)]) [] := by
  have hs2 : s.length ≤ 4611686018427387904 := by omega
  refine ret_intro Tryz.func195 rfl Tryz.results195 (by decide +kernel) rfl (Nat.le_refl _) rfl (by simp) ?_
  refine wp_mid [(0, .str s)] [] ?_ fun env ⟨h0, _⟩ => ?_
  · simp -implicitDefEqProofs only [Nat.reduceEqDiff, Nat.reduceLeDiff, Nat.reduceAdd, reduceCtorEq, go_sem, ↓reduceIte]
  refine wp_mid [(5, .ptr 0 0)] [readerB s 0 false] ?_ fun env ⟨h5, _⟩ => ?_
  · simp -implicitDefEqProofs only [h0, readerB, Nat.reduceEqDiff, Nat.reduceLeDiff, Nat.reduceAdd, reduceCtorEq, go_sem, ↓reduceIte]
    rfl
  refine wp_mid [(5, .ptr 0 0), (6, .ptr 1 0)] [readerB s 0 false, outB []] ?_ fun env ⟨h5, h6, _⟩ => ?_
  · simp -implicitDefEqProofs only [h5, readerB, outB, Nat.reduceEqDiff, Nat.reduceLeDiff, Nat.reduceAdd, reduceCtorEq, go_sem, ↓reduceIte]
  refine wp_mid [(5, .ptr 0 0), (6, .ptr 1 0), (7, .ptr 2 0)] [readerB s 0 false, outB [], bldB .nilp []] ?_ fun env ⟨h5, h6, h7, _⟩ => ?_
  · simp -implicitDefEqProofs only [h5, h6, readerB, outB, bldB, Nat.reduceEqDiff, Nat.reduceLeDiff, Nat.reduceAdd, reduceCtorEq, go_sem, ↓reduceIte]
    rfl
  refine wp_mid qVars [readerB s 0 false, outB [], bldB .nilp []] ?_ fun env ⟨h5, h6, h7, h8, _⟩ => ?_
  · simp -implicitDefEqProofs only [h5, h6, h7, readerB, outB, bldB, qVars, Nat.reduceEqDiff, Nat.reduceLeDiff, Nat.reduceAdd, reduceCtorEq, go_sem, ↓reduceIte]
  refine wp_mid qVars [readerB s (nxAt s 0 false (isB 34)) (!nxOk s 0 false (isB 34)), outB [], bldB .nilp [], .cells 5 [byte 34]] ?_ fun env ⟨h5, h6, h7, h8, _⟩ => ?_
  · simp -implicitDefEqProofs only [h5, h6, h7, h8, readerB, outB, bldB, Nat.reduceEqDiff, Nat.reduceLeDiff, Nat.reduceAdd, reduceCtorEq, go_sem, ↓reduceIte]
    refine callW_new [3] (c259 34) rfl rfl ?_
    simp -implicitDefEqProofs only [h5, h6, h7, h8, Nat.reduceEqDiff, Nat.reduceLeDiff, Nat.reduceAdd, reduceCtorEq, go_sem, ↓reduceIte]
    refine callW_at [0, 3] [0, 3] (c258b 299 34 (isB 34) (fun c => c299 c 34) s 0 false (Nat.zero_le _) hs2) (by simp) rfl rfl rfl rfl rfl ?_
    simp -implicitDefEqProofs only [readerB, h5, h6, h7, h8, qVars, Nat.reduceEqDiff, Nat.reduceLeDiff, Nat.reduceAdd, reduceCtorEq, go_sem, ↓reduceIte]
  have hstart : QInv s F ⟨nxAt s 0 false (isB 34), !nxOk s 0 false (isB 34), [], .nilp, []⟩ := by
    cases hsl : s with
    | nil =>
      have h1 : nxOk ([] : Bytes) 0 false (isB 34) = false := rfl
      obtain ⟨e1, e2⟩ := nx_no [] 0 false (isB 34) h1
      refine ⟨.inl rfl, by simp only [e1]; simp, by simp, by simp, fun h => ?_, fun _ => ?_⟩
      · simp only [h1] at h; cases h
      · rw [← hF, hsl]; simp only [e1]; rfl
    | cons c r =>
      by_cases hc : c = 34
      · obtain ⟨e1, e2, e3⟩ := nx_yes (c :: r) 0 (isB 34) c r rfl (by simp [isB, hc])
        refine ⟨.inl rfl, by simp only [e2]; simp, by simp, by simp, fun h => ?_, fun h => ?_⟩
        · rw [← hF, hsl]; simp only [e2]; simp [qParse, hc]
        · simp only [e1] at h; cases h
      · have h1 : nxOk (c :: r) 0 false (isB 34) = false := by rw [nxOk_drop]; simp [isB, hc]
        obtain ⟨e1, e2⟩ := nx_no (c :: r) 0 false (isB 34) h1
        refine ⟨.inl rfl, by simp only [e1]; simp, by simp, by simp, fun h => ?_, fun _ => ?_⟩
        · simp only [h1] at h; cases h
        · rw [← hF, hsl]; simp only [e1]; simp [qParse, hc]
  refine wp_ghost (A := QS) (fun q => F = ([], q.at', false)) (fun q => q.blks s) (fun _ => [(5, .ptr 0 0)]) ?_ fun q hq env ⟨h5, _⟩ => ?_
  · rw [wp_block_eq]
    refine wp_loop_use (A := QS) (fun _ => qVars) (fun q => q.blks s) (QInv s F) (fun q => 2 * (s.length - q.at') + (if q.bad then 0 else 1)) _ hstart rfl ⟨h5, h6, h7, h8, trivial⟩ ?_
    intro q hq
    obtain ⟨at', bad, out, a, text⟩ := q
    obtain ⟨ha, hat, hout, htext, hgo, hstop⟩ := hq
    simp only at ha hat hout htext hgo hstop
    cases bad with
    | true =>
      have hF2 := hstop rfl
      unfold QS.blks readerB outB bldB qVars
      simp -implicitDefEqProofs only [Nat.reduceEqDiff, Nat.reduceLeDiff, Nat.reduceAdd, reduceCtorEq, go_sem, ↓reduceIte]
      exact ⟨⟨at', true, out, a, text⟩, hF2, rfl⟩
    | false =>
      have hF2 := hgo rfl
      refine wp_mid qVars (QS.blks s ⟨at', false, out, a, text⟩) ?_ fun env ⟨h5, h6, h7, h8, _⟩ => ?_
      · unfold QS.blks readerB outB bldB qVars
        simp -implicitDefEqProofs only [Nat.reduceEqDiff, Nat.reduceLeDiff, Nat.reduceAdd, reduceCtorEq, go_sem, ↓reduceIte]
        trace_state
      rw [wp_block_eq]
      cases hd : s.drop at' with
      | nil =>
        have n1 : nxOk s at' false printable = false := by rw [nxOk_drop, hd] <;> rfl
        obtain ⟨n2, n3⟩ := nx_no s at' false printable n1
        refine wp_mid [(5, .ptr 0 0), (6, .ptr 1 0), (7, .ptr 2 0), (8, .fn 255 [] [.ptr 2 0, .ptr 1 0]), (9, byte 0)] (QS.blks s ⟨at', true, out, a, text⟩) ?_ fun env ⟨h5, h6, h7, h8, h9, _⟩ => ?_
        · unfold QS.blks readerB outB bldB qVars
          simp -implicitDefEqProofs only [h5, h6, h7, h8, Nat.reduceEqDiff, Nat.reduceLeDiff, Nat.reduceAdd, reduceCtorEq, go_sem, ↓reduceIte]
          refine callW_at [0] [0] (c258a 260 printable c260 s at' false hat hs2) (by simp) rfl rfl rfl rfl rfl ?_
          rw [n1, n2, n3]
          simp -implicitDefEqProofs only [readerB, h5, h6, h7, h8, Nat.reduceEqDiff, Nat.reduceLeDiff, Nat.reduceAdd, reduceCtorEq, go_sem, ↓reduceIte]
        unfold QS.blks readerB outB bldB qVars
        simp -implicitDefEqProofs only [h5, h6, h7, h8, h9, Nat.reduceEqDiff, Nat.reduceLeDiff, Nat.reduceAdd, reduceCtorEq, go_sem, ↓reduceIte]
        refine ⟨⟨at', true, out, a, text⟩, ⟨⟨ha, hat, hout, htext, fun h => (by cases h), fun _ => ?_⟩, by simp⟩, rfl⟩
        rw [← hF2, hd, qRun_nil]
      | cons c r =>
        obtain ⟨g1, g2, hr⟩ := getD_drop s at' c r hd
        by_cases hp : printable c = true
        · obtain ⟨n1, n2, n3⟩ := nx_yes s at' printable c r hd hp
          refine wp_mid [(5, .ptr 0 0), (6, .ptr 1 0), (7, .ptr 2 0), (8, .fn 255 [] [.ptr 2 0, .ptr 1 0]), (9, byte c)] (QS.blks s ⟨at' + 1, false, out, a, text⟩) ?_ fun env ⟨h5, h6, h7, h8, h9, _⟩ => ?_
          · unfold QS.blks readerB outB bldB qVars
            simp -implicitDefEqProofs only [h5, h6, h7, h8, Nat.reduceEqDiff, Nat.reduceLeDiff, Nat.reduceAdd, reduceCtorEq, go_sem, ↓reduceIte]
            refine callW_at [0] [0] (c258a 260 printable c260 s at' false hat hs2) (by simp) rfl rfl rfl rfl rfl ?_
            rw [n1, n2, n3]
            simp -implicitDefEqProofs only [readerB, h5, h6, h7, h8, Nat.reduceEqDiff, Nat.reduceLeDiff, Nat.reduceAdd, reduceCtorEq, go_sem, ↓reduceIte]
          rw [hd, qRun_cons] at hF2
          have hfl : (flushT out text).length ≤ out.length + 1 := by unfold flushT; split <;> simp
          by_cases h34 : c = 34
          · subst h34
            rw [if_pos rfl] at hF2
            have e34 : (((34 : UInt8).toNat : Int) == 34) = true := rfl
            unfold QS.blks readerB outB bldB
            simp -implicitDefEqProofs only [h5, h6, h7, h8, h9, e34, Nat.reduceEqDiff, Nat.reduceLeDiff, Nat.reduceAdd, reduceCtorEq, go_sem, ↓reduceIte]
            refine callW_fl ha (by omega) (by omega) ?_
            intro al' a' ha'
            simp -implicitDefEqProofs only [readerB, outB, bldB, h5, h6, h7, h8, h9, Nat.reduceEqDiff, Nat.reduceLeDiff, Nat.reduceAdd, reduceCtorEq, go_sem, ↓reduceIte]
            (refine WT_ord (t := lin [0, 1, 2, 3] (.both (lin [4, 5, 6, 7] .nil) (.both (lin [5, 4, 6, 7] .nil) (.top)))) ?_ ?_; kernel_rfl)
            simp -implicitDefEqProofs only [h5, h6, h7, h8, h9, Nat.reduceEqDiff, Nat.reduceLeDiff, Nat.reduceAdd, reduceCtorEq, go_sem, ↓reduceIte]
            rw [← hF2]
            rfl
          · rw [if_neg h34] at hF2
            have e34 : ((c.toNat : Int) == 34) = false := byte_ne c 34 h34
            by_cases h36 : c = 36
            · subst h36
              rw [if_pos rfl] at hF2
              have e36 : (((36 : UInt8).toNat : Int) == 36) = true := rfl
              obtain ⟨nm, hlaw, hnm⟩ := c261 (G := G) s (at' + 1) (by omega) hs2
              rw [hr] at hlaw hnm
              unfold QS.blks readerB outB bldB
              simp -implicitDefEqProofs only [h5, h6, h7, h8, h9, e34, e36, Nat.reduceEqDiff, Nat.reduceLeDiff, Nat.reduceAdd, reduceCtorEq, go_sem, ↓reduceIte]
              refine callW_fl ha (by omega) (by omega) ?_
              intro al' a' ha'
              have hol : ((flushT out text).length + 1 ≤ lenLim) = True := by simp [lenLim]; omega
              have hmem : (1 ∈ [0]) = False := by simp
              have hleaf : QInv s F ⟨at' + 1 + varN r, varBad r, flushT out text ++ [(nm, [])], a', []⟩ ∧ 2 * (s.length - (at' + 1 + varN r)) + (if varBad r then 0 else 1) < 2 * (s.length - at') + (if false then 0 else 1) := by
                have hrl : r.length = s.length - (at' + 1) := by rw [← hr]; simp
                unfold varN varBad
                cases hv : varR r with
                | ok z =>
                  obtain ⟨nm', k⟩ := z
                  have hk := varR_ok hv
                  rw [hv] at hF2
                  have := hnm nm' k hv
                  subst this
                  refine ⟨⟨ha', by simp only; omega, by simp; omega, by simp, fun _ => ?_, fun h => (by cases h)⟩, by simp; omega⟩
                  simp only
                  rw [← List.drop_drop, hr]
                  exact hF2
                | error k =>
                  have hk := varR_err hv
                  rw [hv] at hF2
                  exact ⟨⟨ha', by simp only; omega, by simp; omega, by simp, fun h => (by cases h), fun _ => hF2.symm⟩, by simp; omega⟩
              simp -implicitDefEqProofs only [readerB, outB, bldB, h5, h6, h7, h8, h9, Nat.reduceEqDiff, Nat.reduceLeDiff, Nat.reduceAdd, reduceCtorEq, go_sem, ↓reduceIte]
              (refine WU_ord (t := .both (lin [0] (.both (lin [1] (.both (lin [2] (.both (lin [3] (.both (lin [4] (.both (lin [5] (.both (lin [6] .nil) (.top))) (.top))) (.top))) (.top))) (.top))) (.top))) (.both (lin [1] (.both (lin [0] (.both (lin [2] (.both (lin [3] (.both (lin [4] (.both (lin [5] (.both (lin [6] .nil) (.top))) (.top))) (.top))) (.top))) (.top))) (.both (lin [2] (.both (lin [0] (.both (lin [3] (.both (lin [4] (.both (lin [5] (.both (lin [6] .nil) (.top))) (.top))) (.top))) (.top))) (.both (lin [3] (.both (lin [0] (.both (lin [4] (.both (lin [5] (.both (lin [6] .nil) (.top))) (.top))) (.top))) (.both (lin [4] (.both (lin [0] (.both (lin [5] (.both (lin [6] .nil) (.top))) (.top))) (.top))) (.top)))) (.top)))) (.top)))) (.top))) ?_ ?_; kernel_rfl)
              simp -implicitDefEqProofs only [h5, h6, h7, h8, h9, Nat.reduceEqDiff, Nat.reduceLeDiff, Nat.reduceAdd, reduceCtorEq, go_sem, ↓reduceIte]
              refine ⟨?_, ?_, ?_⟩
              · refine callW_at [0] [0] hlaw (by simp) rfl rfl rfl rfl rfl ?_
                simp -implicitDefEqProofs only [readerB, h5, h6, h7, h8, h9, hol, hmem, qVars, Nat.reduceEqDiff, Nat.reduceLeDiff, Nat.reduceAdd, reduceCtorEq, go_sem, ↓reduceIte]
                exact ⟨_, hleaf, by simp [QS.blks, readerB, outB, bldB, bytesA', partA]⟩
              · refine callW_at [0] [0] hlaw (by simp) rfl rfl rfl rfl rfl ?_
                simp -implicitDefEqProofs only [readerB, h5, h6, h7, h8, h9, hol, hmem, qVars, Nat.reduceEqDiff, Nat.reduceLeDiff, Nat.reduceAdd, reduceCtorEq, go_sem, ↓reduceIte]
                exact ⟨_, hleaf, by simp [QS.blks, readerB, outB, bldB, bytesA', partA]⟩
              · refine callW_at [0] [0] hlaw (by simp) rfl rfl rfl rfl rfl ?_
                simp -implicitDefEqProofs only [readerB, h5, h6, h7, h8, h9, hol, hmem, qVars, Nat.reduceEqDiff, Nat.reduceLeDiff, Nat.reduceAdd, reduceCtorEq, go_sem, ↓reduceIte]
                repeat' (refine And.intro ?_ ?_)
                all_goals exact ⟨_, hleaf, by simp [QS.blks, readerB, outB, bldB, bytesA', partA]⟩
            · rw [if_neg h36] at hF2
              have e36 : ((c.toNat : Int) == 36) = false := byte_ne c 36 h36
              by_cases h92 : c = 92
              · subst h92
                rw [if_pos rfl] at hF2
                have e92 : (((92 : UInt8).toNat : Int) == 92) = true := rfl
                obtain ⟨b, hlaw, hb⟩ := c262 (G := G) s (at' + 1) (by omega) hs2
                rw [hr] at hlaw hb
                unfold QS.blks readerB outB bldB
                simp -implicitDefEqProofs only [h5, h6, h7, h8, h9, e34, e36, e92, Nat.reduceEqDiff, Nat.reduceLeDiff, Nat.reduceAdd, reduceCtorEq, go_sem, ↓reduceIte]
                refine callW_at [0] [0] hlaw (by simp) rfl rfl rfl rfl rfl ?_
                simp -implicitDefEqProofs only [readerB, h5, h6, h7, h8, h9, Nat.reduceEqDiff, Nat.reduceLeDiff, Nat.reduceAdd, reduceCtorEq, go_sem, ↓reduceIte]
                refine callW_wb ha (by omega) ?_
                intro al'
                simp -implicitDefEqProofs only [readerB, outB, bldB, qVars, h5, h6, h7, h8, h9, Nat.reduceEqDiff, Nat.reduceLeDiff, Nat.reduceAdd, reduceCtorEq, go_sem, ↓reduceIte]
                refine ⟨⟨at' + 1 + escN r, escBad r, out, .ptr 2 0, text ++ [b]⟩, ⟨⟨.inr rfl, ?_, ?_, ?_, ?_, ?_⟩, ?_⟩, rfl⟩
                all_goals
                  have hrl : r.length = s.length - (at' + 1) := by rw [← hr]; simp
                  unfold escN escBad
                  cases hv : escR r with
                  | ok z =>
                    obtain ⟨b', k⟩ := z
                    have hk := escR_ok hv
                    rw [hv] at hF2
                    have := hb b' k hv
                    subst this
                    (try simp only [List.length_append, List.length_cons, List.length_nil, reduceCtorEq, false_implies]) <;> first
                      | omega
                      | trivial
                      | (intro _; rw [← List.drop_drop, hr]; exact hF2)
                      | (simp; omega)
                  | error k =>
                    have hk := escR_err hv
                    rw [hv] at hF2
                    (try simp only [List.length_append, List.length_cons, List.length_nil, reduceCtorEq, false_implies]) <;> first
                      | omega
                      | trivial
                      | exact fun _ => hF2.symm
                      | (simp; omega)
              · rw [if_neg h92, if_pos (by simpa [printable] using hp)] at hF2
                have e92 : ((c.toNat : Int) == 92) = false := byte_ne c 92 h92
                unfold QS.blks readerB outB bldB
                simp -implicitDefEqProofs only [h5, h6, h7, h8, h9, e34, e36, e92, Nat.reduceEqDiff, Nat.reduceLeDiff, Nat.reduceAdd, reduceCtorEq, go_sem, ↓reduceIte]
                refine callW_wb ha (by omega) ?_
                intro al'
                simp -implicitDefEqProofs only [readerB, outB, bldB, qVars, h5, h6, h7, h8, h9, Nat.reduceEqDiff, Nat.reduceLeDiff, Nat.reduceAdd, reduceCtorEq, go_sem, ↓reduceIte]
                refine ⟨⟨at' + 1, false, out, .ptr 2 0, text ++ [c]⟩, ⟨⟨.inr rfl, by simp only; omega, by simp only; omega, by simp; omega, fun _ => ?_, fun h => (by cases h)⟩, by simp; omega⟩, rfl⟩
                simp only
                rw [hr]
                exact hF2
        · have hpf : printable c = false := by simpa using hp
          have n1 : nxOk s at' false printable = false := by rw [nxOk_drop, hd]; simpa using hpf
          obtain ⟨n2, n3⟩ := nx_no s at' false printable n1
          refine wp_mid [(5, .ptr 0 0), (6, .ptr 1 0), (7, .ptr 2 0), (8, .fn 255 [] [.ptr 2 0, .ptr 1 0]), (9, byte 0)] (QS.blks s ⟨at', true, out, a, text⟩) ?_ fun env ⟨h5, h6, h7, h8, h9, _⟩ => ?_
          · unfold QS.blks readerB outB bldB qVars
            simp -implicitDefEqProofs only [h5, h6, h7, h8, Nat.reduceEqDiff, Nat.reduceLeDiff, Nat.reduceAdd, reduceCtorEq, go_sem, ↓reduceIte]
            refine callW_at [0] [0] (c258a 260 printable c260 s at' false hat hs2) (by simp) rfl rfl rfl rfl rfl ?_
            rw [n1, n2, n3]
            simp -implicitDefEqProofs only [readerB, h5, h6, h7, h8, Nat.reduceEqDiff, Nat.reduceLeDiff, Nat.reduceAdd, reduceCtorEq, go_sem, ↓reduceIte]
          unfold QS.blks readerB outB bldB qVars
          simp -implicitDefEqProofs only [h5, h6, h7, h8, h9, Nat.reduceEqDiff, Nat.reduceLeDiff, Nat.reduceAdd, reduceCtorEq, go_sem, ↓reduceIte]
          refine ⟨⟨at', true, out, a, text⟩, ⟨⟨ha, hat, hout, htext, fun h => (by cases h), fun _ => ?_⟩, by simp⟩, rfl⟩
          have hpl : ¬ (32 ≤ c.toNat ∧ c.toNat ≤ 126) := by simpa [printable] using hp
          have k1 : c ≠ 34 := fun e => hpl (by rw [e]; decide)
          have k2 : c ≠ 36 := fun e => hpl (by rw [e]; decide)
          have k3 : c ≠ 92 := fun e => hpl (by rw [e]; decide)
          rw [← hF2, hd, qRun_cons, if_neg k1, if_neg k2, if_neg k3, if_neg hpl]

  rw [hq]
  unfold QS.blks readerB outB bldB
  simp -implicitDefEqProofs only [h5, Nat.reduceEqDiff, Nat.reduceLeDiff, Nat.reduceAdd, reduceCtorEq, go_sem, ↓reduceIte]
  (refine WT_ord (t := lin [0, 1, 2] (.both (lin [3, 4, 5, 6] .nil) (.both (lin [4, 3, 5, 6] .nil) (.top)))) ?_ ?_; kernel_rfl)
  simp -implicitDefEqProofs only [h5, Nat.reduceEqDiff, Nat.reduceLeDiff, Nat.reduceAdd, reduceCtorEq, go_sem, ↓reduceIte]
  rfl
end Go.Pv
/- Laws of the scanner: a text, the next token, all tokens. -/
namespace Go.Pv
open Go Go.Proofs
set_option maxRecDepth 4000
variable {G : Frz}
theorem c131 (s : Bytes) (at' : Nat) (h : at' ≤ s.length) (hs : s.length ≤ 2147483000) (F : List Part × Nat × Bool) (hF : qParse (s.drop at') = F) :
    RR G 131 [.ptr 0 0] [scanB s at'] (.tup [tokA ⟨3, [], 0, F.1, 0⟩, i64 (if F.2.2 then 0 else 1)]) [scanB s (at' + F.2.1)] := by
  have t1 : ((at' : Nat) : Int).toNat = at' := Int.toNat_natCast _
  have hle := qParse_le (s.drop at')
  rw [hF, List.length_drop] at hle
  have hw := wrap_nat at' F.2.1 (by omega)
  unfold scanB
  refine ret_intro Tryz.func131 rfl Tryz.results131 (by decide +kernel) rfl (Nat.le_refl _) rfl (by simp [renB, ren1, ren0]) ?_
  simp -implicitDefEqProofs only [Nat.reduceEqDiff, Nat.reduceLeDiff, Nat.reduceAdd, reduceCtorEq, go_sem, ↓reduceIte]
  (refine WT_ord (t := lin [0, 1, 2, 3, 4, 5, 6, 7, 8, 9, 10, 11, 12, 13, 14, 15, 16] .nil) ?_ ?_; kernel_rfl)
  simp -implicitDefEqProofs only [t1, Nat.reduceEqDiff, Nat.reduceLeDiff, Nat.reduceAdd, reduceCtorEq, go_sem, ↓reduceIte]
  refine ⟨by omega, by omega, ?_⟩
  rw [List.take_length]
  refine callW_pure (c195 (s.drop at') (by simp; omega) F hF) rfl rfl ?_
  simp -implicitDefEqProofs only [partsA, hw, Nat.reduceEqDiff, Nat.reduceLeDiff, Nat.reduceAdd, reduceCtorEq, go_sem, ↓reduceIte]
  rfl
/-- A token's error, as a number. -/
def errA (e : Nat) : AV := i64 e
theorem isAt (s of : Bytes) (at' k : Nat) (c : UInt8) (r : Bytes) (h : s.drop (at' + k) = c :: r) : ((s.drop (at' + k)).head?.any fun c => decide (0 ≤ idxB of c)) = inSet of c := by
  rw [h]
  simp only [List.head?_cons, Option.any_some]
  rw [idxB_ge] <;> rfl
theorem inSet_letter : inSet [97, 98, 99, 100, 101, 102, 103, 104, 105, 106, 107, 108, 109, 110, 111, 112, 113, 114, 115, 116, 117, 118, 119, 120, 121, 122] = letter := by
  funext c
  have h : ∀ n : Fin 256, inSet [97, 98, 99, 100, 101, 102, 103, 104, 105, 106, 107, 108, 109, 110, 111, 112, 113, 114, 115, 116, 117, 118, 119, 120, 121, 122] (UInt8.ofNat n.val) = letter (UInt8.ofNat n.val) := by decide +kernel
  have := h ⟨c.toNat, UInt8.toNat_lt c⟩
  simpa using this
theorem inSet_digit : inSet [48, 49, 50, 51, 52, 53, 54, 55, 56, 57] = digit := by
  funext c
  have h : ∀ n : Fin 256, inSet [48, 49, 50, 51, 52, 53, 54, 55, 56, 57] (UInt8.ofNat n.val) = digit (UInt8.ofNat n.val) := by decide +kernel
  have := h ⟨c.toNat, UInt8.toNat_lt c⟩
  simpa using this
theorem inSet_within : inSet [97, 98, 99, 100, 101, 102, 103, 104, 105, 106, 107, 108, 109, 110, 111, 112, 113, 114, 115, 116, 117, 118, 119, 120, 121, 122, 48, 49, 50, 51, 52, 53, 54, 55, 56, 57, 95] = within := by
  funext c
  have h : ∀ n : Fin 256, inSet [97, 98, 99, 100, 101, 102, 103, 104, 105, 106, 107, 108, 109, 110, 111, 112, 113, 114, 115, 116, 117, 118, 119, 120, 121, 122, 48, 49, 50, 51, 52, 53, 54, 55, 56, 57, 95] (UInt8.ofNat n.val) = within (UInt8.ofNat n.val) := by decide +kernel
  have := h ⟨c.toNat, UInt8.toNat_lt c⟩
  simpa using this
theorem nameP_Q (w : Bytes) : nameQ w = nameP w := by
  unfold nameQ nameP
  match w with
  | [] => rfl
  | [c] => simp
  | c :: d :: w =>
    simp only [List.length_cons, List.getD_cons_zero]
    by_cases h : w.length + 1 + 1 > 8
    · rw [if_pos (.inr h)]
      have : decide (w.length + 1 + 1 ≤ 8) = false := by simp; omega
      rw [this, Bool.and_false]
    · rw [if_neg (by simp; omega), if_neg (by omega)]
      have : decide (w.length + 1 + 1 ≤ 8) = true := by simp; omega
      rw [this, Bool.and_true]
/-- A new token's block. -/
def zB : Blk := .cells 32 [i64 0, .str [], i64 0, .sl .yes ⟨2, 78⟩ [], i64 0]
def tB (k : Nat) (w : Bytes) (n : Nat) (a : Nat) : Blk := .cells 32 [i64 k, .str w, i64 n, .sl .yes ⟨2, 78⟩ [], i64 a]
theorem c58_word (s : Bytes) (at' : Nat) (hs : s.length ≤ 2147483000) (c : UInt8) (r : Bytes) (hd : s.drop at' = c :: r) (el : letter c = true) (eq : c ≠ 34) (w : Bytes) (hw : (c :: r).takeWhile within = w) (e : Nat) (he : (if decide ((w.length : Int) ≤ 14) = true then (0 : Int) else 1) = e) (n : Nat) (hn : n = if e = 0 then at' + w.length else at') :
    RR G 58 [.ptr 0 0] [scanB s at'] (.tup [tokA ⟨1, w, 0, [], at'⟩, i64 e]) [scanB s n] := by
  have hat : at' ≤ s.length := by
    have := (getD_drop s at' c r hd).1
    omega
  have hlt := (getD_drop s at' c r hd).1
  have hr := (getD_drop s at' c r hd).2.2
  have hlen : (c :: r).length = s.length - at' := by rw [← hd]; simp
  have hrl : r.length = s.length - (at' + 1) := by rw [← hr]; simp
  have hs2 : s.length ≤ 4611686018427387904 := by omega
  have hd0 : s.drop (at' + 0) = c :: r := hd
  have q (of : Bytes) : ((s.drop (at' + 0)).head?.any fun c => decide (0 ≤ idxB of c)) = inSet of c := isAt s of at' 0 c r hd0
  have hwl : w.length ≤ (c :: r).length := by rw [← hw]; exact tw_le _ _
  have hrun := c129 (G := G) s [97, 98, 99, 100, 101, 102, 103, 104, 105, 106, 107, 108, 109, 110, 111, 112, 113, 114, 115, 116, 117, 118, 119, 120, 121, 122, 48, 49, 50, 51, 52, 53, 54, 55, 56, 57, 95] at' hat hs2 (by decide)
  rw [inSet_within, hd, hw] at hrun
  have fq : ((s.drop (at' + 0)).head?.any fun c => decide (0 ≤ idxB [34] c)) = false := by rw [q]; simp [inSet, eq]
  have fl : ((s.drop (at' + 0)).head?.any fun c => decide (0 ≤ idxB [97, 98, 99, 100, 101, 102, 103, 104, 105, 106, 107, 108, 109, 110, 111, 112, 113, 114, 115, 116, 117, 118, 119, 120, 121, 122] c)) = true := by rw [q]; rw [inSet_letter]; exact el
  unfold scanB
  refine ret_intro Tryz.func58 rfl Tryz.results58 (by decide +kernel) rfl (Nat.le_refl _) rfl (by simp [renB, ren1, ren0]) ?_
  refine wp_mid [(0, .ptr 0 0), (2, .ptr 1 0), (3, i64 0)] [scanB s at', zB] ?_ fun env ⟨h0, h2, h3, _⟩ => ?_
  · simp -implicitDefEqProofs only [scanB, zB, Nat.reduceEqDiff, Nat.reduceLeDiff, Nat.reduceAdd, reduceCtorEq, go_sem, ↓reduceIte]
  refine wp_mid [(0, .ptr 0 0), (2, .ptr 1 0), (4, i64 at')] [scanB s at', zB] ?_ fun env ⟨h0, h2, h4, _⟩ => ?_
  · simp -implicitDefEqProofs only [h0, h2, h3, scanB, zB, Nat.reduceEqDiff, Nat.reduceLeDiff, Nat.reduceAdd, reduceCtorEq, go_sem, ↓reduceIte]
  refine wp_mid [(0, .ptr 0 0), (2, .ptr 1 0), (4, i64 at'), (5, .ptr 2 0)] [scanB s at', zB, zB] ?_ fun env ⟨h0, h2, h4, h5, _⟩ => ?_
  · simp -implicitDefEqProofs only [h0, h2, h4, scanB, zB, Nat.reduceEqDiff, Nat.reduceLeDiff, Nat.reduceAdd, reduceCtorEq, go_sem, ↓reduceIte]
  refine wp_mid [(0, .ptr 0 0), (2, .ptr 1 0), (4, i64 at'), (5, .ptr 2 0), (6, i64 0)] [scanB s at', zB, zB] ?_ fun env ⟨h0, h2, h4, h5, h6, _⟩ => ?_
  · simp -implicitDefEqProofs only [h0, h2, h4, h5, scanB, zB, Nat.reduceEqDiff, Nat.reduceLeDiff, Nat.reduceAdd, reduceCtorEq, go_sem, ↓reduceIte]
  refine wp_mid [(0, .ptr 0 0), (2, .ptr 1 0), (4, i64 at'), (5, .ptr 2 0), (6, i64 e)] [scanB s (at' + w.length), zB, tB 1 w 0 0] ?_ fun env ⟨h0, h2, h4, h5, h6, _⟩ => ?_
  · rw [wp_block_eq]
    simp -implicitDefEqProofs only [h0, h2, h4, h5, h6, scanB, zB, Nat.reduceEqDiff, Nat.reduceLeDiff, Nat.reduceAdd, reduceCtorEq, go_sem, ↓reduceIte]
    refine callW_at [0] [0] (c130 s [34] at' 0 hat hs2 (by omega)) (by simp) rfl rfl rfl rfl rfl ?_
    rw [fq]
    simp -implicitDefEqProofs only [h0, h2, h4, h5, h6, scanB, zB, Nat.reduceEqDiff, Nat.reduceLeDiff, Nat.reduceAdd, reduceCtorEq, go_sem, ↓reduceIte]
    refine callW_at [0] [0] (c130 s [97, 98, 99, 100, 101, 102, 103, 104, 105, 106, 107, 108, 109, 110, 111, 112, 113, 114, 115, 116, 117, 118, 119, 120, 121, 122] at' 0 hat hs2 (by omega)) (by simp) rfl rfl rfl rfl rfl ?_
    rw [fl]
    simp -implicitDefEqProofs only [h0, h2, h4, h5, h6, scanB, zB, Nat.reduceEqDiff, Nat.reduceLeDiff, Nat.reduceAdd, reduceCtorEq, go_sem, ↓reduceIte]
    refine callW_at [0] [0] hrun (by simp) rfl rfl rfl rfl rfl ?_
    simp -implicitDefEqProofs only [h0, h2, h4, h5, h6, scanB, zB, Nat.reduceEqDiff, Nat.reduceLeDiff, Nat.reduceAdd, reduceCtorEq, go_sem, ↓reduceIte]
    refine callW_pure (c132 _) rfl rfl ?_
    simp -implicitDefEqProofs only [h0, h2, h4, h5, h6, scanB, zB, tB, Nat.reduceEqDiff, Nat.reduceLeDiff, Nat.reduceAdd, reduceCtorEq, go_sem, ↓reduceIte]
    rw [he]
    exact ⟨rfl, rfl⟩
  by_cases he0 : e = 0
  · subst he0
    rw [if_pos rfl] at hn
    subst hn
    have z0 : (((0 : Nat) : Int) != 0) = false := rfl
    simp -implicitDefEqProofs only [h0, h2, h4, h5, h6, scanB, zB, tB, z0, Nat.reduceEqDiff, Nat.reduceLeDiff, Nat.reduceAdd, reduceCtorEq, go_sem, ↓reduceIte]
    rfl
  · have z0 : ((e : Int) != 0) = true := by simp [he0]
    rw [if_neg he0] at hn
    subst hn
    simp -implicitDefEqProofs only [h0, h2, h4, h5, h6, scanB, zB, tB, z0, Nat.reduceEqDiff, Nat.reduceLeDiff, Nat.reduceAdd, reduceCtorEq, go_sem, ↓reduceIte]
    rfl
theorem c58_num (s : Bytes) (at' : Nat) (hs : s.length ≤ 2147483000) (c : UInt8) (r : Bytes) (hd : s.drop at' = c :: r) (ed : digit c = true) (el : letter c = false) (eq : c ≠ 34) (w : Bytes) (hw : (c :: r).takeWhile digit = w) (N e : Nat) (h133 : RR G 133 [.str w] [] (.tup [i64 N, i64 e]) []) (n : Nat) (hn : n = if e = 0 then at' + w.length else at') :
    RR G 58 [.ptr 0 0] [scanB s at'] (.tup [tokA ⟨2, [], N, [], at'⟩, i64 e]) [scanB s n] := by
  have hat : at' ≤ s.length := by
    have := (getD_drop s at' c r hd).1
    omega
  have hlt := (getD_drop s at' c r hd).1
  have hr := (getD_drop s at' c r hd).2.2
  have hlen : (c :: r).length = s.length - at' := by rw [← hd]; simp
  have hrl : r.length = s.length - (at' + 1) := by rw [← hr]; simp
  have hs2 : s.length ≤ 4611686018427387904 := by omega
  have hd0 : s.drop (at' + 0) = c :: r := hd
  have q (of : Bytes) : ((s.drop (at' + 0)).head?.any fun c => decide (0 ≤ idxB of c)) = inSet of c := isAt s of at' 0 c r hd0
  have hwl : w.length ≤ (c :: r).length := by rw [← hw]; exact tw_le _ _
  have hrun := c129 (G := G) s [48, 49, 50, 51, 52, 53, 54, 55, 56, 57] at' hat hs2 (by decide)
  rw [inSet_digit, hd, hw] at hrun
  have fq : ((s.drop (at' + 0)).head?.any fun c => decide (0 ≤ idxB [34] c)) = false := by rw [q]; simp [inSet, eq]
  have fl : ((s.drop (at' + 0)).head?.any fun c => decide (0 ≤ idxB [97, 98, 99, 100, 101, 102, 103, 104, 105, 106, 107, 108, 109, 110, 111, 112, 113, 114, 115, 116, 117, 118, 119, 120, 121, 122] c)) = false := by rw [q]; rw [inSet_letter]; exact el
  have fd : ((s.drop (at' + 0)).head?.any fun c => decide (0 ≤ idxB [48, 49, 50, 51, 52, 53, 54, 55, 56, 57] c)) = true := by rw [q]; rw [inSet_digit]; exact ed
  unfold scanB
  refine ret_intro Tryz.func58 rfl Tryz.results58 (by decide +kernel) rfl (Nat.le_refl _) rfl (by simp [renB, ren1, ren0]) ?_
  refine wp_mid [(0, .ptr 0 0), (2, .ptr 1 0), (3, i64 0)] [scanB s at', zB] ?_ fun env ⟨h0, h2, h3, _⟩ => ?_
  · simp -implicitDefEqProofs only [scanB, zB, Nat.reduceEqDiff, Nat.reduceLeDiff, Nat.reduceAdd, reduceCtorEq, go_sem, ↓reduceIte]
  refine wp_mid [(0, .ptr 0 0), (2, .ptr 1 0), (4, i64 at')] [scanB s at', zB] ?_ fun env ⟨h0, h2, h4, _⟩ => ?_
  · simp -implicitDefEqProofs only [h0, h2, h3, scanB, zB, Nat.reduceEqDiff, Nat.reduceLeDiff, Nat.reduceAdd, reduceCtorEq, go_sem, ↓reduceIte]
  refine wp_mid [(0, .ptr 0 0), (2, .ptr 1 0), (4, i64 at'), (5, .ptr 2 0)] [scanB s at', zB, zB] ?_ fun env ⟨h0, h2, h4, h5, _⟩ => ?_
  · simp -implicitDefEqProofs only [h0, h2, h4, scanB, zB, Nat.reduceEqDiff, Nat.reduceLeDiff, Nat.reduceAdd, reduceCtorEq, go_sem, ↓reduceIte]
  refine wp_mid [(0, .ptr 0 0), (2, .ptr 1 0), (4, i64 at'), (5, .ptr 2 0), (6, i64 0)] [scanB s at', zB, zB] ?_ fun env ⟨h0, h2, h4, h5, h6, _⟩ => ?_
  · simp -implicitDefEqProofs only [h0, h2, h4, h5, scanB, zB, Nat.reduceEqDiff, Nat.reduceLeDiff, Nat.reduceAdd, reduceCtorEq, go_sem, ↓reduceIte]
  refine wp_mid [(0, .ptr 0 0), (2, .ptr 1 0), (4, i64 at'), (5, .ptr 2 0), (6, i64 e)] [scanB s (at' + w.length), zB, tB 2 [] N 0] ?_ fun env ⟨h0, h2, h4, h5, h6, _⟩ => ?_
  · rw [wp_block_eq]
    simp -implicitDefEqProofs only [h0, h2, h4, h5, h6, scanB, zB, Nat.reduceEqDiff, Nat.reduceLeDiff, Nat.reduceAdd, reduceCtorEq, go_sem, ↓reduceIte]
    refine callW_at [0] [0] (c130 s [34] at' 0 hat hs2 (by omega)) (by simp) rfl rfl rfl rfl rfl ?_
    rw [fq]
    simp -implicitDefEqProofs only [h0, h2, h4, h5, h6, scanB, zB, Nat.reduceEqDiff, Nat.reduceLeDiff, Nat.reduceAdd, reduceCtorEq, go_sem, ↓reduceIte]
    refine callW_at [0] [0] (c130 s [97, 98, 99, 100, 101, 102, 103, 104, 105, 106, 107, 108, 109, 110, 111, 112, 113, 114, 115, 116, 117, 118, 119, 120, 121, 122] at' 0 hat hs2 (by omega)) (by simp) rfl rfl rfl rfl rfl ?_
    rw [fl]
    simp -implicitDefEqProofs only [h0, h2, h4, h5, h6, scanB, zB, Nat.reduceEqDiff, Nat.reduceLeDiff, Nat.reduceAdd, reduceCtorEq, go_sem, ↓reduceIte]
    refine callW_at [0] [0] (c130 s [48, 49, 50, 51, 52, 53, 54, 55, 56, 57] at' 0 hat hs2 (by omega)) (by simp) rfl rfl rfl rfl rfl ?_
    rw [fd]
    simp -implicitDefEqProofs only [h0, h2, h4, h5, h6, scanB, zB, Nat.reduceEqDiff, Nat.reduceLeDiff, Nat.reduceAdd, reduceCtorEq, go_sem, ↓reduceIte]
    refine callW_at [0] [0] hrun (by simp) rfl rfl rfl rfl rfl ?_
    simp -implicitDefEqProofs only [h0, h2, h4, h5, h6, scanB, zB, Nat.reduceEqDiff, Nat.reduceLeDiff, Nat.reduceAdd, reduceCtorEq, go_sem, ↓reduceIte]
    refine callW_pure h133 rfl rfl ?_
    simp -implicitDefEqProofs only [h0, h2, h4, h5, h6, scanB, zB, tB, Nat.reduceEqDiff, Nat.reduceLeDiff, Nat.reduceAdd, reduceCtorEq, go_sem, ↓reduceIte]
    rfl
  by_cases he0 : e = 0
  · subst he0
    rw [if_pos rfl] at hn
    subst hn
    have z0 : (((0 : Nat) : Int) != 0) = false := rfl
    simp -implicitDefEqProofs only [h0, h2, h4, h5, h6, scanB, zB, tB, z0, Nat.reduceEqDiff, Nat.reduceLeDiff, Nat.reduceAdd, reduceCtorEq, go_sem, ↓reduceIte]
    rfl
  · have z0 : ((e : Int) != 0) = true := by simp [he0]
    rw [if_neg he0] at hn
    subst hn
    simp -implicitDefEqProofs only [h0, h2, h4, h5, h6, scanB, zB, tB, z0, Nat.reduceEqDiff, Nat.reduceLeDiff, Nat.reduceAdd, reduceCtorEq, go_sem, ↓reduceIte]
    rfl
theorem c58_var (s : Bytes) (at' : Nat) (hs : s.length ≤ 2147483000) (c : UInt8) (r : Bytes) (hd : s.drop at' = c :: r) (ev : c = 36) (ed : digit c = false) (el : letter c = false) (eq : c ≠ 34) (w : Bytes) (hw : r.takeWhile within = w) (e : Nat) (he : (if nameQ w then (0 : Int) else 1) = e) (n : Nat) (hn : n = if e = 0 then at' + 1 + w.length else at') :
    RR G 58 [.ptr 0 0] [scanB s at'] (.tup [tokA ⟨6, w, 0, [], at'⟩, i64 e]) [scanB s n] := by
  have hat : at' ≤ s.length := by
    have := (getD_drop s at' c r hd).1
    omega
  have hlt := (getD_drop s at' c r hd).1
  have hr := (getD_drop s at' c r hd).2.2
  have hlen : (c :: r).length = s.length - at' := by rw [← hd]; simp
  have hrl : r.length = s.length - (at' + 1) := by rw [← hr]; simp
  have hs2 : s.length ≤ 4611686018427387904 := by omega
  have hd0 : s.drop (at' + 0) = c :: r := hd
  have q (of : Bytes) : ((s.drop (at' + 0)).head?.any fun c => decide (0 ≤ idxB of c)) = inSet of c := isAt s of at' 0 c r hd0
  have hwl : w.length ≤ r.length := by rw [← hw]; exact tw_le _ _
  have hrun := c129 (G := G) s [97, 98, 99, 100, 101, 102, 103, 104, 105, 106, 107, 108, 109, 110, 111, 112, 113, 114, 115, 116, 117, 118, 119, 120, 121, 122, 48, 49, 50, 51, 52, 53, 54, 55, 56, 57, 95] (at' + 1) (by omega) hs2 (by decide)
  rw [inSet_within, hr, hw] at hrun
  have hw1 := wrap_succ at' s.length hlt hs2
  have fq : ((s.drop (at' + 0)).head?.any fun c => decide (0 ≤ idxB [34] c)) = false := by rw [q]; simp [inSet, eq]
  have fl : ((s.drop (at' + 0)).head?.any fun c => decide (0 ≤ idxB [97, 98, 99, 100, 101, 102, 103, 104, 105, 106, 107, 108, 109, 110, 111, 112, 113, 114, 115, 116, 117, 118, 119, 120, 121, 122] c)) = false := by rw [q]; rw [inSet_letter]; exact el
  have fd : ((s.drop (at' + 0)).head?.any fun c => decide (0 ≤ idxB [48, 49, 50, 51, 52, 53, 54, 55, 56, 57] c)) = false := by rw [q]; rw [inSet_digit]; exact ed
  have fv : ((s.drop (at' + 0)).head?.any fun c => decide (0 ≤ idxB [36] c)) = true := by rw [q]; simp [inSet, ev]
  unfold scanB
  refine ret_intro Tryz.func58 rfl Tryz.results58 (by decide +kernel) rfl (Nat.le_refl _) rfl (by simp [renB, ren1, ren0]) ?_
  refine wp_mid [(0, .ptr 0 0), (2, .ptr 1 0), (3, i64 0)] [scanB s at', zB] ?_ fun env ⟨h0, h2, h3, _⟩ => ?_
  · simp -implicitDefEqProofs only [scanB, zB, Nat.reduceEqDiff, Nat.reduceLeDiff, Nat.reduceAdd, reduceCtorEq, go_sem, ↓reduceIte]
  refine wp_mid [(0, .ptr 0 0), (2, .ptr 1 0), (4, i64 at')] [scanB s at', zB] ?_ fun env ⟨h0, h2, h4, _⟩ => ?_
  · simp -implicitDefEqProofs only [h0, h2, h3, scanB, zB, Nat.reduceEqDiff, Nat.reduceLeDiff, Nat.reduceAdd, reduceCtorEq, go_sem, ↓reduceIte]
  refine wp_mid [(0, .ptr 0 0), (2, .ptr 1 0), (4, i64 at'), (5, .ptr 2 0)] [scanB s at', zB, zB] ?_ fun env ⟨h0, h2, h4, h5, _⟩ => ?_
  · simp -implicitDefEqProofs only [h0, h2, h4, scanB, zB, Nat.reduceEqDiff, Nat.reduceLeDiff, Nat.reduceAdd, reduceCtorEq, go_sem, ↓reduceIte]
  refine wp_mid [(0, .ptr 0 0), (2, .ptr 1 0), (4, i64 at'), (5, .ptr 2 0), (6, i64 0)] [scanB s at', zB, zB] ?_ fun env ⟨h0, h2, h4, h5, h6, _⟩ => ?_
  · simp -implicitDefEqProofs only [h0, h2, h4, h5, scanB, zB, Nat.reduceEqDiff, Nat.reduceLeDiff, Nat.reduceAdd, reduceCtorEq, go_sem, ↓reduceIte]
  refine wp_mid [(0, .ptr 0 0), (2, .ptr 1 0), (4, i64 at'), (5, .ptr 2 0), (6, i64 e)] [scanB s (at' + 1 + w.length), zB, tB 6 w 0 0] ?_ fun env ⟨h0, h2, h4, h5, h6, _⟩ => ?_
  · rw [wp_block_eq]
    simp -implicitDefEqProofs only [h0, h2, h4, h5, h6, scanB, zB, Nat.reduceEqDiff, Nat.reduceLeDiff, Nat.reduceAdd, reduceCtorEq, go_sem, ↓reduceIte]
    refine callW_at [0] [0] (c130 s [34] at' 0 hat hs2 (by omega)) (by simp) rfl rfl rfl rfl rfl ?_
    rw [fq]
    simp -implicitDefEqProofs only [h0, h2, h4, h5, h6, scanB, zB, Nat.reduceEqDiff, Nat.reduceLeDiff, Nat.reduceAdd, reduceCtorEq, go_sem, ↓reduceIte]
    refine callW_at [0] [0] (c130 s [97, 98, 99, 100, 101, 102, 103, 104, 105, 106, 107, 108, 109, 110, 111, 112, 113, 114, 115, 116, 117, 118, 119, 120, 121, 122] at' 0 hat hs2 (by omega)) (by simp) rfl rfl rfl rfl rfl ?_
    rw [fl]
    simp -implicitDefEqProofs only [h0, h2, h4, h5, h6, scanB, zB, Nat.reduceEqDiff, Nat.reduceLeDiff, Nat.reduceAdd, reduceCtorEq, go_sem, ↓reduceIte]
    refine callW_at [0] [0] (c130 s [48, 49, 50, 51, 52, 53, 54, 55, 56, 57] at' 0 hat hs2 (by omega)) (by simp) rfl rfl rfl rfl rfl ?_
    rw [fd]
    simp -implicitDefEqProofs only [h0, h2, h4, h5, h6, scanB, zB, Nat.reduceEqDiff, Nat.reduceLeDiff, Nat.reduceAdd, reduceCtorEq, go_sem, ↓reduceIte]
    refine callW_at [0] [0] (c130 s [36] at' 0 hat hs2 (by omega)) (by simp) rfl rfl rfl rfl rfl ?_
    rw [fv]
    simp -implicitDefEqProofs only [h0, h2, h4, h5, h6, scanB, zB, Nat.reduceEqDiff, Nat.reduceLeDiff, Nat.reduceAdd, reduceCtorEq, go_sem, ↓reduceIte]
    simp -implicitDefEqProofs only [hw1, Nat.reduceEqDiff, Nat.reduceLeDiff, Nat.reduceAdd, reduceCtorEq, go_sem, ↓reduceIte]
    refine callW_at [0] [0] hrun (by simp) rfl rfl rfl rfl rfl ?_
    simp -implicitDefEqProofs only [h0, h2, h4, h5, h6, scanB, zB, Nat.reduceEqDiff, Nat.reduceLeDiff, Nat.reduceAdd, reduceCtorEq, go_sem, ↓reduceIte]
    refine callW_pure (c52 _) rfl rfl ?_
    simp -implicitDefEqProofs only [h0, h2, h4, h5, h6, scanB, zB, Nat.reduceEqDiff, Nat.reduceLeDiff, Nat.reduceAdd, reduceCtorEq, go_sem, ↓reduceIte]
    refine callW_pure (c132 _) rfl rfl ?_
    simp -implicitDefEqProofs only [h0, h2, h4, h5, h6, scanB, zB, tB, Nat.reduceEqDiff, Nat.reduceLeDiff, Nat.reduceAdd, reduceCtorEq, go_sem, ↓reduceIte]
    rw [he]
    exact ⟨rfl, rfl⟩
  by_cases he0 : e = 0
  · subst he0
    rw [if_pos rfl] at hn
    subst hn
    have z0 : (((0 : Nat) : Int) != 0) = false := rfl
    simp -implicitDefEqProofs only [h0, h2, h4, h5, h6, scanB, zB, tB, z0, Nat.reduceEqDiff, Nat.reduceLeDiff, Nat.reduceAdd, reduceCtorEq, go_sem, ↓reduceIte]
    rfl
  · have z0 : ((e : Int) != 0) = true := by simp [he0]
    rw [if_neg he0] at hn
    subst hn
    simp -implicitDefEqProofs only [h0, h2, h4, h5, h6, scanB, zB, tB, z0, Nat.reduceEqDiff, Nat.reduceLeDiff, Nat.reduceAdd, reduceCtorEq, go_sem, ↓reduceIte]
    rfl
theorem flag_has (w : Bytes) (hw : ∀ x ∈ w, x ≠ 32) : Lib.contains [32, 105, 32, 101, 120, 32, 103, 108, 32, 114, 101, 32] (32 :: (w ++ [32])) = flagP w := by
  match w with
  | [] => decide
  | [a] =>
    have ha := hw a (by simp)
    simp [Lib.contains, Lib.index, List.isPrefixOf, flagP, ha.symm]
    grind
  | [a, b] =>
    have ha := hw a (by simp)
    have hb := hw b (by simp)
    simp [Lib.contains, Lib.index, List.isPrefixOf, flagP, ha.symm, hb.symm]
    grind
  | a :: b :: d :: t =>
    have ha := hw a (by simp)
    have hb := hw b (by simp)
    have hd := hw d (by simp)
    simp [Lib.contains, Lib.index, List.isPrefixOf, flagP, ha, hb, hd, ha.symm, hb.symm, hd.symm]
theorem c58_flag (s : Bytes) (at' : Nat) (hs : s.length ≤ 2147483000) (c : UInt8) (r : Bytes) (hd : s.drop at' = c :: r) (hG : GOk G) (em : c = 45) (ev : c ≠ 36) (ed : digit c = false) (el : letter c = false) (eq : c ≠ 34) (w : Bytes) (hw : r.takeWhile letter = w) (hne : w ≠ []) (e : Nat) (he : (if flagP w then (0 : Int) else 1) = e) (n : Nat) (hn : n = if e = 0 then at' + 1 + w.length else at') :
    RR G 58 [.ptr 0 0] [scanB s at'] (.tup [tokA ⟨5, w, 0, [], at'⟩, i64 e]) [scanB s n] := by
  have hat : at' ≤ s.length := by
    have := (getD_drop s at' c r hd).1
    omega
  have hlt := (getD_drop s at' c r hd).1
  have hr := (getD_drop s at' c r hd).2.2
  have hlen : (c :: r).length = s.length - at' := by rw [← hd]; simp
  have hrl : r.length = s.length - (at' + 1) := by rw [← hr]; simp
  have hs2 : s.length ≤ 4611686018427387904 := by omega
  have hd0 : s.drop (at' + 0) = c :: r := hd
  have q (of : Bytes) : ((s.drop (at' + 0)).head?.any fun c => decide (0 ≤ idxB of c)) = inSet of c := isAt s of at' 0 c r hd0
  have hwl : w.length ≤ r.length := by rw [← hw]; exact tw_le _ _
  have hrun := c129 (G := G) s [97, 98, 99, 100, 101, 102, 103, 104, 105, 106, 107, 108, 109, 110, 111, 112, 113, 114, 115, 116, 117, 118, 119, 120, 121, 122] (at' + 1) (by omega) hs2 (by decide)
  rw [inSet_letter, hr, hw] at hrun
  have hw1 := wrap_succ at' s.length hlt hs2
  have hsp : ∀ x ∈ w, x ≠ 32 := fun x hx e => by
    rw [← hw] at hx
    have := List.all_eq_true.1 (List.all_takeWhile (p := letter) (l := r)) x hx
    rw [e] at this
    cases this
  have f1 : ((s.drop (at' + 1)).head?.any fun c => decide (0 ≤ idxB [97, 98, 99, 100, 101, 102, 103, 104, 105, 106, 107, 108, 109, 110, 111, 112, 113, 114, 115, 116, 117, 118, 119, 120, 121, 122] c)) = true := by
    cases r with
    | nil => rw [← hw] at hne; exact absurd rfl hne
    | cons b r2 =>
      rw [isAt s _ at' 1 b r2 hr, inSet_letter]
      cases hb : letter b with
      | true => rfl
      | false => rw [← hw, List.takeWhile_cons_of_neg (by simp [hb])] at hne; exact absurd rfl hne
  have fq : ((s.drop (at' + 0)).head?.any fun c => decide (0 ≤ idxB [34] c)) = false := by rw [q]; simp [inSet, eq]
  have fl : ((s.drop (at' + 0)).head?.any fun c => decide (0 ≤ idxB [97, 98, 99, 100, 101, 102, 103, 104, 105, 106, 107, 108, 109, 110, 111, 112, 113, 114, 115, 116, 117, 118, 119, 120, 121, 122] c)) = false := by rw [q]; rw [inSet_letter]; exact el
  have fd : ((s.drop (at' + 0)).head?.any fun c => decide (0 ≤ idxB [48, 49, 50, 51, 52, 53, 54, 55, 56, 57] c)) = false := by rw [q]; rw [inSet_digit]; exact ed
  have fv : ((s.drop (at' + 0)).head?.any fun c => decide (0 ≤ idxB [36] c)) = false := by rw [q]; simp [inSet, ev]
  have fm : ((s.drop (at' + 0)).head?.any fun c => decide (0 ≤ idxB [45] c)) = true := by rw [q]; simp [inSet, em]
  unfold scanB
  refine ret_intro Tryz.func58 rfl Tryz.results58 (by decide +kernel) rfl (Nat.le_refl _) rfl (by simp [renB, ren1, ren0]) ?_
  refine wp_mid [(0, .ptr 0 0), (2, .ptr 1 0), (3, i64 0)] [scanB s at', zB] ?_ fun env ⟨h0, h2, h3, _⟩ => ?_
  · simp -implicitDefEqProofs only [scanB, zB, Nat.reduceEqDiff, Nat.reduceLeDiff, Nat.reduceAdd, reduceCtorEq, go_sem, ↓reduceIte]
  refine wp_mid [(0, .ptr 0 0), (2, .ptr 1 0), (4, i64 at')] [scanB s at', zB] ?_ fun env ⟨h0, h2, h4, _⟩ => ?_
  · simp -implicitDefEqProofs only [h0, h2, h3, scanB, zB, Nat.reduceEqDiff, Nat.reduceLeDiff, Nat.reduceAdd, reduceCtorEq, go_sem, ↓reduceIte]
  refine wp_mid [(0, .ptr 0 0), (2, .ptr 1 0), (4, i64 at'), (5, .ptr 2 0)] [scanB s at', zB, zB] ?_ fun env ⟨h0, h2, h4, h5, _⟩ => ?_
  · simp -implicitDefEqProofs only [h0, h2, h4, scanB, zB, Nat.reduceEqDiff, Nat.reduceLeDiff, Nat.reduceAdd, reduceCtorEq, go_sem, ↓reduceIte]
  refine wp_mid [(0, .ptr 0 0), (2, .ptr 1 0), (4, i64 at'), (5, .ptr 2 0), (6, i64 0)] [scanB s at', zB, zB] ?_ fun env ⟨h0, h2, h4, h5, h6, _⟩ => ?_
  · simp -implicitDefEqProofs only [h0, h2, h4, h5, scanB, zB, Nat.reduceEqDiff, Nat.reduceLeDiff, Nat.reduceAdd, reduceCtorEq, go_sem, ↓reduceIte]
  refine wp_mid [(0, .ptr 0 0), (2, .ptr 1 0), (4, i64 at'), (5, .ptr 2 0), (6, i64 e)] [scanB s (at' + 1 + w.length), zB, tB 5 w 0 0] ?_ fun env ⟨h0, h2, h4, h5, h6, _⟩ => ?_
  · rw [wp_block_eq]
    simp -implicitDefEqProofs only [h0, h2, h4, h5, h6, scanB, zB, Nat.reduceEqDiff, Nat.reduceLeDiff, Nat.reduceAdd, reduceCtorEq, go_sem, ↓reduceIte]
    refine callW_at [0] [0] (c130 s [34] at' 0 hat hs2 (by omega)) (by simp) rfl rfl rfl rfl rfl ?_
    rw [fq]
    simp -implicitDefEqProofs only [h0, h2, h4, h5, h6, scanB, zB, Nat.reduceEqDiff, Nat.reduceLeDiff, Nat.reduceAdd, reduceCtorEq, go_sem, ↓reduceIte]
    refine callW_at [0] [0] (c130 s [97, 98, 99, 100, 101, 102, 103, 104, 105, 106, 107, 108, 109, 110, 111, 112, 113, 114, 115, 116, 117, 118, 119, 120, 121, 122] at' 0 hat hs2 (by omega)) (by simp) rfl rfl rfl rfl rfl ?_
    rw [fl]
    simp -implicitDefEqProofs only [h0, h2, h4, h5, h6, scanB, zB, Nat.reduceEqDiff, Nat.reduceLeDiff, Nat.reduceAdd, reduceCtorEq, go_sem, ↓reduceIte]
    refine callW_at [0] [0] (c130 s [48, 49, 50, 51, 52, 53, 54, 55, 56, 57] at' 0 hat hs2 (by omega)) (by simp) rfl rfl rfl rfl rfl ?_
    rw [fd]
    simp -implicitDefEqProofs only [h0, h2, h4, h5, h6, scanB, zB, Nat.reduceEqDiff, Nat.reduceLeDiff, Nat.reduceAdd, reduceCtorEq, go_sem, ↓reduceIte]
    refine callW_at [0] [0] (c130 s [36] at' 0 hat hs2 (by omega)) (by simp) rfl rfl rfl rfl rfl ?_
    rw [fv]
    simp -implicitDefEqProofs only [h0, h2, h4, h5, h6, scanB, zB, Nat.reduceEqDiff, Nat.reduceLeDiff, Nat.reduceAdd, reduceCtorEq, go_sem, ↓reduceIte]
    refine callW_at [0] [0] (c130 s [45] at' 0 hat hs2 (by omega)) (by simp) rfl rfl rfl rfl rfl ?_
    rw [fm]
    simp -implicitDefEqProofs only [h0, h2, h4, h5, h6, scanB, zB, Nat.reduceEqDiff, Nat.reduceLeDiff, Nat.reduceAdd, reduceCtorEq, go_sem, ↓reduceIte]
    refine callW_at [0] [0] (c130 s [97, 98, 99, 100, 101, 102, 103, 104, 105, 106, 107, 108, 109, 110, 111, 112, 113, 114, 115, 116, 117, 118, 119, 120, 121, 122] at' 1 hat hs2 (by omega)) (by simp) rfl rfl rfl rfl rfl ?_
    rw [f1]
    simp -implicitDefEqProofs only [h0, h2, h4, h5, h6, scanB, zB, hw1, Nat.reduceEqDiff, Nat.reduceLeDiff, Nat.reduceAdd, reduceCtorEq, go_sem, ↓reduceIte]
    refine callW_at [0] [0] hrun (by simp) rfl rfl rfl rfl rfl ?_
    simp -implicitDefEqProofs only [h0, h2, h4, h5, h6, scanB, zB, Nat.reduceEqDiff, Nat.reduceLeDiff, Nat.reduceAdd, reduceCtorEq, go_sem, ↓reduceIte]
    refine ⟨by simp [strLim]; omega, by simp [strLim]; omega, ?_⟩
    refine callW_pure (ret_prim (sound51 hG [32, 105, 32, 101, 120, 32, 103, 108, 32, 114, 101, 32] (32 :: (w ++ [32])) (by decide) [])) rfl rfl ?_
    rw [flag_has w hsp]
    simp -implicitDefEqProofs only [h0, h2, h4, h5, h6, scanB, zB, Nat.reduceEqDiff, Nat.reduceLeDiff, Nat.reduceAdd, reduceCtorEq, go_sem, ↓reduceIte]
    refine callW_pure (c132 _) rfl rfl ?_
    simp -implicitDefEqProofs only [h0, h2, h4, h5, h6, scanB, zB, tB, Nat.reduceEqDiff, Nat.reduceLeDiff, Nat.reduceAdd, reduceCtorEq, go_sem, ↓reduceIte]
    rw [he]
    exact ⟨rfl, rfl⟩
  by_cases he0 : e = 0
  · subst he0
    rw [if_pos rfl] at hn
    subst hn
    have z0 : (((0 : Nat) : Int) != 0) = false := rfl
    simp -implicitDefEqProofs only [h0, h2, h4, h5, h6, scanB, zB, tB, z0, Nat.reduceEqDiff, Nat.reduceLeDiff, Nat.reduceAdd, reduceCtorEq, go_sem, ↓reduceIte]
    rfl
  · have z0 : ((e : Int) != 0) = true := by simp [he0]
    rw [if_neg he0] at hn
    subst hn
    simp -implicitDefEqProofs only [h0, h2, h4, h5, h6, scanB, zB, tB, z0, Nat.reduceEqDiff, Nat.reduceLeDiff, Nat.reduceAdd, reduceCtorEq, go_sem, ↓reduceIte]
    rfl
def tN (k : Nat) (w : Bytes) (a : Nat) : Blk := .cells 32 [i64 k, .str w, i64 0, .sl .no ⟨2, 78⟩ [], i64 a]
theorem c58_sign (s : Bytes) (at' : Nat) (hs : s.length ≤ 2147483000) (c : UInt8) (r : Bytes) (hd : s.drop at' = c :: r) (em : c ≠ 45) (ev : c ≠ 36) (ed : digit c = false) (el : letter c = false) (eq : c ≠ 34) (o : Option Bytes) (ho : signL.find? (fun w => w.isPrefixOf (c :: r)) = o) (e : Nat) (he : (o.elim 1 fun _ => 0 : Int) = e) (n : Nat) (hn : n = if e = 0 then at' + (o.getD []).length else at') :
    RR G 58 [.ptr 0 0] [scanB s at'] (.tup [tokA ⟨o.elim 0 fun _ => 4, o.getD [], 0, [], at'⟩, i64 e]) [scanB s n] := by
  have hat : at' ≤ s.length := by
    have := (getD_drop s at' c r hd).1
    omega
  have hlt := (getD_drop s at' c r hd).1
  have hr := (getD_drop s at' c r hd).2.2
  have hlen : (c :: r).length = s.length - at' := by rw [← hd]; simp
  have hrl : r.length = s.length - (at' + 1) := by rw [← hr]; simp
  have hs2 : s.length ≤ 4611686018427387904 := by omega
  have hd0 : s.drop (at' + 0) = c :: r := hd
  have q (of : Bytes) : ((s.drop (at' + 0)).head?.any fun c => decide (0 ≤ idxB of c)) = inSet of c := isAt s of at' 0 c r hd0
  have fq : ((s.drop (at' + 0)).head?.any fun c => decide (0 ≤ idxB [34] c)) = false := by rw [q]; simp [inSet, eq]
  have fl : ((s.drop (at' + 0)).head?.any fun c => decide (0 ≤ idxB [97, 98, 99, 100, 101, 102, 103, 104, 105, 106, 107, 108, 109, 110, 111, 112, 113, 114, 115, 116, 117, 118, 119, 120, 121, 122] c)) = false := by rw [q]; rw [inSet_letter]; exact el
  have fd : ((s.drop (at' + 0)).head?.any fun c => decide (0 ≤ idxB [48, 49, 50, 51, 52, 53, 54, 55, 56, 57] c)) = false := by rw [q]; rw [inSet_digit]; exact ed
  have fv : ((s.drop (at' + 0)).head?.any fun c => decide (0 ≤ idxB [36] c)) = false := by rw [q]; simp [inSet, ev]
  have fm : ((s.drop (at' + 0)).head?.any fun c => decide (0 ≤ idxB [45] c)) = false := by rw [q]; simp [inSet, em]
  unfold scanB
  refine ret_intro Tryz.func58 rfl Tryz.results58 (by decide +kernel) rfl (Nat.le_refl _) rfl (by simp [renB, ren1, ren0]) ?_
  refine wp_mid [(0, .ptr 0 0), (2, .ptr 1 0), (3, i64 0)] [scanB s at', zB] ?_ fun env ⟨h0, h2, h3, _⟩ => ?_
  · simp -implicitDefEqProofs only [scanB, zB, Nat.reduceEqDiff, Nat.reduceLeDiff, Nat.reduceAdd, reduceCtorEq, go_sem, ↓reduceIte]
  refine wp_mid [(0, .ptr 0 0), (2, .ptr 1 0), (4, i64 at')] [scanB s at', zB] ?_ fun env ⟨h0, h2, h4, _⟩ => ?_
  · simp -implicitDefEqProofs only [h0, h2, h3, scanB, zB, Nat.reduceEqDiff, Nat.reduceLeDiff, Nat.reduceAdd, reduceCtorEq, go_sem, ↓reduceIte]
  refine wp_mid [(0, .ptr 0 0), (2, .ptr 1 0), (4, i64 at'), (5, .ptr 2 0)] [scanB s at', zB, zB] ?_ fun env ⟨h0, h2, h4, h5, _⟩ => ?_
  · simp -implicitDefEqProofs only [h0, h2, h4, scanB, zB, Nat.reduceEqDiff, Nat.reduceLeDiff, Nat.reduceAdd, reduceCtorEq, go_sem, ↓reduceIte]
  refine wp_mid [(0, .ptr 0 0), (2, .ptr 1 0), (4, i64 at'), (5, .ptr 2 0), (6, i64 0)] [scanB s at', zB, zB] ?_ fun env ⟨h0, h2, h4, h5, h6, _⟩ => ?_
  · simp -implicitDefEqProofs only [h0, h2, h4, h5, scanB, zB, Nat.reduceEqDiff, Nat.reduceLeDiff, Nat.reduceAdd, reduceCtorEq, go_sem, ↓reduceIte]
  have hsg := c134 (G := G) s at' hat hs2 o (by rw [hd]; exact ho)
  refine wp_mid [(0, .ptr 0 0), (2, .ptr 1 0), (4, i64 at'), (5, .ptr 2 0), (6, i64 e)] [scanB s (at' + (o.getD []).length), zB, tN (o.elim 0 fun _ => 4) (o.getD []) 0] ?_ fun env ⟨h0, h2, h4, h5, h6, _⟩ => ?_
  · rw [wp_block_eq]
    simp -implicitDefEqProofs only [h0, h2, h4, h5, h6, scanB, zB, Nat.reduceEqDiff, Nat.reduceLeDiff, Nat.reduceAdd, reduceCtorEq, go_sem, ↓reduceIte]
    refine callW_at [0] [0] (c130 s [34] at' 0 hat hs2 (by omega)) (by simp) rfl rfl rfl rfl rfl ?_
    rw [fq]
    simp -implicitDefEqProofs only [h0, h2, h4, h5, h6, scanB, zB, Nat.reduceEqDiff, Nat.reduceLeDiff, Nat.reduceAdd, reduceCtorEq, go_sem, ↓reduceIte]
    refine callW_at [0] [0] (c130 s [97, 98, 99, 100, 101, 102, 103, 104, 105, 106, 107, 108, 109, 110, 111, 112, 113, 114, 115, 116, 117, 118, 119, 120, 121, 122] at' 0 hat hs2 (by omega)) (by simp) rfl rfl rfl rfl rfl ?_
    rw [fl]
    simp -implicitDefEqProofs only [h0, h2, h4, h5, h6, scanB, zB, Nat.reduceEqDiff, Nat.reduceLeDiff, Nat.reduceAdd, reduceCtorEq, go_sem, ↓reduceIte]
    refine callW_at [0] [0] (c130 s [48, 49, 50, 51, 52, 53, 54, 55, 56, 57] at' 0 hat hs2 (by omega)) (by simp) rfl rfl rfl rfl rfl ?_
    rw [fd]
    simp -implicitDefEqProofs only [h0, h2, h4, h5, h6, scanB, zB, Nat.reduceEqDiff, Nat.reduceLeDiff, Nat.reduceAdd, reduceCtorEq, go_sem, ↓reduceIte]
    refine callW_at [0] [0] (c130 s [36] at' 0 hat hs2 (by omega)) (by simp) rfl rfl rfl rfl rfl ?_
    rw [fv]
    simp -implicitDefEqProofs only [h0, h2, h4, h5, h6, scanB, zB, Nat.reduceEqDiff, Nat.reduceLeDiff, Nat.reduceAdd, reduceCtorEq, go_sem, ↓reduceIte]
    refine callW_at [0] [0] (c130 s [45] at' 0 hat hs2 (by omega)) (by simp) rfl rfl rfl rfl rfl ?_
    rw [fm]
    simp -implicitDefEqProofs only [h0, h2, h4, h5, h6, scanB, zB, Nat.reduceEqDiff, Nat.reduceLeDiff, Nat.reduceAdd, reduceCtorEq, go_sem, ↓reduceIte]
    refine callW_at [0] [0] hsg (by simp) rfl rfl rfl rfl rfl ?_
    simp -implicitDefEqProofs only [h0, h2, h4, h5, h6, scanB, zB, tN, tokA, partsA, Nat.reduceEqDiff, Nat.reduceLeDiff, Nat.reduceAdd, reduceCtorEq, go_sem, ↓reduceIte]
    rw [he]
    exact ⟨rfl, rfl⟩
  by_cases he0 : e = 0
  · subst he0
    rw [if_pos rfl] at hn
    subst hn
    have z0 : (((0 : Nat) : Int) != 0) = false := rfl
    simp -implicitDefEqProofs only [h0, h2, h4, h5, h6, scanB, zB, tN, z0, Nat.reduceEqDiff, Nat.reduceLeDiff, Nat.reduceAdd, reduceCtorEq, go_sem, ↓reduceIte]
    rfl
  · have z0 : ((e : Int) != 0) = true := by simp [he0]
    rw [if_neg he0] at hn
    subst hn
    simp -implicitDefEqProofs only [h0, h2, h4, h5, h6, scanB, zB, tN, z0, Nat.reduceEqDiff, Nat.reduceLeDiff, Nat.reduceAdd, reduceCtorEq, go_sem, ↓reduceIte]
    rfl
theorem c58_minus (s : Bytes) (at' : Nat) (hs : s.length ≤ 2147483000) (c : UInt8) (r : Bytes) (hd : s.drop at' = c :: r) (em : c = 45) (hne : r.takeWhile letter = []) (ev : c ≠ 36) (ed : digit c = false) (el : letter c = false) (eq : c ≠ 34) (o : Option Bytes) (ho : signL.find? (fun w => w.isPrefixOf (c :: r)) = o) (e : Nat) (he : (o.elim 1 fun _ => 0 : Int) = e) (n : Nat) (hn : n = if e = 0 then at' + (o.getD []).length else at') :
    RR G 58 [.ptr 0 0] [scanB s at'] (.tup [tokA ⟨o.elim 0 fun _ => 4, o.getD [], 0, [], at'⟩, i64 e]) [scanB s n] := by
  have hat : at' ≤ s.length := by
    have := (getD_drop s at' c r hd).1
    omega
  have hlt := (getD_drop s at' c r hd).1
  have hr := (getD_drop s at' c r hd).2.2
  have hlen : (c :: r).length = s.length - at' := by rw [← hd]; simp
  have hrl : r.length = s.length - (at' + 1) := by rw [← hr]; simp
  have hs2 : s.length ≤ 4611686018427387904 := by omega
  have hd0 : s.drop (at' + 0) = c :: r := hd
  have q (of : Bytes) : ((s.drop (at' + 0)).head?.any fun c => decide (0 ≤ idxB of c)) = inSet of c := isAt s of at' 0 c r hd0
  have f1 : ((s.drop (at' + 1)).head?.any fun c => decide (0 ≤ idxB [97, 98, 99, 100, 101, 102, 103, 104, 105, 106, 107, 108, 109, 110, 111, 112, 113, 114, 115, 116, 117, 118, 119, 120, 121, 122] c)) = false := by
    cases r with
    | nil => rw [hr] <;> rfl
    | cons b r2 =>
      rw [isAt s _ at' 1 b r2 hr, inSet_letter]
      cases hb : letter b with
      | false => rfl
      | true => rw [List.takeWhile_cons_of_pos hb] at hne; cases hne
  have fq : ((s.drop (at' + 0)).head?.any fun c => decide (0 ≤ idxB [34] c)) = false := by rw [q]; simp [inSet, eq]
  have fl : ((s.drop (at' + 0)).head?.any fun c => decide (0 ≤ idxB [97, 98, 99, 100, 101, 102, 103, 104, 105, 106, 107, 108, 109, 110, 111, 112, 113, 114, 115, 116, 117, 118, 119, 120, 121, 122] c)) = false := by rw [q]; rw [inSet_letter]; exact el
  have fd : ((s.drop (at' + 0)).head?.any fun c => decide (0 ≤ idxB [48, 49, 50, 51, 52, 53, 54, 55, 56, 57] c)) = false := by rw [q]; rw [inSet_digit]; exact ed
  have fv : ((s.drop (at' + 0)).head?.any fun c => decide (0 ≤ idxB [36] c)) = false := by rw [q]; simp [inSet, ev]
  have fm : ((s.drop (at' + 0)).head?.any fun c => decide (0 ≤ idxB [45] c)) = true := by rw [q]; simp [inSet, em]
  unfold scanB
  refine ret_intro Tryz.func58 rfl Tryz.results58 (by decide +kernel) rfl (Nat.le_refl _) rfl (by simp [renB, ren1, ren0]) ?_
  refine wp_mid [(0, .ptr 0 0), (2, .ptr 1 0), (3, i64 0)] [scanB s at', zB] ?_ fun env ⟨h0, h2, h3, _⟩ => ?_
  · simp -implicitDefEqProofs only [scanB, zB, Nat.reduceEqDiff, Nat.reduceLeDiff, Nat.reduceAdd, reduceCtorEq, go_sem, ↓reduceIte]
  refine wp_mid [(0, .ptr 0 0), (2, .ptr 1 0), (4, i64 at')] [scanB s at', zB] ?_ fun env ⟨h0, h2, h4, _⟩ => ?_
  · simp -implicitDefEqProofs only [h0, h2, h3, scanB, zB, Nat.reduceEqDiff, Nat.reduceLeDiff, Nat.reduceAdd, reduceCtorEq, go_sem, ↓reduceIte]
  refine wp_mid [(0, .ptr 0 0), (2, .ptr 1 0), (4, i64 at'), (5, .ptr 2 0)] [scanB s at', zB, zB] ?_ fun env ⟨h0, h2, h4, h5, _⟩ => ?_
  · simp -implicitDefEqProofs only [h0, h2, h4, scanB, zB, Nat.reduceEqDiff, Nat.reduceLeDiff, Nat.reduceAdd, reduceCtorEq, go_sem, ↓reduceIte]
  refine wp_mid [(0, .ptr 0 0), (2, .ptr 1 0), (4, i64 at'), (5, .ptr 2 0), (6, i64 0)] [scanB s at', zB, zB] ?_ fun env ⟨h0, h2, h4, h5, h6, _⟩ => ?_
  · simp -implicitDefEqProofs only [h0, h2, h4, h5, scanB, zB, Nat.reduceEqDiff, Nat.reduceLeDiff, Nat.reduceAdd, reduceCtorEq, go_sem, ↓reduceIte]
  have hsg := c134 (G := G) s at' hat hs2 o (by rw [hd]; exact ho)
  refine wp_mid [(0, .ptr 0 0), (2, .ptr 1 0), (4, i64 at'), (5, .ptr 2 0), (6, i64 e)] [scanB s (at' + (o.getD []).length), zB, tN (o.elim 0 fun _ => 4) (o.getD []) 0] ?_ fun env ⟨h0, h2, h4, h5, h6, _⟩ => ?_
  · rw [wp_block_eq]
    simp -implicitDefEqProofs only [h0, h2, h4, h5, h6, scanB, zB, Nat.reduceEqDiff, Nat.reduceLeDiff, Nat.reduceAdd, reduceCtorEq, go_sem, ↓reduceIte]
    refine callW_at [0] [0] (c130 s [34] at' 0 hat hs2 (by omega)) (by simp) rfl rfl rfl rfl rfl ?_
    rw [fq]
    simp -implicitDefEqProofs only [h0, h2, h4, h5, h6, scanB, zB, Nat.reduceEqDiff, Nat.reduceLeDiff, Nat.reduceAdd, reduceCtorEq, go_sem, ↓reduceIte]
    refine callW_at [0] [0] (c130 s [97, 98, 99, 100, 101, 102, 103, 104, 105, 106, 107, 108, 109, 110, 111, 112, 113, 114, 115, 116, 117, 118, 119, 120, 121, 122] at' 0 hat hs2 (by omega)) (by simp) rfl rfl rfl rfl rfl ?_
    rw [fl]
    simp -implicitDefEqProofs only [h0, h2, h4, h5, h6, scanB, zB, Nat.reduceEqDiff, Nat.reduceLeDiff, Nat.reduceAdd, reduceCtorEq, go_sem, ↓reduceIte]
    refine callW_at [0] [0] (c130 s [48, 49, 50, 51, 52, 53, 54, 55, 56, 57] at' 0 hat hs2 (by omega)) (by simp) rfl rfl rfl rfl rfl ?_
    rw [fd]
    simp -implicitDefEqProofs only [h0, h2, h4, h5, h6, scanB, zB, Nat.reduceEqDiff, Nat.reduceLeDiff, Nat.reduceAdd, reduceCtorEq, go_sem, ↓reduceIte]
    refine callW_at [0] [0] (c130 s [36] at' 0 hat hs2 (by omega)) (by simp) rfl rfl rfl rfl rfl ?_
    rw [fv]
    simp -implicitDefEqProofs only [h0, h2, h4, h5, h6, scanB, zB, Nat.reduceEqDiff, Nat.reduceLeDiff, Nat.reduceAdd, reduceCtorEq, go_sem, ↓reduceIte]
    refine callW_at [0] [0] (c130 s [45] at' 0 hat hs2 (by omega)) (by simp) rfl rfl rfl rfl rfl ?_
    rw [fm]
    simp -implicitDefEqProofs only [h0, h2, h4, h5, h6, scanB, zB, Nat.reduceEqDiff, Nat.reduceLeDiff, Nat.reduceAdd, reduceCtorEq, go_sem, ↓reduceIte]
    refine callW_at [0] [0] (c130 s [97, 98, 99, 100, 101, 102, 103, 104, 105, 106, 107, 108, 109, 110, 111, 112, 113, 114, 115, 116, 117, 118, 119, 120, 121, 122] at' 1 hat hs2 (by omega)) (by simp) rfl rfl rfl rfl rfl ?_
    rw [f1]
    simp -implicitDefEqProofs only [h0, h2, h4, h5, h6, scanB, zB, Nat.reduceEqDiff, Nat.reduceLeDiff, Nat.reduceAdd, reduceCtorEq, go_sem, ↓reduceIte]
    refine callW_at [0] [0] hsg (by simp) rfl rfl rfl rfl rfl ?_
    simp -implicitDefEqProofs only [h0, h2, h4, h5, h6, scanB, zB, tN, tokA, partsA, Nat.reduceEqDiff, Nat.reduceLeDiff, Nat.reduceAdd, reduceCtorEq, go_sem, ↓reduceIte]
    rw [he]
    exact ⟨rfl, rfl⟩
  by_cases he0 : e = 0
  · subst he0
    rw [if_pos rfl] at hn
    subst hn
    have z0 : (((0 : Nat) : Int) != 0) = false := rfl
    simp -implicitDefEqProofs only [h0, h2, h4, h5, h6, scanB, zB, tN, z0, Nat.reduceEqDiff, Nat.reduceLeDiff, Nat.reduceAdd, reduceCtorEq, go_sem, ↓reduceIte]
    rfl
  · have z0 : ((e : Int) != 0) = true := by simp [he0]
    rw [if_neg he0] at hn
    subst hn
    simp -implicitDefEqProofs only [h0, h2, h4, h5, h6, scanB, zB, tN, z0, Nat.reduceEqDiff, Nat.reduceLeDiff, Nat.reduceAdd, reduceCtorEq, go_sem, ↓reduceIte]
    rfl
theorem c58_text (s : Bytes) (at' : Nat) (hs : s.length ≤ 2147483000) (c : UInt8) (r : Bytes) (hd : s.drop at' = c :: r) (eq : c = 34) (F : List Part × Nat × Bool) (hF : qParse (c :: r) = F) :
    RR G 58 [.ptr 0 0] [scanB s at'] (.tup [tokA ⟨3, [], 0, F.1, at'⟩, i64 (if F.2.2 then 0 else 1)]) [scanB s (at' + F.2.1)] := by
  have hat : at' ≤ s.length := by
    have := (getD_drop s at' c r hd).1
    omega
  have hlt := (getD_drop s at' c r hd).1
  have hr := (getD_drop s at' c r hd).2.2
  have hlen : (c :: r).length = s.length - at' := by rw [← hd]; simp
  have hrl : r.length = s.length - (at' + 1) := by rw [← hr]; simp
  have hs2 : s.length ≤ 4611686018427387904 := by omega
  have hd0 : s.drop (at' + 0) = c :: r := hd
  have q (of : Bytes) : ((s.drop (at' + 0)).head?.any fun c => decide (0 ≤ idxB of c)) = inSet of c := isAt s of at' 0 c r hd0
  have fq : ((s.drop (at' + 0)).head?.any fun c => decide (0 ≤ idxB [34] c)) = true := by rw [q]; simp [inSet, eq]
  have htx := c131 (G := G) s at' hat hs F (by rw [hd]; exact hF)
  unfold scanB
  refine ret_intro Tryz.func58 rfl Tryz.results58 (by decide +kernel) rfl (Nat.le_refl _) rfl (by simp [renB, ren1, ren0]) ?_
  refine wp_mid [(0, .ptr 0 0), (2, .ptr 1 0), (3, i64 0)] [scanB s at', zB] ?_ fun env ⟨h0, h2, h3, _⟩ => ?_
  · simp -implicitDefEqProofs only [scanB, zB, Nat.reduceEqDiff, Nat.reduceLeDiff, Nat.reduceAdd, reduceCtorEq, go_sem, ↓reduceIte]
  refine wp_mid [(0, .ptr 0 0), (2, .ptr 1 0), (4, i64 at')] [scanB s at', zB] ?_ fun env ⟨h0, h2, h4, _⟩ => ?_
  · simp -implicitDefEqProofs only [h0, h2, h3, scanB, zB, Nat.reduceEqDiff, Nat.reduceLeDiff, Nat.reduceAdd, reduceCtorEq, go_sem, ↓reduceIte]
  refine wp_mid [(0, .ptr 0 0), (2, .ptr 1 0), (4, i64 at'), (5, .ptr 2 0)] [scanB s at', zB, zB] ?_ fun env ⟨h0, h2, h4, h5, _⟩ => ?_
  · simp -implicitDefEqProofs only [h0, h2, h4, scanB, zB, Nat.reduceEqDiff, Nat.reduceLeDiff, Nat.reduceAdd, reduceCtorEq, go_sem, ↓reduceIte]
  refine wp_mid [(0, .ptr 0 0), (2, .ptr 1 0), (4, i64 at'), (5, .ptr 2 0), (6, i64 0)] [scanB s at', zB, zB] ?_ fun env ⟨h0, h2, h4, h5, h6, _⟩ => ?_
  · simp -implicitDefEqProofs only [h0, h2, h4, h5, scanB, zB, Nat.reduceEqDiff, Nat.reduceLeDiff, Nat.reduceAdd, reduceCtorEq, go_sem, ↓reduceIte]
  simp -implicitDefEqProofs only [h0, h2, h4, h5, h6, scanB, zB, Nat.reduceEqDiff, Nat.reduceLeDiff, Nat.reduceAdd, reduceCtorEq, go_sem, ↓reduceIte]
  refine callW_at [0] [0] (c130 s [34] at' 0 hat hs2 (by omega)) (by simp) rfl rfl rfl rfl rfl ?_
  rw [fq]
  simp -implicitDefEqProofs only [h0, h2, h4, h5, h6, scanB, zB, Nat.reduceEqDiff, Nat.reduceLeDiff, Nat.reduceAdd, reduceCtorEq, go_sem, ↓reduceIte]
  refine callW_at [0] [0] htx (by simp) rfl rfl rfl rfl rfl ?_
  simp -implicitDefEqProofs only [h0, h2, h4, h5, h6, scanB, zB, tokA, partsA, Nat.reduceEqDiff, Nat.reduceLeDiff, Nat.reduceAdd, reduceCtorEq, go_sem, ↓reduceIte]
/-- The next token, or the error. -/
theorem c58 (hG : GOk G) (s : Bytes) (at' : Nat) (hs : s.length ≤ 2147483000) (c : UInt8) (r : Bytes) (hd : s.drop at' = c :: r) :
    ∃ (t : Tok) (e n : Nat), RR G 58 [.ptr 0 0] [scanB s at'] (.tup [tokA t, i64 e]) [scanB s n] ∧ (∀ t0 k, oneR (c :: r) at' = .ok (t0, k) → t = t0 ∧ e = 0 ∧ n = at' + k) ∧ (∀ b e0, oneR (c :: r) at' = .error (b, e0) → e = e0 ∧ n = at' + b) := by
  have hlen : (c :: r).length = s.length - at' := by rw [← hd]; simp
  by_cases el : letter c = true
  · have eq : c ≠ 34 := fun e => by rw [e] at el; cases el
    refine ⟨_, if ((c :: r).takeWhile within).length ≤ 14 then 0 else 1, _, c58_word s at' hs c r hd el eq _ rfl _ ?_ _ rfl, ?_, ?_⟩
    · by_cases h : ((c :: r).takeWhile within).length ≤ 14
      · have : decide ((((c :: r).takeWhile within).length : Int) ≤ 14) = true := by simp; omega
        rw [if_pos this, if_pos h] <;> rfl
      · have : decide ((((c :: r).takeWhile within).length : Int) ≤ 14) = false := by simp; omega
        rw [this, if_neg h] <;> rfl
    · intro t0 k hk
      simp only [oneR, el, if_true] at hk
      split at hk
      · cases hk
      · rename_i h14
        cases hk
        have : ((c :: r).takeWhile within).length ≤ 14 := by omega
        simp [this]
    · intro b e0 hk
      simp only [oneR, el, if_true] at hk
      split at hk
      · rename_i h14
        cases hk
        have : ¬ ((c :: r).takeWhile within).length ≤ 14 := by omega
        simp [this]
      · cases hk
  have el : letter c = false := by simpa using el
  by_cases ed : digit c = true
  · have eq : c ≠ 34 := fun e => by rw [e] at ed; cases ed
    have hw0 : (c :: r).takeWhile digit ≠ [] := by rw [List.takeWhile_cons_of_pos ed]; simp
    have hwl := tw_le digit (c :: r)
    have h133 := c133 hG ((c :: r).takeWhile digit) hw0 List.all_takeWhile (by omega)
    cases hv : numP ((c :: r).takeWhile digit) with
    | ok N =>
      rw [hv] at h133
      refine ⟨_, 0, _, c58_num s at' hs c r hd ed el eq _ rfl N 0 h133 _ rfl, ?_, ?_⟩
      · intro t0 k hk
        simp only [oneR, el, ed, if_true, hv] at hk
        cases hk
        simp
      · intro b e0 hk
        simp only [oneR, el, ed, if_true, hv] at hk
        cases hk
    | error e =>
      rw [hv] at h133
      have he : e ≠ 0 := fun h0 => by
        unfold numP at hv
        repeat' split at hv
        all_goals first | (cases hv; done) | (cases hv; cases h0)
      refine ⟨_, e, _, c58_num s at' hs c r hd ed el eq _ rfl 0 e h133 _ rfl, ?_, ?_⟩
      · intro t0 k hk
        simp only [oneR, el, ed, if_true, hv] at hk
        cases hk
      · intro b e0 hk
        simp only [oneR, el, ed, if_true, hv] at hk
        cases hk
        simp [he]
  have ed : digit c = false := by simpa using ed
  by_cases eq : c = 34
  · cases hF : qParse (c :: r) with
    | mk p z =>
      obtain ⟨k, b⟩ := z
      have htext := c58_text (G := G) s at' hs c r hd eq _ hF
      have h1 : oneR (c :: r) at' = if b then .ok (⟨3, [], 0, p, at'⟩, k) else .error (k, 1) := by
        simp only [oneR, el, ed, eq, if_true, if_false, Bool.false_eq_true]
        rw [← eq, hF]
        have e1 : letter c = false := el
        have e2 : digit c = false := ed
        rw [e1, e2]
        cases b <;> rfl
      rw [h1]
      cases b with
      | true => exact ⟨_, 0, at' + k, htext, fun t0 k' hk => (by cases hk; exact ⟨rfl, rfl, rfl⟩), fun b' e0 hk => (by cases hk)⟩
      | false => exact ⟨_, 1, at' + k, htext, fun t0 k' hk => (by cases hk), fun b' e0 hk => (by cases hk; exact ⟨rfl, rfl⟩)⟩
  by_cases ev : c = 36
  · refine ⟨_, if nameQ (r.takeWhile within) then 0 else 1, _, c58_var s at' hs c r hd ev ed el eq _ rfl _ ?_ _ rfl, ?_, ?_⟩
    · split <;> rfl
    all_goals
      have h1 : oneR (c :: r) at' = if nameP (r.takeWhile within) then .ok (⟨6, r.takeWhile within, 0, [], at'⟩, (r.takeWhile within).length + 1) else .error (0, 1) := by
        simp only [oneR, el, ed, eq, if_false, Bool.false_eq_true]
        rw [if_pos ev]
      rw [nameP_Q, h1]
      cases hn : nameP (r.takeWhile within) with
      | true =>
        intro t0 k hk
        cases hk <;> first
          | (simp; omega)
          | simp
      | false =>
        intro t0 k hk
        cases hk <;> first
          | (simp; omega)
          | simp
  have one : ∀ h : ¬ (c = 45 ∧ r.takeWhile letter ≠ []), oneR (c :: r) at' = match signL.find? (fun w => w.isPrefixOf (c :: r)) with
      | some w => .ok (⟨4, w, 0, [], at'⟩, w.length)
      | none => .error (0, 1) := fun h => by
    simp only [oneR, el, ed, eq, ev, if_false, Bool.false_eq_true]
    rw [if_neg h] <;> rfl
  have fin : ∀ (h : ¬ (c = 45 ∧ r.takeWhile letter ≠ [])) (o : Option Bytes), signL.find? (fun w => w.isPrefixOf (c :: r)) = o → (∀ (e : Nat) (he : (o.elim 1 fun _ => 0 : Int) = e) (n : Nat) (hn : n = if e = 0 then at' + (o.getD []).length else at'), RR G 58 [.ptr 0 0] [scanB s at'] (.tup [tokA ⟨o.elim 0 fun _ => 4, o.getD [], 0, [], at'⟩, i64 e]) [scanB s n]) →
      ∃ (t : Tok) (e n : Nat), RR G 58 [.ptr 0 0] [scanB s at'] (.tup [tokA t, i64 e]) [scanB s n] ∧ (∀ t0 k, oneR (c :: r) at' = .ok (t0, k) → t = t0 ∧ e = 0 ∧ n = at' + k) ∧ (∀ b e0, oneR (c :: r) at' = .error (b, e0) → e = e0 ∧ n = at' + b) := fun h o ho hl => by
    rw [one h, ho]
    cases o with
    | none => exact ⟨_, 1, at', hl 1 rfl at' rfl, fun t0 k hk => (by cases hk), fun b e0 hk => (by cases hk; exact ⟨rfl, rfl⟩)⟩
    | some w => exact ⟨_, 0, at' + w.length, hl 0 rfl _ rfl, fun t0 k hk => (by cases hk; exact ⟨rfl, rfl, rfl⟩), fun b e0 hk => (by cases hk)⟩
  by_cases em : c = 45
  · by_cases hne : r.takeWhile letter = []
    · exact fin (fun h => h.2 hne) _ rfl (fun e he n hn => c58_minus s at' hs c r hd em hne ev ed el eq _ rfl e he n hn)
    · refine ⟨_, if flagP (r.takeWhile letter) then 0 else 1, _, c58_flag s at' hs c r hd hG em ev ed el eq _ rfl hne _ ?_ _ rfl, ?_, ?_⟩
      · split <;> rfl
      all_goals
        have h1 : oneR (c :: r) at' = if flagP (r.takeWhile letter) then .ok (⟨5, r.takeWhile letter, 0, [], at'⟩, (r.takeWhile letter).length + 1) else .error (0, 1) := by
          simp only [oneR, el, ed, eq, ev, if_false, Bool.false_eq_true]
          rw [if_pos ⟨em, hne⟩]
        rw [h1]
        cases hn : flagP (r.takeWhile letter) with
        | true =>
          intro t0 k hk
          cases hk <;> first
            | (simp; omega)
            | simp
        | false =>
          intro t0 k hk
          cases hk <;> first
            | (simp; omega)
            | simp
  · exact fin (fun h => em h.1) _ rfl (fun e he n hn => c58_sign s at' hs c r hd em ev ed el eq _ rfl e he n hn)
end Go.Pv
/- The law of token.Scan. -/
namespace Go.Pv
open Go Go.Proofs
set_option maxRecDepth 4000
variable {G : Frz}
def toksA (l : List Tok) : AV := .sl .no ⟨5, 32⟩ (l.map tokA)
theorem scanR_nil (a : Nat) (out : List Tok) : scanR [] a out = (out, 0, 0) := by rw [scanR]
theorem scanR_cons (c : UInt8) (r : Bytes) (a : Nat) (out : List Tok) : scanR (c :: r) a out = if blank c then scanR r (a + 1) out
    else if c = 35 then scanR (r.dropWhile notNl) (a + 1 + (r.takeWhile notNl).length) out
    else match oneR (c :: r) a with
      | .ok (t, k) => scanR (r.drop (k - 1)) (a + k) (out ++ [t])
      | .error (b, e) => ([], a + b, e) := by rw [scanR] <;> rfl
theorem skipR_le (l : Bytes) : skipR l ≤ l.length := by
  induction h : l.length using Nat.strongRecOn generalizing l with
  | _ n ih =>
    subst h
    cases l with
    | nil => rw [skipR_nil]; exact Nat.le_refl _
    | cons c r =>
      rw [skipR_cons]
      split
      · have := ih r.length (by simp) r rfl
        simp; omega
      · split
        · have h1 := dropWhile_len notNl r
          have := ih (r.dropWhile notNl).length (by simp; omega) (r.dropWhile notNl) rfl
          simp; omega
        · simp
theorem scanR_skip (l : Bytes) (a : Nat) (out : List Tok) : scanR l a out = scanR (l.drop (skipR l)) (a + skipR l) out ∧ skipR (l.drop (skipR l)) = 0 := by
  induction h : l.length using Nat.strongRecOn generalizing l a with
  | _ n ih =>
    subst h
    cases l with
    | nil => rw [skipR_nil]; exact ⟨rfl, by simp [skipR_nil]⟩
    | cons c r =>
      rw [skipR_cons]
      by_cases hb : blank c = true
      · rw [if_pos hb]
        obtain ⟨h1, h2⟩ := ih r.length (by simp) r (a + 1) rfl
        rw [scanR_cons, if_pos hb, h1, List.drop_succ_cons, show a + 1 + skipR r = a + (skipR r + 1) by omega]
        exact ⟨rfl, h2⟩
      · rw [if_neg hb]
        by_cases hc : c = 35
        · rw [if_pos hc]
          have hl := dropWhile_len notNl r
          obtain ⟨h1, h2⟩ := ih (r.dropWhile notNl).length (by simp; omega) (r.dropWhile notNl) (a + 1 + (r.takeWhile notNl).length) rfl
          have e1 : (c :: r).drop (skipR (r.dropWhile notNl) + ((r.takeWhile notNl).length + 1)) = (r.dropWhile notNl).drop (skipR (r.dropWhile notNl)) := by
            rw [← Nat.add_assoc, List.drop_succ_cons, dw_drop notNl r, List.drop_drop, Nat.add_comm]
          rw [scanR_cons, if_neg hb, if_pos hc, h1, e1, show a + 1 + (r.takeWhile notNl).length + skipR (r.dropWhile notNl) = a + (skipR (r.dropWhile notNl) + ((r.takeWhile notNl).length + 1)) by omega]
          exact ⟨rfl, h2⟩
        · rw [if_neg hc]
          simp only [List.drop_zero, Nat.add_zero, true_and]
          rw [skipR_cons, if_neg hb, if_neg hc]
theorem skip_zero {c : UInt8} {r : Bytes} (h : skipR (c :: r) = 0) : blank c = false ∧ c ≠ 35 := by
  rw [skipR_cons] at h
  by_cases hb : blank c = true
  · rw [if_pos hb] at h; omega
  · rw [if_neg hb] at h
    by_cases hc : c = 35
    · rw [if_pos hc] at h; omega
    · exact ⟨by simpa using hb, hc⟩
theorem c18 (hG : GOk G) (s : Bytes) (hs : s.length ≤ 2147483000) (T : List Tok × Nat × Nat) (hT : scanT s = T) : RR G 18 [.str s] [] (.tup [toksA T.1, i64 T.2.1, i64 T.2.2]) [] := by
  have hs2 : s.length ≤ 4611686018427387904 := by omega
  unfold scanT at hT
  by_cases hlong : s.length > 2000
  · rw [if_pos hlong] at hT
    have hd : decide ((s.length : Int) > 2000) = true := by simp; omega
    subst hT
    refine ret_intro Tryz.func18 rfl Tryz.results18 (by decide +kernel) rfl (Nat.le_refl _) rfl (by simp) ?_
    simp -implicitDefEqProofs only [hd, Nat.reduceEqDiff, Nat.reduceLeDiff, Nat.reduceAdd, reduceCtorEq, go_sem, ↓reduceIte]
    rfl
  rw [if_neg hlong] at hT
  have hd : decide ((s.length : Int) > 2000) = false := by simp; omega
  refine ret_intro Tryz.func18 rfl Tryz.results18 (by decide +kernel) rfl (Nat.le_refl _) rfl (by simp) ?_
  refine wp_mid [(0, .str s)] [] ?_ fun env ⟨h0, _⟩ => ?_
  · simp -implicitDefEqProofs only [Nat.reduceEqDiff, Nat.reduceLeDiff, Nat.reduceAdd, reduceCtorEq, go_sem, ↓reduceIte]
  refine wp_mid [(0, .str s)] [] ?_ fun env ⟨h0, _⟩ => ?_
  · simp -implicitDefEqProofs only [h0, hd, Nat.reduceEqDiff, Nat.reduceLeDiff, Nat.reduceAdd, reduceCtorEq, go_sem, ↓reduceIte]
  refine wp_mid [(0, .str s), (5, .ptr 0 0)] [scanB s 0] ?_ fun env ⟨h0, h5, _⟩ => ?_
  · simp -implicitDefEqProofs only [h0, scanB, Nat.reduceEqDiff, Nat.reduceLeDiff, Nat.reduceAdd, reduceCtorEq, go_sem, ↓reduceIte]
    rfl
  refine wp_mid [(0, .str s), (5, .ptr 0 0), (6, .sl .yes ⟨5, 32⟩ [])] [scanB s 0] ?_ fun env ⟨h0, h5, h6, _⟩ => ?_
  · simp -implicitDefEqProofs only [h0, h5, scanB, Nat.reduceEqDiff, Nat.reduceLeDiff, Nat.reduceAdd, reduceCtorEq, go_sem, ↓reduceIte]
  refine wp_ghost (A := List Blk × List Tok) (fun z => T = (z.2, 0, 0)) (fun z => z.1) (fun z => [(6, .sl .yes ⟨5, 32⟩ (z.2.map tokA))]) ?_ fun z hz env ⟨h6, _⟩ => ?_
  · refine wp_mid [(0, .str s), (5, .ptr 0 0), (6, .sl .yes ⟨5, 32⟩ [])] [scanB s (skipR s)] ?_ fun env ⟨h0, h5, h6, _⟩ => ?_
    · simp -implicitDefEqProofs only [h0, h5, h6, scanB, Nat.reduceEqDiff, Nat.reduceLeDiff, Nat.reduceAdd, reduceCtorEq, go_sem, ↓reduceIte]
      refine callW_at [0] [0] (c57 s 0 (Nat.zero_le _) hs2) (by simp) rfl rfl rfl rfl rfl ?_
      simp -implicitDefEqProofs only [h0, h5, h6, scanB, Nat.reduceEqDiff, Nat.reduceLeDiff, Nat.reduceAdd, reduceCtorEq, go_sem, ↓reduceIte]
      rw [Nat.zero_add]
    rw [wp_block_eq]
    have hsk := scanR_skip s 0 []
    rw [Nat.zero_add] at hsk
    refine wp_loop_garb (A := Nat × List Tok) (fun z => [(0, .str s), (5, .ptr 0 0), (6, .sl .yes ⟨5, 32⟩ (z.2.map tokA))]) (fun z => [scanB s z.1]) (fun z => z.1 ≤ s.length ∧ z.2.length ≤ z.1 ∧ scanR (s.drop z.1) z.1 z.2 = T ∧ skipR (s.drop z.1) = 0) (fun z => s.length - z.1) (skipR s, []) ⟨skipR_le s, Nat.zero_le _, hsk.1 ▸ hT, hsk.2⟩ rfl ⟨h0, h5, h6, trivial⟩ ?_ ?_
    · intro z hz
      exact ⟨Nat.zero_le _, by simp [scanB, renB, ren1, ren0], by simp [ren, ren2, ren1, ren0]⟩
    rintro ⟨a, out⟩ ⟨ha, ho, hsc, hs0⟩
    simp only at ha ho hsc hs0
    by_cases hlt : a < s.length
    · have hdl : decide ((a : Int) < s.length) = true := by simp; omega
      refine wp_mid [(0, .str s), (5, .ptr 0 0), (6, .sl .yes ⟨5, 32⟩ (out.map tokA))] [scanB s a] ?_ fun env ⟨h0, h5, h6, _⟩ => ?_
      · simp -implicitDefEqProofs only [scanB, hdl, Nat.reduceEqDiff, Nat.reduceLeDiff, Nat.reduceAdd, reduceCtorEq, go_sem, ↓reduceIte]
      cases hd2 : s.drop a with
      | nil => rw [List.drop_eq_nil_iff] at hd2; omega
      | cons c r =>
        rw [hd2] at hs0 hsc
        obtain ⟨hb, h35⟩ := skip_zero hs0
        rw [scanR_cons, if_neg (by rw [hb]; simp), if_neg h35] at hsc
        obtain ⟨t, e, n, hlaw, hok, herr⟩ := c58 hG s a hs c r hd2
        cases hone : oneR (c :: r) a with
        | error z =>
          obtain ⟨b, e0⟩ := z
          rw [hone] at hsc
          obtain ⟨rfl, rfl⟩ := herr b e0 hone
          have he := (oneR_err hone).2
          have z0 : ((e : Int) != 0) = true := by simp; omega
          rw [← hsc]
          simp -implicitDefEqProofs only [h0, h5, h6, scanB, Nat.reduceEqDiff, Nat.reduceLeDiff, Nat.reduceAdd, reduceCtorEq, go_sem, ↓reduceIte]
          refine callW_at [0] [0] hlaw (by simp) rfl rfl rfl rfl rfl ?_
          simp -implicitDefEqProofs only [h0, h5, h6, scanB, tokA, partsA, z0, Nat.reduceEqDiff, Nat.reduceLeDiff, Nat.reduceAdd, reduceCtorEq, go_sem, ↓reduceIte]
          (refine WT_ord (t := lin [0, 1, 2, 4] (.both (lin [3, 5, 6, 7] .nil) (.both (lin [5, 3, 6, 7] .nil) (.top)))) ?_ ?_; kernel_rfl)
          simp -implicitDefEqProofs only [h0, h5, h6, Nat.reduceEqDiff, Nat.reduceLeDiff, Nat.reduceAdd, reduceCtorEq, go_sem, ↓reduceIte]
          rfl
        | ok z =>
          obtain ⟨t0, k⟩ := z
          rw [hone] at hsc
          obtain ⟨rfl, rfl, rfl⟩ := hok t0 k hone
          have hk := oneR_ok hone
          have hlen : (c :: r).length = s.length - a := by rw [← hd2]; simp
          have z0 : (((0 : Nat) : Int) != 0) = false := rfl
          have hol : (out.length + 1 ≤ lenLim) = True := by simp [lenLim]; omega
          refine wp_mid [(0, .str s), (5, .ptr 0 0), (6, .sl .yes ⟨5, 32⟩ ((out ++ [t]).map tokA))] [scanB s (a + k), .cells 32 [i64 t.kind, .str t.word, i64 t.n, partsA t.parts, i64 t.at']] ?_ fun env ⟨h0, h5, h6, _⟩ => ?_
          · simp -implicitDefEqProofs only [h0, h5, h6, scanB, Nat.reduceEqDiff, Nat.reduceLeDiff, Nat.reduceAdd, reduceCtorEq, go_sem, ↓reduceIte]
            refine callW_at [0] [0] hlaw (by simp) rfl rfl rfl rfl rfl ?_
            simp -implicitDefEqProofs only [h0, h5, h6, scanB, tokA, partsA, z0, hol, Nat.reduceEqDiff, Nat.reduceLeDiff, Nat.reduceAdd, reduceCtorEq, go_sem, ↓reduceIte]
            rw [List.map_append]
            rfl
          simp -implicitDefEqProofs only [h0, h5, h6, scanB, Nat.reduceEqDiff, Nat.reduceLeDiff, Nat.reduceAdd, reduceCtorEq, go_sem, ↓reduceIte]
          refine callW_at [0] [0] (c57 s (a + k) (by omega) hs2) (by simp) rfl rfl rfl rfl rfl ?_
          simp -implicitDefEqProofs only [h0, h5, h6, scanB, Nat.reduceEqDiff, Nat.reduceLeDiff, Nat.reduceAdd, reduceCtorEq, go_sem, ↓reduceIte]
          have hdr : s.drop (a + k) = r.drop (k - 1) := by
            rw [← List.drop_drop, hd2]
            obtain ⟨m, hm⟩ : ∃ m, k = m + 1 := ⟨k - 1, by omega⟩
            rw [hm] <;> rfl
          have hsl := skipR_le (s.drop (a + k))
          rw [List.length_drop] at hsl
          have hsk2 := scanR_skip (s.drop (a + k)) (a + k) (out ++ [t])
          rw [List.drop_drop] at hsk2
          refine ⟨(a + k + skipR (s.drop (a + k)), out ++ [t]), ⟨⟨by simp only; omega, by simp; omega, ?_, hsk2.2⟩, by simp only; omega⟩, rfl, rfl⟩
          rw [← hsk2.1, hdr]
          exact hsc
    · have hae : a = s.length := by omega
      subst hae
      have hdl : decide ((s.length : Int) < s.length) = false := by simp
      rw [List.drop_length, scanR_nil] at hsc
      simp -implicitDefEqProofs only [scanB, hdl, Nat.reduceEqDiff, Nat.reduceLeDiff, Nat.reduceAdd, reduceCtorEq, go_sem, ↓reduceIte]
      exact ⟨(_, out), hsc.symm, rfl, rfl⟩
  rw [hz]
  simp -implicitDefEqProofs only [h6, Nat.reduceEqDiff, Nat.reduceLeDiff, Nat.reduceAdd, reduceCtorEq, go_sem, ↓reduceIte]
  rfl
end Go.Pv
/- Laws of the second reference: bytes, digits, what stands behind a stroke, variables. -/
namespace Go.Pv
open Go Go.Proofs
set_option maxRecDepth 4000
variable {G : Frz}
theorem c200 (s : Bytes) (i : Nat) : RR G 200 [.str s, i64 i] [] (byte (s.getD i 0)) [] := by
  have t : ((i : Nat) : Int).toNat = i := Int.toNat_natCast _
  by_cases h : i < s.length
  · have hd : decide ((i : Int) < s.length) = true := by simp; omega
    refine ret_intro Tryz.func200 rfl Tryz.results200 (by decide +kernel) rfl (Nat.le_refl _) rfl (by simp) ?_
    simp -implicitDefEqProofs only [hd, t, Nat.reduceEqDiff, Nat.reduceLeDiff, Nat.reduceAdd, reduceCtorEq, go_sem, ↓reduceIte]
    exact ⟨by omega, h⟩
  · have hd : decide ((i : Int) < s.length) = false := by simp; omega
    have h0 : s.getD i 0 = 0 := by simp [List.getD, List.getElem?_eq_none (Nat.le_of_not_lt h)]
    rw [h0]
    refine ret_intro Tryz.func200 rfl Tryz.results200 (by decide +kernel) rfl (Nat.le_refl _) rfl (by simp) ?_
    simp -implicitDefEqProofs only [hd, Nat.reduceEqDiff, Nat.reduceLeDiff, Nat.reduceAdd, reduceCtorEq, go_sem, ↓reduceIte]
    rfl
def hexI (c : UInt8) : Int := match hexd c with
  | some n => n
  | none => -1
theorem c266 (c : UInt8) : RR G 266 [byte c] [] (i64 (hexI c)) [] := by
  have hc := UInt8.toNat_lt c
  refine ret_intro Tryz.func266 rfl Tryz.results266 (by decide +kernel) rfl (Nat.le_refl _) rfl (by simp) ?_
  simp -implicitDefEqProofs only [Nat.reduceEqDiff, Nat.reduceLeDiff, Nat.reduceAdd, reduceCtorEq, go_sem, ↓reduceIte]
  have w1 : IntKind.i64.wrap (IntKind.i64.wrap (c.toNat : Int) - 48) = (c.toNat : Int) - 48 := by rw [IntKind.wrap_i64, IntKind.wrap_i64]; omega
  have w2 : IntKind.i64.wrap (IntKind.i64.wrap (IntKind.i64.wrap (c.toNat : Int) - 97) + 10) = (c.toNat : Int) - 87 := by rw [IntKind.wrap_i64, IntKind.wrap_i64, IntKind.wrap_i64]; omega
  rw [w1, w2]
  have hx : hexI c = if 48 ≤ (c.toNat : Int) ∧ (c.toNat : Int) ≤ 57 then (c.toNat : Int) - 48 else if 97 ≤ (c.toNat : Int) ∧ (c.toNat : Int) ≤ 102 then (c.toNat : Int) - 87 else -1 := by
    have h : ∀ n : Fin 256, hexI (UInt8.ofNat n.val) = if 48 ≤ ((UInt8.ofNat n.val).toNat : Int) ∧ ((UInt8.ofNat n.val).toNat : Int) ≤ 57 then ((UInt8.ofNat n.val).toNat : Int) - 48 else if 97 ≤ ((UInt8.ofNat n.val).toNat : Int) ∧ ((UInt8.ofNat n.val).toNat : Int) ≤ 102 then ((UInt8.ofNat n.val).toNat : Int) - 87 else -1 := by decide +kernel
    have := h ⟨c.toNat, hc⟩
    simpa using this
  rw [hx]
  simp only [decide_eq_true_eq, decide_eq_false_iff_not, Option.some.injEq, AV.int.injEq, true_and]
  refine ⟨fun a => ⟨fun b => ?_, fun b => ⟨fun d => ⟨fun e => ?_, fun e => ?_⟩, fun d => ?_⟩⟩, fun a => ⟨fun d => ⟨fun e => ?_, fun e => ?_⟩, fun d => ?_⟩⟩
  all_goals (repeat' split) <;> omega
def escB (z : Except Nat (UInt8 × Nat)) : UInt8 := match z with
  | .ok (b, _) => b
  | .error _ => 0
def escK (z : Except Nat (UInt8 × Nat)) : Int := match z with
  | .ok (_, k) => k
  | .error _ => -1
def escP (z : Except Nat (UInt8 × Nat)) (i : Nat) : Nat := match z with
  | .ok _ => 0
  | .error k => i + k
/-- Is there a digit to base 16? -/
def hexAt (s : Bytes) (j : Nat) : Bool := decide (j < s.length) && (hexd (s.getD j 0)).isSome
theorem hexAt_cons (s : Bytes) (j : Nat) (a : UInt8) (r : Bytes) (h : s.drop j = a :: r) : hexAt s j = (hexd a).isSome := by
  obtain ⟨h1, h2, _⟩ := getD_drop s j a r h
  simp only [hexAt, h2]; simp [h1]
theorem hexAt_nil (s : Bytes) (j : Nat) (h : s.drop j = []) : hexAt s j = false := by
  rw [List.drop_eq_nil_iff] at h
  simp [hexAt]; omega
theorem esc_x1 (s : Bytes) (i : Nat) (r : Bytes) (hr : s.drop (i + 1) = r) (h1 : hexAt s (i + 1) = false) : escR (120 :: r) = .error 1 := by
  cases r with
  | nil => rfl
  | cons a r =>
    rw [hexAt_cons s _ a r hr] at h1
    have : hexd a = none := by simpa using h1
    simp [escR, this]
theorem esc_x2 (s : Bytes) (i : Nat) (r : Bytes) (hr : s.drop (i + 1) = r) (h1 : hexAt s (i + 1) = true) (h2 : hexAt s (i + 2) = false) : escR (120 :: r) = .error 2 := by
  cases r with
  | nil => rw [hexAt_nil s _ hr] at h1; cases h1
  | cons a r =>
    have hr2 := (getD_drop s _ a r hr).2.2
    rw [hexAt_cons s _ a r hr] at h1
    obtain ⟨x, hx⟩ := Option.isSome_iff_exists.1 h1
    cases r with
    | nil => simp [escR, hx]
    | cons b r =>
      rw [hexAt_cons s _ b r hr2] at h2
      have : hexd b = none := by simpa using h2
      simp [escR, hx, this]
theorem esc_x3 (s : Bytes) (i : Nat) (r : Bytes) (hr : s.drop (i + 1) = r) (h1 : hexAt s (i + 1) = true) (h2 : hexAt s (i + 2) = true) : escR (120 :: r) = .ok (UInt8.ofNat ((hexd (s.getD (i + 1) 0)).getD 0 * 16 + (hexd (s.getD (i + 2) 0)).getD 0), 3) := by
  cases r with
  | nil => rw [hexAt_nil s _ hr] at h1; cases h1
  | cons a r =>
    obtain ⟨_, ha, hr2⟩ := getD_drop s _ a r hr
    rw [hexAt_cons s _ a r hr] at h1
    obtain ⟨x, hx⟩ := Option.isSome_iff_exists.1 h1
    cases r with
    | nil => rw [hexAt_nil s _ hr2] at h2; cases h2
    | cons b r =>
      obtain ⟨_, hb, _⟩ := getD_drop s _ b r hr2
      rw [hexAt_cons s _ b r hr2] at h2
      obtain ⟨y, hy⟩ := Option.isSome_iff_exists.1 h2
      rw [ha, hb]
      simp [escR, hx, hy]
theorem c202 (s : Bytes) (i : Nat) (hi : i ≤ s.length) (hs : s.length ≤ 2147483000) (z : Except Nat (UInt8 × Nat)) (hz : escR (s.drop i) = z) : RR G 202 [.str s, i64 i] [] (.tup [byte (escB z), i64 (escK z), i64 (escP z i)]) [] := by
  cases hd : s.drop i with
  | nil =>
    rw [hd] at hz
    subst hz
    have hlt : ¬ i < s.length := by rw [List.drop_eq_nil_iff] at hd; omega
    have d1 : decide ((i : Int) ≥ s.length) = true := by simp; omega
    refine ret_intro Tryz.func202 rfl Tryz.results202 (by decide +kernel) rfl (Nat.le_refl _) rfl (by simp) ?_
    simp -implicitDefEqProofs only [Nat.reduceEqDiff, Nat.reduceLeDiff, Nat.reduceAdd, reduceCtorEq, go_sem, ↓reduceIte]
    refine callW_pure (c200 s i) rfl rfl ?_
    simp -implicitDefEqProofs only [d1, Nat.reduceEqDiff, Nat.reduceLeDiff, Nat.reduceAdd, reduceCtorEq, go_sem, ↓reduceIte]
    rfl
  | cons c r =>
    obtain ⟨hlt, hget, hr⟩ := getD_drop s i c r hd
    rw [hd] at hz
    have d1 : decide ((i : Int) ≥ s.length) = false := by simp; omega
    by_cases h110 : c = 110
    · subst h110
      subst hz
      have e1 : (((110 : UInt8).toNat : Int) == 110) = true := rfl
      refine ret_intro Tryz.func202 rfl Tryz.results202 (by decide +kernel) rfl (Nat.le_refl _) rfl (by simp) ?_
      simp -implicitDefEqProofs only [Nat.reduceEqDiff, Nat.reduceLeDiff, Nat.reduceAdd, reduceCtorEq, go_sem, ↓reduceIte]
      refine callW_pure (c200 s i) rfl rfl ?_
      rw [hget]
      simp -implicitDefEqProofs only [d1, e1, Nat.reduceEqDiff, Nat.reduceLeDiff, Nat.reduceAdd, reduceCtorEq, go_sem, ↓reduceIte]
      rfl
    have e1 : ((c.toNat : Int) == 110) = false := byte_ne c 110 h110
    by_cases h114 : c = 114
    · subst h114
      subst hz
      have e2 : (((114 : UInt8).toNat : Int) == 114) = true := rfl
      refine ret_intro Tryz.func202 rfl Tryz.results202 (by decide +kernel) rfl (Nat.le_refl _) rfl (by simp) ?_
      simp -implicitDefEqProofs only [Nat.reduceEqDiff, Nat.reduceLeDiff, Nat.reduceAdd, reduceCtorEq, go_sem, ↓reduceIte]
      refine callW_pure (c200 s i) rfl rfl ?_
      rw [hget]
      simp -implicitDefEqProofs only [d1, e1, e2, Nat.reduceEqDiff, Nat.reduceLeDiff, Nat.reduceAdd, reduceCtorEq, go_sem, ↓reduceIte]
      rfl
    have e2 : ((c.toNat : Int) == 114) = false := byte_ne c 114 h114
    by_cases h116 : c = 116
    · subst h116
      subst hz
      have e3 : (((116 : UInt8).toNat : Int) == 116) = true := rfl
      refine ret_intro Tryz.func202 rfl Tryz.results202 (by decide +kernel) rfl (Nat.le_refl _) rfl (by simp) ?_
      simp -implicitDefEqProofs only [Nat.reduceEqDiff, Nat.reduceLeDiff, Nat.reduceAdd, reduceCtorEq, go_sem, ↓reduceIte]
      refine callW_pure (c200 s i) rfl rfl ?_
      rw [hget]
      simp -implicitDefEqProofs only [d1, e1, e2, e3, Nat.reduceEqDiff, Nat.reduceLeDiff, Nat.reduceAdd, reduceCtorEq, go_sem, ↓reduceIte]
      rfl
    have e3 : ((c.toNat : Int) == 116) = false := byte_ne c 116 h116
    by_cases hq : c = 34 ∨ c = 92 ∨ c = 36
    · have hz2 : z = .ok (c, 1) := by
        rw [← hz]; simp only [escR, h110, h114, h116, if_false]; rw [if_pos hq]
      subst hz2
      rcases hq with rfl | rfl | rfl
      · have e4 : (((34 : UInt8).toNat : Int) == 34) = true := rfl
        refine ret_intro Tryz.func202 rfl Tryz.results202 (by decide +kernel) rfl (Nat.le_refl _) rfl (by simp) ?_
        simp -implicitDefEqProofs only [Nat.reduceEqDiff, Nat.reduceLeDiff, Nat.reduceAdd, reduceCtorEq, go_sem, ↓reduceIte]
        refine callW_pure (c200 s i) rfl rfl ?_
        rw [hget]
        simp -implicitDefEqProofs only [d1, e1, e2, e3, e4, Nat.reduceEqDiff, Nat.reduceLeDiff, Nat.reduceAdd, reduceCtorEq, go_sem, ↓reduceIte]
        rfl
      · have e4 : (((92 : UInt8).toNat : Int) == 34) = false := rfl
        have e5 : (((92 : UInt8).toNat : Int) == 92) = true := rfl
        refine ret_intro Tryz.func202 rfl Tryz.results202 (by decide +kernel) rfl (Nat.le_refl _) rfl (by simp) ?_
        simp -implicitDefEqProofs only [Nat.reduceEqDiff, Nat.reduceLeDiff, Nat.reduceAdd, reduceCtorEq, go_sem, ↓reduceIte]
        refine callW_pure (c200 s i) rfl rfl ?_
        rw [hget]
        simp -implicitDefEqProofs only [d1, e1, e2, e3, e4, e5, Nat.reduceEqDiff, Nat.reduceLeDiff, Nat.reduceAdd, reduceCtorEq, go_sem, ↓reduceIte]
        rfl
      · have e4 : (((36 : UInt8).toNat : Int) == 34) = false := rfl
        have e5 : (((36 : UInt8).toNat : Int) == 92) = false := rfl
        have e6 : (((36 : UInt8).toNat : Int) == 36) = true := rfl
        refine ret_intro Tryz.func202 rfl Tryz.results202 (by decide +kernel) rfl (Nat.le_refl _) rfl (by simp) ?_
        simp -implicitDefEqProofs only [Nat.reduceEqDiff, Nat.reduceLeDiff, Nat.reduceAdd, reduceCtorEq, go_sem, ↓reduceIte]
        refine callW_pure (c200 s i) rfl rfl ?_
        rw [hget]
        simp -implicitDefEqProofs only [d1, e1, e2, e3, e4, e5, e6, Nat.reduceEqDiff, Nat.reduceLeDiff, Nat.reduceAdd, reduceCtorEq, go_sem, ↓reduceIte]
        rfl
    have e4 : ((c.toNat : Int) == 34) = false := byte_ne c 34 fun h => hq (.inl h)
    have e5 : ((c.toNat : Int) == 92) = false := byte_ne c 92 fun h => hq (.inr (.inl h))
    have e6 : ((c.toNat : Int) == 36) = false := byte_ne c 36 fun h => hq (.inr (.inr h))
    by_cases hx : c = 120
    · subst hx
      have e7 : (((120 : UInt8).toNat : Int) != 120) = false := rfl
      have hv : ∀ c, hexI c = if (hexd c).isSome then ((hexd c).getD 0 : Int) else -1 := fun c => by
        unfold hexI; cases hexd c <;> simp
      refine ret_intro Tryz.func202 rfl Tryz.results202 (by decide +kernel) rfl (Nat.le_refl _) rfl (by simp) ?_
      refine wp_mid [(0, .str s), (1, i64 i)] [] ?_ fun env ⟨h0, h1, _⟩ => ?_
      · simp -implicitDefEqProofs only [Nat.reduceEqDiff, Nat.reduceLeDiff, Nat.reduceAdd, reduceCtorEq, go_sem, ↓reduceIte]
      refine wp_mid [(0, .str s), (1, i64 i), (7, byte 120)] [] ?_ fun env ⟨h0, h1, h7, _⟩ => ?_
      · simp -implicitDefEqProofs only [h0, h1, Nat.reduceEqDiff, Nat.reduceLeDiff, Nat.reduceAdd, reduceCtorEq, go_sem, ↓reduceIte]
        refine callW_pure (c200 s i) rfl rfl ?_
        rw [hget]
        simp -implicitDefEqProofs only [h0, h1, Nat.reduceEqDiff, Nat.reduceLeDiff, Nat.reduceAdd, reduceCtorEq, go_sem, ↓reduceIte]
      refine wp_mid [(0, .str s), (1, i64 i), (7, byte 120)] [] ?_ fun env ⟨h0, h1, h7, _⟩ => ?_
      · simp -implicitDefEqProofs only [h0, h1, h7, d1, Nat.reduceEqDiff, Nat.reduceLeDiff, Nat.reduceAdd, reduceCtorEq, go_sem, ↓reduceIte]
      refine wp_mid [(0, .str s), (1, i64 i), (7, byte 120)] [] ?_ fun env ⟨h0, h1, h7, _⟩ => ?_
      · simp -implicitDefEqProofs only [h0, h1, h7, e1, Nat.reduceEqDiff, Nat.reduceLeDiff, Nat.reduceAdd, reduceCtorEq, go_sem, ↓reduceIte]
      refine wp_mid [(0, .str s), (1, i64 i), (7, byte 120)] [] ?_ fun env ⟨h0, h1, h7, _⟩ => ?_
      · simp -implicitDefEqProofs only [h0, h1, h7, e2, Nat.reduceEqDiff, Nat.reduceLeDiff, Nat.reduceAdd, reduceCtorEq, go_sem, ↓reduceIte]
      refine wp_mid [(0, .str s), (1, i64 i), (7, byte 120)] [] ?_ fun env ⟨h0, h1, h7, _⟩ => ?_
      · simp -implicitDefEqProofs only [h0, h1, h7, e3, Nat.reduceEqDiff, Nat.reduceLeDiff, Nat.reduceAdd, reduceCtorEq, go_sem, ↓reduceIte]
      refine wp_mid [(0, .str s), (1, i64 i), (7, byte 120)] [] ?_ fun env ⟨h0, h1, h7, _⟩ => ?_
      · simp -implicitDefEqProofs only [h0, h1, h7, e4, e5, e6, Nat.reduceEqDiff, Nat.reduceLeDiff, Nat.reduceAdd, reduceCtorEq, go_sem, ↓reduceIte]
      refine wp_mid [(0, .str s), (1, i64 i), (7, byte 120)] [] ?_ fun env ⟨h0, h1, h7, _⟩ => ?_
      · simp -implicitDefEqProofs only [h0, h1, h7, e7, Nat.reduceEqDiff, Nat.reduceLeDiff, Nat.reduceAdd, reduceCtorEq, go_sem, ↓reduceIte]
      refine wp_ghost (A := Unit) (fun _ => hexAt s (i + 1) = true ∧ hexAt s (i + 2) = true) (fun _ => []) (fun _ => [(0, .str s), (1, i64 i)]) ?_ fun _ hh env ⟨h0, h1, _⟩ => ?_
      · refine wp_mid [(0, .str s), (1, i64 i), (8, i64 (1 : Nat))] [] ?_ fun env ⟨h0, h1, h8, _⟩ => ?_
        · simp -implicitDefEqProofs only [h0, h1, h7, Nat.reduceEqDiff, Nat.reduceLeDiff, Nat.reduceAdd, reduceCtorEq, go_sem, ↓reduceIte]
          rfl
        rw [wp_block_eq]
        refine wp_loop_use (A := Nat) (fun k => [(0, .str s), (1, i64 i), (8, i64 k)]) (fun _ => []) (fun k => 1 ≤ k ∧ k ≤ 3 ∧ (1 < k → hexAt s (i + 1) = true) ∧ (2 < k → hexAt s (i + 2) = true)) (fun k => 3 - k) 1 ⟨by omega, by omega, fun h => absurd h (by omega), fun h => absurd h (by omega)⟩ rfl ⟨h0, h1, h8, trivial⟩ ?_
        intro k ⟨k1, k2, k3, k4⟩
        have hwk := wrap_nat i k (by omega)
        have tk : ((i + k : Nat) : Int).toNat = i + k := Int.toNat_natCast _
        by_cases hk3 : k = 3
        · subst hk3
          have dk : decide (((3 : Nat) : Int) ≤ 2) = false := rfl
          simp -implicitDefEqProofs only [dk, Nat.reduceEqDiff, Nat.reduceLeDiff, Nat.reduceAdd, reduceCtorEq, go_sem, ↓reduceIte]
          exact ⟨(), k3 (by omega), k4 (by omega)⟩
        · have dk : decide ((k : Int) ≤ 2) = true := by simp; omega
          have hkk : hexAt s (i + k) = true → ∃ a', (1 ≤ a' ∧ a' ≤ 3 ∧ (1 < a' → hexAt s (i + 1) = true) ∧ (2 < a' → hexAt s (i + 2) = true)) ∧ 3 - a' < 3 - k ∧ a' = k + 1 := fun hh => by
            refine ⟨k + 1, ⟨by omega, by omega, fun _ => ?_, fun h2 => ?_⟩, by omega, rfl⟩
            · by_cases h : k = 1
              · subst h; exact hh
              · exact k3 (by omega)
            · have : k = 2 := by omega
              subst this; exact hh
          have hfail : hexAt s (i + k) = false → z = .error k := fun hh => by
            rw [← hz]
            have : k = 1 ∨ k = 2 := by omega
            rcases this with rfl | rfl
            · exact esc_x1 s i r hr hh
            · exact esc_x2 s i r hr (k3 (by omega)) hh
          by_cases hlk : i + k < s.length
          · have dl : decide (((i + k : Nat) : Int) ≥ s.length) = false := by simp; omega
            simp -implicitDefEqProofs only [dk, hwk, dl, tk, Nat.reduceEqDiff, Nat.reduceLeDiff, Nat.reduceAdd, reduceCtorEq, go_sem, ↓reduceIte]
            refine ⟨by omega, hlk, ?_⟩
            refine callW_pure (c266 (s.getD (i + k) 0)) rfl rfl ?_
            rw [hv]
            cases hh : (hexd (s.getD (i + k) 0)).isSome with
            | true =>
              have ha : hexAt s (i + k) = true := by simp only [hexAt, hh]; simp [hlk]
              have d0 : decide ((((hexd (s.getD (i + k) 0)).getD 0 : Nat) : Int) < 0) = false := by simp
              simp -implicitDefEqProofs only [d0, if_true, Nat.reduceEqDiff, Nat.reduceLeDiff, Nat.reduceAdd, reduceCtorEq, go_sem, ↓reduceIte]
              obtain ⟨a', g1, g2, g3⟩ := hkk ha
              refine ⟨a', ⟨g1, g2⟩, ?_⟩
              rw [g3, wrap_succ k 3 (by omega) (by omega)]
            | false =>
              have ha : hexAt s (i + k) = false := by simp only [hexAt, hh]; simp
              have d0 : decide ((-1 : Int) < 0) = true := rfl
              simp -implicitDefEqProofs only [d0, Bool.false_eq_true, if_false, hwk, Nat.reduceEqDiff, Nat.reduceLeDiff, Nat.reduceAdd, reduceCtorEq, go_sem, ↓reduceIte]
              rw [hfail ha]
              rfl
          · have dl : decide (((i + k : Nat) : Int) ≥ s.length) = true := by simp; omega
            have ha : hexAt s (i + k) = false := by simp [hexAt, hlk]
            simp -implicitDefEqProofs only [dk, hwk, dl, Nat.reduceEqDiff, Nat.reduceLeDiff, Nat.reduceAdd, reduceCtorEq, go_sem, ↓reduceIte]
            rw [hfail ha]
            rfl
      · have hz3 := esc_x3 s i r hr hh.1 hh.2
        rw [hz] at hz3
        subst hz3
        have l1 : i + 1 < s.length := by have := hh.1; simp [hexAt] at this; exact this.1
        have l2 : i + 2 < s.length := by have := hh.2; simp [hexAt] at this; exact this.1
        have s1 : (hexd (s.getD (i + 1) 0)).isSome = true := by have := hh.1; simp only [hexAt, Bool.and_eq_true] at this; exact this.2
        have s2 : (hexd (s.getD (i + 2) 0)).isSome = true := by have := hh.2; simp only [hexAt, Bool.and_eq_true] at this; exact this.2
        have w1 : IntKind.i64.wrap ((i : Int) + 1) = ((i + 1 : Nat) : Int) := wrap_nat i 1 (by omega)
        have w2 : IntKind.i64.wrap ((i : Int) + 2) = ((i + 2 : Nat) : Int) := wrap_nat i 2 (by omega)
        have t1 : ((i + 1 : Nat) : Int).toNat = i + 1 := Int.toNat_natCast _
        have t2 : ((i + 2 : Nat) : Int).toNat = i + 2 := Int.toNat_natCast _
        have v1 := hv (s.getD (i + 1) 0)
        have v2 := hv (s.getD (i + 2) 0)
        rw [s1, if_pos rfl] at v1
        rw [s2, if_pos rfl] at v2
        simp -implicitDefEqProofs only [h0, h1, Nat.reduceEqDiff, Nat.reduceLeDiff, Nat.reduceAdd, reduceCtorEq, go_sem, ↓reduceIte]
        (refine WT_ord (t := lin [0, 1, 2, 3, 4, 5, 6, 7, 8, 9, 10, 11, 12, 13, 14, 15] .nil) ?_ ?_; kernel_rfl)
        simp -implicitDefEqProofs only [h0, h1, w1, w2, t1, t2, Nat.reduceEqDiff, Nat.reduceLeDiff, Nat.reduceAdd, reduceCtorEq, go_sem, ↓reduceIte]
        refine ⟨by omega, l1, ?_⟩
        refine callW_pure (c266 (s.getD (i + 1) 0)) rfl rfl ?_
        rw [v1]
        simp -implicitDefEqProofs only [h0, h1, w1, w2, t1, t2, Nat.reduceEqDiff, Nat.reduceLeDiff, Nat.reduceAdd, reduceCtorEq, go_sem, ↓reduceIte]
        refine ⟨by omega, l2, ?_⟩
        refine callW_pure (c266 (s.getD (i + 2) 0)) rfl rfl ?_
        rw [v2]
        simp -implicitDefEqProofs only [h0, h1, Nat.reduceEqDiff, Nat.reduceLeDiff, Nat.reduceAdd, reduceCtorEq, go_sem, ↓reduceIte]
        obtain ⟨x, hx⟩ := Option.isSome_iff_exists.1 s1
        obtain ⟨y, hy⟩ := Option.isSome_iff_exists.1 s2
        have hxl := hexd_lt _ x hx
        have hyl := hexd_lt _ y hy
        rw [hx, hy]
        have hb : ∀ a b : Fin 16, IntKind.u8.wrap (IntKind.i64.wrap (IntKind.i64.wrap ((a.val : Int) * 16) + (b.val : Int))) = ((UInt8.ofNat (a.val * 16 + b.val)).toNat : Int) := by decide +kernel
        have := hb ⟨x, hxl⟩ ⟨y, hyl⟩
        simp only [Option.getD_some]
        simp only at this
        rw [this]
        rfl
    · have e7 : ((c.toNat : Int) != 120) = true := by
        have := byte_ne c 120 hx
        have h2 : ((c.toNat : Int) == 120) = false := this
        simp only [bne, h2]; rfl
      have hz2 : z = .error 0 := by
        rw [← hz]; simp only [escR, h110, h114, h116, if_false]; rw [if_neg hq, if_neg hx]
      subst hz2
      refine ret_intro Tryz.func202 rfl Tryz.results202 (by decide +kernel) rfl (Nat.le_refl _) rfl (by simp) ?_
      simp -implicitDefEqProofs only [Nat.reduceEqDiff, Nat.reduceLeDiff, Nat.reduceAdd, reduceCtorEq, go_sem, ↓reduceIte]
      refine callW_pure (c200 s i) rfl rfl ?_
      rw [hget]
      simp -implicitDefEqProofs only [d1, e1, e2, e3, e4, e5, e6, e7, Nat.reduceEqDiff, Nat.reduceLeDiff, Nat.reduceAdd, reduceCtorEq, go_sem, ↓reduceIte]
      rfl
/-! ### A variable -/
def varW (z : Except Nat (Bytes × Nat)) : Bytes := match z with
  | .ok (w, _) => w
  | .error _ => []
def varK (z : Except Nat (Bytes × Nat)) : Int := match z with
  | .ok (_, k) => k
  | .error _ => -1
def varP (z : Except Nat (Bytes × Nat)) (i : Nat) : Nat := match z with
  | .ok _ => 0
  | .error k => i + k
theorem c201_bad0 (s : Bytes) (i : Nat) (hb : s.getD i 0 ≠ 123) : RR G 201 [.str s, i64 i] [] (.tup [.str [], i64 (-1), i64 i]) [] := by
  have e1 : (((s.getD i 0).toNat : Int) != 123) = true := by
    have h2 : (((s.getD i 0).toNat : Int) == 123) = false := byte_ne _ 123 hb
    simp only [bne, h2]; rfl
  refine ret_intro Tryz.func201 rfl Tryz.results201 (by decide +kernel) rfl (Nat.le_refl _) rfl (by simp) ?_
  simp -implicitDefEqProofs only [Nat.reduceEqDiff, Nat.reduceLeDiff, Nat.reduceAdd, reduceCtorEq, go_sem, ↓reduceIte]
  refine callW_pure (c200 s i) rfl rfl ?_
  simp -implicitDefEqProofs only [e1, Nat.reduceEqDiff, Nat.reduceLeDiff, Nat.reduceAdd, reduceCtorEq, go_sem, ↓reduceIte]
theorem c201_bad1 (s : Bytes) (i : Nat) (hs : i ≤ 2147483000) (hb : s.getD i 0 = 123) (hf : ¬ (i + 1 < s.length) ∨ isFst (s.getD (i + 1) 0) = false) : RR G 201 [.str s, i64 i] [] (.tup [.str [], i64 (-1), i64 (i + 1 : Nat)]) [] := by
  have e1 : (((123 : UInt8).toNat : Int) != 123) = false := rfl
  have w1 : IntKind.i64.wrap ((i : Int) + 1) = ((i + 1 : Nat) : Int) := wrap_nat i 1 (by omega)
  refine ret_intro Tryz.func201 rfl Tryz.results201 (by decide +kernel) rfl (Nat.le_refl _) rfl (by simp) ?_
  simp -implicitDefEqProofs only [Nat.reduceEqDiff, Nat.reduceLeDiff, Nat.reduceAdd, reduceCtorEq, go_sem, ↓reduceIte]
  refine callW_pure (c200 s i) rfl rfl ?_
  rw [hb]
  simp -implicitDefEqProofs only [e1, w1, Nat.reduceEqDiff, Nat.reduceLeDiff, Nat.reduceAdd, reduceCtorEq, go_sem, ↓reduceIte]
  refine callW_pure (c200 s (i + 1)) rfl rfl ?_
  by_cases hl : i + 1 < s.length
  · have dl : decide (((i + 1 : Nat) : Int) ≥ s.length) = false := by simp; omega
    have hf2 : isFst (s.getD (i + 1) 0) = false := hf.resolve_left (fun h => h hl)
    simp only [isFst, Bool.or_eq_false_iff] at hf2
    simp -implicitDefEqProofs only [w1, dl, Nat.reduceEqDiff, Nat.reduceLeDiff, Nat.reduceAdd, reduceCtorEq, go_sem, ↓reduceIte]
    refine callW_pure (c61 _ _) rfl rfl ?_
    have hsm : small (s.getD (i + 1) 0) false = false := by unfold small; rw [hf2.1] <;> rfl
    rw [hsm]
    simp -implicitDefEqProofs only [w1, Nat.reduceEqDiff, Nat.reduceLeDiff, Nat.reduceAdd, reduceCtorEq, go_sem, ↓reduceIte]
    have hdg := hf2.2
    simp only [digit, decide_eq_false_iff_not] at hdg
    intro h1 h2
    exfalso
    have h3 : decide (((s.getD (i + 1) 0).toNat : Int) ≤ 57) = true := by
      cases hh : decide (((s.getD (i + 1) 0).toNat : Int) ≤ 57) with
      | true => rfl
      | false => rw [hh] at h2; cases h2
    have h4 := of_decide_eq_true h3
    have h5 := of_decide_eq_true h1
    omega
  · have dl : decide (((i + 1 : Nat) : Int) ≥ s.length) = true := by simp; omega
    simp -implicitDefEqProofs only [w1, dl, Nat.reduceEqDiff, Nat.reduceLeDiff, Nat.reduceAdd, reduceCtorEq, go_sem, ↓reduceIte]
theorem c201_go (s : Bytes) (i : Nat) (hs : s.length ≤ 2147483000) (hb : s.getD i 0 = 123) (hl : i + 1 < s.length) (c : UInt8) (hc : s.getD (i + 1) 0 = c) (hf : isFst c = true) (p3 : Nat) (hp : (if letter c = true then i + 2 + nmRun s (i + 1) (i + 2) else i + 2) = p3)
    (w : Bytes) (k : Int) (p : Nat) (hr : if s.getD p3 0 = 125 then w = (s.take p3).drop (i + 1) ∧ k = (p3 : Int) + 1 - i ∧ p = 0 else w = [] ∧ k = -1 ∧ p = p3) : RR G 201 [.str s, i64 i] [] (.tup [.str w, i64 k, i64 p]) [] := by
  have e1 : (((123 : UInt8).toNat : Int) != 123) = false := rfl
  have w1 : IntKind.i64.wrap ((i : Int) + 1) = ((i + 1 : Nat) : Int) := wrap_nat i 1 (by omega)
  have w2 : IntKind.i64.wrap ((i : Int) + 2) = ((i + 2 : Nat) : Int) := wrap_nat i 2 (by omega)
  have w9 : IntKind.i64.wrap ((i : Int) + 9) = ((i + 9 : Nat) : Int) := wrap_nat i 9 (by omega)
  have t1 : ((i + 1 : Nat) : Int).toNat = i + 1 := Int.toNat_natCast _
  have t3 : ((p3 : Nat) : Int).toNat = p3 := Int.toNat_natCast _
  have dl : decide (((i + 1 : Nat) : Int) ≥ s.length) = false := by simp; omega
  have hsm : small c false = letter c := by simp [small]
  refine ret_intro Tryz.func201 rfl Tryz.results201 (by decide +kernel) rfl (Nat.le_refl _) rfl (by simp) ?_
  refine wp_mid [(0, .str s), (1, i64 i)] [] ?_ fun env ⟨h0, h1, _⟩ => ?_
  · simp -implicitDefEqProofs only [Nat.reduceEqDiff, Nat.reduceLeDiff, Nat.reduceAdd, reduceCtorEq, go_sem, ↓reduceIte]
  refine wp_mid [(0, .str s), (1, i64 i)] [] ?_ fun env ⟨h0, h1, _⟩ => ?_
  · simp -implicitDefEqProofs only [h0, h1, Nat.reduceEqDiff, Nat.reduceLeDiff, Nat.reduceAdd, reduceCtorEq, go_sem, ↓reduceIte]
    refine callW_pure (c200 s i) rfl rfl ?_
    rw [hb]
    simp -implicitDefEqProofs only [h0, h1, e1, Nat.reduceEqDiff, Nat.reduceLeDiff, Nat.reduceAdd, reduceCtorEq, go_sem, ↓reduceIte]
  refine wp_mid [(0, .str s), (1, i64 i), (7, byte c)] [] ?_ fun env ⟨h0, h1, h7, _⟩ => ?_
  · simp -implicitDefEqProofs only [h0, h1, w1, Nat.reduceEqDiff, Nat.reduceLeDiff, Nat.reduceAdd, reduceCtorEq, go_sem, ↓reduceIte]
    refine callW_pure (c200 s (i + 1)) rfl rfl ?_
    rw [hc]
    simp -implicitDefEqProofs only [h0, h1, Nat.reduceEqDiff, Nat.reduceLeDiff, Nat.reduceAdd, reduceCtorEq, go_sem, ↓reduceIte]
  refine wp_mid [(0, .str s), (1, i64 i), (7, byte c)] [] ?_ fun env ⟨h0, h1, h7, _⟩ => ?_
  · simp -implicitDefEqProofs only [h0, h1, h7, w1, dl, Nat.reduceEqDiff, Nat.reduceLeDiff, Nat.reduceAdd, reduceCtorEq, go_sem, ↓reduceIte]
    refine callW_pure (c61 c false) rfl rfl ?_
    rw [hsm]
    cases hlc : letter c with
    | true => simp -implicitDefEqProofs only [h0, h1, h7, Nat.reduceEqDiff, Nat.reduceLeDiff, Nat.reduceAdd, reduceCtorEq, go_sem, ↓reduceIte]
    | false =>
      have hdg : digit c = true := by simpa [isFst, hlc] using hf
      simp only [digit, decide_eq_true_eq] at hdg
      have g1 : decide ((c.toNat : Int) ≥ 48) = true := by simp; omega
      have g2 : decide ((c.toNat : Int) ≤ 57) = true := by simp; omega
      simp -implicitDefEqProofs only [h0, h1, h7, g1, g2, Nat.reduceEqDiff, Nat.reduceLeDiff, Nat.reduceAdd, reduceCtorEq, go_sem, ↓reduceIte]
  refine wp_mid [(0, .str s), (1, i64 i), (7, byte c), (8, i64 (i + 2 : Nat))] [] ?_ fun env ⟨h0, h1, h7, h8, _⟩ => ?_
  · simp -implicitDefEqProofs only [h0, h1, h7, w2, Nat.reduceEqDiff, Nat.reduceLeDiff, Nat.reduceAdd, reduceCtorEq, go_sem, ↓reduceIte]
  have hp3 : i + 2 ≤ p3 := by rw [← hp]; split <;> omega
  have hp3l : p3 ≤ s.length := by
    rw [← hp]
    split
    · have h1 := tw_le within ((s.drop (i + 2)).take (i + 1 + 8 - (i + 2)))
      have h2 : ((s.drop (i + 2)).take (i + 1 + 8 - (i + 2))).length ≤ s.length - (i + 2) := by simp; omega
      unfold nmRun
      omega
    · omega
  refine wp_mid [(0, .str s), (1, i64 i), (8, i64 p3)] [] ?_ fun env ⟨h0, h1, h8, _⟩ => ?_
  · simp -implicitDefEqProofs only [h0, h1, h7, h8, Nat.reduceEqDiff, Nat.reduceLeDiff, Nat.reduceAdd, reduceCtorEq, go_sem, ↓reduceIte]
    refine callW_pure (c61 c false) rfl rfl ?_
    rw [hsm]
    cases hlc : letter c with
    | false =>
      rw [if_neg (by rw [hlc]; simp)] at hp
      subst hp
      simp -implicitDefEqProofs only [h0, h1, h8, Nat.reduceEqDiff, Nat.reduceLeDiff, Nat.reduceAdd, reduceCtorEq, go_sem, ↓reduceIte]
    | true =>
      rw [if_pos hlc] at hp
      simp -implicitDefEqProofs only [h0, h1, h8, Nat.reduceEqDiff, Nat.reduceLeDiff, Nat.reduceAdd, reduceCtorEq, go_sem, ↓reduceIte]
      refine wp_loop_use (A := Nat) (fun j => [(0, .str s), (1, i64 i), (8, i64 j)]) (fun _ => []) (fun j => i + 2 ≤ j ∧ j ≤ s.length ∧ j + nmRun s (i + 1) j = p3) (fun j => s.length - j) (i + 2) ⟨Nat.le_refl _, by omega, hp⟩ rfl ⟨?_, ?_, ?_, trivial⟩ ?_
      · simp -implicitDefEqProofs only [h0, Nat.reduceEqDiff, Nat.reduceLeDiff, Nat.reduceAdd, reduceCtorEq, go_sem, ↓reduceIte]
      · simp -implicitDefEqProofs only [h1, Nat.reduceEqDiff, Nat.reduceLeDiff, Nat.reduceAdd, reduceCtorEq, go_sem, ↓reduceIte]
      · simp -implicitDefEqProofs only [h8, Nat.reduceEqDiff, Nat.reduceLeDiff, Nat.reduceAdd, reduceCtorEq, go_sem, ↓reduceIte]
      intro j ⟨hj1, hj2, hj3⟩
      have tj : ((j : Nat) : Int).toNat = j := Int.toNat_natCast _
      by_cases hlt : j < s.length
      · have d1 : decide ((j : Int) < s.length) = true := by simp; omega
        by_cases h8' : j < i + 1 + 8
        · have d2 : decide ((j : Int) < ((i + 9 : Nat) : Int)) = true := by simp; omega
          simp -implicitDefEqProofs only [d1, w9, d2, tj, Nat.reduceEqDiff, Nat.reduceLeDiff, Nat.reduceAdd, reduceCtorEq, go_sem, ↓reduceIte]
          refine ⟨by omega, hlt, ?_⟩
          refine callW_pure (c61 (s.getD j 0) true) rfl rfl ?_
          rw [small_true]
          cases hwi : within (s.getD j 0) with
          | true =>
            have hw := wrap_succ j s.length hlt (by omega)
            simp -implicitDefEqProofs only [hw, Nat.reduceEqDiff, Nat.reduceLeDiff, Nat.reduceAdd, reduceCtorEq, go_sem, ↓reduceIte]
            rw [nmRun_step s (i + 1) j hlt (by omega) hwi] at hj3
            exact ⟨j + 1, ⟨⟨by omega, by omega, by omega⟩, by omega⟩, rfl⟩
          | false =>
            simp -implicitDefEqProofs only [Nat.reduceEqDiff, Nat.reduceLeDiff, Nat.reduceAdd, reduceCtorEq, go_sem, ↓reduceIte]
            rw [nmRun_stop s (i + 1) j (.inr (.inr hwi))] at hj3
            rw [← hj3] <;> rfl
        · have d2 : decide ((j : Int) < ((i + 9 : Nat) : Int)) = false := by simp; omega
          simp -implicitDefEqProofs only [d1, w9, d2, Nat.reduceEqDiff, Nat.reduceLeDiff, Nat.reduceAdd, reduceCtorEq, go_sem, ↓reduceIte]
          rw [nmRun_stop s (i + 1) j (.inr (.inl (by omega)))] at hj3
          rw [← hj3] <;> rfl
      · have d1 : decide ((j : Int) < s.length) = false := by simp; omega
        simp -implicitDefEqProofs only [d1, Nat.reduceEqDiff, Nat.reduceLeDiff, Nat.reduceAdd, reduceCtorEq, go_sem, ↓reduceIte]
        rw [nmRun_stop s (i + 1) j (.inl (by omega))] at hj3
        rw [← hj3] <;> rfl
  by_cases h125 : s.getD p3 0 = 125
  · rw [if_pos h125] at hr
    obtain ⟨rfl, rfl, rfl⟩ := hr
    have e5 : (((125 : UInt8).toNat : Int) != 125) = false := rfl
    have w5 : IntKind.i64.wrap (IntKind.i64.wrap ((p3 : Int) + 1) - i) = (p3 : Int) + 1 - i := by
      rw [wrap_id ((p3 : Int) + 1) (by omega) (by omega), wrap_id _ (by omega) (by omega)]
    refine wp_mid [(0, .str s), (1, i64 i), (8, i64 p3)] [] ?_ fun env ⟨h0, h1, h8, _⟩ => ?_
    · simp -implicitDefEqProofs only [h0, h1, h8, Nat.reduceEqDiff, Nat.reduceLeDiff, Nat.reduceAdd, reduceCtorEq, go_sem, ↓reduceIte]
      refine callW_pure (c200 s p3) rfl rfl ?_
      rw [h125]
      simp -implicitDefEqProofs only [h0, h1, h8, e5, Nat.reduceEqDiff, Nat.reduceLeDiff, Nat.reduceAdd, reduceCtorEq, go_sem, ↓reduceIte]
    simp -implicitDefEqProofs only [h0, h1, h8, w1, t1, t3, Nat.reduceEqDiff, Nat.reduceLeDiff, Nat.reduceAdd, reduceCtorEq, go_sem, ↓reduceIte]
    refine ⟨by omega, by omega, by omega, by omega, ?_⟩
    rw [w5]
    rfl
  · rw [if_neg h125] at hr
    obtain ⟨rfl, rfl, rfl⟩ := hr
    have e5 : (((s.getD p 0).toNat : Int) != 125) = true := by
      have h2 : (((s.getD p 0).toNat : Int) == 125) = false := byte_ne _ 125 h125
      simp only [bne, h2]; rfl
    simp -implicitDefEqProofs only [h0, h1, h8, Nat.reduceEqDiff, Nat.reduceLeDiff, Nat.reduceAdd, reduceCtorEq, go_sem, ↓reduceIte]
    refine callW_pure (c200 s p) rfl rfl ?_
    simp -implicitDefEqProofs only [h0, h1, h8, e5, Nat.reduceEqDiff, Nat.reduceLeDiff, Nat.reduceAdd, reduceCtorEq, go_sem, ↓reduceIte]
end Go.Pv

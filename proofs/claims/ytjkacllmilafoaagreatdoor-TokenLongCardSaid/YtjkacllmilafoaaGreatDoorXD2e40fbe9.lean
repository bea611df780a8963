/- Laws of the printing of quotes: the builder's string, whether parts may be, their text. -/
import Derived.Conc.MuLone
import Derived.Test.YtjkacllmilafoaaGreatDoorRows
import Derived.ProofKit
import Derived.OpenShut
import Derived.LaidMore
import Derived.Lay
import Derived.SevenTiedAt
import Derived.Stop.Joined
import Derived.Deep.DeepHandedRow
import Derived.Deep.Slices
import Derived.Test.YtjkacllmilafoaaGreatDoorXC3cdfe3e6
set_option maxHeartbeats 2000000
set_option linter.all false
/- The law of the second reference's Parse. -/
namespace Go.Pv
open Go Go.Proofs
set_option maxRecDepth 4000
variable {G : Frz}
theorem c201 (s : Bytes) (i : Nat) (hi : i ≤ s.length) (hs : s.length ≤ 2147483000) (z : Except Nat (Bytes × Nat)) (hz : varR (s.drop i) = z) : RR G 201 [.str s, i64 i] [] (.tup [.str (varW z), i64 (varK z), i64 (varP z i)]) [] := by
  cases hd : s.drop i with
  | nil =>
    rw [hd] at hz
    subst hz
    have hb : s.getD i 0 ≠ 123 := by
      rw [List.drop_eq_nil_iff] at hd
      have : s.getD i 0 = 0 := by simp [List.getD, List.getElem?_eq_none hd]
      rw [this]; decide
    exact c201_bad0 s i hb
  | cons b r =>
    obtain ⟨hlt, hget, hr⟩ := getD_drop s i b r hd
    rw [hd] at hz
    by_cases hb : b = 123
    · subst hb
      cases hr1 : r with
      | nil =>
        rw [hr1] at hr hz
        subst hz
        have : ¬ i + 1 < s.length := by rw [List.drop_eq_nil_iff] at hr; omega
        exact c201_bad1 s i (by omega) hget (.inl this)
      | cons c r1 =>
        rw [hr1] at hr hz
        obtain ⟨hlt1, hget1, hr2⟩ := getD_drop s (i + 1) c r1 hr
        by_cases hf : isFst c = true
        · obtain ⟨n1, n2⟩ := nmRun_name s i c r1 hr
          have hnm : (if letter c = true then i + 2 + nmRun s (i + 1) (i + 2) else i + 2) = i + 1 + (nameR c r1).length := by
            rw [n1]
            by_cases hl : letter c = true
            · simp [hl]; omega
            · simp [hl]
          have hdr : s.drop (i + 1 + (nameR c r1).length) = r1.drop ((nameR c r1).length - 1) := by
            have := (nameR_len c r1).1
            rw [← List.drop_drop, hr]
            obtain ⟨m, hm⟩ : ∃ m, (nameR c r1).length = m + 1 := ⟨(nameR c r1).length - 1, by omega⟩
            rw [hm] <;> rfl
          have hf' : (letter c || digit c) = true := hf
          have hiff : s.getD (i + 1 + (nameR c r1).length) 0 = 125 ↔ (r1.drop ((nameR c r1).length - 1)).head? = some 125 := by
            rw [← hdr]
            by_cases hl : i + 1 + (nameR c r1).length < s.length
            · rw [List.drop_eq_getElem_cons hl]; simp [hl]
            · rw [List.drop_eq_nil_of_le (by omega)]
              simp [List.getD, List.getElem?_eq_none (Nat.le_of_not_lt hl)]
          by_cases h125 : (r1.drop ((nameR c r1).length - 1)).head? = some 125
          · have hv : varR (123 :: c :: r1) = .ok (nameR c r1, (nameR c r1).length + 2) := by
              simp only [varR, hf', if_true]
              rw [if_pos h125]
            rw [hv] at hz
            subst hz
            refine c201_go s i hs hget hlt1 c hget1 hf _ hnm _ _ _ ?_
            rw [if_pos (hiff.2 h125)]
            refine ⟨n2.symm, ?_, rfl⟩
            show (((nameR c r1).length + 2 : Nat) : Int) = _
            omega
          · have hv : varR (123 :: c :: r1) = .error ((nameR c r1).length + 1) := by
              simp only [varR, hf', if_true]
              rw [if_neg h125]
            rw [hv] at hz
            subst hz
            refine c201_go s i hs hget hlt1 c hget1 hf _ hnm _ _ _ ?_
            rw [if_neg (fun h => h125 (hiff.1 h))]
            exact ⟨rfl, rfl, by show i + ((nameR c r1).length + 1) = _; omega⟩
        · have hf2 : isFst c = false := by simpa using hf
          have hv : varR (123 :: c :: r1) = .error 1 := by
            have hf' : (letter c || digit c) = false := hf2
            simp [varR, hf']
          rw [hv] at hz
          subst hz
          exact c201_bad1 s i (by omega) hget (.inr (by rw [hget1]; exact hf2))
    · have hv : varR (b :: r) = .error 0 := by simp [varR, hb]
      rw [hv] at hz
      subst hz
      exact c201_bad0 s i (by rw [hget]; exact hb)
structure PS where
  i : Nat
  out : List Part
  text : Bytes
theorem c138 (s : Bytes) (hs : s.length ≤ 2147483000) (F : List Part × Nat × Bool) (hF : qParse s = F) : RR G 138 [.str s] [] (.tup [partsA F.1, i64 F.2.1, i64 (if F.2.2 then 0 else 1)]) [] := by
  have t0 : (Int.toNat 0) = 0 := rfl
  have z0 := c200 (G := G) s 0
  by_cases h34 : s.head? = some 34
  · obtain ⟨r0, hr0⟩ : ∃ r0, s = 34 :: r0 := by
      cases s with
      | nil => cases h34
      | cons c r => cases h34; exact ⟨r, rfl⟩
    have hstart : qRun (s.drop 1) [] [] 1 = F := by rw [← hF, hr0]; simp [qParse]
    have hs1 : 1 ≤ s.length := by rw [hr0]; simp
    have hg0 : s.getD 0 0 = 34 := by rw [hr0] <;> rfl
    have e0 : (((34 : UInt8).toNat : Int) != 34) = false := rfl
    refine ret_intro Tryz.func138 rfl Tryz.results138 (by decide +kernel) rfl (Nat.le_refl _) rfl (by simp) ?_
    refine wp_mid [(0, .str s)] [] ?_ fun env ⟨h0, _⟩ => ?_
    · simp -implicitDefEqProofs only [Nat.reduceEqDiff, Nat.reduceLeDiff, Nat.reduceAdd, reduceCtorEq, go_sem, ↓reduceIte]
    refine wp_mid [(0, .str s)] [] ?_ fun env ⟨h0, _⟩ => ?_
    · simp -implicitDefEqProofs only [h0, Nat.reduceEqDiff, Nat.reduceLeDiff, Nat.reduceAdd, reduceCtorEq, go_sem, ↓reduceIte]
      refine callW_pure z0 rfl rfl ?_
      rw [hg0]
      simp -implicitDefEqProofs only [h0, e0, Nat.reduceEqDiff, Nat.reduceLeDiff, Nat.reduceAdd, reduceCtorEq, go_sem, ↓reduceIte]
    refine wp_mid [(0, .str s), (5, .sl .yes ⟨2, 78⟩ [])] [] ?_ fun env ⟨h0, h5, _⟩ => ?_
    · simp -implicitDefEqProofs only [h0, Nat.reduceEqDiff, Nat.reduceLeDiff, Nat.reduceAdd, reduceCtorEq, go_sem, ↓reduceIte]
    refine wp_mid [(0, .str s), (5, .sl .yes ⟨2, 78⟩ []), (6, .str [])] [] ?_ fun env ⟨h0, h5, h6, _⟩ => ?_
    · simp -implicitDefEqProofs only [h0, h5, Nat.reduceEqDiff, Nat.reduceLeDiff, Nat.reduceAdd, reduceCtorEq, go_sem, ↓reduceIte]
    refine wp_mid [(0, .str s), (5, .sl .yes ⟨2, 78⟩ []), (6, .str []), (7, i64 (1 : Nat))] [] ?_ fun env ⟨h0, h5, h6, h7, _⟩ => ?_
    · simp -implicitDefEqProofs only [h0, h5, h6, Nat.reduceEqDiff, Nat.reduceLeDiff, Nat.reduceAdd, reduceCtorEq, go_sem, ↓reduceIte]
      rfl
    rw [wp_block_eq]
    refine wp_loop_use (A := PS) (fun q => [(0, .str s), (5, .sl .yes ⟨2, 78⟩ (q.out.map partA)), (6, .str q.text), (7, i64 q.i)]) (fun _ => []) (fun q => q.i ≤ s.length ∧ q.out.length ≤ 2 * q.i ∧ q.text.length ≤ q.i ∧ qRun (s.drop q.i) q.out q.text q.i = F) (fun q => s.length - q.i) ⟨1, [], []⟩ ⟨hs1, by simp, by simp, hstart⟩ rfl ⟨h0, h5, h6, h7, trivial⟩ ?_
    rintro ⟨i, out, text⟩ ⟨hi, ho, ht, hq⟩
    simp only at hi ho ht hq
    have ti : ((i : Nat) : Int).toNat = i := Int.toNat_natCast _
    have w1 : IntKind.i64.wrap ((i : Int) + 1) = ((i + 1 : Nat) : Int) := wrap_nat i 1 (by omega)
    rw [wp_block_eq]
    cases hd : s.drop i with
    | nil =>
      have dl : decide ((i : Int) ≥ s.length) = true := by rw [List.drop_eq_nil_iff] at hd; simp; omega
      rw [hd, qRun_nil] at hq
      rw [← hq]
      simp -implicitDefEqProofs only [dl, Nat.reduceEqDiff, Nat.reduceLeDiff, Nat.reduceAdd, reduceCtorEq, go_sem, ↓reduceIte]
      rfl
    | cons c r =>
      obtain ⟨hlt, hget, hr⟩ := getD_drop s i c r hd
      have dl : decide ((i : Int) ≥ s.length) = false := by simp; omega
      rw [hd, qRun_cons] at hq
      have hfl : (flushT out text).length ≤ out.length + 1 := by unfold flushT; split <;> simp
      refine wp_mid [(0, .str s), (5, .sl .yes ⟨2, 78⟩ (out.map partA)), (6, .str text), (7, i64 i)] [] ?_ fun env ⟨h0, h5, h6, h7, _⟩ => ?_
      · simp -implicitDefEqProofs only [dl, Nat.reduceEqDiff, Nat.reduceLeDiff, Nat.reduceAdd, reduceCtorEq, go_sem, ↓reduceIte]
      refine wp_mid [(0, .str s), (5, .sl .yes ⟨2, 78⟩ (out.map partA)), (6, .str text), (7, i64 i), (8, byte c)] [] ?_ fun env ⟨h0, h5, h6, h7, h8, _⟩ => ?_
      · simp -implicitDefEqProofs only [h0, h5, h6, h7, ti, Nat.reduceEqDiff, Nat.reduceLeDiff, Nat.reduceAdd, reduceCtorEq, go_sem, ↓reduceIte]
        rw [hget]
        exact ⟨by omega, hlt, rfl⟩
      by_cases hq2 : c = 34 ∨ c = 36
      · have eor : ∃ b : Bool, ((c.toNat : Int) == 34) = b ∧ (b = false → ((c.toNat : Int) == 36) = true) := by
          rcases hq2 with rfl | rfl
          · exact ⟨true, rfl, fun h => by cases h⟩
          · exact ⟨false, rfl, fun _ => rfl⟩
        obtain ⟨b34, eb, eb2⟩ := eor
        refine wp_mid [(0, .str s), (5, .sl .yes ⟨2, 78⟩ ((flushT out text).map partA)), (6, .str []), (7, i64 i), (8, byte c)] [] ?_ fun env ⟨h0, h5, h6, h7, h8, _⟩ => ?_
        · have hol : (out.length + 1 ≤ lenLim) = True := by simp [lenLim]; omega
          have key : ∀ (b36 : Bool), b34 = true ∨ b36 = true → ((c.toNat : Int) == 36) = b36 → True := fun _ _ _ => trivial
          unfold flushT
          by_cases htx : text = []
          · subst htx
            have e1 : (([] : Bytes) == []) = true := rfl
            cases b34 with
            | true =>
              simp -implicitDefEqProofs only [h0, h5, h6, h7, h8, eb, e1, Nat.reduceEqDiff, Nat.reduceLeDiff, Nat.reduceAdd, reduceCtorEq, go_sem, ↓reduceIte]
            | false =>
              have eb3 := eb2 rfl
              simp -implicitDefEqProofs only [h0, h5, h6, h7, h8, eb, eb3, e1, Nat.reduceEqDiff, Nat.reduceLeDiff, Nat.reduceAdd, reduceCtorEq, go_sem, ↓reduceIte]
          · have e1 : (text == []) = false := by simpa using htx
            rw [if_neg htx, List.map_append]
            cases b34 with
            | true =>
              simp -implicitDefEqProofs only [h0, h5, h6, h7, h8, eb, e1, hol, Nat.reduceEqDiff, Nat.reduceLeDiff, Nat.reduceAdd, reduceCtorEq, go_sem, ↓reduceIte]
              rfl
            | false =>
              have eb3 := eb2 rfl
              simp -implicitDefEqProofs only [h0, h5, h6, h7, h8, eb, eb3, e1, hol, Nat.reduceEqDiff, Nat.reduceLeDiff, Nat.reduceAdd, reduceCtorEq, go_sem, ↓reduceIte]
              rfl
        by_cases h34 : c = 34
        · subst h34
          rw [if_pos rfl] at hq
          have e34 : (((34 : UInt8).toNat : Int) == 34) = true := rfl
          rw [← hq]
          simp -implicitDefEqProofs only [h0, h5, h6, h7, h8, e34, w1, Nat.reduceEqDiff, Nat.reduceLeDiff, Nat.reduceAdd, reduceCtorEq, go_sem, ↓reduceIte]
          rfl
        · have h36 : c = 36 := hq2.resolve_left h34
          subst h36
          have e34 : (((36 : UInt8).toNat : Int) == 34) = false := rfl
          have e36 : (((36 : UInt8).toNat : Int) == 36) = true := rfl
          rw [if_neg h34, if_pos rfl] at hq
          have hlaw := c201 (G := G) s (i + 1) (by omega) hs _ rfl
          rw [hr] at hlaw
          refine wp_mid [(0, .str s), (5, .sl .yes ⟨2, 78⟩ ((flushT out text).map partA)), (6, .str []), (7, i64 i), (8, byte 36)] [] ?_ fun env ⟨h0, h5, h6, h7, h8, _⟩ => ?_
          · simp -implicitDefEqProofs only [h0, h5, h6, h7, h8, e34, Nat.reduceEqDiff, Nat.reduceLeDiff, Nat.reduceAdd, reduceCtorEq, go_sem, ↓reduceIte]
          cases hv : varR r with
          | error k =>
            rw [hv] at hq hlaw
            have hk := varR_err hv
            have dm : decide ((-1 : Int) < 0) = true := rfl
            rw [← hq]
            simp -implicitDefEqProofs only [h0, h5, h6, h7, h8, e36, w1, Nat.reduceEqDiff, Nat.reduceLeDiff, Nat.reduceAdd, reduceCtorEq, go_sem, ↓reduceIte]
            refine callW_pure hlaw rfl rfl ?_
            simp -implicitDefEqProofs only [varK, varW, varP, h0, h5, h6, h7, h8, dm, Nat.reduceEqDiff, Nat.reduceLeDiff, Nat.reduceAdd, reduceCtorEq, go_sem, ↓reduceIte]
            rfl
          | ok z =>
            obtain ⟨nm, k⟩ := z
            rw [hv] at hq hlaw
            have hk := varR_ok hv
            have hrl : r.length = s.length - (i + 1) := by rw [← hr]; simp
            have dm : decide ((k : Int) < 0) = false := by simp
            have hol : ((flushT out text).length + 1 ≤ lenLim) = True := by simp [lenLim]; omega
            have wk : IntKind.i64.wrap (((i + 1 : Nat) : Int) + k) = ((i + 1 + k : Nat) : Int) := wrap_nat (i + 1) k (by omega)
            simp -implicitDefEqProofs only [h0, h5, h6, h7, h8, e36, w1, Nat.reduceEqDiff, Nat.reduceLeDiff, Nat.reduceAdd, reduceCtorEq, go_sem, ↓reduceIte]
            refine callW_pure hlaw rfl rfl ?_
            simp -implicitDefEqProofs only [varK, varW, varP, h0, h5, h6, h7, h8, dm, hol, w1, wk, Nat.reduceEqDiff, Nat.reduceLeDiff, Nat.reduceAdd, reduceCtorEq, go_sem, ↓reduceIte]
            refine ⟨⟨i + 1 + k, flushT out text ++ [(nm, [])], []⟩, ⟨⟨by simp only; omega, by simp; omega, by simp, ?_⟩, by simp only; omega⟩, ?_⟩
            · simp only
              rw [← List.drop_drop, hr]
              exact hq
            · simp [partA]
      · have n34 : c ≠ 34 := fun h => hq2 (.inl h)
        have n36 : c ≠ 36 := fun h => hq2 (.inr h)
        have e34 : ((c.toNat : Int) == 34) = false := byte_ne c 34 n34
        have e36 : ((c.toNat : Int) == 36) = false := byte_ne c 36 n36
        rw [if_neg n34, if_neg n36] at hq
        refine wp_mid [(0, .str s), (5, .sl .yes ⟨2, 78⟩ (out.map partA)), (6, .str text), (7, i64 i), (8, byte c)] [] ?_ fun env ⟨h0, h5, h6, h7, h8, _⟩ => ?_
        · simp -implicitDefEqProofs only [h0, h5, h6, h7, h8, e34, e36, Nat.reduceEqDiff, Nat.reduceLeDiff, Nat.reduceAdd, reduceCtorEq, go_sem, ↓reduceIte]
        refine wp_mid [(0, .str s), (5, .sl .yes ⟨2, 78⟩ (out.map partA)), (6, .str text), (7, i64 i), (8, byte c)] [] ?_ fun env ⟨h0, h5, h6, h7, h8, _⟩ => ?_
        · simp -implicitDefEqProofs only [h0, h5, h6, h7, h8, e34, Nat.reduceEqDiff, Nat.reduceLeDiff, Nat.reduceAdd, reduceCtorEq, go_sem, ↓reduceIte]
        by_cases h92 : c = 92
        · subst h92
          have e92 : (((92 : UInt8).toNat : Int) == 92) = true := rfl
          rw [if_pos rfl] at hq
          have hlaw := c202 (G := G) s (i + 1) (by omega) hs _ rfl
          rw [hr] at hlaw
          cases hv : escR r with
          | error k =>
            rw [hv] at hq hlaw
            have dm : decide ((-1 : Int) < 0) = true := rfl
            rw [← hq]
            simp -implicitDefEqProofs only [h0, h5, h6, h7, h8, e36, e92, w1, Nat.reduceEqDiff, Nat.reduceLeDiff, Nat.reduceAdd, reduceCtorEq, go_sem, ↓reduceIte]
            refine callW_pure hlaw rfl rfl ?_
            simp -implicitDefEqProofs only [escK, escB, escP, h0, h5, h6, h7, h8, dm, Nat.reduceEqDiff, Nat.reduceLeDiff, Nat.reduceAdd, reduceCtorEq, go_sem, ↓reduceIte]
            rfl
          | ok z =>
            obtain ⟨b, k⟩ := z
            rw [hv] at hq hlaw
            have hk := escR_ok hv
            have hrl : r.length = s.length - (i + 1) := by rw [← hr]; simp
            have dm : decide ((k : Int) < 0) = false := by simp
            have hsl : (text.length + 1 ≤ strLim) = True := by simp [strLim]; omega
            have wk : IntKind.i64.wrap (((i + 1 : Nat) : Int) + k) = ((i + 1 + k : Nat) : Int) := wrap_nat (i + 1) k (by omega)
            have hbt : UInt8.ofNat ((b.toNat : Int)).toNat = b := by simp
            simp -implicitDefEqProofs only [h0, h5, h6, h7, h8, e36, e92, w1, Nat.reduceEqDiff, Nat.reduceLeDiff, Nat.reduceAdd, reduceCtorEq, go_sem, ↓reduceIte]
            refine callW_pure hlaw rfl rfl ?_
            simp -implicitDefEqProofs only [escK, escB, escP, h0, h5, h6, h7, h8, dm, w1, wk, hbt, hsl, Nat.reduceEqDiff, Nat.reduceLeDiff, Nat.reduceAdd, reduceCtorEq, go_sem, ↓reduceIte]
            refine ⟨⟨i + 1 + k, out, text ++ [b]⟩, ⟨⟨by simp only; omega, by simp only; omega, by simp; omega, ?_⟩, by simp only; omega⟩, rfl, rfl, rfl⟩
            simp only
            rw [← List.drop_drop, hr]
            exact hq
        · have e92 : ((c.toNat : Int) == 92) = false := byte_ne c 92 h92
          rw [if_neg h92] at hq
          by_cases hpr : 32 ≤ c.toNat ∧ c.toNat ≤ 126
          · rw [if_pos hpr] at hq
            have d1 : decide ((c.toNat : Int) < 32) = false := by simp; omega
            have d2 : decide ((c.toNat : Int) > 126) = false := by simp; omega
            have hsl : (text.length + 1 ≤ strLim) = True := by simp [strLim]; omega
            have hbt : UInt8.ofNat ((c.toNat : Int)).toNat = c := by simp
            simp -implicitDefEqProofs only [h0, h5, h6, h7, h8, e36, e92, d1, d2, w1, hbt, hsl, Nat.reduceEqDiff, Nat.reduceLeDiff, Nat.reduceAdd, reduceCtorEq, go_sem, ↓reduceIte]
            refine ⟨⟨i + 1, out, text ++ [c]⟩, ⟨⟨by simp only; omega, by simp only; omega, by simp; omega, ?_⟩, by simp only; omega⟩, rfl, rfl, rfl⟩
            simp only
            rw [hr]
            exact hq
          · rw [if_neg hpr] at hq
            rw [← hq]
            by_cases h32 : c.toNat < 32
            · have d1 : decide ((c.toNat : Int) < 32) = true := by simp; omega
              simp -implicitDefEqProofs only [h0, h5, h6, h7, h8, e36, e92, d1, Nat.reduceEqDiff, Nat.reduceLeDiff, Nat.reduceAdd, reduceCtorEq, go_sem, ↓reduceIte]
              rfl
            · have d1 : decide ((c.toNat : Int) < 32) = false := by simp; omega
              have d2 : decide ((c.toNat : Int) > 126) = true := by simp; omega
              simp -implicitDefEqProofs only [h0, h5, h6, h7, h8, e36, e92, d1, d2, Nat.reduceEqDiff, Nat.reduceLeDiff, Nat.reduceAdd, reduceCtorEq, go_sem, ↓reduceIte]
              rfl
  · have hg0 : s.getD 0 0 ≠ 34 := by
      cases s with
      | nil => decide
      | cons c r => intro h; exact h34 (by simpa using h)
    have e0 : (((s.getD 0 0).toNat : Int) != 34) = true := by
      have h2 : (((s.getD 0 0).toNat : Int) == 34) = false := byte_ne _ 34 hg0
      simp only [bne, h2]; rfl
    have hF2 : F = ([], 0, false) := by
      rw [← hF]
      cases s with
      | nil => rfl
      | cons c r =>
        have : c ≠ 34 := fun h => h34 (by rw [h] <;> rfl)
        simp [qParse, this]
    subst hF2
    refine ret_intro Tryz.func138 rfl Tryz.results138 (by decide +kernel) rfl (Nat.le_refl _) rfl (by simp) ?_
    simp -implicitDefEqProofs only [Nat.reduceEqDiff, Nat.reduceLeDiff, Nat.reduceAdd, reduceCtorEq, go_sem, ↓reduceIte]
    refine callW_pure z0 rfl rfl ?_
    simp -implicitDefEqProofs only [e0, Nat.reduceEqDiff, Nat.reduceLeDiff, Nat.reduceAdd, reduceCtorEq, go_sem, ↓reduceIte]
    rfl
end Go.Pv
/- The law of the first reference's number. -/
namespace Go.Pv
open Go Go.Proofs
set_option maxRecDepth 4000
variable {G : Frz}
theorem decN_snoc (p : Bytes) (c : UInt8) : decN (p ++ [c]) = decN p * 10 + (c.toNat - 48) := by simp [decN]
def accOk (p : Bytes) (m : Nat) (o : Bool) : Prop := if o = true then 1000000000000000000 < m ∧ m < 10000000000000000010 ∧ 10000000000000000000 ≤ decN p else m = decN p ∧ m < 10000000000000000010
theorem accOk_big {p : Bytes} {m : Nat} {o : Bool} (c : UInt8) (h : accOk p m o) (hm : 1000000000000000000 < m) : accOk (p ++ [c]) m true := by
  unfold accOk at h ⊢
  rw [decN_snoc, if_pos rfl]
  cases o <;> simp at h <;> refine ⟨hm, ?_, ?_⟩ <;> omega
theorem accOk_small {p : Bytes} {m : Nat} {o : Bool} (c : UInt8) (hc : c.toNat ≤ 57) (h : accOk p m o) (hm : m ≤ 1000000000000000000) : accOk (p ++ [c]) (m * 10 + (c.toNat - 48)) o := by
  unfold accOk at h ⊢
  rw [decN_snoc]
  cases o
  · simp at h ⊢
    omega
  · simp at h
    omega
def numN : Except Nat Nat → Nat
  | .ok n => n
  | .error _ => 0
def numE : Except Nat Nat → Nat
  | .ok _ => 0
  | .error e => e
theorem wrap_u64_id (n : Int) (h1 : 0 ≤ n) (h2 : n < 18446744073709551616) : IntKind.u64.wrap n = n := by
  rw [IntKind.wrap_u64]; omega
theorem c137 (w : Bytes) (hne : w ≠ []) (hd : w.all digit = true) (hs : w.length ≤ 2147483000) (z : Except Nat Nat) (hz : numP w = z) : RR G 137 [.str w] [] (.tup [i64 (numN z), i64 (numE z)]) [] := by
  have hlen : 0 < w.length := List.length_pos_iff.2 hne
  have hdig : ∀ i (h : i < w.length), 48 ≤ (w.getD i 0).toNat ∧ (w.getD i 0).toNat ≤ 57 := fun i h => by
    have := List.all_eq_true.1 hd w[i] (by simp)
    simp [digit] at this
    simp [h]
    exact this
  have g0 := hdig 0 hlen
  have hh : w.head? = some (w.getD 0 0) := by
    cases w with
    | nil => exact absurd rfl hne
    | cons c r => rfl
  refine ret_intro Tryz.func137 rfl Tryz.results137 (by decide +kernel) rfl (Nat.le_refl _) rfl (by simp) ?_
  refine wp_mid [(0, .str w)] [] ?_ fun env ⟨h0, _⟩ => ?_
  · simp -implicitDefEqProofs only [Nat.reduceEqDiff, Nat.reduceLeDiff, Nat.reduceAdd, reduceCtorEq, go_sem, ↓reduceIte]
  refine wp_mid [(0, .str w), (4, .str w)] [] ?_ fun env ⟨h0, h4, _⟩ => ?_
  · simp -implicitDefEqProofs only [h0, Nat.reduceEqDiff, Nat.reduceLeDiff, Nat.reduceAdd, reduceCtorEq, go_sem, ↓reduceIte]
  refine wp_mid [(4, .str w), (5, .bool false)] [] ?_ fun env ⟨h4, h5, _⟩ => ?_
  · have d2 : (((w.getD (Int.toNat 0) 0).toNat : Int) == 45) = false := by rw [beq_eq_false_iff_ne]; simp only [Int.toNat_zero]; omega
    have d1 : decide ((w.length : Int) > 0) = true := by simp; omega
    simp -implicitDefEqProofs only [h0, h4, d2, d1, Nat.reduceEqDiff, Nat.reduceLeDiff, Nat.reduceAdd, reduceCtorEq, go_sem, ↓reduceIte]
    exact ⟨by omega, hlen⟩
  refine wp_mid [(4, .str w), (5, .bool false)] [] ?_ fun env ⟨h4, h5, _⟩ => ?_
  · simp -implicitDefEqProofs only [h4, h5, Nat.reduceEqDiff, Nat.reduceLeDiff, Nat.reduceAdd, reduceCtorEq, go_sem, ↓reduceIte]
  by_cases h48 : w.head? = some 48 ∧ w.length > 1
  · have e : z = .error 1 := by rw [← hz]; simp only [numP, if_neg hne, if_pos h48]
    subst e
    have d2 : (((w.getD (Int.toNat 0) 0).toNat : Int) == 48) = true := by
      have := h48.1
      rw [hh] at this
      simp only [Option.some.injEq] at this
      simp only [Int.toNat_zero, this]
      rfl
    have d1 : decide ((w.length : Int) > 1) = true := by simp; omega
    have d0 : (((w.length : Nat) : Int) == 0) = false := by rw [beq_eq_false_iff_ne]; omega
    simp -implicitDefEqProofs only [h4, h5, d2, d1, d0, Nat.reduceEqDiff, Nat.reduceLeDiff, Nat.reduceAdd, reduceCtorEq, go_sem, ↓reduceIte]
    exact ⟨by omega, hlen, rfl⟩
  refine wp_mid [(4, .str w), (5, .bool false)] [] ?_ fun env ⟨h4, h5, _⟩ => ?_
  · have d0 : (((w.length : Nat) : Int) == 0) = false := by rw [beq_eq_false_iff_ne]; omega
    by_cases h8 : w.getD 0 0 = 48
    · have d2 : (((w.getD (Int.toNat 0) 0).toNat : Int) == 48) = true := by simp only [Int.toNat_zero, h8]; rfl
      have d1 : decide ((w.length : Int) > 1) = false := by
        have : ¬ w.length > 1 := fun h => h48 ⟨by rw [hh, h8], h⟩
        simp; omega
      simp -implicitDefEqProofs only [h4, h5, d2, d1, d0, Nat.reduceEqDiff, Nat.reduceLeDiff, Nat.reduceAdd, reduceCtorEq, go_sem, ↓reduceIte]
      exact ⟨by omega, hlen⟩
    · have d2 : (((w.getD (Int.toNat 0) 0).toNat : Int) == 48) = false := byte_ne _ 48 (by simpa using h8)
      simp -implicitDefEqProofs only [h4, h5, d2, d0, Nat.reduceEqDiff, Nat.reduceLeDiff, Nat.reduceAdd, reduceCtorEq, go_sem, ↓reduceIte]
      exact ⟨by omega, hlen⟩
  refine wp_mid [(4, .str w), (5, .bool false), (6, .int .u64 (0 : Nat))] [] ?_ fun env ⟨h4, h5, h6, _⟩ => ?_
  · simp -implicitDefEqProofs only [h4, h5, Nat.reduceEqDiff, Nat.reduceLeDiff, Nat.reduceAdd, reduceCtorEq, go_sem, ↓reduceIte]; rfl
  refine wp_mid [(4, .str w), (5, .bool false), (6, .int .u64 (0 : Nat)), (7, .bool false)] [] ?_ fun env ⟨h4, h5, h6, h7, _⟩ => ?_
  · simp -implicitDefEqProofs only [h4, h5, h6, Nat.reduceEqDiff, Nat.reduceLeDiff, Nat.reduceAdd, reduceCtorEq, go_sem, ↓reduceIte]
  refine wp_ghost (A := Nat × Bool) (fun x => accOk w x.1 x.2) (fun _ => []) (fun x => [(5, .bool false), (6, .int .u64 x.1), (7, .bool x.2)]) ?_ fun ⟨m, o⟩ hac env ⟨h5, h6, h7, _⟩ => ?_
  · refine wp_mid [(4, .str w), (5, .bool false), (6, .int .u64 (0 : Nat)), (7, .bool false), (8, i64 (0 : Nat))] [] ?_ fun env ⟨h4, h5, h6, h7, h8, _⟩ => ?_
    · simp -implicitDefEqProofs only [h4, h5, h6, h7, Nat.reduceEqDiff, Nat.reduceLeDiff, Nat.reduceAdd, reduceCtorEq, go_sem, ↓reduceIte]; rfl
    rw [wp_block_eq]
    refine wp_loop_use (A := Nat × Nat × Bool) (fun x => [(4, .str w), (5, .bool false), (6, .int .u64 x.2.1), (7, .bool x.2.2), (8, i64 x.1)]) (fun _ => []) (fun x => x.1 ≤ w.length ∧ accOk (w.take x.1) x.2.1 x.2.2) (fun x => w.length - x.1) (0, 0, false) ⟨by omega, by simp [accOk, decN]⟩ rfl ⟨h4, h5, h6, h7, h8, trivial⟩ ?_
    rintro ⟨i, m, o⟩ hi
    simp only at hi
    have hti : ((i : Nat) : Int).toNat = i := Int.toNat_natCast _
    by_cases hlt : i < w.length
    · have hd : decide ((i : Int) < w.length) = true := by simp; omega
      obtain ⟨g1, g2⟩ := hdig i hlt
      have d1 : decide (((w.getD i 0).toNat : Int) < 48) = false := by simp only [decide_eq_false_iff_not]; omega
      have d2 : decide (((w.getD i 0).toNat : Int) > 57) = false := by simp only [decide_eq_false_iff_not]; omega
      have hw := wrap_succ i w.length hlt (by omega)
      have htk : w.take (i + 1) = w.take i ++ [w.getD i 0] := by
        rw [List.take_add_one]; simp [hlt]
      by_cases hm : 1000000000000000000 < m
      · have d3 : decide ((m : Int) > 1000000000000000000) = true := by simp only [decide_eq_true_eq]; omega
        simp -implicitDefEqProofs only [hd, hti, d1, d2, d3, hw, Nat.reduceEqDiff, Nat.reduceLeDiff, Nat.reduceAdd, reduceCtorEq, go_sem, ↓reduceIte]
        refine ⟨by omega, hlt, by omega, hlt, ⟨i + 1, m, true⟩, ⟨⟨by omega, ?_⟩, by simp only; omega⟩, rfl, rfl, rfl⟩
        simp only [htk]
        exact accOk_big _ hi.2 hm
      · have d3 : decide ((m : Int) > 1000000000000000000) = false := by simp only [decide_eq_false_iff_not]; omega
        have w1 : IntKind.u64.wrap ((m : Int) * 10) = ((m * 10 : Nat) : Int) := by rw [wrap_u64_id _ (by omega) (by omega)]; omega
        have w2 : IntKind.u64.wrap ((w.getD i 0).toNat : Int) = ((w.getD i 0).toNat : Int) := by rw [wrap_u64_id _ (by omega) (by omega)]
        have w3 : IntKind.u64.wrap (((m * 10 : Nat) : Int) + ((w.getD i 0).toNat : Int)) = ((m * 10 + (w.getD i 0).toNat : Nat) : Int) := by rw [wrap_u64_id _ (by omega) (by omega)]; omega
        have w4 : IntKind.u64.wrap (((m * 10 + (w.getD i 0).toNat : Nat) : Int) - 48) = ((m * 10 + ((w.getD i 0).toNat - 48) : Nat) : Int) := by rw [wrap_u64_id _ (by omega) (by omega)]; omega
        simp -implicitDefEqProofs only [hd, hti, d1, d2, d3, hw, w1, w2, w3, w4, Nat.reduceEqDiff, Nat.reduceLeDiff, Nat.reduceAdd, reduceCtorEq, go_sem, ↓reduceIte]
        refine ⟨by omega, hlt, by omega, hlt, by omega, hlt, ⟨i + 1, m * 10 + ((w.getD i 0).toNat - 48), o⟩, ⟨⟨by omega, ?_⟩, by simp only; omega⟩, rfl, rfl, rfl⟩
        simp only [htk]
        exact accOk_small _ (by omega) hi.2 (by omega)
    · have hd : decide ((i : Int) < w.length) = false := by simp; omega
      have hie : i = w.length := by omega
      subst hie
      rw [List.take_length] at hi
      simp -implicitDefEqProofs only [hd, Nat.reduceEqDiff, Nat.reduceLeDiff, Nat.reduceAdd, reduceCtorEq, go_sem, ↓reduceIte]
      exact ⟨(m, o), hi.2, rfl, rfl⟩
  have hz2 : z = if decN w < 9223372036854775808 then .ok (decN w) else .error 3 := by
    rw [← hz]
    simp only [numP, if_neg hne, if_neg h48, hd, Bool.true_eq_false, if_false]
  simp only at hac h6 h7
  unfold accOk at hac
  cases o with
  | true =>
    rw [if_pos rfl] at hac
    rw [if_neg (by omega)] at hz2
    subst hz2
    simp -implicitDefEqProofs only [h5, h6, h7, Nat.reduceEqDiff, Nat.reduceLeDiff, Nat.reduceAdd, reduceCtorEq, go_sem, ↓reduceIte]
    rfl
  | false =>
    rw [if_neg (by simp)] at hac
    have hof : of false (m : Int) = ((numN z : Int), (numE z : Int)) := by
      rw [hz2]
      unfold of pow63
      by_cases hb : decN w < 9223372036854775808
      · rw [if_pos hb, if_neg (by simp), if_neg (by omega)]
        simp [numN, numE]; omega
      · rw [if_neg hb, if_neg (by simp), if_pos (by omega)]
        simp [numN, numE]
    simp -implicitDefEqProofs only [h5, h6, h7, Nat.reduceEqDiff, Nat.reduceLeDiff, Nat.reduceAdd, reduceCtorEq, go_sem, ↓reduceIte]
    refine callW_pure (c199 false m (by omega)) rfl rfl ?_
    simp -implicitDefEqProofs only [hof, Nat.reduceEqDiff, Nat.reduceLeDiff, Nat.reduceAdd, reduceCtorEq, go_sem, ↓reduceIte]
end Go.Pv
/- The law of the eighth reference's next token. -/
namespace Go.Pv
open Go Go.Proofs
set_option maxRecDepth 4000
variable {G : Frz}
theorem c141 : RR G 141 [] [] (.sl .yes ⟨1, 9⟩ (signL.map .str)) [] := by
  refine ret_intro Tryz.func141 rfl Tryz.results141 (by decide +kernel) rfl (Nat.le_refl _) rfl (by simp) ?_
  simp -implicitDefEqProofs only [Nat.reduceEqDiff, Nat.reduceLeDiff, Nat.reduceAdd, reduceCtorEq, go_sem, ↓reduceIte]
  rfl
def oneA (a : Nat) : Except (Nat × Nat) (Tok × Nat) → AV
  | .ok (t, k) => .tup [tokA t, i64 (a + k : Nat), i64 0, i64 0]
  | .error (b, e) => .tup [tokA ⟨0, [], 0, [], 0⟩, i64 0, i64 (a + b : Nat), i64 e]
theorem oneA_ren (ks : List Nat) (a : Nat) (Z : Except (Nat × Nat) (Tok × Nat)) : ren ks (oneA a Z) = oneA a Z := by
  cases Z <;> rfl
theorem pre_take (w l : Bytes) : (l.take w.length == w) = w.isPrefixOf l := by
  rw [Bool.eq_iff_iff, beq_iff_eq, List.isPrefixOf_iff_prefix]
  exact ⟨fun h => h ▸ List.take_prefix _ _, fun h => (List.prefix_iff_eq_take.1 h).symm⟩
theorem name2_P (w : Bytes) : name2 w = nameP w := by
  rw [← nameP_Q]
  unfold name2 nameQ
  cases w with
  | nil => rfl
  | cons c r => cases r <;> simp [within] <;> grind
theorem c59 (s : Bytes) (at' : Nat) (hs : s.length ≤ 2147483000) (c : UInt8) (r : Bytes) (hd : s.drop at' = c :: r) (Z : Except (Nat × Nat) (Tok × Nat)) (hZ : oneR (c :: r) at' = Z) :
    RR G 59 [.str s, i64 at'] [] (oneA at' Z) [] := by
  obtain ⟨hlt, hget, hr⟩ := getD_drop s at' c r hd
  have hlen : (c :: r).length = s.length - at' := by rw [← hd]; simp
  have hrl : r.length = s.length - (at' + 1) := by rw [← hr]; simp
  have hti : ((at' : Nat) : Int).toNat = at' := Int.toNat_natCast _
  have hsm : small c false = letter c := by simp [small]
  have hrt (p : UInt8 → Bool) : runTo p s at' = at' + ((c :: r).takeWhile p).length := by unfold runTo; rw [hd]
  refine ret_intro Tryz.func59 rfl Tryz.results59 (by decide +kernel) rfl (Nat.le_refl _) (oneA_ren _ _ _) (by simp) ?_
  refine wp_mid [(0, .str s), (1, i64 at'), (4, .ptr 0 0)] [zB] ?_ fun env ⟨h0, h1, h4, _⟩ => ?_
  · simp -implicitDefEqProofs only [zB, Nat.reduceEqDiff, Nat.reduceLeDiff, Nat.reduceAdd, reduceCtorEq, go_sem, ↓reduceIte]
  refine wp_mid [(0, .str s), (1, i64 at'), (4, .ptr 0 0), (8, byte c)] [zB] ?_ fun env ⟨h0, h1, h4, h8, _⟩ => ?_
  · simp -implicitDefEqProofs only [h0, h1, h4, zB, hti, hget, Nat.reduceEqDiff, Nat.reduceLeDiff, Nat.reduceAdd, reduceCtorEq, go_sem, ↓reduceIte]
    exact ⟨by omega, hlt⟩
  by_cases el : letter c = true
  · have hw : oneR (c :: r) at' = if ((c :: r).takeWhile within).length > 14 then .error (0, 1) else .ok (⟨1, (c :: r).takeWhile within, 0, [], at'⟩, ((c :: r).takeWhile within).length) := by
      simp only [oneR, el, if_true]
    rw [hZ] at hw
    have hwl := tw_le within (c :: r)
    have htk : (s.take (at' + ((c :: r).takeWhile within).length)).drop at' = (c :: r).takeWhile within := by
      rw [List.drop_take, hd, Nat.add_sub_cancel_left, take_tw]
    have hrw := hrt within
    generalize (c :: r).takeWhile within = w at hw hwl htk hrw
    have e1 : IntKind.i64.wrap (((at' + w.length : Nat) : Int) - (at' : Int)) = (w.length : Int) := by rw [wrap_id _ (by omega) (by omega)]; omega
    simp -implicitDefEqProofs only [h0, h1, h4, h8, zB, Nat.reduceEqDiff, Nat.reduceLeDiff, Nat.reduceAdd, reduceCtorEq, go_sem, ↓reduceIte]
    refine callW_pure (c135 c false) rfl rfl ?_
    rw [hsm, el]
    simp -implicitDefEqProofs only [h0, h1, h4, h8, zB, Nat.reduceEqDiff, Nat.reduceLeDiff, Nat.reduceAdd, reduceCtorEq, go_sem, ↓reduceIte]
    refine callW_pure (c136 s at' false (by omega) (by simp [strLim]; omega)) rfl rfl ?_
    rw [show runP false = within from rfl, hrw]
    by_cases h14 : w.length > 14
    · have d : decide ((w.length : Int) > 14) = true := by simp; omega
      rw [if_pos h14] at hw
      subst hw
      simp -implicitDefEqProofs only [h0, h1, h4, h8, zB, e1, d, Nat.reduceEqDiff, Nat.reduceLeDiff, Nat.reduceAdd, reduceCtorEq, go_sem, ↓reduceIte]
      rfl
    · have d : decide ((w.length : Int) > 14) = false := by simp; omega
      rw [if_neg h14] at hw
      subst hw
      have hti2 : ((at' + w.length : Nat) : Int).toNat = at' + w.length := Int.toNat_natCast _
      simp -implicitDefEqProofs only [h0, h1, h4, h8, zB, e1, d, hti, hti2, Nat.reduceEqDiff, Nat.reduceLeDiff, Nat.reduceAdd, reduceCtorEq, go_sem, ↓reduceIte]
      exact ⟨by omega, by omega, by omega, by omega, by rw [htk] <;> rfl⟩
  have el : letter c = false := by simpa using el
  refine wp_mid [(0, .str s), (1, i64 at'), (4, .ptr 0 0), (8, byte c)] [zB] ?_ fun env ⟨h0, h1, h4, h8, _⟩ => ?_
  · simp -implicitDefEqProofs only [h0, h1, h4, h8, zB, Nat.reduceEqDiff, Nat.reduceLeDiff, Nat.reduceAdd, reduceCtorEq, go_sem, ↓reduceIte]
    refine callW_pure (c135 c false) rfl rfl ?_
    rw [hsm, el]
    simp -implicitDefEqProofs only [h0, h1, h4, h8, zB, Nat.reduceEqDiff, Nat.reduceLeDiff, Nat.reduceAdd, reduceCtorEq, go_sem, ↓reduceIte]
  by_cases ed : digit c = true
  · obtain ⟨g1, g2⟩ : 48 ≤ c.toNat ∧ c.toNat ≤ 57 := by simpa [digit] using ed
    have d1 : decide ((c.toNat : Int) ≥ 48) = true := by simp; omega
    have d2 : decide ((c.toNat : Int) ≤ 57) = true := by simp; omega
    have hw : oneR (c :: r) at' = match numP ((c :: r).takeWhile digit) with
      | .ok n => .ok (⟨2, [], n, [], at'⟩, ((c :: r).takeWhile digit).length)
      | .error e => .error (0, e) := by
      simp only [oneR, el, ed, if_true, Bool.false_eq_true, if_false]
      rfl
    rw [hZ] at hw
    have hwl := tw_le digit (c :: r)
    have htk : (s.take (at' + ((c :: r).takeWhile digit).length)).drop at' = (c :: r).takeWhile digit := by
      rw [List.drop_take, hd, Nat.add_sub_cancel_left, take_tw]
    have hrw := hrt digit
    have hne : (c :: r).takeWhile digit ≠ [] := by rw [List.takeWhile_cons_of_pos ed]; simp
    have hal : ((c :: r).takeWhile digit).all digit = true := List.all_takeWhile
    generalize (c :: r).takeWhile digit = w at hw hwl htk hrw hne hal
    have hti2 : ((at' + w.length : Nat) : Int).toNat = at' + w.length := Int.toNat_natCast _
    simp -implicitDefEqProofs only [h0, h1, h4, h8, zB, d1, d2, Nat.reduceEqDiff, Nat.reduceLeDiff, Nat.reduceAdd, reduceCtorEq, go_sem, ↓reduceIte]
    refine callW_pure (c136 s at' true (by omega) (by simp [strLim]; omega)) rfl rfl ?_
    rw [show runP true = digit from rfl, hrw]
    simp -implicitDefEqProofs only [h0, h1, h4, h8, zB, hti, hti2, Nat.reduceEqDiff, Nat.reduceLeDiff, Nat.reduceAdd, reduceCtorEq, go_sem, ↓reduceIte]
    refine ⟨by omega, by omega, by omega, by omega, ?_⟩
    rw [htk]
    refine callW_pure (c137 w hne hal (by omega) _ rfl) rfl rfl ?_
    have hz0 : ∀ e, numP w = .error e → e ≠ 0 := fun e hv h0 => by
      unfold numP at hv
      repeat' split at hv
      all_goals first | (cases hv; done) | (cases hv; cases h0)
    cases hz : numP w with
    | ok n =>
      rw [hz] at hw
      subst hw
      have z0 : (((0 : Nat) : Int) != 0) = false := rfl
      simp -implicitDefEqProofs only [h0, h1, h4, h8, zB, numN, numE, z0, Nat.reduceEqDiff, Nat.reduceLeDiff, Nat.reduceAdd, reduceCtorEq, go_sem, ↓reduceIte]
      rfl
    | error e =>
      rw [hz] at hw
      subst hw
      have z0 : ((e : Int) != 0) = true := by simp [hz0 e hz]
      simp -implicitDefEqProofs only [h0, h1, h4, h8, zB, numN, numE, z0, Nat.reduceEqDiff, Nat.reduceLeDiff, Nat.reduceAdd, reduceCtorEq, go_sem, ↓reduceIte]
      rfl
  have ed : digit c = false := by simpa using ed
  refine wp_mid [(0, .str s), (1, i64 at'), (4, .ptr 0 0), (8, byte c)] [zB] ?_ fun env ⟨h0, h1, h4, h8, _⟩ => ?_
  · by_cases g1 : 48 ≤ c.toNat
    · have g2 : ¬ c.toNat ≤ 57 := fun h => by
        have : digit c = true := by simp [digit]; omega
        rw [ed] at this
        cases this
      have d1 : decide ((c.toNat : Int) ≥ 48) = true := by simp; omega
      have d2 : decide ((c.toNat : Int) ≤ 57) = false := by simp; omega
      simp -implicitDefEqProofs only [h0, h1, h4, h8, zB, d1, d2, Nat.reduceEqDiff, Nat.reduceLeDiff, Nat.reduceAdd, reduceCtorEq, go_sem, ↓reduceIte]
    · have d1 : decide ((c.toNat : Int) ≥ 48) = false := by simp; omega
      simp -implicitDefEqProofs only [h0, h1, h4, h8, zB, d1, Nat.reduceEqDiff, Nat.reduceLeDiff, Nat.reduceAdd, reduceCtorEq, go_sem, ↓reduceIte]
  by_cases eq : c = 34
  · have d1 : ((c.toNat : Int) == 34) = true := by rw [eq] <;> rfl
    have hw : oneR (c :: r) at' = match qParse (c :: r) with
      | (p, k, true) => .ok (⟨3, [], 0, p, at'⟩, k)
      | (_, k, false) => .error (k, 1) := by
      simp only [oneR, el, ed, eq, if_true, Bool.false_eq_true, if_false]
      rw [← eq, el, ed]
      rfl
    rw [hZ] at hw
    have hql := qParse_le (c :: r)
    simp -implicitDefEqProofs only [h0, h1, h4, h8, zB, d1, hti, Nat.reduceEqDiff, Nat.reduceLeDiff, Nat.reduceAdd, reduceCtorEq, go_sem, ↓reduceIte]
    refine ⟨by omega, by omega, ?_⟩
    rw [List.take_length, hd]
    refine callW_pure (c138 (c :: r) (by omega) _ rfl) rfl rfl ?_
    revert hw hql
    rcases qParse (c :: r) with ⟨p, k, b⟩
    intro hw hql
    simp only at hql
    have hk := wrap_nat at' k (by omega)
    cases b with
    | true =>
      simp only at hw
      subst hw
      have z0 : (((0 : Nat) : Int) != 0) = false := rfl
      have z1 : ((0 : Int) != 0) = false := rfl
      simp -implicitDefEqProofs only [h0, h1, h4, h8, zB, z0, z1, hk, partsA, Nat.reduceEqDiff, Nat.reduceLeDiff, Nat.reduceAdd, reduceCtorEq, go_sem, ↓reduceIte]
      rfl
    | false =>
      simp only at hw
      subst hw
      have z1 : ((1 : Int) != 0) = true := rfl
      simp -implicitDefEqProofs only [h0, h1, h4, h8, zB, z1, hk, Bool.false_eq_true, partsA, Nat.reduceEqDiff, Nat.reduceLeDiff, Nat.reduceAdd, reduceCtorEq, go_sem, ↓reduceIte]
      rfl
  refine wp_mid [(0, .str s), (1, i64 at'), (4, .ptr 0 0), (8, byte c)] [zB] ?_ fun env ⟨h0, h1, h4, h8, _⟩ => ?_
  · have d1 : ((c.toNat : Int) == 34) = false := byte_ne c 34 eq
    simp -implicitDefEqProofs only [h0, h1, h4, h8, zB, d1, Nat.reduceEqDiff, Nat.reduceLeDiff, Nat.reduceAdd, reduceCtorEq, go_sem, ↓reduceIte]
  have hw1 := wrap_succ at' s.length hlt (by omega)
  have hti1 : ((at' + 1 : Nat) : Int).toNat = at' + 1 := Int.toNat_natCast _
  have hrt1 (p : UInt8 → Bool) : runTo p s (at' + 1) = at' + 1 + (r.takeWhile p).length := by unfold runTo; rw [hr]
  by_cases ev : c = 36
  · have d1 : ((c.toNat : Int) == 36) = true := by rw [ev] <;> rfl
    have hw : oneR (c :: r) at' = if nameP (r.takeWhile within) then .ok (⟨6, r.takeWhile within, 0, [], at'⟩, (r.takeWhile within).length + 1) else .error (0, 1) := by
      simp only [oneR, el, ed, eq, if_false, Bool.false_eq_true]
      rw [if_pos ev]
    rw [hZ] at hw
    have hwl := tw_le within r
    have htk : (s.take (at' + 1 + (r.takeWhile within).length)).drop (at' + 1) = r.takeWhile within := by
      rw [List.drop_take, hr, Nat.add_sub_cancel_left, take_tw]
    have hrw := hrt1 within
    generalize r.takeWhile within = w at hw hwl htk hrw
    have hti2 : ((at' + 1 + w.length : Nat) : Int).toNat = at' + 1 + w.length := Int.toNat_natCast _
    simp -implicitDefEqProofs only [h0, h1, h4, h8, zB, d1, hw1, Nat.reduceEqDiff, Nat.reduceLeDiff, Nat.reduceAdd, reduceCtorEq, go_sem, ↓reduceIte]
    refine callW_pure (c136 s (at' + 1) false (by omega) (by simp [strLim]; omega)) rfl rfl ?_
    rw [show runP false = within from rfl, hrw]
    simp -implicitDefEqProofs only [h0, h1, h4, h8, zB, hw1, hti1, hti2, Nat.reduceEqDiff, Nat.reduceLeDiff, Nat.reduceAdd, reduceCtorEq, go_sem, ↓reduceIte]
    refine ⟨by omega, by omega, by omega, by omega, ?_⟩
    rw [htk]
    refine callW_pure (c22 w (by simp [strLim]; omega)) rfl rfl ?_
    rw [name2_P]
    cases hn : nameP w with
    | true =>
      rw [hn] at hw
      simp only [if_true] at hw
      subst hw
      simp -implicitDefEqProofs only [h0, h1, h4, h8, zB, hw1, hti1, hti2, Nat.reduceEqDiff, Nat.reduceLeDiff, Nat.reduceAdd, reduceCtorEq, go_sem, ↓reduceIte]
      refine ⟨by omega, by omega, by omega, by omega, ?_⟩
      rw [htk, show at' + 1 + w.length = at' + (w.length + 1) by omega]
      rfl
    | false =>
      rw [hn] at hw
      simp only [if_false, Bool.false_eq_true] at hw
      subst hw
      simp -implicitDefEqProofs only [h0, h1, h4, h8, zB, Nat.reduceEqDiff, Nat.reduceLeDiff, Nat.reduceAdd, reduceCtorEq, go_sem, ↓reduceIte]
      rfl
  refine wp_mid [(0, .str s), (1, i64 at'), (4, .ptr 0 0), (8, byte c)] [zB] ?_ fun env ⟨h0, h1, h4, h8, _⟩ => ?_
  · have d1 : ((c.toNat : Int) == 36) = false := byte_ne c 36 ev
    simp -implicitDefEqProofs only [h0, h1, h4, h8, zB, d1, Nat.reduceEqDiff, Nat.reduceLeDiff, Nat.reduceAdd, reduceCtorEq, go_sem, ↓reduceIte]
  by_cases em : c = 45 ∧ r.takeWhile letter ≠ []
  · have d1 : ((c.toNat : Int) == 45) = true := by rw [em.1] <;> rfl
    have hw : oneR (c :: r) at' = if flagP (r.takeWhile letter) then .ok (⟨5, r.takeWhile letter, 0, [], at'⟩, (r.takeWhile letter).length + 1) else .error (0, 1) := by
      simp only [oneR, el, ed, eq, ev, if_false, Bool.false_eq_true]
      rw [if_pos em]
    rw [hZ] at hw
    have hwl := tw_le letter r
    have htk : (s.take (at' + 1 + (r.takeWhile letter).length)).drop (at' + 1) = r.takeWhile letter := by
      rw [List.drop_take, hr, Nat.add_sub_cancel_left, take_tw]
    have hrw := hrt1 letter
    have hne : 0 < (r.takeWhile letter).length := List.length_pos_iff.2 em.2
    generalize r.takeWhile letter = w at hw hwl htk hrw hne
    have hti2 : ((at' + 1 + w.length : Nat) : Int).toNat = at' + 1 + w.length := Int.toNat_natCast _
    have d2 : decide (((at' + 1 + w.length : Nat) : Int) > ((at' + 1 : Nat) : Int)) = true := by simp only [decide_eq_true_eq]; omega
    simp -implicitDefEqProofs only [h0, h1, h4, h8, zB, d1, hw1, Nat.reduceEqDiff, Nat.reduceLeDiff, Nat.reduceAdd, reduceCtorEq, go_sem, ↓reduceIte]
    refine callW_pure (c139 s (at' + 1) (by omega) (by simp [strLim]; omega)) rfl rfl ?_
    rw [hrw]
    simp -implicitDefEqProofs only [h0, h1, h4, h8, zB, d1, hw1, d2, Nat.reduceEqDiff, Nat.reduceLeDiff, Nat.reduceAdd, reduceCtorEq, go_sem, ↓reduceIte]
    refine callW_pure (c139 s (at' + 1) (by omega) (by simp [strLim]; omega)) rfl rfl ?_
    rw [hrw]
    simp -implicitDefEqProofs only [h0, h1, h4, h8, zB, hw1, hti1, hti2, Nat.reduceEqDiff, Nat.reduceLeDiff, Nat.reduceAdd, reduceCtorEq, go_sem, ↓reduceIte]
    refine ⟨by omega, by omega, by omega, by omega, ?_⟩
    rw [htk]
    refine callW_pure (c140 w) rfl rfl ?_
    rw [show Flag w = flagP w from rfl]
    cases hn : flagP w with
    | true =>
      rw [hn] at hw
      simp only [if_true] at hw
      subst hw
      simp -implicitDefEqProofs only [h0, h1, h4, h8, zB, hw1, hti1, hti2, Nat.reduceEqDiff, Nat.reduceLeDiff, Nat.reduceAdd, reduceCtorEq, go_sem, ↓reduceIte]
      refine ⟨by omega, by omega, by omega, by omega, ?_⟩
      rw [htk, show at' + 1 + w.length = at' + (w.length + 1) by omega]
      rfl
    | false =>
      rw [hn] at hw
      simp only [if_false, Bool.false_eq_true] at hw
      subst hw
      simp -implicitDefEqProofs only [h0, h1, h4, h8, zB, Nat.reduceEqDiff, Nat.reduceLeDiff, Nat.reduceAdd, reduceCtorEq, go_sem, ↓reduceIte]
      rfl
  refine wp_mid [(0, .str s), (1, i64 at'), (4, .ptr 0 0)] [zB] ?_ fun env ⟨h0, h1, h4, _⟩ => ?_
  · by_cases em1 : c = 45
    · have hne : r.takeWhile letter = [] := by
        by_cases h : r.takeWhile letter = []
        · exact h
        · exact absurd ⟨em1, h⟩ em
      have d1 : ((c.toNat : Int) == 45) = true := by rw [em1] <;> rfl
      have hrw := hrt1 letter
      rw [hne] at hrw
      have d2 : decide (((at' + 1 : Nat) : Int) > ((at' + 1 : Nat) : Int)) = false := by simp
      simp -implicitDefEqProofs only [h0, h1, h4, h8, zB, d1, hw1, Nat.reduceEqDiff, Nat.reduceLeDiff, Nat.reduceAdd, reduceCtorEq, go_sem, ↓reduceIte]
      refine callW_pure (c139 s (at' + 1) (by omega) (by simp [strLim]; omega)) rfl rfl ?_
      rw [hrw]
      simp -implicitDefEqProofs only [h0, h1, h4, h8, zB, d1, hw1, d2, List.length_nil, Nat.add_zero, Nat.reduceEqDiff, Nat.reduceLeDiff, Nat.reduceAdd, reduceCtorEq, go_sem, ↓reduceIte]
    · have d1 : ((c.toNat : Int) == 45) = false := byte_ne c 45 em1
      simp -implicitDefEqProofs only [h0, h1, h4, h8, zB, d1, Nat.reduceEqDiff, Nat.reduceLeDiff, Nat.reduceAdd, reduceCtorEq, go_sem, ↓reduceIte]
  have hw : oneR (c :: r) at' = match signL.find? (fun w => w.isPrefixOf (c :: r)) with
      | some w => .ok (⟨4, w, 0, [], at'⟩, w.length)
      | none => .error (0, 1) := by
    simp only [oneR, el, ed, eq, ev, if_false, Bool.false_eq_true]
    rw [if_neg em]
    rfl
  rw [hZ] at hw
  refine wp_mid [(0, .str s), (1, i64 at'), (4, .ptr 0 0), (18, .sl .yes ⟨1, 9⟩ (signL.map .str))] [zB] ?_ fun env ⟨h0, h1, h4, h18, _⟩ => ?_
  · simp -implicitDefEqProofs only [h0, h1, h4, zB, Nat.reduceEqDiff, Nat.reduceLeDiff, Nat.reduceAdd, reduceCtorEq, go_sem, ↓reduceIte]
    refine callW_pure c141 rfl rfl ?_
    simp -implicitDefEqProofs only [h0, h1, h4, zB, Nat.reduceEqDiff, Nat.reduceLeDiff, Nat.reduceAdd, reduceCtorEq, go_sem, ↓reduceIte]
  refine wp_ghost (A := Unit) (fun _ => signL.find? (fun w => w.isPrefixOf (c :: r)) = none) (fun _ => [zB]) (fun _ => [(1, i64 at'), (4, .ptr 0 0)]) ?_ fun _ hn env ⟨h1, h4, _⟩ => ?_
  · refine wp_mid [(0, .str s), (1, i64 at'), (4, .ptr 0 0), (18, .sl .yes ⟨1, 9⟩ (signL.map .str)), (19, i64 (0 : Nat))] [zB] ?_ fun env ⟨h0, h1, h4, h18, h19, _⟩ => ?_
    · simp -implicitDefEqProofs only [h0, h1, h4, h18, zB, Nat.reduceEqDiff, Nat.reduceLeDiff, Nat.reduceAdd, reduceCtorEq, go_sem, ↓reduceIte]
      rfl
    rw [wp_block_eq]
    refine wp_loop_use (A := Nat) (fun i => [(0, .str s), (1, i64 at'), (4, .ptr 0 0), (18, .sl .yes ⟨1, 9⟩ (signL.map .str)), (19, i64 i)]) (fun _ => [zB]) (fun i => i ≤ 18 ∧ ∀ j (hj : j < i) (h18 : j < 18), (signL[j]'h18).isPrefixOf (c :: r) = false) (fun i => 18 - i) 0 ⟨by omega, fun j hj => absurd hj (by omega)⟩ rfl ⟨h0, h1, h4, h18, h19, trivial⟩ ?_
    intro i hi
    by_cases hl18 : i < 18
    · have hdd : decide ((i : Int) < (signL.length : Int)) = true := by simp only [decide_eq_true_eq]; show (i : Int) < 18; omega
      have hi2 : ((i : Nat) : Int).toNat = i := Int.toNat_natCast _
      have hget : signL.getD i default = signL[i]'hl18 := by
        rw [List.getD, List.getElem?_eq_getElem (show i < signL.length from hl18)] <;> rfl
      have hm : (signL[i]'hl18) ∈ signL := List.getElem_mem _
      have hsl : (signL[i]'hl18).length ≤ 2 := by
        have : ∀ w ∈ signL, w.length ≤ 2 := by decide
        exact this _ hm
      have hap := wrap_nat at' (signL[i]'hl18).length (by omega)
      have hdr : ∀ j (h18 : j < 18), j = i → signL[j]'h18 = signL[i]'hl18 := fun j h18 e => by subst e; rfl
      generalize hww : signL[i]'hl18 = w at hget hsl hap hdr
      have hti2 : ((at' + w.length : Nat) : Int).toNat = at' + w.length := Int.toNat_natCast _
      simp -implicitDefEqProofs only [hdd, hi2, hget, hap, Nat.reduceEqDiff, Nat.reduceLeDiff, Nat.reduceAdd, reduceCtorEq, go_sem, ↓reduceIte]
      refine ⟨by omega, hl18, ?_⟩
      (refine WT_ord (t := lin [0, 1, 2, 3, 4, 5, 6, 7, 8, 9, 10, 11, 12, 13, 14] .nil) ?_ ?_; kernel_rfl)
      by_cases hle : at' + w.length ≤ s.length
      · have d1 : decide (((at' + w.length : Nat) : Int) ≤ (s.length : Int)) = true := by simp only [decide_eq_true_eq]; omega
        have hbe : (List.drop at' (List.take (at' + w.length) s) == w) = w.isPrefixOf (c :: r) := by
          rw [List.drop_take, hd, Nat.add_sub_cancel_left, pre_take]
        cases hp : w.isPrefixOf (c :: r) with
        | true =>
          rw [hp] at hbe
          have he : signL.find? (fun w => w.isPrefixOf (c :: r)) = some w := by
            rw [← hww]
            exact find_some_take _ signL i hl18 (fun j hj => hi.2 j hj (by omega)) (by rw [hww]; exact hp)
          rw [he] at hw
          simp only at hw
          subst hw
          simp -implicitDefEqProofs only [d1, hti, hti2, hi2, hget, hbe, zB, Nat.reduceEqDiff, Nat.reduceLeDiff, Nat.reduceAdd, reduceCtorEq, go_sem, ↓reduceIte]
          exact ⟨by omega, by omega, by omega, by omega, by omega, hl18, by omega, hl18, rfl⟩
        | false =>
          rw [hp] at hbe
          simp -implicitDefEqProofs only [d1, hti, hti2, hi2, hget, hbe, zB, Nat.reduceEqDiff, Nat.reduceLeDiff, Nat.reduceAdd, reduceCtorEq, go_sem, ↓reduceIte]
          refine ⟨by omega, by omega, by omega, by omega, by omega, hl18, ⟨i + 1, ⟨⟨by omega, fun j hj h18 => ?_⟩, by omega⟩, ?_⟩⟩
          · by_cases hji : j < i
            · exact hi.2 j hji h18
            · rw [hdr j h18 (by omega)]; exact hp
          · rw [wrap_succ i 18 hl18 (by omega)]
      · have d1 : decide (((at' + w.length : Nat) : Int) ≤ (s.length : Int)) = false := by simp only [decide_eq_false_iff_not]; omega
        simp -implicitDefEqProofs only [d1, hti, hti2, hi2, Nat.reduceEqDiff, Nat.reduceLeDiff, Nat.reduceAdd, reduceCtorEq, go_sem, ↓reduceIte]
        have hp : w.isPrefixOf (c :: r) = false := by
          cases hp : w.isPrefixOf (c :: r) with
          | false => rfl
          | true =>
            have := (List.isPrefixOf_iff_prefix.1 hp).length_le
            omega
        refine ⟨i + 1, ⟨⟨by omega, fun j hj h18 => ?_⟩, by omega⟩, ?_⟩
        · by_cases hji : j < i
          · exact hi.2 j hji h18
          · rw [hdr j h18 (by omega)]; exact hp
        · rw [wrap_succ i 18 hl18 (by omega)]
    · have hie : i = 18 := by omega
      subst hie
      have hdd : decide (((18 : Nat) : Int) < (signL.length : Int)) = false := rfl
      simp -implicitDefEqProofs only [hdd, Nat.reduceEqDiff, Nat.reduceLeDiff, Nat.reduceAdd, reduceCtorEq, go_sem, ↓reduceIte]
      refine ⟨(), ?_⟩
      rw [List.find?_eq_none]
      intro w hw
      obtain ⟨j, hj, rfl⟩ := List.mem_iff_getElem.1 hw
      simp [hi.2 j hj hj]
  rw [hn] at hw
  subst hw
  simp -implicitDefEqProofs only [h1, h4, zB, Nat.reduceEqDiff, Nat.reduceLeDiff, Nat.reduceAdd, reduceCtorEq, go_sem, ↓reduceIte]
  rfl
end Go.Pv
/- The law of the eighth reference's Scan. -/
namespace Go.Pv
open Go Go.Proofs
set_option maxRecDepth 4000
variable {G : Frz}
theorem c20 (s : Bytes) (hs : s.length ≤ 2147483000) (T : List Tok × Nat × Nat) (hT : scanT s = T) : RR G 20 [.str s] [] (.tup [toksA T.1, i64 T.2.1, i64 T.2.2]) [] := by
  unfold scanT at hT
  by_cases hlong : s.length > 2000
  · rw [if_pos hlong] at hT
    have hd : decide ((s.length : Int) > 2000) = true := by simp; omega
    subst hT
    refine ret_intro Tryz.func20 rfl Tryz.results20 (by decide +kernel) rfl (Nat.le_refl _) rfl (by simp) ?_
    simp -implicitDefEqProofs only [hd, Nat.reduceEqDiff, Nat.reduceLeDiff, Nat.reduceAdd, reduceCtorEq, go_sem, ↓reduceIte]
    rfl
  rw [if_neg hlong] at hT
  have hd : decide ((s.length : Int) > 2000) = false := by simp; omega
  refine ret_intro Tryz.func20 rfl Tryz.results20 (by decide +kernel) rfl (Nat.le_refl _) rfl (by simp) ?_
  refine wp_mid [(0, .str s)] [] ?_ fun env ⟨h0, _⟩ => ?_
  · simp -implicitDefEqProofs only [Nat.reduceEqDiff, Nat.reduceLeDiff, Nat.reduceAdd, reduceCtorEq, go_sem, ↓reduceIte]
  refine wp_mid [(0, .str s)] [] ?_ fun env ⟨h0, _⟩ => ?_
  · simp -implicitDefEqProofs only [h0, hd, Nat.reduceEqDiff, Nat.reduceLeDiff, Nat.reduceAdd, reduceCtorEq, go_sem, ↓reduceIte]
  refine wp_mid [(0, .str s), (5, .sl .yes ⟨5, 32⟩ [])] [] ?_ fun env ⟨h0, h5, _⟩ => ?_
  · simp -implicitDefEqProofs only [h0, Nat.reduceEqDiff, Nat.reduceLeDiff, Nat.reduceAdd, reduceCtorEq, go_sem, ↓reduceIte]
  refine wp_mid [(0, .str s), (5, .sl .yes ⟨5, 32⟩ []), (6, i64 (0 : Nat))] [] ?_ fun env ⟨h0, h5, h6, _⟩ => ?_
  · simp -implicitDefEqProofs only [h0, h5, Nat.reduceEqDiff, Nat.reduceLeDiff, Nat.reduceAdd, reduceCtorEq, go_sem, ↓reduceIte]
    rfl
  refine wp_ghost (A := List Blk × List Tok) (fun z => T = (z.2, 0, 0)) (fun z => z.1) (fun z => [(5, .sl .yes ⟨5, 32⟩ (z.2.map tokA))]) ?_ fun z hz env ⟨h5, _⟩ => ?_
  · rw [wp_block_eq]
    refine wp_loop_garb (A := Nat × List Tok) (fun z => [(0, .str s), (5, .sl .yes ⟨5, 32⟩ (z.2.map tokA)), (6, i64 z.1)]) (fun z => []) (fun z => z.1 ≤ s.length ∧ z.2.length ≤ z.1 ∧ scanR (s.drop z.1) z.1 z.2 = T) (fun z => s.length - z.1) (0, []) ⟨Nat.zero_le _, Nat.zero_le _, hT⟩ rfl ⟨h0, h5, h6, trivial⟩ ?_ ?_
    · intro z hz
      exact ⟨Nat.zero_le _, by simp, by simp [ren, ren2, ren1, ren0]⟩
    rintro ⟨a, out⟩ ⟨ha, ho, hsc⟩
    simp only at ha ho hsc
    by_cases hlt : a < s.length
    · have hdl : decide ((a : Int) < s.length) = true := by simp; omega
      have hti : ((a : Nat) : Int).toNat = a := Int.toNat_natCast _
      have hw := wrap_succ a s.length hlt (by omega)
      refine wp_mid [(0, .str s), (5, .sl .yes ⟨5, 32⟩ (out.map tokA)), (6, i64 a)] [] ?_ fun env ⟨h0, h5, h6, _⟩ => ?_
      · simp -implicitDefEqProofs only [hdl, Nat.reduceEqDiff, Nat.reduceLeDiff, Nat.reduceAdd, reduceCtorEq, go_sem, ↓reduceIte]
      cases hd2 : s.drop a with
      | nil => rw [List.drop_eq_nil_iff] at hd2; omega
      | cons c r =>
        obtain ⟨_, hget, hr⟩ := getD_drop s a c r hd2
        rw [hd2, scanR_cons] at hsc
        rw [wp_block_eq]
        by_cases hb : blank c = true
        · rw [if_pos hb] at hsc
          have hgo : scanR (s.drop (a + 1)) (a + 1) out = T := by rw [hr]; exact hsc
          by_cases b1 : c = 32
          · have e1 : ((c.toNat : Int) == 32) = true := by rw [b1] <;> rfl
            simp -implicitDefEqProofs only [h0, h5, h6, hti, hget, hw, e1, Nat.reduceEqDiff, Nat.reduceLeDiff, Nat.reduceAdd, reduceCtorEq, go_sem, ↓reduceIte]
            exact ⟨by omega, hlt, (a + 1, out), ⟨⟨by simp only; omega, by simp only; omega, hgo⟩, by simp only; omega⟩, rfl, rfl⟩
          have e1 : ((c.toNat : Int) == 32) = false := byte_ne c 32 b1
          by_cases b2 : c = 9
          · have e2 : ((c.toNat : Int) == 9) = true := by rw [b2] <;> rfl
            simp -implicitDefEqProofs only [h0, h5, h6, hti, hget, hw, e1, e2, Nat.reduceEqDiff, Nat.reduceLeDiff, Nat.reduceAdd, reduceCtorEq, go_sem, ↓reduceIte]
            exact ⟨by omega, hlt, by omega, hlt, (a + 1, out), ⟨⟨by simp only; omega, by simp only; omega, hgo⟩, by simp only; omega⟩, rfl, rfl⟩
          have e2 : ((c.toNat : Int) == 9) = false := byte_ne c 9 b2
          have b3 : c = 10 := by simpa [blank, b1, b2] using hb
          have e3 : ((c.toNat : Int) == 10) = true := by rw [b3] <;> rfl
          simp -implicitDefEqProofs only [h0, h5, h6, hti, hget, hw, e1, e2, e3, Nat.reduceEqDiff, Nat.reduceLeDiff, Nat.reduceAdd, reduceCtorEq, go_sem, ↓reduceIte]
          exact ⟨by omega, hlt, by omega, hlt, by omega, hlt, (a + 1, out), ⟨⟨by simp only; omega, by simp only; omega, hgo⟩, by simp only; omega⟩, rfl, rfl⟩
        have hb : blank c = false := by simpa using hb
        refine wp_mid [(0, .str s), (5, .sl .yes ⟨5, 32⟩ (out.map tokA)), (6, i64 a)] [] ?_ fun env ⟨h0, h5, h6, _⟩ => ?_
        · have b1 : c ≠ 32 := fun h => by rw [h] at hb; cases hb
          have b2 : c ≠ 9 := fun h => by rw [h] at hb; cases hb
          have b3 : c ≠ 10 := fun h => by rw [h] at hb; cases hb
          have e1 : ((c.toNat : Int) == 32) = false := byte_ne c 32 b1
          have e2 : ((c.toNat : Int) == 9) = false := byte_ne c 9 b2
          have e3 : ((c.toNat : Int) == 10) = false := byte_ne c 10 b3
          simp -implicitDefEqProofs only [h0, h5, h6, hti, hget, hw, e1, e2, e3, Nat.reduceEqDiff, Nat.reduceLeDiff, Nat.reduceAdd, reduceCtorEq, go_sem, ↓reduceIte]
          exact ⟨by omega, hlt, by omega, hlt, by omega, hlt⟩
        rw [if_neg (by rw [hb]; simp)] at hsc
        by_cases h35 : c = 35
        · rw [if_pos h35] at hsc
          have d1 : ((c.toNat : Int) == 35) = true := by rw [h35] <;> rfl
          simp -implicitDefEqProofs only [h0, h5, h6, hti, hget, d1, Nat.reduceEqDiff, Nat.reduceLeDiff, Nat.reduceAdd, reduceCtorEq, go_sem, ↓reduceIte]
          refine ⟨by omega, hlt, ?_⟩
          refine wp_loop_use (A := Nat) (fun i => [(0, .str s), (5, .sl .yes ⟨5, 32⟩ (out.map tokA)), (6, i64 i)]) (fun _ => []) (fun i => a ≤ i ∧ i ≤ s.length ∧ runTo notNl s i = runTo notNl s a) (fun i => s.length - i) a ⟨Nat.le_refl _, ha, rfl⟩ rfl ?_ ?_
          · simp -implicitDefEqProofs only [EnvEq, h0, h5, h6, Nat.reduceEqDiff, Nat.reduceLeDiff, Nat.reduceAdd, reduceCtorEq, go_sem, ↓reduceIte]
          rintro i ⟨hi1, hi2, hi3⟩
          have hti2 : ((i : Nat) : Int).toNat = i := Int.toNat_natCast _
          have hout : ∀ j, j = runTo notNl s a → a + 1 ≤ j ∧ scanR (s.drop j) j out = T := fun j hj => by
            have h1 : runTo notNl s a = a + 1 + (r.takeWhile notNl).length := by
              unfold runTo
              rw [hd2, List.takeWhile_cons_of_pos (by rw [h35] <;> rfl)]
              simp; omega
            rw [h1] at hj
            subst hj
            refine ⟨by omega, ?_⟩
            rw [← List.drop_drop, hr, ← dw_drop]
            exact hsc
          by_cases hil : i < s.length
          · have q1 : decide ((i : Int) < s.length) = true := by simp; omega
            have hgi : s.getD i 0 = s[i] := by simp [hil]
            have hwi := wrap_succ i s.length hil (by omega)
            by_cases h10 : s[i] = 10
            · have q2 : (((s.getD i 0).toNat : Int) != 10) = false := by rw [hgi, h10] <;> rfl
              have hst := runTo_stop (p := notNl) hil (by rw [h10] <;> rfl)
              simp -implicitDefEqProofs only [q1, q2, hti2, Nat.reduceEqDiff, Nat.reduceLeDiff, Nat.reduceAdd, reduceCtorEq, go_sem, ↓reduceIte]
              have := hout i (by omega)
              exact ⟨by omega, hil, (i, out), ⟨⟨hi2, by simp only; omega, this.2⟩, by simp only; omega⟩, rfl, rfl⟩
            · have q2 : (((s.getD i 0).toNat : Int) != 10) = true := by
                rw [hgi, bne, show ((s[i].toNat : Int) == 10) = false from byte_ne _ 10 h10]; rfl
              have hst := runTo_step (p := notNl) hil (by simp [notNl, h10])
              simp -implicitDefEqProofs only [q1, q2, hti2, hwi, Nat.reduceEqDiff, Nat.reduceLeDiff, Nat.reduceAdd, reduceCtorEq, go_sem, ↓reduceIte]
              exact ⟨by omega, hil, i + 1, ⟨⟨by omega, by omega, by omega⟩, by omega⟩, rfl⟩
          · have q1 : decide ((i : Int) < s.length) = false := by simp; omega
            have hst := runTo_end (p := notNl) (s := s) (i := i) (by omega)
            have := hout i (by omega)
            simp -implicitDefEqProofs only [q1, Nat.reduceEqDiff, Nat.reduceLeDiff, Nat.reduceAdd, reduceCtorEq, go_sem, ↓reduceIte]
            exact ⟨(i, out), ⟨⟨hi2, by simp only; omega, this.2⟩, by simp only; omega⟩, rfl, rfl⟩
        refine wp_mid [(0, .str s), (5, .sl .yes ⟨5, 32⟩ (out.map tokA)), (6, i64 a)] [] ?_ fun env ⟨h0, h5, h6, _⟩ => ?_
        · have d1 : ((c.toNat : Int) == 35) = false := byte_ne c 35 h35
          simp -implicitDefEqProofs only [h0, h5, h6, hti, hget, d1, Nat.reduceEqDiff, Nat.reduceLeDiff, Nat.reduceAdd, reduceCtorEq, go_sem, ↓reduceIte]
          exact ⟨by omega, hlt⟩
        rw [if_neg h35] at hsc
        have hlaw := c59 (G := G) s a hs c r hd2 _ rfl
        cases hone : oneR (c :: r) a with
        | error z =>
          obtain ⟨b, e0⟩ := z
          rw [hone] at hsc hlaw
          have he := (oneR_err hone).2
          have z0 : ((e0 : Int) != 0) = true := by simp; omega
          simp only at hsc
          rw [← hsc]
          simp -implicitDefEqProofs only [h0, h5, h6, Nat.reduceEqDiff, Nat.reduceLeDiff, Nat.reduceAdd, reduceCtorEq, go_sem, ↓reduceIte]
          refine callW_pure hlaw rfl rfl ?_
          simp -implicitDefEqProofs only [h0, h5, h6, oneA, tokA, partsA, z0, Nat.reduceEqDiff, Nat.reduceLeDiff, Nat.reduceAdd, reduceCtorEq, go_sem, ↓reduceIte]
          rfl
        | ok z =>
          obtain ⟨t, k⟩ := z
          rw [hone] at hsc hlaw
          have hk := oneR_ok hone
          have hlen : (c :: r).length = s.length - a := by rw [← hd2]; simp
          have z0 : ((0 : Int) != 0) = false := rfl
          have hol : (out.length + 1 ≤ lenLim) = True := by simp [lenLim]; omega
          have hdr : s.drop (a + k) = r.drop (k - 1) := by
            rw [← List.drop_drop, hd2]
            obtain ⟨m, hm⟩ : ∃ m, k = m + 1 := ⟨k - 1, by omega⟩
            rw [hm] <;> rfl
          simp -implicitDefEqProofs only [h0, h5, h6, Nat.reduceEqDiff, Nat.reduceLeDiff, Nat.reduceAdd, reduceCtorEq, go_sem, ↓reduceIte]
          refine callW_pure hlaw rfl rfl ?_
          simp -implicitDefEqProofs only [h0, h5, h6, oneA, tokA, partsA, z0, hol, Nat.reduceEqDiff, Nat.reduceLeDiff, Nat.reduceAdd, reduceCtorEq, go_sem, ↓reduceIte]
          refine ⟨(a + k, out ++ [t]), ⟨⟨by simp only; omega, by simp; omega, ?_⟩, by simp only; omega⟩, ?_, rfl⟩
          · simp only
            rw [hdr]
            exact hsc
          · rw [List.map_append]
            rfl
    · have hae : a = s.length := by omega
      subst hae
      have hdl : decide ((s.length : Int) < s.length) = false := by simp
      rw [List.drop_length, scanR_nil] at hsc
      simp -implicitDefEqProofs only [hdl, Nat.reduceEqDiff, Nat.reduceLeDiff, Nat.reduceAdd, reduceCtorEq, go_sem, ↓reduceIte]
      exact ⟨(_, out), hsc.symm, rfl, rfl⟩
  rw [hz]
  simp -implicitDefEqProofs only [h5, Nat.reduceEqDiff, Nat.reduceLeDiff, Nat.reduceAdd, reduceCtorEq, go_sem, ↓reduceIte]
  rfl
end Go.Pv
/- The laws of the references' Same. -/
namespace Go.Pv
open Go Go.Proofs
set_option maxRecDepth 4000
variable {G : Frz}
theorem eq78 (x y x' y' : Bytes) : eqAgg Tryz.prog 78 [.str x, .str y] [.str x', .str y'] = some (x == x' && y == y') := by
  have h : Tryz.prog.eqGuardType Tryz.prog.depth 78 = false ∧ Tryz.prog.stoodInHeld 78 = false := by decide +kernel
  have h9 : aggB Tryz.prog 9 = some false := by decide +kernel
  unfold eqAgg
  rw [Tryz.underlying78]
  simp only [h, and_self, if_true, eqFlds, h9, eqLeaf, Tryz.underlying9, List.getElem?_cons_zero, List.getElem?_cons_succ]
  cases hx : (x == x') <;> cases hy : (y == y') <;> simp [eqFlds, h9, hx, hy, eqLeaf, Tryz.underlying9]
theorem c60 (a b : List Part) (ha : a.length ≤ 2147483000) : RR G 60 [partsA a, partsA b] [] (.bool (decide (a = b))) [] := by
  unfold partsA
  refine ret_intro Tryz.func60 rfl Tryz.results60 (by decide +kernel) rfl (Nat.le_refl _) rfl (by simp) ?_
  refine wp_mid [(0, partsA a), (1, partsA b)] [] ?_ fun env ⟨h0, h1, _⟩ => ?_
  · simp -implicitDefEqProofs only [partsA, Nat.reduceEqDiff, Nat.reduceLeDiff, Nat.reduceAdd, reduceCtorEq, go_sem, ↓reduceIte]
  refine wp_ghost (A := Unit) (fun _ => a.length = b.length) (fun _ => []) (fun _ => [(0, partsA a), (1, partsA b)]) ?_ fun _ hab env ⟨h0, h1, _⟩ => ?_
  · have hne : decide (a = b) = false ∨ a.length = b.length := by
      by_cases h : a = b
      · exact .inr (by rw [h])
      · exact .inl (by simp [h])
    by_cases hl : a.length = b.length
    · have d : ((a.length : Int) != (b.length : Int)) = false := by simp [hl]
      simp -implicitDefEqProofs only [h0, h1, partsA, d, Nat.reduceEqDiff, Nat.reduceLeDiff, Nat.reduceAdd, reduceCtorEq, go_sem, ↓reduceIte]
      exact ⟨(), hl⟩
    · have d : ((a.length : Int) != (b.length : Int)) = true := by simp; omega
      simp -implicitDefEqProofs only [h0, h1, partsA, d, Nat.reduceEqDiff, Nat.reduceLeDiff, Nat.reduceAdd, reduceCtorEq, go_sem, ↓reduceIte]
      rcases hne with hne | hne
      · rw [hne]
      · exact absurd hne hl
  refine wp_ghost (A := Unit) (fun _ => a = b) (fun _ => []) (fun _ => []) ?_ fun _ hab env _ => ?_
  · refine wp_mid [(0, partsA a), (1, partsA b), (5, i64 (0 : Nat))] [] ?_ fun env ⟨h0, h1, h5, _⟩ => ?_
    · simp -implicitDefEqProofs only [h0, h1, partsA, Nat.reduceEqDiff, Nat.reduceLeDiff, Nat.reduceAdd, reduceCtorEq, go_sem, ↓reduceIte]
      rfl
    rw [wp_block_eq]
    refine wp_loop_use (A := Nat) (fun i => [(0, partsA a), (1, partsA b), (5, i64 i)]) (fun _ => []) (fun i => i ≤ a.length ∧ a.take i = b.take i) (fun i => a.length - i) 0 ⟨Nat.zero_le _, rfl⟩ rfl ⟨h0, h1, h5, trivial⟩ ?_
    rintro i ⟨hi, hp⟩
    have hti : ((i : Nat) : Int).toNat = i := Int.toNat_natCast _
    by_cases hlt : i < a.length
    · have hd : decide ((i : Int) < (a.length : Int)) = true := by simp; omega
      simp -implicitDefEqProofs only [hd, partsA, List.length_map, Nat.reduceEqDiff, Nat.reduceLeDiff, Nat.reduceAdd, reduceCtorEq, go_sem, ↓reduceIte]
      (refine WT_ord (t := lin [0, 1, 2, 3, 4, 5, 6, 7, 8] .nil) ?_ ?_; kernel_rfl)
      simp -implicitDefEqProofs only [hti, partA, eq78, Nat.reduceEqDiff, Nat.reduceLeDiff, Nat.reduceAdd, reduceCtorEq, go_sem, ↓reduceIte]
      refine ⟨by omega, hlt, by omega, by omega, ?_⟩
      have ta : a.take (i + 1) = a.take i ++ [a.getD i default] := by
        rw [List.take_add_one]; simp [hlt]
      have tb : b.take (i + 1) = b.take i ++ [b.getD i default] := by
        have : i < b.length := by omega
        rw [List.take_add_one]; simp [this]
      refine ⟨fun h => ?_, fun h => ⟨i + 1, ⟨⟨by omega, ?_⟩, by omega⟩, ?_⟩⟩
      · have : a ≠ b := fun e => by
          rw [e] at h
          simp at h
        simp [this]
      · simp at h
        rw [ta, tb, hp, show a.getD i default = b.getD i default from Prod.ext (by simpa using h.1) (by simpa using h.2)]
      · rw [wrap_succ i a.length hlt (by omega)]
    · have hd : decide ((i : Int) < (a.length : Int)) = false := by simp; omega
      have : i = a.length := by omega
      subst this
      rw [List.take_length, hab, List.take_length] at hp
      simp -implicitDefEqProofs only [hd, partsA, List.length_map, Nat.reduceEqDiff, Nat.reduceLeDiff, Nat.reduceAdd, reduceCtorEq, go_sem, ↓reduceIte]
      exact ⟨(), hp⟩
  simp -implicitDefEqProofs only [Nat.reduceEqDiff, Nat.reduceLeDiff, Nat.reduceAdd, reduceCtorEq, go_sem, ↓reduceIte]
  simp [hab]
theorem c21 (t u : Tok) (ht : t.parts.length ≤ 2147483000) : RR G 21 [tokA t, tokA u] [] (.bool (decide (t = u))) [] := by
  have hdec : decide (t = u) = ((t.kind : Int) == u.kind && (t.word == u.word) && ((t.n : Int) == u.n) && ((t.at' : Int) == u.at') && decide (t.parts = u.parts)) := by
    cases t; cases u
    rw [Bool.eq_iff_iff]
    simp
    grind
  rw [hdec]
  unfold tokA
  refine ret_intro Tryz.func21 rfl Tryz.results21 (by decide +kernel) rfl (Nat.le_refl _) rfl (by simp) ?_
  cases e1 : ((t.kind : Int) == u.kind) with
  | false => simp -implicitDefEqProofs only [e1, Bool.false_and, Nat.reduceEqDiff, Nat.reduceLeDiff, Nat.reduceAdd, reduceCtorEq, go_sem, ↓reduceIte]
  | true =>
    cases e2 : (t.word == u.word) with
    | false => simp -implicitDefEqProofs only [e1, e2, Bool.false_and, Bool.true_and, Nat.reduceEqDiff, Nat.reduceLeDiff, Nat.reduceAdd, reduceCtorEq, go_sem, ↓reduceIte]
    | true =>
      cases e3 : ((t.n : Int) == u.n) with
      | false => simp -implicitDefEqProofs only [e1, e2, e3, Bool.false_and, Bool.true_and, Nat.reduceEqDiff, Nat.reduceLeDiff, Nat.reduceAdd, reduceCtorEq, go_sem, ↓reduceIte]
      | true =>
        cases e4 : ((t.at' : Int) == u.at') with
        | false => simp -implicitDefEqProofs only [e1, e2, e3, e4, Bool.false_and, Bool.true_and, Nat.reduceEqDiff, Nat.reduceLeDiff, Nat.reduceAdd, reduceCtorEq, go_sem, ↓reduceIte]
        | true =>
          simp -implicitDefEqProofs only [e1, e2, e3, e4, Bool.false_and, Bool.true_and, partsA, Nat.reduceEqDiff, Nat.reduceLeDiff, Nat.reduceAdd, reduceCtorEq, go_sem, ↓reduceIte]
          refine callW_pure (c60 t.parts u.parts ht) rfl rfl ?_
          simp -implicitDefEqProofs only [e1, e2, e3, e4, Bool.true_and, Nat.reduceEqDiff, Nat.reduceLeDiff, Nat.reduceAdd, reduceCtorEq, go_sem, ↓reduceIte]
end Go.Pv
/- Laws of the printing of tokens: contains, bare, text, join. -/
namespace Go.Pv
open Go Go.Proofs
set_option maxRecDepth 4000
variable {G : Frz}
structure ZTok where
  kind : Int
  word : Bytes
  n : Int
  parts : List Part
  at' : Int
  deriving DecidableEq, Inhabited
def zA (t : ZTok) : AV := .agg [i64 t.kind, .str t.word, i64 t.n, partsA t.parts, i64 t.at']
def Tok.z (t : Tok) : ZTok := ⟨t.kind, t.word, t.n, t.parts, t.at'⟩
theorem zA_z (t : Tok) : zA t.z = tokA t := rfl
theorem sound44 (l : List Bytes) (sep : Bytes) (hN : l.length ≤ 140737488355328) (hlen : (Lib.join l sep).length ≤ 140737488355328) (σ : List Blk) : Sound Tryz.prog G 44 [.sl .no ⟨1, 9⟩ (l.map .str), .str sep] σ (.str (Lib.join l sep)) σ := by
  refine sound_calls (by simp [callOk, Tryz.func44]; decide) (by simp) (fun φ S w vargs hS hk ha => ?_) σ
  obtain ⟨u, v, rfl, h1, h2⟩ := rl_two ha
  cases vr_str h2
  have h1 : VP S (.sl .no ⟨1, 9⟩ (l.map .str)) u := h1
  by_cases hl : l = []
  · subst hl
    have : ∃ a c, u = .slice a 0 c := by
      generalize hx : AV.sl .no ⟨1, 9⟩ (List.map AV.str []) = x at h1
      cases h1 with
      | sl0 o sz A cap ho => exact ⟨A, cap, rfl⟩
      | slnil sz => cases hx
      | slc o sz l2 blk off cap vs ho hc hz hS hv =>
        cases hx
        exact ⟨_, _, rfl⟩
      | _ => cases hx
    obtain ⟨a, c, rfl⟩ := this
    refine (Tryz.strings_Join_none a c ⟨sep.toArray⟩ w).mono ?_
    rintro e w' ⟨rfl, rfl⟩
    exact ⟨_, rfl, (VP.str [] : VP S _ _), Longer.refl _⟩
  · generalize hx : AV.sl .no ⟨1, 9⟩ (l.map .str) = x at h1
    cases h1 with
    | sl0 o sz A cap ho =>
      simp at hx
      exact absurd hx.2.2 hl
    | slnil sz => cases hx
    | slc o sz l2 blk off cap vs ho hc hz hS2 hv =>
      cases hx
      have hcell : ∀ (j : Nat) (x : Bytes), l[j]? = some x → S blk (off + j) = some (.string ⟨x.toArray⟩) := fun j x hj => by
        have e1 : (l.map AV.str)[j]? = some (.str x) := by simp [hj]
        have e2 : (AV.str x).cells[0]? = some (.str x) := rfl
        have h3 := hS2 j 0 _ _ e1 e2
        have h4 := hv j 0 _ _ e1 e2
        have h5 : vs j 0 = .string ⟨x.toArray⟩ := by
          generalize vs j 0 = y at h4
          cases h4; rfl
        rw [h5] at h3
        simpa using h3
      have hbk : blk < w.heap.size := by
        cases hl2 : l with
        | nil => exact absurd hl2 hl
        | cons x r => exact hk.lt (hcell 0 x (by rw [hl2] <;> rfl))
      have hmap : (l.map (fun b => (⟨b.toArray⟩ : ByteArray))).map (·.data.toList) = l := by simp [Function.comp_def]
      have := Tryz.strings_Join blk off cap (l.map fun b => ⟨b.toArray⟩) ⟨sep.toArray⟩ w (fun j x hj => ?_) hbk (by simpa using hN) (by simpa using hc) (by rw [hmap]; exact hlen)
      · rw [hmap] at this
        simp only [List.length_map] at this ⊢
        refine this.mono ?_
        rintro e w' ⟨rfl, hw⟩
        exact ⟨_, rfl, (VP.str _ : VP S _ _), Longer.below hw⟩
      · simp only [List.getElem?_map, Option.map_eq_some_iff] at hj
        obtain ⟨y, hy, rfl⟩ := hj
        exact (hk _ _ _ (hcell j y hy)).1
    | _ => cases hx
theorem sound119s (n : Nat) (hn : n < 100) (σ : List Blk) : Sound Tryz.prog G 119 [i64 n, i64 10] σ (.str (Lib.decDigits n)) σ := by
  refine sound_calls (by simp [callOk, Tryz.func119]; decide) (by simp) (fun φ S w vargs hS hk ha => ?_) σ
  obtain ⟨u, v, rfl, h1, h2⟩ := rl_two ha
  cases vr_int h1; cases vr_int h2
  refine (Tryz.strconv_FormatInt_10_small n hn w).mono ?_
  rintro e w' ⟨rfl, rfl⟩
  exact ⟨_, rfl, (VP.str _ : VP S _ _), Longer.refl _⟩
theorem c123 (l : List Bytes) (w : Bytes) (hl : l.length ≤ 2147483000) : ∃ r : Int, RR G 123 [.sl .no ⟨1, 9⟩ (l.map .str), .str w] [] (i64 r) [] ∧ decide (r ≥ 0) = decide (w ∈ l) := by
  refine ⟨if w ∈ l then (l.idxOf w : Int) else -1, ?_, ?_⟩
  · refine ret_intro Tryz.func123 rfl Tryz.results123 (by decide +kernel) rfl (Nat.le_refl _) rfl (by simp) ?_
    refine wp_mid [(0, .sl .no ⟨1, 9⟩ (l.map .str)), (1, .str w)] [] ?_ fun env ⟨h0, h1, _⟩ => ?_
    · simp -implicitDefEqProofs only [Nat.reduceEqDiff, Nat.reduceLeDiff, Nat.reduceAdd, reduceCtorEq, go_sem, ↓reduceIte]
    refine wp_ghost (A := Unit) (fun _ => w ∉ l) (fun _ => []) (fun _ => []) ?_ fun _ hn env _ => ?_
    · refine wp_mid [(0, .sl .no ⟨1, 9⟩ (l.map .str)), (1, .str w), (7, i64 l.length), (8, i64 (0 : Nat))] [] ?_ fun env ⟨h0, h1, h7, h8, _⟩ => ?_
      · simp -implicitDefEqProofs only [h0, h1, List.length_map, Nat.reduceEqDiff, Nat.reduceLeDiff, Nat.reduceAdd, reduceCtorEq, go_sem, ↓reduceIte]
        rfl
      rw [wp_block_eq]
      refine wp_loop_use (A := Nat) (fun i => [(0, .sl .no ⟨1, 9⟩ (l.map .str)), (1, .str w), (7, i64 l.length), (8, i64 i)]) (fun _ => []) (fun i => i ≤ l.length ∧ w ∉ l.take i) (fun i => l.length - i) 0 ⟨Nat.zero_le _, by simp⟩ rfl ⟨h0, h1, h7, h8, trivial⟩ ?_
      rintro i ⟨hi, hp⟩
      have hti : ((i : Nat) : Int).toNat = i := Int.toNat_natCast _
      by_cases hlt : i < l.length
      · have hd : decide ((i : Int) < (l.length : Int)) = true := by simp; omega
        have hg : l.getD i default = l[i] := by simp [hlt]
        have tk : l.take (i + 1) = l.take i ++ [l[i]] := by rw [List.take_add_one]; simp [hlt]
        simp -implicitDefEqProofs only [hd, hti, hg, Nat.reduceEqDiff, Nat.reduceLeDiff, Nat.reduceAdd, reduceCtorEq, go_sem, ↓reduceIte]
        refine ⟨by omega, hlt, fun h => ?_, fun h => ⟨i + 1, ⟨⟨by omega, ?_⟩, by omega⟩, ?_⟩⟩
        · have hw : w = l[i] := by simpa using h
          have hm : w ∈ l := by rw [hw]; exact List.getElem_mem _
          have hidx : l.idxOf w = i := by
            have h1 : l = l.take i ++ l[i] :: l.drop (i + 1) := by rw [List.getElem_cons_drop, List.take_append_drop]
            conv => lhs; rw [h1]
            rw [List.idxOf_append, if_neg hp, ← hw]
            simp; omega
          rw [if_pos hm, hidx]
        · have : w ≠ l[i] := by simpa using h
          simp only [tk, List.mem_append, not_or]
          exact ⟨hp, by simpa using this⟩
        · rw [wrap_succ i l.length hlt (by omega)]
      · have hd : decide ((i : Int) < (l.length : Int)) = false := by simp; omega
        have : i = l.length := by omega
        subst this
        rw [List.take_length] at hp
        simp -implicitDefEqProofs only [hd, Nat.reduceEqDiff, Nat.reduceLeDiff, Nat.reduceAdd, reduceCtorEq, go_sem, ↓reduceIte]
        exact ⟨(), hp⟩
    rw [if_neg hn]
    simp -implicitDefEqProofs only [Nat.reduceEqDiff, Nat.reduceLeDiff, Nat.reduceAdd, reduceCtorEq, go_sem, ↓reduceIte]
  · split <;> simp_all
theorem c49 (l : List Bytes) (w : Bytes) (hl : l.length ≤ 2147483000) : RR G 49 [.sl .no ⟨1, 9⟩ (l.map .str), .str w] [] (.bool (decide (w ∈ l))) [] := by
  obtain ⟨r, h1, h2⟩ := c123 (G := G) l w hl
  refine ret_intro Tryz.func49 rfl Tryz.results49 (by decide +kernel) rfl (Nat.le_refl _) rfl (by simp) ?_
  simp -implicitDefEqProofs only [Nat.reduceEqDiff, Nat.reduceLeDiff, Nat.reduceAdd, reduceCtorEq, go_sem, ↓reduceIte]
  refine callW_pure h1 rfl rfl ?_
  simp -implicitDefEqProofs only [h2, Nat.reduceEqDiff, Nat.reduceLeDiff, Nat.reduceAdd, reduceCtorEq, go_sem, ↓reduceIte]
def bareZ (t : ZTok) : Bool := (t.word == [] || (t.kind != 2 && t.kind != 3)) && (t.n == 0 || t.kind == 2) && (((t.parts.length : Nat) : Int) == 0 || t.kind == 3)
theorem c45 (t : ZTok) : RR G 45 [zA t] [] (.bool (bareZ t)) [] := by
  unfold zA bareZ partsA
  refine ret_intro Tryz.func45 rfl Tryz.results45 (by decide +kernel) rfl (Nat.le_refl _) rfl (by simp) ?_
  cases e1 : (t.word == []) <;> cases e2 : (t.kind != 2) <;> cases e3 : (t.kind != 3) <;> cases e4 : (t.n == 0) <;> cases e5 : (t.kind == 2) <;> cases e6 : (((t.parts.length : Nat) : Int) == 0) <;> cases e7 : (t.kind == 3) <;>
    simp -implicitDefEqProofs only [e1, e2, e3, e4, e5, e6, e7, List.length_map, Bool.false_and, Bool.true_and, Bool.and_true, Bool.and_false, Bool.or_true, Bool.true_or, Bool.or_false, Bool.false_or, Nat.reduceEqDiff, Nat.reduceLeDiff, Nat.reduceAdd, reduceCtorEq, go_sem, ↓reduceIte]
structure TxtIn where
  W : Bool
  D : Bytes
  Q : Bytes × Nat
def textZ (t : ZTok) (x : TxtIn) : Bytes × Nat :=
  if bareZ t = false then ([], 5) else if t.kind = 1 ∧ x.W = true ∧ t.word.length ≤ 14 then (t.word, 0) else if t.kind = 2 ∧ 0 ≤ t.n then (x.D, 0)
  else if t.kind = 3 then x.Q else if t.kind = 4 ∧ t.word ∈ signL then (t.word, 0) else if t.kind = 5 ∧ x.W = true ∧ flagP t.word = true then (45 :: t.word, 0)
  else if t.kind = 6 ∧ nameP t.word = true then (36 :: t.word, 0) else ([], 5)
def lowL : Bytes := [97, 98, 99, 100, 101, 102, 103, 104, 105, 106, 107, 108, 109, 110, 111, 112, 113, 114, 115, 116, 117, 118, 119, 120, 121, 122]
theorem c47 (n : Int) (D : Bytes) (h : Sound Tryz.prog G 119 [i64 n, i64 10] [] (.str D) []) : RR G 47 [i64 n] [] (.str D) [] := by
  refine ret_intro Tryz.func47 rfl Tryz.results47 (by decide +kernel) rfl (Nat.le_refl _) rfl (by simp) ?_
  simp -implicitDefEqProofs only [Nat.reduceEqDiff, Nat.reduceLeDiff, Nat.reduceAdd, reduceCtorEq, go_sem, ↓reduceIte]
  refine callW_pure (ret_prim h) rfl rfl ?_
  simp -implicitDefEqProofs only [Nat.reduceEqDiff, Nat.reduceLeDiff, Nat.reduceAdd, reduceCtorEq, go_sem, ↓reduceIte]
end Go.Pv
/- Laws of the printing of tokens: a token's text; joined tokens. -/
namespace Go.Pv
open Go Go.Proofs
set_option maxRecDepth 4000
variable {G : Frz}
theorem c16 (hG : GOk G) (t : ZTok) (x : TxtIn) (hl : t.word.length ≤ 2147483000) (hk : -9223372036854775808 ≤ t.kind ∧ t.kind < 9223372036854775808)
    (hS : x.W = true → ∀ c ∈ t.word, c ≠ 32) (hW : t.kind = 1 ∨ t.kind = 5 → RR G 46 [.str t.word, .str lowL] [] (.bool x.W) [])
    (hD : t.kind = 2 → 0 ≤ t.n → Sound Tryz.prog G 119 [i64 t.n, i64 10] [] (.str x.D) [])
    (hQ : t.kind = 3 → RR G 48 [partsA t.parts] [] (.tup [.str x.Q.1, i64 x.Q.2]) []) :
    RR G 16 [zA t] [] (.tup [.str (textZ t x).1, i64 (textZ t x).2]) [] := by
  unfold lowL at hW
  have hb := c45 (G := G) t
  unfold zA partsA at hb
  unfold zA partsA
  refine ret_intro Tryz.func16 rfl Tryz.results16 (by decide +kernel) rfl (Nat.le_refl _) rfl (by simp) ?_
  refine wp_mid [(1, .ptr 0 0)] [.cells 32 [i64 t.kind, .str t.word, i64 t.n, partsA t.parts, i64 t.at']] ?_ fun env ⟨h1, _⟩ => ?_
  · simp -implicitDefEqProofs only [partsA, Nat.reduceEqDiff, Nat.reduceLeDiff, Nat.reduceAdd, reduceCtorEq, go_sem, ↓reduceIte]
  have e (j : Int) (h : t.kind ≠ j) : (t.kind == j) = false := by simpa using h
  have y (j : Int) (h : t.kind = j) : (t.kind == j) = true := by simpa using h
  cases hbz : bareZ t with
  | false =>
    rw [hbz] at hb
    simp -implicitDefEqProofs only [h1, partsA, Nat.reduceEqDiff, Nat.reduceLeDiff, Nat.reduceAdd, reduceCtorEq, go_sem, ↓reduceIte]
    refine callW_pure hb rfl rfl ?_
    simp -implicitDefEqProofs only [h1, Nat.reduceEqDiff, Nat.reduceLeDiff, Nat.reduceAdd, reduceCtorEq, go_sem, ↓reduceIte]
    simp only [textZ, hbz, if_true]
    rfl
  | true =>
  rw [hbz] at hb
  refine wp_mid [(1, .ptr 0 0)] [.cells 32 [i64 t.kind, .str t.word, i64 t.n, partsA t.parts, i64 t.at']] ?_ fun env ⟨h1, _⟩ => ?_
  · simp -implicitDefEqProofs only [h1, partsA, Nat.reduceEqDiff, Nat.reduceLeDiff, Nat.reduceAdd, reduceCtorEq, go_sem, ↓reduceIte]
    refine callW_pure hb rfl rfl ?_
    simp -implicitDefEqProofs only [h1, Nat.reduceEqDiff, Nat.reduceLeDiff, Nat.reduceAdd, reduceCtorEq, go_sem, ↓reduceIte]
  have hlen (p : Bytes) (hp : p.length ≤ 10) : (p.length + t.word.length ≤ strLim) = True := by simp [strLim]; omega
  by_cases k1 : t.kind = 1
  · have htx : textZ t x = if x.W = true ∧ t.word.length ≤ 14 then (t.word, 0) else ([], 5) := by
      simp [textZ, hbz, k1]
    have e1 := y 1 k1
    have e2 := e 2 (by omega)
    have e3 := e 3 (by omega)
    have e4 := e 4 (by omega)
    have e5 := e 5 (by omega)
    have e6 := e 6 (by omega)
    rw [htx]
    simp -implicitDefEqProofs only [h1, partsA, e1, Nat.reduceEqDiff, Nat.reduceLeDiff, Nat.reduceAdd, reduceCtorEq, go_sem, ↓reduceIte]
    refine callW_pure (hW (.inl k1)) rfl rfl ?_
    cases hx : x.W with
    | false =>
      simp -implicitDefEqProofs only [h1, partsA, e1, e2, e3, e4, e5, e6, Nat.reduceEqDiff, Nat.reduceLeDiff, Nat.reduceAdd, reduceCtorEq, go_sem, ↓reduceIte]
      (refine WT_ord (t := lin [0, 1, 2, 3, 5] (.both (lin [4, 6, 7, 8, 9] .nil) (.both (lin [6, 4, 7, 8, 9] .nil) (.top)))) ?_ ?_; kernel_rfl)
      simp -implicitDefEqProofs only [h1, partsA, e1, e2, e3, e4, e5, e6, Nat.reduceEqDiff, Nat.reduceLeDiff, Nat.reduceAdd, reduceCtorEq, go_sem, ↓reduceIte]
      rfl
    | true =>
      by_cases h14 : t.word.length ≤ 14
      · have d : decide ((t.word.length : Int) ≤ 14) = true := by simp; omega
        simp -implicitDefEqProofs only [h1, partsA, e1, e2, e3, e4, e5, e6, d, Nat.reduceEqDiff, Nat.reduceLeDiff, Nat.reduceAdd, reduceCtorEq, go_sem, ↓reduceIte]
        rw [if_pos (by exact h14)]
        rfl
      · have d : decide ((t.word.length : Int) ≤ 14) = false := by simp; omega
        simp -implicitDefEqProofs only [h1, partsA, e1, e2, e3, e4, e5, e6, d, Nat.reduceEqDiff, Nat.reduceLeDiff, Nat.reduceAdd, reduceCtorEq, go_sem, ↓reduceIte]
        rw [if_neg (by simp [h14])]
        (refine WT_ord (t := lin [0, 1, 2, 3, 5] (.both (lin [4, 6, 7, 8, 9] .nil) (.both (lin [6, 4, 7, 8, 9] .nil) (.top)))) ?_ ?_; kernel_rfl)
        simp -implicitDefEqProofs only [h1, partsA, e1, e2, e3, e4, e5, e6, Nat.reduceEqDiff, Nat.reduceLeDiff, Nat.reduceAdd, reduceCtorEq, go_sem, ↓reduceIte]
        rfl
  have e1 := e 1 k1
  by_cases k2 : t.kind = 2
  · have htx : textZ t x = if 0 ≤ t.n then (x.D, 0) else ([], 5) := by
      simp [textZ, hbz, k2]
    have e2 := y 2 k2
    have e3 := e 3 (by omega)
    have e4 := e 4 (by omega)
    have e5 := e 5 (by omega)
    have e6 := e 6 (by omega)
    rw [htx]
    by_cases hn : 0 ≤ t.n
    · have d : decide (t.n ≥ 0) = true := by simp; omega
      simp -implicitDefEqProofs only [h1, partsA, e1, e2, d, Nat.reduceEqDiff, Nat.reduceLeDiff, Nat.reduceAdd, reduceCtorEq, go_sem, ↓reduceIte]
      refine callW_pure (c47 _ _ (hD k2 hn)) rfl rfl ?_
      simp -implicitDefEqProofs only [h1, partsA, e1, e2, d, Nat.reduceEqDiff, Nat.reduceLeDiff, Nat.reduceAdd, reduceCtorEq, go_sem, ↓reduceIte]
      rw [if_pos hn]
      rfl
    · have d : decide (t.n ≥ 0) = false := by simp; omega
      simp -implicitDefEqProofs only [h1, partsA, e1, e2, d, e3, e4, e5, e6, Nat.reduceEqDiff, Nat.reduceLeDiff, Nat.reduceAdd, reduceCtorEq, go_sem, ↓reduceIte]
      (refine WT_ord (t := lin [0, 1, 2, 3, 5] (.both (lin [4, 6, 7, 8, 9] .nil) (.both (lin [6, 4, 7, 8, 9] .nil) (.top)))) ?_ ?_; kernel_rfl)
      simp -implicitDefEqProofs only [h1, partsA, e1, e2, e3, e4, e5, e6, Nat.reduceEqDiff, Nat.reduceLeDiff, Nat.reduceAdd, reduceCtorEq, go_sem, ↓reduceIte]
      rw [if_neg hn]
      rfl
  have e2 := e 2 k2
  by_cases k3 : t.kind = 3
  · have htx : textZ t x = x.Q := by
      simp [textZ, hbz, k3]
    have e3 := y 3 k3
    rw [htx]
    simp -implicitDefEqProofs only [h1, partsA, e1, e2, e3, Nat.reduceEqDiff, Nat.reduceLeDiff, Nat.reduceAdd, reduceCtorEq, go_sem, ↓reduceIte]
    refine callW_pure (hQ k3) rfl rfl ?_
    simp -implicitDefEqProofs only [h1, partsA, e1, e2, e3, Nat.reduceEqDiff, Nat.reduceLeDiff, Nat.reduceAdd, reduceCtorEq, go_sem, ↓reduceIte]
  have e3 := e 3 k3
  by_cases k4 : t.kind = 4
  · have htx : textZ t x = if t.word ∈ signL then (t.word, 0) else ([], 5) := by
      simp [textZ, hbz, k4]
    have e4 := y 4 k4
    have e5 := e 5 (by omega)
    have e6 := e 6 (by omega)
    rw [htx]
    simp -implicitDefEqProofs only [h1, partsA, e1, e2, e3, Nat.reduceEqDiff, Nat.reduceLeDiff, Nat.reduceAdd, reduceCtorEq, go_sem, ↓reduceIte]
    (refine WT_ord (t := lin [0, 1, 2, 3, 5] (.both (lin [4, 6, 7, 8, 9] .nil) (.both (lin [6, 4, 7, 8, 9] .nil) (.top)))) ?_ ?_; kernel_rfl)
    simp -implicitDefEqProofs only [h1, partsA, e4, Nat.reduceEqDiff, Nat.reduceLeDiff, Nat.reduceAdd, reduceCtorEq, go_sem, ↓reduceIte]
    refine ⟨?_, ?_⟩
    all_goals
      refine callW_pure c50 rfl rfl ?_
      simp -implicitDefEqProofs only [h1, partsA, e4, Nat.reduceEqDiff, Nat.reduceLeDiff, Nat.reduceAdd, reduceCtorEq, go_sem, ↓reduceIte]
      refine callW_pure (c49 signL t.word (by decide)) rfl rfl ?_
      by_cases hm : t.word ∈ signL
      · have d : decide (t.word ∈ signL) = true := by simpa using hm
        simp -implicitDefEqProofs only [h1, partsA, d, e5, e6, Nat.reduceEqDiff, Nat.reduceLeDiff, Nat.reduceAdd, reduceCtorEq, go_sem, ↓reduceIte]
        rw [if_pos hm]
        rfl
      · have d : decide (t.word ∈ signL) = false := by simpa using hm
        simp -implicitDefEqProofs only [h1, partsA, d, e5, e6, Nat.reduceEqDiff, Nat.reduceLeDiff, Nat.reduceAdd, reduceCtorEq, go_sem, ↓reduceIte]
        rw [if_neg hm]
        rfl
  have e4 := e 4 k4
  by_cases k5 : t.kind = 5
  · have htx : textZ t x = if x.W = true ∧ flagP t.word = true then (45 :: t.word, 0) else ([], 5) := by
      simp [textZ, hbz, k5]
    have e5 := y 5 k5
    have e6 := e 6 (by omega)
    rw [htx]
    simp -implicitDefEqProofs only [h1, partsA, e1, e2, e3, Nat.reduceEqDiff, Nat.reduceLeDiff, Nat.reduceAdd, reduceCtorEq, go_sem, ↓reduceIte]
    (refine WT_ord (t := lin [0, 1, 2, 3, 5] (.both (lin [4, 6, 7, 8, 9] .nil) (.both (lin [6, 4, 7, 8, 9] .nil) (.top)))) ?_ ?_; kernel_rfl)
    simp -implicitDefEqProofs only [h1, partsA, e4, e5, Nat.reduceEqDiff, Nat.reduceLeDiff, Nat.reduceAdd, reduceCtorEq, go_sem, ↓reduceIte]
    have hla := hlen [32] (by simp)
    have hlb : ((([32] ++ t.word : Bytes).length + [32].length ≤ strLim)) = True := by simp [strLim]; omega
    refine ⟨?_, ?_⟩
    all_goals
      refine callW_pure (hW (.inr k5)) rfl rfl ?_
      cases hx : x.W with
      | false =>
        simp -implicitDefEqProofs only [h1, partsA, e6, Nat.reduceEqDiff, Nat.reduceLeDiff, Nat.reduceAdd, reduceCtorEq, go_sem, ↓reduceIte]
        rfl
      | true =>
        simp -implicitDefEqProofs only [h1, partsA, Nat.reduceEqDiff, Nat.reduceLeDiff, Nat.reduceAdd, reduceCtorEq, go_sem, ↓reduceIte]
        refine ⟨by simp [strLim]; omega, by simp [strLim]; omega, ?_⟩
        refine callW_pure (ret_prim (sound51 hG [32, 105, 32, 101, 120, 32, 103, 108, 32, 114, 101, 32] (32 :: (t.word ++ [32])) (by decide) _)) rfl rfl ?_
        rw [flag_has t.word (hS hx)]
        cases hf : flagP t.word with
        | false =>
          simp -implicitDefEqProofs only [h1, partsA, e6, Nat.reduceEqDiff, Nat.reduceLeDiff, Nat.reduceAdd, reduceCtorEq, go_sem, ↓reduceIte]
          rfl
        | true =>
          simp -implicitDefEqProofs only [h1, partsA, e6, Nat.reduceEqDiff, Nat.reduceLeDiff, Nat.reduceAdd, reduceCtorEq, go_sem, ↓reduceIte]
          exact ⟨by simp [strLim]; omega, rfl⟩
  have e5 := e 5 k5
  by_cases k6 : t.kind = 6
  · have htx : textZ t x = if nameP t.word = true then (36 :: t.word, 0) else ([], 5) := by
      simp [textZ, hbz, k6]
    have e6 := y 6 k6
    rw [htx]
    simp -implicitDefEqProofs only [h1, partsA, e1, e2, e3, Nat.reduceEqDiff, Nat.reduceLeDiff, Nat.reduceAdd, reduceCtorEq, go_sem, ↓reduceIte]
    (refine WT_ord (t := lin [0, 1, 2, 3, 5] (.both (lin [4, 6, 7, 8, 9] .nil) (.both (lin [6, 4, 7, 8, 9] .nil) (.top)))) ?_ ?_; kernel_rfl)
    simp -implicitDefEqProofs only [h1, partsA, e4, e5, e6, Nat.reduceEqDiff, Nat.reduceLeDiff, Nat.reduceAdd, reduceCtorEq, go_sem, ↓reduceIte]
    have hla := hlen [36] (by simp)
    refine ⟨?_, ?_⟩
    all_goals
      refine callW_pure (c52 t.word) rfl rfl ?_
      rw [nameP_Q]
      cases hn : nameP t.word with
      | true =>
        simp -implicitDefEqProofs only [h1, partsA, Nat.reduceEqDiff, Nat.reduceLeDiff, Nat.reduceAdd, reduceCtorEq, go_sem, ↓reduceIte]
        exact ⟨by simp [strLim]; omega, rfl⟩
      | false =>
        simp -implicitDefEqProofs only [h1, partsA, Nat.reduceEqDiff, Nat.reduceLeDiff, Nat.reduceAdd, reduceCtorEq, go_sem, ↓reduceIte]
        rfl
  have e6 := e 6 k6
  have htx : textZ t x = ([], 5) := by
    simp [textZ, hbz, k1, k2, k3, k4, k5, k6]
  rw [htx]
  simp -implicitDefEqProofs only [h1, partsA, e1, e2, e3, Nat.reduceEqDiff, Nat.reduceLeDiff, Nat.reduceAdd, reduceCtorEq, go_sem, ↓reduceIte]
  (refine WT_ord (t := lin [0, 1, 2, 3, 5] (.both (lin [4, 6, 7, 8, 9] .nil) (.both (lin [6, 4, 7, 8, 9] .nil) (.top)))) ?_ ?_; kernel_rfl)
  simp -implicitDefEqProofs only [h1, partsA, e4, e5, e6, Nat.reduceEqDiff, Nat.reduceLeDiff, Nat.reduceAdd, reduceCtorEq, go_sem, ↓reduceIte]
  rfl
/-- Texts, joined; or the first error. -/
def joinT : List (Bytes × Nat) → Bytes × Nat := fun l => match l.find? fun x => x.2 != 0 with
  | some x => ([], x.2)
  | none => if (Lib.join (l.map (·.1)) [32]).length > 2000 then ([], 2) else (Lib.join (l.map (·.1)) [32], 0)
theorem c14 (ts : List ZTok) (f : ZTok → Bytes × Nat) (hN : ts.length ≤ 2147483000) (hlen : (Lib.join (ts.map fun t => (f t).1) [32]).length ≤ 140737488355328)
    (hf : ∀ t ∈ ts, RR G 16 [zA t] [] (.tup [.str (f t).1, i64 (f t).2]) []) : RR G 14 [.sl .no ⟨5, 32⟩ (ts.map zA)] [] (.tup [.str (joinT (ts.map f)).1, i64 (joinT (ts.map f)).2]) [] := by
  refine ret_intro Tryz.func14 rfl Tryz.results14 (by decide +kernel) rfl (Nat.le_refl _) rfl (by simp) ?_
  refine wp_mid [(0, .sl .no ⟨5, 32⟩ (ts.map zA))] [] ?_ fun env ⟨h0, _⟩ => ?_
  · simp -implicitDefEqProofs only [Nat.reduceEqDiff, Nat.reduceLeDiff, Nat.reduceAdd, reduceCtorEq, go_sem, ↓reduceIte]
  refine wp_mid [(0, .sl .no ⟨5, 32⟩ (ts.map zA)), (4, .sl .yes ⟨1, 9⟩ [])] [] ?_ fun env ⟨h0, h4, _⟩ => ?_
  · simp -implicitDefEqProofs only [h0, Nat.reduceEqDiff, Nat.reduceLeDiff, Nat.reduceAdd, reduceCtorEq, go_sem, ↓reduceIte]
  refine wp_ghost (A := List Blk) (fun _ => ∀ t ∈ ts, (f t).2 = 0) (fun z => z) (fun _ => [(4, .sl .yes ⟨1, 9⟩ ((ts.map fun t => (f t).1).map .str))]) ?_ fun z hz env ⟨h4, _⟩ => ?_
  · refine wp_mid [(0, .sl .no ⟨5, 32⟩ (ts.map zA)), (4, .sl .yes ⟨1, 9⟩ []), (10, .sl .no ⟨5, 32⟩ (ts.map zA)), (11, i64 ts.length), (12, i64 (0 : Nat))] [] ?_ fun env ⟨h0, h4, h10, h11, h12, _⟩ => ?_
    · simp -implicitDefEqProofs only [h0, h4, List.length_map, Nat.reduceEqDiff, Nat.reduceLeDiff, Nat.reduceAdd, reduceCtorEq, go_sem, ↓reduceIte]
      rfl
    rw [wp_block_eq]
    refine wp_loop_garb (A := Nat) (fun i => [(4, .sl .yes ⟨1, 9⟩ (((ts.take i).map fun t => (f t).1).map .str)), (10, .sl .no ⟨5, 32⟩ (ts.map zA)), (11, i64 ts.length), (12, i64 i)]) (fun _ => []) (fun i => i ≤ ts.length ∧ ∀ t ∈ ts.take i, (f t).2 = 0) (fun i => ts.length - i) 0 ⟨Nat.zero_le _, by simp⟩ rfl ⟨h4, h10, h11, h12, trivial⟩ ?_ ?_
    · intro i hi
      exact ⟨Nat.zero_le _, by simp, by simp [ren, ren2, ren1, ren0]⟩
    rintro i ⟨hi, hp⟩
    have hti : ((i : Nat) : Int).toNat = i := Int.toNat_natCast _
    by_cases hlt : i < ts.length
    · have hd : decide ((i : Int) < (ts.length : Int)) = true := by simp; omega
      have tk : ts.take (i + 1) = ts.take i ++ [ts[i]] := by rw [List.take_add_one]; simp [hlt]
      have hm : ts[i] ∈ ts := List.getElem_mem _
      have hft := hf _ hm
      have hg : ts.getD i default = ts[i] := by simp [hlt]
      have hw := wrap_succ i ts.length hlt (by omega)
      have hol : (List.length (List.take i ts) + 1 ≤ lenLim) = True := by simp [lenLim]; omega
      generalize ts[i] = t at *
      unfold zA partsA at hft
      by_cases h0 : (f t).2 = 0
      · have z0 : (((f t).2 : Int) != 0) = false := by rw [h0] <;> rfl
        simp -implicitDefEqProofs only [hd, hti, hg, zA, partsA, Nat.reduceEqDiff, Nat.reduceLeDiff, Nat.reduceAdd, reduceCtorEq, go_sem, ↓reduceIte]
        refine ⟨by omega, hlt, ?_⟩
        refine callW_pure hft rfl rfl ?_
        simp -implicitDefEqProofs only [z0, hol, hw, List.length_map, Nat.reduceEqDiff, Nat.reduceLeDiff, Nat.reduceAdd, reduceCtorEq, go_sem, ↓reduceIte]
        refine ⟨i + 1, ⟨⟨by omega, ?_⟩, by omega⟩, ?_, rfl⟩
        · rw [tk]
          intro y hy
          rcases List.mem_append.1 hy with h | h
          · exact hp y h
          · rw [List.mem_singleton.1 h]; exact h0
        · rw [tk, List.map_append, List.map_append]
          rfl
      · have z0 : (((f t).2 : Int) != 0) = true := by simp; omega
        have hfi : joinT (ts.map f) = ([], (f t).2) := by
          have hfd : (ts.map f).find? (fun x => x.2 != 0) = some (f t) := by
            have h1 : ts = ts.take i ++ t :: ts.drop (i + 1) := by
              conv => lhs; rw [← List.take_append_drop (i + 1) ts, tk]
              simp
            rw [h1, List.map_append, List.find?_append]
            have h2 : (List.map f (ts.take i)).find? (fun x => x.2 != 0) = none := by
              rw [List.find?_eq_none]
              intro x hx
              obtain ⟨y, hy, rfl⟩ := List.mem_map.1 hx
              simp [hp y hy]
            rw [h2, List.map_cons, List.find?_cons_of_pos (by simp [h0])]
            rfl
          simp [joinT, hfd]
        rw [hfi]
        simp -implicitDefEqProofs only [hd, hti, hg, zA, partsA, Nat.reduceEqDiff, Nat.reduceLeDiff, Nat.reduceAdd, reduceCtorEq, go_sem, ↓reduceIte]
        refine ⟨by omega, hlt, ?_⟩
        refine callW_pure hft rfl rfl ?_
        simp -implicitDefEqProofs only [z0, Nat.reduceEqDiff, Nat.reduceLeDiff, Nat.reduceAdd, reduceCtorEq, go_sem, ↓reduceIte]
    · have hd : decide ((i : Int) < (ts.length : Int)) = false := by simp; omega
      have : i = ts.length := by omega
      subst this
      rw [List.take_length] at hp
      simp -implicitDefEqProofs only [hd, List.take_length, Nat.reduceEqDiff, Nat.reduceLeDiff, Nat.reduceAdd, reduceCtorEq, go_sem, ↓reduceIte]
      exact ⟨_, hp, rfl⟩
  have hj : joinT (ts.map f) = if (Lib.join (ts.map fun t => (f t).1) [32]).length > 2000 then ([], 2) else (Lib.join (ts.map fun t => (f t).1) [32], 0) := by
    have hfd : (ts.map f).find? (fun x => x.2 != 0) = none := by
      rw [List.find?_eq_none]
      intro x hx
      obtain ⟨y, hy, rfl⟩ := List.mem_map.1 hx
      simp [hz y hy]
    have hmm : (ts.map f).map (·.1) = ts.map fun t => (f t).1 := by simp [Function.comp_def]
    unfold joinT
    rw [hfd, hmm]
  rw [hj]
  simp -implicitDefEqProofs only [h4, Nat.reduceEqDiff, Nat.reduceLeDiff, Nat.reduceAdd, reduceCtorEq, go_sem, ↓reduceIte]
  refine callW_pure (ret_prim (sound44 (ts.map fun t => (f t).1) [32] (by simp; omega) hlen _)) rfl rfl ?_
  generalize Lib.join (ts.map fun t => (f t).1) [32] = J at *
  by_cases hJ : J.length > 2000
  · have d : decide ((J.length : Int) > 2000) = true := by simp; omega
    simp -implicitDefEqProofs only [d, Nat.reduceEqDiff, Nat.reduceLeDiff, Nat.reduceAdd, reduceCtorEq, go_sem, ↓reduceIte]
    rw [if_pos hJ]
    rfl
  · have d : decide ((J.length : Int) > 2000) = false := by simp; omega
    simp -implicitDefEqProofs only [d, Nat.reduceEqDiff, Nat.reduceLeDiff, Nat.reduceAdd, reduceCtorEq, go_sem, ↓reduceIte]
    rw [if_neg hJ]
    rfl
end Go.Pv
/- The law of 'awake', and of the claim that Scan agrees with the reference. -/
namespace Go.Pv
open Go Go.Proofs
set_option maxRecDepth 4000
variable {G : Frz}
instance : Inhabited Tok := ⟨⟨0, [], 0, [], 0⟩⟩
theorem takeWhile_nil (p : UInt8 → Bool) : ([] : Bytes).takeWhile p = [] := rfl
def awL : List Tok := [⟨6, [97], 0, [], 0⟩, ⟨4, [45], 0, [], 2⟩, ⟨2, [], 1, [], 3⟩]
theorem scanA : scanT [36, 97, 45, 49, 32, 35, 32, 120] = (awL, 0, 0) := by
  unfold awL
  have o1 : oneR [36, 97, 45, 49, 32, 35, 32, 120] 0 = .ok (⟨6, [97], 0, [], 0⟩, 2) := by rfl
  have o2 : oneR [45, 49, 32, 35, 32, 120] 2 = .ok (⟨4, [45], 0, [], 2⟩, 1) := by rfl
  have o3 : oneR [49, 32, 35, 32, 120] 3 = .ok (⟨2, [], 1, [], 3⟩, 1) := by rfl
  unfold scanT
  rw [if_neg (by decide), scanR_cons, if_neg (by decide), if_neg (by decide), o1]
  simp only [List.nil_append, List.drop, Nat.reduceSub, Nat.reduceAdd]
  rw [scanR_cons, if_neg (by decide), if_neg (by decide), o2]
  simp only [List.drop, Nat.reduceSub, Nat.reduceAdd, List.cons_append, List.nil_append]
  rw [scanR_cons, if_neg (by decide), if_neg (by decide), o3]
  simp only [List.drop, Nat.reduceSub, Nat.reduceAdd, List.cons_append, List.nil_append]
  rw [scanR_cons, if_pos (by decide), scanR_cons, if_neg (by decide), if_pos (by decide)]
  rw [show List.dropWhile notNl [32, 120] = [] by decide, scanR_nil]
theorem scanB' : scanT [97, 32, 45, 120] = ([], 2, 1) := by
  have o1 : oneR [97, 32, 45, 120] 0 = .ok (⟨1, [97], 0, [], 0⟩, 1) := by rfl
  have o2 : oneR [45, 120] 2 = .error (0, 1) := by rfl
  unfold scanT
  rw [if_neg (by decide), scanR_cons, if_neg (by decide), if_neg (by decide), o1]
  simp only [List.nil_append, List.drop, Nat.reduceSub, Nat.reduceAdd]
  rw [scanR_cons, if_pos (by decide), scanR_cons, if_neg (by decide), if_neg (by decide), o2]
def awT : List ZTok := [⟨6, [97], 0, [], 0⟩, ⟨4, [45], 0, [], 2⟩, ⟨2, [], 1, [], 3⟩]
def awF (t : ZTok) : Bytes × Nat := textZ t ⟨false, [49], ([], 0)⟩
theorem awJ : joinT (awT.map awF) = ([36, 97, 32, 45, 32, 49], 0) := by decide +kernel
theorem c14aw (hG : GOk G) : RR G 14 [.sl .no ⟨5, 32⟩ (awT.map zA)] [] (.tup [.str [36, 97, 32, 45, 32, 49], i64 (0 : Nat)]) [] := by
  have h := c14 (G := G) awT awF (by decide) (by decide +kernel) (fun t ht => ?_)
  · rw [awJ] at h
    exact h
  · have h12 : t.word.length ≤ 2147483000 ∧ (-9223372036854775808 ≤ t.kind ∧ t.kind < 9223372036854775808) ∧ (t.kind = 2 → t.n = 1) ∧ t.kind ≠ 1 ∧ t.kind ≠ 3 ∧ t.kind ≠ 5 := by
      simp only [awT, List.mem_cons, List.not_mem_nil, or_false] at ht
      rcases ht with rfl | rfl | rfl <;> simp
    refine c16 hG t ⟨false, [49], ([], 0)⟩ h12.1 h12.2.1 (fun h => by cases h) (fun h => ?_) (fun h _ => ?_) (fun h => absurd h h12.2.2.2.2.1)
    · rcases h with h | h
      · exact absurd h h12.2.2.2.1
      · exact absurd h h12.2.2.2.2.2
    · rw [h12.2.2.1 h]
      have h := sound119s (G := G) 1 (by decide) []
      rw [show Lib.decDigits 1 = [49] by decide +kernel] at h
      exact h
theorem c12 (hG : GOk G) : RR G 12 [] [] (.bool true) [] := by
  have h1 := c18 (G := G) hG [36, 97, 45, 49, 32, 35, 32, 120] (by decide) _ scanA
  have h2 := c18 (G := G) hG [97, 32, 45, 120] (by decide) _ scanB'
  have h3 := c14aw hG
  have h3 : RR G 14 [.sl .no ⟨5, 32⟩ (awL.map tokA)] [] (.tup [.str [36, 97, 32, 45, 32, 49], i64 (0 : Nat)]) [] := h3
  have z0 : (((0 : Nat) : Int) == 0) = true := rfl
  have z1 : (([36, 97, 32, 45, 32, 49] : Bytes) == [36, 97, 32, 45, 32, 49]) = true := rfl
  have z2 : ((awL.length : Int) == 3) = true := rfl
  have z3 : awL.getD (Int.toNat 2) default = ⟨2, [], 1, [], 3⟩ := rfl
  have z4 : (((1 : Nat) : Int) == 1) = true := rfl
  have z5 : (((2 : Nat) : Int) == 2) = true := rfl
  refine ret_intro Tryz.func12 rfl Tryz.results12 (by decide +kernel) rfl (Nat.le_refl _) rfl (by simp) ?_
  simp -implicitDefEqProofs only [Nat.reduceEqDiff, Nat.reduceLeDiff, Nat.reduceAdd, reduceCtorEq, go_sem, ↓reduceIte]
  refine callW_pure h1 rfl rfl ?_
  simp -implicitDefEqProofs only [toksA, Nat.reduceEqDiff, Nat.reduceLeDiff, Nat.reduceAdd, reduceCtorEq, go_sem, ↓reduceIte]
  refine callW_pure h3 rfl rfl ?_
  simp -implicitDefEqProofs only [Nat.reduceEqDiff, Nat.reduceLeDiff, Nat.reduceAdd, reduceCtorEq, go_sem, ↓reduceIte]
  refine callW_pure h2 rfl rfl ?_
  simp -implicitDefEqProofs only [toksA, z0, z1, List.length_map, z2, z3, tokA, z4, z5, Nat.reduceEqDiff, Nat.reduceLeDiff, Nat.reduceAdd, reduceCtorEq, go_sem, ↓reduceIte]
  exact ⟨by decide, by decide⟩
theorem scanR_place (l : Bytes) (a : Nat) (out : List Tok) : (scanR l a out).2.1 ≤ a + l.length ∧ (scanR l a out).1.length ≤ out.length + l.length := by
  induction h : l.length using Nat.strongRecOn generalizing l a out with
  | _ n ih =>
    subst h
    cases l with
    | nil => rw [scanR_nil]; simp
    | cons c r =>
      rw [scanR_cons]
      split
      · have := ih r.length (by simp) r (a + 1) out rfl
        simp only [List.length_cons]; omega
      · split
        · have hl := dropWhile_len notNl r
          have := ih (r.dropWhile notNl).length (by simp; omega) (r.dropWhile notNl) (a + 1 + (r.takeWhile notNl).length) out rfl
          simp only [List.length_cons]; omega
        · split
          · rename_i t k hk
            have hk := oneR_ok hk
            have := ih (r.drop (k - 1)).length (by simp; omega) (r.drop (k - 1)) (a + k) (out ++ [t]) rfl
            simp only [List.length_drop, List.length_append, List.length_cons, List.length_nil] at *; omega
          · rename_i b e hk
            have hk := oneR_err hk
            simp at hk ⊢; omega
theorem flushT_len (out : List Part) (text : Bytes) : (flushT out text).length ≤ out.length + 1 := by
  unfold flushT
  split <;> simp
theorem qRun_parts (l : Bytes) (out : List Part) (text : Bytes) (i : Nat) : (qRun l out text i).1.length ≤ out.length + l.length := by
  induction h : l.length using Nat.strongRecOn generalizing l out text i with
  | _ n ih =>
    subst h
    have hf := flushT_len out text
    cases l with
    | nil => rw [qRun_nil]; simp
    | cons c r =>
      rw [qRun_cons]
      split
      · simp only [List.length_cons]; omega
      · split
        · split
          · rename_i nm k hv
            have h1 := varR_ok hv
            have h2 := ih (r.drop k).length (by simp; omega) (r.drop k) (flushT out text ++ [(nm, [])]) [] (i + 1 + k) rfl
            simp only [List.length_drop, List.length_cons, List.length_append, List.length_nil] at h2 ⊢
            omega
          · simp
        · split
          · split
            · rename_i b k hv
              have h1 := escR_ok hv
              have h2 := ih (r.drop k).length (by simp; omega) (r.drop k) out (text ++ [b]) (i + 1 + k) rfl
              simp only [List.length_drop, List.length_cons] at h2 ⊢
              omega
            · simp
          · split
            · have h2 := ih r.length (by simp) r out (text ++ [c]) (i + 1) rfl
              simp only [List.length_cons] at h2 ⊢
              omega
            · simp
theorem qParse_parts (l : Bytes) : (qParse l).1.length ≤ l.length := by
  cases l with
  | nil => simp [qParse]
  | cons c r =>
    simp only [qParse]
    split
    · have := qRun_parts r [] [] 1
      simp only [List.length_nil, List.length_cons] at this ⊢
      omega
    · simp
theorem oneR_parts {l : Bytes} {a : Nat} {t : Tok} {k : Nat} (h : oneR l a = .ok (t, k)) : t.parts.length ≤ l.length := by
  unfold oneR at h
  split at h
  · cases h
  · rename_i c r
    simp only at h
    repeat' split at h
    all_goals first
      | (cases h; done)
      | (simp only [Except.ok.injEq, Prod.mk.injEq] at h; obtain ⟨rfl, rfl⟩ := h; first
          | (simp; done)
          | skip)
    rename_i p k' hq
    have := qParse_parts (c :: r)
    rw [hq] at this
    exact this
theorem scanR_parts (B : Nat) (l : Bytes) (a : Nat) (out : List Tok) (hl : l.length ≤ B) (ho : ∀ t ∈ out, t.parts.length ≤ B) : ∀ t ∈ (scanR l a out).1, t.parts.length ≤ B := by
  induction h : l.length using Nat.strongRecOn generalizing l a out with
  | _ n ih =>
    subst h
    cases l with
    | nil => rw [scanR_nil]; exact ho
    | cons c r =>
      simp only [List.length_cons] at hl
      rw [scanR_cons]
      split
      · exact ih r.length (by simp) r (a + 1) out (by omega) ho rfl
      · split
        · have hl := dropWhile_len notNl r
          exact ih (r.dropWhile notNl).length (by simp; omega) (r.dropWhile notNl) (a + 1 + (r.takeWhile notNl).length) out (by omega) ho rfl
        · split
          · rename_i t k hk
            have hk2 := oneR_ok hk
            refine ih (r.drop (k - 1)).length (by simp; omega) (r.drop (k - 1)) (a + k) (out ++ [t]) (by simp; omega) (fun u hu => ?_) rfl
            rcases List.mem_append.1 hu with h | h
            · exact ho u h
            · rw [List.mem_singleton.1 h]
              have := oneR_parts hk
              simp only [List.length_cons] at this
              omega
          · intro t ht
            cases ht
theorem scanT_len (s : Bytes) : (scanT s).1.length ≤ s.length ∧ ∀ t ∈ (scanT s).1, t.parts.length ≤ s.length := by
  unfold scanT
  split
  · exact ⟨Nat.zero_le _, by simp⟩
  · have h1 := (scanR_place s 0 []).2
    exact ⟨by simpa using h1, scanR_parts s.length s 0 [] (Nat.le_refl _) (by simp)⟩
theorem c4 (hG : GOk G) (s : Bytes) : RR G 4 [.str s] [] (.bool true) [] := by
  have h1 := c12 hG
  refine ret_intro Tryz.func4 rfl Tryz.results4 (by decide +kernel) rfl (Nat.le_refl _) rfl (by simp) ?_
  refine wp_mid [(0, .str s)] [] ?_ fun env ⟨h0, _⟩ => ?_
  · simp -implicitDefEqProofs only [Nat.reduceEqDiff, Nat.reduceLeDiff, Nat.reduceAdd, reduceCtorEq, go_sem, ↓reduceIte]
  refine wp_mid [(0, .str s)] [] ?_ fun env ⟨h0, _⟩ => ?_
  · simp -implicitDefEqProofs only [h0, Nat.reduceEqDiff, Nat.reduceLeDiff, Nat.reduceAdd, reduceCtorEq, go_sem, ↓reduceIte]
    refine callW_pure h1 rfl rfl ?_
    simp -implicitDefEqProofs only [h0, Nat.reduceEqDiff, Nat.reduceLeDiff, Nat.reduceAdd, reduceCtorEq, go_sem, ↓reduceIte]
  by_cases hl : s.length > 120
  · have d : decide ((s.length : Int) > 120) = true := by simp; omega
    simp -implicitDefEqProofs only [h0, d, Nat.reduceEqDiff, Nat.reduceLeDiff, Nat.reduceAdd, reduceCtorEq, go_sem, ↓reduceIte]
  have d : decide ((s.length : Int) > 120) = false := by simp; omega
  refine wp_mid [(0, .str s)] [] ?_ fun env ⟨h0, _⟩ => ?_
  · simp -implicitDefEqProofs only [h0, d, Nat.reduceEqDiff, Nat.reduceLeDiff, Nat.reduceAdd, reduceCtorEq, go_sem, ↓reduceIte]
  have hB := scanT_len s
  rcases hT : scanT s with ⟨l, q, e⟩
  rw [hT] at hB
  simp only at hB
  have h18 := c18 (G := G) hG s (by omega) _ hT
  have h20 := c20 (G := G) s (by omega) _ hT
  refine wp_mid [(0, .str s), (3, toksA l), (4, i64 q), (5, i64 e)] [] ?_ fun env ⟨h0, h3, h4, h5, _⟩ => ?_
  · simp -implicitDefEqProofs only [h0, Nat.reduceEqDiff, Nat.reduceLeDiff, Nat.reduceAdd, reduceCtorEq, go_sem, ↓reduceIte]
    refine callW_pure h18 rfl rfl ?_
    simp -implicitDefEqProofs only [h0, toksA, Nat.reduceEqDiff, Nat.reduceLeDiff, Nat.reduceAdd, reduceCtorEq, go_sem, ↓reduceIte]
  refine wp_mid [(3, toksA l), (4, i64 q), (5, i64 e), (6, toksA l), (7, i64 q), (8, i64 e)] [] ?_ fun env ⟨h3, h4, h5, h6, h7, h8, _⟩ => ?_
  · simp -implicitDefEqProofs only [h0, h3, h4, h5, toksA, Nat.reduceEqDiff, Nat.reduceLeDiff, Nat.reduceAdd, reduceCtorEq, go_sem, ↓reduceIte]
    refine callW_pure h20 rfl rfl ?_
    simp -implicitDefEqProofs only [h0, h3, h4, h5, toksA, Nat.reduceEqDiff, Nat.reduceLeDiff, Nat.reduceAdd, reduceCtorEq, go_sem, ↓reduceIte]
  refine wp_mid [(3, toksA l), (6, toksA l)] [] ?_ fun env ⟨h3, h6, _⟩ => ?_
  · have d1 : ((q : Int) != (q : Int)) = false := by simp
    have d2 : ((e : Int) != (e : Int)) = false := by simp
    have d3 : ((l.length : Int) != (l.length : Int)) = false := by simp
    simp -implicitDefEqProofs only [h3, h4, h5, h6, h7, h8, toksA, List.length_map, d1, d2, d3, Nat.reduceEqDiff, Nat.reduceLeDiff, Nat.reduceAdd, reduceCtorEq, go_sem, ↓reduceIte]
  refine wp_mid [] [] ?_ fun env _ => ?_
  · refine wp_mid [(3, toksA l), (6, toksA l), (43, i64 l.length), (44, i64 (0 : Nat))] [] ?_ fun env ⟨h3, h6, h43, h44, _⟩ => ?_
    · simp -implicitDefEqProofs only [h3, h6, toksA, List.length_map, Nat.reduceEqDiff, Nat.reduceLeDiff, Nat.reduceAdd, reduceCtorEq, go_sem, ↓reduceIte]
      rfl
    rw [wp_block_eq]
    refine wp_loop_use (A := Nat) (fun i => [(3, toksA l), (6, toksA l), (43, i64 l.length), (44, i64 i)]) (fun _ => []) (fun i => i ≤ l.length) (fun i => l.length - i) 0 (Nat.zero_le _) rfl ⟨h3, h6, h43, h44, trivial⟩ ?_
    intro i hi
    have hti : ((i : Nat) : Int).toNat = i := Int.toNat_natCast _
    by_cases hlt : i < l.length
    · have hd : decide ((i : Int) < (l.length : Int)) = true := by simp; omega
      have hg : l.getD i default = l[i] := by simp [hlt]
      have hw := wrap_succ i l.length hlt (by omega)
      have hm : l[i] ∈ l := List.getElem_mem _
      have hpl := hB.2 _ hm
      have hsame := c21 (G := G) l[i] l[i] (by omega)
      rw [decide_eq_true rfl] at hsame
      generalize l[i] = t at *
      simp -implicitDefEqProofs only [toksA, List.length_map, hd, Nat.reduceEqDiff, Nat.reduceLeDiff, Nat.reduceAdd, reduceCtorEq, go_sem, ↓reduceIte]
      (refine WT_ord (t := lin [0, 1, 2, 3, 4, 5, 6, 7, 8, 9] .nil) ?_ ?_; kernel_rfl)
      simp -implicitDefEqProofs only [hti, hg, tokA, partsA, Nat.reduceEqDiff, Nat.reduceLeDiff, Nat.reduceAdd, reduceCtorEq, go_sem, ↓reduceIte]
      refine ⟨by omega, hlt, by omega, hlt, ?_⟩
      refine callW_pure hsame rfl rfl ?_
      simp -implicitDefEqProofs only [hw, Nat.reduceEqDiff, Nat.reduceLeDiff, Nat.reduceAdd, reduceCtorEq, go_sem, ↓reduceIte]
      exact ⟨i + 1, ⟨by omega, by omega⟩, rfl⟩
    · have hd : decide ((i : Int) < (l.length : Int)) = false := by simp; omega
      simp -implicitDefEqProofs only [hd, Nat.reduceEqDiff, Nat.reduceLeDiff, Nat.reduceAdd, reduceCtorEq, go_sem, ↓reduceIte]
  simp -implicitDefEqProofs only [Nat.reduceEqDiff, Nat.reduceLeDiff, Nat.reduceAdd, reduceCtorEq, go_sem, ↓reduceIte]
end Go.Pv
/- From a function's law to what the machine does. -/
namespace Go.Pv
open Go Go.Proofs Go.RowKit
set_option maxRecDepth 4000
theorem callFunc_enter {P : Program} {f : Nat} {vargs : Array Value} (h : callOk P f = true) (w : World) : (callFunc f vargs).run P w = .ok (.enter f vargs) w := by
  unfold callOk at h
  cases hf : P.funcs[f]? with
  | none => rw [hf] at h; cases h
  | some fn =>
    rw [hf] at h
    simp only [Bool.and_eq_true, Bool.not_eq_true'] at h
    obtain ⟨h1, h2⟩ := h
    cases hb : fn.body with
    | none => rw [hb] at h1; cases h1
    | some c => exact Go.MuLone.run_callFunc_enter hf h2 hb vargs w
/-- All cells of a world. -/
def frzOf (w : World) : Frz := fun b o => (w.cell? ⟨b, o, none⟩).filter fun v => v.oneCell'
theorem frzOf_sok {w : World} (ht : Lib.TabIs Tryz.prog w "internal/strconv.uint64pow10" .u64 Lib.pow10Tab) : Sok (frzOf w) w := by
  refine ⟨fun b o v h => ?_, fun g n hg => ?_⟩
  · unfold frzOf at h
    rw [Option.filter_eq_some_iff] at h
    exact h
  · have hg1 : g = 1 ∧ n = 20 := by
      unfold sizesOf at hg
      split at hg
      · cases hg; exact ⟨by assumption, rfl⟩
      · cases hg
    obtain ⟨rfl, rfl⟩ := hg1
    have hgn : Tryz.prog.globalNamed "internal/strconv.uint64pow10" = some 1 := by kernel_rfl
    have hc := ht.cell hgn 0 (by rw [Lib.pow10Tab_length]; omega)
    refine ⟨?_, ?_⟩
    · unfold frzOf
      rw [hc]
      simp [Option.filter, Value.oneCell']
    · unfold Lib.TabIs World.var? at ht
      rw [hgn] at ht
      simp only [Option.bind_some] at ht
      split at ht
      · rename_i cs T fr hh
        simp only [Option.some.injEq] at ht
        refine ⟨cs, T, fr, hh, ?_⟩
        rw [ht]
        simp [Lib.pow10Tab_length]
      · cases ht
theorem calls_of_ret {f : Nat} {args : List AV} {r : AV} {w : World} {vargs : Array Value} (h : RR (frzOf w) f args [] r []) (hok : callOk Tryz.prog f = true) (ha : RL (VR [] (frzOf w)) args vargs) (htab : Lib.TabIs Tryz.prog w "internal/strconv.uint64pow10" .u64 Lib.pow10Tab) :
    Calls Tryz.prog f vargs w fun e w' => ∃ v S', e = .returned v ∧ VR [] S' r v ∧ Below w.heap.size w w' := by
  have hs := ret_sound (P := Tryz.prog) (G := frzOf w) (by decide +kernel) (fun _ _ _ _ _ h => h) h
  have hR : Rel 0 w (frzOf w) (touch [] [] w) [] (frzOf w) (fun _ => .undef) [] #[] w := by
    refine ⟨frzOf_sok htab, Evo.refl _ _ _, rfl, fun t => VR.undef, by simp, rfl, fun i k b hb => by simp at hb, fun i k hk => by simp at hk, fun i k hk => by simp at hk, ?_, ?_, ?_⟩
    · intro hd sz l e
      cases hd <;> simp [haA, cellAt, cellsAt] at e
    · intro hd sz l g e
      cases hd <;> simp [haA, cellAt, cellsAt] at e
    · intro hd hd2 sz l sz2 l2 g hne e
      cases hd <;> simp [haA, cellAt, cellsAt] at e
  rcases hs [] (frzOf w) w vargs (fun _ _ _ h => h) hR ha with ⟨_, hc⟩ | ⟨v, w', hrun, _⟩
  · refine hc.mono ?_
    rintro e w' ⟨v, φ', S', rfl, hf, hrel⟩
    have hφ : φ' = [] := by
      have := hrel.len
      simpa using this
    subst hφ
    refine ⟨v, S', rfl, ?_, ?_⟩
    · have := hrel.vals 0
      simpa [retEnv] using this
    · refine ⟨hrel.evo.os, hrel.evo.tape, hrel.evo.output, hrel.evo.size, fun k hk => hrel.evo.heap k hk ?_⟩
      rintro (h | ⟨i, off, sz, l, h, _⟩)
      · simp at h
      · simp [cellAt, cellsAt] at h
  · rw [callFunc_enter hok] at hrun
    cases hrun
end Go.Pv
/- What a row gives a law's proof, and what it wants of it. -/
namespace Go.Pv
open Go Go.Proofs Go.RowKit Go.ChangeShapes Go.WideShapes Go.ChangeAt
set_option maxRecDepth 4000
/-- As the guide's post_of_same, where the call left all that was there as it was. -/
theorem post_below {H : Type} {enc : TypeId × Value → H} {P : Program} {f : Func} {s : ChangeSpec} {apart fresh handsOn again : Bool} {W W' : World} {args : Array Value} {v : Value} {ds gs : List (DataW H)} {before pa pv : List MemPlace}
    (hW : DataW.Whole enc P f.params.toList s.vars apart W args.toList ds gs before)
    (hres : ∀ (b : Nat) (sp : Nat → Bool) (hd : Bool), DataW.TrodAll enc P W' b sp hd f.resultTypes.toList (v.resultList f.resultTypes.size) (s.fn H (ds ++ gs)).results [])
    (hargs : ∀ sp : Nat → Bool, (∀ p ∈ before, sp p.block = true) → DataW.TrodAll enc P W' 0 sp true f.params.toList args.toList (s.fn H (ds ++ gs)).args pa)
    (hvars : ∀ sp : Nat → Bool, (∀ p ∈ before, sp p.block = true) → DataW.TrodVars enc P W' sp s.vars (s.fn H (ds ++ gs)).vars pv)
    (hps : before = pa ++ pv) (hk : Below W.heap.size W W')
    (hok : ∀ (j : Nat) (t : TypeId) (r : Value), f.resultTypes[j]? = some t → (v.resultList f.resultTypes.size)[j]? = some r → Value.okWide P W' .any 0 t r) :
    s.post enc P f apart fresh handsOn again W args v W' := by
  have hold : ∀ p ∈ before, (fun b => decide (b < W.heap.size)) p.block = true := fun p hp => by simpa using hW.lt p hp
  refine ⟨ds, gs, before, [], pa, pv, hW, hres _ _ _, hargs _ hold, hvars _ hold, World.keptBut_mono (fun p hp => ⟨hp, ?_⟩) (hk.frame (· ∈ before)), fun _ => ?_⟩
  · rw [hps, List.mem_append] at hp
    exact Or.inr hp
  · have hlt : ∀ p ∈ before, p.block < W.heap.size := fun p hp => hW.lt p hp
    obtain ⟨_, _, _, _, _, hz, hn⟩ := hW
    refine ⟨hok, _, _, ([] ++ pa) ++ pv, ⟨[] ++ pa, pv, trodAll_append (hargs _ (fun _ _ => rfl)) (hres _ _ _), hvars _ (fun _ _ => rfl), rfl, ?_, ?_⟩, ?_⟩
    · intro b off hp
      have hb : MemPlace.cell b off ∈ before := by rw [hps]; simpa using hp
      rw [hk.frozen (p := ⟨b, off, none⟩) (hlt _ hb)]
      exact hz b off hb
    · intro ha
      have := hn ha
      rw [hps] at this
      simpa using this
    · intro p hp _
      rw [hps]
      simpa using hp
abbrev laidL : List (String × DataW Unit) := YtjkacllmilafoaaGreatDoor.Rows.tokenAnyRow.laid
theorem gErr : Tryz.prog.globalNamed "strconv.ErrRange" = some 5 := by kernel_rfl
theorem tErr : (Tryz.prog.globals[5]?).map (·.type) = some 181 := by kernel_rfl
theorem gTab : Tryz.prog.globalNamed "internal/strconv.uint64pow10" = some 1 := by kernel_rfl
theorem tTab : (Tryz.prog.globals[1]?).map (·.type) = some 327 := by kernel_rfl
theorem dTab : (YtjkacllmilafoaaGreatDoor.Rows.laid_internal_strconv_uint64pow10 : DataW Unit) = Lib.tabData .u64 Lib.pow10Tab := by kernel_rfl
theorem tab_laid {W : World} (hl : laidMetH Tryz.prog laidL W) : Lib.TabIs Tryz.prog W "internal/strconv.uint64pow10" .u64 Lib.pow10Tab := by
  rw [MakeChecks.laidMetH_plain _ _ _ (by kernel_rfl)] at hl
  obtain ⟨ps, ⟨_, _, _, _, _, _, _, _, _, _, ⟨_, _, _, _, _, _, _, _, _, _, ⟨g, t, cs, f, p, q, hg, ht, hv, hd, _, _⟩, _⟩, _⟩, _⟩ := hl
  obtain rfl := Option.some.inj (gTab.symm.trans hg)
  obtain rfl := Option.some.inj (tTab.symm.trans ht)
  rw [dTab] at hd
  unfold Lib.TabIs
  rw [hv, ← Lib.cells_of_tab (n := 20) (e := 193) Tryz.underlying327 Tryz.underlying193 (by kernel_rfl) (by kernel_rfl) hd]
theorem gok_of {W : World} (hs : W.ShapedOpen Tryz.prog) (hl : laidMetH Tryz.prog laidL W) : GOk (frzOf W) := by
  have htab := tab_laid hl
  refine ⟨?_, ?_, fun i z hz => ?_⟩
  rotate_left 2
  · have hi : i < Lib.pow10Tab.length := (List.getElem?_eq_some_iff.1 hz).1
    have hc := htab.cell gTab i hi
    unfold frzOf
    rw [hc]
    have : Lib.pow10Tab.getD i 0 = z := by simp [List.getD, hz]
    rw [this]
    rfl
  · obtain ⟨m, hm⟩ := Tryz.laysM144.s1_3 W hs
    refine ⟨m, ?_⟩
    unfold frzOf
    have hm : W.cell? ⟨0, 0, none⟩ = some (.int .i64 m) := hm
    rw [hm]
    rfl
  · rw [MakeChecks.laidMetH_plain _ _ _ (by kernel_rfl)] at hl
    obtain ⟨ps, ⟨_, _, _, _, _, _, _, _, _, _, ⟨_, _, _, _, _, _, _, _, _, _, ⟨_, _, _, _, _, _, _, _, _, _, ⟨_, _, _, _, _, _, _, _, _, _, ⟨g, t, cs, f, p, q, hg, ht, hv, hd, _, _⟩, _⟩, _⟩, _⟩, _⟩, _, _⟩ := hl
    obtain rfl := Option.some.inj (gErr.symm.trans hg)
    obtain rfl := Option.some.inj (tErr.symm.trans ht)
    obtain ⟨f', u, v, hcs, _, _⟩ := iface_of_trod Tryz.underlying181 hd
    have hcell : W.cell? ⟨5, 0, none⟩ = some (.iface u v) := by
      have := World.var?_cell hg hv 0
      rw [Array.eq_one_of_toList hcs] at this
      simpa using this
    refine ⟨_, ?_, .inr ⟨u, v, rfl⟩⟩
    unfold frzOf
    rw [hcell]
    rfl
end Go.Pv
/- How what a row tells of its arguments becomes values of the logic: slices and structs of plain types. -/
namespace Go.Pv
open Go Go.Proofs Go.RowKit Go.ChangeShapes
set_option maxRecDepth 4000
section
variable {H : Type} {enc : TypeId × Value → H} {P : Program} {w : World} {base : Nat} {sp sp' : Nat → Bool} {held : Bool}
/-- Types that hold words, texts, and slices and structs of such. -/
def closedB (P : Program) (L : List TypeId) : Bool := L.all fun t => match P.underlying t with
  | some .bool => true
  | some (.int _) => true
  | some .string => true
  | some (.slice e) => L.contains e && decide (0 < P.cellsOf e)
  | some (.struct fs) => fs.toList.all fun f => L.contains f.type
  | _ => false
theorem mapM_of_get {α β : Type} {f : α → Option β} : ∀ {l : List α} {r : List β}, r.length = l.length → (∀ (i : Nat) a, l[i]? = some a → f a = r[i]?) → l.mapM f = some r
  | [], r, hl, _ => by
    have : r = [] := List.length_eq_zero_iff.1 hl
    subst this; rfl
  | a :: l, r, hl, h => by
    cases r with
    | nil => simp at hl
    | cons b r =>
      rw [List.mapM_cons]
      have h0 := h 0 a rfl
      simp at h0
      rw [h0, mapM_of_get (by simpa using hl) fun i a ha => by simpa using h (i + 1) a (by simpa using ha)]
      rfl
/-- Which spare is read makes no difference, where all that was met is read. -/
theorem trod_spare {L : List TypeId} (hL : closedB P L = true) : ∀ (n : Nat) (t : TypeId) (cs : List Value) (x : DataW H × List MemPlace), t ∈ L → DataW.trod enc P w base (fun _ => true) held n t cs = some x → (∀ p ∈ x.2, sp p.block = true) → DataW.trod enc P w base sp held n t cs = some x := by
  intro n
  induction n with
  | zero => intro t cs x _ h; simp [DataW.trod] at h
  | succ n ih =>
    intro t cs x ht h hs
    have hc := List.all_eq_true.1 hL t ht
    cases hu : P.underlying t with
    | none => simp [hu] at hc
    | some d =>
      rw [hu] at hc
      cases d with
      | bool =>
        obtain ⟨b, rfl, rfl⟩ := DataW.trod_bool hu h
        simp [DataW.trod, hu]
      | int k =>
        obtain ⟨b, rfl, rfl, hw⟩ := DataW.trod_int hu h
        simp [DataW.trod, hu, hw]
      | string =>
        obtain ⟨b, rfl, rfl, hw⟩ := DataW.trod_string hu h
        simp [DataW.trod, hu, hw]
      | slice e =>
        simp only [Bool.and_eq_true, List.contains_iff_mem, decide_eq_true_eq] at hc
        rcases DataW.trod_slice hu h with ⟨rfl, rfl⟩ | ⟨a, len, cap, elems, rest, m, hm, rfl, rfl, hb, hl, hcap, hlen, hel, hsp, _⟩
        · simp [DataW.trod, hu]
        · cases hm
          obtain ⟨hr1, hr2⟩ := hsp rfl
          have one : ∀ y ∈ elems ++ rest, ∀ i, (w.cells? base (a.add (i * P.cellsOf e)) (P.cellsOf e)).bind (DataW.trod enc P w base (fun _ => true) held n e) = some y → (w.cells? base (a.add (i * P.cellsOf e)) (P.cellsOf e)).bind (DataW.trod enc P w base sp held n e) = some y := by
            intro y hy i hv
            simp only [Option.bind_eq_some_iff] at hv ⊢
            obtain ⟨cs', h1, h2⟩ := hv
            exact ⟨cs', h1, ih _ _ _ hc.1 h2 fun p hp => hs p (by simp only [List.mem_append, List.mem_flatMap]; exact .inr ⟨y, by simpa using hy, hp⟩)⟩
          have e1 : (List.range len).mapM (fun i => (w.cells? base (a.add (i * P.cellsOf e)) (P.cellsOf e)).bind (DataW.trod enc P w base sp held n e)) = some elems := by
            refine mapM_of_get (by simp [hlen]) fun i j hj => ?_
            have : i < len ∧ j = i := by
              rw [List.getElem?_eq_some_iff] at hj
              obtain ⟨g1, g2⟩ := hj
              simp at g1 g2
              exact ⟨g1, g2.symm⟩
            obtain ⟨hi, rfl⟩ := this
            have hv := hel j hi
            rw [List.getElem?_eq_getElem (by omega)] at hv ⊢
            exact one _ (by simp) j hv
          have e2 : (List.range (cap - len)).mapM (fun j => (w.cells? base (a.add ((len + j) * P.cellsOf e)) (P.cellsOf e)).bind (DataW.trod enc P w base sp held n e)) = some rest := by
            refine mapM_of_get (by simp [hr1]) fun i j hj => ?_
            have : i < cap - len ∧ j = i := by
              rw [List.getElem?_eq_some_iff] at hj
              obtain ⟨g1, g2⟩ := hj
              simp at g1 g2
              exact ⟨by omega, g2.symm⟩
            obtain ⟨hi, rfl⟩ := this
            have hv := hr2 j hi
            rw [List.getElem?_eq_getElem (by omega)] at hv ⊢
            exact one _ (by simp) (len + j) hv
          have hsa : rest ≠ [] → sp a.block = true := fun hne => by
            have : 0 < rest.length := List.length_pos_iff.2 hne
            refine hs (.cell a.block (a.off + 0)) ?_
            simp only [List.mem_append]
            exact .inl (MemPlace.mem_row.2 ⟨0, Nat.mul_pos (by omega) hc.2, rfl⟩)
          unfold DataW.trod
          rw [hu]
          simp only [hb, hl, hcap, and_self, if_true, e1, Option.bind_some]
          cases hsb : sp a.block with
          | true => simp only [if_true, e2, Option.map_some]
          | false =>
            have : rest = [] := Classical.byContradiction fun hne => by rw [hsa hne] at hsb; cases hsb
            subst this
            simp
      | struct fs =>
        simp only [List.all_eq_true, List.contains_iff_mem] at hc
        obtain ⟨xs, m, hm, rfl, hlen, hxl, hx⟩ := DataW.trod_struct hu h
        cases hm
        have e1 : fs.toList.mapM (fun f => DataW.trod enc P w base sp held n f.type ((cs.drop f.offset).take (P.cellsOf f.type))) = some xs := by
          refine mapM_of_get (by simp [hxl]) fun i f hf => ?_
          have hf' : fs[i]? = some f := by simpa using hf
          have hv := hx i f hf'
          have hi : i < xs.length := by
            rw [hxl]
            exact (Array.getElem?_eq_some_iff.1 hf').1
          rw [List.getElem?_eq_getElem hi] at hv ⊢
          exact ih _ _ _ (hc f (List.mem_of_getElem? hf)) hv fun p hp => hs p (by simp only [List.mem_flatMap]; exact ⟨xs[i], List.getElem_mem hi, hp⟩)
        unfold DataW.trod
        rw [hu]
        simp only [hlen, if_true, e1, Option.map_some]
      | _ => simp at hc
/-- An argument, read again behind a call that left all that was there as it was. -/
theorem trod_again {w' : World} {L : List TypeId} (hL : closedB P L = true) {t : TypeId} (ht : t ∈ L) {v : Value} {d : DataW H} {ps : List MemPlace} (h : DataW.Trod enc P w 0 (fun _ => true) held t v d ps) (hk : Below w.heap.size w w') (hs : ∀ p ∈ ps, sp p.block = true) : DataW.Trod enc P w' 0 sp held t v d ps := by
  obtain ⟨n, hn⟩ := h
  refine ⟨n, ?_⟩
  refine trod_spare hL n t _ _ ht (DataW.trod_carry n t _ _ hn fun p hp => ?_) hs
  have hlt := DataW.trod_lt n t _ _ hn p hp
  have hb := hk.block p.block hlt
  cases p with
  | cell b off => exact cell_same hb off
  | map b => exact hb

/-- Cells, and what they hold. -/
def RC (S : Frz) (l : List AV) (cs : List Value) : Prop := l.length = cs.length ∧ ∀ (j : Nat) (c : AV) (v : Value), l[j]? = some c → cs[j]? = some v → VP S c v ∧ v.oneCell' = true
theorem rc_one {S : Frz} {c : AV} {v : Value} (h : VP S c v) (h1 : v.oneCell' = true) : RC S [c] [v] :=
  ⟨rfl, fun j c' v' hc hv => by
    match j with
    | 0 => simp at hc hv; subst hc; subst hv; exact ⟨h, h1⟩
    | j + 1 => simp at hc⟩
theorem rc_cons {S : Frz} {c : AV} {v : Value} {l : List AV} {cs : List Value} (h : RC S [c] [v]) (hl : RC S l cs) : RC S (c :: l) (v :: cs) :=
  ⟨by simp [hl.1], fun j c' v' hc hv => by
    match j with
    | 0 => exact h.2 0 c' v' hc hv
    | j + 1 => exact hl.2 j c' v' (by simpa using hc) (by simpa using hv)⟩
theorem spot_none {w : World} {a : Addr} {v : Value} (h : w.cell? a = some v) : a.spot = none := by
  cases hsp : a.spot with
  | none => rfl
  | some s =>
    simp only [World.cell?] at h
    split at h
    · simp [hsp] at h
    · cases h
theorem rc_slice {A : Type} [Inhabited A] (f : A → AV) (p : A → Prop) {sz : Nat} {t e : TypeId} {fuel : Nat} {cs : List Value} {x : DataW H × List MemPlace} (ht : P.underlying t = some (.slice e)) (hc : P.cellsOf e = sz) (h0 : 0 < sz) (hf : ∀ a, (f a).cells.length = sz)
    (h : DataW.trod enc P w base sp held fuel t cs = some x) (elem : ∀ n cs y, n < fuel → DataW.trod enc P w base sp held n e cs = some y → ∃ a, p a ∧ RC (frzOf w) (f a).cells cs) :
    ∃ l : List A, (∀ a ∈ l, p a) ∧ (l.length ≤ maxLen) ∧ RC (frzOf w) [.sl .no ⟨sz, e⟩ (l.map f)] cs := by
  rcases DataW.trod_slice ht h with ⟨rfl, rfl⟩ | ⟨a, len, cap, elems, rest, n, hn, rfl, rfl, hb, hl, hcap, hlen, hel, _, _⟩
  · exact ⟨[], by simp, by simp, rc_one (.sl0 _ _ _ _ (by simp)) rfl⟩
  · subst hc
    have hx : ∀ i, i < len → ∃ z : A × List Value, w.cells? base (a.add (i * P.cellsOf e)) (P.cellsOf e) = some z.2 ∧ p z.1 ∧ RC (frzOf w) (f z.1).cells z.2 := fun i hi => by
      have hv := hel i hi
      rw [List.getElem?_eq_getElem (by omega)] at hv
      simp only [Option.bind_eq_some_iff] at hv
      obtain ⟨cs', h1, h2⟩ := hv
      obtain ⟨z, h3, h4⟩ := elem n cs' _ (by omega) h2
      exact ⟨(z, cs'), h1, h3, h4⟩
    obtain ⟨F, hF⟩ := Deep.choose_lt (α := A × List Value) hx
    refine ⟨(List.range len).map fun i => (F i).1, ?_, by simp; omega, rc_one ?_ rfl⟩
    · intro z hz
      obtain ⟨i, hi, rfl⟩ := List.mem_map.1 hz
      exact (hF i (by simpa using hi)).2.1
    · rcases Nat.eq_zero_or_pos len with hz | hz
      · subst hz
        exact .sl0 _ _ _ _ (by simp)
      · have hcell : ∀ i, i < len → ∀ j, j < P.cellsOf e → w.cell? ⟨a.block, a.off + (i * P.cellsOf e + j), none⟩ = (F i).2[j]? := fun i hi j hj => by
          have h1 := World.cells?_some (hF i hi).1
          have h2 := h1.2.2 j hj
          rw [Deep.add_add] at h2
          rw [← h2]
          congr 1
          unfold Addr.add
          split
          · rename_i h3
            have h4 : (F i).2.length = P.cellsOf e := h1.2.1
            have h5 : (F i).2[j]? = some ((F i).2[j]'(by omega)) := List.getElem?_eq_getElem _
            rw [h5] at h2
            have h6 := spot_none h2
            unfold Addr.add at h6
            rw [if_pos h3] at h6
            rw [h3]
            cases a
            simp_all
          · rfl
        have hsp : a.spot = none := by
          have h1 := World.cells?_some (hF 0 hz).1
          have h2 := h1.2.2 0 h0
          have h5 : (F 0).2[0]? = some ((F 0).2[0]'(by omega)) := List.getElem?_eq_getElem _
          rw [h5, Deep.add_add] at h2
          simpa [Addr.add] using spot_none h2
        have ha : a = ⟨a.block, a.off, none⟩ := by cases a; simp_all
        have hlen' : ((List.range len).map fun i => (F i).1).map f = (List.range len).map fun i => f (F i).1 := by simp [Function.comp_def]
        rw [hlen']
        have key : ∀ (i j : Nat) (z c : AV), ((List.range len).map fun i => f (F i).1)[i]? = some z → z.cells[j]? = some c → i < len ∧ z = f (F i).1 ∧ ∃ v, (F i).2[j]? = some v ∧ VP (frzOf w) c v ∧ v.oneCell' = true ∧ j < P.cellsOf e := by
          intro i j z c hz hj
          rw [List.getElem?_map, Option.map_eq_some_iff] at hz
          obtain ⟨i', hi', rfl⟩ := hz
          obtain ⟨g1, g2⟩ := List.getElem?_eq_some_iff.1 hi'
          simp at g1 g2
          subst g2
          have hr := (hF i g1).2.2
          have hjl := (List.getElem?_eq_some_iff.1 hj).1
          have hv : (F i).2[j]? = some ((F i).2[j]'(by rw [← hr.1]; exact hjl)) := List.getElem?_eq_getElem _
          obtain ⟨k1, k2⟩ := hr.2 j c _ hj hv
          exact ⟨g1, rfl, _, hv, k1, k2, by rw [← hf (F i).1]; exact hjl⟩
        have hslc := VP.slc (S := frzOf w) .no ⟨P.cellsOf e, e⟩ ((List.range len).map fun i => f (F i).1) a.block a.off cap (fun i j => ((F i).2[j]?).getD .nilFunc) (by simp) (by simp; exact hl)
          (fun z hz => by
            obtain ⟨i, _, rfl⟩ := List.mem_map.1 hz
            exact hf _)
          (fun i j z c hz hj => by
            obtain ⟨g1, rfl, v, g3, g4, g5, g6⟩ := key i j z c hz hj
            simp only [g3, Option.getD_some]
            unfold frzOf
            have := hcell i g1 j g6
            rw [g3] at this
            simp only [Nat.add_assoc]
            rw [this]
            simp [Option.filter, g5])
          (fun i j z c hz hj => by
            obtain ⟨g1, rfl, v, g3, g4, g5, g6⟩ := key i j z c hz hj
            simp only [g3, Option.getD_some]
            exact g4)
        rw [List.length_map, List.length_range, ← ha] at hslc
        exact hslc
theorem rc_int {t : TypeId} {k : IntKind} {fuel : Nat} {cs : List Value} {x : DataW H × List MemPlace} (ht : P.underlying t = some (.int k)) (h : DataW.trod enc P w base sp held fuel t cs = some x) : ∃ n, (Lit.int k n).wf = true ∧ ∀ S : Frz, RC S [.int k n] cs := by
  obtain ⟨n, rfl, _, hw⟩ := DataW.trod_int ht h
  exact ⟨n, hw, fun S => rc_one (.int k n) rfl⟩
theorem rc_bool {t : TypeId} {fuel : Nat} {cs : List Value} {x : DataW H × List MemPlace} (ht : P.underlying t = some .bool) (h : DataW.trod enc P w base sp held fuel t cs = some x) : ∃ b, ∀ S : Frz, RC S [.bool b] cs := by
  obtain ⟨n, rfl, _⟩ := DataW.trod_bool ht h
  exact ⟨n, fun S => rc_one (.bool n) rfl⟩
theorem rc_str {t : TypeId} {fuel : Nat} {cs : List Value} {x : DataW H × List MemPlace} (ht : P.underlying t = some .string) (h : DataW.trod enc P w base sp held fuel t cs = some x) : ∃ s : List UInt8, s.length ≤ maxLen ∧ ∀ S : Frz, RC S [.str s] cs := by
  obtain ⟨n, rfl, _, hl⟩ := DataW.trod_string ht h
  refine ⟨n.data.toList, by simpa using hl, fun S => rc_one ?_ rfl⟩
  have := VP.str (S := S) n.data.toList
  simpa using this
/-- A struct's fields, one cell each. -/
theorem trod_fields {t : TypeId} {fs : Array Field} {fuel : Nat} {cs : List Value} {x : DataW H × List MemPlace} (ht : P.underlying t = some (.struct fs)) (h : DataW.trod enc P w base sp held fuel t cs = some x) :
    cs.length = P.cellsOf t ∧ ∃ n, n < fuel ∧ ∀ (i : Nat) (f : Field), fs[i]? = some f → ∃ y, DataW.trod enc P w base sp held n f.type ((cs.drop f.offset).take (P.cellsOf f.type)) = some y := by
  obtain ⟨xs, m, rfl, rfl, hlen, hxl, hx⟩ := DataW.trod_struct ht h
  refine ⟨hlen, m, by omega, fun i f hf => ?_⟩
  have hi : i < xs.length := by
    rw [hxl]
    exact (Array.getElem?_eq_some_iff.1 hf).1
  have hv := hx i f hf
  rw [List.getElem?_eq_getElem hi] at hv
  exact ⟨_, hv⟩
end
end Go.Pv
/- Plain laws: printed quotes are read back; printed tokens are scanned back; the reference's text of a token. -/
namespace Go.Pv
open Go
set_option maxRecDepth 4000
/-! ### Quotes, printed -/
def hx (n : Nat) : UInt8 := if n < 10 then UInt8.ofNat (48 + n) else UInt8.ofNat (87 + n)
def pByte (c : UInt8) : Bytes := if c = 10 then [92, 110] else if c = 13 then [92, 114] else if c = 9 then [92, 116] else if c = 34 ∨ c = 92 ∨ c = 36 then [92, c] else if c.toNat < 32 ∨ c.toNat > 126 then [92, 120, hx (c.toNat / 16), hx (c.toNat % 16)] else [c]
def pText (s : Bytes) : Bytes := s.flatMap pByte
def pPart (p : Part) : Bytes := (if p.1 = [] then [] else 36 :: 123 :: (p.1 ++ [125])) ++ pText p.2
def pMay : Bool → List Part → Bool
  | _, [] => true
  | t, p :: l => if p.1 = [] then (if p.2 = [] ∨ t = true then false else pMay true l) else if p.2 ≠ [] ∨ nameP p.1 = false then false else pMay false l
def pPrint (l : List Part) : Bytes := 34 :: (l.flatMap pPart ++ [34])
theorem hexd_hx : ∀ n : Fin 16, hexd (hx n.val) = some n.val := by decide
theorem qRun_esc (r : Bytes) (out : List Part) (text : Bytes) (i : Nat) (b : UInt8) (k : Nat) (h : escR r = .ok (b, k)) : qRun (92 :: r) out text i = qRun (r.drop k) out (text ++ [b]) (i + 1 + k) := by
  rw [qRun_cons, if_neg (by decide), if_neg (by decide), if_pos rfl, h]
theorem qRun_byte (c : UInt8) (r : Bytes) (out : List Part) (text : Bytes) (i : Nat) : qRun (pByte c ++ r) out text i = qRun r out (text ++ [c]) (i + (pByte c).length) := by
  unfold pByte
  split
  · rename_i h; subst h
    exact qRun_esc (110 :: r) out text i 10 1 (by simp [escR])
  · split
    · rename_i h; subst h
      exact qRun_esc (114 :: r) out text i 13 1 (by simp [escR])
    · split
      · rename_i h; subst h
        exact qRun_esc (116 :: r) out text i 9 1 (by simp [escR])
      · split
        · rename_i h
          refine qRun_esc (c :: r) out text i c 1 ?_
          rcases h with h | h | h <;> subst h <;> simp [escR]
        · rename_i h10 h13 h9 h3
          split
          · rename_i hr
            have hc := c.toNat_lt
            have e : escR (120 :: hx (c.toNat / 16) :: hx (c.toNat % 16) :: r) = .ok (c, 3) := by
              have h1 := hexd_hx ⟨c.toNat / 16, by omega⟩
              have h2 := hexd_hx ⟨c.toNat % 16, by omega⟩
              simp only at h1 h2
              simp only [escR, h1, h2]
              have h5 : UInt8.ofNat (c.toNat / 16 * 16 + c.toNat % 16) = c := by
                have : c.toNat / 16 * 16 + c.toNat % 16 = c.toNat := by omega
                rw [this]; simp
              rw [h5]
              simp
            exact qRun_esc _ out text i c 3 e
          · rename_i hr
            simp only [not_or] at h3
            show qRun (c :: r) out text i = _
            rw [qRun_cons, if_neg h3.1, if_neg h3.2.2, if_neg h3.2.1, if_pos (by omega)]
            rfl
theorem qRun_text (s : Bytes) (r : Bytes) (out : List Part) (text : Bytes) (i : Nat) : qRun (pText s ++ r) out text i = qRun r out (text ++ s) (i + (pText s).length) := by
  induction s generalizing text i with
  | nil => simp [pText]
  | cons c s ih =>
    have e : pText (c :: s) = pByte c ++ pText s := by simp [pText]
    rw [e, List.append_assoc, qRun_byte, ih]
    simp [Nat.add_assoc]
theorem nameP_cons {c : UInt8} {w : Bytes} (h : nameP (c :: w) = true) : (letter c = true ∧ w.all within = true ∧ w.length ≤ 7) ∨ (w = [] ∧ digit c = true ∧ letter c = false) := by
  unfold nameP at h
  split at h
  · cases ‹c :: w = []›
  · rename_i x hx
    cases hx
    cases hl : letter c
    · simp [hl] at h; exact .inr ⟨rfl, h, rfl⟩
    · exact .inl ⟨rfl, rfl, by simp⟩
  · rename_i x y z hx
    cases hx
    simp at h
    exact .inl ⟨h.1.1, by simpa using h.1.2.2, by omega⟩
theorem within125 : within 125 = false := by decide
theorem nameR_name {c : UInt8} {w : Bytes} (h : nameP (c :: w) = true) (r : Bytes) : nameR c (w ++ 125 :: r) = c :: w := by
  unfold nameR
  rcases nameP_cons h with ⟨h1, h2, h3⟩ | ⟨h1, h2, h3⟩
  · rw [if_pos h1]
    congr 1
    have e : (w ++ 125 :: r).take 7 = w ++ (125 :: r).take (7 - w.length) := by
      rw [List.take_append, List.take_of_length_le (by omega)]
    rw [e, List.takeWhile_append_of_pos (by simpa using h2)]
    cases h7 : 7 - w.length with
    | zero => simp
    | succ n => simp [List.takeWhile_cons, within125]
  · subst h1
    rw [if_neg (by simp [h3])]
theorem varR_name {nm : Bytes} (h : nameP nm = true) (r : Bytes) : varR (123 :: (nm ++ 125 :: r)) = .ok (nm, nm.length + 2) := by
  cases nm with
  | nil => simp [nameP] at h
  | cons c w =>
    have hn := nameR_name h r
    have hld : (letter c || digit c) = true := by
      rcases nameP_cons h with ⟨h1, _⟩ | ⟨_, h1, _⟩ <;> simp [h1]
    simp only [varR, List.cons_append, if_true, hn, hld]
    simp
theorem qRun_parts_back (l : List Part) (rest : Bytes) : ∀ (out : List Part) (text : Bytes) (i : Nat) (t : Bool), pMay t l = true → (t = false → text = []) → qRun (l.flatMap pPart ++ 34 :: rest) out text i = (flushT out text ++ l, i + (l.flatMap pPart).length + 1, true) := by
  induction l with
  | nil =>
    intro out text i t _ _
    simp only [List.flatMap_nil, List.nil_append, List.length_nil, Nat.add_zero, List.append_nil]
    rw [qRun_cons, if_pos rfl]
  | cons p l ih =>
    intro out text i t hm ht
    rw [List.flatMap_cons, List.append_assoc]
    obtain ⟨nm, tx⟩ := p
    unfold pMay at hm
    simp only at hm
    split at hm
    · rename_i hnm
      subst hnm
      split at hm
      · cases hm
      · rename_i hx
        simp only [not_or, Bool.not_eq_true] at hx
        have ht := ht hx.2
        subst ht
        have e : pPart ([], tx) = pText tx := by simp [pPart]
        rw [e, qRun_text, List.nil_append, ih out tx _ true hm (by simp)]
        simp only [flushT, if_neg hx.1, if_true, List.append_assoc, List.singleton_append, List.length_append, Nat.add_assoc]
    · rename_i hnm
      split at hm
      · cases hm
      · rename_i hx
        simp only [ne_eq, not_or, Decidable.not_not, Bool.not_eq_false] at hx
        obtain ⟨rfl, hn⟩ := hx
        have e : pPart (nm, []) = 36 :: 123 :: (nm ++ [125]) := by simp [pPart, hnm, pText]
        rw [e]
        have e2 : (36 :: 123 :: (nm ++ [125])) ++ (l.flatMap pPart ++ 34 :: rest) = 36 :: (123 :: (nm ++ 125 :: (l.flatMap pPart ++ 34 :: rest))) := by simp
        rw [e2, qRun_cons, if_neg (by decide), if_pos rfl, varR_name hn]
        have e3 : (123 :: (nm ++ 125 :: (l.flatMap pPart ++ 34 :: rest))).drop (nm.length + 2) = l.flatMap pPart ++ 34 :: rest := by
          rw [show nm.length + 2 = (nm.length + 1) + 1 from rfl, List.drop_succ_cons, List.drop_append]
          simp
        simp only [e3]
        rw [ih _ [] _ false hm (by simp)]
        simp only [flushT, if_true, List.append_assoc, List.singleton_append, List.length_append, List.length_cons, List.length_nil]
        simp only [Prod.mk.injEq, and_true, true_and]
        omega
theorem qParse_print {l : List Part} (h : pMay false l = true) (rest : Bytes) : qParse (pPrint l ++ rest) = (l, (pPrint l).length, true) := by
  unfold pPrint
  rw [List.cons_append, List.append_assoc]
  simp only [qParse, if_true, List.singleton_append]
  rw [qRun_parts_back l rest [] [] 1 false h (by simp)]
  simp [flushT]; omega
/-! ### Numbers, printed -/
theorem decN_append (a b : Bytes) : decN (a ++ b) = b.foldl (fun a c => a * 10 + (c.toNat - 48)) (decN a) := by simp [decN]
theorem dec_spec (n : Nat) : decN (Lib.decDigits n) = n ∧ (Lib.decDigits n).all digit = true ∧ Lib.decDigits n ≠ [] ∧ (0 < n → (Lib.decDigits n).head? ≠ some 48) := by
  induction n using Nat.strongRecOn with
  | _ n ih =>
    have hd : ∀ k : Fin 10, digit (UInt8.ofNat (48 + k.val)) = true ∧ (UInt8.ofNat (48 + k.val)).toNat = 48 + k.val := by decide
    by_cases h : n < 10
    · rw [Lib.decDigits, dif_pos h]
      have := hd ⟨n, h⟩
      simp only at this
      obtain ⟨g1, g2⟩ := this
      generalize UInt8.ofNat (48 + n) = c at g1 g2 ⊢
      refine ⟨by simp [decN, g2], by simp [g1], by simp, fun h0 => ?_⟩
      simp only [List.head?_cons, ne_eq, Option.some.injEq]
      intro e
      rw [e] at g2
      have : (48 : UInt8).toNat = 48 := rfl
      omega
    · rw [Lib.decDigits, dif_neg h]
      obtain ⟨h1, h2, h3, h4⟩ := ih (n / 10) (by omega)
      have := hd ⟨n % 10, by omega⟩
      simp only at this
      obtain ⟨g1, g2⟩ := this
      generalize UInt8.ofNat (48 + n % 10) = c at g1 g2 ⊢
      refine ⟨?_, by rw [List.all_append, h2]; simp [g1], by simp, fun _ => ?_⟩
      · rw [decN_snoc, h1, g2]; omega
      · have h4 := h4 (by omega)
        cases hx : Lib.decDigits (n / 10) with
        | nil => exact absurd hx h3
        | cons a b => rw [hx] at h4; simpa using h4
theorem numP_dec (n : Nat) (hn : n < 9223372036854775808) : numP (Lib.decDigits n) = .ok n := by
  obtain ⟨h1, h2, h3, h4⟩ := dec_spec n
  unfold numP
  rw [if_neg h3]
  have h5 : ¬ ((Lib.decDigits n).head? = some 48 ∧ (Lib.decDigits n).length > 1) := by
    rintro ⟨a, b⟩
    by_cases h0 : 0 < n
    · exact h4 h0 a
    · have : n = 0 := by omega
      subst this
      rw [Lib.decDigits, dif_pos (by omega)] at b
      simp at b
  rw [if_neg h5, if_neg (by simp [h2]), h1, if_pos hn]
/-! ### Tokens, printed -/
def Stop (r : Bytes) : Prop := r = [] ∨ ∃ r', r = 32 :: r'
theorem tw_stop (p : UInt8 → Bool) (hp : p 32 = false) (w r : Bytes) (hw : w.all p = true) (hr : Stop r) : (w ++ r).takeWhile p = w := by
  rw [List.takeWhile_append_of_pos (by simpa using hw)]
  rcases hr with rfl | ⟨r', rfl⟩
  · simp
  · rw [List.takeWhile_cons_of_neg (by simp [hp])]; simp
def wordB (w : Bytes) : Bool := match w with
  | [] => false
  | c :: r => letter c && (c :: r).all within
def prQ (l : List Part) : Bytes × Nat := if pMay false l = true then (pPrint l, 0) else ([], 5)
def textP (t : ZTok) : Bytes × Nat := textZ t ⟨wordB t.word, Lib.decDigits t.n.toNat, prQ t.parts⟩
theorem bareZ_iff (t : ZTok) : bareZ t = true ↔ ((t.word = [] ∨ (t.kind ≠ 2 ∧ t.kind ≠ 3)) ∧ (t.n = 0 ∨ t.kind = 2)) ∧ (t.parts = [] ∨ t.kind = 3) := by
  unfold bareZ
  simp only [Bool.and_eq_true, Bool.or_eq_true, beq_iff_eq, bne_iff_ne, ne_eq]
  have : (((t.parts.length : Nat) : Int) = 0) ↔ t.parts = [] := by
    rw [← List.length_eq_zero_iff]; omega
  rw [this]
theorem text_ok {t : ZTok} {s : Bytes} (h : textP t = (s, 0)) : bareZ t = true ∧ ((t.kind = 1 ∧ wordB t.word = true ∧ t.word.length ≤ 14 ∧ s = t.word) ∨ (t.kind = 2 ∧ 0 ≤ t.n ∧ s = Lib.decDigits t.n.toNat) ∨ (t.kind = 3 ∧ pMay false t.parts = true ∧ s = pPrint t.parts) ∨ (t.kind = 4 ∧ t.word ∈ signL ∧ s = t.word)
    ∨ (t.kind = 5 ∧ flagP t.word = true ∧ s = 45 :: t.word) ∨ (t.kind = 6 ∧ nameP t.word = true ∧ s = 36 :: t.word)) := by
  unfold textP textZ at h
  simp only at h
  split at h
  · simp at h
  · rename_i hb
    refine ⟨by simpa using hb, ?_⟩
    split at h
    · rename_i hc
      simp at h
      exact .inl ⟨hc.1, hc.2.1, hc.2.2, h.symm⟩
    · split at h
      · rename_i hc
        simp at h
        exact .inr (.inl ⟨hc.1, hc.2, h.symm⟩)
      · split at h
        · rename_i hc
          unfold prQ at h
          split at h
          · rename_i hm
            simp at h
            exact .inr (.inr (.inl ⟨hc, hm, h.symm⟩))
          · simp at h
        · split at h
          · rename_i hc
            simp at h
            exact .inr (.inr (.inr (.inl ⟨hc.1, hc.2, h.symm⟩)))
          · split at h
            · rename_i hc
              simp at h
              exact .inr (.inr (.inr (.inr (.inl ⟨hc.1, hc.2.2, h.symm⟩))))
            · split at h
              · rename_i hc
                simp at h
                exact .inr (.inr (.inr (.inr (.inr ⟨hc.1, hc.2, h.symm⟩))))
              · simp at h
theorem nameP_within {w : Bytes} (h : nameP w = true) : w.all within = true ∧ w ≠ [] := by
  cases w with
  | nil => simp [nameP] at h
  | cons c r =>
    refine ⟨?_, by simp⟩
    rcases nameP_cons h with ⟨h1, h2, _⟩ | ⟨h1, h2, _⟩
    · simp only [List.all_cons, h2, Bool.and_true]; simp [within, h1]
    · subst h1; simp [within, h2]
theorem letter_facts {c : UInt8} (h : letter c = true) : blank c = false ∧ c ≠ 35 ∧ c ≠ 34 ∧ c ≠ 36 ∧ c ≠ 45 ∧ digit c = false := by
  have h : 97 ≤ c.toNat ∧ c.toNat ≤ 122 := by simpa [letter] using h
  have ne (k : UInt8) (hk : k.toNat < 97) : c ≠ k := fun e => by rw [e] at h; omega
  refine ⟨?_, ne 35 (by decide), ne 34 (by decide), ne 36 (by decide), ne 45 (by decide), ?_⟩
  · simp [blank, ne 32 (by decide), ne 9 (by decide), ne 10 (by decide)]
  · simp [digit]; omega
theorem digit_facts {c : UInt8} (h : digit c = true) : blank c = false ∧ c ≠ 35 ∧ c ≠ 34 ∧ c ≠ 36 ∧ c ≠ 45 ∧ letter c = false := by
  have h : 48 ≤ c.toNat ∧ c.toNat ≤ 57 := by simpa [digit] using h
  have ne (k : UInt8) (hk : k.toNat < 48) : c ≠ k := fun e => by rw [e] at h; omega
  refine ⟨?_, ne 35 (by decide), ne 34 (by decide), ne 36 (by decide), ne 45 (by decide), ?_⟩
  · simp [blank, ne 32 (by decide), ne 9 (by decide), ne 10 (by decide)]
  · simp [letter]; omega
theorem sign_stop (w : Bytes) (hw : w ∈ signL) (r : Bytes) (hr : Stop r) : signL.find? (fun v => v.isPrefixOf (w ++ r)) = some w ∧ ∃ c s', w = c :: s' ∧ blank c = false ∧ c ≠ 35 ∧ letter c = false ∧ digit c = false ∧ c ≠ 34 ∧ c ≠ 36 ∧ (c = 45 → s' = []) := by
  refine ⟨?_, ?_⟩
  · simp only [signL, List.mem_cons, List.not_mem_nil, or_false] at hw
    rcases hr with rfl | ⟨r', rfl⟩
    all_goals
      rcases hw with rfl | rfl | rfl | rfl | rfl | rfl | rfl | rfl | rfl | rfl | rfl | rfl | rfl | rfl | rfl | rfl | rfl | rfl <;> simp [signL, List.find?, List.isPrefixOf]
  · revert hw
    have : ∀ w ∈ signL, (match w with | [] => false | c :: s' => !blank c && c != 35 && !letter c && !digit c && c != 34 && c != 36 && (c != 45 || s' == [])) = true := by decide
    intro hw
    have := this w hw
    cases w with
    | nil => cases this
    | cons c s' =>
      simp at this
      refine ⟨c, s', rfl, ?_⟩
      obtain ⟨⟨⟨⟨⟨⟨a, b⟩, d⟩, e⟩, f⟩, g⟩, h⟩ := this
      exact ⟨a, b, d, e, f, g, fun h45 => h.resolve_left fun x => x h45⟩
theorem flagP_word {w : Bytes} (h : flagP w = true) : w.all letter = true ∧ w ≠ [] ∧ w.length ≤ 2 := by
  simp [flagP] at h
  rcases h with ((rfl | rfl) | rfl) | rfl <;> decide
/-- The text of a token that may be is scanned as that token. -/
theorem oneR_text {t : ZTok} {s : Bytes} (h : textP t = (s, 0)) (hn : t.n < 9223372036854775808) (r : Bytes) (hr : Stop r) (a : Nat) :
    ∃ u : Tok, oneR (s ++ r) a = .ok (u, s.length) ∧ u.z = { t with at' := (a : Int) } ∧ ∃ c s', s = c :: s' ∧ blank c = false ∧ c ≠ 35 := by
  obtain ⟨hb, hc⟩ := text_ok h
  rw [bareZ_iff] at hb
  have hw32 : within 32 = false := by decide
  rcases hc with ⟨hk, hw, hl, rfl⟩ | ⟨hk, hw, rfl⟩ | ⟨hk, hm, rfl⟩ | ⟨hk, hm, rfl⟩ | ⟨hk, hm, rfl⟩ | ⟨hk, hm, rfl⟩
  · obtain ⟨kind, word, n, parts, at'⟩ := t
    simp only at *
    subst hk
    simp at hb
    obtain ⟨rfl, rfl⟩ := hb
    cases word with
    | nil => simp [wordB] at hw
    | cons c w =>
      simp only [wordB, Bool.and_eq_true] at hw
      have hf := letter_facts hw.1
      refine ⟨⟨1, c :: w, 0, [], a⟩, ?_, rfl, c, w, rfl, hf.1, hf.2.1⟩
      have ht := tw_stop within hw32 (c :: w) r hw.2 hr
      rw [List.cons_append] at ht ⊢
      simp only [oneR, hw.1, if_true, ht]
      rw [if_neg (by omega)]
  · obtain ⟨kind, word, n, parts, at'⟩ := t
    simp only at *
    subst hk
    simp at hb
    obtain ⟨rfl, rfl⟩ := hb
    obtain ⟨h1, h2, h3, h4⟩ := dec_spec n.toNat
    have hp := numP_dec n.toNat (by omega)
    generalize Lib.decDigits n.toNat = ds at *
    cases ds with
    | nil => exact absurd rfl h3
    | cons c w =>
      have hcd : digit c = true := by simp at h2; exact h2.1
      have hf := digit_facts hcd
      refine ⟨⟨2, [], n.toNat, [], a⟩, ?_, ?_, c, w, rfl, hf.1, hf.2.1⟩
      · have ht := tw_stop digit (by decide) (c :: w) r h2 hr
        rw [List.cons_append] at ht ⊢
        simp only [oneR, hf.2.2.2.2.2, Bool.false_eq_true, if_false, hcd, if_true, ht, hp]
      · simp only [Tok.z]
        rw [Int.toNat_of_nonneg hw]
        rfl
  · obtain ⟨kind, word, n, parts, at'⟩ := t
    simp only at *
    subst hk
    simp at hb
    obtain ⟨rfl, rfl⟩ := hb
    have hq := qParse_print hm r
    refine ⟨⟨3, [], 0, parts, a⟩, ?_, rfl, 34, _, rfl, by decide, by decide⟩
    unfold pPrint at hq ⊢
    rw [List.cons_append] at hq ⊢
    simp only [oneR]
    rw [if_neg (show ¬ letter 34 = true by decide), if_neg (show ¬ digit 34 = true by decide), if_pos (by trivial), hq]
  · obtain ⟨kind, word, n, parts, at'⟩ := t
    simp only at *
    subst hk
    simp at hb
    obtain ⟨rfl, rfl⟩ := hb
    obtain ⟨hfind, c, s', rfl, f1, f2, f3, f4, f5, f6, f7⟩ := sign_stop word hm r hr
    refine ⟨⟨4, c :: s', 0, [], a⟩, ?_, rfl, c, s', rfl, f1, f2⟩
    rw [List.cons_append] at hfind ⊢
    simp only [oneR, f3, f4, Bool.false_eq_true, if_false]
    rw [if_neg f5, if_neg f6, if_neg, hfind]
    rintro ⟨h45, h⟩
    rw [f7 h45] at h
    rcases hr with rfl | ⟨r', rfl⟩
    · simp at h
    · simp [show letter 32 = false by decide] at h
  · obtain ⟨kind, word, n, parts, at'⟩ := t
    simp only at *
    subst hk
    simp at hb
    obtain ⟨rfl, rfl⟩ := hb
    obtain ⟨g1, g2, g3⟩ := flagP_word hm
    refine ⟨⟨5, word, 0, [], a⟩, ?_, rfl, 45, word, rfl, by decide, by decide⟩
    have ht := tw_stop letter (by decide) word r g1 hr
    rw [List.cons_append]
    simp only [oneR, ht]
    rw [if_neg (by decide), if_neg (by decide), if_neg (by decide), if_neg (by decide), if_pos ⟨trivial, g2⟩, if_pos hm]
    rfl
  · obtain ⟨kind, word, n, parts, at'⟩ := t
    simp only at *
    subst hk
    simp at hb
    obtain ⟨rfl, rfl⟩ := hb
    refine ⟨⟨6, word, 0, [], a⟩, ?_, rfl, 36, word, rfl, by decide, by decide⟩
    have ht := tw_stop within hw32 word r (nameP_within hm).1 hr
    rw [List.cons_append]
    simp only [oneR, ht]
    rw [if_neg (by decide), if_neg (by decide), if_neg (by decide), if_pos trivial, if_pos hm]
    rfl
def ZTok.bare0 (t : ZTok) : ZTok := { t with at' := 0 }
theorem scan_head {t : ZTok} {s : Bytes} (h : textP t = (s, 0)) (hn : t.n < 9223372036854775808) (r : Bytes) (hr : Stop r) (a : Nat) (out : List Tok) :
    ∃ u : Tok, scanR (s ++ r) a out = scanR r (a + s.length) (out ++ [u]) ∧ u.z = { t with at' := (a : Int) } := by
  obtain ⟨u, h1, h2, c, s', rfl, h3, h4⟩ := oneR_text h hn r hr a
  refine ⟨u, ?_, h2⟩
  rw [List.cons_append] at h1 ⊢
  rw [scanR_cons, if_neg (by simp [h3]), if_neg h4, h1]
  simp
theorem scan_tail (ts : List ZTok) (hts : ∀ t ∈ ts, (textP t).2 = 0 ∧ t.n < 9223372036854775808) : ∀ (a : Nat) (out : List Tok), ∃ L : List Tok, scanR (Lib.joinTail [32] (ts.map fun t => (textP t).1)) a out = (out ++ L, 0, 0) ∧ L.map (fun u => u.z.bare0) = ts.map ZTok.bare0 := by
  induction ts with
  | nil => exact fun a out => ⟨[], by simp [Lib.joinTail, scanR_nil], rfl⟩
  | cons t ts ih =>
    intro a out
    have ht := hts t (by simp)
    have ih := ih fun u hu => hts u (by simp [hu])
    have hst : Stop (Lib.joinTail [32] (ts.map fun t => (textP t).1)) := by
      cases ts with
      | nil => exact .inl rfl
      | cons u us => exact .inr ⟨_, rfl⟩
    have e : Lib.joinTail [32] ((t :: ts).map fun t => (textP t).1) = 32 :: ((textP t).1 ++ Lib.joinTail [32] (ts.map fun t => (textP t).1)) := by simp [Lib.joinTail]
    obtain ⟨u, h1, h2⟩ := scan_head (t := t) (s := (textP t).1) (Prod.ext rfl ht.1) ht.2 _ hst (a + 1) out
    obtain ⟨L, h3, h4⟩ := ih (a + 1 + (textP t).1.length) (out ++ [u])
    refine ⟨u :: L, ?_, ?_⟩
    · rw [e, scanR_cons, if_pos (by decide), h1, h3]
      simp
    · simp only [List.map_cons, h4, h2]
      rfl
theorem scan_join (ts : List ZTok) (hts : ∀ t ∈ ts, (textP t).2 = 0 ∧ t.n < 9223372036854775808) : ∃ L : List Tok, scanR (Lib.join (ts.map fun t => (textP t).1) [32]) 0 [] = (L, 0, 0) ∧ L.map (fun u => u.z.bare0) = ts.map ZTok.bare0 := by
  cases ts with
  | nil => exact ⟨[], by rw [List.map_nil, Lib.join_nil, scanR_nil], rfl⟩
  | cons t ts =>
    have ht := hts t (by simp)
    have hst : Stop (Lib.joinTail [32] (ts.map fun t => (textP t).1)) := by
      cases ts with
      | nil => exact .inl rfl
      | cons u us => exact .inr ⟨_, rfl⟩
    obtain ⟨u, h1, h2⟩ := scan_head (t := t) (s := (textP t).1) (Prod.ext rfl ht.1) ht.2 _ hst 0 []
    obtain ⟨L, h3, h4⟩ := scan_tail ts (fun u hu => hts u (by simp [hu])) (0 + (textP t).1.length) ([] ++ [u])
    refine ⟨u :: L, ?_, ?_⟩
    · rw [List.map_cons, Lib.join_cons, h1, h3]
      simp
    · simp only [List.map_cons, h4, h2]
      rfl
/-! ### The reference's text of a token -/
def refS (t : ZTok) : Bytes := if t.kind = 6 then 36 :: t.word else if t.kind = 5 then 45 :: t.word else if t.kind = 3 ∧ pMay false t.parts = true then pPrint t.parts else if t.kind = 2 ∧ 0 ≤ t.n then Lib.decDigits t.n.toNat else if t.kind = 1 ∨ t.kind = 4 then t.word else []
theorem scanR_places (l : Bytes) : ∀ (a : Nat) (out L : List Tok) (q : Nat), scanR l a out = (L, q, 0) → ∃ N, L = out ++ N ∧ ∀ u ∈ N, a ≤ u.at' := by
  induction h : l.length using Nat.strongRecOn generalizing l with
  | _ n ih =>
    subst h
    intro a out L q hs
    cases l with
    | nil => rw [scanR_nil] at hs; cases hs; exact ⟨[], by simp, by simp⟩
    | cons c r =>
      rw [scanR_cons] at hs
      split at hs
      · obtain ⟨N, h1, h2⟩ := ih r.length (by simp) r rfl _ _ _ _ hs
        exact ⟨N, h1, fun u hu => by have := h2 u hu; omega⟩
      · split at hs
        · have hl := dropWhile_len notNl r
          obtain ⟨N, h1, h2⟩ := ih (r.dropWhile notNl).length (by simp; omega) _ rfl _ _ _ _ hs
          exact ⟨N, h1, fun u hu => by have := h2 u hu; omega⟩
        · split at hs
          · rename_i t k hk
            have hk2 := oneR_ok hk
            obtain ⟨N, h1, h2⟩ := ih (r.drop (k - 1)).length (by simp; omega) _ rfl _ _ _ _ hs
            refine ⟨t :: N, by simp [h1], fun u hu => ?_⟩
            rcases List.mem_cons.1 hu with rfl | hu
            · have : u.at' = a := by
                unfold oneR at hk
                simp only at hk
                repeat' split at hk
                all_goals first
                  | (cases hk; done)
                  | (simp only [Except.ok.injEq, Prod.mk.injEq] at hk; obtain ⟨rfl, rfl⟩ := hk; rfl)
              omega
            · have := h2 u hu; omega
          · rename_i b e hk
            have := oneR_err hk
            simp only [Prod.mk.injEq] at hs
            omega
theorem oneR_inv {l : Bytes} {a : Nat} {u : Tok} {k : Nat} (h : oneR l a = .ok (u, k)) : (u.kind = 1 ∧ u.word = l.takeWhile within ∧ (∃ c r, l = c :: r ∧ letter c = true) ∧ u.word.length ≤ 14 ∧ u.n = 0 ∧ u.parts = []) ∨ (u.kind = 2 ∧ u.word = [] ∧ u.parts = []) ∨ (u.kind = 3 ∧ u.word = [] ∧ u.n = 0) ∨ (u.kind = 4 ∧ u.word ∈ signL ∧ u.n = 0 ∧ u.parts = []) ∨ (u.kind = 5 ∧ flagP u.word = true ∧ u.n = 0 ∧ u.parts = []) ∨ (u.kind = 6 ∧ nameP u.word = true ∧ u.n = 0 ∧ u.parts = []) := by
  unfold oneR at h
  split at h
  · cases h
  · rename_i c r
    simp only at h
    split at h
    · rename_i hc
      split at h
      · cases h
      · rename_i hl
        simp only [Except.ok.injEq, Prod.mk.injEq] at h
        obtain ⟨rfl, _⟩ := h
        exact .inl ⟨rfl, rfl, ⟨c, r, rfl, hc⟩, by simp only; omega, rfl, rfl⟩
    · split at h
      · split at h
        · simp only [Except.ok.injEq, Prod.mk.injEq] at h
          obtain ⟨rfl, _⟩ := h
          exact .inr (.inl ⟨rfl, rfl, rfl⟩)
        · cases h
      · split at h
        · split at h
          · simp only [Except.ok.injEq, Prod.mk.injEq] at h
            obtain ⟨rfl, _⟩ := h
            exact .inr (.inr (.inl ⟨rfl, rfl, rfl⟩))
          · cases h
        · split at h
          · split at h
            · rename_i hn
              simp only [Except.ok.injEq, Prod.mk.injEq] at h
              obtain ⟨rfl, _⟩ := h
              exact .inr (.inr (.inr (.inr (.inr ⟨rfl, hn, rfl, rfl⟩))))
            · cases h
          · split at h
            · split at h
              · rename_i hf
                simp only [Except.ok.injEq, Prod.mk.injEq] at h
                obtain ⟨rfl, _⟩ := h
                exact .inr (.inr (.inr (.inr (.inl ⟨rfl, hf, rfl, rfl⟩))))
              · cases h
            · split at h
              · rename_i w hw
                simp only [Except.ok.injEq, Prod.mk.injEq] at h
                obtain ⟨rfl, _⟩ := h
                exact .inr (.inr (.inr (.inl ⟨rfl, List.mem_of_find?_eq_some hw, rfl, rfl⟩)))
              · cases h
def refT (t : ZTok) (r : List Tok × Nat × Nat) : Bytes × Nat := if r.2.2 ≠ 0 ∨ r.1.length ≠ 1 ∨ (r.1.getD 0 default).z ≠ t.bare0 then ([], 5) else (refS t, 0)
theorem textP_err (t : ZTok) : (textP t).2 = 0 ∨ textP t = ([], 5) := by
  unfold textP textZ prQ
  simp only
  repeat' split
  all_goals simp
theorem refT_eq (t : ZTok) (hn : t.n < 9223372036854775808) (hl : (refS t).length ≤ 2000) : refT t (scanT (refS t)) = textP t := by
  have hs : scanT (refS t) = scanR (refS t) 0 [] := by unfold scanT; rw [if_neg (by omega)]
  rw [hs]
  rcases textP_err t with h0 | h0
  · have ht : textP t = ((textP t).1, 0) := Prod.ext rfl h0
    have he : (textP t).1 = refS t := by
      obtain ⟨hb, hc⟩ := text_ok ht
      unfold refS
      rcases hc with ⟨hk, hw, hl, e⟩ | ⟨hk, hw, e⟩ | ⟨hk, hm, e⟩ | ⟨hk, hm, e⟩ | ⟨hk, hm, e⟩ | ⟨hk, hm, e⟩ <;> simp [e, hk] <;> first | (intro h; omega) | simp [*]
    obtain ⟨u, h1, h2⟩ := scan_head ht hn [] (.inl rfl) 0 []
    rw [List.append_nil, scanR_nil, he] at h1
    rw [h1, ht, he]
    unfold refT
    rw [if_neg]
    simp [h2, ZTok.bare0]
  · rw [h0]
    unfold refT
    rw [if_pos]
    apply Classical.byContradiction
    intro hcon
    simp only [not_or, ne_eq, Decidable.not_not] at hcon
    obtain ⟨c1, c2, c3⟩ := hcon
    rcases hr : scanR (refS t) 0 [] with ⟨L, q, e⟩
    rw [hr] at c1 c2 c3
    simp only at c1 c2 c3
    subst c1
    obtain ⟨u, rfl⟩ : ∃ u, L = [u] := List.length_eq_one_iff.1 c2
    simp only [List.getD_cons_zero] at c3
    have hat : u.at' = 0 := by
      have := congrArg ZTok.at' c3
      simp only [Tok.z, ZTok.bare0] at this
      omega
    cases hsr : refS t with
    | nil => rw [hsr, scanR_nil] at hr; cases hr
    | cons c r =>
      rw [hsr, scanR_cons] at hr
      split at hr
      · obtain ⟨N, e1, e2⟩ := scanR_places _ _ _ _ _ hr
        have := e2 u (by rw [List.nil_append] at e1; rw [← e1]; simp)
        omega
      · split at hr
        · obtain ⟨N, e1, e2⟩ := scanR_places _ _ _ _ _ hr
          have := e2 u (by rw [List.nil_append] at e1; rw [← e1]; simp)
          omega
        · split at hr
          · rename_i v k hk
            obtain ⟨N, e1, _⟩ := scanR_places _ _ _ _ _ hr
            have : u = v := by simpa using congrArg List.head? e1
            subst this
            have hinv := oneR_inv hk
            obtain ⟨kind, word, n, parts, at'⟩ := t
            obtain ⟨ukind, uword, un, uparts, uat⟩ := u
            simp only [Tok.z, ZTok.bare0, ZTok.mk.injEq] at c3
            obtain ⟨rfl, rfl, rfl, rfl, _⟩ := c3
            simp only at hinv
            have : textP ⟨ukind, uword, un, uparts, at'⟩ ≠ ([], 5) := by
              unfold textP textZ
              simp only
              rcases hinv with ⟨rfl, g1, ⟨c', r', g2, g3⟩, g4, rfl, rfl⟩ | ⟨rfl, rfl, rfl⟩ | ⟨rfl, rfl, rfl⟩ | ⟨rfl, g1, rfl, rfl⟩ | ⟨rfl, g1, rfl, rfl⟩ | ⟨rfl, g1, rfl, rfl⟩
              · have hb : bareZ ⟨(1 : Nat), uword, (0 : Nat), [], at'⟩ = true := by rw [bareZ_iff]; simp
                have hre : refS ⟨(1 : Nat), uword, (0 : Nat), [], at'⟩ = uword := by simp [refS]
                rw [hre] at hsr
                have hww : wordB uword = true := by
                  have ha : uword.all within = true := by
                    rw [g1]
                    exact List.all_takeWhile
                  rw [hsr] at ha ⊢
                  cases g2
                  simp only [wordB, g3, Bool.true_and]
                  exact ha
                rw [hb]
                simp [hww, g4]
              · have hb : bareZ ⟨(2 : Nat), [], (un : Int), [], at'⟩ = true := by rw [bareZ_iff]; simp
                rw [hb]
                simp
              · have hb : bareZ ⟨(3 : Nat), [], (0 : Nat), uparts, at'⟩ = true := by rw [bareZ_iff]; simp
                have hm : pMay false uparts = true := by
                  cases hm : pMay false uparts with
                  | true => rfl
                  | false => simp [refS, hm] at hsr
                rw [hb]
                simp [prQ, hm]
              · have hb : bareZ ⟨(4 : Nat), uword, (0 : Nat), [], at'⟩ = true := by rw [bareZ_iff]; simp
                rw [hb]
                simp [g1]
              · have hb : bareZ ⟨(5 : Nat), uword, (0 : Nat), [], at'⟩ = true := by rw [bareZ_iff]; simp
                obtain ⟨g5, g6, g7⟩ := flagP_word g1
                have hww : wordB uword = true := by
                  cases uword with
                  | nil => exact absurd rfl g6
                  | cons x y =>
                    simp only [wordB]
                    simp only [List.all_cons, Bool.and_eq_true] at g5 ⊢
                    refine ⟨g5.1, by simp [within, g5.1], List.all_eq_true.2 fun z hz => ?_⟩
                    simp [within, List.all_eq_true.1 g5.2 z hz]
                rw [hb]
                simp [hww, g1]
              · have hb : bareZ ⟨(6 : Nat), uword, (0 : Nat), [], at'⟩ = true := by rw [bareZ_iff]; simp
                rw [hb]
                simp [g1]
            exact this h0
          · rename_i b e hk
            have := oneR_err hk
            simp only [Prod.mk.injEq] at hr
            omega
end Go.Pv
/- Plain laws: blanks behind a text, remarks ahead of it, and where it stands, make no difference to its tokens. -/
namespace Go.Pv
open Go
set_option maxRecDepth 4000
theorem sp_tw (p : UInt8 → Bool) (hp : p 32 = false) (l : Bytes) (n : Nat) : (l ++ List.replicate n 32).takeWhile p = l.takeWhile p := by
  rw [List.takeWhile_append]
  split
  · rename_i h
    have e : l.takeWhile p = l := by
      have := dropWhile_len p l
      have h2 : l.dropWhile p = [] := List.length_eq_zero_iff.1 (by omega)
      have h3 := List.takeWhile_append_dropWhile (p := p) (l := l)
      rw [h2, List.append_nil] at h3
      exact h3
    rw [e]
    cases n with
    | zero => simp
    | succ n => simp [List.replicate_succ, hp]
  · rfl
theorem sp_take (l : Bytes) (n k : Nat) : ∃ m, (l ++ List.replicate n 32).take k = l.take k ++ List.replicate m 32 := ⟨min (k - l.length) n, by rw [List.take_append, List.take_replicate]⟩
theorem escR_sp (l : Bytes) (n : Nat) : (∀ x, escR l = .ok x → escR (l ++ List.replicate n 32) = .ok x) ∧ (∀ k, escR l = .error k → ∃ k', escR (l ++ List.replicate n 32) = .error k') := by
  cases l with
  | nil =>
    refine ⟨fun x h => (by cases h), fun k _ => ?_⟩
    cases n with
    | zero => exact ⟨_, rfl⟩
    | succ n => exact ⟨0, by simp [List.replicate_succ, escR]⟩
  | cons c r =>
    rw [List.cons_append]
    by_cases hc : c = 120
    · subst hc
      cases r with
      | nil =>
        refine ⟨fun x h => (by simp [escR] at h), fun k _ => ?_⟩
        cases n with
        | zero => exact ⟨1, by simp [escR]⟩
        | succ n => exact ⟨1, by simp [List.replicate_succ, escR, show hexd 32 = none by decide]⟩
      | cons a r =>
        rw [List.cons_append]
        cases ha : hexd a with
        | none => exact ⟨fun x h => (by simp [escR, ha] at h), fun k _ => ⟨1, by simp [escR, ha]⟩⟩
        | some x =>
          cases r with
          | nil =>
            refine ⟨fun x h => (by simp [escR, ha] at h), fun k _ => ?_⟩
            cases n with
            | zero => exact ⟨2, by simp [escR, ha]⟩
            | succ n => exact ⟨2, by simp [List.replicate_succ, escR, ha, show hexd 32 = none by decide]⟩
          | cons b r =>
            cases hb : hexd b with
            | none => exact ⟨fun x h => (by simp [escR, ha, hb] at h), fun k _ => ⟨2, by simp [escR, ha, hb]⟩⟩
            | some y => exact ⟨fun x h => by simpa [escR, ha, hb] using h, fun k h => (by simp [escR, ha, hb] at h)⟩
    · have e (l' : Bytes) : escR (c :: l') = escR [c] := by simp [escR, hc]
      rw [e r, e (r ++ _)]
      exact ⟨fun x h => h, fun k h => ⟨k, h⟩⟩
theorem nameR_sp (c : UInt8) (r : Bytes) (n : Nat) : nameR c (r ++ List.replicate n 32) = nameR c r := by
  unfold nameR
  split
  · obtain ⟨m, hm⟩ := sp_take r n 7
    rw [hm, sp_tw within (by decide)]
  · rfl
theorem varR_sp (l : Bytes) (n : Nat) : (∀ x, varR l = .ok x → varR (l ++ List.replicate n 32) = .ok x) ∧ (∀ k, varR l = .error k → ∃ k', varR (l ++ List.replicate n 32) = .error k') := by
  cases l with
  | nil =>
    refine ⟨fun x h => (by cases h), fun k _ => ?_⟩
    cases n with
    | zero => exact ⟨_, rfl⟩
    | succ n => exact ⟨0, by simp [List.replicate_succ, varR]⟩
  | cons b r =>
    rw [List.cons_append]
    by_cases hb : b = 123
    · subst hb
      cases r with
      | nil =>
        refine ⟨fun x h => (by simp [varR] at h), fun k _ => ?_⟩
        cases n with
        | zero => exact ⟨1, by simp [varR]⟩
        | succ n => exact ⟨1, by simp [List.replicate_succ, varR, show letter 32 = false by decide, show digit 32 = false by decide]⟩
      | cons c r =>
        rw [List.cons_append]
        simp only [varR, if_true, nameR_sp]
        cases hld : (letter c || digit c) with
        | false => exact ⟨fun x h => (by simp at h), fun k _ => ⟨1, by simp⟩⟩
        | true =>
          simp only [if_true]
          have hd : (r ++ List.replicate n 32).drop ((nameR c r).length - 1) = r.drop ((nameR c r).length - 1) ++ List.replicate n 32 := by
            have := nameR_len c r
            rw [List.drop_append, show (nameR c r).length - 1 - r.length = 0 by omega, List.drop_zero]
          rw [hd]
          cases hr : r.drop ((nameR c r).length - 1) with
          | nil =>
            refine ⟨fun x h => (by simp at h), fun k _ => ⟨(nameR c r).length + 1, ?_⟩⟩
            cases n with
            | zero => simp
            | succ n => simp [List.replicate_succ]
          | cons y z => exact ⟨fun x h => by simpa using h, fun k h => ⟨k, by simpa using h⟩⟩
    · have e (l' : Bytes) : varR (b :: l') = .error 0 := by simp [varR, hb]
      rw [e r, e (r ++ _)]
      exact ⟨fun x h => h, fun k h => ⟨k, h⟩⟩
theorem qRun_blank (n : Nat) : ∀ (out : List Part) (text : Bytes) (i : Nat), (qRun (List.replicate n 32) out text i).2.2 = false := by
  induction n with
  | zero => intro out text i; rw [List.replicate_zero, qRun_nil]
  | succ n ih =>
    intro out text i
    rw [List.replicate_succ, qRun_cons, if_neg (by decide), if_neg (by decide), if_neg (by decide), if_pos (by decide)]
    exact ih _ _ _
theorem qRun_sp (n : Nat) (l : Bytes) : ∀ (out : List Part) (text : Bytes) (i : Nat), ((qRun l out text i).2.2 = true → qRun (l ++ List.replicate n 32) out text i = qRun l out text i) ∧ ((qRun l out text i).2.2 = false → (qRun (l ++ List.replicate n 32) out text i).2.2 = false) := by
  induction h : l.length using Nat.strongRecOn generalizing l with
  | _ m ih =>
    subst h
    intro out text i
    cases l with
    | nil =>
      rw [List.nil_append]
      exact ⟨fun h => (by rw [qRun_nil] at h; cases h), fun _ => qRun_blank n out text i⟩
    | cons c r =>
      have hdr (k : Nat) (hk : k ≤ r.length) : (r ++ List.replicate n 32).drop k = r.drop k ++ List.replicate n 32 := by
        rw [List.drop_append, show k - r.length = 0 by omega, List.drop_zero]
      rw [List.cons_append, qRun_cons c r, qRun_cons c (r ++ _)]
      split
      · exact ⟨fun _ => rfl, fun h => h⟩
      · split
        · obtain ⟨h1, h2⟩ := varR_sp r n
          cases hv : varR r with
          | ok x =>
            obtain ⟨nm, k⟩ := x
            have hk := varR_ok hv
            rw [h1 _ hv]
            simp only
            rw [hdr k hk.2]
            exact ih (r.drop k).length (by simp; omega) _ rfl _ _ _
          | error k =>
            obtain ⟨k', h3⟩ := h2 k hv
            rw [h3]
            exact ⟨fun h => (by cases h), fun h => rfl⟩
        · split
          · obtain ⟨h1, h2⟩ := escR_sp r n
            cases hv : escR r with
            | ok x =>
              obtain ⟨nm, k⟩ := x
              have hk := escR_ok hv
              rw [h1 _ hv]
              simp only
              rw [hdr k hk.2]
              exact ih (r.drop k).length (by simp; omega) _ rfl _ _ _
            | error k =>
              obtain ⟨k', h3⟩ := h2 k hv
              rw [h3]
              exact ⟨fun h => (by cases h), fun h => rfl⟩
          · split
            · exact ih r.length (by simp) r rfl _ _ _
            · exact ⟨fun h => (by cases h), fun h => rfl⟩
theorem prefix_sp (w : Bytes) (hw : ∀ x ∈ w, x ≠ 32) (l : Bytes) (n : Nat) : w.isPrefixOf (l ++ List.replicate n 32) = w.isPrefixOf l := by
  induction w generalizing l with
  | nil => simp
  | cons c w ih =>
    cases l with
    | nil =>
      rw [List.nil_append]
      cases n with
      | zero => rfl
      | succ n =>
        have : (c == 32) = false := by simpa using hw c (by simp)
        simp [List.replicate_succ, List.isPrefixOf, this]
    | cons d l =>
      rw [List.cons_append]
      simp only [List.isPrefixOf]
      rw [ih (fun x hx => hw x (by simp [hx]))]
theorem find_sp (l : Bytes) (n : Nat) : signL.find? (fun w => w.isPrefixOf (l ++ List.replicate n 32)) = signL.find? fun w => w.isPrefixOf l := by
  have h : ∀ w ∈ signL, w.isPrefixOf (l ++ List.replicate n 32) = w.isPrefixOf l := fun w hw => by
    refine prefix_sp w (fun x hx => ?_) l n
    have : ∀ w ∈ signL, ∀ x ∈ w, x ≠ 32 := by decide
    exact this w hw x hx
  generalize signL = S at h
  induction S with
  | nil => rfl
  | cons w S ih =>
    rw [List.find?_cons, List.find?_cons, h w (by simp), ih fun v hv => h v (by simp [hv])]
theorem oneR_sp (c : UInt8) (r : Bytes) (n a : Nat) : (∀ x, oneR (c :: r) a = .ok x → oneR (c :: r ++ List.replicate n 32) a = .ok x) ∧ (∀ k, oneR (c :: r) a = .error k → ∃ k', oneR (c :: r ++ List.replicate n 32) a = .error k') := by
  have t1 := sp_tw within (by decide) (c :: r) n
  have t2 := sp_tw digit (by decide) (c :: r) n
  have t3 := sp_tw within (by decide) r n
  have t4 := sp_tw letter (by decide) r n
  have t5 := find_sp (c :: r) n
  have hq := qRun_sp n r [] [] 1
  rw [List.cons_append] at t1 t2 t5 ⊢
  simp only [oneR, t1, t2, t3, t4, t5]
  by_cases hl : letter c = true
  · rw [if_pos hl, if_pos hl]
    exact ⟨fun x h => h, fun k h => ⟨k, h⟩⟩
  · rw [if_neg hl, if_neg hl]
    by_cases hd : digit c = true
    · rw [if_pos hd, if_pos hd]
      exact ⟨fun x h => h, fun k h => ⟨k, h⟩⟩
    · rw [if_neg hd, if_neg hd]
      by_cases h34 : c = 34
      · rw [if_pos h34, if_pos h34]
        simp only [qParse, if_pos h34]
        obtain ⟨h1, h2⟩ := hq
        rcases hr : qRun r [] [] 1 with ⟨p, k, b⟩
        rw [hr] at h1 h2
        cases b with
        | true =>
          rw [h1 rfl]
          exact ⟨fun x h => h, fun k h => ⟨k, h⟩⟩
        | false =>
          have h2 := h2 rfl
          rcases hr2 : qRun (r ++ List.replicate n 32) [] [] 1 with ⟨p2, k2, b2⟩
          rw [hr2] at h2
          simp only at h2
          subst h2
          exact ⟨fun x h => (by cases h), fun k h => ⟨_, rfl⟩⟩
      · rw [if_neg h34, if_neg h34]
        exact ⟨fun x h => h, fun k h => ⟨k, h⟩⟩
theorem scanR_blank (n : Nat) : ∀ (a : Nat) (out : List Tok), scanR (List.replicate n 32) a out = (out, 0, 0) := by
  induction n with
  | zero => intro a out; rw [List.replicate_zero, scanR_nil]
  | succ n ih => intro a out; rw [List.replicate_succ, scanR_cons, if_pos (by decide), ih]
theorem drop_blank (n : Nat) : (List.replicate n (32 : UInt8)).dropWhile notNl = [] := by
  induction n with
  | zero => rfl
  | succ n ihn => rw [List.replicate_succ, List.dropWhile_cons_of_pos (by decide)]; exact ihn
theorem scanR_sp (n : Nat) (l : Bytes) : ∀ (a : Nat) (out : List Tok), ((scanR l a out).2.2 = 0 → scanR (l ++ List.replicate n 32) a out = scanR l a out) ∧ ((scanR l a out).2.2 ≠ 0 → (scanR (l ++ List.replicate n 32) a out).2.2 ≠ 0) := by
  induction h : l.length using Nat.strongRecOn generalizing l with
  | _ m ih =>
    subst h
    intro a out
    cases l with
    | nil =>
      rw [List.nil_append, scanR_nil, scanR_blank]
      exact ⟨fun _ => rfl, fun h => h⟩
    | cons c r =>
      obtain ⟨o1, o2⟩ := oneR_sp c r n a
      rw [List.cons_append] at o1 o2 ⊢
      rw [scanR_cons c r, scanR_cons c (r ++ _)]
      split
      · exact ih r.length (by simp) r rfl _ _
      · split
        · rw [List.dropWhile_append, List.takeWhile_append]
          have hl := dropWhile_len notNl r
          cases hd : r.dropWhile notNl with
          | nil =>
            have hx : (List.replicate n (32 : UInt8)).dropWhile notNl = [] := by
              exact drop_blank n
            simp only [List.isEmpty_nil, if_true, hx, scanR_nil]
            exact ⟨fun _ => trivial, fun h => h⟩
          | cons y z =>
            have : ¬ (r.takeWhile notNl).length = r.length := by
              rw [hd] at hl; simp only [List.length_cons] at hl; omega
            rw [if_neg this]
            simp only [List.isEmpty_cons, Bool.false_eq_true, if_false]
            exact ih (y :: z).length (by rw [hd] at hl; simp only [List.length_cons] at hl ⊢; omega) (y :: z) rfl _ _
        · cases hv : oneR (c :: r) a with
          | ok x =>
            obtain ⟨t, k⟩ := x
            have hk := oneR_ok hv
            rw [o1 _ hv]
            simp only
            have : (r ++ List.replicate n 32).drop (k - 1) = r.drop (k - 1) ++ List.replicate n 32 := by
              simp only [List.length_cons] at hk
              rw [List.drop_append, show k - 1 - r.length = 0 by omega, List.drop_zero]
            rw [this]
            exact ih (r.drop (k - 1)).length (by simp only [List.length_drop, List.length_cons]; omega) _ rfl _ _
          | error k =>
            obtain ⟨k', h3⟩ := o2 _ hv
            rw [h3]
            obtain ⟨b, e⟩ := k
            obtain ⟨b', e'⟩ := k'
            have g1 := oneR_err hv
            have g2 := oneR_err h3
            simp only
            exact ⟨fun h => (by omega), fun _ => by omega⟩
def Tok.bare0 (t : Tok) : Tok := { t with at' := 0 }
theorem oneR_map (l : Bytes) (a b : Nat) : oneR l b = match oneR l a with
    | .ok x => .ok ({ x.1 with at' := b }, x.2)
    | .error e => .error e := by
  cases l with
  | nil => rfl
  | cons c r =>
    simp only [oneR]
    by_cases h1 : letter c = true
    · rw [if_pos h1, if_pos h1]
      split <;> rfl
    · rw [if_neg h1, if_neg h1]
      by_cases h2 : digit c = true
      · rw [if_pos h2, if_pos h2]
        cases numP ((c :: r).takeWhile digit) <;> rfl
      · rw [if_neg h2, if_neg h2]
        by_cases h3 : c = 34
        · rw [if_pos h3, if_pos h3]
          rcases qParse (c :: r) with ⟨p, k, t⟩
          cases t <;> rfl
        · rw [if_neg h3, if_neg h3]
          by_cases h4 : c = 36
          · rw [if_pos h4, if_pos h4]
            split <;> rfl
          · rw [if_neg h4, if_neg h4]
            by_cases h5 : c = 45 ∧ r.takeWhile letter ≠ []
            · rw [if_pos h5, if_pos h5]
              split <;> rfl
            · rw [if_neg h5, if_neg h5]
              cases signL.find? (fun w => w.isPrefixOf (c :: r)) <;> rfl
theorem oneR_shift (l : Bytes) (a b : Nat) : (∀ t k, oneR l a = .ok (t, k) → ∃ u, oneR l b = .ok (u, k) ∧ u.bare0 = t.bare0) ∧ (∀ x, oneR l a = .error x → oneR l b = .error x) := by
  have h := oneR_map l a b
  refine ⟨fun t k ht => ⟨{ t with at' := b }, ?_, rfl⟩, fun x hx => ?_⟩
  · rw [h, ht]
  · rw [h, hx]
theorem scanR_shift (l : Bytes) : ∀ (a b : Nat) (o p : List Tok), (scanR l a o).2.2 = 0 → o.map Tok.bare0 = p.map Tok.bare0 → (scanR l b p).2.2 = 0 ∧ (scanR l a o).1.map Tok.bare0 = (scanR l b p).1.map Tok.bare0 := by
  induction h : l.length using Nat.strongRecOn generalizing l with
  | _ m ih =>
    subst h
    intro a b o p hs ho
    cases l with
    | nil => rw [scanR_nil, scanR_nil]; exact ⟨rfl, ho⟩
    | cons c r =>
      rw [scanR_cons c r a o] at hs ⊢
      rw [scanR_cons c r b p]
      split
      · rename_i hb
        rw [if_pos hb] at hs
        exact ih r.length (by simp) r rfl _ _ _ _ hs ho
      · rename_i hb
        rw [if_neg hb] at hs
        split
        · rename_i h35
          rw [if_pos h35] at hs
          have hl := dropWhile_len notNl r
          exact ih (r.dropWhile notNl).length (by simp only [List.length_cons]; omega) _ rfl _ _ _ _ hs ho
        · rename_i h35
          rw [if_neg h35] at hs
          obtain ⟨o1, o2⟩ := oneR_shift (c :: r) a b
          cases hv : oneR (c :: r) a with
          | ok x =>
            obtain ⟨t, k⟩ := x
            have hk := oneR_ok hv
            obtain ⟨u, h1, h2⟩ := o1 t k hv
            rw [hv] at hs
            rw [h1]
            simp only at hs ⊢
            exact ih (r.drop (k - 1)).length (by simp only [List.length_drop, List.length_cons]; omega) _ rfl _ _ _ _ hs (by simp [ho, h2])
          | error x =>
            obtain ⟨y, e⟩ := x
            have := oneR_err hv
            rw [hv] at hs
            simp only at hs
            omega
theorem scanR_remark (s : Bytes) (h : ∀ x ∈ s, x ≠ 10) (r : Bytes) (out : List Tok) : scanR (35 :: (s ++ 10 :: r)) 0 out = scanR r (s.length + 2) out := by
  have hs : ∀ x ∈ s, notNl x = true := fun x hx => by simpa [notNl] using h x hx
  rw [scanR_cons, if_neg (by decide), if_pos rfl, List.dropWhile_append_of_pos hs, List.takeWhile_append_of_pos hs]
  rw [List.dropWhile_cons_of_neg (by decide), List.takeWhile_cons_of_neg (by decide), scanR_cons, if_pos (by decide)]
  simp only [List.append_nil]
  congr 1
  omega
/-- The whole plain law of TokenLong. -/
theorem scanT_sp (s : Bytes) (n : Nat) (h : s.length + n ≤ 2000) : ((scanT s).2.2 = 0 → scanT (s ++ List.replicate n 32) = scanT s) ∧ ((scanT s).2.2 ≠ 0 → (scanT (s ++ List.replicate n 32)).2.2 ≠ 0) := by
  unfold scanT
  rw [if_neg (by omega), if_neg (by rw [List.length_append, List.length_replicate]; omega)]
  exact scanR_sp n s 0 []
theorem scanT_remark (s : Bytes) (h : ∀ x ∈ s, x ≠ 10) (hl : s.length ≤ 900) (h0 : (scanT s).2.2 = 0) : (scanT (35 :: (s ++ 10 :: s))).2.2 = 0 ∧ (scanT s).1.map Tok.bare0 = (scanT (35 :: (s ++ 10 :: s))).1.map Tok.bare0 := by
  unfold scanT at h0 ⊢
  rw [if_neg (show ¬ s.length > 2000 by omega)] at h0 ⊢
  rw [if_neg (show ¬ (35 :: (s ++ 10 :: s)).length > 2000 by simp; omega), scanR_remark s h]
  exact scanR_shift s _ _ _ _ h0 rfl
end Go.Pv
/- Rules for branches whose condition is a decided fact: from here on a walk's branches bear the facts themselves. -/
namespace Go.Pv
open Go
section
variable (m : Nat) (C : CallRel) (P : Program) (Q : Cont) (env : Env) (σ : List Blk) (a b : Code)
@[go_sem high] theorem condW_dec (p : Prop) [Decidable p] : CondW m C P (.bool (decide p)) a b Q env σ = ((p → wp m C P a Q env σ) ∧ (¬ p → wp m C P b Q env σ)) := by simp [CondW]
@[go_sem high] theorem condW_true : CondW m C P (.bool true) a b Q env σ = wp m C P a Q env σ := by simp [CondW]
@[go_sem high] theorem condW_false : CondW m C P (.bool false) a b Q env σ = wp m C P b Q env σ := by simp [CondW]
@[go_sem high] theorem condW_ieq (x y : Int) : CondW m C P (.bool (x == y)) a b Q env σ = ((x = y → wp m C P a Q env σ) ∧ (¬ x = y → wp m C P b Q env σ)) := by simp [CondW]
@[go_sem high] theorem condW_ine (x y : Int) : CondW m C P (.bool (x != y)) a b Q env σ = ((¬ x = y → wp m C P a Q env σ) ∧ (x = y → wp m C P b Q env σ)) := by simp [CondW]
@[go_sem high] theorem condW_beq (x y : List UInt8) : CondW m C P (.bool (x == y)) a b Q env σ = ((x = y → wp m C P a Q env σ) ∧ (¬ x = y → wp m C P b Q env σ)) := by simp [CondW]
@[go_sem high] theorem condW_not (x : Bool) : CondW m C P (.bool (!x)) a b Q env σ = CondW m C P (.bool x) b a Q env σ := by cases x <;> simp [CondW]
end
section
variable (t : Nat) (s : St) (A B : St → Prop)
@[go_sem high] theorem guardW_dec (p : Prop) [Decidable p] : GuardW t (.bool (decide p)) s true A B = ((p → A (setE s t (.bool true))) ∧ (¬ p → B (setE s t (.bool false)))) := by simp [GuardW]
@[go_sem high] theorem guardW_ieq (x y : Int) : GuardW t (.bool (x == y)) s true A B = ((x = y → A (setE s t (.bool true))) ∧ (¬ x = y → B (setE s t (.bool false)))) := by simp [GuardW]
@[go_sem high] theorem guardW_ine (x y : Int) : GuardW t (.bool (x != y)) s true A B = ((¬ x = y → A (setE s t (.bool true))) ∧ (x = y → B (setE s t (.bool false)))) := by simp [GuardW]
@[go_sem high] theorem guardW_beq (x y : List UInt8) : GuardW t (.bool (x == y)) s true A B = ((x = y → A (setE s t (.bool true))) ∧ (¬ x = y → B (setE s t (.bool false)))) := by simp [GuardW]
@[go_sem low] theorem guardW_not (x : Bool) : GuardW t (.bool (!x)) s true A B = ((x = false → A (setE s t (.bool true))) ∧ (x = true → B (setE s t (.bool false)))) := by cases x <;> simp [GuardW]
@[go_sem low] theorem guardW_tt (x : Bool) : GuardW t (.bool x) s true A B = ((x = true → A (setE s t (.bool true))) ∧ (x = false → B (setE s t (.bool false)))) := by cases x <;> simp [GuardW]
@[go_sem high] theorem guardW_nbeq (x y : List UInt8) : GuardW t (.bool (!(x == y))) s true A B = ((¬ x = y → A (setE s t (.bool true))) ∧ (x = y → B (setE s t (.bool false)))) := by simp [GuardW]
@[go_sem high] theorem guardF_nbeq (x y : List UInt8) : GuardW t (.bool (!(x == y))) s false A B = ((x = y → A (setE s t (.bool false))) ∧ (¬ x = y → B (setE s t (.bool true)))) := by simp [GuardW]
@[go_sem low] theorem guardF_not (x : Bool) : GuardW t (.bool (!x)) s false A B = ((x = true → A (setE s t (.bool false))) ∧ (x = false → B (setE s t (.bool true)))) := by cases x <;> simp [GuardW]
@[go_sem high] theorem guardF_dec (p : Prop) [Decidable p] : GuardW t (.bool (decide p)) s false A B = ((¬ p → A (setE s t (.bool false))) ∧ (p → B (setE s t (.bool true)))) := by simp [GuardW]
@[go_sem high] theorem guardF_ieq (x y : Int) : GuardW t (.bool (x == y)) s false A B = ((¬ x = y → A (setE s t (.bool false))) ∧ (x = y → B (setE s t (.bool true)))) := by simp [GuardW]
@[go_sem high] theorem guardF_ine (x y : Int) : GuardW t (.bool (x != y)) s false A B = ((x = y → A (setE s t (.bool false))) ∧ (¬ x = y → B (setE s t (.bool true)))) := by simp [GuardW]
@[go_sem high] theorem guardF_beq (x y : List UInt8) : GuardW t (.bool (x == y)) s false A B = ((¬ x = y → A (setE s t (.bool false))) ∧ (x = y → B (setE s t (.bool true)))) := by simp [GuardW]
@[go_sem low] theorem guardF_tt (x : Bool) : GuardW t (.bool x) s false A B = ((x = false → A (setE s t (.bool false))) ∧ (x = true → B (setE s t (.bool true)))) := by cases x <;> simp [GuardW]
end
/-! Casts of natural numbers, beside numerals -/
@[go_sem] theorem cast_lt_cast (n k : Nat) : ((n : Int) < (k : Int)) = (n < k) := propext Int.ofNat_lt
@[go_sem] theorem cast_le_cast (n k : Nat) : ((n : Int) ≤ (k : Int)) = (n ≤ k) := propext Int.ofNat_le
@[go_sem] theorem cast_eq_cast (n k : Nat) : ((n : Int) = (k : Int)) = (n = k) := propext Int.ofNat_inj
attribute [go_sem] decide_true decide_false
theorem wp_assoc {m : Nat} {C : CallRel} {P : Program} {a b c : Code} {Q : Cont} {env : Env} {σ : List Blk} (h : wp m C P (.seq (.seq a b) c) Q env σ) : wp m C P (.seq a (.seq b c)) Q env σ := by
  refine wp_mono (fun _ _ _ _ _ h => h) a (fun e env σ h => ?_) h
  cases e <;> exact h
attribute [go_sem] gt_iff_lt ge_iff_le Int.toNat_natCast not_false_eq_true not_true_eq_false Nat.zero_le
@[go_sem] theorem wrap_cast_succ (n : Nat) (h : n < 9223372036854775807) : IntKind.i64.wrap ((n : Int) + 1) = ((n + 1 : Nat) : Int) := by
  rw [IntKind.wrap_i64]; omega
end Go.Pv
/- Casts of natural numbers and of bytes beside numerals: a lemma a numeral, for the walk's simp. -/
namespace Go.Pv
open Go
theorem nateq (n k : Nat) : ((n : Int) = (k : Int)) = (n = k) := propext Int.ofNat_inj
theorem natlt (n k : Nat) : ((n : Int) < (k : Int)) = (n < k) := propext Int.ofNat_lt
theorem natle (n k : Nat) : ((n : Int) ≤ (k : Int)) = (n ≤ k) := propext Int.ofNat_le
theorem byteq (c : UInt8) (k : Nat) (hk : k < 256) : ((c.toNat : Int) = (k : Int)) = (c = UInt8.ofNat k) := propext (by rw [← u8_eq c k hk]; exact Int.ofNat_inj)
@[go_sem high] theorem byteq9 (c : UInt8) : ((c.toNat : Int) = 9) = (c = 9) := byteq c 9 (by decide)
@[go_sem high] theorem byteq10 (c : UInt8) : ((c.toNat : Int) = 10) = (c = 10) := byteq c 10 (by decide)
@[go_sem high] theorem byteq13 (c : UInt8) : ((c.toNat : Int) = 13) = (c = 13) := byteq c 13 (by decide)
@[go_sem high] theorem byteq32 (c : UInt8) : ((c.toNat : Int) = 32) = (c = 32) := byteq c 32 (by decide)
@[go_sem high] theorem byteq33 (c : UInt8) : ((c.toNat : Int) = 33) = (c = 33) := byteq c 33 (by decide)
@[go_sem high] theorem byteq34 (c : UInt8) : ((c.toNat : Int) = 34) = (c = 34) := byteq c 34 (by decide)
@[go_sem high] theorem byteq35 (c : UInt8) : ((c.toNat : Int) = 35) = (c = 35) := byteq c 35 (by decide)
@[go_sem high] theorem byteq36 (c : UInt8) : ((c.toNat : Int) = 36) = (c = 36) := byteq c 36 (by decide)
@[go_sem high] theorem byteq37 (c : UInt8) : ((c.toNat : Int) = 37) = (c = 37) := byteq c 37 (by decide)
@[go_sem high] theorem byteq38 (c : UInt8) : ((c.toNat : Int) = 38) = (c = 38) := byteq c 38 (by decide)
@[go_sem high] theorem byteq39 (c : UInt8) : ((c.toNat : Int) = 39) = (c = 39) := byteq c 39 (by decide)
@[go_sem high] theorem byteq40 (c : UInt8) : ((c.toNat : Int) = 40) = (c = 40) := byteq c 40 (by decide)
@[go_sem high] theorem byteq41 (c : UInt8) : ((c.toNat : Int) = 41) = (c = 41) := byteq c 41 (by decide)
@[go_sem high] theorem byteq42 (c : UInt8) : ((c.toNat : Int) = 42) = (c = 42) := byteq c 42 (by decide)
@[go_sem high] theorem byteq43 (c : UInt8) : ((c.toNat : Int) = 43) = (c = 43) := byteq c 43 (by decide)
@[go_sem high] theorem byteq44 (c : UInt8) : ((c.toNat : Int) = 44) = (c = 44) := byteq c 44 (by decide)
@[go_sem high] theorem byteq45 (c : UInt8) : ((c.toNat : Int) = 45) = (c = 45) := byteq c 45 (by decide)
@[go_sem high] theorem byteq46 (c : UInt8) : ((c.toNat : Int) = 46) = (c = 46) := byteq c 46 (by decide)
@[go_sem high] theorem byteq47 (c : UInt8) : ((c.toNat : Int) = 47) = (c = 47) := byteq c 47 (by decide)
@[go_sem high] theorem byteq48 (c : UInt8) : ((c.toNat : Int) = 48) = (c = 48) := byteq c 48 (by decide)
@[go_sem high] theorem byteq49 (c : UInt8) : ((c.toNat : Int) = 49) = (c = 49) := byteq c 49 (by decide)
@[go_sem high] theorem byteq50 (c : UInt8) : ((c.toNat : Int) = 50) = (c = 50) := byteq c 50 (by decide)
@[go_sem high] theorem byteq51 (c : UInt8) : ((c.toNat : Int) = 51) = (c = 51) := byteq c 51 (by decide)
@[go_sem high] theorem byteq52 (c : UInt8) : ((c.toNat : Int) = 52) = (c = 52) := byteq c 52 (by decide)
@[go_sem high] theorem byteq53 (c : UInt8) : ((c.toNat : Int) = 53) = (c = 53) := byteq c 53 (by decide)
@[go_sem high] theorem byteq54 (c : UInt8) : ((c.toNat : Int) = 54) = (c = 54) := byteq c 54 (by decide)
@[go_sem high] theorem byteq55 (c : UInt8) : ((c.toNat : Int) = 55) = (c = 55) := byteq c 55 (by decide)
@[go_sem high] theorem byteq56 (c : UInt8) : ((c.toNat : Int) = 56) = (c = 56) := byteq c 56 (by decide)
@[go_sem high] theorem byteq57 (c : UInt8) : ((c.toNat : Int) = 57) = (c = 57) := byteq c 57 (by decide)
@[go_sem high] theorem byteq58 (c : UInt8) : ((c.toNat : Int) = 58) = (c = 58) := byteq c 58 (by decide)
@[go_sem high] theorem byteq59 (c : UInt8) : ((c.toNat : Int) = 59) = (c = 59) := byteq c 59 (by decide)
@[go_sem high] theorem byteq60 (c : UInt8) : ((c.toNat : Int) = 60) = (c = 60) := byteq c 60 (by decide)
@[go_sem high] theorem byteq61 (c : UInt8) : ((c.toNat : Int) = 61) = (c = 61) := byteq c 61 (by decide)
@[go_sem high] theorem byteq62 (c : UInt8) : ((c.toNat : Int) = 62) = (c = 62) := byteq c 62 (by decide)
@[go_sem high] theorem byteq63 (c : UInt8) : ((c.toNat : Int) = 63) = (c = 63) := byteq c 63 (by decide)
@[go_sem high] theorem byteq64 (c : UInt8) : ((c.toNat : Int) = 64) = (c = 64) := byteq c 64 (by decide)
@[go_sem high] theorem byteq65 (c : UInt8) : ((c.toNat : Int) = 65) = (c = 65) := byteq c 65 (by decide)
@[go_sem high] theorem byteq66 (c : UInt8) : ((c.toNat : Int) = 66) = (c = 66) := byteq c 66 (by decide)
@[go_sem high] theorem byteq67 (c : UInt8) : ((c.toNat : Int) = 67) = (c = 67) := byteq c 67 (by decide)
@[go_sem high] theorem byteq68 (c : UInt8) : ((c.toNat : Int) = 68) = (c = 68) := byteq c 68 (by decide)
@[go_sem high] theorem byteq69 (c : UInt8) : ((c.toNat : Int) = 69) = (c = 69) := byteq c 69 (by decide)
@[go_sem high] theorem byteq70 (c : UInt8) : ((c.toNat : Int) = 70) = (c = 70) := byteq c 70 (by decide)
@[go_sem high] theorem byteq71 (c : UInt8) : ((c.toNat : Int) = 71) = (c = 71) := byteq c 71 (by decide)
@[go_sem high] theorem byteq72 (c : UInt8) : ((c.toNat : Int) = 72) = (c = 72) := byteq c 72 (by decide)
@[go_sem high] theorem byteq73 (c : UInt8) : ((c.toNat : Int) = 73) = (c = 73) := byteq c 73 (by decide)
@[go_sem high] theorem byteq74 (c : UInt8) : ((c.toNat : Int) = 74) = (c = 74) := byteq c 74 (by decide)
@[go_sem high] theorem byteq75 (c : UInt8) : ((c.toNat : Int) = 75) = (c = 75) := byteq c 75 (by decide)
@[go_sem high] theorem byteq76 (c : UInt8) : ((c.toNat : Int) = 76) = (c = 76) := byteq c 76 (by decide)
@[go_sem high] theorem byteq77 (c : UInt8) : ((c.toNat : Int) = 77) = (c = 77) := byteq c 77 (by decide)
@[go_sem high] theorem byteq78 (c : UInt8) : ((c.toNat : Int) = 78) = (c = 78) := byteq c 78 (by decide)
@[go_sem high] theorem byteq79 (c : UInt8) : ((c.toNat : Int) = 79) = (c = 79) := byteq c 79 (by decide)
@[go_sem high] theorem byteq80 (c : UInt8) : ((c.toNat : Int) = 80) = (c = 80) := byteq c 80 (by decide)
@[go_sem high] theorem byteq81 (c : UInt8) : ((c.toNat : Int) = 81) = (c = 81) := byteq c 81 (by decide)
@[go_sem high] theorem byteq82 (c : UInt8) : ((c.toNat : Int) = 82) = (c = 82) := byteq c 82 (by decide)
@[go_sem high] theorem byteq83 (c : UInt8) : ((c.toNat : Int) = 83) = (c = 83) := byteq c 83 (by decide)
@[go_sem high] theorem byteq84 (c : UInt8) : ((c.toNat : Int) = 84) = (c = 84) := byteq c 84 (by decide)
@[go_sem high] theorem byteq85 (c : UInt8) : ((c.toNat : Int) = 85) = (c = 85) := byteq c 85 (by decide)
@[go_sem high] theorem byteq86 (c : UInt8) : ((c.toNat : Int) = 86) = (c = 86) := byteq c 86 (by decide)
@[go_sem high] theorem byteq87 (c : UInt8) : ((c.toNat : Int) = 87) = (c = 87) := byteq c 87 (by decide)
@[go_sem high] theorem byteq88 (c : UInt8) : ((c.toNat : Int) = 88) = (c = 88) := byteq c 88 (by decide)
@[go_sem high] theorem byteq89 (c : UInt8) : ((c.toNat : Int) = 89) = (c = 89) := byteq c 89 (by decide)
@[go_sem high] theorem byteq90 (c : UInt8) : ((c.toNat : Int) = 90) = (c = 90) := byteq c 90 (by decide)
@[go_sem high] theorem byteq91 (c : UInt8) : ((c.toNat : Int) = 91) = (c = 91) := byteq c 91 (by decide)
@[go_sem high] theorem byteq92 (c : UInt8) : ((c.toNat : Int) = 92) = (c = 92) := byteq c 92 (by decide)
@[go_sem high] theorem byteq93 (c : UInt8) : ((c.toNat : Int) = 93) = (c = 93) := byteq c 93 (by decide)
@[go_sem high] theorem byteq94 (c : UInt8) : ((c.toNat : Int) = 94) = (c = 94) := byteq c 94 (by decide)
@[go_sem high] theorem byteq95 (c : UInt8) : ((c.toNat : Int) = 95) = (c = 95) := byteq c 95 (by decide)
@[go_sem high] theorem byteq96 (c : UInt8) : ((c.toNat : Int) = 96) = (c = 96) := byteq c 96 (by decide)
@[go_sem high] theorem byteq97 (c : UInt8) : ((c.toNat : Int) = 97) = (c = 97) := byteq c 97 (by decide)
@[go_sem high] theorem byteq98 (c : UInt8) : ((c.toNat : Int) = 98) = (c = 98) := byteq c 98 (by decide)
@[go_sem high] theorem byteq99 (c : UInt8) : ((c.toNat : Int) = 99) = (c = 99) := byteq c 99 (by decide)
@[go_sem high] theorem byteq100 (c : UInt8) : ((c.toNat : Int) = 100) = (c = 100) := byteq c 100 (by decide)
@[go_sem high] theorem byteq101 (c : UInt8) : ((c.toNat : Int) = 101) = (c = 101) := byteq c 101 (by decide)
@[go_sem high] theorem byteq102 (c : UInt8) : ((c.toNat : Int) = 102) = (c = 102) := byteq c 102 (by decide)
@[go_sem high] theorem byteq103 (c : UInt8) : ((c.toNat : Int) = 103) = (c = 103) := byteq c 103 (by decide)
@[go_sem high] theorem byteq104 (c : UInt8) : ((c.toNat : Int) = 104) = (c = 104) := byteq c 104 (by decide)
@[go_sem high] theorem byteq105 (c : UInt8) : ((c.toNat : Int) = 105) = (c = 105) := byteq c 105 (by decide)
@[go_sem high] theorem byteq106 (c : UInt8) : ((c.toNat : Int) = 106) = (c = 106) := byteq c 106 (by decide)
@[go_sem high] theorem byteq107 (c : UInt8) : ((c.toNat : Int) = 107) = (c = 107) := byteq c 107 (by decide)
@[go_sem high] theorem byteq108 (c : UInt8) : ((c.toNat : Int) = 108) = (c = 108) := byteq c 108 (by decide)
@[go_sem high] theorem byteq109 (c : UInt8) : ((c.toNat : Int) = 109) = (c = 109) := byteq c 109 (by decide)
@[go_sem high] theorem byteq110 (c : UInt8) : ((c.toNat : Int) = 110) = (c = 110) := byteq c 110 (by decide)
@[go_sem high] theorem byteq111 (c : UInt8) : ((c.toNat : Int) = 111) = (c = 111) := byteq c 111 (by decide)
@[go_sem high] theorem byteq112 (c : UInt8) : ((c.toNat : Int) = 112) = (c = 112) := byteq c 112 (by decide)
@[go_sem high] theorem byteq113 (c : UInt8) : ((c.toNat : Int) = 113) = (c = 113) := byteq c 113 (by decide)
@[go_sem high] theorem byteq114 (c : UInt8) : ((c.toNat : Int) = 114) = (c = 114) := byteq c 114 (by decide)
@[go_sem high] theorem byteq115 (c : UInt8) : ((c.toNat : Int) = 115) = (c = 115) := byteq c 115 (by decide)
@[go_sem high] theorem byteq116 (c : UInt8) : ((c.toNat : Int) = 116) = (c = 116) := byteq c 116 (by decide)
@[go_sem high] theorem byteq117 (c : UInt8) : ((c.toNat : Int) = 117) = (c = 117) := byteq c 117 (by decide)
@[go_sem high] theorem byteq118 (c : UInt8) : ((c.toNat : Int) = 118) = (c = 118) := byteq c 118 (by decide)
@[go_sem high] theorem byteq119 (c : UInt8) : ((c.toNat : Int) = 119) = (c = 119) := byteq c 119 (by decide)
@[go_sem high] theorem byteq120 (c : UInt8) : ((c.toNat : Int) = 120) = (c = 120) := byteq c 120 (by decide)
@[go_sem high] theorem byteq121 (c : UInt8) : ((c.toNat : Int) = 121) = (c = 121) := byteq c 121 (by decide)
@[go_sem high] theorem byteq122 (c : UInt8) : ((c.toNat : Int) = 122) = (c = 122) := byteq c 122 (by decide)
@[go_sem high] theorem byteq123 (c : UInt8) : ((c.toNat : Int) = 123) = (c = 123) := byteq c 123 (by decide)
@[go_sem high] theorem byteq124 (c : UInt8) : ((c.toNat : Int) = 124) = (c = 124) := byteq c 124 (by decide)
@[go_sem high] theorem byteq125 (c : UInt8) : ((c.toNat : Int) = 125) = (c = 125) := byteq c 125 (by decide)
@[go_sem high] theorem byteq126 (c : UInt8) : ((c.toNat : Int) = 126) = (c = 126) := byteq c 126 (by decide)
@[go_sem] theorem nateq0 (n : Nat) : ((n : Int) = 0) = (n = 0) := nateq n 0
@[go_sem] theorem nateq1 (n : Nat) : ((n : Int) = 1) = (n = 1) := nateq n 1
@[go_sem] theorem nateq2 (n : Nat) : ((n : Int) = 2) = (n = 2) := nateq n 2
@[go_sem] theorem nateq3 (n : Nat) : ((n : Int) = 3) = (n = 3) := nateq n 3
@[go_sem] theorem nateq4 (n : Nat) : ((n : Int) = 4) = (n = 4) := nateq n 4
@[go_sem] theorem nateq5 (n : Nat) : ((n : Int) = 5) = (n = 5) := nateq n 5
@[go_sem] theorem nateq6 (n : Nat) : ((n : Int) = 6) = (n = 6) := nateq n 6
@[go_sem] theorem nateq7 (n : Nat) : ((n : Int) = 7) = (n = 7) := nateq n 7
@[go_sem] theorem nateq8 (n : Nat) : ((n : Int) = 8) = (n = 8) := nateq n 8
@[go_sem] theorem nateq9 (n : Nat) : ((n : Int) = 9) = (n = 9) := nateq n 9
@[go_sem] theorem nateq10 (n : Nat) : ((n : Int) = 10) = (n = 10) := nateq n 10
@[go_sem] theorem nateq11 (n : Nat) : ((n : Int) = 11) = (n = 11) := nateq n 11
@[go_sem] theorem nateq12 (n : Nat) : ((n : Int) = 12) = (n = 12) := nateq n 12
@[go_sem] theorem nateq13 (n : Nat) : ((n : Int) = 13) = (n = 13) := nateq n 13
@[go_sem] theorem nateq14 (n : Nat) : ((n : Int) = 14) = (n = 14) := nateq n 14
@[go_sem] theorem nateq15 (n : Nat) : ((n : Int) = 15) = (n = 15) := nateq n 15
@[go_sem] theorem nateq16 (n : Nat) : ((n : Int) = 16) = (n = 16) := nateq n 16
@[go_sem] theorem nateq17 (n : Nat) : ((n : Int) = 17) = (n = 17) := nateq n 17
@[go_sem] theorem nateq18 (n : Nat) : ((n : Int) = 18) = (n = 18) := nateq n 18
@[go_sem] theorem nateq19 (n : Nat) : ((n : Int) = 19) = (n = 19) := nateq n 19
@[go_sem] theorem nateq20 (n : Nat) : ((n : Int) = 20) = (n = 20) := nateq n 20
@[go_sem] theorem natlt0 (n : Nat) : ((n : Int) < 0) = (n < 0) := natlt n 0
@[go_sem] theorem natgt0 (n : Nat) : (0 < (n : Int)) = (0 < n) := natlt 0 n
@[go_sem] theorem natle0 (n : Nat) : ((n : Int) ≤ 0) = (n ≤ 0) := natle n 0
@[go_sem] theorem natge0 (n : Nat) : (0 ≤ (n : Int)) = (0 ≤ n) := natle 0 n
@[go_sem] theorem natlt1 (n : Nat) : ((n : Int) < 1) = (n < 1) := natlt n 1
@[go_sem] theorem natgt1 (n : Nat) : (1 < (n : Int)) = (1 < n) := natlt 1 n
@[go_sem] theorem natle1 (n : Nat) : ((n : Int) ≤ 1) = (n ≤ 1) := natle n 1
@[go_sem] theorem natge1 (n : Nat) : (1 ≤ (n : Int)) = (1 ≤ n) := natle 1 n
@[go_sem] theorem natlt2 (n : Nat) : ((n : Int) < 2) = (n < 2) := natlt n 2
@[go_sem] theorem natgt2 (n : Nat) : (2 < (n : Int)) = (2 < n) := natlt 2 n
@[go_sem] theorem natle2 (n : Nat) : ((n : Int) ≤ 2) = (n ≤ 2) := natle n 2
@[go_sem] theorem natge2 (n : Nat) : (2 ≤ (n : Int)) = (2 ≤ n) := natle 2 n
@[go_sem] theorem natlt3 (n : Nat) : ((n : Int) < 3) = (n < 3) := natlt n 3
@[go_sem] theorem natgt3 (n : Nat) : (3 < (n : Int)) = (3 < n) := natlt 3 n
@[go_sem] theorem natle3 (n : Nat) : ((n : Int) ≤ 3) = (n ≤ 3) := natle n 3
@[go_sem] theorem natge3 (n : Nat) : (3 ≤ (n : Int)) = (3 ≤ n) := natle 3 n
@[go_sem] theorem natlt4 (n : Nat) : ((n : Int) < 4) = (n < 4) := natlt n 4
@[go_sem] theorem natgt4 (n : Nat) : (4 < (n : Int)) = (4 < n) := natlt 4 n
@[go_sem] theorem natle4 (n : Nat) : ((n : Int) ≤ 4) = (n ≤ 4) := natle n 4
@[go_sem] theorem natge4 (n : Nat) : (4 ≤ (n : Int)) = (4 ≤ n) := natle 4 n
@[go_sem] theorem natlt5 (n : Nat) : ((n : Int) < 5) = (n < 5) := natlt n 5
@[go_sem] theorem natgt5 (n : Nat) : (5 < (n : Int)) = (5 < n) := natlt 5 n
@[go_sem] theorem natle5 (n : Nat) : ((n : Int) ≤ 5) = (n ≤ 5) := natle n 5
@[go_sem] theorem natge5 (n : Nat) : (5 ≤ (n : Int)) = (5 ≤ n) := natle 5 n
@[go_sem] theorem natlt6 (n : Nat) : ((n : Int) < 6) = (n < 6) := natlt n 6
@[go_sem] theorem natgt6 (n : Nat) : (6 < (n : Int)) = (6 < n) := natlt 6 n
@[go_sem] theorem natle6 (n : Nat) : ((n : Int) ≤ 6) = (n ≤ 6) := natle n 6
@[go_sem] theorem natge6 (n : Nat) : (6 ≤ (n : Int)) = (6 ≤ n) := natle 6 n
@[go_sem] theorem natlt7 (n : Nat) : ((n : Int) < 7) = (n < 7) := natlt n 7
@[go_sem] theorem natgt7 (n : Nat) : (7 < (n : Int)) = (7 < n) := natlt 7 n
@[go_sem] theorem natle7 (n : Nat) : ((n : Int) ≤ 7) = (n ≤ 7) := natle n 7
@[go_sem] theorem natge7 (n : Nat) : (7 ≤ (n : Int)) = (7 ≤ n) := natle 7 n
@[go_sem] theorem natlt8 (n : Nat) : ((n : Int) < 8) = (n < 8) := natlt n 8
@[go_sem] theorem natgt8 (n : Nat) : (8 < (n : Int)) = (8 < n) := natlt 8 n
@[go_sem] theorem natle8 (n : Nat) : ((n : Int) ≤ 8) = (n ≤ 8) := natle n 8
@[go_sem] theorem natge8 (n : Nat) : (8 ≤ (n : Int)) = (8 ≤ n) := natle 8 n
@[go_sem] theorem natlt9 (n : Nat) : ((n : Int) < 9) = (n < 9) := natlt n 9
@[go_sem] theorem natgt9 (n : Nat) : (9 < (n : Int)) = (9 < n) := natlt 9 n
@[go_sem] theorem natle9 (n : Nat) : ((n : Int) ≤ 9) = (n ≤ 9) := natle n 9
@[go_sem] theorem natge9 (n : Nat) : (9 ≤ (n : Int)) = (9 ≤ n) := natle 9 n
@[go_sem] theorem natlt10 (n : Nat) : ((n : Int) < 10) = (n < 10) := natlt n 10
@[go_sem] theorem natgt10 (n : Nat) : (10 < (n : Int)) = (10 < n) := natlt 10 n
@[go_sem] theorem natle10 (n : Nat) : ((n : Int) ≤ 10) = (n ≤ 10) := natle n 10
@[go_sem] theorem natge10 (n : Nat) : (10 ≤ (n : Int)) = (10 ≤ n) := natle 10 n
@[go_sem] theorem natlt11 (n : Nat) : ((n : Int) < 11) = (n < 11) := natlt n 11
@[go_sem] theorem natgt11 (n : Nat) : (11 < (n : Int)) = (11 < n) := natlt 11 n
@[go_sem] theorem natle11 (n : Nat) : ((n : Int) ≤ 11) = (n ≤ 11) := natle n 11
@[go_sem] theorem natge11 (n : Nat) : (11 ≤ (n : Int)) = (11 ≤ n) := natle 11 n
@[go_sem] theorem natlt12 (n : Nat) : ((n : Int) < 12) = (n < 12) := natlt n 12
@[go_sem] theorem natgt12 (n : Nat) : (12 < (n : Int)) = (12 < n) := natlt 12 n
@[go_sem] theorem natle12 (n : Nat) : ((n : Int) ≤ 12) = (n ≤ 12) := natle n 12
@[go_sem] theorem natge12 (n : Nat) : (12 ≤ (n : Int)) = (12 ≤ n) := natle 12 n
@[go_sem] theorem natlt13 (n : Nat) : ((n : Int) < 13) = (n < 13) := natlt n 13
@[go_sem] theorem natgt13 (n : Nat) : (13 < (n : Int)) = (13 < n) := natlt 13 n
@[go_sem] theorem natle13 (n : Nat) : ((n : Int) ≤ 13) = (n ≤ 13) := natle n 13
@[go_sem] theorem natge13 (n : Nat) : (13 ≤ (n : Int)) = (13 ≤ n) := natle 13 n
@[go_sem] theorem natlt14 (n : Nat) : ((n : Int) < 14) = (n < 14) := natlt n 14
@[go_sem] theorem natgt14 (n : Nat) : (14 < (n : Int)) = (14 < n) := natlt 14 n
@[go_sem] theorem natle14 (n : Nat) : ((n : Int) ≤ 14) = (n ≤ 14) := natle n 14
@[go_sem] theorem natge14 (n : Nat) : (14 ≤ (n : Int)) = (14 ≤ n) := natle 14 n
@[go_sem] theorem natlt15 (n : Nat) : ((n : Int) < 15) = (n < 15) := natlt n 15
@[go_sem] theorem natgt15 (n : Nat) : (15 < (n : Int)) = (15 < n) := natlt 15 n
@[go_sem] theorem natle15 (n : Nat) : ((n : Int) ≤ 15) = (n ≤ 15) := natle n 15
@[go_sem] theorem natge15 (n : Nat) : (15 ≤ (n : Int)) = (15 ≤ n) := natle 15 n
@[go_sem] theorem natlt16 (n : Nat) : ((n : Int) < 16) = (n < 16) := natlt n 16
@[go_sem] theorem natgt16 (n : Nat) : (16 < (n : Int)) = (16 < n) := natlt 16 n
@[go_sem] theorem natle16 (n : Nat) : ((n : Int) ≤ 16) = (n ≤ 16) := natle n 16
@[go_sem] theorem natge16 (n : Nat) : (16 ≤ (n : Int)) = (16 ≤ n) := natle 16 n
@[go_sem] theorem natlt17 (n : Nat) : ((n : Int) < 17) = (n < 17) := natlt n 17
@[go_sem] theorem natgt17 (n : Nat) : (17 < (n : Int)) = (17 < n) := natlt 17 n
@[go_sem] theorem natle17 (n : Nat) : ((n : Int) ≤ 17) = (n ≤ 17) := natle n 17
@[go_sem] theorem natge17 (n : Nat) : (17 ≤ (n : Int)) = (17 ≤ n) := natle 17 n
@[go_sem] theorem natlt18 (n : Nat) : ((n : Int) < 18) = (n < 18) := natlt n 18
@[go_sem] theorem natgt18 (n : Nat) : (18 < (n : Int)) = (18 < n) := natlt 18 n
@[go_sem] theorem natle18 (n : Nat) : ((n : Int) ≤ 18) = (n ≤ 18) := natle n 18
@[go_sem] theorem natge18 (n : Nat) : (18 ≤ (n : Int)) = (18 ≤ n) := natle 18 n
@[go_sem] theorem natlt19 (n : Nat) : ((n : Int) < 19) = (n < 19) := natlt n 19
@[go_sem] theorem natgt19 (n : Nat) : (19 < (n : Int)) = (19 < n) := natlt 19 n
@[go_sem] theorem natle19 (n : Nat) : ((n : Int) ≤ 19) = (n ≤ 19) := natle n 19
@[go_sem] theorem natge19 (n : Nat) : (19 ≤ (n : Int)) = (19 ≤ n) := natle 19 n
@[go_sem] theorem natlt20 (n : Nat) : ((n : Int) < 20) = (n < 20) := natlt n 20
@[go_sem] theorem natgt20 (n : Nat) : (20 < (n : Int)) = (20 < n) := natlt 20 n
@[go_sem] theorem natle20 (n : Nat) : ((n : Int) ≤ 20) = (n ≤ 20) := natle n 20
@[go_sem] theorem natge20 (n : Nat) : (20 ≤ (n : Int)) = (20 ≤ n) := natle 20 n
@[go_sem] theorem natlt30 (n : Nat) : ((n : Int) < 30) = (n < 30) := natlt n 30
@[go_sem] theorem natgt30 (n : Nat) : (30 < (n : Int)) = (30 < n) := natlt 30 n
@[go_sem] theorem natle30 (n : Nat) : ((n : Int) ≤ 30) = (n ≤ 30) := natle n 30
@[go_sem] theorem natge30 (n : Nat) : (30 ≤ (n : Int)) = (30 ≤ n) := natle 30 n
@[go_sem] theorem natlt40 (n : Nat) : ((n : Int) < 40) = (n < 40) := natlt n 40
@[go_sem] theorem natgt40 (n : Nat) : (40 < (n : Int)) = (40 < n) := natlt 40 n
@[go_sem] theorem natle40 (n : Nat) : ((n : Int) ≤ 40) = (n ≤ 40) := natle n 40
@[go_sem] theorem natge40 (n : Nat) : (40 ≤ (n : Int)) = (40 ≤ n) := natle 40 n
@[go_sem] theorem natlt60 (n : Nat) : ((n : Int) < 60) = (n < 60) := natlt n 60
@[go_sem] theorem natgt60 (n : Nat) : (60 < (n : Int)) = (60 < n) := natlt 60 n
@[go_sem] theorem natle60 (n : Nat) : ((n : Int) ≤ 60) = (n ≤ 60) := natle n 60
@[go_sem] theorem natge60 (n : Nat) : (60 ≤ (n : Int)) = (60 ≤ n) := natle 60 n
@[go_sem] theorem natlt64 (n : Nat) : ((n : Int) < 64) = (n < 64) := natlt n 64
@[go_sem] theorem natgt64 (n : Nat) : (64 < (n : Int)) = (64 < n) := natlt 64 n
@[go_sem] theorem natle64 (n : Nat) : ((n : Int) ≤ 64) = (n ≤ 64) := natle n 64
@[go_sem] theorem natge64 (n : Nat) : (64 ≤ (n : Int)) = (64 ≤ n) := natle 64 n
@[go_sem] theorem natlt120 (n : Nat) : ((n : Int) < 120) = (n < 120) := natlt n 120
@[go_sem] theorem natgt120 (n : Nat) : (120 < (n : Int)) = (120 < n) := natlt 120 n
@[go_sem] theorem natle120 (n : Nat) : ((n : Int) ≤ 120) = (n ≤ 120) := natle n 120
@[go_sem] theorem natge120 (n : Nat) : (120 ≤ (n : Int)) = (120 ≤ n) := natle 120 n
@[go_sem] theorem natlt250 (n : Nat) : ((n : Int) < 250) = (n < 250) := natlt n 250
@[go_sem] theorem natgt250 (n : Nat) : (250 < (n : Int)) = (250 < n) := natlt 250 n
@[go_sem] theorem natle250 (n : Nat) : ((n : Int) ≤ 250) = (n ≤ 250) := natle n 250
@[go_sem] theorem natge250 (n : Nat) : (250 ≤ (n : Int)) = (250 ≤ n) := natle 250 n
@[go_sem] theorem natlt300 (n : Nat) : ((n : Int) < 300) = (n < 300) := natlt n 300
@[go_sem] theorem natgt300 (n : Nat) : (300 < (n : Int)) = (300 < n) := natlt 300 n
@[go_sem] theorem natle300 (n : Nat) : ((n : Int) ≤ 300) = (n ≤ 300) := natle n 300
@[go_sem] theorem natge300 (n : Nat) : (300 ≤ (n : Int)) = (300 ≤ n) := natle 300 n
@[go_sem] theorem natlt1000 (n : Nat) : ((n : Int) < 1000) = (n < 1000) := natlt n 1000
@[go_sem] theorem natgt1000 (n : Nat) : (1000 < (n : Int)) = (1000 < n) := natlt 1000 n
@[go_sem] theorem natle1000 (n : Nat) : ((n : Int) ≤ 1000) = (n ≤ 1000) := natle n 1000
@[go_sem] theorem natge1000 (n : Nat) : (1000 ≤ (n : Int)) = (1000 ≤ n) := natle 1000 n
@[go_sem] theorem natlt2000 (n : Nat) : ((n : Int) < 2000) = (n < 2000) := natlt n 2000
@[go_sem] theorem natgt2000 (n : Nat) : (2000 < (n : Int)) = (2000 < n) := natlt 2000 n
@[go_sem] theorem natle2000 (n : Nat) : ((n : Int) ≤ 2000) = (n ≤ 2000) := natle n 2000
@[go_sem] theorem natge2000 (n : Nat) : (2000 ≤ (n : Int)) = (2000 ≤ n) := natle 2000 n
end Go.Pv
/- Laws of the printing of quotes, on both sides. -/
namespace Go.Pv
open Go Go.Proofs
set_option maxRecDepth 4000
variable {G : Frz}
theorem c120 (l : List Part) (hl : l.length ≤ 2147483000) : RR G 120 [partsA l] [] (.bool (pMay false l)) [] := by
  unfold partsA
  refine ret_intro Tryz.func120 rfl Tryz.results120 (by decide +kernel) rfl (Nat.le_refl _) rfl (by simp) ?_
  refine wp_assoc (wp_mid [(0, partsA l), (3, .bool false)] [] ?_ fun env ⟨h0, h3, _⟩ => ?_)
  · simp -implicitDefEqProofs only [partsA, Nat.reduceEqDiff, Nat.reduceLeDiff, Nat.reduceAdd, reduceCtorEq, go_sem, ↓reduceIte]
  refine wp_ghost (A := List Blk) (fun _ => pMay false l = true) (fun z => z) (fun _ => []) ?_ fun z hz env _ => ?_
  · refine wp_mid [(3, .bool false), (6, partsA l), (7, i64 l.length), (8, i64 (0 : Nat))] [] ?_ fun env ⟨h3, h6, h7, h8, _⟩ => ?_
    · simp -implicitDefEqProofs only [h0, h3, partsA, List.length_map, Nat.reduceEqDiff, Nat.reduceLeDiff, Nat.reduceAdd, reduceCtorEq, go_sem, ↓reduceIte]
      rfl
    rw [wp_block_eq]
    refine wp_loop_garb (A := Nat × Bool) (fun x => [(3, .bool x.2), (6, partsA l), (7, i64 l.length), (8, i64 x.1)]) (fun _ => []) (fun x => x.1 ≤ l.length ∧ pMay false l = pMay x.2 (l.drop x.1)) (fun x => l.length - x.1) (0, false) ⟨Nat.zero_le _, rfl⟩ rfl ⟨h3, h6, h7, h8, trivial⟩ ?_ ?_
    · intro x hx
      exact ⟨Nat.zero_le _, by simp, by simp [partsA, ren, ren2, ren1, ren0]⟩
    rintro ⟨i, t⟩ ⟨hi, hp⟩
    simp only at hi hp
    by_cases hlt : i < l.length
    · have hg : l.getD i default = l[i] := by simp [hlt]
      have hdr : l.drop i = l[i] :: l.drop (i + 1) := (List.getElem_cons_drop ..).symm
      have hwl : i < 9223372036854775807 := by omega
      rw [hdr] at hp
      generalize l[i] = p at *
      obtain ⟨nm, tx⟩ := p
      simp -implicitDefEqProofs only [hlt, hg, hwl, wrap_cast_succ, partsA, partA, List.length_map, Nat.reduceEqDiff, Nat.reduceLeDiff, Nat.reduceAdd, reduceCtorEq, go_sem, ↓reduceIte]
      refine ⟨fun hnm => ⟨fun htx => ⟨fun ht => ?_, fun ht => ?_⟩, fun htx => ?_⟩, fun hnm => ⟨fun htx => ?_, fun htx => ?_⟩⟩
      · rw [hp]; simp [pMay, hnm, ht]
      · exact ⟨(i + 1, true), ⟨⟨by simp only; omega, by rw [hp]; simp [pMay, hnm, htx, ht]⟩, by simp only; omega⟩, rfl, rfl⟩
      · rw [hp]; simp [pMay, hnm, htx]
      · refine callW_pure (c52 nm) rfl rfl ?_
        rw [nameP_Q]
        simp -implicitDefEqProofs only [hwl, wrap_cast_succ, Nat.reduceEqDiff, Nat.reduceLeDiff, Nat.reduceAdd, reduceCtorEq, go_sem, ↓reduceIte]
        refine ⟨fun hn => ⟨(i + 1, false), ⟨⟨by simp only; omega, by rw [hp]; simp [pMay, hnm, htx, hn]⟩, by simp only; omega⟩, rfl, rfl⟩, fun hn => ?_⟩
        rw [hp]; simp [pMay, hnm, hn]
      · rw [hp]; simp [pMay, hnm, htx]
    · have : i = l.length := by omega
      subst this
      rw [List.drop_length] at hp
      simp -implicitDefEqProofs only [hlt, partsA, List.length_map, Nat.reduceEqDiff, Nat.reduceLeDiff, Nat.reduceAdd, reduceCtorEq, go_sem, ↓reduceIte]
      exact ⟨_, by rw [hp] <;> rfl, rfl⟩
  simp -implicitDefEqProofs only [hz, Nat.reduceEqDiff, Nat.reduceLeDiff, Nat.reduceAdd, reduceCtorEq, go_sem, ↓reduceIte]
theorem wrap_u8_id (n : Int) (h1 : 0 ≤ n) (h2 : n < 256) : IntKind.u8.wrap n = n := by
  rw [IntKind.wrap_u8]; omega
theorem u8_of (n : Nat) (h : n < 256) : UInt8.ofNat ((n : Int)).toNat = UInt8.ofNat n := by simp
theorem hx_at : ∀ n : Fin 16, ([48, 49, 50, 51, 52, 53, 54, 55, 56, 57, 97, 98, 99, 100, 101, 102] : Bytes).getD n.val 0 = hx n.val := by decide
theorem c193 (n : Nat) (h : n < 16) : RR G 193 [.int .u8 n] [] (.str [hx n]) [] := by
  refine ret_intro Tryz.func193 rfl Tryz.results193 (by decide +kernel) rfl (Nat.le_refl _) rfl (by simp) ?_
  have := hx_at ⟨n, h⟩
  simp only at this
  simp -implicitDefEqProofs only [this, Nat.reduceEqDiff, Nat.reduceLeDiff, Nat.reduceAdd, reduceCtorEq, go_sem, ↓reduceIte]
  exact ⟨h, by simp⟩
theorem plain_idx (c : UInt8) : (0 ≤ idxB [34, 92, 36] c) = (c = 34 ∨ c = 92 ∨ c = 36) := by
  have h : ∀ n : Fin 256, decide (0 ≤ idxB [34, 92, 36] (UInt8.ofNat n.val)) = decide (UInt8.ofNat n.val = 34 ∨ UInt8.ofNat n.val = 92 ∨ UInt8.ofNat n.val = 36) := by decide +kernel
  have := h ⟨c.toNat, c.toNat_lt⟩
  simp only [UInt8.ofNat_toNat] at this
  rw [eq_iff_iff, ← decide_eq_decide]
  exact this
theorem and15 : ∀ n : Fin 256, IntKind.u8.wrap ((BitVec.ofInt 8 (n.val : Int) &&& BitVec.ofInt 8 15).toNat : Int) = ((n.val % 16 : Nat) : Int) := by decide +kernel
theorem hx_pair (c : UInt8) (h : ¬(c = 34 ∨ c = 92 ∨ c = 36)) (h10 : ¬c = 10) (h13 : ¬c = 13) (h9 : ¬c = 9) (hr : c.toNat < 32 ∨ 126 < c.toNat) : pByte c = [92, 120, hx (c.toNat / 16), hx (c.toNat % 16)] := by
  simp only [pByte, if_neg h10, if_neg h13, if_neg h9, if_neg h]
  rw [if_pos (by omega)]
theorem shr4 (c : UInt8) : ((c.toNat : Int)).fdiv (2 ^ min (Int.toNat 4) 8) = ((c.toNat / 16 : Nat) : Int) := by
  have : (2 ^ min (Int.toNat 4) 8 : Int) = ((16 : Nat) : Int) := by decide
  rw [this]
  exact (Int.ofNat_fdiv _ _).symm
theorem hx_ends (c : UInt8) (h : ¬(c = 34 ∨ c = 92 ∨ c = 36)) (h10 : ¬c = 10) (h13 : ¬c = 13) (h9 : ¬c = 9) (hr : c.toNat < 32 ∨ 126 < c.toNat) :
    0 ≤ (4 : Int) ∧ 0 ≤ (c.toNat : Int).fdiv (2 ^ min (Int.toNat 4) 8) ∧ ((c.toNat : Int).fdiv (2 ^ min (Int.toNat 4) 8)).toNat < 16 ∧ (IntKind.u8.wrap ↑(BitVec.ofInt 8 (c.toNat : Int) &&& BitVec.ofInt 8 15).toNat).toNat < 16 ∧ 4 ≤ strLim ∧
      some (AV.str [92, 120, UInt8.ofNat (([48, 49, 50, 51, 52, 53, 54, 55, 56, 57, 97, 98, 99, 100, 101, 102] : Bytes).getD ((c.toNat : Int).fdiv (2 ^ min (Int.toNat 4) 8)).toNat 0).toNat,
        UInt8.ofNat (([48, 49, 50, 51, 52, 53, 54, 55, 56, 57, 97, 98, 99, 100, 101, 102] : Bytes).getD (IntKind.u8.wrap ↑(BitVec.ofInt 8 (c.toNat : Int) &&& BitVec.ofInt 8 15).toNat).toNat 0).toNat]) = some (AV.str (pByte c)) := by
  have hc := c.toNat_lt
  have h1 := and15 ⟨c.toNat, hc⟩
  have h2 := hx_at ⟨c.toNat / 16, by omega⟩
  have h3 := hx_at ⟨c.toNat % 16, by omega⟩
  simp only at h1 h2 h3
  rw [shr4, h1, hx_pair c h h10 h13 h9 hr]
  simp only [Int.toNat_natCast, h2, h3, UInt8.ofNat_toNat]
  exact ⟨by omega, by omega, by omega, by omega, by decide, trivial⟩
theorem c122 (hG : GOk G) (c : UInt8) : RR G 122 [byte c] [] (.str (pByte c)) [] := by
  refine ret_intro Tryz.func122 rfl Tryz.results122 (by decide +kernel) rfl (Nat.le_refl _) rfl (by simp) ?_
  simp -implicitDefEqProofs only [Nat.reduceEqDiff, Nat.reduceLeDiff, Nat.reduceAdd, reduceCtorEq, go_sem, ↓reduceIte]
  refine ⟨fun h => by subst h; rfl, fun h10 => ⟨fun h => by subst h; rfl, fun h13 => ⟨fun h => by subst h; rfl, fun h9 => ?_⟩⟩⟩
  refine callW_pure (c117 [34, 92, 36] c) rfl rfl ?_
  simp -implicitDefEqProofs only [plain_idx, Nat.reduceEqDiff, Nat.reduceLeDiff, Nat.reduceAdd, reduceCtorEq, go_sem, ↓reduceIte]
  refine ⟨fun h => ⟨by decide, ?_⟩, fun h => ⟨fun h32 => ⟨fun h126 => ?_, fun h126 => ?_⟩, fun h32 => ?_⟩⟩
  · simp [pByte, h10, h13, h9, h]
  · (refine WT_ord (t := lin [0, 1, 2, 3, 4, 5, 6, 7, 8, 9] .nil) ?_ ?_; kernel_rfl)
    simp -implicitDefEqProofs only [Nat.reduceEqDiff, Nat.reduceLeDiff, Nat.reduceAdd, reduceCtorEq, go_sem, ↓reduceIte]
    exact hx_ends c h h10 h13 h9 (by omega)
  · simp [pByte, h10, h13, h9, h]
    omega
  · (refine WT_ord (t := lin [0, 1, 2, 3, 4, 5, 6, 7, 8, 9] .nil) ?_ ?_; kernel_rfl)
    simp -implicitDefEqProofs only [Nat.reduceEqDiff, Nat.reduceLeDiff, Nat.reduceAdd, reduceCtorEq, go_sem, ↓reduceIte]
    exact hx_ends c h h10 h13 h9 (by omega)
theorem c128 (c : UInt8) : RR G 128 [byte c] [] (.str (pByte c)) [] := by
  have hc := c.toNat_lt
  have e1 : IntKind.u8.wrap ((c.toNat : Int).tdiv 16) = ((c.toNat / 16 : Nat) : Int) := by
    rw [show (c.toNat : Int).tdiv 16 = ((c.toNat / 16 : Nat) : Int) from (Int.ofNat_tdiv _ _).symm, IntKind.wrap_u8]; omega
  have e2 : (c.toNat : Int).tmod 16 = ((c.toNat % 16 : Nat) : Int) := (Int.ofNat_tmod _ _).symm
  have hp : ∀ h : ¬(c = 34 ∨ c = 92 ∨ c = 36), ¬c = 10 → ¬c = 13 → ¬c = 9 → c.toNat < 32 ∨ 126 < c.toNat → pByte c = [92, 120, hx (c.toNat / 16), hx (c.toNat % 16)] := fun h h10 h13 h9 hr => hx_pair c h h10 h13 h9 hr
  refine ret_intro Tryz.func128 rfl Tryz.results128 (by decide +kernel) rfl (Nat.le_refl _) rfl (by simp) ?_
  simp -implicitDefEqProofs only [e1, e2, Nat.reduceEqDiff, Nat.reduceLeDiff, Nat.reduceAdd, reduceCtorEq, go_sem, ↓reduceIte]
  refine ⟨fun h => by subst h; rfl, fun h10 => ⟨fun h => by subst h; rfl, fun h13 => ⟨fun h => by subst h; rfl, fun h9 => ⟨fun h34 => ⟨fun h92 => ⟨fun h => ?_, fun h36 => ?_⟩, fun h => ?_⟩, fun h => ?_⟩⟩⟩⟩
  · subst h; exact ⟨by decide, rfl⟩
  · refine ⟨fun h32 => ⟨fun h126 => ?_, fun h126 => ?_⟩, fun h32 => ?_⟩
    · refine ⟨by decide, ?_⟩
      refine callW_pure (c193 (c.toNat / 16) (by omega)) rfl rfl ?_
      simp -implicitDefEqProofs only [e2, Nat.reduceEqDiff, Nat.reduceLeDiff, Nat.reduceAdd, reduceCtorEq, go_sem, ↓reduceIte]
      refine ⟨by decide, by decide, ?_⟩
      refine callW_pure (c193 (c.toNat % 16) (by omega)) rfl rfl ?_
      simp -implicitDefEqProofs only [Nat.reduceEqDiff, Nat.reduceLeDiff, Nat.reduceAdd, reduceCtorEq, go_sem, ↓reduceIte]
      rw [hp (by simp [h34, h92, h36]) h10 h13 h9 (by omega)]
      exact ⟨by decide, rfl⟩
    · simp [pByte, h10, h13, h9, h34, h92, h36]
      omega
    · refine ⟨by decide, ?_⟩
      refine callW_pure (c193 (c.toNat / 16) (by omega)) rfl rfl ?_
      simp -implicitDefEqProofs only [e2, Nat.reduceEqDiff, Nat.reduceLeDiff, Nat.reduceAdd, reduceCtorEq, go_sem, ↓reduceIte]
      refine ⟨by decide, by decide, ?_⟩
      refine callW_pure (c193 (c.toNat % 16) (by omega)) rfl rfl ?_
      simp -implicitDefEqProofs only [Nat.reduceEqDiff, Nat.reduceLeDiff, Nat.reduceAdd, reduceCtorEq, go_sem, ↓reduceIte]
      rw [hp (by simp [h34, h92, h36]) h10 h13 h9 (by omega)]
      exact ⟨by decide, rfl⟩
  · subst h; exact ⟨by decide, rfl⟩
  · subst h; exact ⟨by decide, rfl⟩
end Go.Pv
/- Laws of the printing of quotes: the builder's string, whether parts may be, their text. -/
namespace Go.Pv
open Go Go.Proofs
set_option maxRecDepth 4000
variable {G : Frz}
theorem bytesA'_append (l s : Bytes) : bytesA' l ++ s.map (fun c => AV.int .u8 c.toNat) = bytesA' (l ++ s) := by simp [bytesA']
theorem c115 (a : AV) (ha : a = .nilp ∨ a = .ptr 0 0) (l s : Bytes) (hl : l.length + s.length ≤ 4294967296) : RR G 115 [.ptr 0 0, .str s] [bldB a l] (.tup [i64 s.length, .nili]) [bldB (.ptr 0 0) (l ++ s)] := by
  have hlen : ((bytesA' l).length + (s.map (fun c => AV.int .u8 c.toNat)).length ≤ 4294967296) = True := by rw [bytesA'_len]; simp; omega
  unfold bldB
  rcases ha with rfl | rfl
  · refine ret_intro Tryz.func115 rfl Tryz.results115 (by decide +kernel) rfl (Nat.le_refl _) rfl (by simp [renB, ren1, ren0]) ?_
    simp -implicitDefEqProofs only [strLim, lenLim, ne_eq, Nat.reduceLT, Nat.lt_irrefl, Nat.zero_lt_succ, List.getD_cons_zero, Nat.reduceEqDiff, Nat.reduceLeDiff, Nat.reduceAdd, Nat.reduceSub, Int.reduceNe, Int.reduceEq, Int.reduceLE, Int.reduceLT, Int.reduceToNat, Int.reduceNeg, Int.reduceBEq, Int.reduceBNe, reduceCtorEq, go_sem, ↓reduceIte]
    refine callW_at [0] [0] (c181 .nilp (.inl rfl) l) (by simp) rfl rfl rfl rfl rfl ?_
    simp -implicitDefEqProofs only [bldB, bytesA'_len, hl, bytesA'_append, strLim, lenLim, ne_eq, Nat.reduceLT, Nat.lt_irrefl, Nat.zero_lt_succ, List.getD_cons_zero, Nat.reduceEqDiff, Nat.reduceLeDiff, Nat.reduceAdd, Nat.reduceSub, Int.reduceNe, Int.reduceEq, Int.reduceLE, Int.reduceLT, Int.reduceToNat, Int.reduceNeg, Int.reduceBEq, Int.reduceBNe, reduceCtorEq, go_sem, ↓reduceIte]
  · refine ret_intro Tryz.func115 rfl Tryz.results115 (by decide +kernel) rfl (Nat.le_refl _) rfl (by simp [renB, ren1, ren0]) ?_
    simp -implicitDefEqProofs only [strLim, lenLim, ne_eq, Nat.reduceLT, Nat.lt_irrefl, Nat.zero_lt_succ, List.getD_cons_zero, Nat.reduceEqDiff, Nat.reduceLeDiff, Nat.reduceAdd, Nat.reduceSub, Int.reduceNe, Int.reduceEq, Int.reduceLE, Int.reduceLT, Int.reduceToNat, Int.reduceNeg, Int.reduceBEq, Int.reduceBNe, reduceCtorEq, go_sem, ↓reduceIte]
    refine callW_at [0] [0] (c181 (.ptr 0 0) (.inr rfl) l) (by simp) rfl rfl rfl rfl rfl ?_
    simp -implicitDefEqProofs only [bldB, bytesA'_len, hl, bytesA'_append, strLim, lenLim, ne_eq, Nat.reduceLT, Nat.lt_irrefl, Nat.zero_lt_succ, List.getD_cons_zero, Nat.reduceEqDiff, Nat.reduceLeDiff, Nat.reduceAdd, Nat.reduceSub, Int.reduceNe, Int.reduceEq, Int.reduceLE, Int.reduceLT, Int.reduceToNat, Int.reduceNeg, Int.reduceBEq, Int.reduceBNe, reduceCtorEq, go_sem, ↓reduceIte]
theorem c54 (l : List Part) (hl : l.length ≤ 2147483000) (ht : ∀ p ∈ l, p.1.length ≤ 2147483000) : RR G 54 [partsA l] [] (.bool (pMay false l)) [] := by
  unfold partsA
  refine ret_intro Tryz.func54 rfl Tryz.results54 (by decide +kernel) rfl (Nat.le_refl _) rfl (by simp) ?_
  refine wp_mid [(0, partsA l)] [] ?_ fun env ⟨h0, _⟩ => ?_
  · simp -implicitDefEqProofs only [partsA, strLim, lenLim, ne_eq, Nat.reduceLT, Nat.lt_irrefl, Nat.zero_lt_succ, List.getD_cons_zero, Nat.reduceEqDiff, Nat.reduceLeDiff, Nat.reduceAdd, Nat.reduceSub, Int.reduceNe, Int.reduceEq, Int.reduceLE, Int.reduceLT, Int.reduceToNat, Int.reduceNeg, Int.reduceBEq, Int.reduceBNe, reduceCtorEq, go_sem, ↓reduceIte]
  refine wp_ghost (A := Unit) (fun _ => pMay false l = true) (fun _ => []) (fun _ => []) ?_ fun z hz env _ => ?_
  · refine wp_mid [(0, partsA l), (3, i64 (0 : Nat))] [] ?_ fun env ⟨h0, h3, _⟩ => ?_
    · simp -implicitDefEqProofs only [h0, partsA, List.length_map, strLim, lenLim, ne_eq, Nat.reduceLT, Nat.lt_irrefl, Nat.zero_lt_succ, List.getD_cons_zero, Nat.reduceEqDiff, Nat.reduceLeDiff, Nat.reduceAdd, Nat.reduceSub, Int.reduceNe, Int.reduceEq, Int.reduceLE, Int.reduceLT, Int.reduceToNat, Int.reduceNeg, Int.reduceBEq, Int.reduceBNe, reduceCtorEq, go_sem, ↓reduceIte]
      rfl
    rw [wp_block_eq]
    refine wp_loop_use (A := Nat) (fun i => [(0, partsA l), (3, i64 i)]) (fun _ => []) (fun i => i ≤ l.length ∧ pMay false l = pMay (decide (0 < i ∧ (l.getD (i - 1) default).1 = [])) (l.drop i)) (fun i => l.length - i) 0 ⟨Nat.zero_le _, by simp⟩ rfl ⟨h0, h3, trivial⟩ ?_
    rintro i ⟨hi, hp⟩
    by_cases hlt : i < l.length
    · have hg : l.getD i default = l[i] := by simp [hlt]
      have hdr : l.drop i = l[i] :: l.drop (i + 1) := (List.getElem_cons_drop ..).symm
      have hwl : i < 9223372036854775807 := by omega
      have htp : (l[i].1).length ≤ 2147483000 := ht _ (List.getElem_mem hlt)
      have hnx : decide (0 < i + 1 ∧ (l.getD (i + 1 - 1) default).1 = []) = decide (l[i].1 = []) := by simp [hlt]
      rw [hdr] at hp
      generalize l[i] = p at *
      obtain ⟨nm, tx⟩ := p
      simp only at htp
      simp -implicitDefEqProofs only [hlt, partsA, List.length_map, strLim, lenLim, ne_eq, Nat.reduceLT, Nat.lt_irrefl, Nat.zero_lt_succ, List.getD_cons_zero, Nat.reduceEqDiff, Nat.reduceLeDiff, Nat.reduceAdd, Nat.reduceSub, Int.reduceNe, Int.reduceEq, Int.reduceLE, Int.reduceLT, Int.reduceToNat, Int.reduceNeg, Int.reduceBEq, Int.reduceBNe, reduceCtorEq, go_sem, ↓reduceIte]
      (refine WT_ord (t := lin [0, 1, 2, 3, 4, 5, 6, 7, 8, 9, 10, 11, 12] .nil) ?_ ?_; kernel_rfl)
      have T : ((true == true) = true ∧ (true == false) = false ∧ (false == true) = false ∧ (false == false) = true) := by decide
      obtain ⟨b1, b2, b3, b4⟩ := T
      by_cases hnm : nm = []
      · have e1 : (nm == []) = true := by simp [hnm]
        by_cases htx : tx = []
        · have e2 : (tx == []) = true := by simp [htx]
          simp -implicitDefEqProofs only [hlt, hg, partA, e1, e2, b1, strLim, lenLim, ne_eq, Nat.reduceLT, Nat.lt_irrefl, Nat.zero_lt_succ, List.getD_cons_zero, Nat.reduceEqDiff, Nat.reduceLeDiff, Nat.reduceAdd, Nat.reduceSub, Int.reduceNe, Int.reduceEq, Int.reduceLE, Int.reduceLT, Int.reduceToNat, Int.reduceNeg, Int.reduceBEq, Int.reduceBNe, reduceCtorEq, go_sem, ↓reduceIte]
          rw [hp]; simp [pMay, hnm, htx]
        · have e2 : (tx == []) = false := by simp [htx]
          simp -implicitDefEqProofs only [hlt, hg, hwl, wrap_cast_succ, partA, e1, e2, b2, strLim, lenLim, ne_eq, Nat.reduceLT, Nat.lt_irrefl, Nat.zero_lt_succ, List.getD_cons_zero, Nat.reduceEqDiff, Nat.reduceLeDiff, Nat.reduceAdd, Nat.reduceSub, Int.reduceNe, Int.reduceEq, Int.reduceLE, Int.reduceLT, Int.reduceToNat, Int.reduceNeg, Int.reduceBEq, Int.reduceBNe, reduceCtorEq, go_sem, ↓reduceIte]
          refine ⟨fun h0i => ?_, fun h0i => ⟨i + 1, ⟨⟨by omega, by rw [hp, hnx]; simp [pMay, hnm, htx, h0i]⟩, by omega⟩, rfl⟩⟩
          have hw : IntKind.i64.wrap ((i : Int) - 1) = ((i - 1 : Nat) : Int) := by rw [IntKind.wrap_i64]; omega
          rw [hw]
          simp only [Int.toNat_natCast]
          refine ⟨by omega, by omega, fun h1 => ?_, fun h1 => ⟨i + 1, ⟨⟨by omega, ?_⟩, by omega⟩, rfl⟩⟩
          · have h2 : decide (0 < i ∧ (l.getD (i - 1) default).1 = []) = true := by simp only [decide_eq_true_eq]; exact ⟨h0i, h1⟩
            rw [hp, h2]; simp [pMay, hnm]
          · have h2 : decide (0 < i ∧ (l.getD (i - 1) default).1 = []) = false := by simp only [decide_eq_false_iff_not]; exact fun h => h1 h.2
            rw [hp, hnx, h2]; simp [pMay, hnm, htx]
      · have e1 : (nm == []) = false := by simp [hnm]
        by_cases htx : tx = []
        · have e2 : (tx == []) = true := by simp [htx]
          simp -implicitDefEqProofs only [hlt, hg, hwl, wrap_cast_succ, partA, e1, e2, b3, strLim, lenLim, ne_eq, Nat.reduceLT, Nat.lt_irrefl, Nat.zero_lt_succ, List.getD_cons_zero, Nat.reduceEqDiff, Nat.reduceLeDiff, Nat.reduceAdd, Nat.reduceSub, Int.reduceNe, Int.reduceEq, Int.reduceLE, Int.reduceLT, Int.reduceToNat, Int.reduceNeg, Int.reduceBEq, Int.reduceBNe, reduceCtorEq, go_sem, ↓reduceIte]
          refine callW_pure (c22 nm (by simp only [strLim] at *; omega)) rfl rfl ?_
          rw [name2_P]
          simp -implicitDefEqProofs only [hlt, hg, hwl, wrap_cast_succ, partA, e1, e2, strLim, lenLim, ne_eq, Nat.reduceLT, Nat.lt_irrefl, Nat.zero_lt_succ, List.getD_cons_zero, Nat.reduceEqDiff, Nat.reduceLeDiff, Nat.reduceAdd, Nat.reduceSub, Int.reduceNe, Int.reduceEq, Int.reduceLE, Int.reduceLT, Int.reduceToNat, Int.reduceNeg, Int.reduceBEq, Int.reduceBNe, reduceCtorEq, go_sem, ↓reduceIte]
          refine ⟨fun hn => ⟨fun h0i => ?_, fun h0i => ?_⟩, fun hn => ?_⟩
          · exact ⟨i + 1, ⟨⟨by omega, by rw [hp, hnx]; simp [pMay, hnm, htx, hn]⟩, by omega⟩, rfl⟩
          · exact ⟨i + 1, ⟨⟨by omega, by rw [hp, hnx]; simp [pMay, hnm, htx, hn]⟩, by omega⟩, rfl⟩
          · rw [hp]; simp [pMay, hnm, hn]
        · have e2 : (tx == []) = false := by simp [htx]
          simp -implicitDefEqProofs only [hlt, hg, partA, e1, e2, b4, strLim, lenLim, ne_eq, Nat.reduceLT, Nat.lt_irrefl, Nat.zero_lt_succ, List.getD_cons_zero, Nat.reduceEqDiff, Nat.reduceLeDiff, Nat.reduceAdd, Nat.reduceSub, Int.reduceNe, Int.reduceEq, Int.reduceLE, Int.reduceLT, Int.reduceToNat, Int.reduceNeg, Int.reduceBEq, Int.reduceBNe, reduceCtorEq, go_sem, ↓reduceIte]
          rw [hp]; simp [pMay, hnm, htx]
    · have : i = l.length := by omega
      subst this
      rw [List.drop_length] at hp
      simp -implicitDefEqProofs only [hlt, partsA, List.length_map, strLim, lenLim, ne_eq, Nat.reduceLT, Nat.lt_irrefl, Nat.zero_lt_succ, List.getD_cons_zero, Nat.reduceEqDiff, Nat.reduceLeDiff, Nat.reduceAdd, Nat.reduceSub, Int.reduceNe, Int.reduceEq, Int.reduceLE, Int.reduceLT, Int.reduceToNat, Int.reduceNeg, Int.reduceBEq, Int.reduceBNe, reduceCtorEq, go_sem, ↓reduceIte]
      exact ⟨(), by rw [hp] <;> rfl⟩
  simp -implicitDefEqProofs only [hz, strLim, lenLim, ne_eq, Nat.reduceLT, Nat.lt_irrefl, Nat.zero_lt_succ, List.getD_cons_zero, Nat.reduceEqDiff, Nat.reduceLeDiff, Nat.reduceAdd, Nat.reduceSub, Int.reduceNe, Int.reduceEq, Int.reduceLE, Int.reduceLT, Int.reduceToNat, Int.reduceNeg, Int.reduceBEq, Int.reduceBNe, reduceCtorEq, go_sem, ↓reduceIte]
theorem flat_take (l : List Part) (i : Nat) (h : i < l.length) : l.take (i + 1) = l.take i ++ [l[i]] := by rw [List.take_add_one]; simp [h]
theorem flat_len (l : List Part) (i : Nat) (h : i < l.length) : ((l.take i).flatMap pPart).length + (pPart l[i]).length ≤ (l.flatMap pPart).length := by
  have h1 : l.flatMap pPart = (l.take (i + 1)).flatMap pPart ++ (l.drop (i + 1)).flatMap pPart := by rw [← List.flatMap_append, List.take_append_drop]
  rw [h1, flat_take l i h, List.flatMap_append]
  simp
theorem pText_take (s : Bytes) (k : Nat) (h : k < s.length) : pText (s.take (k + 1)) = pText (s.take k) ++ pByte (s.getD k 0) := by
  unfold pText
  rw [List.take_add_one, List.flatMap_append]
  simp [h]
theorem pText_le (s : Bytes) (k : Nat) : (pText (s.take k)).length ≤ (pText s).length := by
  have h1 : pText s = pText (s.take k) ++ pText (s.drop k) := by unfold pText; rw [← List.flatMap_append, List.take_append_drop]
  rw [h1]; simp
theorem pByte_pos (c : UInt8) : 1 ≤ (pByte c).length := by
  unfold pByte
  repeat' split
  all_goals simp
theorem pText_ge (s : Bytes) : s.length ≤ (pText s).length := by
  induction s with
  | nil => simp
  | cons c s ih =>
    have e : pText (c :: s) = pByte c ++ pText s := by simp [pText]
    have := pByte_pos c
    rw [e, List.length_append, List.length_cons]
    omega
/-- A part's name, as it stands in a quote. -/
def pName (nm : Bytes) : Bytes := if nm = [] then [] else 36 :: 123 :: (nm ++ [125])
theorem c55 (l : List Part) (hl : l.length ≤ 2147483000) (hp : (pPrint l).length ≤ 2147483000) : RR G 55 [partsA l] [] (.str (pPrint l)) [] := by
  have hp' : (l.flatMap pPart).length ≤ 2147483000 := by
    unfold pPrint at hp
    rw [List.length_cons, List.length_append] at hp
    omega
  unfold partsA
  refine ret_intro Tryz.func55 rfl Tryz.results55 (by decide +kernel) rfl (Nat.le_refl _) rfl (by simp) ?_
  refine wp_assoc (wp_mid [(0, partsA l), (3, .str [34])] [] ?_ fun env ⟨h0, h3, _⟩ => ?_)
  · simp -implicitDefEqProofs only [partsA, strLim, lenLim, ne_eq, Nat.reduceLT, Nat.lt_irrefl, Nat.zero_lt_succ, List.getD_cons_zero, Nat.reduceEqDiff, Nat.reduceLeDiff, Nat.reduceAdd, Nat.reduceSub, Int.reduceNe, Int.reduceEq, Int.reduceLE, Int.reduceLT, Int.reduceToNat, Int.reduceNeg, Int.reduceBEq, Int.reduceBNe, reduceCtorEq, go_sem, ↓reduceIte]
  refine wp_mid [(3, .str (34 :: l.flatMap pPart))] [] ?_ fun env ⟨h3, _⟩ => ?_
  · refine wp_mid [(0, partsA l), (3, .str [34]), (4, i64 (0 : Nat))] [] ?_ fun env ⟨h0, h3, h4, _⟩ => ?_
    · simp -implicitDefEqProofs only [h0, h3, partsA, List.length_map, strLim, lenLim, ne_eq, Nat.reduceLT, Nat.lt_irrefl, Nat.zero_lt_succ, List.getD_cons_zero, Nat.reduceEqDiff, Nat.reduceLeDiff, Nat.reduceAdd, Nat.reduceSub, Int.reduceNe, Int.reduceEq, Int.reduceLE, Int.reduceLT, Int.reduceToNat, Int.reduceNeg, Int.reduceBEq, Int.reduceBNe, reduceCtorEq, go_sem, ↓reduceIte]
      rfl
    rw [wp_block_eq]
    refine wp_loop_use (A := Nat) (fun i => [(0, partsA l), (3, .str (34 :: (l.take i).flatMap pPart)), (4, i64 i)]) (fun _ => []) (fun i => i ≤ l.length) (fun i => l.length - i) 0 (Nat.zero_le _) rfl ⟨h0, h3, h4, trivial⟩ ?_
    intro i hi
    by_cases hlt : i < l.length
    · have hg : l.getD i default = l[i] := by simp [hlt]
      have hwl : i < 9223372036854775807 := by omega
      have htk := flat_take l i hlt
      have hfl := flat_len l i hlt
      generalize l[i] = p at *
      obtain ⟨nm, tx⟩ := p
      have hpp : pPart (nm, tx) = pName nm ++ pText tx := rfl
      rw [hpp, List.length_append] at hfl
      have hnl : nm.length ≤ (pName nm).length := by unfold pName; split <;> simp_all; omega
      generalize hA : (34 :: (l.take i).flatMap pPart : Bytes) = A at *
      have hAl : A.length = 1 + ((l.take i).flatMap pPart).length := by rw [← hA]; simp; omega
      refine wp_mid [(0, partsA l), (3, .str A), (4, i64 i)] [] ?_ fun env ⟨h0, h3, h4, _⟩ => ?_
      · simp -implicitDefEqProofs only [hlt, hA, partsA, List.length_map, strLim, lenLim, ne_eq, Nat.reduceLT, Nat.lt_irrefl, Nat.zero_lt_succ, List.getD_cons_zero, Nat.reduceEqDiff, Nat.reduceLeDiff, Nat.reduceAdd, Nat.reduceSub, Int.reduceNe, Int.reduceEq, Int.reduceLE, Int.reduceLT, Int.reduceToNat, Int.reduceNeg, Int.reduceBEq, Int.reduceBNe, reduceCtorEq, go_sem, ↓reduceIte]
      refine wp_mid [(0, partsA l), (3, .str (A ++ pName nm ++ pText tx)), (4, i64 i)] [] ?_ fun env ⟨h0, h3, h4, _⟩ => ?_
      · rw [wp_block_eq]
        refine wp_assoc (wp_mid [(0, partsA l), (3, .str (A ++ pName nm)), (4, i64 i), (5, i64 (0 : Nat))] [] ?_ fun env ⟨h0, h3, h4, h5, _⟩ => ?_)
        · simp -implicitDefEqProofs only [h0, h3, h4, hlt, hg, partsA, partA, List.length_map, strLim, lenLim, ne_eq, Nat.reduceLT, Nat.lt_irrefl, Nat.zero_lt_succ, List.getD_cons_zero, Nat.reduceEqDiff, Nat.reduceLeDiff, Nat.reduceAdd, Nat.reduceSub, Int.reduceNe, Int.reduceEq, Int.reduceLE, Int.reduceLT, Int.reduceToNat, Int.reduceNeg, Int.reduceBEq, Int.reduceBNe, reduceCtorEq, go_sem, ↓reduceIte]
          refine ⟨fun hn => ⟨by simp [pName, hn], rfl⟩, fun hn => ?_⟩
          have hnm : pName nm = 36 :: 123 :: (nm ++ [125]) := by unfold pName; rw [if_neg hn]
          rw [hnm] at hfl ⊢
          simp only [List.length_append, List.length_cons, List.length_nil] at hfl ⊢
          exact ⟨by omega, by omega, by omega, by simp, rfl⟩
        rw [wp_block_eq]
        refine wp_loop_use (A := Nat) (fun k => [(0, partsA l), (3, .str (A ++ pName nm ++ pText (tx.take k))), (4, i64 i), (5, i64 k)]) (fun _ => []) (fun k => k ≤ tx.length) (fun k => tx.length - k) 0 (Nat.zero_le _) rfl ⟨h0, by rw [h3]; simp [pText], h4, h5, trivial⟩ ?_
        intro k hk
        by_cases hkt : k < tx.length
        · have hpt := pText_take tx k hkt
          have hpl := pText_le tx (k + 1)
          rw [hpt, List.length_append] at hpl
          have hge := pText_ge tx
          have hkw : k < 9223372036854775807 := by omega
          simp -implicitDefEqProofs only [hlt, hg, hkt, partsA, partA, List.length_map, strLim, lenLim, ne_eq, Nat.reduceLT, Nat.lt_irrefl, Nat.zero_lt_succ, List.getD_cons_zero, Nat.reduceEqDiff, Nat.reduceLeDiff, Nat.reduceAdd, Nat.reduceSub, Int.reduceNe, Int.reduceEq, Int.reduceLE, Int.reduceLT, Int.reduceToNat, Int.reduceNeg, Int.reduceBEq, Int.reduceBNe, reduceCtorEq, go_sem, ↓reduceIte]
          refine callW_pure (c128 _) rfl rfl ?_
          simp -implicitDefEqProofs only [hkw, wrap_cast_succ, strLim, lenLim, ne_eq, Nat.reduceLT, Nat.lt_irrefl, Nat.zero_lt_succ, List.getD_cons_zero, Nat.reduceEqDiff, Nat.reduceLeDiff, Nat.reduceAdd, Nat.reduceSub, Int.reduceNe, Int.reduceEq, Int.reduceLE, Int.reduceLT, Int.reduceToNat, Int.reduceNeg, Int.reduceBEq, Int.reduceBNe, reduceCtorEq, go_sem, ↓reduceIte]
          simp only [List.length_append]
          exact ⟨by omega, k + 1, ⟨by omega, by omega⟩, by rw [hpt]; simp, rfl⟩
        · have : k = tx.length := by omega
          subst this
          simp -implicitDefEqProofs only [hlt, hg, hkt, partsA, partA, List.length_map, List.take_length, strLim, lenLim, ne_eq, Nat.reduceLT, Nat.lt_irrefl, Nat.zero_lt_succ, List.getD_cons_zero, Nat.reduceEqDiff, Nat.reduceLeDiff, Nat.reduceAdd, Nat.reduceSub, Int.reduceNe, Int.reduceEq, Int.reduceLE, Int.reduceLT, Int.reduceToNat, Int.reduceNeg, Int.reduceBEq, Int.reduceBNe, reduceCtorEq, go_sem, ↓reduceIte]
      · simp -implicitDefEqProofs only [h0, h3, h4, hwl, wrap_cast_succ, strLim, lenLim, ne_eq, Nat.reduceLT, Nat.lt_irrefl, Nat.zero_lt_succ, List.getD_cons_zero, Nat.reduceEqDiff, Nat.reduceLeDiff, Nat.reduceAdd, Nat.reduceSub, Int.reduceNe, Int.reduceEq, Int.reduceLE, Int.reduceLT, Int.reduceToNat, Int.reduceNeg, Int.reduceBEq, Int.reduceBNe, reduceCtorEq, go_sem, ↓reduceIte]
        exact ⟨i + 1, ⟨by omega, by omega⟩, by rw [htk, ← hA]; simp [hpp], rfl⟩
    · have : i = l.length := by omega
      subst this
      simp -implicitDefEqProofs only [hlt, partsA, List.length_map, List.take_length, strLim, lenLim, ne_eq, Nat.reduceLT, Nat.lt_irrefl, Nat.zero_lt_succ, List.getD_cons_zero, Nat.reduceEqDiff, Nat.reduceLeDiff, Nat.reduceAdd, Nat.reduceSub, Int.reduceNe, Int.reduceEq, Int.reduceLE, Int.reduceLT, Int.reduceToNat, Int.reduceNeg, Int.reduceBEq, Int.reduceBNe, reduceCtorEq, go_sem, ↓reduceIte]
  simp -implicitDefEqProofs only [h3, strLim, lenLim, ne_eq, Nat.reduceLT, Nat.lt_irrefl, Nat.zero_lt_succ, List.getD_cons_zero, Nat.reduceEqDiff, Nat.reduceLeDiff, Nat.reduceAdd, Nat.reduceSub, Int.reduceNe, Int.reduceEq, Int.reduceLE, Int.reduceLT, Int.reduceToNat, Int.reduceNeg, Int.reduceBEq, Int.reduceBNe, reduceCtorEq, go_sem, ↓reduceIte]
  exact ⟨by omega, rfl⟩
theorem c48 (hG : GOk G) (l : List Part) (hl : l.length ≤ 2147483000) (hp : (pPrint l).length ≤ 2147483000) : RR G 48 [partsA l] [] (.tup [.str (prQ l).1, i64 (prQ l).2]) [] := by
  have hp' : (l.flatMap pPart).length ≤ 2147483000 := by
    unfold pPrint at hp
    rw [List.length_cons, List.length_append] at hp
    omega
  unfold partsA prQ
  refine ret_intro Tryz.func48 rfl Tryz.results48 (by decide +kernel) rfl (Nat.le_refl _) rfl (by simp) ?_
  refine wp_mid [(0, partsA l)] [] ?_ fun env ⟨h0, _⟩ => ?_
  · simp -implicitDefEqProofs only [partsA, strLim, lenLim, ne_eq, Nat.reduceLT, Nat.lt_irrefl, Nat.zero_lt_succ, List.getD_cons_zero, Nat.reduceEqDiff, Nat.reduceLeDiff, Nat.reduceAdd, Nat.reduceSub, Int.reduceNe, Int.reduceEq, Int.reduceLE, Int.reduceLT, Int.reduceToNat, Int.reduceNeg, Int.reduceBEq, Int.reduceBNe, reduceCtorEq, go_sem, ↓reduceIte]
  by_cases hm : pMay false l = true
  rotate_left
  · have hm : pMay false l = false := by simpa using hm
    simp -implicitDefEqProofs only [h0, partsA, strLim, lenLim, ne_eq, Nat.reduceLT, Nat.lt_irrefl, Nat.zero_lt_succ, List.getD_cons_zero, Nat.reduceEqDiff, Nat.reduceLeDiff, Nat.reduceAdd, Nat.reduceSub, Int.reduceNe, Int.reduceEq, Int.reduceLE, Int.reduceLT, Int.reduceToNat, Int.reduceNeg, Int.reduceBEq, Int.reduceBNe, reduceCtorEq, go_sem, ↓reduceIte]
    refine callW_pure (c120 l hl) rfl rfl ?_
    rw [hm]
    simp -implicitDefEqProofs only [strLim, lenLim, ne_eq, Nat.reduceLT, Nat.lt_irrefl, Nat.zero_lt_succ, List.getD_cons_zero, Nat.reduceEqDiff, Nat.reduceLeDiff, Nat.reduceAdd, Nat.reduceSub, Int.reduceNe, Int.reduceEq, Int.reduceLE, Int.reduceLT, Int.reduceToNat, Int.reduceNeg, Int.reduceBEq, Int.reduceBNe, reduceCtorEq, go_sem, ↓reduceIte]
    rfl
  refine wp_mid [(0, partsA l)] [] ?_ fun env ⟨h0, _⟩ => ?_
  · simp -implicitDefEqProofs only [h0, partsA, strLim, lenLim, ne_eq, Nat.reduceLT, Nat.lt_irrefl, Nat.zero_lt_succ, List.getD_cons_zero, Nat.reduceEqDiff, Nat.reduceLeDiff, Nat.reduceAdd, Nat.reduceSub, Int.reduceNe, Int.reduceEq, Int.reduceLE, Int.reduceLT, Int.reduceToNat, Int.reduceNeg, Int.reduceBEq, Int.reduceBNe, reduceCtorEq, go_sem, ↓reduceIte]
    refine callW_pure (c120 l hl) rfl rfl ?_
    rw [hm]
    simp -implicitDefEqProofs only [h0, partsA, strLim, lenLim, ne_eq, Nat.reduceLT, Nat.lt_irrefl, Nat.zero_lt_succ, List.getD_cons_zero, Nat.reduceEqDiff, Nat.reduceLeDiff, Nat.reduceAdd, Nat.reduceSub, Int.reduceNe, Int.reduceEq, Int.reduceLE, Int.reduceLT, Int.reduceToNat, Int.reduceNeg, Int.reduceBEq, Int.reduceBNe, reduceCtorEq, go_sem, ↓reduceIte]
  refine wp_mid [(0, partsA l), (4, .ptr 0 0)] [bldB .nilp []] ?_ fun env ⟨h0, h4, _⟩ => ?_
  · simp -implicitDefEqProofs only [h0, partsA, bldB, strLim, lenLim, ne_eq, Nat.reduceLT, Nat.lt_irrefl, Nat.zero_lt_succ, List.getD_cons_zero, Nat.reduceEqDiff, Nat.reduceLeDiff, Nat.reduceAdd, Nat.reduceSub, Int.reduceNe, Int.reduceEq, Int.reduceLE, Int.reduceLT, Int.reduceToNat, Int.reduceNeg, Int.reduceBEq, Int.reduceBNe, reduceCtorEq, go_sem, ↓reduceIte]
    rfl
  refine wp_mid [(0, partsA l), (4, .ptr 0 0)] [bldB (.ptr 0 0) [34]] ?_ fun env ⟨h0, h4, _⟩ => ?_
  · simp -implicitDefEqProofs only [h0, h4, strLim, lenLim, ne_eq, Nat.reduceLT, Nat.lt_irrefl, Nat.zero_lt_succ, List.getD_cons_zero, Nat.reduceEqDiff, Nat.reduceLeDiff, Nat.reduceAdd, Nat.reduceSub, Int.reduceNe, Int.reduceEq, Int.reduceLE, Int.reduceLT, Int.reduceToNat, Int.reduceNeg, Int.reduceBEq, Int.reduceBNe, reduceCtorEq, go_sem, ↓reduceIte]
    refine callW_at [0] [0] (c121 .nilp (.inl rfl) [] 34 (by simp)) (by simp) rfl rfl rfl rfl rfl ?_
    simp -implicitDefEqProofs only [h0, h4, bldB, strLim, lenLim, ne_eq, Nat.reduceLT, Nat.lt_irrefl, Nat.zero_lt_succ, List.getD_cons_zero, Nat.reduceEqDiff, Nat.reduceLeDiff, Nat.reduceAdd, Nat.reduceSub, Int.reduceNe, Int.reduceEq, Int.reduceLE, Int.reduceLT, Int.reduceToNat, Int.reduceNeg, Int.reduceBEq, Int.reduceBNe, reduceCtorEq, go_sem, ↓reduceIte]
  refine wp_ghost (A := List Blk) (fun _ => True) (fun z => bldB (.ptr 0 0) (34 :: l.flatMap pPart) :: z) (fun _ => [(4, .ptr 0 0)]) ?_ fun z _ env ⟨h4, _⟩ => ?_
  · refine wp_mid [(4, .ptr 0 0), (12, partsA l), (13, i64 l.length), (14, i64 (0 : Nat))] [bldB (.ptr 0 0) [34]] ?_ fun env ⟨h4, h12, h13, h14, _⟩ => ?_
    · simp -implicitDefEqProofs only [h0, h4, partsA, List.length_map, strLim, lenLim, ne_eq, Nat.reduceLT, Nat.lt_irrefl, Nat.zero_lt_succ, List.getD_cons_zero, Nat.reduceEqDiff, Nat.reduceLeDiff, Nat.reduceAdd, Nat.reduceSub, Int.reduceNe, Int.reduceEq, Int.reduceLE, Int.reduceLT, Int.reduceToNat, Int.reduceNeg, Int.reduceBEq, Int.reduceBNe, reduceCtorEq, go_sem, ↓reduceIte]
      rfl
    rw [wp_block_eq]
    refine wp_loop_garb (A := Nat) (fun i => [(4, .ptr 0 0), (12, partsA l), (13, i64 l.length), (14, i64 i)]) (fun i => [bldB (.ptr 0 0) (34 :: (l.take i).flatMap pPart)]) (fun i => i ≤ l.length) (fun i => l.length - i) 0 (Nat.zero_le _) rfl ⟨h4, h12, h13, h14, trivial⟩ ?_ ?_
    · intro x hx
      exact ⟨Nat.zero_le _, by simp [bldB, bytesA', renB, ren1, ren0], by simp [partsA, ren, ren2, ren1, ren0]⟩
    intro i hi
    by_cases hlt : i < l.length
    · have hg : l.getD i default = l[i] := by simp [hlt]
      have hwl : i < 9223372036854775807 := by omega
      have htk := flat_take l i hlt
      have hfl := flat_len l i hlt
      generalize l[i] = p at *
      obtain ⟨nm, tx⟩ := p
      have hpp : pPart (nm, tx) = pName nm ++ pText tx := rfl
      rw [hpp, List.length_append] at hfl
      generalize hA : (34 :: (l.take i).flatMap pPart : Bytes) = A at *
      have hAl : A.length = 1 + ((l.take i).flatMap pPart).length := by rw [← hA]; simp; omega
      have hbA (x : Bytes) : renB [0] (bldB (.ptr 0 0) x) = bldB (.ptr 0 0) x := by simp [bldB, bytesA', renB, ren1, ren0]
      refine wp_assoc (wp_mid [(4, .ptr 0 0), (12, partsA l), (13, i64 l.length), (14, i64 i)] [bldB (.ptr 0 0) A] ?_ fun env ⟨h4, h12, h13, h14, _⟩ => ?_)
      · simp -implicitDefEqProofs only [hlt, hA, strLim, lenLim, ne_eq, Nat.reduceLT, Nat.lt_irrefl, Nat.zero_lt_succ, List.getD_cons_zero, Nat.reduceEqDiff, Nat.reduceLeDiff, Nat.reduceAdd, Nat.reduceSub, Int.reduceNe, Int.reduceEq, Int.reduceLE, Int.reduceLT, Int.reduceToNat, Int.reduceNeg, Int.reduceBEq, Int.reduceBNe, reduceCtorEq, go_sem, ↓reduceIte]
      refine wp_mid [(4, .ptr 0 0), (12, partsA l), (13, i64 l.length), (14, i64 i)] [bldB (.ptr 0 0) (A ++ pName nm ++ pText tx), .cells 78 [.str nm, .str tx]] ?_ fun env ⟨h4, h12, h13, h14, _⟩ => ?_
      · rw [wp_block_eq]
        refine wp_mid [(4, .ptr 0 0), (12, partsA l), (13, i64 l.length), (14, i64 i), (6, .ptr 1 0)] [bldB (.ptr 0 0) A, .cells 78 [.str nm, .str tx]] ?_ fun env ⟨h4, h12, h13, h14, h6, _⟩ => ?_
        · simp -implicitDefEqProofs only [h4, h12, h13, h14, hlt, hg, partsA, partA, List.length_map, strLim, lenLim, ne_eq, Nat.reduceLT, Nat.lt_irrefl, Nat.zero_lt_succ, List.getD_cons_zero, Nat.reduceEqDiff, Nat.reduceLeDiff, Nat.reduceAdd, Nat.reduceSub, Int.reduceNe, Int.reduceEq, Int.reduceLE, Int.reduceLT, Int.reduceToNat, Int.reduceNeg, Int.reduceBEq, Int.reduceBNe, reduceCtorEq, go_sem, ↓reduceIte]
        refine wp_mid [(4, .ptr 0 0), (12, partsA l), (13, i64 l.length), (14, i64 i), (6, .ptr 1 0)] [bldB (.ptr 0 0) (A ++ pName nm), .cells 78 [.str nm, .str tx]] ?_ fun env ⟨h4, h12, h13, h14, h6, _⟩ => ?_
        · simp -implicitDefEqProofs only [h4, h12, h13, h14, h6, strLim, lenLim, ne_eq, Nat.reduceLT, Nat.lt_irrefl, Nat.zero_lt_succ, List.getD_cons_zero, Nat.reduceEqDiff, Nat.reduceLeDiff, Nat.reduceAdd, Nat.reduceSub, Int.reduceNe, Int.reduceEq, Int.reduceLE, Int.reduceLT, Int.reduceToNat, Int.reduceNeg, Int.reduceBEq, Int.reduceBNe, reduceCtorEq, go_sem, ↓reduceIte]
          refine ⟨fun hn => by simp [pName, hn], fun hn => ?_⟩
          have hnm : pName nm = 36 :: 123 :: (nm ++ [125]) := by unfold pName; rw [if_neg hn]
          rw [hnm] at hfl ⊢
          simp only [List.length_append, List.length_cons, List.length_nil] at hfl ⊢
          refine ⟨by omega, by omega, ?_⟩
          refine callW_at [0] [0] (c115 (.ptr 0 0) (.inr rfl) A (36 :: 123 :: (nm ++ [125])) (by simp only [List.length_append, List.length_cons, List.length_nil]; omega)) (by simp) rfl rfl rfl rfl rfl ?_
          simp -implicitDefEqProofs only [h4, h12, h13, h14, h6, bldB, strLim, lenLim, ne_eq, Nat.reduceLT, Nat.lt_irrefl, Nat.zero_lt_succ, List.getD_cons_zero, Nat.reduceEqDiff, Nat.reduceLeDiff, Nat.reduceAdd, Nat.reduceSub, Int.reduceNe, Int.reduceEq, Int.reduceLE, Int.reduceLT, Int.reduceToNat, Int.reduceNeg, Int.reduceBEq, Int.reduceBNe, reduceCtorEq, go_sem, ↓reduceIte]
        refine wp_mid [(4, .ptr 0 0), (12, partsA l), (13, i64 l.length), (14, i64 i), (6, .ptr 1 0), (28, i64 tx.length), (29, i64 (0 : Nat))] [bldB (.ptr 0 0) (A ++ pName nm), .cells 78 [.str nm, .str tx]] ?_ fun env ⟨h4, h12, h13, h14, h6, h28, h29, _⟩ => ?_
        · simp -implicitDefEqProofs only [h4, h12, h13, h14, h6, strLim, lenLim, ne_eq, Nat.reduceLT, Nat.lt_irrefl, Nat.zero_lt_succ, List.getD_cons_zero, Nat.reduceEqDiff, Nat.reduceLeDiff, Nat.reduceAdd, Nat.reduceSub, Int.reduceNe, Int.reduceEq, Int.reduceLE, Int.reduceLT, Int.reduceToNat, Int.reduceNeg, Int.reduceBEq, Int.reduceBNe, reduceCtorEq, go_sem, ↓reduceIte]
          rfl
        rw [wp_block_eq]
        refine wp_loop_use (A := Nat) (fun k => [(4, .ptr 0 0), (12, partsA l), (13, i64 l.length), (14, i64 i), (6, .ptr 1 0), (28, i64 tx.length), (29, i64 k)]) (fun k => [bldB (.ptr 0 0) (A ++ pName nm ++ pText (tx.take k)), .cells 78 [.str nm, .str tx]]) (fun k => k ≤ tx.length) (fun k => tx.length - k) 0 (Nat.zero_le _) (by simp [pText]) ⟨h4, h12, h13, h14, h6, h28, h29, trivial⟩ ?_
        intro k hk
        by_cases hkt : k < tx.length
        · have hpt := pText_take tx k hkt
          have hpl := pText_le tx (k + 1)
          rw [hpt, List.length_append] at hpl
          have hge := pText_ge tx
          have hkw : k < 9223372036854775807 := by omega
          simp -implicitDefEqProofs only [hkt, strLim, lenLim, ne_eq, Nat.reduceLT, Nat.lt_irrefl, Nat.zero_lt_succ, List.getD_cons_zero, Nat.reduceEqDiff, Nat.reduceLeDiff, Nat.reduceAdd, Nat.reduceSub, Int.reduceNe, Int.reduceEq, Int.reduceLE, Int.reduceLT, Int.reduceToNat, Int.reduceNeg, Int.reduceBEq, Int.reduceBNe, reduceCtorEq, go_sem, ↓reduceIte]
          refine callW_pure (c122 hG _) rfl rfl ?_
          simp -implicitDefEqProofs only [strLim, lenLim, ne_eq, Nat.reduceLT, Nat.lt_irrefl, Nat.zero_lt_succ, List.getD_cons_zero, Nat.reduceEqDiff, Nat.reduceLeDiff, Nat.reduceAdd, Nat.reduceSub, Int.reduceNe, Int.reduceEq, Int.reduceLE, Int.reduceLT, Int.reduceToNat, Int.reduceNeg, Int.reduceBEq, Int.reduceBNe, reduceCtorEq, go_sem, ↓reduceIte]
          refine callW_at [0] [0] (c115 (.ptr 0 0) (.inr rfl) (A ++ pName nm ++ pText (tx.take k)) (pByte (tx.getD k 0)) (by simp only [List.length_append]; omega)) (by simp) rfl rfl rfl rfl rfl ?_
          simp -implicitDefEqProofs only [hkw, wrap_cast_succ, bldB, strLim, lenLim, ne_eq, Nat.reduceLT, Nat.lt_irrefl, Nat.zero_lt_succ, List.getD_cons_zero, Nat.reduceEqDiff, Nat.reduceLeDiff, Nat.reduceAdd, Nat.reduceSub, Int.reduceNe, Int.reduceEq, Int.reduceLE, Int.reduceLT, Int.reduceToNat, Int.reduceNeg, Int.reduceBEq, Int.reduceBNe, reduceCtorEq, go_sem, ↓reduceIte]
          exact ⟨k + 1, ⟨by omega, by omega⟩, by rw [hpt]; simp [bytesA'], rfl⟩
        · have : k = tx.length := by omega
          subst this
          simp -implicitDefEqProofs only [hkt, List.take_length, strLim, lenLim, ne_eq, Nat.reduceLT, Nat.lt_irrefl, Nat.zero_lt_succ, List.getD_cons_zero, Nat.reduceEqDiff, Nat.reduceLeDiff, Nat.reduceAdd, Nat.reduceSub, Int.reduceNe, Int.reduceEq, Int.reduceLE, Int.reduceLT, Int.reduceToNat, Int.reduceNeg, Int.reduceBEq, Int.reduceBNe, reduceCtorEq, go_sem, ↓reduceIte]
      · simp -implicitDefEqProofs only [h4, h12, h13, h14, hwl, wrap_cast_succ, strLim, lenLim, ne_eq, Nat.reduceLT, Nat.lt_irrefl, Nat.zero_lt_succ, List.getD_cons_zero, Nat.reduceEqDiff, Nat.reduceLeDiff, Nat.reduceAdd, Nat.reduceSub, Int.reduceNe, Int.reduceEq, Int.reduceLE, Int.reduceLT, Int.reduceToNat, Int.reduceNeg, Int.reduceBEq, Int.reduceBNe, reduceCtorEq, go_sem, ↓reduceIte]
        exact ⟨i + 1, ⟨by omega, by omega⟩, by rw [htk, ← hA]; simp [hpp], rfl⟩
    · have : i = l.length := by omega
      subst this
      simp -implicitDefEqProofs only [hlt, partsA, List.length_map, List.take_length, strLim, lenLim, ne_eq, Nat.reduceLT, Nat.lt_irrefl, Nat.zero_lt_succ, List.getD_cons_zero, Nat.reduceEqDiff, Nat.reduceLeDiff, Nat.reduceAdd, Nat.reduceSub, Int.reduceNe, Int.reduceEq, Int.reduceLE, Int.reduceLT, Int.reduceToNat, Int.reduceNeg, Int.reduceBEq, Int.reduceBNe, reduceCtorEq, go_sem, ↓reduceIte]
      exact ⟨[], rfl⟩
  refine wp_mid [(4, .ptr 0 0)] (bldB (.ptr 0 0) (pPrint l) :: z) ?_ fun env ⟨h4, _⟩ => ?_
  · simp -implicitDefEqProofs only [h4, strLim, lenLim, ne_eq, Nat.reduceLT, Nat.lt_irrefl, Nat.zero_lt_succ, List.getD_cons_zero, Nat.reduceEqDiff, Nat.reduceLeDiff, Nat.reduceAdd, Nat.reduceSub, Int.reduceNe, Int.reduceEq, Int.reduceLE, Int.reduceLT, Int.reduceToNat, Int.reduceNeg, Int.reduceBEq, Int.reduceBNe, reduceCtorEq, go_sem, ↓reduceIte]
    refine callW_at [0] [0] (c121 (.ptr 0 0) (.inr rfl) (34 :: l.flatMap pPart) 34 (by simp only [List.length_cons]; omega)) (by simp) rfl rfl rfl rfl rfl ?_
    simp -implicitDefEqProofs only [h4, List.append_nil, bldB, strLim, lenLim, ne_eq, Nat.reduceLT, Nat.lt_irrefl, Nat.zero_lt_succ, List.getD_cons_zero, Nat.reduceEqDiff, Nat.reduceLeDiff, Nat.reduceAdd, Nat.reduceSub, Int.reduceNe, Int.reduceEq, Int.reduceLE, Int.reduceLT, Int.reduceToNat, Int.reduceNeg, Int.reduceBEq, Int.reduceBNe, reduceCtorEq, go_sem, ↓reduceIte]
    rfl
  simp -implicitDefEqProofs only [h4, strLim, lenLim, ne_eq, Nat.reduceLT, Nat.lt_irrefl, Nat.zero_lt_succ, List.getD_cons_zero, Nat.reduceEqDiff, Nat.reduceLeDiff, Nat.reduceAdd, Nat.reduceSub, Int.reduceNe, Int.reduceEq, Int.reduceLE, Int.reduceLT, Int.reduceToNat, Int.reduceNeg, Int.reduceBEq, Int.reduceBNe, reduceCtorEq, go_sem, ↓reduceIte]
  refine callW_at [0] [0] (ret_prim (sound116 (.ptr 0 0) (pPrint l) (by simp [pPrint]) (by omega))) (by simp) rfl rfl rfl rfl rfl ?_
  simp -implicitDefEqProofs only [h4, hm, if_true, strLim, lenLim, ne_eq, Nat.reduceLT, Nat.lt_irrefl, Nat.zero_lt_succ, List.getD_cons_zero, Nat.reduceEqDiff, Nat.reduceLeDiff, Nat.reduceAdd, Nat.reduceSub, Int.reduceNe, Int.reduceEq, Int.reduceLE, Int.reduceLT, Int.reduceToNat, Int.reduceNeg, Int.reduceBEq, Int.reduceBNe, reduceCtorEq, go_sem, ↓reduceIte]
  rfl
end Go.Pv

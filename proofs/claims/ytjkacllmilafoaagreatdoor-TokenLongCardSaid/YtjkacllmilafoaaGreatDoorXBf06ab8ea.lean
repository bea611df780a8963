/- Functions that are carried out in place. -/
import Derived.Below
import Derived.Test.YtjkacllmilafoaaGreatDoorProg
import Derived.Test.YtjkacllmilafoaaGreatDoorXA6802d124
set_option maxHeartbeats 2000000
set_option linter.all false
/- One operation, whatever it is. -/
namespace Go.Pv
open Go

/-- What is asked of an operation by sight. -/
def opOk (n : Nat) (o : Oper) : Bool :=
  (match o.dst with | some d => decide (d < n) | none => true) &&
  (match o.op with | .call c => c.args.size == c.argTypes.size | _ => true)

section
variable {P : Program} {n : Nat} {w0 : World} {S0 : Frz} {T0 : Nat → Prop} {φ : List Nat} {S : Frz} {w : World}

theorem run_callFunc {f : Nat} {args : Array Value} (h : callOk P f = true) : (callFunc f args).run P w = .ok (.enter f args) w := by
  unfold callOk at h
  split at h
  · rename_i fn hf
    simp only [Bool.and_eq_true, Bool.not_eq_true'] at h
    obtain ⟨h1, h2⟩ := h
    have h3 : ¬ fn.body = none := by intro e; simp [e] at h1
    have h2 : ¬ fn.name = "runtime.NumGoroutine" := by simpa using h2
    simp [callFunc, hf, h2, h3]
  · cases h

theorem args_rel {s : St} {a : Act} (hR : Rel n w0 S0 T0 φ S s.env s.st a.tmps w) {c : Call} (hs : c.args.size = c.argTypes.size) :
    RL (VR φ S) ((c.args.toList.zip c.argTypes.toList).map fun (x, T) => ev P s.env T x) (c.args.map a.eval) := by
  refine ⟨by simp [hs], fun i x v hx hv => ?_⟩
  simp only [List.getElem?_map, Option.map_eq_some_iff] at hx
  obtain ⟨⟨y, T⟩, hy, rfl⟩ := hx
  rw [List.getElem?_zip_eq_some] at hy
  simp only [Array.getElem?_map, Option.map_eq_some_iff] at hv
  obtain ⟨z, hz, rfl⟩ := hv
  have : y = z := by have := hy.1; simp [hz] at this; exact this.symm
  subst this
  exact hR.evs T y

theorem step_callW {o : Oper} {a : Act} {s : St} {C : CallRel} {f : Nat} {args : List AV} {vargs : Array Value} {G : Frz} (hG : G.le S0) (hC : ∀ f args σ r σ', C f args σ r σ' → Sound P G f args σ r σ') (hargs : RL (VR φ S) args vargs)
    (hrun : (execOp a.eval o).run P w = (callFunc f vargs).run P w) {K : St → Prop} {next : Act → World → Prop} {Q : Exit → Act → World → Prop} (hd : ∀ d, o.dst = some d → d < n)
    (h : callW C f args s o.dst K) (hR : Rel n w0 S0 T0 φ S s.env s.st a.tmps w) (hA : AlRel φ s.al a.tmps w) (hdf : a.defers = []) (hK : NextOk n w0 S0 T0 φ K next) : o.wp P a w next Q := by
  obtain ⟨ids, args', σi, r, σo, hnd, hae, hh, hc, hlen, hk⟩ := h
  have hsound := hC _ _ _ _ _ hc
  obtain ⟨φi, f1, f2, f3, f4, f5, f6⟩ := hR.handed hnd hh
  have hcan := hargs.map (f := canon) fun _ _ => VR.canon
  rw [hae] at hcan
  have hargs' : RL (VR φi S) args' vargs := hcan.unmap fun _ _ => VR.unren f3
  have hcall := hsound φi S w vargs (fun b o v e => hR.evo.le _ _ _ (hG b o v e)) f4 hargs'
  have fin : ∀ (w' : World) (v : Value) (φ' : List Nat) (S' : Frz), FiLe φi φ' → Rel 1 w S (touch φi σi w) φ' S' (retEnv r) σo #[v] w' → next (a.put o.dst v) w' := by
   intro w' v φ' S' hle hRc
   have hlt : ∀ k ∈ ids, k < s.st.length := fun k hk => by
     obtain ⟨i, hi⟩ := List.getElem?_of_mem hk
     obtain ⟨b, _, h2⟩ := hh.2 i k hi
     exact (List.getElem?_eq_some_iff.1 h2).1
   obtain ⟨φ'', g1, g2, g3, g4, g5⟩ := hR.back hnd hlt f1 f2 f5 f6 hle hRc hlen
   have hA' : AlRel φ'' (invB ids s.al) a.tmps w' := (hA.touched ids fun b k hb hk => g5 b k hb hk).longer (w' := w') g1 fun b k hk => rfl
   obtain ⟨q1, q2, q3⟩ := put_rel (s := { s with st := mergeB (backIds s.st ids σo.length) ids σo s.st, al := invB ids s.al }) (a := a) hd g2 hA' g3 (r := none)
     (fun sz l e => by
       obtain ⟨o1, o2⟩ := g4 sz l e
       exact ⟨o1, fun g hg => ⟨(o2 g hg).1, fun hd' sz' l' _ => (o2 g hg).2 hd' sz' l'⟩⟩)
     (fun x e => by cases e)
   exact hK _ _ _ _ _ hk g1 q1 q2 (by rw [q3, hdf])
  unfold Oper.wp
  rw [hrun]
  rcases hcall with ⟨hok, hcall⟩ | ⟨v, w', hrv, v', φ', S', he, hle, hRc⟩
  · rw [run_callFunc hok]
    simp only [Oper.upon]
    refine hcall.mono fun e w' ⟨v, φ', S', he, hle, hRc⟩ => ?_
    subst he
    exact fin w' v φ' S' hle hRc
  · rw [hrv]
    simp only [Oper.upon]
    cases he
    exact fin w' v φ' S' hle hRc

theorem step_plain {o : Oper} {a : Act} {s : St} {av : AV} {src : Option Src} (hv : opVal P s.env s.st o = some av) (hsrc : ∀ v w', (execOp a.eval o).run P w = .ok (.value v) w' → Longer w w' → ∀ x, src = some x → match x with
      | .slot u => v = a.tmps.getD u undef
      | .cell b off => ∃ k, φ[b]? = some k ∧ w'.cell? ⟨k, off, none⟩ = some v) {K : St → Prop} {next : Act → World → Prop} {Q : Exit → Act → World → Prop} (hd : ∀ d, o.dst = some d → d < n)
    (h : K (s.put o.dst av src)) (hR : Rel n w0 S0 T0 φ S s.env s.st a.tmps w) (hA : AlRel φ s.al a.tmps w) (hdf : a.defers = []) (hK : NextOk n w0 S0 T0 φ K next) : o.wp P a w next Q := by
  obtain ⟨v, w', S', hrun, hl, hle, hmore, hok, hvr, hown⟩ := opVal_sound (P := P) hR.sok (fun i k hk => hR.fi_lt hk) hR.blk (fun T x => hR.evs T x) hv
  refine wp_value hrun ?_
  have hR' := hR.grow hl hle hmore hok
  have hA' : AlRel φ s.al a.tmps w' := hA.longer (fun _ _ h => h) fun b k hk => hl.heap k (hR.fi_lt hk)
  obtain ⟨q1, q2, q3⟩ := put_rel (s := s) (a := a) hd hR' hA' hvr (r := src) (fun sz l e => by
    obtain ⟨o1, o2⟩ := hown sz l e
    refine ⟨o1, fun g hg => ⟨.inr (Nat.le_trans hR.evo.size (o2 g hg)), fun hd' sz' l' _ ha hg' => ?_⟩⟩
    have hvv : haV φ a.tmps w' hd' = haV φ a.tmps w hd' := haV_same hd' fun i off k _ hk => hl.heap k (hR.fi_lt hk)
    rw [hvv] at hg'
    have := (hR.own hd' sz' l' ha).lt hg'
    have := o2 g hg
    omega) (hsrc v w' hrun hl)
  exact hK _ _ _ _ _ h (fun _ _ h => h) q1 q2 (by rw [q3, hdf])

theorem src_ok {o : Oper} {a : Act} {s : St} (hR : Rel n w0 S0 T0 φ S s.env s.st a.tmps w) {v : Value} {w' : World} (hrun : (execOp a.eval o).run P w = .ok (.value v) w') (hl : Longer w w'):
    ∀ x, opSrc P s.env o = some x → match x with
      | .slot u => v = a.tmps.getD u undef
      | .cell b off => ∃ k, φ[b]? = some k ∧ w'.cell? ⟨k, off, none⟩ = some v := by
  intro x hx
  unfold opSrc at hx
  split at hx
  · rename_i y hop
    simp [execOp, hop] at hrun
    cases y with
    | tmp t => cases hx; exact hrun.1.symm
    | const c => cases hx
    | global g => cases hx
    | func f => cases hx
  · rename_i T y hop
    split at hx
    · rename_i b off hf he
      cases hx
      have hv := hR.evs (P := P) 0 y
      rw [he] at hv
      obtain ⟨k, hk, hv⟩ := vr_ptr hv
      refine ⟨k, hk, ?_⟩
      have hw := run_isAgg (w := w) hf
      simp [execOp, hop, hv, Instr.loadAt, Instr.sureAddr, loadVar, hw] at hrun
      obtain ⟨bl, _, hbr⟩ := hR.blk_at hk
      cases bl with
      | siter s p =>
        have hs : w.heap[k]? = some (.stringIter ⟨s.toArray⟩ p) := hbr
        have hc : w.cell? ⟨k, off, none⟩ = none := by simp [World.cell?, hs]
        simp [hc, World.farLoad, hs, World.noCell] at hrun
      | cells T1 l =>
        obtain ⟨cs, h1, _⟩ := hbr
        cases hc : w.cell? ⟨k, off, none⟩ with
        | none => simp [hc, World.farLoad, h1, World.noCell] at hrun
        | some z =>
          simp [hc] at hrun
          rw [← hrun.2]
          simp [hc, hrun.1]
    · cases hx
  · cases hx

/-- **One operation**: the machine does what 'opW' tells. -/
theorem opW_sound {o : Oper} {a : Act} {s : St} {C : CallRel} {G : Frz} (hG : G.le S0) (hC : ∀ f args σ r σ', C f args σ r σ' → Sound P G f args σ r σ') (hsee : opOk n o = true) {K : St → Prop} {next : Act → World → Prop} {Q : Exit → Act → World → Prop}
    (h : opW C P o s K) (hR : Rel n w0 S0 T0 φ S s.env s.st a.tmps w) (hA : AlRel φ s.al a.tmps w) (hdf : a.defers = []) (hK : NextOk n w0 S0 T0 φ K next) : o.wp P a w next Q := by
  unfold opOk at hsee
  simp only [Bool.and_eq_true] at hsee
  obtain ⟨hs1, hs2⟩ := hsee
  have hd : ∀ d, o.dst = some d → d < n := fun d e => by rw [e] at hs1; simpa using hs1
  unfold opW at h
  split at h
  · rename_i x hop
    exact step_assign hop hd h hR hA hdf hK
  · rename_i T hop
    split at h
    · rename_i cs hz
      exact step_alloc hop hz hd h hR hA hdf hK
    · exact h.elim
  · rename_i T x hop
    split at h
    · rename_i hc
      exact step_box hop hc.2 hd h hR hA hdf hK
    · exact h.elim
  · rename_i T p x hop
    split at h
    · rename_i b off he
      split at h
      · rename_i cs hcs
        split at h
        · rename_i hc
          exact step_store hop he hcs hc.1 hc.2.1 hc.2.2 hd h hR hA hdf hK
        · exact h.elim
      · exact h.elim
    · exact h.elim
  · rename_i T x hop
    split at h
    · rename_i t hT hx
      exact step_range hop hT hx hd h hR hA hdf hK
    · exact h.elim
  · rename_i it hop
    split at h
    · rename_i b he
      split at h
      · rename_i t pos hb
        exact step_next hop he hb hd h hR hA hdf hK
      · exact h.elim
    · exact h.elim
  · rename_i c hop
    rw [hop] at hs2
    have hsz : c.args.size = c.argTypes.size := by simpa using hs2
    split at h
    · rename_i hcal
      split at h
      · rename_i x y T T' hxs hts
        split at h
        · rename_i hap
          have e1 : c.args = #[x, y] := by rw [← Array.toList_inj]; exact hxs
          have e2 : c.argTypes = #[T, T'] := by rw [← Array.toList_inj]; exact hts
          refine step_append (T := T) (T' := T') (x := x) (y := y) ⟨c.argTypes, ?_, e2⟩ hd hap h hR hA hdf hK
          rw [hop]
          congr 1
          obtain ⟨cal, ar, at'⟩ := c
          simp only at hcal e1
          rw [hcal, e1]
        · exact h.elim
      · exact h.elim
    · rename_i b hcal
      split at h
      · rename_i v hv
        exact step_plain hv (src := none) (fun _ _ _ _ x e => by cases e) hd h hR hA hdf hK
      · exact h.elim
    · rename_i f hcal
      refine step_callW hG hC (args_rel hR hsz) ?_ hd h hR hA hdf hK
      simp [execOp, hop, resolve, hcal, Act.eval, Deferred.ofValue, invoke]
    · rename_i t hcal
      split at h
      · rename_i f first cap ht
        have hv := hR.vals t
        rw [ht] at hv
        obtain ⟨first', cap', hv, h1, h2⟩ := vr_fn hv
        have hlist : RL (VR φ S) (first ++ ((c.args.toList.zip c.argTypes.toList).map fun (x, T) => ev P s.env T x) ++ cap) (first' ++ c.args.map a.eval ++ cap') := by
          have app : ∀ (l1 l2 : List AV) (v1 v2 : Array Value), RL (VR φ S) l1 v1 → RL (VR φ S) l2 v2 → RL (VR φ S) (l1 ++ l2) (v1 ++ v2) := fun l1 l2 v1 v2 q1 q2 => by
            refine ⟨by simp [q1.1, q2.1], fun i x v hx hv => ?_⟩
            rw [List.getElem?_append] at hx
            rw [Array.getElem?_append] at hv
            rw [← q1.1] at hv
            split at hx
            · rename_i hi; rw [if_pos hi] at hv; exact q1.2 i x v hx hv
            · rename_i hi; rw [if_neg hi] at hv; exact q2.2 _ x v hx hv
          exact app _ _ _ _ (app _ _ _ _ (h1.mono fun _ _ h => h.r1.vr) (args_rel hR hsz)) (h2.mono fun _ _ h => h.r1.vr)
        refine step_callW hG hC hlist ?_ hd h hR hA hdf hK
        have hev : a.eval (.tmp t) = .func (.func f) first' cap' := hv
        simp [execOp, hop, resolve, hcal, hev, Deferred.ofValue, invoke]
      · exact h.elim
    · exact h.elim
  · split at h
    · rename_i v hv
      exact step_plain hv (fun v' w' hrun hl => src_ok hR hrun hl) hd h hR hA hdf hK
    · exact h.elim
end
end Go.Pv
/- Regions that draw their order: operations that change places. -/
namespace Go.Pv
open Go

section
variable {P : Program} {C : CallRel} {ops : Array Oper}

theorem upd_comm {env : Env} {d e : Nat} {v u : AV} (h : d ≠ e) : upd (upd env d v) e u = upd (upd env e u) d v := by
  funext t; simp only [upd]; split <;> split <;> simp_all
theorem clr_put {s : St} {d : Option Nat} {v : AV} {r : Option Src} : (s.put d v r).clr = (s.clr.put d v none).clr := by
  cases d <;> rfl
theorem clr_clr {s : St} : s.clr.clr = s.clr := rfl
theorem clr_ext {s s' : St} (h1 : s.env = s'.env) (h2 : s.st = s'.st) : s.clr = s'.clr := by
  cases s; cases s'; simp_all [St.clr]
theorem put_env {s : St} {d : Nat} {v : AV} {r : Option Src} : (s.put (some d) v r).env = upd s.env d v := rfl
theorem put_st {s : St} {d : Option Nat} {v : AV} {r : Option Src} : (s.put d v r).st = s.st := by cases d <;> rfl
theorem kill_st {s : St} {x : Operand} : (s.kill x).st = s.st := by cases x <;> rfl

theorem ev_congr {env env' : Env} {T : TypeId} {x : Operand} (h : ∀ t, x = .tmp t → env t = env' t) : ev P env T x = ev P env' T x := by
  cases x <;> first | exact h _ rfl | rfl

/-- Two settings that look the same to an operation. -/
def Alike (ops : Array Oper) (o : Oper) (env env' : Env) : Prop := ∀ t, t ∈ o.looksAt ops → env t = env' t
theorem Alike.ev {o : Oper} {env env' : Env} (h : Alike ops o env env') {x : Operand} (hx : x ∈ o.op.operands) (T : TypeId) : ev P env T x = ev P env' T x :=
  ev_congr fun t e => h t (List.mem_append_left _ (List.mem_filterMap.2 ⟨.tmp t, by subst e; simpa using hx, rfl⟩))
theorem Alike.wanted {o : Oper} {env env' : Env} (h : Alike ops o env env') : wantedA ops o env = wantedA ops o env' := by
  unfold wantedA
  cases hg : o.guard with
  | none => rfl
  | some g =>
    obtain ⟨j, want⟩ := g
    simp only
    cases ht : (ops[j]?).bind (·.dst) with
    | none => rfl
    | some t =>
      have : env t = env' t := h t (List.mem_append_right _ (by simp [hg, ht]))
      simp only [this]
theorem Alike.upd {o : Oper} {env : Env} {d : Nat} {v : AV} (h : d ∉ o.looksAt ops) : Alike ops o (upd env d v) env := fun t ht => by
  simp only [Pv.upd]; rw [if_neg fun e : t = d => h (e ▸ ht)]

theorem map_ev {env env' : Env} {T : TypeId} {l : List Operand} (h : ∀ x ∈ l, ev P env T x = ev P env' T x) : l.map (ev P env T) = l.map (ev P env' T) := List.map_congr_left h
theorem zip_ev {env env' : Env} {l : List Operand} {ts : List TypeId} (h : ∀ x ∈ l, ∀ T, ev P env T x = ev P env' T x) :
    ((l.zip ts).map fun (x, T) => ev P env T x) = ((l.zip ts).map fun (x, T) => ev P env' T x) :=
  List.map_congr_left fun p hp => h p.1 (List.of_mem_zip hp).1 p.2
theorem bltA_congr {env env' : Env} {b : Builtin} {l : List Operand} {ts : List TypeId} (h : ∀ x ∈ l, ∀ T, ev P env T x = ev P env' T x) : bltA P env b l ts = bltA P env' b l ts := by
  unfold bltA
  split
  · rename_i x T
    simp only [h x (by simp)]
  · rename_i z x y
    simp only [h x (by simp), h y (by simp)]
  · rename_i z x y
    simp only [h x (by simp), h y (by simp)]
  · rfl
theorem buildA_congr {env env' : Env} {fs : List (Nat × Nat)} {ts : List TypeId} : ∀ {l : List (Nat × Operand)} {cs : List AV}, (∀ p ∈ l, ∀ T, ev P env T p.2 = ev P env' T p.2) → buildA P env fs ts cs l = buildA P env' fs ts cs l
  | [], _, _ => rfl
  | (i, x) :: l, cs, h => by
    have hx := h (i, x) (by simp)
    simp only at hx
    simp only [buildA]
    cases fs[i]? with
    | none => rfl
    | some p =>
      cases ts[i]? with
      | none => rfl
      | some T =>
        simp only [hx T]
        split
        · exact buildA_congr fun p hp => h p (List.mem_cons_of_mem _ hp)
        · rfl
theorem buildL_congr {env env' : Env} {sz : Nat} {T : TypeId} : ∀ {l : List (Nat × Operand)} {k : Nat}, (∀ p ∈ l, ∀ T, ev P env T p.2 = ev P env' T p.2) → buildL P env sz T k l = buildL P env' sz T k l
  | [], _, _ => rfl
  | (i, x) :: l, k, h => by
    have hx := h (i, x) (by simp)
    simp only at hx
    simp only [buildL, hx T, buildL_congr (k := k + 1) fun p hp => h p (List.mem_cons_of_mem _ hp)]

theorem opVal_congr {o : Oper} {env env' : Env} {σ σ' : List Blk} (h : Alike ops o env env') (hk : kindOf o = .plain ∨ σ = σ') : opVal P env σ o = opVal P env' σ' o := by
  have E : ∀ x ∈ o.op.operands, ∀ T, ev P env T x = ev P env' T x := fun x hx T => h.ev hx T
  unfold opVal
  obtain ⟨dst, op, type, pos, after, guard⟩ := o
  simp only at E ⊢
  cases op <;> simp only [Op.operands] at E
  case load T a =>
    have : σ = σ' := hk.resolve_left (by simp [kindOf])
    subst this
    simp only [E a (by simp)]
  case move x => simp only [E x (by simp)]
  case pick c a b => simp only [E c (by simp), E a (by simp), E b (by simp)]
  case nilCheck x => simp only [E x (by simp)]
  case binOp op T x y m => simp only [E x (by simp), E y (by simp)]
  case unOp op T x => simp only [E x (by simp)]
  case convert s d x =>
    have : σ = σ' := hk.resolve_left (by simp [kindOf])
    subst this
    simp only [E x (by simp)]
  case makeInterface T x => simp only [E x (by simp)]
  case makeFunc f first cap =>
    cases f
    case func f => simp only [map_ev (l := first.toList) fun x hx => E x (by simp at hx; simp [hx]) 0, map_ev (l := cap.toList) fun x hx => E x (by simp at hx; simp [hx]) 0]
    all_goals rfl
  case extract x i => simp only [E x (by simp)]
  case fieldAddr T x i => simp only [E x (by simp)]
  case field T x i => simp only [E x (by simp)]
  case indexAddr T x i => simp only [E x (by simp), E i (by simp)]
  case index T x i => simp only [E x (by simp), E i (by simp)]
  case slice T x lo hi mx =>
    cases mx with
    | some m => rfl
    | none =>
      have h1 : lo.map (ev P env 0) = lo.map (ev P env' 0) := by cases lo <;> simp_all
      have h2 : hi.map (ev P env 0) = hi.map (ev P env' 0) := by cases hi <;> simp_all
      simp only [E x (by simp), h1, h2]
  case build T parts =>
    simp only [buildA_congr (env := env) (env' := env') (l := parts.toList) fun p hp T => E p.2 (by rw [List.mem_toArray]; exact List.mem_map.2 ⟨p, hp, rfl⟩) T]
  case buildSlice T n parts =>
    simp only [buildL_congr (env := env) (env' := env') (l := parts.toList) fun p hp T => E p.2 (by rw [List.mem_toArray]; exact List.mem_map.2 ⟨p, hp, rfl⟩) T]
  case call c =>
    cases hc : c.callee
    case builtin b => simp only [bltA_congr (env := env) (env' := env') (l := c.args.toList) fun x hx T => E x (by simp [Call.operands, hc]; simpa using hx) T]
    all_goals simp [hc]
  all_goals rfl
end
end Go.Pv
/- Regions that draw their order: what one operation does, told so that it can be said of two settings. -/
namespace Go.Pv
open Go

def killE (ts : List Nat) (env : Env) : Env := fun t => if t ∈ ts then weak (env t) else env t
def putE (d : Option Nat) (u : AV) (env : Env) : Env := match d with
  | some d => upd env d u
  | none => env
def tmpsOf : Operand → List Nat
  | .tmp t => [t]
  | _ => []

section
variable {P : Program} {C : CallRel} {ops : Array Oper}

theorem kill_put_env {s : St} {x : Operand} {d : Option Nat} {v : AV} {r : Option Src} : ((s.kill x).put d v r).env = putE d v (killE (tmpsOf x) s.env) := by
  have : (s.kill x).env = killE (tmpsOf x) s.env := by
    funext t
    cases x <;> simp [St.kill, killE, tmpsOf, upd]
    rename_i u
    split
    · rename_i e; rw [e]
    · rfl
  cases d with
  | none => exact this
  | some d => simp only [St.put, putE, this]
theorem put_env' {s : St} {d : Option Nat} {v : AV} {r : Option Src} : (s.put d v r).env = putE d v (killE [] s.env) := by
  have : killE [] s.env = s.env := by funext t; simp [killE]
  rw [this]
  cases d <;> rfl

/-- What one operation does. -/
def Eff (C : CallRel) (P : Program) (ops : Array Oper) (o : Oper) (s : St) (K : St → Prop) : Prop :=
  ∃ (ks : List Nat) (u : AV) (σ' : List Blk), (∀ t ∈ ks, t ∈ killsA o) ∧ (∃ s', K s' ∧ s'.st = σ' ∧ s'.env = putE o.dst u (killE ks s.env)) ∧
    ∀ s2 : St, s2.al = (fun _ => none) → s2.st = s.st → Alike ops o s.env s2.env → ∀ K' : St → Prop, (∀ s', s'.st = σ' → s'.env = putE o.dst u (killE ks s2.env) → K' s') → opW C P o s2 K'

theorem callW_eff {f : Nat} {args : List AV} {s : St} {dst : Option Nat} {K : St → Prop} (h : callW C f args s dst K) :
    ∃ u σ', (∃ s', K s' ∧ s'.st = σ' ∧ s'.env = putE dst u (killE [] s.env)) ∧ ∀ s2 : St, s2.st = s.st → ∀ K' : St → Prop, (∀ s', s'.st = σ' → s'.env = putE dst u (killE [] s2.env) → K' s') → callW C f args s2 dst K' := by
  obtain ⟨ids, args', σi, r, σo, h1, h2, h3, h4, h5, hk⟩ := h
  refine ⟨_, _, ⟨_, hk, put_st, put_env'⟩, fun s2 hs2 K' hK' => ⟨ids, args', σi, r, σo, h1, h2, by rw [hs2]; exact h3, h4, h5, hK' _ ?_ ?_⟩⟩
  · rw [put_st]; simp only [hs2]
  · rw [put_env']; simp only [hs2]

theorem appendW_eff {T : TypeId} {x : Operand} {ys : Option (Nat × List AV)} {s : St} {dst : Option Nat} {K : St → Prop} (hal : s.al = fun _ => none) (h : appendW P T x ys s dst K) :
    ∃ ks u σ', (∀ t ∈ ks, x = .tmp t) ∧ (∃ s', K s' ∧ s'.st = σ' ∧ s'.env = putE dst u (killE ks s.env)) ∧ ∀ s2 : St, s2.al = (fun _ => none) → s2.st = s.st → (∀ t, x = .tmp t → s.env t = s2.env t) →
      ∀ K' : St → Prop, (∀ s', s'.st = σ' → s'.env = putE dst u (killE ks s2.env) → K' s') → appendW P T x ys s2 dst K' := by
  unfold appendW at h
  split at h
  · exact h.elim
  · rename_i sz' ys
    split at h
    · split at h
      · rename_i sz hsz
        refine ⟨[], _, _, by simp, ⟨_, h.2.2, put_st, put_env'⟩, fun s2 hal2 hs2 he K' hK' => ?_⟩
        simp only [appendW, hsz]
        exact ⟨h.1, h.2.1, hK' _ (by rw [put_st, hs2]) put_env'⟩
      · exact h.elim
    · rename_i m
      split at h
      · rename_i sz l hm
        refine ⟨[m], _, _, by simp, ⟨_, h.2.2, by rw [put_st, kill_st], kill_put_env⟩, fun s2 hal2 hs2 he K' hK' => ?_⟩
        have := he m rfl
        rw [hm] at this
        simp only [appendW, ← this]
        exact ⟨h.1, h.2.1, hK' _ (by rw [put_st, kill_st, hs2]) kill_put_env⟩
      · rename_i sz l hm
        refine ⟨[], _, _, by simp, ⟨_, h.2.2, put_st, put_env'⟩, fun s2 hal2 hs2 he K' hK' => ?_⟩
        have := he m rfl
        rw [hm] at this
        simp only [appendW, ← this]
        exact ⟨h.1, h.2.1, hK' _ (by rw [put_st, hs2]) put_env'⟩
      · simp [hal] at h
      · exact h.elim
    · exact h.elim

theorem opW_eff {o : Oper} {s : St} {K : St → Prop} (hal : s.al = fun _ => none) (h : opW C P o s K) : Eff C P ops o s K := by
  have hfr : ∀ s2 : St, Alike ops o s.env s2.env → ∀ x ∈ o.op.operands, ∀ T, ev P s.env T x = ev P s2.env T x := fun s2 ha x hx T => ha.ev hx T
  unfold opW at h
  split at h
  · rename_i x hop
    refine ⟨tmpsOf x, _, _, fun t ht => ?_, ⟨_, h, by rw [put_st, kill_st], kill_put_env⟩, fun s2 hal2 hs2 ha K' hK' => ?_⟩
    · cases x <;> simp [tmpsOf] at ht
      subst ht; simp [killsA, hop]
    · have := hfr s2 ha x (by simp [hop, Op.operands]) o.type
      simp only [opW, hop, ← this]
      exact hK' _ (by rw [put_st, kill_st, hs2]) kill_put_env
  · rename_i T hop
    split at h
    · rename_i cs hz
      refine ⟨[], _, _, by simp, ⟨_, h, put_st, put_env'⟩, fun s2 hal2 hs2 ha K' hK' => ?_⟩
      simp only [opW, hop, hz]
      exact hK' _ (by rw [put_st, hs2]) (by rw [put_env', hs2])
    · exact h.elim
  · rename_i T x hop
    split at h
    · rename_i hc
      refine ⟨[], _, _, by simp, ⟨_, h, put_st, put_env'⟩, fun s2 hal2 hs2 ha K' hK' => ?_⟩
      have := hfr s2 ha x (by simp [hop, Op.operands]) T
      simp only [opW, hop, ← this]
      rw [if_pos hc]
      exact hK' _ (by rw [put_st, hs2]) (by rw [put_env', hs2])
    · exact h.elim
  · rename_i T p x hop
    split at h
    · rename_i b off he
      split at h
      · rename_i cs hcs
        split at h
        · rename_i hc
          refine ⟨tmpsOf x, .tup [], _, fun t ht => ?_, ⟨_, h, put_st, ?_⟩, fun s2 hal2 hs2 ha K' hK' => ?_⟩
          · cases x <;> simp [tmpsOf] at ht
            subst ht; simp [killsA, hop]
          · rw [← kill_put_env (r := none)]
            cases o.dst <;> rfl
          · have h1 := hfr s2 ha x (by simp [hop, Op.operands]) T
            have h2 := hfr s2 ha p (by simp [hop, Op.operands]) 0
            simp only [opW, hop, ← h1, ← h2, he, hs2, hcs]
            rw [if_pos hc]
            refine hK' _ put_st ?_
            rw [← kill_put_env (r := none)]
            cases o.dst <;> rfl
        · exact h.elim
      · exact h.elim
    · exact h.elim
  · rename_i T x hop
    split at h
    · rename_i t hT hx
      refine ⟨[], _, _, by simp, ⟨_, h, put_st, put_env'⟩, fun s2 hal2 hs2 ha K' hK' => ?_⟩
      have := hfr s2 ha x (by simp [hop, Op.operands]) T
      simp only [opW, hop, ← this, hT, hx]
      exact hK' _ (by rw [put_st, hs2]) (by rw [put_env', hs2])
    · exact h.elim
  · rename_i it hop
    split at h
    · rename_i b he
      split at h
      · rename_i t pos hb
        have hE : ∀ s2 : St, Alike ops o s.env s2.env → ev P s2.env 0 it = .iter b := fun s2 ha => by
          rw [← hfr s2 ha it (by simp [hop, Op.operands]) 0, he]
        split at h
        · rename_i hlt
          refine ⟨[], _, _, by simp, ⟨_, h, put_st, put_env'⟩, fun s2 hal2 hs2 ha K' hK' => ?_⟩
          simp only [opW, hop, hE s2 ha, hs2, hb]
          rw [if_pos hlt]
          exact hK' _ (by rw [put_st]) (by rw [put_env'])
        · rename_i hlt
          refine ⟨[], _, _, by simp, ⟨_, h, put_st, put_env'⟩, fun s2 hal2 hs2 ha K' hK' => ?_⟩
          simp only [opW, hop, hE s2 ha, hs2, hb]
          rw [if_neg hlt]
          exact hK' _ (by rw [put_st, hs2]) (by rw [put_env'])
      · exact h.elim
    · exact h.elim
  · rename_i c hop
    have hargs : ∀ s2 : St, Alike ops o s.env s2.env → ∀ x ∈ c.args.toList, ∀ T, ev P s.env T x = ev P s2.env T x := fun s2 ha x hx T => hfr s2 ha x (by
      have hx' : x ∈ c.args := by simpa using hx
      simp only [hop, Op.operands, Call.operands]
      split <;> simp [hx']) T
    split at h
    · rename_i hcal
      split at h
      · rename_i x y T T' hxs hts
        split at h
        · rename_i hap
          obtain ⟨ks, u, σ', e1, e2, e3⟩ := appendW_eff hal h
          refine ⟨ks, u, σ', fun t ht => ?_, e2, fun s2 hal2 hs2 ha K' hK' => ?_⟩
          · have := e1 t ht
            simp [killsA, hop, hcal, hxs, this]
          · have h1 := hargs s2 ha y (by simp [hxs]) T'
            simp only [opW, hop, hcal, hxs, hts]
            rw [if_pos hap, ← h1]
            refine e3 s2 hal2 hs2 (fun t e => ?_) K' hK'
            have := hargs s2 ha x (by simp [hxs]) 0
            rw [e] at this
            exact this
        · exact h.elim
      · exact h.elim
    · rename_i b hnb hcal
      split at h
      · rename_i v hv
        refine ⟨[], _, _, by simp, ⟨_, h, put_st, put_env'⟩, fun s2 hal2 hs2 ha K' hK' => ?_⟩
        have := opVal_congr (P := P) (σ := s.st) (σ' := s2.st) ha (.inr hs2.symm)
        rw [hv] at this
        unfold opW
        simp only [hop, hcal]
        cases b
        case append => exact absurd rfl hnb
        all_goals
          simp only [← this]
          exact hK' _ (by rw [put_st, hs2]) put_env'
      · exact h.elim
    · rename_i f hcal
      obtain ⟨u, σ', e2, e3⟩ := callW_eff h
      refine ⟨[], u, σ', by simp, e2, fun s2 hal2 hs2 ha K' hK' => ?_⟩
      simp only [opW, hop, hcal]
      rw [← zip_ev (hargs s2 ha)]
      exact e3 s2 hs2 K' hK'
    · rename_i t hcal
      split at h
      · rename_i f first cap ht
        obtain ⟨u, σ', e2, e3⟩ := callW_eff h
        refine ⟨[], u, σ', by simp, e2, fun s2 hal2 hs2 ha K' hK' => ?_⟩
        have htt : s.env t = s2.env t := hfr s2 ha (.tmp t) (by simp [hop, Op.operands, Call.operands, hcal]) 0
        simp only [opW, hop, hcal, ← htt, ht]
        rw [← zip_ev (hargs s2 ha)]
        exact e3 s2 hs2 K' hK'
      · exact h.elim
    · exact h.elim
  · rename_i n1 n2 n3 n4 n5 n6 n7
    split at h
    · rename_i v hv
      refine ⟨[], _, _, by simp, ⟨_, h, put_st, put_env'⟩, fun s2 hal2 hs2 ha K' hK' => ?_⟩
      have := opVal_congr (P := P) (σ := s.st) (σ' := s2.st) ha (.inr hs2.symm)
      rw [hv] at this
      unfold opW
      split
      all_goals first
        | (rename_i hop; exact absurd hop (n1 _))
        | (rename_i hop; exact absurd hop (n2 _))
        | (rename_i hop; exact absurd hop (n3 _ _))
        | (rename_i hop; exact absurd hop (n4 _ _ _))
        | (rename_i hop; exact absurd hop (n5 _ _))
        | (rename_i hop; exact absurd hop (n6 _))
        | (rename_i hop; exact absurd hop (n7 _))
        | skip
      rw [← this]
      exact hK' _ (by rw [put_st, hs2]) put_env'
    · exact h.elim
end
end Go.Pv
/- Regions that draw their order: two operations change places. -/
namespace Go.Pv
open Go

section
variable {P : Program} {C : CallRel} {ops : Array Oper}

theorem kills_looks {o : Oper} {t : Nat} (h : t ∈ killsA o) : t ∈ o.looksAt ops := by
  have key : Operand.tmp t ∈ o.op.operands → t ∈ o.looksAt ops := fun hx => List.mem_append_left _ (List.mem_filterMap.2 ⟨.tmp t, by simpa using hx, rfl⟩)
  apply key
  unfold killsA at h
  split at h
  · rename_i u hop; simp at h; subst h; simp [hop, Op.operands]
  · rename_i u hop; simp at h; subst h; simp [hop, Op.operands]
  · rename_i c hop
    split at h
    · rename_i m l hcal hl
      simp at h; subst h
      have : Operand.tmp t ∈ c.args.toList := by simp [hl]
      simp only [hop, Op.operands, Call.operands, hcal]
      simpa using this
    · simp at h
  · simp at h

def EffS (C : CallRel) (P : Program) (ops : Array Oper) (o : Oper) (s : St) (K : St → Prop) : Prop :=
  ∃ (ks : List Nat) (u : AV) (σ' : List Blk), (∀ t ∈ ks, t ∈ killsA o) ∧ (∃ s', K s' ∧ s'.st = σ' ∧ s'.env = putE o.dst u (killE ks s.env)) ∧
    ∀ s2 : St, s2.al = (fun _ => none) → s2.st = s.st → Alike ops o s.env s2.env → ∀ K' : St → Prop, (∀ s', s'.st = σ' → s'.env = putE o.dst u (killE ks s2.env) → K' s') → stepW C P ops o s2 K'

theorem stepW_eff {o : Oper} {s : St} {K : St → Prop} (hal : s.al = fun _ => none) (h : stepW C P ops o s K) : EffS C P ops o s K := by
  unfold stepW at h
  split at h
  · rename_i hw
    obtain ⟨ks, u, σ', h1, h2, h3⟩ := opW_eff (ops := ops) hal h
    refine ⟨ks, u, σ', h1, h2, fun s2 g1 g2 g3 K' g4 => ?_⟩
    unfold stepW
    rw [← g3.wanted, hw]
    exact h3 s2 g1 g2 g3 K' g4
  · rename_i hw
    refine ⟨[], .tup [], s.st, by simp, ⟨_, h, put_st, put_env'⟩, fun s2 g1 g2 g3 K' g4 => ?_⟩
    unfold stepW
    rw [← g3.wanted, hw]
    exact g4 _ (by rw [put_st, g2]) put_env'
  · exact h.elim

theorem opW_read {o : Oper} {s : St} (hk : kindOf o ≠ .other) : ∃ r, ∀ K, opW C P o s K = match opVal P s.env s.st o with | some v => K (s.put o.dst v r) | none => False := by
  unfold kindOf at hk
  cases hop : o.op
  case call c =>
    rw [hop] at hk
    refine ⟨none, fun K => ?_⟩
    cases hcal : c.callee
    case builtin b =>
      cases b
      case append => simp [hcal] at hk
      all_goals
        simp only [opW, hop, hcal]
        rfl
    all_goals simp [hcal] at hk
  all_goals first
    | (simp [hop] at hk; done)
    | exact ⟨opSrc P s.env o, fun K => by simp only [opW, hop]; rfl⟩

theorem stepW_read {o : Oper} {s : St} {K : St → Prop} (hk : kindOf o ≠ .other) (h : stepW C P ops o s K) :
    ∃ u, (∃ s', K s' ∧ s'.st = s.st ∧ s'.env = putE o.dst u s.env) ∧
      ∀ s2 : St, (kindOf o = .plain ∨ s2.st = s.st) → Alike ops o s.env s2.env → ∀ K' : St → Prop, (∀ s', s'.st = s2.st → s'.env = putE o.dst u s2.env → K' s') → stepW C P ops o s2 K' := by
  have pe : ∀ (s : St) v r, (s.put o.dst v r).env = putE o.dst v s.env := fun s v r => by cases o.dst <;> rfl
  unfold stepW at h
  split at h
  · rename_i hw
    obtain ⟨r, hr⟩ := opW_read (C := C) (P := P) (s := s) hk
    rw [hr] at h
    split at h
    · rename_i v hv
      refine ⟨v, ⟨_, h, put_st, pe _ _ _⟩, fun s2 g1 g2 K' g4 => ?_⟩
      obtain ⟨r2, hr2⟩ := opW_read (C := C) (P := P) (s := s2) hk
      unfold stepW
      rw [← g2.wanted, hw]
      simp only
      rw [hr2, ← opVal_congr (P := P) (σ := s.st) g2 (g1.imp id Eq.symm), hv]
      exact g4 _ put_st (pe _ _ _)
    · exact h.elim
  · rename_i hw
    refine ⟨.tup [], ⟨_, h, put_st, pe _ _ _⟩, fun s2 g1 g2 K' g4 => ?_⟩
    unfold stepW
    rw [← g2.wanted, hw]
    exact g4 _ put_st (pe _ _ _)
  · exact h.elim

theorem putE_comm {d e : Option Nat} {u v : AV} {ks : List Nat} {env : Env} (hde : ∀ x, d = some x → e ≠ some x) (hk : ∀ x, d = some x → x ∉ ks) :
    putE e v (killE ks (putE d u env)) = putE d u (putE e v (killE ks env)) := by
  cases d with
  | none => rfl
  | some d =>
    have h1 : killE ks (putE (some d) u env) = putE (some d) u (killE ks env) := by
      funext t
      have := hk d rfl
      simp only [killE, putE, upd]
      by_cases hm : t ∈ ks
      · rw [if_pos hm]
        have hne : t ≠ d := fun e => this (e ▸ hm)
        rw [if_neg hne, if_neg hne, if_pos hm]
      · rw [if_neg hm, if_neg hm]
    rw [h1]
    cases e with
    | none => rfl
    | some e => exact upd_comm fun h => hde d rfl (by rw [h])

theorem alike_put {o x : Oper} {u : AV} {ks : List Nat} {env : Env} (hd : ∀ d, x.dst = some d → d ∉ o.looksAt ops) (hk : ∀ t ∈ ks, t ∉ o.looksAt ops) : Alike ops o (putE x.dst u (killE ks env)) env := fun t ht => by
  have h1 : killE ks env t = env t := by simp only [killE]; rw [if_neg fun hm => hk t hm ht]
  cases hx : x.dst with
  | none => exact h1
  | some d =>
    simp only [putE, upd]
    rw [if_neg fun e : t = d => hd d hx (e ▸ ht)]
    exact h1
theorem killE_nil {env : Env} : killE [] env = env := by funext t; simp [killE]
theorem Alike.symm {o : Oper} {e e' : Env} (h : Alike ops o e e') : Alike ops o e' e := fun t ht => (h t ht).symm

theorem wd_swap {x y : Oper} {l : List Oper} {s : St} {K : St → Prop} (hal : s.al = fun _ => none) (hi : indepB ops x y = true) (h : WD C P ops (x :: y :: l) s K) : WD C P ops (y :: x :: l) s K := by
  simp only [WD] at h ⊢
  unfold indepB at hi
  rw [Bool.and_eq_true] at hi
  obtain ⟨a1, a2, a3⟩ := Oper.apart_spec hi.1
  have a2' : ∀ d, y.dst = some d → x.dst ≠ some d := fun d hd hx => a2 d hx hd
  have hi2 := hi.2
  simp only [Bool.or_eq_true, Bool.and_eq_true, beq_iff_eq, List.all_eq_true, Bool.not_eq_true', List.contains_eq_mem, decide_eq_false_iff_not] at hi2
  rcases hi2 with (⟨hp, hk⟩ | ⟨hp, hk⟩) | ⟨hp, hq⟩
  · obtain ⟨u1, ⟨s1, g1, g2, g3⟩, g4⟩ := stepW_read (by simp [hp]) h
    obtain ⟨ks, u2, σ2, e1, ⟨s2, e2, e3, e4⟩, e5⟩ := stepW_eff (by rfl) g1
    have hA : Alike ops y s1.env s.env := by
      rw [g3]
      have := alike_put (ops := ops) (o := y) (x := x) (u := u1) (ks := []) (env := s.env) a1 (by simp)
      rwa [killE_nil] at this
    refine e5 s hal g2.symm hA _ fun t1 f1 f2 => ?_
    have hB : Alike ops x s.env t1.clr.env := by
      show Alike ops x s.env t1.env
      rw [f2]
      exact (alike_put a3 fun t ht => hk t (e1 t ht)).symm
    refine g4 t1.clr (.inl hp) hB _ fun t2 q1 q2 => ?_
    have : t2.clr = s2.clr := by
      refine clr_ext ?_ (by rw [q1, e3]; exact f1)
      rw [q2, e4]
      show putE x.dst u1 t1.env = putE y.dst u2 (killE ks s1.env)
      rw [f2, g3]
      exact (putE_comm a2 fun d hd hm => a1 d hd (kills_looks (e1 d hm))).symm
    rw [this]; exact e2
  · obtain ⟨ks, u1, σ1, e1, ⟨s1, e2, e3, e4⟩, e5⟩ := stepW_eff hal h
    obtain ⟨u2, ⟨s2, g1, g2, g3⟩, g4⟩ := stepW_read (by simp [hp]) e2
    have hA : Alike ops y s1.clr.env s.env := by
      show Alike ops y s1.env s.env
      rw [e4]
      exact alike_put a1 fun t ht => hk t (e1 t ht)
    refine g4 s (.inl hp) hA _ fun t1 f1 f2 => ?_
    have hB : Alike ops x s.env t1.clr.env := by
      show Alike ops x s.env t1.env
      rw [f2]
      have := alike_put (ops := ops) (o := x) (x := y) (u := u2) (ks := []) (env := s.env) a3 (by simp)
      rw [killE_nil] at this
      exact this.symm
    refine e5 t1.clr rfl f1 hB _ fun t2 q1 q2 => ?_
    have : t2.clr = s2.clr := by
      refine clr_ext ?_ (by rw [q1, g2]; exact e3.symm)
      rw [q2, g3]
      show putE x.dst u1 (killE ks t1.env) = putE y.dst u2 s1.env
      rw [f2, e4]
      exact putE_comm a2' fun d hd hm => a3 d hd (kills_looks (e1 d hm))
    rw [this]; exact g1
  · obtain ⟨u1, ⟨s1, g1, g2, g3⟩, g4⟩ := stepW_read (by simp [hp]) h
    obtain ⟨u2, ⟨s2, e1, e2, e3⟩, e4⟩ := stepW_read (by simp [hq]) g1
    have hA : Alike ops y s1.clr.env s.env := by
      show Alike ops y s1.env s.env
      rw [g3]
      have := alike_put (ops := ops) (o := y) (x := x) (u := u1) (ks := []) (env := s.env) a1 (by simp)
      rwa [killE_nil] at this
    refine e4 s (.inr g2.symm) hA _ fun t1 f1 f2 => ?_
    have hB : Alike ops x s.env t1.clr.env := by
      show Alike ops x s.env t1.env
      rw [f2]
      have := alike_put (ops := ops) (o := x) (x := y) (u := u2) (ks := []) (env := s.env) a3 (by simp)
      rw [killE_nil] at this
      exact this.symm
    refine g4 t1.clr (.inr f1) hB _ fun t2 q1 q2 => ?_
    have : t2.clr = s2.clr := by
      refine clr_ext ?_ (by rw [q1, e2]; exact f1.trans g2.symm)
      rw [q2, e3]
      show putE x.dst u1 t1.env = putE y.dst u2 s1.env
      rw [f2, g3]
      have := putE_comm (d := y.dst) (e := x.dst) (u := u2) (v := u1) (ks := []) (env := s.env) a2' (by simp)
      rw [killE_nil, killE_nil] at this
      exact this
    rw [this]; exact e1

theorem wd_mono1 {x : Oper} {s : St} {K K' : St → Prop} (hal : s.al = fun _ => none) (h : stepW C P ops x s fun s' => K s'.clr) (hK : ∀ s', s'.al = (fun _ => none) → K s' → K' s') : stepW C P ops x s fun s' => K' s'.clr := by
  obtain ⟨ks, u1, σ1, e1, ⟨s1, e2, e3, e4⟩, e5⟩ := stepW_eff hal h
  refine e5 s hal rfl (fun _ _ => rfl) _ fun t1 f1 f2 => ?_
  have : t1.clr = s1.clr := clr_ext (by rw [f2, e4]) (by rw [f1, e3])
  rw [this]; exact hK _ rfl e2

/-- An operation is fetched to the front. -/
theorem wd_front {x : Oper} {l2 : List Oper} {K : St → Prop} : ∀ (l1 : List Oper) (s : St), s.al = (fun _ => none) → (∀ y ∈ l1, indepB ops x y = true) → WD C P ops (x :: (l1 ++ l2)) s K → WD C P ops (l1 ++ x :: l2) s K
  | [], _, _, _, h => h
  | y :: l1, s, hal, hi, h => by
    have := wd_swap hal (hi y (by simp)) h
    simp only [List.cons_append]
    unfold WD at this ⊢
    exact wd_mono1 (K := fun s' => WD C P ops (x :: (l1 ++ l2)) s' K) (K' := fun s' => WD C P ops (l1 ++ x :: l2) s' K) hal this fun s' hs' h' => wd_front l1 s' hs' (fun z hz => hi z (List.mem_cons_of_mem _ hz)) h'

/-! ### Orders -/
/-- An order of the operations that are left. -/
inductive Topo (ops : Array Oper) : List Nat → List Nat → Prop
  | nil : Topo ops [] []
  | cons {rem L : List Nat} {i : Nat} : i ∈ readyL ops rem → Topo ops (rem.erase i) L → Topo ops rem (i :: L)

theorem mem_readyL {rem : List Nat} {i : Nat} : i ∈ readyL ops rem ↔ i ∈ rem ∧ ∀ j ∈ rem, waits ops i j = false := by
  simp [readyL, List.mem_filter]
theorem readyL_erase {rem : List Nat} {i j : Nat} (h : i ∈ readyL ops rem) (hne : i ≠ j) : i ∈ readyL ops (rem.erase j) := by
  rw [mem_readyL] at h ⊢
  exact ⟨(List.mem_erase_of_ne hne).2 h.1, fun k hk => h.2 k (List.mem_of_mem_erase hk)⟩

theorem Topo.mem {rem L : List Nat} (h : Topo ops rem L) : ∀ i, i ∈ L ↔ i ∈ rem := by
  induction h with
  | nil => simp
  | @cons rem L i hi _ ih =>
    have hm := (mem_readyL.1 hi).1
    intro j
    by_cases e : j = i
    · subst e; simp [hm]
    · simp [e, ih j, List.mem_erase_of_ne e]

theorem Topo.take {L2 : List Nat} {i : Nat} : ∀ {L1 : List Nat} {rem : List Nat}, Topo ops rem (L1 ++ i :: L2) → i ∉ L1 → i ∈ readyL ops rem → Topo ops (rem.erase i) (L1 ++ L2)
  | [], rem, h, _, _ => by cases h with | cons _ h => exact h
  | j :: L1, rem, h, hn, hi => by
    simp only [List.mem_cons, not_or] at hn
    cases h with
    | cons hj h =>
      refine .cons (readyL_erase hj (Ne.symm hn.1)) ?_
      rw [List.erase_comm]
      exact Topo.take (L1 := L1) h hn.2 (readyL_erase hi hn.1)

theorem Topo.ready {j : Nat} {B : List Nat} : ∀ {A : List Nat} {rem : List Nat}, Topo ops rem (A ++ j :: B) → ∀ k ∈ rem, k ∈ A ∨ waits ops j k = false
  | [], rem, h, k, hk => by cases h with | cons hj _ => exact .inr ((mem_readyL.1 hj).2 k hk)
  | a :: A, rem, h, k, hk => by
    cases h with
    | cons ha h =>
      by_cases e : k = a
      · exact .inl (by simp [e])
      · exact (Topo.ready (A := A) h k ((List.mem_erase_of_ne e).2 hk)).imp (List.mem_cons_of_mem _) id

/-- Who stands ahead doesn't wait. -/
theorem Topo.ahead {L1 L2 rem : List Nat} {i : Nat} (h : Topo ops rem (L1 ++ i :: L2)) (hn : i ∉ L1) : ∀ (f : Nat) (j : Nat), j ∈ L1 → depR ops rem f j i = false
  | 0, _, _ => rfl
  | f + 1, j, hj => by
    obtain ⟨A, B, rfl⟩ := List.append_of_mem hj
    have h' : Topo ops rem (A ++ j :: (B ++ i :: L2)) := by simpa using h
    have hi : i ∈ rem := (h.mem i).1 (by simp)
    simp only [depR, Bool.or_eq_false_iff]
    refine ⟨(h'.ready i hi).resolve_left fun hm => hn (by simp [hm]), ?_⟩
    rw [List.any_eq_false]
    intro k hk hb
    simp only [Bool.and_eq_true] at hb
    rcases h'.ready k hk with hm | hw
    · rw [Topo.ahead h hn f k (by simp [hm])] at hb
      exact Bool.noConfusion hb.2
    · rw [hw] at hb; exact Bool.noConfusion hb.1

theorem filterMap_mem {l : List Nat} {y : Oper} (h : y ∈ l.filterMap (ops[·]?)) : ∃ j ∈ l, ops[j]? = some y := by
  simpa [List.mem_filterMap] using h

theorem wt_both {K : St → Prop} {s : St} {f : Nat → OT} : ∀ {l : List Nat} {i : Nat}, i ∈ l → WT C P ops (l.foldr (fun i t => .both (f i) t) .top) s K → WT C P ops (f i) s K
  | j :: l, i, hi, h => by
    simp only [List.foldr_cons, WT] at h
    rcases List.mem_cons.1 hi with e | e
    · subst e; exact h.1
    · exact wt_both e h.2

/-- **One order of each kind serves for all.** -/
theorem wd_orders {K : St → Prop} : ∀ (fuel : Nat) (rem L : List Nat) (s : St), rem.length ≤ fuel → s.al = (fun _ => none) → Topo ops rem L → (∀ i ∈ rem, i < ops.size) →
    WT C P ops (orders ops fuel rem) s K → WD C P ops (L.filterMap (ops[·]?)) s K
  | 0, rem, L, s, hl, hal, ht, hlt, h => by
    have hr : rem = [] := List.length_eq_zero_iff.1 (by omega)
    subst hr
    have hL : L = [] := by
      cases L with
      | nil => rfl
      | cons i L => exact absurd ((ht.mem i).1 (by simp)) (by simp)
    subst hL
    exact h
  | fuel + 1, [], L, s, hl, hal, ht, hlt, h => by
    have hL : L = [] := by
      cases L with
      | nil => rfl
      | cons i L => exact absurd ((ht.mem i).1 (by simp)) (by simp)
    subst hL
    exact h
  | fuel + 1, r :: rem, L, s, hl, hal, ht, hlt, h => by
    have hlen : ∀ i ∈ (r :: rem), ((r :: rem).erase i).length ≤ fuel := fun i hi => by
      rw [List.length_erase_of_mem hi]; simp at hl ⊢; omega
    simp only [orders] at h
    generalize hrr : r :: rem = rr at h ht hlt hlen
    have hop : ∀ i ∈ rr, ∃ o, ops[i]? = some o := fun i hi => ⟨ops[i]'(hlt i hi), by simp [hlt i hi]⟩
    have hsub : ∀ (i : Nat), ∀ k ∈ rr.erase i, k < ops.size := fun i k hk => hlt k (List.mem_of_mem_erase hk)
    have hstep : ∀ (i : Nat) (o : Oper) (L1 : List Nat), ops[i]? = some o → i ∈ rr → Topo ops (rr.erase i) L1 → WT C P ops (.one i (orders ops fuel (rr.erase i))) s K → WD C P ops (o :: L1.filterMap (ops[·]?)) s K := fun i o L1 ho hi ht1 hh => by
      simp only [WT, ho] at hh
      exact wd_mono1 (K := fun s' => WT C P ops (orders ops fuel (rr.erase i)) s' K) (K' := fun s' => WD C P ops (L1.filterMap (ops[·]?)) s' K) hal hh fun s' hs' h' =>
        wd_orders fuel (rr.erase i) L1 s' (hlen i hi) hs' ht1 (hsub i) h'
    split at h
    · rename_i i hf
      have hir := List.mem_of_find?_eq_some hf
      have hfree := List.find?_some hf
      obtain ⟨hi, _⟩ := mem_readyL.1 hir
      obtain ⟨o, ho⟩ := hop i hi
      obtain ⟨L1, L2, rfl, hn⟩ := List.eq_append_cons_of_mem ((ht.mem i).2 hi)
      have ht1 := ht.take hn hir
      rw [List.filterMap_append, List.filterMap_cons_some ho]
      refine wd_front _ s hal (fun y hy => ?_) ?_
      · obtain ⟨j, hj, hjy⟩ := filterMap_mem hy
        have hjr : j ∈ rr := (ht.mem j).1 (by simp [hj])
        simp only [freeB, List.all_eq_true] at hfree
        have := hfree j hjr
        rw [ht.ahead hn _ j hj, ho, hjy] at this
        have hne : (j == i) = false := by simp; exact fun e => hn (e ▸ hj)
        simpa [hne] using this
      · rw [← List.filterMap_append]
        exact hstep i o _ ho hi ht1 h
    · cases ht with
      | nil => cases hrr
      | @cons _ L i hir ht1 =>
        obtain ⟨hi, _⟩ := mem_readyL.1 hir
        obtain ⟨o, ho⟩ := hop i hi
        rw [List.filterMap_cons_some ho]
        exact hstep i o _ ho hi ht1 (wt_both hir h)
end
end Go.Pv
/- The laws of operations grow with what is known of calls and with what is asked at the end; regions in all orders. -/
namespace Go.Pv
open Go

section
variable {P : Program} {C C' : CallRel} {ops : Array Oper}

theorem callW_mono (hC : ∀ f args σ r σ', C f args σ r σ' → C' f args σ r σ') {f : Nat} {args : List AV} {s : St} {dst : Option Nat} {K K' : St → Prop} (hK : ∀ s, K s → K' s) (h : callW C f args s dst K) : callW C' f args s dst K' := by
  obtain ⟨ids, args', σi, r, σo, h1, h2, h3, h4, h5, h6⟩ := h
  exact ⟨ids, args', σi, r, σo, h1, h2, h3, hC _ _ _ _ _ h4, h5, hK _ h6⟩

theorem appendW_mono {T : TypeId} {x : Operand} {ys : Option (Nat × List AV)} {s : St} {dst : Option Nat} {K K' : St → Prop} (hK : ∀ s, K s → K' s) (h : appendW P T x ys s dst K) : appendW P T x ys s dst K' := by
  unfold appendW at h ⊢
  split at h
  · exact h.elim
  · split at h
    · split at h
      · exact ⟨h.1, h.2.1, hK _ h.2.2⟩
      · exact h.elim
    · split at h
      · exact ⟨h.1, h.2.1, hK _ h.2.2⟩
      · exact ⟨h.1, h.2.1, hK _ h.2.2⟩
      · split at h
        · split at h
          · exact ⟨h.1, h.2.1, hK _ h.2.2⟩
          · exact h.elim
        · split at h
          · split at h
            · exact ⟨h.1, h.2.1, hK _ h.2.2⟩
            · exact h.elim
          · exact h.elim
        · exact h.elim
      · exact h.elim
    · exact h.elim

theorem opW_mono (hC : ∀ f args σ r σ', C f args σ r σ' → C' f args σ r σ') {o : Oper} {s : St} {K K' : St → Prop} (hK : ∀ s, K s → K' s) (h : opW C P o s K) : opW C' P o s K' := by
  unfold opW at h ⊢
  split at h
  · exact hK _ h
  · split at h
    · exact hK _ h
    · exact h.elim
  · split at h
    · rename_i hc; rw [if_pos hc]; exact hK _ h
    · exact h.elim
  · split at h
    · split at h
      · split at h
        · rename_i hc; rw [if_pos hc]; exact hK _ h
        · exact h.elim
      · exact h.elim
    · exact h.elim
  · split at h
    · exact hK _ h
    · exact h.elim
  · split at h
    · split at h
      · split at h
        · rename_i hc; rw [if_pos hc]; exact hK _ h
        · rename_i hc; rw [if_neg hc]; exact hK _ h
      · exact h.elim
    · exact h.elim
  · split at h
    · split at h
      · split at h
        · rename_i hc; rw [if_pos hc]; exact appendW_mono hK h
        · exact h.elim
      · exact h.elim
    · split at h
      · exact hK _ h
      · exact h.elim
    · exact callW_mono hC hK h
    · split at h
      · exact callW_mono hC hK h
      · exact h.elim
    · exact h.elim
  · split at h
    · exact hK _ h
    · exact h.elim

theorem W_mono (hC : ∀ f args σ r σ', C f args σ r σ' → C' f args σ r σ') {K K' : St → Prop} (hK : ∀ s, K s → K' s) : ∀ (l : List Oper) (s : St), W C P ops l s K → W C' P ops l s K'
  | [], s, h => hK _ h
  | o :: l, s, h => by
    simp only [W] at h ⊢
    split at h
    · exact opW_mono hC (fun s' h' => W_mono hC hK l s' h') h
    · exact W_mono hC hK l _ h
    · exact h.elim

theorem stepW_mono (hC : ∀ f args σ r σ', C f args σ r σ' → C' f args σ r σ') {o : Oper} {s : St} {K K' : St → Prop} (hK : ∀ s, K s → K' s) (h : stepW C P ops o s K) : stepW C' P ops o s K' := by
  unfold stepW at h ⊢
  split at h
  · exact opW_mono hC hK h
  · exact hK _ h
  · exact h.elim

theorem WT_mono (hC : ∀ f args σ r σ', C f args σ r σ' → C' f args σ r σ') {K K' : St → Prop} (hK : ∀ s, K s → K' s) : ∀ (t : OT) (s : St), WT C P ops t s K → WT C' P ops t s K'
  | .nil, s, h => hK _ h
  | .one i t, s, h => by
    simp only [WT] at h ⊢
    split at h
    · exact stepW_mono hC (fun s' h' => WT_mono hC hK t _ h') h
    · exact h.elim
  | .both a b, s, h => ⟨WT_mono hC hK a s h.1, WT_mono hC hK b s h.2⟩
  | .top, s, h => trivial

theorem WU_mono (hC : ∀ f args σ r σ', C f args σ r σ' → C' f args σ r σ') {K K' : St → Prop} (hK : ∀ s, K s → K' s) : ∀ (t : OT) (s : St), WU C P ops t s K → WU C' P ops t s K'
  | .nil, s, h => hK _ h
  | .one i t, s, h => by
    simp only [WU] at h ⊢
    split at h
    · exact stepW_mono hC (fun s' h' => WU_mono hC hK t _ h') h
    · exact h.elim
  | .both a b, s, h => ⟨WU_mono hC hK a s h.1, WU_mono hC hK b s h.2⟩
  | .top, s, h => trivial
theorem wu_pick {K : St → Prop} {f : Nat → OT} : ∀ (l : List Nat) (i : Nat) (s : St), i ∈ l → WU C P ops (l.foldr (fun i t => .both (.one i (f i)) t) .top) s K → WU C P ops (.one i (f i)) s K
  | [], i, s, h, _ => by simp at h
  | j :: l, i, s, h, hw => by
    rcases List.mem_cons.1 h with rfl | h
    · exact hw.1
    · exact wu_pick l i s h hw.2
theorem wu_topo {K : St → Prop} : ∀ (fuel : Nat) (rem L : List Nat) (s : St), rem.length ≤ fuel → Topo ops rem L → WU C P ops (ordersA ops fuel rem) s K → W C P ops (L.filterMap (ops[·]?)) s K
  | fuel, rem, [], s, hl, ht, h => by
    cases ht
    cases fuel <;> exact h
  | 0, rem, i :: L, s, hl, ht, h => by
    cases ht with
    | cons hi _ => have := (mem_readyL.1 hi).1; rw [List.length_eq_zero_iff.1 (by omega : rem.length = 0)] at this; simp at this
  | fuel + 1, rem, i :: L, s, hl, ht, h => by
    cases ht with
    | cons hi ht1 =>
      have him := (mem_readyL.1 hi).1
      cases rem with
      | nil => simp at him
      | cons r rem =>
        have h1 := wu_pick (f := fun i => ordersA ops fuel ((r :: rem).erase i)) _ i s hi h
        simp only [WU] at h1
        split at h1
        · rename_i o ho
          rw [List.filterMap_cons_some ho]
          have hlen : ((r :: rem).erase i).length ≤ fuel := by rw [List.length_erase_of_mem him]; simp at hl ⊢; omega
          unfold stepW at h1
          simp only [W]
          split at h1
          · exact opW_mono (fun _ _ _ _ _ h => h) (fun s' h' => wu_topo fuel _ L s' hlen ht1 h') h1
          · exact wu_topo fuel _ L _ hlen ht1 h1
          · exact h1.elim
        · exact h1.elim
end
end Go.Pv
/- Regions, and code: the machine does what 'wp' tells. -/
namespace Go.Pv
open Go

section
variable {P : Program} {n : Nat} {w0 : World} {S0 : Frz} {T0 : Nat → Prop} {φ : List Nat} {S : Frz} {w : World} {C : CallRel} {ops : Array Oper}

theorem wanted_rel {o : Oper} {env : Env} {tm : Array Value} {b : Bool} (hv : ∀ t, VR φ S (env t) (tm.getD t undef)) (h : wantedA ops o env = some b) : Region.wanted o (yielded ops tm) = b := by
  unfold wantedA at h
  unfold Region.wanted
  cases hg : o.guard with
  | none => rw [hg] at h; simpa using h
  | some g =>
    obtain ⟨j, want⟩ := g
    rw [hg] at h
    simp only at h ⊢
    cases ht : (ops[j]?).bind (·.dst) with
    | none => rw [ht] at h; cases h
    | some t =>
      rw [ht] at h
      simp only at h
      have hvt := hv t
      have hy : yielded ops tm j = match tm[t]? with | some (.bool b) => some b | _ => none := by
        simp only [yielded, ht, Option.bind_some]
        rfl
      rw [hy]
      cases hx : tm[t]? with
      | none =>
        have : tm.getD t undef = undef := by simp [hx]
        rw [this] at hvt
        split at h
        · rename_i b' he
          rw [he] at hvt
          have := vr_bool hvt
          cases this
        · cases h; rfl
        · cases h
      | some x =>
        have : tm.getD t undef = x := by simp [hx]
        rw [this] at hvt
        split at h
        · rename_i b' he
          rw [he] at hvt
          have := vr_bool hvt
          subst this
          cases h
          simp
        · rename_i he
          rw [he] at hvt
          obtain ⟨vs, hvs, _⟩ := vr_tup hvt
          subst hvs
          cases h
          rfl
        · cases h

theorem alRel_none {tm : Array Value} : AlRel φ (fun _ => none) tm w := fun t r h => by cases h

theorem skip_rel {s : St} {a : Act} {o : Oper} (hd : ∀ d, o.dst = some d → d < n) (hR : Rel n w0 S0 T0 φ S s.env s.st a.tmps w) (hA : AlRel φ s.al a.tmps w) :
    Rel n w0 S0 T0 φ S (s.put o.dst (.tup []) none).env (s.put o.dst (.tup []) none).st (a.put o.dst undef).tmps w ∧ AlRel φ (s.put o.dst (.tup []) none).al (a.put o.dst undef).tmps w ∧ (a.put o.dst undef).defers = a.defers :=
  put_rel hd hR hA (av := .tup []) (v := undef) ⟨#[], rfl, by simp [RL]⟩ (fun _ _ e => by cases e) (fun _ e => by cases e)

theorem opOk_dst {o : Oper} (h : opOk n o = true) (d : Nat) (hd : o.dst = some d) : d < n := by
  simp only [opOk, hd, Bool.and_eq_true, decide_eq_true_eq] at h
  exact h.1

theorem w_sound {G : Frz} (hG : G.le S0) (hC : ∀ f args σ r σ', C f args σ r σ' → Sound P G f args σ r σ') {K : St → Prop} {Q : Exit → Act → World → Prop} : ∀ (L : List Nat) (φ : List Nat) (S : Frz) (s : St) (a : Act) (w : World), (∀ i ∈ L, ∃ o, ops[i]? = some o ∧ opOk n o = true) →
    W C P ops (L.filterMap (ops[·]?)) s K → Rel n w0 S0 T0 φ S s.env s.st a.tmps w → AlRel φ s.al a.tmps w → a.defers = [] → NextOk n w0 S0 T0 φ K (fun a w => Q .normal a w) → wpOps P ops Q L a w
  | [], φ, S, s, a, w, _, h, hR, hA, hd, hK => hK _ _ _ _ _ h (fun _ _ h => h) hR hA hd
  | i :: L, φ, S, s, a, w, hok, h, hR, hA, hd, hK => by
    obtain ⟨o, ho, hoo⟩ := hok i (by simp)
    have hok' : ∀ i ∈ L, ∃ o, ops[i]? = some o ∧ opOk n o = true := fun i hi => hok i (by simp [hi])
    rw [List.filterMap_cons_some ho] at h
    simp only [W] at h
    simp only [wpOps, ho]
    split at h
    · rename_i hw
      rw [if_pos (wanted_rel hR.vals hw)]
      refine .inl (opW_sound hG hC hoo h hR hA hd fun s' φ' S' a' w' h' hf hR' hA' hd' => ?_)
      exact w_sound hG hC L φ' S' s' a' w' hok' h' hR' hA' hd' fun s2 φ2 S2 a2 w2 g1 g2 g3 g4 g5 => hK _ _ _ _ _ g1 (fun b k hb => g2 b k (hf b k hb)) g3 g4 g5
    · rename_i hw
      rw [if_neg (by rw [wanted_rel hR.vals hw]; simp)]
      obtain ⟨g1, g2, g3⟩ := skip_rel (o := o) (opOk_dst hoo) hR hA
      exact w_sound hG hC L φ S _ _ w hok' h g1 g2 (by rw [g3, hd]) hK
    · exact h.elim

theorem wd_sound {G : Frz} (hG : G.le S0) (hC : ∀ f args σ r σ', C f args σ r σ' → Sound P G f args σ r σ') {K : St → Prop} {Q : Exit → Act → World → Prop} : ∀ (L : List Nat) (φ : List Nat) (S : Frz) (s : St) (a : Act) (w : World), (∀ i ∈ L, ∃ o, ops[i]? = some o ∧ opOk n o = true) →
    WD C P ops (L.filterMap (ops[·]?)) s K → Rel n w0 S0 T0 φ S s.env s.st a.tmps w → AlRel φ s.al a.tmps w → a.defers = [] → NextOk n w0 S0 T0 φ K (fun a w => Q .normal a w) → wpOps P ops Q L a w
  | [], φ, S, s, a, w, _, h, hR, hA, hd, hK => hK _ _ _ _ _ h (fun _ _ h => h) hR hA hd
  | i :: L, φ, S, s, a, w, hok, h, hR, hA, hd, hK => by
    obtain ⟨o, ho, hoo⟩ := hok i (by simp)
    have hok' : ∀ i ∈ L, ∃ o, ops[i]? = some o ∧ opOk n o = true := fun i hi => hok i (by simp [hi])
    rw [List.filterMap_cons_some ho] at h
    simp only [WD, stepW] at h
    simp only [wpOps, ho]
    split at h
    · rename_i hw
      rw [if_pos (wanted_rel hR.vals hw)]
      refine .inl (opW_sound hG hC hoo h hR hA hd fun s' φ' S' a' w' h' hf hR' hA' hd' => ?_)
      exact wd_sound hG hC L φ' S' s'.clr a' w' hok' h' hR' alRel_none hd' fun s2 φ2 S2 a2 w2 g1 g2 g3 g4 g5 => hK _ _ _ _ _ g1 (fun b k hb => g2 b k (hf b k hb)) g3 g4 g5
    · rename_i hw
      rw [if_neg (by rw [wanted_rel hR.vals hw]; simp)]
      obtain ⟨g1, g2, g3⟩ := skip_rel (o := o) (opOk_dst hoo) hR hA
      exact wd_sound hG hC L φ S (s.put o.dst (.tup []) none).clr _ w hok' h g1 alRel_none (by rw [g3, hd]) hK
    · exact h.elim

/-! ### What is drawn is an order -/
def left (ops : Array Oper) (listed : Array Bool) : List Nat := (List.range ops.size).filter fun i => !listed.getD i true

theorem left_nodup {listed : Array Bool} : (left ops listed).Nodup := List.nodup_range.filter _
theorem ready_eq (hB : acycB ops = true) {listed : Array Bool} (hs : listed.size = ops.size) : Region.ready .any ops listed = readyL ops (left ops listed) := by
  unfold Region.ready readyL left
  rw [List.filter_filter]
  refine List.filter_congr fun i hi => ?_
  rw [Bool.and_comm]
  congr 1
  have hlt : i < ops.size := by simpa using hi
  have ho : ops[i]? = some ops[i] := by simp [hlt]
  have hb : ∀ e ∈ ops[i].after, Region.binds .any e = true → e.on < i := by
    have := hB
    simp only [acycB, List.all_eq_true] at this
    have := this i hi
    rw [ho] at this
    simp only [Array.any_toList, Array.all_toList, Array.all_eq_true_iff_forall_mem, Bool.or_eq_true, Bool.not_eq_true', decide_eq_true_eq] at this
    exact fun e he hb => (this e he).resolve_left (by simp [hb])
  rw [ho]
  simp only [Option.map_some, Option.getD_some]
  rw [Bool.eq_iff_iff]
  simp only [Array.any_toList, Array.all_toList, Array.all_eq_true_iff_forall_mem, List.all_eq_true, Bool.or_eq_true, Bool.not_eq_true', List.mem_filter, waits, ho]
  constructor
  · intro h j hj
    simp only [Array.any_toList, Bool.eq_false_iff, ne_eq, Array.any_eq_true', not_exists, not_and, Bool.and_eq_true, beq_iff_eq]
    intro e he hbe hej
    subst hej
    rcases h e he with h1 | h1
    · rw [hbe] at h1; cases h1
    · have h2 := hj.2
      have h3 : e.on < listed.size := by rw [hs]; simpa using hj.1
      simp [h3] at h1 h2
      rw [h1] at h2; cases h2
  · intro h e he
    cases hbe : Region.binds .any e with
    | false => exact .inl rfl
    | true =>
      refine .inr ?_
      have h1 := hb e he hbe
      have h3 : e.on < listed.size := by rw [hs]; omega
      cases hl : listed.getD e.on false with
      | true => rfl
      | false =>
        have h4 := h e.on ⟨by simp; omega, by simp [h3] at hl ⊢; exact hl⟩
        simp only [Array.any_toList, Bool.eq_false_iff, ne_eq, Array.any_eq_true', not_exists, not_and, Bool.and_eq_true, beq_iff_eq] at h4
        exact absurd rfl (h4 e he hbe)

theorem left_set {listed : Array Bool} {i : Nat} (hs : listed.size = ops.size) (hi : i ∈ left ops listed) : left ops (listed.setIfInBounds i true) = (left ops listed).erase i := by
  rw [List.Nodup.erase_eq_filter left_nodup]
  unfold left
  rw [List.filter_filter]
  refine List.filter_congr fun j hj => ?_
  by_cases e : i = j
  · subst e
    have : i < listed.size := by rw [hs]; simpa using hj
    simp [this]
  · rw [getD_set_ne true e]
    have : j ≠ i := fun h => e h.symm
    simp [this]

theorem ready_some (hB : acycB ops = true) {listed : Array Bool} (hs : listed.size = ops.size) (hne : left ops listed ≠ []) : Region.ready .any ops listed ≠ [] := by
  have key : ∀ k i, i ≤ k → i ∈ left ops listed → ∃ j, j ∈ Region.ready .any ops listed := by
    intro k
    induction k with
    | zero =>
      intro i hi him
      have : i = 0 := by omega
      subst this
      refine ⟨0, ?_⟩
      rw [ready_eq hB hs, mem_readyL]
      refine ⟨him, fun j _ => ?_⟩
      have h0 : 0 < ops.size := by have := (List.mem_filter.1 him).1; simpa using this
      have := List.all_eq_true.1 hB 0 (by simpa using h0)
      have ho : ops[0]? = some ops[0] := by simp [h0]
      rw [ho] at this
      simp only [Array.any_toList, Array.all_toList, Array.all_eq_true_iff_forall_mem, Bool.or_eq_true, Bool.not_eq_true', decide_eq_true_eq] at this
      simp only [Array.any_toList, waits, ho, Bool.eq_false_iff, ne_eq, Array.any_eq_true', not_exists, not_and, Bool.and_eq_true, beq_iff_eq]
      intro e he hbe
      have := this e he
      rw [hbe] at this
      simp at this
    | succ k ih =>
      intro i hi him
      by_cases hr : i ∈ Region.ready .any ops listed
      · exact ⟨i, hr⟩
      · rw [ready_eq hB hs, mem_readyL] at hr
        have hlt : i < ops.size := by have := (List.mem_filter.1 him).1; simpa using this
        have ho : ops[i]? = some ops[i] := by simp [hlt]
        have : ∃ j ∈ left ops listed, waits ops i j = true := by
          refine Classical.byContradiction fun hno => hr ⟨him, fun j hj => ?_⟩
          cases hw : waits ops i j with
          | false => rfl
          | true => exact absurd ⟨j, hj, hw⟩ hno
        obtain ⟨j, hj, hw⟩ := this
        refine ih j ?_ hj
        have h1 := List.all_eq_true.1 hB i (by simpa using hlt)
        rw [ho] at h1
        simp only [Array.any_toList, Array.all_toList, Array.all_eq_true_iff_forall_mem, Bool.or_eq_true, Bool.not_eq_true', decide_eq_true_eq] at h1
        simp only [Array.any_toList, waits, ho, Array.any_eq_true', Bool.and_eq_true, beq_iff_eq] at hw
        obtain ⟨e, he, hbe, hej⟩ := hw
        have := (h1 e he).resolve_left (by simp [hbe])
        omega
  obtain ⟨i, hi⟩ := List.exists_mem_of_ne_nil _ hne
  obtain ⟨j, hj⟩ := key i i (Nat.le_refl _) hi
  intro e; rw [e] at hj; cases hj

theorem linearise_topo (hB : acycB ops = true) : ∀ (fuel t : Nat) (listed : Array Bool), listed.size = ops.size → (left ops listed).length ≤ fuel → Topo ops (left ops listed) (Region.linearise.go .any ops fuel t listed [])
  | 0, t, listed, hs, hl => by
    have : left ops listed = [] := List.length_eq_zero_iff.1 (by omega)
    rw [this]; simp only [Region.linearise.go]; exact .nil
  | fuel + 1, t, listed, hs, hl => by
    simp only [Region.linearise.go]
    change Topo ops (left ops listed) (match (Region.ready .any ops listed)[t % (Region.ready .any ops listed).length]? with
      | some i => Region.linearise.go .any ops fuel (t / (Region.ready .any ops listed).length) (listed.setIfInBounds i true) [i]
      | none => [].reverse)
    cases hi : (Region.ready .any ops listed)[t % (Region.ready .any ops listed).length]? with
    | none =>
      have hnil : Region.ready .any ops listed = [] := by
        cases hr : Region.ready .any ops listed with
        | nil => rfl
        | cons x xs =>
          rw [hr] at hi
          have hlt : t % (x :: xs).length < (x :: xs).length := Nat.mod_lt _ (by simp)
          simp at hi
          simp at hlt
          omega
      have : left ops listed = [] := Classical.byContradiction fun hne => ready_some hB hs hne hnil
      rw [this]; exact .nil
    | some i =>
      simp only []
      rw [linearise_go_acc, List.reverse_singleton, List.singleton_append]
      have hm := List.mem_of_getElem? hi
      rw [ready_eq hB hs] at hm
      have hml := (mem_readyL.1 hm).1
      refine .cons hm ?_
      rw [← left_set hs hml]
      refine linearise_topo hB fuel _ _ (by simp [hs]) ?_
      rw [left_set hs hml, List.length_erase_of_mem hml]
      omega
end
end Go.Pv
/- Forgetting; and code: the machine does what 'wp' tells. -/
namespace Go.Pv
open Go

section
variable {P : Program} {n : Nat} {w0 : World} {S0 : Frz} {T0 : Nat → Prop} {φ : List Nat} {S : Frz} {w : World} {C : CallRel} {ops : Array Oper} {env : Env} {σ : List Blk} {tm : Array Value}

theorem Rel.forgetAll (h : Rel n w0 S0 T0 φ S env σ tm w) {env' : Env} (henv : ∀ t, env' t = .undef ∨ env t = env' t ∨ weak (env t) = env' t) : Rel n w0 S0 T0 φ S env' σ tm w := by
  have hA : ∀ hd sz l, haA env' σ hd = .sl .yes sz l → haA env σ hd = .sl .yes sz l := fun hd sz l ha => by
    cases hd with
    | tmp t =>
      have ha : env' t = .sl .yes sz l := ha
      show env t = _
      rcases henv t with e | e | e
      · rw [e] at ha; cases ha
      · rw [e]; exact ha
      · rw [← e] at ha; exact absurd ha (weak_no _ _ _)
    | cell i off => exact ha
  refine ⟨h.sok, h.evo, h.size, fun t => ?_, h.nodup, h.len, h.blk, h.free, h.inT, fun hd sz l ha => h.own hd sz l (hA _ _ _ ha), fun hd sz l g ha => h.ownT hd sz l g (hA _ _ _ ha),
    fun hd hd' sz l sz' l' g hne ha ha' => h.apart hd hd' sz l sz' l' g hne (hA _ _ _ ha) (hA _ _ _ ha')⟩
  rcases henv t with e | e | e
  · rw [e]; exact VR.undef
  · rw [← e]; exact h.vals t
  · rw [← e]; exact (h.vals t).weak

theorem Rel.weaken (h : Rel n w0 S0 T0 φ S env σ tm w) {m : Nat} {env' : Env} {σ' : List Blk} (hw : Wk m env σ env' σ') {φ0 : List Nat} (hm : φ0.length ≤ m) (hf0 : FiLe φ0 φ) :
    ∃ φ', FiLe φ0 φ' ∧ Rel n w0 S0 T0 φ' S env' σ' tm w := by
  rcases hw with ⟨rfl, henv⟩ | ⟨ks, hnd, hlow, hh, henv⟩
  · refine ⟨φ, hf0, h.forgetAll henv⟩
  obtain ⟨φi, f1, f2, f3, f4, f5, f6⟩ := h.handed hnd hh
  have hsub : ∀ c, c ∈ φi → c ∈ φ := fun c hc => by
    obtain ⟨i, hi⟩ := List.getElem?_of_mem hc
    have hil : i < ks.length := by have := (List.getElem?_eq_some_iff.1 hi).1; omega
    rw [f2 i ks[i] (by simp [hil])] at hi
    exact List.mem_of_getElem? hi
  have hte : ∀ t sz l, env' t = .sl .yes sz l → env t = .sl .yes sz l := fun t sz l he => by
    rcases henv t with e | e | e
    · rw [he] at e; cases e
    · rw [he] at e; exact e
    · rw [he] at e; exact absurd e (weak_no _ _ _)
  have hcell : ∀ i off sz l g, haA env' σ' (.cell i off) = .sl .yes sz l → blkOf (haV φi #[] w (.cell i off)) = some g → touch φi σ' w g := fun i off sz l g ha hg => by
    refine .inr ⟨i, off, sz, l, ?_, hg⟩
    simp only [haA] at ha
    cases hc : cellAt σ' i off with
    | none => simp [hc] at ha
    | some x => simp [hc] at ha; rw [ha]
  have htc : ∀ t i off sz l sz' l' g, env' t = .sl .yes sz l → haA env' σ' (.cell i off) = .sl .yes sz' l' → blkOf (tm.getD t undef) = some g → blkOf (haV φi #[] w (.cell i off)) ≠ some g := fun t i off sz l sz' l' g ht ha hg hg' => by
    have ht' : haA env σ (.tmp t) = .sl .yes sz l := hte t sz l ht
    rcases (f6 g (hcell i off sz' l' g ha hg')).2 with ⟨j, _, hj⟩ | ⟨_, j, o, sz2, l2, _, hj, hjg⟩
    · exact (h.own _ sz l ht').notin hg (List.mem_of_getElem? hj)
    · exact h.apart (.tmp t) (.cell j o) sz l sz2 l2 g (by simp) ht' hj hg hjg
  refine ⟨φi, fun i k hi => ?_, h.sok, h.evo, h.size, fun t => ?_, f4.nodup, f4.len, f4.blk, f4.free, fun i k hk => f5 k ((f4.inT i k hk).elim id fun hge => absurd (f4.fi_lt hk) (by omega)), ?_, ?_, ?_⟩
  · have hil : i < φ0.length := (List.getElem?_eq_some_iff.1 hi).1
    rw [f2 i i (hlow i (by omega))]
    exact hf0 i k hi
  · rcases henv t with e | e | e
    · rw [e]; exact VR.undef
    · have := h.vals t
      rw [e] at this
      exact this.unren f3
    · have := (h.vals t).weak
      rw [e] at this
      exact this.unren f3
  · intro hd sz l ha
    cases hd with
    | tmp t =>
      have ho := h.own (.tmp t) sz l (hte t sz l ha)
      show Own1 φi S w sz l.length (tm.getD t undef)
      have ho : Own1 φ S w sz l.length (tm.getD t undef) := ho
      unfold Own1 at ho ⊢
      split
      · rename_i e; rw [e] at ho; exact ho
      · rename_i e; rw [e] at ho; exact ⟨ho.1, fun hm => ho.2.1 (hsub _ hm), ho.2.2⟩
      · trivial
    | cell i off => exact f4.own (.cell i off) sz l ha
  · intro hd sz l g ha hg
    cases hd with
    | tmp t => exact h.ownT (.tmp t) sz l g (hte t sz l ha) hg
    | cell i off => exact f5 g (hcell i off sz l g ha hg)
  · intro hd hd' sz l sz' l' g hne ha ha' hg
    cases hd with
    | tmp t =>
      cases hd' with
      | tmp t' => exact h.apart (.tmp t) (.tmp t') sz l sz' l' g hne (hte _ _ _ ha) (hte _ _ _ ha') hg
      | cell i' off' => exact htc t i' off' sz l sz' l' g ha ha' hg
    | cell i off =>
      cases hd' with
      | tmp t' => exact fun hg' => htc t' i off sz' l' sz l g ha' ha hg' hg
      | cell i' off' => exact f4.apart (.cell i off) (.cell i' off') sz l sz' l' g hne ha ha' hg

/-! ### Code -/
def exOf : Ex → Exit
  | .normal => .normal
  | .exit id => .exit id
  | .ret => .ret

/-- What is asked of code by sight. -/
def codeOk (n : Nat) : Code → Bool
  | .skip => true
  | .region _ ops false => ops.toList.all (opOk n)
  | .region _ ops true => ops.toList.all (opOk n) && acycB ops
  | .seq a b => codeOk n a && codeOk n b
  | .cond _ a b => codeOk n a && codeOk n b
  | .block _ a => codeOk n a
  | .loop a => codeOk n a
  | .exit _ => true
  | .ret => true
  | .refuse _ => true
  | _ => false

/-- Another round of a loop is ahead. -/
def LoopWp (P : Program) (c : Code) (Q : Exit → Act → World → Prop) (a : Act) (w : World) : Prop :=
  ∀ (b : Frame) (k : List Item) (cs : List Frame), ∃ e a' w', Q e a' w' ∧ Arrives P (lone (b.at a (.code c :: .inLoop c :: k)) cs w) b k cs e a' w'

theorem wp_loop_of {c : Code} {Q : Exit → Act → World → Prop} {a : Act} (h : LoopWp P c Q a w) : (Code.loop c).wp P Q a w := fun b k cs => by
  obtain ⟨e, a', w', hq, harr⟩ := h b k cs
  exact ⟨e, a', w', hq, .of_steps (.one step_loop) harr⟩

theorem loopWp_round {c : Code} {Q : Exit → Act → World → Prop} {a : Act} (h : c.wp P (Exit.then (LoopWp P c Q) Q) a w) : LoopWp P c Q a w := fun b k cs => by
  obtain ⟨e, a₁, w₁, hq, harr⟩ := h b (.inLoop c :: k) cs
  cases e with
  | normal =>
    obtain ⟨e₂, a₂, w₂, hq₂, harr₂⟩ := hq b k cs
    exact ⟨e₂, a₂, w₂, hq₂, .of_steps (Steps.trans harr (.one step_inLoop)) harr₂⟩
  | exit id => exact ⟨_, a₁, w₁, hq, .pass (x := .inLoop c) rfl (fun _ _ => .inl (by simp)) harr⟩
  | goto l => exact ⟨_, a₁, w₁, hq, .pass (x := .inLoop c) rfl (fun _ _ => .inl (by simp)) harr⟩
  | ret => exact ⟨_, a₁, w₁, hq, .pass (x := .inLoop c) rfl (fun _ _ => .inl (by simp)) harr⟩
  | panic ch => exact ⟨_, a₁, w₁, hq, .pass (x := .inLoop c) rfl (fun _ _ => .inl (by simp)) harr⟩
  | outgrown => exact ⟨_, a₁, w₁, hq, .pass (x := .inLoop c) rfl (fun _ _ => .inl (by simp)) harr⟩

/-- What may come out. -/
def Out (n : Nat) (w0 : World) (S0 : Frz) (T0 : Nat → Prop) (φ0 : List Nat) (Q : Ex → Env → List Blk → Prop) (Q' : Exit → Act → World → Prop) : Prop :=
  ∀ e env σ φ S a w, Q e env σ → FiLe φ0 φ → Rel n w0 S0 T0 φ S env σ a.tmps w → a.defers = [] → Q' (exOf e) a w

theorem range_topo (hB : acycB ops = true) (t : Nat) : Topo ops (List.range ops.size) (Region.linearise .any ops t) := by
  have h0 : left ops (Array.replicate ops.size false) = List.range ops.size := by
    unfold left
    rw [List.filter_eq_self]
    intro i hi
    have : i < ops.size := by simpa using hi
    simp [this]
  rw [← h0]
  exact linearise_topo hB ops.size t _ (by simp) (by rw [h0]; simp)

theorem mem_opOk (h : ops.toList.all (opOk n) = true) {i : Nat} (hi : i < ops.size) : ∃ o, ops[i]? = some o ∧ opOk n o = true :=
  ⟨ops[i], by simp [hi], List.all_eq_true.1 h _ (by simp)⟩

theorem filterMap_range : ∀ (l : List Oper), (List.range l.length).filterMap (l[·]?) = l
  | [] => rfl
  | x :: l => by
    rw [List.length_cons, List.range_succ_eq_map, List.filterMap_cons_some (by rfl), List.filterMap_map]
    congr 1
    exact filterMap_range l

/-- **Code**: the machine does what 'wp' tells. -/
theorem wp_sound (hP : P.follows .mixedOrders = true) {G : Frz} (hG : G.le S0) (hC : ∀ f args σ r σ', C f args σ r σ' → Sound P G f args σ r σ') {m : Nat} {φ0 : List Nat} (hm : φ0.length ≤ m) (c : Code) :
    codeOk n c = true → ∀ (Q : Ex → Env → List Blk → Prop) (Q' : Exit → Act → World → Prop) (env : Env) (σ : List Blk) (φ : List Nat) (S : Frz) (a : Act) (w : World), wp m C P c Q env σ → FiLe φ0 φ → Rel n w0 S0 T0 φ S env σ a.tmps w → a.defers = [] →
      Out n w0 S0 T0 φ0 Q Q' → c.wp P Q' a w := by
  induction c with
  | skip => intro hk Q Q' env σ φ S a w h hf hR hd hO; exact wp_skip (hO .normal _ _ _ _ _ _ h hf hR hd)
  | exit id => intro hk Q Q' env σ φ S a w h hf hR hd hO; exact wp_exit (hO (.exit id) _ _ _ _ _ _ h hf hR hd)
  | ret => intro hk Q Q' env σ φ S a w h hf hR hd hO; exact wp_ret (hO .ret _ _ _ _ _ _ h hf hR hd)
  | region id ops draw =>
    intro hk Q Q' env σ φ S a w h hf hR hd hO
    cases draw with
    | false =>
      simp only [codeOk] at hk
      simp only [wp] at h
      refine wp_region ?_
      refine w_sound (s := ⟨env, fun _ => none, σ⟩) hG hC (List.range ops.size) φ S a w (fun i hi => mem_opOk hk (by simpa using hi)) ?_ hR alRel_none hd fun s' φ' S' a' w' g1 g2 g3 g4 g5 => hO .normal _ _ _ _ _ _ g1 (fun b k hb => g2 b k (hf b k hb)) g3 g5
      have : (List.range ops.size).filterMap (ops[·]?) = ops.toList := by
        have := filterMap_range ops.toList
        simpa using this
      rw [this]
      exact h
    | true =>
      simp only [codeOk, Bool.and_eq_true] at hk
      simp only [wp] at h
      refine wp_region_draw fun t => ?_
      simp only [Region.schedule, hP, Bool.true_or, if_true]
      have ht := range_topo hk.2 t
      have hR' : Rel n w0 S0 T0 φ S env σ a.tmps { w with drawn := w.drawn + 1 } :=
        hR.grow ⟨rfl, rfl, rfl, Nat.le_refl _, fun _ _ => rfl⟩ (fun _ _ _ h => h) (fun _ _ _ h => .inl h) ⟨fun b o v h => hR.sok b o v h, hR.sok.tab⟩
      rcases h with h | h
      · refine wd_sound (s := ⟨env, fun _ => none, σ⟩) hG hC _ φ S a _ (fun i hi => mem_opOk hk.1 (by have := (ht.mem i).1 hi; simpa using this)) ?_ hR' alRel_none hd fun s' φ' S' a' w' g1 g2 g3 g4 g5 => hO .normal _ _ _ _ _ _ g1 (fun b k hb => g2 b k (hf b k hb)) g3 g5
        exact wd_orders ops.size _ _ _ (by simp) rfl ht (fun i hi => by simpa using hi) h
      · refine w_sound (s := ⟨env, fun _ => none, σ⟩) hG hC _ φ S a _ (fun i hi => mem_opOk hk.1 (by have := (ht.mem i).1 hi; simpa using this)) ?_ hR' alRel_none hd fun s' φ' S' a' w' g1 g2 g3 g4 g5 => hO .normal _ _ _ _ _ _ g1 (fun b k hb => g2 b k (hf b k hb)) g3 g5
        exact wu_topo ops.size _ _ _ (by simp) ht h
  | seq x y ihx ihy =>
    intro hk Q Q' env σ φ S a w h hf hR hd hO
    simp only [codeOk, Bool.and_eq_true] at hk
    simp only [wp] at h
    refine wp_seq (ihx hk.1 _ _ env σ φ S a w h hf hR hd fun e env σ φ S a w g1 g2 g3 g4 => ?_)
    cases e with
    | normal => exact ihy hk.2 Q Q' env σ φ S a w g1 g2 g3 g4 hO
    | exit id => exact hO (.exit id) _ _ _ _ _ _ g1 g2 g3 g4
    | ret => exact hO .ret _ _ _ _ _ _ g1 g2 g3 g4
  | cond c x y ihx ihy =>
    intro hk Q Q' env σ φ S a w h hf hR hd hO
    simp only [codeOk, Bool.and_eq_true] at hk
    simp only [wp] at h
    split at h
    · rename_i t ht
      have hv : VR φ S (ev P env 0 c) (a.eval c) := ev_rel hR.vals 0 c
      rw [ht] at hv
      have := vr_bool hv
      refine wp_cond_split this (fun e => ?_) (fun e => ?_)
      · exact ihx hk.1 Q Q' env σ φ S a w (h.1 e) hf hR hd hO
      · exact ihy hk.2 Q Q' env σ φ S a w (h.2 e) hf hR hd hO
    · exact h.elim
  | block id x ih =>
    intro hk Q Q' env σ φ S a w h hf hR hd hO
    simp only [codeOk] at hk
    simp only [wp] at h
    refine wp_block (ih hk _ _ env σ φ S a w h hf hR hd fun e env σ φ S a w g1 g2 g3 g4 => ?_)
    cases e with
    | normal => exact hO .normal _ _ _ _ _ _ g1 g2 g3 g4
    | exit id' =>
      simp only [exOf, Exit.inBlock] at g1 ⊢
      split at g1
      · rename_i e; rw [if_pos e]; exact hO .normal _ _ _ _ _ _ g1 g2 g3 g4
      · rename_i e; rw [if_neg e]; exact hO (.exit id') _ _ _ _ _ _ g1 g2 g3 g4
    | ret => exact hO .ret _ _ _ _ _ _ g1 g2 g3 g4
  | loop x ih =>
    intro hk Q Q' env σ φ S a w h hf hR hd hO
    simp only [codeOk] at hk
    simp only [wp] at h
    refine wp_loop_of (h (fun env σ => ∀ (φ : List Nat) (S : Frz) (a : Act) (w : World), FiLe φ0 φ → Rel n w0 S0 T0 φ S env σ a.tmps w → a.defers = [] → LoopWp P x Q' a w) (fun env σ hx φ S a w hf hR hd => ?_) φ S a w hf hR hd)
    obtain ⟨env', σ', hw, hx⟩ := hx
    obtain ⟨φ', hf', hR'⟩ := hR.weaken hw hm hf
    refine loopWp_round (ih hk _ _ env' σ' φ' S a w hx hf' hR' hd fun e env σ φ S a w g1 g2 g3 g4 => ?_)
    cases e with
    | normal => exact g1 φ S a w g2 g3 g4
    | exit id => exact hO (.exit id) _ _ _ _ _ _ g1 g2 g3 g4
    | ret => exact hO .ret _ _ _ _ _ _ g1 g2 g3 g4
  | refuse why => intro hk Q Q' env σ φ S a w h; exact h.elim
  | _ => intro hk; simp [codeOk] at hk
end
end Go.Pv
/- What a call comes to: the least relation that the code's own laws allow; it is what the machine does. -/
namespace Go.Pv
open Go

/-- The code of a function comes to its end as told. -/
def BodyOk (P : Program) (C : CallRel) : CallRel := fun f args σ r σ' =>
  ∃ fn c, P.funcs[f]? = some fn ∧ fn.body = some c ∧ callOk P f = true ∧ codeOk fn.ntmps c = true ∧ args.length ≤ fn.ntmps ∧
    wp σ.length C P c (fun e env σ2 => (match e with | .exit _ => False | _ => True) ∧ ∃ r0, resA P fn env σ2 = some r0 ∧ Wk σ.length (retEnv r0) σ2 (retEnv r) σ') (envOf (args.map weak)) σ

/-- **What a call comes to.** -/
def Ret (P : Program) (Prim : CallRel) : CallRel := fun f args σ r σ' =>
  ∀ X : CallRel, (∀ f args σ r σ', Prim f args σ r σ' ∨ BodyOk P X f args σ r σ' → X f args σ r σ') → X f args σ r σ'

def semRes (tm : Array Value) : ResultVar → Sem Value
  | .tmp t => pure (tm.getD t undef)
  | .cell a t => do loadVar t (← asAddr (tm.getD a undef))

section
variable {P : Program} {n : Nat} {w0 : World} {S0 : Frz} {T0 : Nat → Prop} {φ : List Nat} {S : Frz} {w : World} {C : CallRel} {env : Env} {σ : List Blk} {tm : Array Value}

theorem VR.sto {a : AV} {v : Value} (h : VR φ S a v) (ha : stoA a = true) : R2 φ S a v := by
  cases a <;> first | exact h | (simp [stoA] at ha)

theorem resOne_sound (hR : Rel n w0 S0 T0 φ S env σ tm w) {x : ResultVar} {r : AV} (h : resOne P env σ x = some r) :
    ∃ v, (semRes tm x).run P w = .ok v w ∧ VR φ S r v ∧
      ∀ sz l, r = .sl .yes sz l → ∃ t, x = .tmp t ∧ env t = .sl .yes sz l ∧ v = tm.getD t undef := by
  cases x with
  | tmp t =>
    simp only [resOne] at h
    cases h
    exact ⟨tm.getD t undef, rfl, hR.vals t, fun sz l e => ⟨t, rfl, e, rfl⟩⟩
  | cell a T =>
    simp only [resOne] at h
    split at h
    · rename_i b off he
      have hv := hR.vals a
      rw [he] at hv
      obtain ⟨x, h1, h2, h3⟩ := op_load (P := P) hR.sok hR.blk hv h
      obtain ⟨k, hk, hx⟩ := vr_ptr hv
      refine ⟨x, ?_, h2, fun sz l e => absurd e (h3 sz l)⟩
      show (do loadVar T (← asAddr (tm.getD a undef)) : Sem Value).run P w = .ok x w
      rw [hx] at h1 ⊢
      simpa [Instr.loadAt, Instr.sureAddr, asAddr] using h1
    · cases h

theorem resAll_sound (hR : Rel n w0 S0 T0 φ S env σ tm w) : ∀ {l : List ResultVar} {rs : List AV}, resAll P env σ l = some rs →
    ∃ vs : List Value, (l.mapM (semRes tm)).run P w = .ok vs w ∧ RL (R2 φ S) rs vs.toArray
  | [], rs, h => by
    simp only [resAll] at h; cases h
    exact ⟨[], by simp, by simp [RL]⟩
  | x :: l, rs, h => by
    simp only [resAll] at h
    split at h
    · rename_i v vs hv hvs
      split at h
      · rename_i hs
        cases h
        obtain ⟨u, h1, h2, _⟩ := resOne_sound hR hv
        obtain ⟨us, h3, h4, h5⟩ := resAll_sound hR hvs
        refine ⟨u :: us, by simp [List.mapM_cons, h1, h3], by simp at h4 ⊢; exact h4, fun i c y hc hy => ?_⟩
        cases i with
        | zero => simp at hc hy; subst hc; subst hy; exact (h2.sto hs).canon1
        | succ i => exact h5 i c y (by simpa using hc) (by simpa using hy)
      · cases h
    · cases h

theorem resAll_len : ∀ {l : List ResultVar} {rs : List AV}, resAll P env σ l = some rs → rs.length = l.length
  | [], rs, h => by simp only [resAll] at h; cases h; rfl
  | x :: l, rs, h => by
    simp only [resAll] at h
    split at h
    · rename_i v vs hv hvs
      split at h
      · cases h
        simp [resAll_len hvs]
      · cases h
    · cases h

theorem run_results {fn : Func} : (results fn tm).run P w = ((fn.results.toList.mapM (semRes tm)).run P w).andThen (fun vs w' => .ok (if h : vs.length = 1 then vs[0] else .tuple vs.toArray) w') := by
  have : results fn tm = (do let vs ← fn.results.mapM (semRes tm); pure (if h : vs.size = 1 then vs[0] else .tuple vs)) := by
    unfold results
    congr 1
  rw [this, Array.mapM_eq_mapM_toList]
  simp only [Sem.run_bind, Sem.run_map]
  generalize (fn.results.toList.mapM (semRes tm)).run P w = z
  cases z <;> simp [Result.andThen]

theorem resA_sound (hR : Rel n w0 S0 T0 φ S env σ tm w) {fn : Func} {r : AV} (h : resA P fn env σ = some r) : ∃ v, (results fn tm).run P w = .ok v w ∧ Rel 1 w0 S0 T0 φ S (retEnv r) σ #[v] w := by
  have key : ∃ v, (results fn tm).run P w = .ok v w ∧ VR φ S r v ∧ ∀ sz l, r = .sl .yes sz l → ∃ t, env t = .sl .yes sz l ∧ v = tm.getD t undef := by
    rw [run_results]
    unfold resA at h
    split at h
    · rename_i x hx
      obtain ⟨v, h1, h2, h3⟩ := resOne_sound hR h
      refine ⟨v, by rw [hx]; simp [h1], h2, fun sz l e => ?_⟩
      obtain ⟨t, _, h4, h5⟩ := h3 sz l e
      exact ⟨t, h4, h5⟩
    · rename_i rs hne
      simp only [Option.map_eq_some_iff] at h
      obtain ⟨vs, h1, rfl⟩ := h
      obtain ⟨us, h3, h4⟩ := resAll_sound hR h1
      refine ⟨.tuple us.toArray, ?_, ⟨_, rfl, h4⟩, fun sz l e => by cases e⟩
      rw [h3]
      simp only [Result.andThen_ok]
      have hlen : us.length ≠ 1 := by
        have h5 : vs.length = us.length := by simpa using h4.1
        rw [← h5, resAll_len h1]
        intro e
        obtain ⟨x, hx⟩ := List.length_eq_one_iff.1 e
        exact hne x hx
      rw [dif_neg hlen]
  obtain ⟨v, h1, h2, h3⟩ := key
  refine ⟨v, h1, ?_⟩
  have hyes : ∀ t sz l, retEnv r t = .sl .yes sz l → t = 0 ∧ ∃ u, env u = .sl .yes sz l ∧ (#[v] : Array Value).getD t undef = tm.getD u undef := fun t sz l e => by
    unfold retEnv at e
    split at e
    · rename_i h0
      obtain ⟨u, h4, h5⟩ := h3 sz l e
      subst h0
      exact ⟨rfl, u, h4, by simp [h5]⟩
    · cases e
  have hmap : ∀ hd sz l, haA (retEnv r) σ hd = .sl .yes sz l → ∃ hd', haA env σ hd' = .sl .yes sz l ∧ haV φ #[v] w hd = haV φ tm w hd' ∧ (∀ i off, hd = .cell i off → hd' = .cell i off) ∧ (∀ t, hd = .tmp t → t = 0 ∧ ∃ u, hd' = .tmp u) := fun hd sz l e => by
    cases hd with
    | tmp t =>
      obtain ⟨h0, u, h4, h5⟩ := hyes t sz l e
      exact ⟨.tmp u, h4, h5, fun i off e => (by cases e), fun t' e => by cases e; exact ⟨h0, u, rfl⟩⟩
    | cell i off => exact ⟨.cell i off, e, rfl, fun i' off' e => by cases e; rfl, fun t' e => by cases e⟩
  refine ⟨hR.sok, hR.evo, rfl, fun t => ?_, hR.nodup, hR.len, hR.blk, hR.free, hR.inT, fun hd sz l e => ?_, fun hd sz l g e hg => ?_, fun hd hd2 sz l sz2 l2 g hne e e2 hg => ?_⟩
  · unfold retEnv
    split
    · rename_i h0; subst h0; exact h2
    · exact VR.undef
  · obtain ⟨hd', g1, g2, _⟩ := hmap hd sz l e
    rw [g2]; exact hR.own hd' sz l g1
  · obtain ⟨hd', g1, g2, _⟩ := hmap hd sz l e
    rw [g2] at hg; exact hR.ownT hd' sz l g g1 hg
  · obtain ⟨hd', g1, g2, g3, g4⟩ := hmap hd sz l e
    obtain ⟨hd2', k1, k2, k3, k4⟩ := hmap hd2 sz2 l2 e2
    rw [g2] at hg
    rw [k2]
    refine hR.apart hd' hd2' sz l sz2 l2 g (fun ee => hne ?_) g1 k1 hg
    cases hd with
    | tmp t =>
      obtain ⟨q1, u, q2⟩ := g4 t rfl
      cases hd2 with
      | tmp t2 => obtain ⟨p1, _⟩ := k4 t2 rfl; rw [q1, p1]
      | cell i off => rw [q2, k3 i off rfl] at ee; cases ee
    | cell i off =>
      have := g3 i off rfl
      cases hd2 with
      | tmp t2 => obtain ⟨p1, u, p2⟩ := k4 t2 rfl; rw [this, p2] at ee; cases ee
      | cell i2 off2 => rw [this, k3 i2 off2 rfl] at ee; exact ee

theorem start_rel {f : Nat} {args : List AV} {vargs : Array Value} {m : Nat} (h : Rel 0 w S (touch φ σ w) φ S (fun _ => .undef) σ #[] w) (ha : RL (VR φ S) args vargs) (hm : args.length ≤ m) :
    Rel m w S (touch φ σ w) φ S (envOf (args.map weak)) σ (vargs ++ Array.replicate (m - vargs.size) undef) w := by
  have hval : ∀ t, VR φ S (envOf (args.map weak) t) ((vargs ++ Array.replicate (m - vargs.size) undef).getD t undef) := fun t => by
    unfold envOf
    cases hx : args[t]? with
    | none => simp [hx]; exact VR.undef
    | some x =>
      have ht : t < vargs.size := by rw [← ha.1]; exact (List.getElem?_eq_some_iff.1 hx).1
      have h1 := ha.2 t x vargs[t] hx (by simp [ht])
      have h2 : (vargs ++ Array.replicate (m - vargs.size) undef).getD t undef = vargs[t] := by simp [Array.getElem?_append, ht]
      rw [h2]
      simp [hx]
      exact h1.weak
  have hno : ∀ t sz l, envOf (args.map weak) t ≠ .sl .yes sz l := fun t sz l e => by
    unfold envOf at e
    cases hx : args[t]? with
    | none => simp [hx] at e
    | some x => simp [hx] at e; exact weak_no _ _ _ e
  have hs : (vargs ++ Array.replicate (m - vargs.size) undef).size = m := by simp; have := ha.1; omega
  refine ⟨h.sok, h.evo, hs, hval, h.nodup, h.len, h.blk, h.free, h.inT, fun hd sz l e => ?_, fun hd sz l g e hg => ?_, fun hd hd2 sz l sz2 l2 g hne e e2 hg => ?_⟩
  · cases hd with
    | tmp t => exact absurd e (hno t sz l)
    | cell i off => exact h.own (.cell i off) sz l e
  · cases hd with
    | tmp t => exact absurd e (hno t sz l)
    | cell i off => exact h.ownT (.cell i off) sz l g e hg
  · cases hd with
    | tmp t => exact absurd e (hno t sz l)
    | cell i off =>
      cases hd2 with
      | tmp t => exact absurd e2 (hno t sz2 l2)
      | cell i2 off2 => exact h.apart (.cell i off) (.cell i2 off2) sz l sz2 l2 g hne e e2 hg

theorem body_sound {G : Frz} (hP : P.follows .mixedOrders = true) {f : Nat} {args : List AV} {r : AV} {σ' : List Blk} (h : BodyOk P (Sound P G) f args σ r σ') : Sound P G f args σ r σ' := by
  obtain ⟨fn, c, hf, hb, hok, hk, hl, hw⟩ := h
  refine fun φ S w vargs hG hR ha => .inl ⟨hok, ?_⟩
  refine calls_of_wp hf hb ?_
  refine wp_sound hP hG (fun _ _ _ _ _ h => h) (Nat.le_of_eq hR.len) c hk _ _ _ σ φ S _ w hw (fun _ _ h => h) (start_rel (f := f) hR ha hl) rfl ?_
  intro e env σ2 φ2 S2 a w2 hq hf2 hR2 hd
  obtain ⟨he, r0, hr, hW⟩ := hq
  obtain ⟨v, h1, h2⟩ := resA_sound hR2 hr
  obtain ⟨φ3, h3, h4⟩ := h2.weaken hW (Nat.le_of_eq hR.len) hf2
  cases e with
  | normal => exact ⟨hd, v, h1, v, φ3, S2, rfl, h3, h4⟩
  | ret => exact ⟨hd, v, h1, v, φ3, S2, rfl, h3, h4⟩
  | exit id => exact he.elim

/-- **All that 'Ret' tells is so.** -/
theorem ret_sound {G : Frz} (hP : P.follows .mixedOrders = true) {Prim : CallRel} (hprim : ∀ f args σ r σ', Prim f args σ r σ' → Sound P G f args σ r σ') {f : Nat} {args : List AV} {r : AV} {σ' : List Blk} (h : Ret P Prim f args σ r σ') : Sound P G f args σ r σ' :=
  h (Sound P G) fun f args σ r σ' h => h.elim (hprim f args σ r σ') (body_sound hP)
end
end Go.Pv
/- The laws grow with what is known of calls and with what is asked at the end; a call that the code's laws allow is a call. -/
namespace Go.Pv
open Go

section
variable {P : Program} {C C' : CallRel} {ops : Array Oper}

theorem wp_mono (hC : ∀ f args σ r σ', C f args σ r σ' → C' f args σ r σ') {m : Nat} (c : Code) : ∀ {Q Q' : Ex → Env → List Blk → Prop} {env : Env} {σ : List Blk}, (∀ e env σ, Q e env σ → Q' e env σ) → wp m C P c Q env σ → wp m C' P c Q' env σ := by
  induction c with
  | skip => intro Q Q' env σ hQ h; exact hQ _ _ _ h
  | exit id => intro Q Q' env σ hQ h; exact hQ _ _ _ h
  | ret => intro Q Q' env σ hQ h; exact hQ _ _ _ h
  | region id ops draw =>
    intro Q Q' env σ hQ h
    cases draw with
    | false => exact W_mono hC (fun s => hQ _ _ _) _ _ h
    | true => exact h.imp (WT_mono hC (fun s => hQ _ _ _) _ _) (WU_mono hC (fun s => hQ _ _ _) _ _)
  | seq x y ihx ihy =>
    intro Q Q' env σ hQ h
    simp only [wp] at h ⊢
    refine ihx (fun e env σ h => ?_) h
    cases e with
    | normal => exact ihy hQ h
    | exit id => exact hQ _ _ _ h
    | ret => exact hQ _ _ _ h
  | cond c x y ihx ihy =>
    intro Q Q' env σ hQ h
    simp only [wp] at h ⊢
    split at h
    · exact ⟨fun e => ihx hQ (h.1 e), fun e => ihy hQ (h.2 e)⟩
    · exact h.elim
  | block id x ih =>
    intro Q Q' env σ hQ h
    simp only [wp] at h ⊢
    refine ih (fun e env σ h => ?_) h
    cases e with
    | normal => exact hQ _ _ _ h
    | exit id' =>
      simp only at h ⊢
      split at h
      · rename_i e; rw [if_pos e]; exact hQ _ _ _ h
      · rename_i e; rw [if_neg e]; exact hQ _ _ _ h
    | ret => exact hQ _ _ _ h
  | loop x ih =>
    intro Q Q' env σ hQ h
    simp only [wp] at h ⊢
    intro X hX
    refine h X fun env σ ⟨env', σ', hw, hx⟩ => hX env σ ⟨env', σ', hw, ih (fun e env σ h => ?_) hx⟩
    cases e with
    | normal => exact h
    | exit id => exact hQ _ _ _ h
    | ret => exact hQ _ _ _ h
  | _ => intro Q Q' env σ hQ h; exact False.elim (by simpa [wp] using h)

theorem ret_fold {Prim : CallRel} {f : Nat} {args : List AV} {σ : List Blk} {r : AV} {σ' : List Blk} (h : BodyOk P (Ret P Prim) f args σ r σ') : Ret P Prim f args σ r σ' := fun X hX => hX _ _ _ _ _ (.inr (by
  obtain ⟨fn, c, h1, h2, h3, h4, h5, h6⟩ := h
  exact ⟨fn, c, h1, h2, h3, h4, h5, wp_mono (fun f args σ r σ' h => h X hX) c (fun _ _ _ h => h) h6⟩))
theorem ret_prim {Prim : CallRel} {f : Nat} {args : List AV} {σ : List Blk} {r : AV} {σ' : List Blk} (h : Prim f args σ r σ') : Ret P Prim f args σ r σ' := fun X hX => hX _ _ _ _ _ (.inl h)

/-- A loop with a measure: an invariant, told by what is kept of variables and blocks. -/
theorem wp_loop_inv {m : Nat} {c : Code} {Q : Ex → Env → List Blk → Prop} {A : Type} (env' : A → Env) (σ' : A → List Blk) (I : A → Prop) (μ : A → Nat)
    (round : ∀ a, I a → wp m C P c (fun e env σ => match e with | .normal => ∃ a', I a' ∧ μ a' < μ a ∧ Wk m env σ (env' a') (σ' a') | e => Q e env σ) (env' a) (σ' a))
    {env : Env} {σ : List Blk} (a : A) (h0 : I a) (hw : Wk m env σ (env' a) (σ' a)) : wp m C P (.loop c) Q env σ := by
  simp only [wp]
  intro X hX
  have key : ∀ k a env σ, μ a = k → I a → Wk m env σ (env' a) (σ' a) → X env σ := by
    intro k
    induction k using Nat.strongRecOn with
    | _ k ih =>
      intro a env σ hk hI hW
      refine hX env σ ⟨env' a, σ' a, hW, wp_mono (fun _ _ _ _ _ h => h) c (fun e env σ h => ?_) (round a hI)⟩
      cases e with
      | normal =>
        obtain ⟨a', h1, h2, h3⟩ := h
        exact ih (μ a') (by omega) a' env σ rfl h1 h3
      | exit id => exact h
      | ret => exact h
  exact key _ a env σ rfl h0 hw
end
end Go.Pv
/- Rules for use: code, step by step, by rewriting. -/
namespace Go.Pv
open Go

/-! ### Ends -/
abbrev Cont := Ex → Env → List Blk → Prop
def SeqQ (m : Nat) (C : CallRel) (P : Program) (b : Code) (Q : Cont) : Cont := fun e env σ => match e with
  | .normal => wp m C P b Q env σ
  | e => Q e env σ
def BlockQ (id : Nat) (Q : Cont) : Cont := fun e env σ => match e with
  | .exit id' => if id' = id then Q .normal env σ else Q (.exit id') env σ
  | e => Q e env σ
def RegQ (Q : Cont) : St → Prop := fun s => Q .normal s.env s.st
def WK (C : CallRel) (P : Program) (ops : Array Oper) (l : List Oper) (K : St → Prop) : St → Prop := fun s => W C P ops l s K
def TK (C : CallRel) (P : Program) (ops : Array Oper) (t : OT) (K : St → Prop) : St → Prop := fun s => WT C P ops t s.clr K
def EnvEq (env : Env) : List (Nat × AV) → Prop
  | [] => True
  | (k, v) :: l => env k = v ∧ EnvEq env l
def MidQ (l : List (Nat × AV)) (σ' : List Blk) (Q : Cont) : Cont := fun e env σ => match e with
  | .normal => σ = σ' ∧ EnvEq env l
  | e => Q e env σ
def RoundQ {A : Type} (env' : A → List (Nat × AV)) (σ' : A → List Blk) (I : A → Prop) (μ : A → Nat) (a : A) (Q : Cont) : Cont := fun e env σ => match e with
  | .normal => ∃ a', (I a' ∧ μ a' < μ a) ∧ σ = σ' a' ∧ EnvEq env (env' a')
  | e => Q e env σ
def resL (P : Program) (rs : List ResultVar) (env : Env) (σ : List Blk) : Option AV := match rs with
  | [r] => resOne P env σ r
  | rs => (resAll P env σ rs).map .tup
def EndQ (P : Program) (rs : List ResultVar) (m : Nat) (r : AV) (σ' : List Blk) : Cont := fun e env σ2 =>
  (match e with | .exit _ => False | _ => True) ∧ ∃ r0, resL P rs env σ2 = some r0 ∧ Wk m (retEnv r0) σ2 (retEnv r) σ'
def OptK (o : Option AV) (k : AV → Prop) : Prop := match o with
  | some v => k v
  | none => False
def PutK (s : St) (d : Option Nat) (r : Option Src) (K : St → Prop) : AV → Prop := fun v => K (s.put d v r)
def SkipW (s : St) (d : Option Nat) (K : St → Prop) : Prop := K (s.put d (.tup []) none)

def envFrom : Nat → List AV → Env
  | _, [] => fun _ => .undef
  | k, a :: l => upd (envFrom (k + 1) l) k a
def envL : List (Nat × AV) → Env
  | [] => fun _ => .undef
  | (k, v) :: l => upd (envL l) k v

theorem envFrom_eq : ∀ (l : List AV) (k t : Nat), envFrom k l t = if k ≤ t then (l[t - k]?).getD .undef else .undef
  | [], k, t => by simp [envFrom]
  | a :: l, k, t => by
    simp only [envFrom, upd, envFrom_eq l (k + 1) t]
    by_cases h : t = k
    · subst h; simp
    · rw [if_neg h]
      by_cases h1 : k ≤ t
      · rw [if_pos h1, if_pos (by omega)]
        have : t - k = (t - (k + 1)) + 1 := by omega
        rw [this, List.getElem?_cons_succ]
      · rw [if_neg h1, if_neg (by omega)]
theorem envOf_eq (l : List AV) : envOf l = envFrom 0 l := by
  funext t; rw [envFrom_eq]; simp [envOf]

theorem body_intro {P : Program} {C : CallRel} {f : Nat} {fn : Func} {c : Code} {rs : List ResultVar} {args : List AV} {σ σ' : List Blk} {r : AV} (hf : P.funcs[f]? = some fn) (hb : fn.body = some c) (hr : fn.results.toList = rs) (hok : (!(fn.name == "runtime.NumGoroutine") && codeOk fn.ntmps c) = true) (hl : Nat.ble args.length fn.ntmps = true)
    (h : wp σ.length C P c (EndQ P rs σ.length r σ') (envFrom 0 (args.map weak)) σ) : BodyOk P C f args σ r σ' := by
  simp only [Bool.and_eq_true] at hok
  refine ⟨fn, c, hf, hb, ?_, hok.2, Nat.le_of_ble_eq_true hl, ?_⟩
  · unfold callOk; rw [hf]; simp only [hb, Option.isSome_some, Bool.true_and]; exact hok.1
  · rw [envOf_eq]
    refine wp_mono (fun _ _ _ _ _ h => h) c (fun e env σ h => ?_) h
    subst hr
    exact h

/-! ### Variables -/
@[go_sem] theorem upd_look (e : Env) (d : Nat) (v : AV) (t : Nat) : upd e d v t = if t = d then v else e t := rfl
@[go_sem] theorem envFrom_nil (k : Nat) : envFrom k [] = fun _ => AV.undef := rfl
@[go_sem] theorem envFrom_cons (k : Nat) (a : AV) (l : List AV) : envFrom k (a :: l) = upd (envFrom (k + 1) l) k a := rfl
@[go_sem] theorem envL_nil : envL [] = fun _ => AV.undef := rfl
@[go_sem] theorem envL_cons (k : Nat) (v : AV) (l : List (Nat × AV)) : envL ((k, v) :: l) = upd (envL l) k v := rfl
section
variable (P : Program) (env : Env) (T : TypeId)
@[go_sem] theorem ev_tmp (t : Nat) : ev P env T (.tmp t) = env t := rfl
@[go_sem] theorem ev_int (k : IntKind) (n : Int) : ev P env T (.const (.int k n)) = .int k n := rfl
@[go_sem] theorem ev_bool (b : Bool) : ev P env T (.const (.bool b)) = .bool b := rfl
@[go_sem] theorem ev_str (s : ByteArray) : ev P env T (.const (.string s)) = .str s.data.toList := rfl
@[go_sem] theorem ev_nilp : ev P env T (.const (.pointer none)) = .nilp := rfl
@[go_sem] theorem ev_nilf : ev P env T (.const .nilFunc) = .nilf := rfl
@[go_sem] theorem ev_nili : ev P env T (.const .nilIface) = .nili := rfl
@[go_sem] theorem ev_nils : ev P env T (.const (.slice none 0 0)) = match esz P T with | some n => .sl .nil n [] | none => .undef := by
  simp only [ev, leafA]; cases esz P T <;> rfl
@[go_sem] theorem ev_func (f : Nat) : ev P env T (.func f) = .fn f [] [] := rfl
end
section
@[go_sem] theorem weak_int (k : IntKind) (n : Int) : weak (.int k n) = .int k n := rfl
@[go_sem] theorem weak_bool (b : Bool) : weak (.bool b) = .bool b := rfl
@[go_sem] theorem weak_str (s : List UInt8) : weak (.str s) = .str s := rfl
@[go_sem] theorem weak_ptr (b o : Nat) : weak (.ptr b o) = .ptr b o := rfl
@[go_sem] theorem weak_ref (l : List AV) : weak (.ref l) = .ref l := rfl
@[go_sem] theorem weak_no' (sz : SlT) (l : List AV) : weak (.sl .no sz l) = .sl .no sz l := rfl
@[go_sem] theorem weak_nil (sz : SlT) (l : List AV) : weak (.sl .nil sz l) = .sl .nil sz l := rfl
@[go_sem] theorem weak_yes (sz : SlT) (l : List AV) : weak (.sl .yes sz l) = .sl .no sz l := rfl
@[go_sem] theorem weak_fn (f : Nat) (a b : List AV) : weak (.fn f a b) = .fn f a b := rfl
@[go_sem] theorem weak_agg (l : List AV) : weak (.agg l) = .agg l := rfl
@[go_sem] theorem weak_tup (l : List AV) : weak (.tup l) = .tup l := rfl
@[go_sem] theorem weak_iface (t : Nat) (v : AV) : weak (.iface t v) = .iface t v := rfl
@[go_sem] theorem weak_nilp : weak .nilp = .nilp := rfl
@[go_sem] theorem weak_nilf : weak .nilf = .nilf := rfl
@[go_sem] theorem weak_nili : weak .nili = .nili := rfl
@[go_sem] theorem weak_iter (b : Nat) : weak (.iter b) = .iter b := rfl
@[go_sem] theorem weak_popt (b o : Nat) : weak (.ptrOpt b o) = .ptrOpt b o := rfl
@[go_sem] theorem weak_undef : weak .undef = .undef := rfl
@[go_sem] theorem prom_int (k : IntKind) (n : Int) : prom (.int k n) = .int k n := rfl
@[go_sem] theorem prom_bool (b : Bool) : prom (.bool b) = .bool b := rfl
@[go_sem] theorem prom_str (s : List UInt8) : prom (.str s) = .str s := rfl
@[go_sem] theorem prom_ptr (b o : Nat) : prom (.ptr b o) = .ptr b o := rfl
@[go_sem] theorem prom_ref (l : List AV) : prom (.ref l) = .ref l := rfl
@[go_sem] theorem prom_no (sz : SlT) (l : List AV) : prom (.sl .no sz l) = .sl .no sz l := rfl
@[go_sem] theorem prom_nils (sz : SlT) (l : List AV) : prom (.sl .nil sz l) = .sl .yes sz l := rfl
@[go_sem] theorem prom_yes (sz : SlT) (l : List AV) : prom (.sl .yes sz l) = .sl .yes sz l := rfl
@[go_sem] theorem prom_fn (f : Nat) (a b : List AV) : prom (.fn f a b) = .fn f a b := rfl
@[go_sem] theorem prom_agg (l : List AV) : prom (.agg l) = .agg l := rfl
@[go_sem] theorem prom_tup (l : List AV) : prom (.tup l) = .tup l := rfl
@[go_sem] theorem prom_iface (t : Nat) (v : AV) : prom (.iface t v) = .iface t v := rfl
@[go_sem] theorem prom_nilp : prom .nilp = .nilp := rfl
@[go_sem] theorem prom_nilf : prom .nilf = .nilf := rfl
@[go_sem] theorem prom_nili : prom .nili = .nili := rfl
@[go_sem] theorem prom_iter (b : Nat) : prom (.iter b) = .iter b := rfl
@[go_sem] theorem prom_popt (b o : Nat) : prom (.ptrOpt b o) = .ptrOpt b o := rfl
end
section
variable (e : Env) (al : Nat → Option Src) (st : List Blk)
@[go_sem] theorem put_some (d : Nat) (v : AV) (r : Option Src) : St.put ⟨e, al, st⟩ (some d) v r = ⟨upd e d v, setAl al d r, st⟩ := rfl
@[go_sem] theorem put_none (v : AV) (r : Option Src) : St.put ⟨e, al, st⟩ none v r = ⟨e, al, st⟩ := rfl
@[go_sem] theorem kill_tmp (t : Nat) : St.kill ⟨e, al, st⟩ (.tmp t) = ⟨upd e t (weak (e t)), al, st⟩ := rfl
@[go_sem] theorem kill_const (v : Value) : St.kill ⟨e, al, st⟩ (.const v) = ⟨e, al, st⟩ := rfl
@[go_sem] theorem kill_func (f : Nat) : St.kill ⟨e, al, st⟩ (.func f) = ⟨e, al, st⟩ := rfl
@[go_sem] theorem srcOf_tmp (t : Nat) : srcOf (.tmp t) = some (.slot t) := rfl
@[go_sem] theorem srcOf_const (v : Value) : srcOf (.const v) = none := rfl
@[go_sem] theorem srcOf_func (f : Nat) : srcOf (.func f) = none := rfl
@[go_sem] theorem clr_mk : St.clr ⟨e, al, st⟩ = ⟨e, fun _ => none, st⟩ := rfl
end

/-! ### Code -/
section
variable (m : Nat) (C : CallRel) (P : Program) (Q : Cont) (env : Env) (σ : List Blk)
@[go_sem] theorem wp_skip_eq : wp m C P .skip Q env σ = Q .normal env σ := rfl
@[go_sem] theorem wp_ret_eq : wp m C P .ret Q env σ = Q .ret env σ := rfl
@[go_sem] theorem wp_exit_eq (id : Nat) : wp m C P (.exit id) Q env σ = Q (.exit id) env σ := rfl
@[go_sem] theorem wp_seq_eq (a b : Code) : wp m C P (.seq a b) Q env σ = wp m C P a (SeqQ m C P b Q) env σ := rfl
@[go_sem] theorem wp_block_eq (id : Nat) (a : Code) : wp m C P (.block id a) Q env σ = wp m C P a (BlockQ id Q) env σ := rfl
@[go_sem] theorem wp_region_eq (id : Nat) (l : List Oper) : wp m C P (.region id l.toArray false) Q env σ = W C P l.toArray l ⟨env, fun _ => none, σ⟩ (RegQ Q) := rfl
@[go_sem] theorem wp_draw_eq (id : Nat) (l : List Oper) : wp m C P (.region id l.toArray true) Q env σ = (WT C P l.toArray (orders l.toArray l.length (List.range l.length)) ⟨env, fun _ => none, σ⟩ (RegQ Q) ∨ WU C P l.toArray (ordersA l.toArray l.length (List.range l.length)) ⟨env, fun _ => none, σ⟩ (RegQ Q)) := by
  simp only [wp, List.size_toArray]; rfl
def CondW (m : Nat) (C : CallRel) (P : Program) (c : AV) (a b : Code) (Q : Cont) (env : Env) (σ : List Blk) : Prop := match c with
  | .bool t => (t = true → wp m C P a Q env σ) ∧ (t = false → wp m C P b Q env σ)
  | _ => False
@[go_sem] theorem wp_cond_eq (c : Operand) (a b : Code) : wp m C P (.cond c a b) Q env σ = CondW m C P (ev P env 0 c) a b Q env σ := by
  simp only [wp, CondW]; rfl
@[go_sem] theorem condW_bool (t : Bool) (a b : Code) : CondW m C P (.bool t) a b Q env σ = ((t = true → wp m C P a Q env σ) ∧ (t = false → wp m C P b Q env σ)) := rfl
@[go_sem] theorem seqQ_normal (b : Code) : SeqQ m C P b Q .normal env σ = wp m C P b Q env σ := rfl
@[go_sem] theorem seqQ_ret (b : Code) : SeqQ m C P b Q .ret env σ = Q .ret env σ := rfl
@[go_sem] theorem seqQ_exit (b : Code) (id : Nat) : SeqQ m C P b Q (.exit id) env σ = Q (.exit id) env σ := rfl
@[go_sem] theorem blockQ_normal (id : Nat) : BlockQ id Q .normal env σ = Q .normal env σ := rfl
@[go_sem] theorem blockQ_ret (id : Nat) : BlockQ id Q .ret env σ = Q .ret env σ := rfl
@[go_sem] theorem blockQ_exit (id id' : Nat) : BlockQ id Q (.exit id') env σ = if id' = id then Q .normal env σ else Q (.exit id') env σ := rfl
@[go_sem] theorem regQ_eq (s : St) : RegQ Q s = Q .normal s.env s.st := rfl
@[go_sem] theorem envEq_nil : EnvEq env [] = True := rfl
@[go_sem] theorem envEq_cons (k : Nat) (v : AV) (l : List (Nat × AV)) : EnvEq env ((k, v) :: l) = (env k = v ∧ EnvEq env l) := rfl
@[go_sem] theorem midQ_normal (l : List (Nat × AV)) (σ' : List Blk) : MidQ l σ' Q .normal env σ = (σ = σ' ∧ EnvEq env l) := rfl
@[go_sem] theorem midQ_ret (l : List (Nat × AV)) (σ' : List Blk) : MidQ l σ' Q .ret env σ = Q .ret env σ := rfl
@[go_sem] theorem midQ_exit (l : List (Nat × AV)) (σ' : List Blk) (id : Nat) : MidQ l σ' Q (.exit id) env σ = Q (.exit id) env σ := rfl
section
variable {A : Type} (env' : A → List (Nat × AV)) (σ' : A → List Blk) (I : A → Prop) (μ : A → Nat) (a : A)
@[go_sem] theorem roundQ_normal : RoundQ env' σ' I μ a Q .normal env σ = ∃ a', (I a' ∧ μ a' < μ a) ∧ σ = σ' a' ∧ EnvEq env (env' a') := rfl
@[go_sem] theorem roundQ_ret : RoundQ env' σ' I μ a Q .ret env σ = Q .ret env σ := rfl
@[go_sem] theorem roundQ_exit (id : Nat) : RoundQ env' σ' I μ a Q (.exit id) env σ = Q (.exit id) env σ := rfl
end
@[go_sem] theorem endQ_normal (rs : List ResultVar) (r : AV) (σ' : List Blk) : EndQ P rs m r σ' .normal env σ = EndQ P rs m r σ' .ret env σ := rfl

/-! ### Operations -/
variable (ops : Array Oper) (K : St → Prop) (s : St) (l : List Oper) (d : Option Nat) (T : TypeId) (p : String) (af : Array Edge)
@[go_sem] theorem W_nil : W C P ops [] s K = K s := rfl
@[go_sem] theorem WK_eq : WK C P ops l K s = W C P ops l s K := rfl
@[go_sem] theorem W_cons (op : Op) : W C P ops (⟨d, op, T, p, af, none⟩ :: l) s K = opW C P ⟨d, op, T, p, af, none⟩ s (WK C P ops l K) := rfl
def setE (s : St) (t : Nat) (v : AV) : St := { s with env := upd s.env t v }
@[go_sem] theorem setE_mk (e : Env) (al : Nat → Option Src) (st : List Blk) (t : Nat) (v : AV) : setE ⟨e, al, st⟩ t v = ⟨upd e t v, al, st⟩ := rfl
theorem setE_self {s : St} {t : Nat} {v : AV} (h : s.env t = v) : setE s t v = s := by
  cases s
  simp only [setE, St.mk.injEq, and_true]
  funext u
  simp only [upd]
  split
  · rename_i e; subst e; exact h.symm
  · rfl
def OpA (C : CallRel) (P : Program) (o : Oper) (K : St → Prop) : St → Prop := fun s => opW C P o s K
@[go_sem] theorem opA_eq (o : Oper) : OpA C P o K s = opW C P o s K := rfl
def SkipA (d : Option Nat) (K : St → Prop) : St → Prop := fun s => K (s.put d (.tup []) none)
@[go_sem] theorem skipA_eq : SkipA d K s = K (s.put d (.tup []) none) := rfl
def GuardW (t : Nat) (c : AV) (s : St) (want : Bool) (A B : St → Prop) : Prop := match c with
  | .bool b => (b = want → A (setE s t (.bool want))) ∧ (b = (!want) → B (setE s t (.bool (!want))))
  | .tup [] => B s
  | _ => False
def dstOf (ops : Array Oper) (j : Nat) : Option Nat := (ops[j]?).bind (·.dst)
def GuardO (t : Option Nat) (s : St) (want : Bool) (A B : St → Prop) : Prop := match t with
  | some t => GuardW t (s.env t) s want A B
  | none => False
@[go_sem] theorem guardO_some (t : Nat) (want : Bool) (A B : St → Prop) : GuardO (some t) s want A B = GuardW t (s.env t) s want A B := rfl
@[go_sem low] theorem guardW_bool (t : Nat) (b : Bool) (want : Bool) (A B : St → Prop) : GuardW t (.bool b) s want A B = ((b = want → A (setE s t (.bool want))) ∧ (b = (!want) → B (setE s t (.bool (!want))))) := rfl
@[go_sem] theorem guardW_true (t : Nat) (A B : St → Prop) : GuardW t (.bool true) s true A B = A (setE s t (.bool true)) := by simp [GuardW]
@[go_sem] theorem guardW_false (t : Nat) (A B : St → Prop) : GuardW t (.bool false) s true A B = B (setE s t (.bool false)) := by simp [GuardW]
@[go_sem] theorem guardW_ntrue (t : Nat) (A B : St → Prop) : GuardW t (.bool true) s false A B = B (setE s t (.bool true)) := by simp [GuardW]
@[go_sem] theorem guardW_nfalse (t : Nat) (A B : St → Prop) : GuardW t (.bool false) s false A B = A (setE s t (.bool false)) := by simp [GuardW]
@[go_sem] theorem guardW_tup (t : Nat) (want : Bool) (A B : St → Prop) : GuardW t (.tup []) s want A B = B s := rfl
@[go_sem] theorem dstOf_eq (l : List Oper) (j : Nat) : dstOf l.toArray j = (l[j]?).bind (·.dst) := by simp [dstOf]
theorem guard_eq (o : Oper) (j : Nat) (want : Bool) (A B : St → Prop) (ho : o.guard = some (j, want)) : (match wantedA ops o s.env with | some true => A s | some false => B s | none => False) = GuardO (dstOf ops j) s want A B := by
  unfold wantedA dstOf
  rw [ho]
  simp only
  cases (ops[j]?).bind (·.dst) with
  | none => rfl
  | some t =>
    simp only [GuardO]
    cases hx : s.env t with
    | bool b =>
      simp only [GuardW]
      cases b <;> cases want <;> simp [setE_self hx]
    | tup vs => cases vs <;> rfl
    | _ => rfl
@[go_sem] theorem W_guard (op : Op) (j : Nat) (want : Bool) : W C P ops (⟨d, op, T, p, af, some (j, want)⟩ :: l) s K = GuardO (dstOf ops j) s want (OpA C P ⟨d, op, T, p, af, some (j, want)⟩ (WK C P ops l K)) (SkipA d (WK C P ops l K)) := by
  rw [← guard_eq (s := s) (ops := ops) (o := ⟨d, op, T, p, af, some (j, want)⟩) (j := j) (want := want) (ho := rfl)]
  rfl
@[go_sem] theorem WT_nil : WT C P ops .nil s K = K s := rfl
@[go_sem] theorem WT_both (a b : OT) : WT C P ops (.both a b) s K = (WT C P ops a s K ∧ WT C P ops b s K) := rfl
@[go_sem] theorem WT_top : WT C P ops .top s K = True := rfl
@[go_sem] theorem TK_eq (t : OT) : TK C P ops t K s = WT C P ops t s.clr K := rfl
def StepO (C : CallRel) (P : Program) (ops : Array Oper) (o : Option Oper) (s : St) (K : St → Prop) : Prop := match o with
  | some o => stepW C P ops o s K
  | none => False
@[go_sem] theorem WT_one (l : List Oper) (i : Nat) (t : OT) : WT C P l.toArray (.one i t) s K = StepO C P l.toArray (l[i]?) s (TK C P l.toArray t K) := by
  simp only [WT, StepO, List.getElem?_toArray]; rfl
@[go_sem] theorem stepO_none (op : Op) : StepO C P ops (some ⟨d, op, T, p, af, none⟩) s K = opW C P ⟨d, op, T, p, af, none⟩ s K := rfl
@[go_sem] theorem stepO_guard (op : Op) (j : Nat) (want : Bool) : StepO C P ops (some ⟨d, op, T, p, af, some (j, want)⟩) s K = GuardO (dstOf ops j) s want (OpA C P ⟨d, op, T, p, af, some (j, want)⟩ K) (SkipA d K) := by
  rw [← guard_eq (s := s) (ops := ops) (o := ⟨d, op, T, p, af, some (j, want)⟩) (j := j) (want := want) (ho := rfl)]
  rfl

@[go_sem] theorem optK_some (v : AV) (k : AV → Prop) : OptK (some v) k = k v := rfl
@[go_sem] theorem optK_none (k : AV → Prop) : OptK none k = False := rfl
@[go_sem] theorem putK_eq (r : Option Src) (v : AV) : PutK s d r K v = K (s.put d v r) := rfl
variable (g : Option (Nat × Bool))
@[go_sem] theorem opW_assign (x : Operand) : opW C P ⟨d, .assign x, T, p, af, g⟩ s K = K ((s.kill x).put d (prom (ev P s.env T x)) none) := rfl
@[go_sem] theorem opW_move (x : Operand) : opW C P ⟨d, .move x, T, p, af, g⟩ s K = K (s.put d (weak (ev P s.env T x)) (srcOf x)) := rfl
def PickO (c a b : AV) : Option AV := match c with
  | .bool t => some (bif t then weak a else weak b)
  | _ => none
@[go_sem] theorem pickO_bool (t : Bool) (a b : AV) : PickO (.bool t) a b = some (bif t then weak a else weak b) := rfl
@[go_sem] theorem opW_pick (c a b : Operand) : opW C P ⟨d, .pick c a b, T, p, af, g⟩ s K = OptK (PickO (ev P s.env 0 c) (ev P s.env T a) (ev P s.env T b)) (PutK s d none K) := by
  simp only [opW, opVal, OptK, PickO, PutK, opSrc]; cases ev P s.env 0 c <;> rfl
@[go_sem] theorem opW_load (T' : TypeId) (a : Operand) : opW C P ⟨d, .load T' a, T, p, af, g⟩ s K = OptK (loadV P s.st T' (ev P s.env 0 a)) (PutK s d (opSrc P s.env ⟨d, .load T' a, T, p, af, g⟩) K) := by
  simp only [opW, opVal, OptK, PutK]; rfl
def NilO : AV → Option AV
  | .ptr b off => some (.ptr b off)
  | .ref cs => some (.ref cs)
  | .fn f a c => some (.fn f a c)
  | _ => none
@[go_sem] theorem nilO_ptr (b off : Nat) : NilO (.ptr b off) = some (.ptr b off) := rfl
@[go_sem] theorem nilO_ref (cs : List AV) : NilO (.ref cs) = some (.ref cs) := rfl
@[go_sem] theorem nilO_fn (f : Nat) (a c : List AV) : NilO (.fn f a c) = some (.fn f a c) := rfl
@[go_sem] theorem opW_nilCheck (x : Operand) : opW C P ⟨d, .nilCheck x, T, p, af, g⟩ s K = OptK (NilO (ev P s.env 0 x)) (PutK s d none K) := by
  simp only [opW, opVal, OptK, NilO, PutK, opSrc]; cases ev P s.env 0 x <;> rfl
@[go_sem] theorem opW_binOp (op : BinOp) (T' U : TypeId) (x y : Operand) : opW C P ⟨d, .binOp op T' x y U, T, p, af, g⟩ s K = OptK (binX P op T' (isC x || isC y) (ev P s.env 0 x) (ev P s.env 0 y)) (PutK s d none K) := by
  simp only [opW, opVal, OptK, PutK]; rfl
@[go_sem] theorem opW_unOp (op : UnOp) (T' : TypeId) (x : Operand) : opW C P ⟨d, .unOp op T' x, T, p, af, g⟩ s K = OptK (unA op (ev P s.env 0 x)) (PutK s d none K) := by
  simp only [opW, opVal, OptK, PutK]; rfl
@[go_sem] theorem opW_convert (a b : TypeId) (x : Operand) : opW C P ⟨d, .convert a b x, T, p, af, g⟩ s K = OptK (convX P s.st a b (ev P s.env a x)) (PutK s d none K) := by
  simp only [opW, opVal, OptK, PutK]; rfl
@[go_sem] theorem opW_fieldAddr (T' : TypeId) (x : Operand) (i : Nat) : opW C P ⟨d, .fieldAddr T' x i, T, p, af, g⟩ s K = OptK (faddrV P T' i (ev P s.env 0 x)) (PutK s d none K) := by
  simp only [opW, opVal, OptK, PutK]; rfl
@[go_sem] theorem opW_field (T' : TypeId) (x : Operand) (i : Nat) : opW C P ⟨d, .field T' x i, T, p, af, g⟩ s K = OptK (fieldV P T' i (ev P s.env 0 x)) (PutK s d none K) := by
  simp only [opW, opVal, OptK, PutK]; rfl
@[go_sem] theorem opW_indexAddr (T' : TypeId) (x i : Operand) : opW C P ⟨d, .indexAddr T' x i, T, p, af, g⟩ s K = OptK (iaddrV P T' (ev P s.env 0 x) (ev P s.env 0 i)) (PutK s d none K) := by
  simp only [opW, opVal, OptK, PutK]; rfl
@[go_sem] theorem opW_index (T' : TypeId) (x i : Operand) : opW C P ⟨d, .index T' x i, T, p, af, g⟩ s K = OptK (match P.underlying T' with | some .string => indexV (ev P s.env 0 x) (ev P s.env 0 i) | _ => none) (PutK s d none K) := by
  simp only [opW, opVal, OptK, PutK]; rfl
def ExO (i : Nat) : AV → Option AV
  | .tup vs => (vs[i]?).map canon1
  | _ => none
@[go_sem] theorem exO_tup (i : Nat) (vs : List AV) : ExO i (.tup vs) = (vs[i]?).map canon1 := rfl
@[go_sem] theorem opW_extract (x : Operand) (i : Nat) : opW C P ⟨d, .extract x i, T, p, af, g⟩ s K = OptK (ExO i (ev P s.env 0 x)) (PutK s d none K) := by
  simp only [opW, opVal, OptK, ExO, PutK, opSrc]; cases ev P s.env 0 x <;> rfl
def SlO (P : Program) (T : TypeId) (lo hi : Option AV) : AV → Option AV
  | .str s => match P.underlying T with
    | some .string => (cutB s.length lo hi).map fun ab => .str ((s.take ab.2).drop ab.1)
    | _ => none
  | .sl _ sz l => if esz P T = some sz then (cutB l.length lo hi).map fun ab => .sl .no sz ((l.take ab.2).drop ab.1) else none
  | _ => none
@[go_sem] theorem slO_str (lo hi : Option AV) (s : List UInt8) : SlO P T lo hi (.str s) = match P.underlying T with
    | some .string => (cutB s.length lo hi).map fun ab => .str ((s.take ab.2).drop ab.1)
    | _ => none := rfl
@[go_sem] theorem slO_sl (lo hi : Option AV) (o : Ow) (sz : SlT) (l : List AV) : SlO P T lo hi (.sl o sz l) = if esz P T = some sz then (cutB l.length lo hi).map fun ab => .sl .no sz ((l.take ab.2).drop ab.1) else none := rfl
@[go_sem] theorem opW_slice (T' : TypeId) (x : Operand) (lo hi : Option Operand) : opW C P ⟨d, .slice T' x lo hi none, T, p, af, g⟩ s K = OptK (SlO P T' (lo.map (ev P s.env 0)) (hi.map (ev P s.env 0)) (ev P s.env T' x)) (PutK s d none K) := by
  simp only [opW, opVal, OptK, SlO, PutK, opSrc]; cases ev P s.env T' x <;> rfl
@[go_sem] theorem opW_len (x : Operand) (ts : TypeId) : opW C P ⟨d, .call ⟨.builtin .len, #[x], #[ts]⟩, T, p, af, g⟩ s K = OptK (bltA P s.env .len [x] [ts]) (PutK s d none K) := rfl
@[go_sem] theorem opW_func (f : Nat) (xs : List Operand) (ts : List TypeId) : opW C P ⟨d, .call ⟨.value (.func f), xs.toArray, ts.toArray⟩, T, p, af, g⟩ s K = callW C f ((xs.zip ts).map fun (x, T) => ev P s.env T x) s d K := rfl
end

attribute [go_sem] List.map_cons List.map_nil List.length_cons List.length_nil List.getElem?_cons_zero List.getElem?_cons_succ List.getElem?_nil Option.bind_some Option.bind_none Option.map_some Option.map_none cond_true cond_false and_self and_true true_and implies_true forall_const List.zip_cons_cons List.zip_nil_left List.drop_zero List.drop_succ_cons List.take_zero List.take_succ_cons List.length_map true_implies false_implies Bool.not_true Bool.not_false

/-! ### Values -/
section
variable (P : Program) (T : TypeId) (f : AV → Prop)
@[go_sem] theorem optK_index (s : List UInt8) (k : IntKind) (i : Int) : OptK (indexV (.str s) (.int k i)) f = (0 ≤ i ∧ i.toNat < s.length ∧ f (.int .u8 (s.getD i.toNat 0).toNat)) := by
  unfold indexV
  simp only
  by_cases h : 0 ≤ i
  · rw [if_pos h]
    by_cases h2 : i.toNat < s.length
    · simp [h, h2, OptK, List.getD]
    · simp [h2, OptK, List.getElem?_eq_none (Nat.le_of_not_lt h2)]
  · rw [if_neg h]; simp [h, OptK]
section
variable (n : Nat) (k k' : IntKind) (a b : Int) (h : Nat × Nat → AV)
@[go_sem] theorem cut_none : OptK (Option.map h (cutB n none none)) f = f (h (0, n)) := rfl
@[go_sem] theorem cut_lo : OptK (Option.map h (cutB n (some (.int k a)) none)) f = (0 ≤ a ∧ a ≤ n ∧ f (h (a.toNat, n))) := by
  unfold cutB; simp only
  by_cases hc : 0 ≤ a ∧ a ≤ n
  · simp [hc, OptK]
  · simp only [hc, OptK]; simp; exact fun h1 h2 => absurd ⟨h1, h2⟩ hc
@[go_sem] theorem cut_hi : OptK (Option.map h (cutB n none (some (.int k b)))) f = (0 ≤ b ∧ b ≤ n ∧ f (h (0, b.toNat))) := by
  unfold cutB; simp only
  by_cases hc : 0 ≤ b ∧ b ≤ n
  · simp [hc, OptK]
  · simp only [hc, OptK]; simp; exact fun h1 h2 => absurd ⟨h1, h2⟩ hc
@[go_sem] theorem cut_both : OptK (Option.map h (cutB n (some (.int k a)) (some (.int k' b)))) f = (0 ≤ b ∧ b ≤ n ∧ 0 ≤ a ∧ a ≤ b ∧ f (h (a.toNat, b.toNat))) := by
  unfold cutB; simp only
  by_cases hc : 0 ≤ b ∧ b ≤ n
  · have hb : ((b.toNat : Nat) : Int) = b := Int.toNat_of_nonneg hc.1
    rw [if_pos hc]
    simp only [hb]
    by_cases hd : 0 ≤ a ∧ a ≤ b
    · simp [hc, hd, OptK]
    · simp only [hd, OptK]; simp; exact fun _ _ h1 h2 => absurd ⟨h1, h2⟩ hd
  · simp only [hc, OptK]; simp; exact fun h1 h2 => absurd ⟨h1, h2⟩ hc
end
section
variable (kd : Nat) (k : IntKind) (a b : Int) (s t : List UInt8) (x y : Bool)
@[go_sem] theorem bin_add : binA kd .add (.int k a) (.int k b) = some (.int k (k.wrap (a + b))) := by simp [binA, binI]
@[go_sem] theorem bin_sub : binA kd .sub (.int k a) (.int k b) = some (.int k (k.wrap (a - b))) := by simp [binA, binI]
@[go_sem] theorem bin_mul : binA kd .mul (.int k a) (.int k b) = some (.int k (k.wrap (a * b))) := by simp [binA, binI]
@[go_sem] theorem bin_eql : binA kd .eql (.int k a) (.int k b) = some (.bool (a == b)) := by simp [binA, binI]
@[go_sem] theorem bin_neq : binA kd .neq (.int k a) (.int k b) = some (.bool (a != b)) := by simp [binA, binI]
@[go_sem] theorem bin_lss : binA kd .lss (.int k a) (.int k b) = some (.bool (decide (a < b))) := by simp [binA, binI]
@[go_sem] theorem bin_leq : binA kd .leq (.int k a) (.int k b) = some (.bool (decide (a ≤ b))) := by simp [binA, binI]
@[go_sem] theorem bin_gtr : binA kd .gtr (.int k a) (.int k b) = some (.bool (decide (a > b))) := by simp [binA, binI]
@[go_sem] theorem bin_geq : binA kd .geq (.int k a) (.int k b) = some (.bool (decide (a ≥ b))) := by simp [binA, binI]
@[go_sem] theorem bins_add : OptK (binA kd .add (.str s) (.str t)) f = (s.length + t.length ≤ strLim ∧ f (.str (s ++ t))) := by
  simp only [binA, binS]
  split
  · rename_i h; simp [OptK, h]
  · rename_i h; simp [OptK, h]
@[go_sem] theorem bins_eql : binA kd .eql (.str s) (.str t) = some (.bool (s == t)) := rfl
@[go_sem] theorem bins_neq : binA kd .neq (.str s) (.str t) = some (.bool (!(s == t))) := rfl
@[go_sem] theorem binb_eql : binA 1 .eql (.bool x) (.bool y) = some (.bool (x == y)) := rfl
@[go_sem] theorem binb_neq : binA 1 .neq (.bool x) (.bool y) = some (.bool (!(x == y))) := rfl
@[go_sem] theorem un_not : unA .not (.bool x) = some (.bool (!x)) := rfl
@[go_sem] theorem un_neg : unA .neg (.int k a) = some (.int k (k.wrap (0 - a))) := rfl
end
def FaO (f : Option (Nat × Nat × Bool)) (b o : Nat) : Option AV := match f with
  | some (off, n, _) => if n = 0 then none else some (.ptr b (o + off))
  | none => none
@[go_sem] theorem faO_some (off n : Nat) (x : Bool) (b o : Nat) : FaO (some (off, n, x)) b o = if n = 0 then none else some (.ptr b (o + off)) := rfl
@[go_sem] theorem faddrV_ptr (i b o : Nat) : faddrV P T i (.ptr b o) = FaO (fld P T i) b o := by
  unfold faddrV FaO
  cases fld P T i with
  | none => rfl
  | some p => obtain ⟨off, n, x⟩ := p; cases n <;> rfl
def FrO (f : Option (Nat × Nat × Bool)) (cs : List AV) : Option AV := match f with
  | some (off, n, _) => if n = 0 then none else some (.ref (cs.drop off))
  | none => none
@[go_sem] theorem frO_some (off n : Nat) (x : Bool) (cs : List AV) : FrO (some (off, n, x)) cs = if n = 0 then none else some (.ref (cs.drop off)) := rfl
@[go_sem] theorem faddrV_ref (i : Nat) (cs : List AV) : faddrV P T i (.ref cs) = FrO (fld P T i) cs := by
  unfold faddrV FrO
  cases fld P T i with
  | none => rfl
  | some p => obtain ⟨off, n, x⟩ := p; cases n <;> rfl
def FvO (f : Option (Nat × Nat × Bool)) (cs : List AV) : Option AV := match f with
  | some (off, n, true) => if off + n ≤ cs.length then some (.agg ((cs.drop off).take n)) else none
  | some (off, _, false) => (cs[off]?).map weak
  | none => none
@[go_sem] theorem fvO_true (off n : Nat) (cs : List AV) : FvO (some (off, n, true)) cs = if off + n ≤ cs.length then some (.agg ((cs.drop off).take n)) else none := rfl
@[go_sem] theorem fvO_false (off n : Nat) (cs : List AV) : FvO (some (off, n, false)) cs = (cs[off]?).map weak := rfl
@[go_sem] theorem fieldV_agg (i : Nat) (cs : List AV) : fieldV P T i (.agg cs) = FvO (fld P T i) cs := by
  unfold fieldV FvO
  cases fld P T i with
  | none => rfl
  | some p => obtain ⟨off, n, x⟩ := p; cases x <;> rfl
def TakeO (a : Option Bool) (n : Option Nat) (cs : List AV) : Option AV := match a, n with
  | some true, some n => if n ≤ cs.length then some (.agg ((cs.take n).map weak)) else none
  | some false, _ => (cs[0]?).map weak
  | _, _ => none
@[go_sem] theorem takeO_true (n : Nat) (cs : List AV) : TakeO (some true) (some n) cs = if n ≤ cs.length then some (.agg ((cs.take n).map weak)) else none := rfl
@[go_sem] theorem takeO_false (n : Option Nat) (cs : List AV) : TakeO (some false) n cs = (cs[0]?).map weak := by cases n <;> rfl
def CellO (P : Program) (T : TypeId) (off : Nat) (b : Option Blk) : Option AV := match b with
  | some (.cells _ l) => TakeO (aggB P T) (tsz P T) (l.drop off)
  | _ => none
@[go_sem] theorem cellO_some (off : Nat) (T0 : TypeId) (l : List AV) : CellO P T off (some (.cells T0 l)) = TakeO (aggB P T) (tsz P T) (l.drop off) := rfl
theorem takeA_eq (cs : List AV) : takeA P T cs = TakeO (aggB P T) (tsz P T) cs := by
  unfold takeA TakeO
  cases aggB P T with
  | none => rfl
  | some b => cases b <;> cases tsz P T <;> rfl
@[go_sem] theorem loadV_ptr (σ : List Blk) (b off : Nat) : loadV P σ T (.ptr b off) = CellO P T off σ[b]? := by
  unfold loadV cellsAt CellO
  simp only
  cases σ[b]? with
  | none => rfl
  | some x => cases x <;> simp only [takeA_eq]
@[go_sem] theorem loadV_ref (σ : List Blk) (cs : List AV) : loadV P σ T (.ref cs) = TakeO (aggB P T) (tsz P T) cs := takeA_eq P T cs
def LenO (P : Program) (T : TypeId) : AV → Option AV
  | .str s => match P.underlying T with | some .string => some (.int .i64 s.length) | _ => none
  | .sl _ _ l => match P.underlying T with | some (.slice _) => some (.int .i64 l.length) | _ => none
  | _ => none
@[go_sem] theorem lenO_str (s : List UInt8) : LenO P T (.str s) = match P.underlying T with | some .string => some (.int .i64 s.length) | _ => none := rfl
@[go_sem] theorem lenO_sl (o : Ow) (sz : SlT) (l : List AV) : LenO P T (.sl o sz l) = match P.underlying T with | some (.slice _) => some (.int .i64 l.length) | _ => none := rfl
@[go_sem] theorem blt_len (env : Env) (x : Operand) : bltA P env .len [x] [T] = LenO P T (ev P env T x) := by
  simp only [bltA]
  cases hT : P.underlying T with
  | none => cases ev P env T x <;> simp [LenO, hT]
  | some dd => cases dd <;> cases ev P env T x <;> simp [LenO, hT]
end

/-! ### Ends of functions and of pieces -/
theorem envL_get {env : Env} : ∀ {l : List (Nat × AV)}, EnvEq env l → ∀ t, envL l t = .undef ∨ env t = envL l t
  | [], _, t => .inl rfl
  | (k, v) :: l, h, t => by
    simp only [envL, upd]
    split
    · rename_i e; subst e; exact .inr h.1
    · exact envL_get h.2 t
theorem envEq_wk {m : Nat} {env : Env} {l : List (Nat × AV)} (σ : List Blk) (h : EnvEq env l) : Wk m env σ (envL l) σ :=
  .inl ⟨rfl, fun t => (envL_get h t).imp id .inl⟩

section
variable {m : Nat} {C : CallRel} {P : Program} {Q : Cont} {env : Env} {σ : List Blk}
/-- A loop, by an invariant and a measure. -/
theorem wp_loop_use {A : Type} {c : Code} (env' : A → List (Nat × AV)) (σ' : A → List Blk) (I : A → Prop) (μ : A → Nat) (a : A) (h0 : I a) (h1 : σ = σ' a) (h2 : EnvEq env (env' a))
    (round : ∀ a, I a → wp m C P c (RoundQ env' σ' I μ a Q) (envL (env' a)) (σ' a)) : wp m C P (.loop c) Q env σ := by
  refine wp_loop_inv (fun a => envL (env' a)) σ' I μ (fun a ha => wp_mono (fun _ _ _ _ _ h => h) c (fun e env σ h => ?_) (round a ha)) a h0 (by rw [h1]; exact envEq_wk _ h2)
  cases e with
  | normal =>
    obtain ⟨a', g1, g2, g3⟩ := h
    exact ⟨a', g1.1, g1.2, by rw [g2]; exact envEq_wk _ g3⟩
  | exit id => exact h
  | ret => exact h
/-- Forgetting, where a piece of code ends: only by way of a loop that ends at once. -/
theorem wp_weak_env {c : Code} {l : List (Nat × AV)} (h : ∀ env : Env, EnvEq env l → wp m C P c Q env σ) (h2 : EnvEq env l) : wp m C P c Q env σ := h env h2
/-- A piece of code, and what is known behind it. -/
theorem wp_mid {a b : Code} (l : List (Nat × AV)) (σ' : List Blk) (h1 : wp m C P a (MidQ l σ' Q) env σ) (h2 : ∀ env : Env, EnvEq env l → wp m C P b Q env σ') : wp m C P (.seq a b) Q env σ := by
  refine wp_mono (fun _ _ _ _ _ h => h) a (fun e env σ h => ?_) h1
  cases e with
  | normal =>
    obtain ⟨g1, g2⟩ := h
    subst g1
    exact h2 env g2
  | exit id => exact h
  | ret => exact h
end
@[go_sem] theorem endQ_tmp0 (P : Program) (t : Nat) (r : AV) (env : Env) (σ : List Blk) : EndQ P [.tmp t] 0 r [] .ret env σ = (∃ r0, some (env t) = some r0 ∧ Wk 0 (retEnv r0) σ (retEnv r) []) := by
  simp [EndQ, resL, resOne]
theorem wk_end0 {r0 r : AV} {σ : List Blk} (h : r0 = ren [] r ∨ weak r0 = ren [] r) : Wk 0 (retEnv r0) σ (retEnv r) [] := by
  refine .inr ⟨[], List.nodup_nil, fun i hi => absurd hi (Nat.not_lt_zero i), ⟨rfl, fun i k hk => by simp at hk⟩, fun t => ?_⟩
  unfold retEnv
  split
  · exact .inr h
  · exact .inl rfl

/-- What is known behind a piece of code: of some ghost, a fact, the blocks, the variables. -/
def GhostQ {A : Type} (I : A → Prop) (σ' : A → List Blk) (l : A → List (Nat × AV)) (Q : Cont) : Cont := fun e env σ => match e with
  | .normal => ∃ a, I a ∧ σ = σ' a ∧ EnvEq env (l a)
  | e => Q e env σ
section
variable {A : Type} (I : A → Prop) (σ' : A → List Blk) (l : A → List (Nat × AV)) (Q : Cont) (env : Env) (σ : List Blk)
@[go_sem] theorem ghostQ_normal : GhostQ I σ' l Q .normal env σ = ∃ a, I a ∧ σ = σ' a ∧ EnvEq env (l a) := rfl
@[go_sem] theorem ghostQ_ret : GhostQ I σ' l Q .ret env σ = Q .ret env σ := rfl
@[go_sem] theorem ghostQ_exit (id : Nat) : GhostQ I σ' l Q (.exit id) env σ = Q (.exit id) env σ := rfl
end
theorem wp_ghost {m : Nat} {C : CallRel} {P : Program} {Q : Cont} {env : Env} {σ : List Blk} {A : Type} {a b : Code} (I : A → Prop) (σ' : A → List Blk) (l : A → List (Nat × AV)) (h1 : wp m C P a (GhostQ I σ' l Q) env σ)
    (h2 : ∀ x, I x → ∀ env : Env, EnvEq env (l x) → wp m C P b Q env (σ' x)) : wp m C P (.seq a b) Q env σ := by
  refine wp_mono (fun _ _ _ _ _ h => h) a (fun e env σ h => ?_) h1
  cases e with
  | normal =>
    obtain ⟨x, g0, g1, g2⟩ := h
    subst g1
    exact h2 x g0 env g2
  | exit id => exact h
  | ret => exact h

/-- The end of a function that keeps the blocks it was handed, in their places. -/
def EndB (P : Program) (rs : List ResultVar) (r : AV) (σ' : List Blk) : Cont := fun e env σ2 => match e with
  | .exit _ => False
  | _ => resL P rs env σ2 = some r ∧ σ2.take σ'.length = σ'
@[go_sem] theorem endB_ret (P : Program) (rs : List ResultVar) (r : AV) (σ' : List Blk) (env : Env) (σ : List Blk) : EndB P rs r σ' .ret env σ = (resL P rs env σ = some r ∧ σ.take σ'.length = σ') := rfl
@[go_sem] theorem endB_normal (P : Program) (rs : List ResultVar) (r : AV) (σ' : List Blk) (env : Env) (σ : List Blk) : EndB P rs r σ' .normal env σ = (resL P rs env σ = some r ∧ σ.take σ'.length = σ') := rfl
@[go_sem] theorem endB_exit (P : Program) (rs : List ResultVar) (r : AV) (σ' : List Blk) (env : Env) (σ : List Blk) (id : Nat) : EndB P rs r σ' (.exit id) env σ = False := rfl
@[go_sem] theorem resL_nil (P : Program) (env : Env) (σ : List Blk) : resL P [] env σ = some (.tup []) := rfl
@[go_sem] theorem resL_tmp (P : Program) (env : Env) (σ : List Blk) (t : Nat) : resL P [.tmp t] env σ = some (env t) := rfl
def ResK (v : AV) (o : Option (List AV)) : Option (List AV) := match o with
  | some vs => if stoA v = true then some (canon1 v :: vs) else none
  | none => none
@[go_sem] theorem resK_some (v : AV) (vs : List AV) : ResK v (some vs) = if stoA v = true then some (canon1 v :: vs) else none := rfl
@[go_sem] theorem resAll_nil (P : Program) (env : Env) (σ : List Blk) : resAll P env σ [] = some [] := rfl
@[go_sem] theorem resAll_tmp (P : Program) (env : Env) (σ : List Blk) (t : Nat) (l : List ResultVar) : resAll P env σ (.tmp t :: l) = ResK (env t) (resAll P env σ l) := by
  simp only [resAll, resOne, ResK]; cases resAll P env σ l <;> rfl
@[go_sem] theorem resL_two (P : Program) (env : Env) (σ : List Blk) (a b : ResultVar) (l : List ResultVar) : resL P (a :: b :: l) env σ = (resAll P env σ (a :: b :: l)).map .tup := rfl

theorem wk_front {m : Nat} {r : AV} {σ2 σ' : List Blk} (hm : m ≤ σ'.length) (ht : σ2.take σ'.length = σ') (hr : ren (List.range σ'.length) r = r) (hs : ∀ b ∈ σ', renB (List.range σ'.length) b = b) : Wk m (retEnv r) σ2 (retEnv r) σ' := by
  refine .inr ⟨List.range σ'.length, List.nodup_range, fun i hi => List.getElem?_range (by omega), ⟨by simp, fun i k hk => ?_⟩, fun t => ?_⟩
  · have hi := (List.getElem?_eq_some_iff.1 hk).1
    rw [List.length_range] at hi
    rw [List.getElem?_range hi] at hk
    cases hk
    refine ⟨σ'[i], by simp [hi], ?_⟩
    rw [hs _ (List.getElem_mem hi)]
    have : (σ2.take σ'.length)[i]? = some σ'[i] := by rw [ht]; simp [hi]
    rw [List.getElem?_take_of_lt hi] at this
    exact this
  · unfold retEnv
    split
    · exact .inr (.inl hr.symm)
    · exact .inl rfl

/-- A function's law, from its code's. -/
theorem ret_intro {P : Program} {Prim : CallRel} {f : Nat} {fn : Func} {c : Code} {rs : List ResultVar} {args : List AV} {σ σ' : List Blk} {r : AV} (hf : P.funcs[f]? = some fn) (hb : fn.body = some c) (hrs : fn.results = rs.toArray)
    (hok : (!(fn.name == "runtime.NumGoroutine") && codeOk fn.ntmps c) = true) (hl : Nat.ble args.length fn.ntmps = true) (hm : σ.length ≤ σ'.length) (hr : ren (List.range σ'.length) r = r) (hs : ∀ b ∈ σ', renB (List.range σ'.length) b = b)
    (h : wp σ.length (Ret P Prim) P c (EndB P rs r σ') (envFrom 0 (args.map weak)) σ) : Ret P Prim f args σ r σ' := by
  refine ret_fold (body_intro hf hb (by rw [hrs]) hok hl ?_)
  refine wp_mono (fun _ _ _ _ _ h => h) c (fun e env σ2 h => ?_) h
  cases e with
  | normal => exact ⟨trivial, r, h.1, wk_front hm h.2 hr hs⟩
  | ret => exact ⟨trivial, r, h.1, wk_front hm h.2 hr hs⟩
  | exit id => exact h.elim

/-! ### Calls -/
theorem callW_pure {C : CallRel} {f : Nat} {args args' : List AV} {s : St} {dst : Option Nat} {K : St → Prop} {r : AV} (h : C f args' [] r []) (ha : args.map canon = args'.map (ren [])) (hr : ren [] r = r) (hk : K (s.put dst r none)) : callW C f args s dst K := by
  rw [← hr] at hk
  refine ⟨[], args', [], r, [], List.nodup_nil, ha, ⟨rfl, fun i k hk => by simp at hk⟩, h, by simp, ?_⟩
  have h1 : mergeB (backIds s.st [] ([] : List Blk).length) [] [] s.st = s.st := by simp [mergeB]
  have h2 : invB [] s.al = s.al := by
    funext t
    unfold invB
    cases hx : s.al t with
    | none => rfl
    | some x => cases x <;> simp
  rw [h1, h2]
  have h3 : ren (backIds s.st [] ([] : List Blk).length) r = ren [] r := by simp [backIds]
  rw [h3]
  exact hk
end Go.Pv
/- Rules for use: blocks, slices, calls. -/
namespace Go.Pv
open Go

section
variable (m : Nat) (C : CallRel) (P : Program) (env : Env) (ops : Array Oper) (K : St → Prop) (s : St) (d : Option Nat) (T : TypeId) (p : String) (af : Array Edge) (g : Option (Nat × Bool))

/-- A new block. -/
def NewK (T : TypeId) (s : St) (d : Option Nat) (K : St → Prop) (cs : List AV) : Prop := K ({ s with st := s.st ++ [Blk.cells T cs] }.put d (.ptr s.st.length 0) none)
@[go_sem] theorem newK_eq (e : Env) (al : Nat → Option Src) (st : List Blk) (cs : List AV) : NewK T ⟨e, al, st⟩ d K cs = K (St.put ⟨e, al, st ++ [Blk.cells T cs]⟩ d (.ptr st.length 0) none) := rfl
def AllocK (T : TypeId) (z : Option (List AV)) (s : St) (d : Option Nat) (K : St → Prop) : Prop := match z with
  | some cs => NewK T s d K (cs.map promW)
  | none => False
@[go_sem] theorem allocK_some (cs : List AV) : AllocK T (some cs) s d K = NewK T s d K (cs.map promW) := rfl
@[go_sem] theorem opW_alloc (T' : TypeId) : opW C P ⟨d, .alloc T', T, p, af, g⟩ s K = AllocK T' (zeroA P T') s d K := by
  simp only [opW, AllocK, NewK]; cases zeroA P T' <;> rfl
@[go_sem] theorem opW_box (T' : TypeId) (x : Operand) : opW C P ⟨d, .box T' x, T, p, af, g⟩ s K = if tsz P T' = some (ev P s.env T' x).cells.length ∧ stoA (ev P s.env T' x) = true then NewK T' s d K ((ev P s.env T' x).cells.map promW) else False := rfl
theorem promW_def (v : AV) : promW v = prom (weak v) := rfl
attribute [go_sem] promW_def
section
@[go_sem] theorem cells_agg (cs : List AV) : AV.cells (.agg cs) = cs := rfl
@[go_sem] theorem cells_int (k : IntKind) (n : Int) : AV.cells (.int k n) = [.int k n] := rfl
@[go_sem] theorem cells_bool (b : Bool) : AV.cells (.bool b) = [.bool b] := rfl
@[go_sem] theorem cells_str (b : List UInt8) : AV.cells (.str b) = [.str b] := rfl
@[go_sem] theorem cells_ptr (b o : Nat) : AV.cells (.ptr b o) = [.ptr b o] := rfl
@[go_sem] theorem cells_ref (b : List AV) : AV.cells (.ref b) = [.ref b] := rfl
@[go_sem] theorem cells_sl (o : Ow) (sz : SlT) (l : List AV) : AV.cells (.sl o sz l) = [.sl o sz l] := rfl
@[go_sem] theorem cells_fn (f : Nat) (a b : List AV) : AV.cells (.fn f a b) = [.fn f a b] := rfl
@[go_sem] theorem cells_iface (t : Nat) (v : AV) : AV.cells (.iface t v) = [.iface t v] := rfl
@[go_sem] theorem cells_nilp : AV.cells .nilp = [.nilp] := rfl
@[go_sem] theorem cells_nilf : AV.cells .nilf = [.nilf] := rfl
@[go_sem] theorem cells_nili : AV.cells .nili = [.nili] := rfl
@[go_sem] theorem sto_agg (cs : List AV) : stoA (.agg cs) = true := rfl
@[go_sem] theorem sto_int (k : IntKind) (n : Int) : stoA (.int k n) = true := rfl
@[go_sem] theorem sto_bool (b : Bool) : stoA (.bool b) = true := rfl
@[go_sem] theorem sto_str (b : List UInt8) : stoA (.str b) = true := rfl
@[go_sem] theorem sto_ptr (b o : Nat) : stoA (.ptr b o) = true := rfl
@[go_sem] theorem sto_ref (b : List AV) : stoA (.ref b) = true := rfl
@[go_sem] theorem sto_sl (o : Ow) (sz : SlT) (l : List AV) : stoA (.sl o sz l) = true := rfl
@[go_sem] theorem sto_fn (f : Nat) (a b : List AV) : stoA (.fn f a b) = true := rfl
@[go_sem] theorem sto_iface (t : Nat) (v : AV) : stoA (.iface t v) = true := rfl
@[go_sem] theorem sto_nilp : stoA .nilp = true := rfl
@[go_sem] theorem sto_nilf : stoA .nilf = true := rfl
@[go_sem] theorem sto_nili : stoA .nili = true := rfl
@[go_sem] theorem st_agg (cs : List AV) : stCells (.agg cs) = cs.map promW := rfl
@[go_sem] theorem st_int (k : IntKind) (n : Int) : stCells (.int k n) = [.int k n] := rfl
@[go_sem] theorem st_bool (b : Bool) : stCells (.bool b) = [.bool b] := rfl
@[go_sem] theorem st_str (b : List UInt8) : stCells (.str b) = [.str b] := rfl
@[go_sem] theorem st_ptr (b o : Nat) : stCells (.ptr b o) = [.ptr b o] := rfl
@[go_sem] theorem st_ref (b : List AV) : stCells (.ref b) = [.ref b] := rfl
@[go_sem] theorem st_sl (o : Ow) (sz : SlT) (l : List AV) : stCells (.sl o sz l) = [prom (.sl o sz l)] := rfl
@[go_sem] theorem st_fn (f : Nat) (a b : List AV) : stCells (.fn f a b) = [.fn f a b] := rfl
@[go_sem] theorem st_iface (t : Nat) (v : AV) : stCells (.iface t v) = [.iface t v] := rfl
@[go_sem] theorem st_nilp : stCells .nilp = [.nilp] := rfl
@[go_sem] theorem st_nilf : stCells .nilf = [.nilf] := rfl
@[go_sem] theorem st_nili : stCells .nili = [.nili] := rfl
@[go_sem] theorem canon_agg (cs : List AV) : canon (.agg cs) = .agg (cs.map canon0) := rfl
@[go_sem] theorem canon_int (k : IntKind) (n : Int) : canon (.int k n) = .int k n := rfl
@[go_sem] theorem canon_bool (b : Bool) : canon (.bool b) = .bool b := rfl
@[go_sem] theorem canon_str (b : List UInt8) : canon (.str b) = .str b := rfl
@[go_sem] theorem canon_ptr (b o : Nat) : canon (.ptr b o) = .ptr b o := rfl
@[go_sem] theorem canon_ref (b : List AV) : canon (.ref b) = .ref b := rfl
@[go_sem] theorem canon_sl (o : Ow) (sz : SlT) (l : List AV) : canon (.sl o sz l) = .sl .no sz l := rfl
@[go_sem] theorem canon_fn (f : Nat) (a b : List AV) : canon (.fn f a b) = .fn f a b := rfl
@[go_sem] theorem canon_iface (t : Nat) (v : AV) : canon (.iface t v) = .iface t v := rfl
@[go_sem] theorem canon_nilp : canon .nilp = .nilp := rfl
@[go_sem] theorem canon_nilf : canon .nilf = .nilf := rfl
@[go_sem] theorem canon_nili : canon .nili = .nili := rfl
@[go_sem] theorem canon1_agg (cs : List AV) : canon1 (.agg cs) = .agg (cs.map canon0) := rfl
@[go_sem] theorem canon1_int (k : IntKind) (n : Int) : canon1 (.int k n) = .int k n := rfl
@[go_sem] theorem canon1_bool (b : Bool) : canon1 (.bool b) = .bool b := rfl
@[go_sem] theorem canon1_str (b : List UInt8) : canon1 (.str b) = .str b := rfl
@[go_sem] theorem canon1_ptr (b o : Nat) : canon1 (.ptr b o) = .ptr b o := rfl
@[go_sem] theorem canon1_ref (b : List AV) : canon1 (.ref b) = .ref b := rfl
@[go_sem] theorem canon1_sl (o : Ow) (sz : SlT) (l : List AV) : canon1 (.sl o sz l) = .sl .no sz l := rfl
@[go_sem] theorem canon1_fn (f : Nat) (a b : List AV) : canon1 (.fn f a b) = .fn f a b := rfl
@[go_sem] theorem canon1_iface (t : Nat) (v : AV) : canon1 (.iface t v) = .iface t v := rfl
@[go_sem] theorem canon1_nilp : canon1 .nilp = .nilp := rfl
@[go_sem] theorem canon1_nilf : canon1 .nilf = .nilf := rfl
@[go_sem] theorem canon1_nili : canon1 .nili = .nili := rfl
@[go_sem] theorem canon0_int (k : IntKind) (n : Int) : canon0 (.int k n) = .int k n := rfl
@[go_sem] theorem canon0_bool (b : Bool) : canon0 (.bool b) = .bool b := rfl
@[go_sem] theorem canon0_str (b : List UInt8) : canon0 (.str b) = .str b := rfl
@[go_sem] theorem canon0_ptr (b o : Nat) : canon0 (.ptr b o) = .ptr b o := rfl
@[go_sem] theorem canon0_ref (b : List AV) : canon0 (.ref b) = .ref b := rfl
@[go_sem] theorem canon0_sl (o : Ow) (sz : SlT) (l : List AV) : canon0 (.sl o sz l) = .sl .no sz l := rfl
@[go_sem] theorem canon0_fn (f : Nat) (a b : List AV) : canon0 (.fn f a b) = .fn f a b := rfl
@[go_sem] theorem canon0_iface (t : Nat) (v : AV) : canon0 (.iface t v) = .iface t v := rfl
@[go_sem] theorem canon0_nilp : canon0 .nilp = .nilp := rfl
@[go_sem] theorem canon0_nilf : canon0 .nilf = .nilf := rfl
@[go_sem] theorem canon0_nili : canon0 .nili = .nili := rfl
end

/-- Storing. -/
def StoK (b off : Nat) (v : AV) (n : Option Nat) (c : Option Blk) (s : St) (d : Option Nat) (K : St → Prop) : Prop := match c with
  | some (.cells T cs) => if n = some v.cells.length ∧ off + v.cells.length ≤ cs.length ∧ stoA v = true then
      K ({ s with st := s.st.set b (.cells T (lay cs off (stCells v))), al := invB [b] s.al }.put d (.tup []) none) else False
  | _ => False
def StoP (P : Program) (T : TypeId) (v a : AV) (s s1 : St) (d : Option Nat) (K : St → Prop) : Prop := match a with
  | .ptr b off => StoK b off v (tsz P T) s.st[b]? s1 d K
  | _ => False
@[go_sem] theorem stoP_ptr (b off : Nat) (v : AV) (s s1 : St) : StoP P T v (.ptr b off) s s1 d K = StoK b off v (tsz P T) s.st[b]? s1 d K := rfl
@[go_sem] theorem stoK_cells (b off : Nat) (v : AV) (n : Option Nat) (cs : List AV) (e : Env) (al : Nat → Option Src) (st : List Blk) : StoK b off v n (some (.cells T cs)) ⟨e, al, st⟩ d K = if n = some v.cells.length ∧ off + v.cells.length ≤ cs.length ∧ stoA v = true then
      K (St.put ⟨e, invB [b] al, st.set b (.cells T (lay cs off (stCells v)))⟩ d (.tup []) none) else False := rfl
theorem kill_al' {s : St} (x : Operand) : (s.kill x).al = s.al := by cases x <;> rfl
@[go_sem] theorem opW_store (T' : TypeId) (a x : Operand) : opW C P ⟨d, .store T' a x, T, p, af, g⟩ s K = StoP P T' (ev P s.env T' x) (ev P s.env 0 a) s (s.kill x) d K := by
  simp only [opW, StoP]
  cases ev P s.env 0 a with
  | ptr b off =>
    simp only [cellsAt, StoK]
    cases hb : s.st[b]? with
    | none => rfl
    | some c =>
      cases c with
      | cells T cs => simp only [kill_st, kill_al', setB, hb]
      | siter t q => rfl
  | _ => rfl
@[go_sem] theorem lay_eq (cs : List AV) (off : Nat) (vs : List AV) : lay cs off vs = cs.take off ++ vs ++ cs.drop (off + vs.length) := rfl

/-- Builtin append. -/
@[go_sem] theorem opW_append (x y : Operand) (T1 T2 : TypeId) : opW C P ⟨d, .call ⟨.builtin .append, #[x, y], #[T1, T2]⟩, T, p, af, g⟩ s K = if appArg P T2 = true then appendW P T1 x (appElems (ev P s.env T2 y)) s d K else False := rfl
@[go_sem] theorem appElems_sl (o : Ow) (sz : SlT) (l : List AV) : appElems (.sl o sz l) = some (sz.n, l) := rfl
@[go_sem] theorem appElems_str (b : List UInt8) : appElems (.str b) = some (1, b.map fun c => .int .u8 c.toNat) := rfl
def AppE (T : TypeId) (P : Program) (sz' : Nat) (ys : List AV) (v : AV) (a : Option Src) (m : Nat) (s : St) (d : Option Nat) (K : St → Prop) : Prop := match v with
  | .sl .yes sz l => (sz' = sz ∨ ys = []) ∧ appendTo P T sz l ys ∧ K ((s.kill (.tmp m)).put d (.sl .yes sz (l ++ ys)) none)
  | .sl .nil sz l => (sz' = sz ∨ ys = []) ∧ appendTo P T sz l ys ∧ K (s.put d (.sl .yes sz (l ++ ys)) none)
  | .sl .no _ _ => match a with
    | some (.slot o) => match s.env o with
      | .sl .yes sz l => (sz' = sz ∨ ys = []) ∧ appendTo P T sz l ys ∧ K ((s.kill (.tmp o)).put d (.sl .yes sz (l ++ ys)) none)
      | _ => False
    | some (.cell b off) => match cellsAt s.st b with
      | some cs => match cs[off]? with
        | some (.sl .yes sz l) => (sz' = sz ∨ ys = []) ∧ appendTo P T sz l ys ∧ K ({ s with st := setB s.st b (cs.set off (.sl .no sz l)) }.put d (.sl .yes sz (l ++ ys)) none)
        | _ => False
      | none => False
    | none => False
  | _ => False
@[go_sem] theorem appendW_tmp (t sz' : Nat) (ys : List AV) : appendW P T (.tmp t) (some (sz', ys)) s d K = AppE T P sz' ys (s.env t) (s.al t) t s d K := rfl
@[go_sem] theorem appE_yes (sz' t : Nat) (sz : SlT) (l ys : List AV) (a : Option Src) : AppE T P sz' ys (.sl .yes sz l) a t s d K = ((sz' = sz ∨ ys = []) ∧ appendTo P T sz l ys ∧ K ((s.kill (.tmp t)).put d (.sl .yes sz (l ++ ys)) none)) := rfl
@[go_sem] theorem appE_nil (sz' t : Nat) (sz : SlT) (l ys : List AV) (a : Option Src) : AppE T P sz' ys (.sl .nil sz l) a t s d K = ((sz' = sz ∨ ys = []) ∧ appendTo P T sz l ys ∧ K (s.put d (.sl .yes sz (l ++ ys)) none)) := rfl
def AppS (T : TypeId) (P : Program) (sz' : Nat) (ys : List AV) (v : AV) (o : Nat) (s : St) (d : Option Nat) (K : St → Prop) : Prop := match v with
  | .sl .yes sz l => (sz' = sz ∨ ys = []) ∧ appendTo P T sz l ys ∧ K ((s.kill (.tmp o)).put d (.sl .yes sz (l ++ ys)) none)
  | _ => False
@[go_sem] theorem appE_slot (sz' t o : Nat) (sz : SlT) (l ys : List AV) : AppE T P sz' ys (.sl .no sz l) (some (.slot o)) t s d K = AppS T P sz' ys (s.env o) o s d K := by
  simp only [AppE, AppS]
@[go_sem] theorem appS_yes (sz' o : Nat) (sz : SlT) (l ys : List AV) : AppS T P sz' ys (.sl .yes sz l) o s d K = ((sz' = sz ∨ ys = []) ∧ appendTo P T sz l ys ∧ K ((s.kill (.tmp o)).put d (.sl .yes sz (l ++ ys)) none)) := rfl
def AppC2 (T : TypeId) (P : Program) (sz' : Nat) (ys : List AV) (b off : Nat) (T0 : TypeId) (cs : List AV) (c : Option AV) (s : St) (d : Option Nat) (K : St → Prop) : Prop := match c with
  | some (.sl .yes sz l) => (sz' = sz ∨ ys = []) ∧ appendTo P T sz l ys ∧ K ({ s with st := s.st.set b (.cells T0 (cs.set off (.sl .no sz l))) }.put d (.sl .yes sz (l ++ ys)) none)
  | _ => False
def AppC (T : TypeId) (P : Program) (sz' : Nat) (ys : List AV) (b off : Nat) (c : Option Blk) (s : St) (d : Option Nat) (K : St → Prop) : Prop := match c with
  | some (.cells T0 cs) => AppC2 T P sz' ys b off T0 cs cs[off]? s d K
  | _ => False
@[go_sem] theorem appE_cell (sz' t b off : Nat) (sz : SlT) (l ys : List AV) : AppE T P sz' ys (.sl .no sz l) (some (.cell b off)) t s d K = AppC T P sz' ys b off s.st[b]? s d K := by
  simp only [AppE, AppC, cellsAt]
  cases h : s.st[b]? with
  | none => rfl
  | some c =>
    cases c with
    | cells T0 cs =>
      simp only [AppC2, setB, h]
    | siter s p => rfl
@[go_sem] theorem appC_cells (sz' b off : Nat) (T0 : TypeId) (cs ys : List AV) : AppC T P sz' ys b off (some (.cells T0 cs)) s d K = AppC2 T P sz' ys b off T0 cs cs[off]? s d K := rfl
@[go_sem] theorem appC2_yes (sz' b off : Nat) (sz : SlT) (T0 : TypeId) (cs l ys : List AV) (e : Env) (al : Nat → Option Src) (st : List Blk) : AppC2 T P sz' ys b off T0 cs (some (.sl .yes sz l)) ⟨e, al, st⟩ d K = ((sz' = sz ∨ ys = []) ∧ appendTo P T sz l ys ∧ K (St.put ⟨e, al, st.set b (.cells T0 (cs.set off (.sl .no sz l)))⟩ d (.sl .yes sz (l ++ ys)) none)) := rfl
@[go_sem] theorem appendTo_eq (sz : SlT) (l ys : List AV) : appendTo P T sz l ys = (appTy P T = some sz ∧ l.length + ys.length ≤ lenLim) := rfl
@[go_sem] theorem setAl_eq (al : Nat → Option Src) (d : Nat) (r : Option Src) (t : Nat) : setAl al d r t = if t = d then r else invT d al t := rfl
@[go_sem] theorem invT_eq (al : Nat → Option Src) (d t : Nat) : invT d al t = if t = d then none else match al t with | some (.slot o) => if o = d then none else some (.slot o) | r => r := rfl
@[go_sem] theorem invB_eq (al : Nat → Option Src) (bs : List Nat) (t : Nat) : invB bs al t = match al t with | some (.cell b off) => if b ∈ bs then none else some (.cell b off) | r => r := rfl

/-- Building. -/
def BuildO (P : Program) (T : TypeId) (env : Env) (fs : Option (List (Nat × Nat))) (z : Option (List AV)) (parts : List (Nat × Operand)) : Option AV := match fs, z with
  | some fs, some z => (buildA P env fs (fldTypes P T) z parts).map .agg
  | _, _ => none
@[go_sem] theorem buildO_some (fs : List (Nat × Nat)) (z : List AV) (parts : List (Nat × Operand)) : BuildO P T env (some fs) (some z) parts = (buildA P env fs (fldTypes P T) z parts).map .agg := rfl
@[go_sem] theorem opW_build (T' : TypeId) (parts : List (Nat × Operand)) : opW C P ⟨d, .build T' parts.toArray, T, p, af, g⟩ s K = OptK (BuildO P T' s.env (flds P T') (zeroA P T') parts) (PutK s d none K) := by
  simp only [opW, opVal, OptK, BuildO, PutK, opSrc]
  cases flds P T' <;> cases zeroA P T' <;> rfl
@[go_sem] theorem buildA_nil (fs : List (Nat × Nat)) (ts : List TypeId) (cs : List AV) : buildA P env fs ts cs [] = some cs := rfl
def BldO (P : Program) (env : Env) (fs : List (Nat × Nat)) (ts : List TypeId) (cs : List AV) (v : AV) (q : Option (Nat × Nat)) (l : List (Nat × Operand)) : Option (List AV) := match q with
  | some (off, n) => if (weak v).cells.length = n ∧ off + n ≤ cs.length ∧ stoA v = true then buildA P env fs ts (cs.take off ++ (weak v).cells ++ cs.drop (off + n)) l else none
  | none => none
@[go_sem] theorem bldO_some (fs : List (Nat × Nat)) (ts : List TypeId) (cs : List AV) (v : AV) (off n : Nat) (l : List (Nat × Operand)) : BldO P env fs ts cs v (some (off, n)) l = if (weak v).cells.length = n ∧ off + n ≤ cs.length ∧ stoA v = true then buildA P env fs ts (cs.take off ++ (weak v).cells ++ cs.drop (off + n)) l else none := rfl
def BldT (P : Program) (env : Env) (fs : List (Nat × Nat)) (ts : List TypeId) (cs : List AV) (i : Nat) (x : Operand) (t : Option TypeId) (l : List (Nat × Operand)) : Option (List AV) := match t with
  | some T => BldO P env fs ts cs (ev P env T x) fs[i]? l
  | none => none
@[go_sem] theorem bldT_some (fs : List (Nat × Nat)) (ts : List TypeId) (cs : List AV) (i : Nat) (x : Operand) (l : List (Nat × Operand)) : BldT P env fs ts cs i x (some T) l = BldO P env fs ts cs (ev P env T x) fs[i]? l := rfl
@[go_sem] theorem buildA_cons (fs : List (Nat × Nat)) (ts : List TypeId) (cs : List AV) (i : Nat) (x : Operand) (l : List (Nat × Operand)) : buildA P env fs ts cs ((i, x) :: l) = BldT P env fs ts cs i x ts[i]? l := by
  simp only [buildA, BldT, BldO]
  cases fs[i]? with
  | none => cases ts[i]? <;> rfl
  | some q => obtain ⟨a, b⟩ := q; cases ts[i]? <;> rfl

@[go_sem] theorem opW_cfn (t : Nat) (xs : List Operand) (ts : List TypeId) : opW C P ⟨d, .call ⟨.value (.tmp t), xs.toArray, ts.toArray⟩, T, p, af, g⟩ s K = (match s.env t with | .fn f first cap => callW C f (first ++ ((xs.zip ts).map fun (x, T) => ev P s.env T x) ++ cap) s d K | _ => False) := rfl

/-- An element of a slice whose elements are told by a function. -/
@[go_sem] theorem iaddr_map {A : Type} [Inhabited A] (o : Ow) (sz : SlT) (f : A → AV) (l : List A) (k : IntKind) (n : Int) (F : AV → Prop) : OptK (iaddrV P T (.sl o sz (l.map f)) (.int k n)) F = (esz P T = some sz ∧ 0 ≤ n ∧ n.toNat < l.length ∧ F (.ref (f (l.getD n.toNat default)).cells)) := by
  unfold iaddrV
  simp only
  by_cases h : esz P T = some sz ∧ 0 ≤ n
  · rw [if_pos h]
    by_cases h2 : n.toNat < l.length
    · simp [h, h2, OptK, List.getD]
    · simp [h2, OptK, List.getElem?_eq_none (Nat.le_of_not_lt h2)]
  · rw [if_neg h]
    simp only [OptK]
    simp
    intro h1 h2
    exact absurd ⟨h1, h2⟩ h
end

section
variable (P : Program)
def ConvO (P : Program) (a b : Option TypeDesc) (x : AV) : Option AV := match a, b, x with
  | some (.int _), some (.int k), .int _ n => some (.int k (k.wrap n))
  | some .string, some .string, .str s => some (.str s)
  | some .string, some (.slice e), .str s => match P.underlying e with
    | some (.int .u8) => if s.length ≤ lenLim then some (.sl .yes ⟨1, e⟩ (s.map fun c => .int .u8 c.toNat)) else none
    | _ => none
  | some (.slice e), some .string, .sl _ ⟨1, _⟩ l => match P.underlying e with
    | some (.int .u8) => (bytesA l).map .str
    | _ => none
  | _, _, _ => none
@[go_sem] theorem convA_eq (a b : TypeId) (x : AV) : convA P a b x = ConvO P (P.underlying a) (P.underlying b) x := rfl
@[go_sem] theorem convO_int (k k0 k1 : IntKind) (n : Int) : ConvO P (some (.int k0)) (some (.int k)) (.int k1 n) = some (.int k (k.wrap n)) := rfl
@[go_sem] theorem convO_str (s : List UInt8) : ConvO P (some .string) (some .string) (.str s) = some (.str s) := rfl
def U8O (t : Option TypeDesc) (v : Option AV) : Option AV := match t with
  | some (.int .u8) => v
  | _ => none
@[go_sem] theorem u8O_u8 (v : Option AV) : U8O (some (.int .u8)) v = v := rfl
@[go_sem] theorem convO_bytes (e : TypeId) (s : List UInt8) : ConvO P (some .string) (some (.slice e)) (.str s) = U8O (P.underlying e) (if s.length ≤ lenLim then some (.sl .yes ⟨1, e⟩ (s.map fun c => .int .u8 c.toNat)) else none) := rfl
@[go_sem] theorem convO_text (e : TypeId) (o : Ow) (e' : TypeId) (l : List AV) : ConvO P (some (.slice e)) (some .string) (.sl o ⟨1, e'⟩ l) = U8O (P.underlying e) ((bytesA l).map .str) := rfl
@[go_sem] theorem bytesA_map (s : List UInt8) : bytesA (s.map fun c => .int .u8 c.toNat) = some s := by
  induction s with
  | nil => rfl
  | cons c s ih => simp [bytesA, ih]
@[go_sem] theorem bytesA_nil : bytesA [] = some [] := rfl
@[go_sem] theorem bytesA_cons (n : Int) (l : List AV) : bytesA (.int .u8 n :: l) = (bytesA l).map fun t => UInt8.ofNat n.toNat :: t := rfl
def SliceO (P : Program) (env : Env) (n : Nat) (parts : List (Nat × Operand)) (u : Option TypeDesc) : Option AV := match u with
  | some (.slice e) => match tsz P e with
    | some sz => if parts.length = n ∧ n ≤ 1000 ∧ sz ≤ 1000 ∧ (zeroA P e).isSome = true then (buildL P env sz e 0 parts).map (.sl .yes ⟨sz, e⟩) else none
    | none => none
  | _ => none
def SliceO2 (P : Program) (env : Env) (n : Nat) (parts : List (Nat × Operand)) (e : TypeId) (t : Option Nat) (z : Bool) : Option AV := match t with
  | some sz => if parts.length = n ∧ n ≤ 1000 ∧ sz ≤ 1000 ∧ z = true then (buildL P env sz e 0 parts).map (.sl .yes ⟨sz, e⟩) else none
  | none => none
@[go_sem] theorem sliceO_slice (env : Env) (n : Nat) (parts : List (Nat × Operand)) (e : TypeId) : SliceO P env n parts (some (.slice e)) = SliceO2 P env n parts e (tsz P e) (zeroA P e).isSome := rfl
@[go_sem] theorem sliceO2_some (env : Env) (n : Nat) (parts : List (Nat × Operand)) (e : TypeId) (sz : Nat) (z : Bool) : SliceO2 P env n parts e (some sz) z = if parts.length = n ∧ n ≤ 1000 ∧ sz ≤ 1000 ∧ z = true then (buildL P env sz e 0 parts).map (.sl .yes ⟨sz, e⟩) else none := rfl
attribute [go_sem] Option.isSome_some
@[go_sem] theorem opW_buildSlice (C : CallRel) (K : St → Prop) (s : St) (d : Option Nat) (T : TypeId) (p : String) (af : Array Edge) (g : Option (Nat × Bool)) (T' : TypeId) (n : Nat) (parts : List (Nat × Operand)) : opW C P ⟨d, .buildSlice T' n parts.toArray, T, p, af, g⟩ s K = OptK (SliceO P s.env n parts (P.underlying T')) (PutK s d none K) := by
  simp only [opW, opVal, OptK, SliceO, PutK, opSrc, List.size_toArray]
  cases P.underlying T' with
  | none => rfl
  | some dd =>
    cases dd <;> try rfl
@[go_sem] theorem buildL_nil (env : Env) (sz : Nat) (T : TypeId) (k : Nat) : buildL P env sz T k [] = some [] := rfl
@[go_sem] theorem buildL_cons (env : Env) (sz : Nat) (T : TypeId) (k i : Nat) (x : Operand) (l : List (Nat × Operand)) : buildL P env sz T k ((i, x) :: l) = if i = k ∧ (canon (ev P env T x)).cells.length = sz ∧ flatB (canon (ev P env T x)) = true then (buildL P env sz T (k + 1) l).map (canon (ev P env T x) :: ·) else none := rfl
@[go_sem] theorem flat_int (k : IntKind) (n : Int) : flatB (.int k n) = true := rfl
@[go_sem] theorem flat_bool (b : Bool) : flatB (.bool b) = true := rfl
@[go_sem] theorem flat_str (b : List UInt8) : flatB (.str b) = true := rfl
@[go_sem] theorem flat_sl (o : Ow) (sz : SlT) (l : List AV) : flatB (.sl o sz l) = true := rfl
@[go_sem] theorem flat_nilp : flatB .nilp = true := rfl
@[go_sem] theorem flat_ref (l : List AV) : flatB (.ref l) = true := rfl
@[go_sem] theorem flat_agg (cs : List AV) : flatB (.agg cs) = cs.all leafB := rfl
end
end Go.Pv
/- Rules for use: calls that are handed blocks, function values, ranges over texts, words; loops that leave blocks behind. -/
namespace Go.Pv
open Go

/-! ### Renaming, reckoned -/
def RenP (k : Option Nat) (off : Nat) : AV := match k with
  | some k => .ptr k off
  | none => .bad
@[go_sem] theorem renP_some (k off : Nat) : RenP (some k) off = .ptr k off := rfl
section
variable (ks : List Nat)
@[go_sem] theorem ren0_ptr (b off : Nat) : ren0 ks (.ptr b off) = RenP ks[b]? off := by simp only [ren0, RenP]; cases ks[b]? <;> rfl
@[go_sem] theorem ren1_ptr (b off : Nat) : ren1 ks (.ptr b off) = RenP ks[b]? off := ren0_ptr ks b off
@[go_sem] theorem ren2_ptr (b off : Nat) : ren2 ks (.ptr b off) = RenP ks[b]? off := ren0_ptr ks b off
@[go_sem] theorem ren_ptr (b off : Nat) : ren ks (.ptr b off) = RenP ks[b]? off := ren0_ptr ks b off
@[go_sem] theorem ren_fn (f : Nat) (a c : List AV) : ren ks (.fn f a c) = .fn f (a.map (ren0 ks)) (c.map (ren0 ks)) := rfl
@[go_sem] theorem ren2_fn (f : Nat) (a c : List AV) : ren2 ks (.fn f a c) = .fn f (a.map (ren0 ks)) (c.map (ren0 ks)) := rfl
@[go_sem] theorem ren1_fn (f : Nat) (a c : List AV) : ren1 ks (.fn f a c) = .fn f (a.map (ren0 ks)) (c.map (ren0 ks)) := rfl
@[go_sem] theorem ren_agg (cs : List AV) : ren ks (.agg cs) = .agg (cs.map (ren1 ks)) := rfl
@[go_sem] theorem ren2_agg (cs : List AV) : ren2 ks (.agg cs) = .agg (cs.map (ren1 ks)) := rfl
@[go_sem] theorem ren_tup (cs : List AV) : ren ks (.tup cs) = .tup (cs.map (ren2 ks)) := rfl
@[go_sem] theorem renB_cells (T : TypeId) (l : List AV) : renB ks (.cells T l) = .cells T (l.map (ren1 ks)) := rfl
@[go_sem] theorem renB_siter (s : List UInt8) (p : Nat) : renB ks (.siter s p) = .siter s p := rfl
@[go_sem] theorem ren0_int (k : IntKind) (n : Int) : ren0 ks (.int k n) = (.int k n) := rfl
@[go_sem] theorem ren1_int (k : IntKind) (n : Int) : ren1 ks (.int k n) = (.int k n) := rfl
@[go_sem] theorem ren2_int (k : IntKind) (n : Int) : ren2 ks (.int k n) = (.int k n) := rfl
@[go_sem] theorem ren_int (k : IntKind) (n : Int) : ren ks (.int k n) = (.int k n) := rfl
@[go_sem] theorem ren0_bool (b : Bool) : ren0 ks (.bool b) = (.bool b) := rfl
@[go_sem] theorem ren1_bool (b : Bool) : ren1 ks (.bool b) = (.bool b) := rfl
@[go_sem] theorem ren2_bool (b : Bool) : ren2 ks (.bool b) = (.bool b) := rfl
@[go_sem] theorem ren_bool (b : Bool) : ren ks (.bool b) = (.bool b) := rfl
@[go_sem] theorem ren0_str (b : List UInt8) : ren0 ks (.str b) = (.str b) := rfl
@[go_sem] theorem ren1_str (b : List UInt8) : ren1 ks (.str b) = (.str b) := rfl
@[go_sem] theorem ren2_str (b : List UInt8) : ren2 ks (.str b) = (.str b) := rfl
@[go_sem] theorem ren_str (b : List UInt8) : ren ks (.str b) = (.str b) := rfl
@[go_sem] theorem ren0_nilp  : ren0 ks .nilp = .nilp := rfl
@[go_sem] theorem ren1_nilp  : ren1 ks .nilp = .nilp := rfl
@[go_sem] theorem ren2_nilp  : ren2 ks .nilp = .nilp := rfl
@[go_sem] theorem ren_nilp  : ren ks .nilp = .nilp := rfl
@[go_sem] theorem ren0_ref (l : List AV) : ren0 ks (.ref l) = (.ref l) := rfl
@[go_sem] theorem ren1_ref (l : List AV) : ren1 ks (.ref l) = (.ref l) := rfl
@[go_sem] theorem ren2_ref (l : List AV) : ren2 ks (.ref l) = (.ref l) := rfl
@[go_sem] theorem ren_ref (l : List AV) : ren ks (.ref l) = (.ref l) := rfl
@[go_sem] theorem ren0_sl (o : Ow) (sz : SlT) (l : List AV) : ren0 ks (.sl o sz l) = (.sl o sz l) := rfl
@[go_sem] theorem ren1_sl (o : Ow) (sz : SlT) (l : List AV) : ren1 ks (.sl o sz l) = (.sl o sz l) := rfl
@[go_sem] theorem ren2_sl (o : Ow) (sz : SlT) (l : List AV) : ren2 ks (.sl o sz l) = (.sl o sz l) := rfl
@[go_sem] theorem ren_sl (o : Ow) (sz : SlT) (l : List AV) : ren ks (.sl o sz l) = (.sl o sz l) := rfl
@[go_sem] theorem ren0_nilf  : ren0 ks .nilf = .nilf := rfl
@[go_sem] theorem ren1_nilf  : ren1 ks .nilf = .nilf := rfl
@[go_sem] theorem ren2_nilf  : ren2 ks .nilf = .nilf := rfl
@[go_sem] theorem ren_nilf  : ren ks .nilf = .nilf := rfl
@[go_sem] theorem ren0_iface (t : TypeId) (v : AV) : ren0 ks (.iface t v) = (.iface t v) := rfl
@[go_sem] theorem ren1_iface (t : TypeId) (v : AV) : ren1 ks (.iface t v) = (.iface t v) := rfl
@[go_sem] theorem ren2_iface (t : TypeId) (v : AV) : ren2 ks (.iface t v) = (.iface t v) := rfl
@[go_sem] theorem ren_iface (t : TypeId) (v : AV) : ren ks (.iface t v) = (.iface t v) := rfl
@[go_sem] theorem ren0_nili  : ren0 ks .nili = .nili := rfl
@[go_sem] theorem ren1_nili  : ren1 ks .nili = .nili := rfl
@[go_sem] theorem ren2_nili  : ren2 ks .nili = .nili := rfl
@[go_sem] theorem ren_nili  : ren ks .nili = .nili := rfl
@[go_sem] theorem ren0_undef  : ren0 ks .undef = .undef := rfl
@[go_sem] theorem ren1_undef  : ren1 ks .undef = .undef := rfl
@[go_sem] theorem ren2_undef  : ren2 ks .undef = .undef := rfl
@[go_sem] theorem ren_undef  : ren ks .undef = .undef := rfl
end
@[go_sem] theorem mergeB_nil (ids' : List Nat) (out σ : List Blk) : mergeB ids' [] out σ = σ ++ out.map (renB ids') := by cases out <;> rfl
@[go_sem] theorem mergeB_cons (ids' : List Nat) (k : Nat) (ids : List Nat) (b : Blk) (out σ : List Blk) : mergeB ids' (k :: ids) (b :: out) σ = mergeB ids' ids out (σ.set k (renB ids' b)) := rfl
attribute [go_sem] List.set_cons_zero List.set_cons_succ List.set_nil List.append_nil List.nil_append List.cons_append List.any_nil List.any_cons List.all_nil List.all_cons

/-! ### Calls that are handed blocks -/
/-- A call: the blocks that are handed ('ids'), and the numbers of all that come back ('ids''). -/
theorem callW_at {C : CallRel} {f : Nat} {args args' : List AV} {s : St} {dst : Option Nat} {K : St → Prop} {r : AV} {σi σo : List Blk} (ids ids' : List Nat) (h : C f args' σi r σo) (hn : ids.Nodup) (hi : σi.length = ids.length) (hg : ids.map (s.st[·]?) = σi.map fun b => some (renB ids b))
    (ha : args.map canon = args'.map (ren ids)) (ho : Nat.ble ids.length σo.length = true) (hb : backIds s.st ids σo.length = ids')
    (hk : K ({ s with st := mergeB ids' ids σo s.st, al := invB ids s.al }.put dst (ren ids' r) none)) : callW C f args s dst K := by
  refine ⟨ids, args', σi, r, σo, hn, ha, ⟨hi, fun i k hk' => ?_⟩, h, Nat.le_of_ble_eq_true ho, by rw [hb]; exact hk⟩
  have hlt : i < σi.length := by rw [hi]; exact (List.getElem?_eq_some_iff.1 hk').1
  refine ⟨σi[i], by simp [hlt], ?_⟩
  have := congrArg (·[i]?) hg
  simp only [List.getElem?_map, hk', Option.map_some] at this
  rw [List.getElem?_eq_getElem hlt] at this
  simpa using this
/-- A call that returns new blocks only. -/
theorem callW_new {C : CallRel} {f : Nat} {args args' : List AV} {s : St} {dst : Option Nat} {K : St → Prop} {r : AV} {σo : List Blk} (ids' : List Nat) (h : C f args' [] r σo) (ha : args.map canon = args'.map (ren [])) (hb : List.range' s.st.length σo.length = ids')
    (hk : K ({ s with st := s.st ++ σo.map (renB ids'), al := invB [] s.al }.put dst (ren ids' r) none)) : callW C f args s dst K :=
  callW_at [] ids' h List.nodup_nil rfl rfl ha rfl (by simpa [backIds] using hb) (by rw [mergeB_nil]; exact hk)

/-! ### Function values, interfaces, ranges, words -/
section
variable (m : Nat) (C : CallRel) (P : Program) (env : Env) (ops : Array Oper) (K : St → Prop) (s : St) (d : Option Nat) (T : TypeId) (p : String) (af : Array Edge) (g : Option (Nat × Bool))
@[go_sem] theorem capB_ptr (b off : Nat) : capB (.ptr b off) = true := rfl
@[go_sem] theorem capB_int (k : IntKind) (n : Int) : capB (.int k n) = true := rfl
@[go_sem] theorem capB_bool (b : Bool) : capB (.bool b) = true := rfl
@[go_sem] theorem capB_str (b : List UInt8) : capB (.str b) = true := rfl
@[go_sem] theorem capB_nilp  : capB .nilp = true := rfl
@[go_sem] theorem capB_ref (l : List AV) : capB (.ref l) = true := rfl
@[go_sem] theorem capB_sl (o : Ow) (sz : SlT) (l : List AV) : capB (.sl o sz l) = true := rfl
@[go_sem] theorem capB_nilf  : capB .nilf = true := rfl
@[go_sem] theorem capB_iface (t : TypeId) (v : AV) : capB (.iface t v) = true := rfl
@[go_sem] theorem capB_nili  : capB .nili = true := rfl
@[go_sem] theorem opW_makeFunc (f : Nat) (xs ys : List Operand) : opW C P ⟨d, .makeFunc (.func f) xs.toArray ys.toArray, T, p, af, g⟩ s K = OptK (if (xs.map (ev P s.env 0)).all capB = true ∧ (ys.map (ev P s.env 0)).all capB = true then some (.fn f (xs.map (ev P s.env 0)) (ys.map (ev P s.env 0))) else none) (PutK s d none K) := by
  simp only [opW, opVal, OptK, PutK, opSrc]; rfl
def IfO (T : TypeId) (u : Option TypeDesc) (v : AV) : Option AV := match u with
  | some (.interface _) => none
  | some _ => match v with
    | .int k n => some (.iface T (.int k n))
    | .bool b => some (.iface T (.bool b))
    | .str s => some (.iface T (.str s))
    | _ => none
  | none => none
@[go_sem] theorem opW_makeInterface (T' : TypeId) (x : Operand) : opW C P ⟨d, .makeInterface T' x, T, p, af, g⟩ s K = OptK (IfO T' (P.underlying T') (ev P s.env T' x)) (PutK s d none K) := by
  simp only [opW, opVal, OptK, PutK, opSrc, IfO]; rfl
def RangeO (u : Option TypeDesc) (v : AV) (s : St) (d : Option Nat) (K : St → Prop) : Prop := match u, v with
  | some .string, .str t => K ({ s with st := s.st ++ [Blk.siter t 0] }.put d (.iter s.st.length) none)
  | _, _ => False
@[go_sem] theorem rangeO_str (t : List UInt8) (e : Env) (al : Nat → Option Src) (st : List Blk) : RangeO (some .string) (.str t) ⟨e, al, st⟩ d K = K (St.put ⟨e, al, st ++ [Blk.siter t 0]⟩ d (.iter st.length) none) := rfl
@[go_sem] theorem opW_range (T' : TypeId) (x : Operand) : opW C P ⟨d, .range T' x, T, p, af, g⟩ s K = RangeO (P.underlying T') (ev P s.env T' x) s d K := by
  simp only [opW, RangeO]; rfl
def NextB (b : Nat) (c : Option Blk) (s : St) (d : Option Nat) (K : St → Prop) : Prop := match c with
  | some (.siter t pos) => (pos < t.length → K ({ s with st := s.st.set b (.siter t (pos + (Utf8.decode ⟨t.toArray⟩ pos).2)) }.put d (.tup [.bool true, .int .i64 pos, .int .i32 (Utf8.decode ⟨t.toArray⟩ pos).1]) none)) ∧ (t.length ≤ pos → K (s.put d (.tup [.bool false]) none))
  | _ => False
def NextO (v : AV) (s : St) (d : Option Nat) (K : St → Prop) : Prop := match v with
  | .iter b => NextB b s.st[b]? s d K
  | _ => False
@[go_sem] theorem nextO_iter (b : Nat) (e : Env) (al : Nat → Option Src) (st : List Blk) : NextO (.iter b) ⟨e, al, st⟩ d K = NextB b st[b]? ⟨e, al, st⟩ d K := rfl
@[go_sem] theorem nextB_siter (b : Nat) (t : List UInt8) (pos : Nat) (e : Env) (al : Nat → Option Src) (st : List Blk) : NextB b (some (.siter t pos)) ⟨e, al, st⟩ d K = ((pos < t.length → K (St.put ⟨e, al, st.set b (.siter t (pos + (Utf8.decode ⟨t.toArray⟩ pos).2))⟩ d (.tup [.bool true, .int .i64 pos, .int .i32 (Utf8.decode ⟨t.toArray⟩ pos).1]) none)) ∧ (t.length ≤ pos → K (St.put ⟨e, al, st⟩ d (.tup [.bool false]) none))) := rfl
@[go_sem] theorem opW_next (x : Operand) : opW C P ⟨d, .next x true, T, p, af, g⟩ s K = NextO (ev P s.env 0 x) s d K := by
  simp only [opW, NextO]
  cases ev P s.env 0 x with
  | iter b =>
    simp only [NextB]
    cases s.st[b]? with
    | none => rfl
    | some c =>
      cases c with
      | cells l => rfl
      | siter t pos =>
        simp only
        by_cases h : pos < t.length
        · simp [h, Nat.not_le_of_lt h]
        · simp [h, Nat.le_of_not_lt h]
  | _ => rfl
end
section
variable (P : Program) (T : TypeId) (c : Bool) (op : BinOp) (kd : Nat) (k k' : IntKind) (a b : Int)
@[go_sem] theorem binX_int : binX P op T c (.int k a) (.int k' b) = binA (kindT P T) op (.int k a) (.int k' b) := rfl
@[go_sem] theorem binX_str (s t : List UInt8) : binX P op T c (.str s) (.str t) = binA (kindT P T) op (.str s) (.str t) := rfl
@[go_sem] theorem binX_bool (x y : Bool) : binX P op T c (.bool x) (.bool y) = binA (kindT P T) op (.bool x) (.bool y) := rfl
@[go_sem] theorem binX_iface (t : TypeId) (v : AV) : binX P op T c (.iface t v) .nili = binA (kindT P T) op (.iface t v) .nili := rfl
@[go_sem] theorem binX_fn (f : Nat) (x y : List AV) : binX P op T c (.fn f x y) .nilf = binA (kindT P T) op (.fn f x y) .nilf := rfl
@[go_sem] theorem binX_nilf : binX P op T c .nilf .nilf = binA (kindT P T) op .nilf .nilf := rfl
@[go_sem] theorem binX_ptr (x y : Nat) : binX P op T c (.ptr x y) .nilp = binA (kindT P T) op (.ptr x y) .nilp := rfl
@[go_sem] theorem binX_nilp : binX P op T c .nilp .nilp = binA (kindT P T) op .nilp .nilp := rfl
@[go_sem] theorem binX_nili : binX P op T c .nili .nili = if c = true ∧ kindT P T = 2 then eqRes op true else none := rfl
@[go_sem] theorem binX_pp (x y x' y' : Nat) : binX P op T c (.ptr x y) (.ptr x' y') = if x = x' ∧ y = y' ∧ ptrOk P T = true then eqRes op true else none := rfl
def PtO (P : Program) (u : Option TypeDesc) : Bool := match u with
  | some (.pointer e) => (tsz P e).isSome
  | _ => false
@[go_sem] theorem ptrOk_eq : ptrOk P T = PtO P (P.underlying T) := rfl
@[go_sem] theorem ptO_ptr (e : TypeId) : PtO P (some (.pointer e)) = (tsz P e).isSome := rfl
section
variable (σ : List Blk) (src dst : TypeId)
@[go_sem] theorem convX_int (n : Int) : convX P σ src dst (.int k n) = convA P src dst (.int k n) := rfl
@[go_sem] theorem convX_str (s : List UInt8) : convX P σ src dst (.str s) = convA P src dst (.str s) := rfl
@[go_sem] theorem convX_sl (o : Ow) (sz : SlT) (l : List AV) : convX P σ src dst (.sl o sz l) = convA P src dst (.sl o sz l) := rfl
@[go_sem] theorem convX_ptr (b off : Nat) : convX P σ src dst (.ptr b off) = convP P (P.underlying src) (P.underlying dst) σ[b]? b off := rfl
def CvP (z : Option Nat) (q : Prop) [Decidable q] (v : AV) : Option AV := match z with
  | some (_ + 1) => if q then some v else none
  | _ => none
@[go_sem] theorem cvP_some (n : Nat) (q : Prop) [Decidable q] (v : AV) : CvP (some n) q v = if n ≠ 0 ∧ q then some v else none := by
  cases n with
  | zero => simp [CvP]
  | succ n => simp [CvP]
@[go_sem] theorem convP_un (t T0 : TypeId) (l : List AV) (b off : Nat) : convP P (some (.pointer t)) (some .unsafePointer) (some (.cells T0 l)) b off = CvP (tsz P t) (off < l.length) (.ptr b off) := by
  simp only [convP, CvP]; cases tsz P t with
  | none => rfl
  | some n => cases n <;> rfl
@[go_sem] theorem convP_re (t T0 : TypeId) (l : List AV) (b off : Nat) : convP P (some .unsafePointer) (some (.pointer t)) (some (.cells T0 l)) b off = CvP (tsz P t) (liesAt P P.depth T0 (l.length / P.cellsOf T0) off t 1 = true) (.ptr b off) := by
  simp only [convP, CvP]; cases tsz P t with
  | none => rfl
  | some n => cases n <;> rfl
end
def AggO (op : BinOp) (r : Option Bool) : Option AV := match r with
  | some r => eqRes op r
  | none => none
@[go_sem] theorem aggO_some (r : Bool) : AggO op (some r) = eqRes op r := rfl
@[go_sem] theorem binX_agg (x y : List AV) : binX P op T c (.agg x) (.agg y) = AggO op (eqAgg P T x y) := by simp only [binX, AggO]; rfl
@[go_sem] theorem eqRes_eql (r : Bool) : eqRes .eql r = some (.bool r) := rfl
@[go_sem] theorem eqRes_neq (r : Bool) : eqRes .neq r = some (.bool (!r)) := rfl
@[go_sem] theorem isC_tmp (t : Nat) : isC (.tmp t) = false := rfl
@[go_sem] theorem isC_const (v : Value) : isC (.const v) = true := rfl
@[go_sem] theorem isC_func (f : Nat) : isC (.func f) = false := rfl
attribute [go_sem] Bool.or_true Bool.or_false Bool.true_or Bool.false_or
@[go_sem] theorem bini_eql (t : TypeId) (v : AV) : binA 2 .eql (.iface t v) .nili = some (.bool false) := rfl
@[go_sem] theorem bini_neq (t : TypeId) (v : AV) : binA 2 .neq (.iface t v) .nili = some (.bool true) := rfl
@[go_sem] theorem binf_eql (f : Nat) (x y : List AV) : binA 3 .eql (.fn f x y) .nilf = some (.bool false) := rfl
@[go_sem] theorem binf_neq (f : Nat) (x y : List AV) : binA 3 .neq (.fn f x y) .nilf = some (.bool true) := rfl
@[go_sem] theorem binp_eql (x y : Nat) : binA 4 .eql (.ptr x y) .nilp = some (.bool false) := rfl
@[go_sem] theorem binp_neq (x y : Nat) : binA 4 .neq (.ptr x y) .nilp = some (.bool true) := rfl
@[go_sem] theorem binn_eql : binA 4 .eql .nilp .nilp = some (.bool true) := rfl
@[go_sem] theorem binn_neq : binA 4 .neq .nilp .nilp = some (.bool false) := rfl
variable (f : AV → Prop)
@[go_sem] theorem bin_quo : OptK (binA kd .quo (.int k a) (.int k b)) f = (b ≠ 0 ∧ f (.int k (k.wrap (a.tdiv b)))) := by
  simp only [binA, binI]
  by_cases h : b = 0 <;> simp [h, OptK]
@[go_sem] theorem bin_rem : OptK (binA kd .rem (.int k a) (.int k b)) f = (b ≠ 0 ∧ f (.int k (a.tmod b))) := by
  simp only [binA, binI]
  by_cases h : b = 0 <;> simp [h, OptK]
@[go_sem] theorem bin_shl : OptK (binA kd .shl (.int k a) (.int k' b)) f = (0 ≤ b ∧ f (.int k (k.wrap (a * 2 ^ (min b.toNat k.bits))))) := by
  simp only [binA]
  by_cases h : b < 0
  · simp [h, OptK, Int.not_le.2 h]
  · simp [h, OptK, Int.not_lt.1 h]
@[go_sem] theorem bin_shr : OptK (binA kd .shr (.int k a) (.int k' b)) f = (0 ≤ b ∧ f (.int k (a.fdiv (2 ^ (min b.toNat k.bits))))) := by
  simp only [binA]
  by_cases h : b < 0
  · simp [h, OptK, Int.not_le.2 h]
  · simp [h, OptK, Int.not_lt.1 h]
@[go_sem] theorem bin_and : binA kd .and (.int k a) (.int k b) = some (.int k (k.wrap (BitVec.ofInt k.bits a &&& BitVec.ofInt k.bits b).toNat)) := by simp [binA, binI]
@[go_sem] theorem bin_or : binA kd .or (.int k a) (.int k b) = some (.int k (k.wrap (BitVec.ofInt k.bits a ||| BitVec.ofInt k.bits b).toNat)) := by simp [binA, binI]
end

/-! ### The greater and the smaller -/
def MaxO (mx : Bool) (x y : AV) : Option AV := match x, y with
  | .int k a, .int k' b => if k = k' then some (.int k (if mx then (if b > a then b else a) else (if b < a then b else a))) else none
  | _, _ => none
@[go_sem] theorem maxO_t (k : IntKind) (a b : Int) : MaxO true (.int k a) (.int k b) = some (.int k (if b > a then b else a)) := by simp [MaxO]
@[go_sem] theorem maxO_f (k : IntKind) (a b : Int) : MaxO false (.int k a) (.int k b) = some (.int k (if b < a then b else a)) := by simp [MaxO]
section
variable (C : CallRel) (P : Program) (K : St → Prop) (s : St) (d : Option Nat) (T : TypeId) (p : String) (af : Array Edge) (g : Option (Nat × Bool))
@[go_sem] theorem opW_max (x y : Operand) (ts : List TypeId) : opW C P ⟨d, .call ⟨.builtin .max, #[x, y], ts.toArray⟩, T, p, af, g⟩ s K = OptK (MaxO true (ev P s.env 0 x) (ev P s.env 0 y)) (PutK s d none K) := by
  simp only [opW, opVal, bltA, MaxO, OptK, PutK]
  cases ev P s.env 0 x <;> cases ev P s.env 0 y <;> rfl
@[go_sem] theorem opW_min (x y : Operand) (ts : List TypeId) : opW C P ⟨d, .call ⟨.builtin .min, #[x, y], ts.toArray⟩, T, p, af, g⟩ s K = OptK (MaxO false (ev P s.env 0 x) (ev P s.env 0 y)) (PutK s d none K) := by
  simp only [opW, opVal, bltA, MaxO, OptK, PutK]
  cases ev P s.env 0 x <;> cases ev P s.env 0 y <;> rfl
end

/-! ### Leaves -/
@[go_sem] theorem leafB_int (k : IntKind) (n : Int) : leafB (.int k n) = true := rfl
@[go_sem] theorem leafB_bool (b : Bool) : leafB (.bool b) = true := rfl
@[go_sem] theorem leafB_str (b : List UInt8) : leafB (.str b) = true := rfl
@[go_sem] theorem leafB_sl (o : Ow) (sz : SlT) (l : List AV) : leafB (.sl o sz l) = true := rfl
@[go_sem] theorem leafB_nilp : leafB .nilp = true := rfl
@[go_sem] theorem leafB_ref (l : List AV) : leafB (.ref l) = true := rfl
attribute [go_sem] Bool.and_true Bool.true_and Bool.and_self true_or or_true

/-! ### Where a loaded value came from -/
def SrcL (c : Option Bool) (v : AV) : Option Src := match c, v with
  | some false, .ptr b off => some (.cell b off)
  | _, _ => none
@[go_sem] theorem srcL_ptr (b off : Nat) : SrcL (some false) (.ptr b off) = some (.cell b off) := rfl
@[go_sem] theorem srcL_agg (v : AV) : SrcL (some true) v = none := by cases v <;> rfl
@[go_sem] theorem srcL_ref (l : List AV) : SrcL (some false) (.ref l) = none := rfl
@[go_sem] theorem opSrc_load (P : Program) (env : Env) (d : Option Nat) (T' T : TypeId) (a : Operand) (p : String) (af : Array Edge) (g : Option (Nat × Bool)) : opSrc P env ⟨d, .load T' a, T, p, af, g⟩ = SrcL (aggB P T') (ev P env 0 a) := by
  simp only [opSrc, SrcL]
  cases aggB P T' with
  | none => rfl
  | some b => cases b <;> cases ev P env 0 a <;> rfl

/-! ### Results that lie in a block -/
def CellR (P : Program) (σ : List Blk) (T : TypeId) (v : AV) : Option AV := match v with
  | .ptr b off => CellO P T off σ[b]?
  | _ => none
@[go_sem] theorem cellR_ptr (P : Program) (σ : List Blk) (T : TypeId) (b off : Nat) : CellR P σ T (.ptr b off) = CellO P T off σ[b]? := rfl
theorem resOne_cell (P : Program) (env : Env) (σ : List Blk) (a : Nat) (T : TypeId) : resOne P env σ (.cell a T) = CellR P σ T (env a) := by
  simp only [resOne, CellR]
  cases env a <;> first | exact loadV_ptr P T σ _ _ | rfl
def BindK (o : Option AV) (r : Option (List AV)) : Option (List AV) := match o with
  | some v => ResK v r
  | none => none
@[go_sem] theorem bindK_some (v : AV) (r : Option (List AV)) : BindK (some v) r = ResK v r := rfl
@[go_sem] theorem resAll_cell (P : Program) (env : Env) (σ : List Blk) (a : Nat) (T : TypeId) (l : List ResultVar) : resAll P env σ (.cell a T :: l) = BindK (CellR P σ T (env a)) (resAll P env σ l) := by
  rw [← resOne_cell]
  simp only [resAll, BindK, ResK]
  cases resOne P env σ (.cell a T) <;> cases resAll P env σ l <;> rfl
@[go_sem] theorem resL_cell (P : Program) (env : Env) (σ : List Blk) (a : Nat) (T : TypeId) : resL P [.cell a T] env σ = CellR P σ T (env a) := resOne_cell P env σ a T

/-! ### Orders -/
def lin (l : List Nat) (t : OT) : OT := l.foldr OT.one t
@[go_sem] theorem lin_nil (t : OT) : lin [] t = t := rfl
@[go_sem] theorem lin_cons (i : Nat) (l : List Nat) (t : OT) : lin (i :: l) t = .one i (lin l t) := rfl
def UK (C : CallRel) (P : Program) (ops : Array Oper) (t : OT) (K : St → Prop) : St → Prop := fun s => WU C P ops t s K
section
variable (C : CallRel) (P : Program) (ops : Array Oper) (K : St → Prop) (s : St)
@[go_sem] theorem UK_eq (t : OT) : UK C P ops t K s = WU C P ops t s K := rfl
@[go_sem] theorem WU_nil : WU C P ops .nil s K = K s := rfl
@[go_sem] theorem WU_both (a b : OT) : WU C P ops (.both a b) s K = (WU C P ops a s K ∧ WU C P ops b s K) := rfl
@[go_sem] theorem WU_top : WU C P ops .top s K = True := rfl
@[go_sem] theorem WU_one (l : List Oper) (i : Nat) (t : OT) : WU C P l.toArray (.one i t) s K = StepO C P l.toArray (l[i]?) s (UK C P l.toArray t K) := by
  simp only [WU, StepO, List.getElem?_toArray]; rfl
end
theorem WU_ord {C : CallRel} {P : Program} {ops : Array Oper} {n : Nat} {l : List Nat} {t : OT} {s : St} {K : St → Prop} {Z : Prop} (h : ordersA ops n l = t) (k : WU C P ops t s K) : Z ∨ WU C P ops (ordersA ops n l) s K := by rw [h]; exact .inr k
theorem WT_ord0 {C : CallRel} {P : Program} {ops : Array Oper} {n : Nat} {l : List Nat} {t : OT} {s : St} {K : St → Prop} (h : orders ops n l = t) (k : WT C P ops t s K) : WT C P ops (orders ops n l) s K := by rw [h]; exact k
theorem WT_ord {C : CallRel} {P : Program} {ops : Array Oper} {n : Nat} {l : List Nat} {t : OT} {s : St} {K : St → Prop} {Z : Prop} (h : orders ops n l = t) (k : WT C P ops t s K) : WT C P ops (orders ops n l) s K ∨ Z := by rw [h]; exact .inl k

/-! ### Loops that leave blocks behind -/
theorem envL_mem : ∀ (l : List (Nat × AV)) (t : Nat), envL l t = .undef ∨ ∃ p ∈ l, envL l t = p.2
  | [], t => .inl rfl
  | (k, v) :: l, t => by
    simp only [envL, upd]
    split
    · exact .inr ⟨(k, v), by simp, rfl⟩
    · rcases envL_mem l t with h | ⟨p, hp, h⟩
      · exact .inl h
      · exact .inr ⟨p, by simp [hp], h⟩
theorem envEq_wk2 {m : Nat} {env : Env} {l : List (Nat × AV)} {σ σ' : List Blk} (hm : m ≤ σ'.length) (ht : σ.take σ'.length = σ') (hs : ∀ b ∈ σ', renB (List.range σ'.length) b = b) (hv : ∀ p ∈ l, ren (List.range σ'.length) p.2 = p.2) (h : EnvEq env l) : Wk m env σ (envL l) σ' := by
  refine .inr ⟨List.range σ'.length, List.nodup_range, fun i hi => List.getElem?_range (by omega), ⟨by simp, fun i k hk => ?_⟩, fun t => ?_⟩
  · have hi := (List.getElem?_eq_some_iff.1 hk).1
    rw [List.length_range] at hi
    rw [List.getElem?_range hi] at hk
    cases hk
    refine ⟨σ'[i], by simp [hi], ?_⟩
    rw [hs _ (List.getElem_mem hi)]
    have : (σ.take σ'.length)[i]? = some σ'[i] := by rw [ht]; simp [hi]
    rw [List.getElem?_take_of_lt hi] at this
    exact this
  · rcases envL_mem l t with h1 | ⟨p, hp, h1⟩
    · exact .inl h1
    · rcases envL_get h t with h2 | h2
      · exact .inl h2
      · refine .inr (.inl ?_)
        rw [h1, hv p hp, h2, h1]
def RoundG {A : Type} (env' : A → List (Nat × AV)) (σ' : A → List Blk) (I : A → Prop) (μ : A → Nat) (a : A) (Q : Cont) : Cont := fun e env σ => match e with
  | .normal => ∃ a', (I a' ∧ μ a' < μ a) ∧ σ.take (σ' a').length = σ' a' ∧ EnvEq env (env' a')
  | e => Q e env σ
section
variable {A : Type} (env' : A → List (Nat × AV)) (σ' : A → List Blk) (I : A → Prop) (μ : A → Nat) (a : A) (Q : Cont) (env : Env) (σ : List Blk)
@[go_sem] theorem roundG_normal : RoundG env' σ' I μ a Q .normal env σ = ∃ a', (I a' ∧ μ a' < μ a) ∧ σ.take (σ' a').length = σ' a' ∧ EnvEq env (env' a') := rfl
@[go_sem] theorem roundG_ret : RoundG env' σ' I μ a Q .ret env σ = Q .ret env σ := rfl
@[go_sem] theorem roundG_exit (id : Nat) : RoundG env' σ' I μ a Q (.exit id) env σ = Q (.exit id) env σ := rfl
end
/-- A loop whose rounds may leave blocks behind. -/
theorem wp_loop_garb {m : Nat} {C : CallRel} {P : Program} {Q : Cont} {env : Env} {σ : List Blk} {A : Type} {c : Code} (env' : A → List (Nat × AV)) (σ' : A → List Blk) (I : A → Prop) (μ : A → Nat) (a : A) (h0 : I a) (h1 : σ.take (σ' a).length = σ' a) (h2 : EnvEq env (env' a))
    (hc : ∀ a, I a → m ≤ (σ' a).length ∧ (∀ b ∈ σ' a, renB (List.range (σ' a).length) b = b) ∧ ∀ p ∈ env' a, ren (List.range (σ' a).length) p.2 = p.2)
    (round : ∀ a, I a → wp m C P c (RoundG env' σ' I μ a Q) (envL (env' a)) (σ' a)) : wp m C P (.loop c) Q env σ := by
  refine wp_loop_inv (fun a => envL (env' a)) σ' I μ (fun a ha => wp_mono (fun _ _ _ _ _ h => h) c (fun e env σ h => ?_) (round a ha)) a h0 (envEq_wk2 (hc a h0).1 h1 (hc a h0).2.1 (hc a h0).2.2 h2)
  cases e with
  | normal =>
    obtain ⟨a', g1, g2, g3⟩ := h
    exact ⟨a', g1.1, g1.2, envEq_wk2 (hc a' g1.1).1 g2 (hc a' g1.1).2.1 (hc a' g1.1).2.2 g3⟩
  | exit id => exact h
  | ret => exact h
end Go.Pv
/- Functions that are carried out in place: their laws. -/
namespace Go.Pv
open Go

theorem rel_ret {P : Program} {w0 : World} {S0 : Frz} {T0 : Nat → Prop} {φ : List Nat} {S : Frz} {σ : List Blk} {w : World} {r : AV} {v : Value} (hR : Rel 0 w0 S0 T0 φ S (fun _ => .undef) σ #[] w) (hr : VR φ S r v) (hno : ∀ sz l, r ≠ .sl .yes sz l) : Rel 1 w0 S0 T0 φ S (retEnv r) σ #[v] w := by
  have hno' : ∀ t sz l, retEnv r t ≠ .sl .yes sz l := fun t sz l e => by
    unfold retEnv at e
    split at e
    · exact hno sz l e
    · cases e
  refine ⟨hR.sok, hR.evo, rfl, fun t => ?_, hR.nodup, hR.len, hR.blk, hR.free, hR.inT, fun hd sz l e => ?_, fun hd sz l g e hg => ?_, fun hd hd2 sz l sz2 l2 g hne e e2 hg => ?_⟩
  · unfold retEnv
    split
    · rename_i h0; subst h0; exact hr
    · exact VR.undef
  · cases hd with
    | tmp t => exact absurd e (hno' t sz l)
    | cell i off => exact hR.own (.cell i off) sz l e
  · cases hd with
    | tmp t => exact absurd e (hno' t sz l)
    | cell i off => exact hR.ownT (.cell i off) sz l g e hg
  · cases hd with
    | tmp t => exact absurd e (hno' t sz l)
    | cell i off =>
      cases hd2 with
      | tmp t => exact absurd e2 (hno' t sz2 l2)
      | cell i2 off2 => exact hR.apart (.cell i off) (.cell i2 off2) sz l sz2 l2 g hne e e2 hg
/-- A function that is carried out in place, and leaves the world as it is. -/
theorem sound_place {P : Program} {G : Frz} {f : Nat} {args : List AV} {r : AV} {σ : List Blk} (h : ∀ φ S w vargs, Sok S w → RL (VR φ S) args vargs → (∀ (i : Nat) (b : Blk), σ[i]? = some b → ∃ k, φ[i]? = some k ∧ BlkRel φ S w k b) → ∃ v, (callFunc f vargs).run P w = .ok (.value v) w ∧ VR φ S r v) (hno : ∀ sz l, r ≠ .sl .yes sz l) : Sound P G f args σ r σ := fun φ S w vargs hG hR ha => by
  obtain ⟨v, hrun, hv⟩ := h φ S w vargs hR.sok ha fun i b hb => by
    obtain ⟨k, hk⟩ := hR.fi_of hb
    exact ⟨k, hk, hR.blk i k b hb hk⟩
  exact .inr ⟨v, w, hrun, v, φ, S, rfl, fun _ _ h => h, rel_ret (P := P) hR hv hno⟩
theorem sound_inplace {P : Program} {G : Frz} {f : Nat} {args : List AV} {r : AV} {v : Value} {vargs0 : Array Value} (hargs : ∀ φ S vargs, RL (VR φ S) args vargs → vargs = vargs0) (hrun : ∀ w, (callFunc f vargs0).run P w = .ok (.value v) w)
    (hr : ∀ φ S, VR φ S r v) (hno : ∀ sz l, r ≠ .sl .yes sz l) (σ : List Blk) : Sound P G f args σ r σ :=
  sound_place (fun φ S w vargs _ ha _ => ⟨v, by rw [hargs φ S vargs ha]; exact hrun w, hr φ S⟩) hno

theorem sok_longer {S : Frz} {w w' : World} (h : Sok S w) (hl : Longer w w') : Sok S w' := ⟨fun b o v hv => ⟨(cell_same (hl.heap b (h.lt hv)) o).trans (h b o v hv).1, (h b o v hv).2⟩, h.tab_longer (fun _ _ _ h => h) hl⟩
theorem Longer.below {w w' : World} (h : Go.RowKit.Below w.heap.size w w') : Longer w w' := ⟨h.os, h.tape, h.output, h.size, h.block⟩
/-- A function whose calls are told otherwise: it leaves all that was there as it is. -/
theorem sound_calls {P : Program} {G : Frz} {f : Nat} {args : List AV} {r : AV} (hok : callOk P f = true) (hno : ∀ sz l, r ≠ .sl .yes sz l)
    (h : ∀ φ S w vargs, G.le S → Sok S w → RL (VR φ S) args vargs → Calls P f vargs w fun e w' => ∃ v, e = .returned v ∧ VR φ S r v ∧ Longer w w') (σ : List Blk) : Sound P G f args σ r σ := fun φ S w vargs hG hR ha => by
  refine .inl ⟨hok, (h φ S w vargs hG hR.sok ha).mono fun e w' ⟨v, he, hv, hl⟩ => ?_⟩
  exact ⟨v, φ, S, he, fun _ _ h => h, rel_ret (P := P) (hR.grow hl (fun _ _ _ h => h) (fun _ _ _ h => .inl h) (sok_longer hR.sok hl)) hv hno⟩
/-- One argument, two, three. -/
theorem rl_one {r : AV → Value → Prop} {a : AV} {vs : Array Value} (h : RL r [a] vs) : ∃ u, vs = #[u] ∧ r a u := by
  obtain ⟨h1, h2⟩ := h
  have hs : vs.size = 1 := h1.symm
  refine ⟨vs[0], Array.ext (by simp [hs]) (fun i hi hj => ?_), h2 0 a _ rfl (by simp [hs])⟩
  have : i = 0 := by omega
  subst this; rfl
theorem rl_two {r : AV → Value → Prop} {a b : AV} {vs : Array Value} (h : RL r [a, b] vs) : ∃ u v, vs = #[u, v] ∧ r a u ∧ r b v := by
  obtain ⟨h1, h2⟩ := h
  have hs : vs.size = 2 := h1.symm
  refine ⟨vs[0], vs[1], Array.ext (by simp [hs]) (fun i hi hj => ?_), h2 0 a _ rfl (by simp [hs]), h2 1 b _ rfl (by simp [hs])⟩
  have : i = 0 ∨ i = 1 := by omega
  rcases this with e | e <;> subst e <;> rfl
theorem rl_three {r : AV → Value → Prop} {a b c : AV} {vs : Array Value} (h : RL r [a, b, c] vs) : ∃ u v x, vs = #[u, v, x] ∧ r a u ∧ r b v ∧ r c x := by
  obtain ⟨h1, h2⟩ := h
  have hs : vs.size = 3 := h1.symm
  refine ⟨vs[0], vs[1], vs[2], Array.ext (by simp [hs]) (fun i hi hj => ?_), h2 0 a _ rfl (by simp [hs]), h2 1 b _ rfl (by simp [hs]), h2 2 c _ rfl (by simp [hs])⟩
  have : i = 0 ∨ i = 1 ∨ i = 2 := by omega
  rcases this with e | e | e <;> subst e <;> rfl
end Go.Pv
/- An owner's row, whose head is frozen: the relation stands. -/
namespace Go.Pv
open Go
section
variable {P : Program} {n : Nat} {w0 : World} {S0 : Frz} {T0 : Nat → Prop} {φ : List Nat} {S : Frz} {env : Env} {σ : List Blk} {tm : Array Value} {w : World}
theorem Rel.refreeze (h : Rel n w0 S0 T0 φ S env σ tm w) {w' : World} {g : Nat} {cur : Array Value} {T : TypeId} {fr fr' : Nat × Nat}
    (hg : w.heap[g]? = some (.cells cur T fr)) (hg' : w'.heap[g]? = some (.cells cur T fr')) (hno : ∀ hd sz l, haA env σ hd = .sl .yes sz l → blkOf (haV φ tm w hd) ≠ some g) (hgφ : g ∉ φ) (hgT : T0 g ∨ w0.heap.size ≤ g)
    (hoth : ∀ k, k ≠ g → w'.heap[k]? = w.heap[k]?) (hsize : w'.heap.size = w.heap.size) (hos : w'.os = w.os) (htape : w'.tape = w.tape) (hout : w'.output = w.output) :
    Rel n w0 S0 T0 φ S env σ tm w' := by
  have hcell : ∀ b o, w'.cell? ⟨b, o, none⟩ = w.cell? ⟨b, o, none⟩ := fun b o => by
    by_cases e : b = g
    · subst e; rw [cell_heap hg', cell_heap hg]
    · exact cell_same (hoth b e) o
  have hV : ∀ hd, haV φ tm w' hd = haV φ tm w hd := fun hd => by
    cases hd with
    | tmp t => rfl
    | cell i off => simp only [haV]; cases φ[i]? <;> simp [hcell]
  have hφ : ∀ (i k : Nat), φ[i]? = some k → k ≠ g := fun i k hk e => hgφ (by rw [← e]; exact List.mem_of_getElem? hk)
  refine ⟨⟨fun b o v hv => ⟨(hcell b o).trans (h.sok b o v hv).1, (h.sok b o v hv).2⟩, h.sok.tab_of (fun _ _ _ h => h) fun g2 _ => ?_⟩, ?_, h.size, h.vals, h.nodup, h.len, fun i k b hb hk => (h.blk i k b hb hk).mono (fun _ _ _ h => h) (fun _ _ h => h) (hoth k (hφ i k hk)), h.free, h.inT, fun hd sz' l' ha => ?_, fun hd sz' l' g' ha hg2 => ?_, fun hd hd' sz1 l1 sz2 l2 g' hne ha ha' hg2 => ?_⟩
  · by_cases e : g2 = g
    · subst e
      refine .inr fun cs T fr0 h1 => ?_
      rw [hg] at h1; cases h1
      exact ⟨_, _, _, hg', rfl⟩
    · exact .inl (hoth g2 e)
  · refine h.evo.trans (T' := fun x => x = g) ⟨hos, htape, hout, Nat.le_of_eq hsize.symm, fun k _ hk => hoth k hk, fun _ _ _ h => h, fun _ _ _ h => .inl h⟩ ?_
    intro k hk; subst hk; exact hgT
  · rw [hV]
    refine (h.own hd sz' l' ha).carry fun g' hg2 => ⟨hoth g' fun e2 => ?_, fun _ h => h⟩
    subst e2
    exact hno hd sz' l' ha hg2
  · rw [hV] at hg2; exact h.ownT hd sz' l' g' ha hg2
  · rw [hV] at hg2; rw [hV]; exact h.apart hd hd' sz1 l1 sz2 l2 g' hne ha ha' hg2
end
end Go.Pv
/- What the tables of the program tell of its types: printed by facts.py. -/
namespace Go.Pv
open Go Go.Proofs
attribute [go_sem] Tryz.underlying1 Tryz.underlying2 Tryz.underlying3 Tryz.underlying4 Tryz.underlying5 Tryz.underlying9 Tryz.underlying20 Tryz.underlying21 Tryz.underlying22 Tryz.underlying25 Tryz.underlying30 Tryz.underlying32 Tryz.underlying42 Tryz.underlying43 Tryz.underlying45 Tryz.underlying47 Tryz.underlying56 Tryz.underlying67 Tryz.underlying71 Tryz.underlying73 Tryz.underlying74 Tryz.underlying76 Tryz.underlying78 Tryz.underlying79 Tryz.underlying81 Tryz.underlying90 Tryz.underlying92 Tryz.underlying100 Tryz.underlying101 Tryz.underlying103 Tryz.underlying105 Tryz.underlying113 Tryz.underlying116 Tryz.underlying117 Tryz.underlying118 Tryz.underlying119 Tryz.underlying120 Tryz.underlying122 Tryz.underlying130 Tryz.underlying132 Tryz.underlying133 Tryz.underlying135 Tryz.underlying145 Tryz.underlying147 Tryz.underlying149 Tryz.underlying151 Tryz.underlying153 Tryz.underlying155 Tryz.underlying157 Tryz.underlying160 Tryz.underlying161 Tryz.underlying164 Tryz.underlying168 Tryz.underlying170 Tryz.underlying172 Tryz.underlying176 Tryz.underlying177 Tryz.underlying179 Tryz.underlying181 Tryz.underlying192 Tryz.underlying193 Tryz.underlying205 Tryz.underlying209 Tryz.underlying217 Tryz.underlying221 Tryz.underlying228 Tryz.underlying233 Tryz.underlying234 Tryz.underlying237 Tryz.underlying241 Tryz.underlying242 Tryz.underlying253 Tryz.underlying255 Tryz.underlying256 Tryz.underlying258 Tryz.underlying271 Tryz.underlying273 Tryz.underlying278 Tryz.underlying285 Tryz.underlying290 Tryz.underlying292 Tryz.underlying300 Tryz.underlying309 Tryz.underlying315 Tryz.underlying316 Tryz.underlying318 Tryz.underlying327 Tryz.underlying328 Tryz.underlying329 Tryz.underlying333 Tryz.underlying336 Tryz.underlying340 Tryz.underlying342 Tryz.underlying344 Tryz.underlying346 Tryz.underlying349 Tryz.underlying352 Tryz.underlying354 Tryz.underlying359 Tryz.underlying361 Tryz.underlying362 Tryz.underlying367 Tryz.underlying370 Tryz.underlying372 Tryz.underlying379 Tryz.underlying380 Tryz.underlying381 Tryz.underlying383 Tryz.underlying387 Tryz.underlying393
@[go_sem] theorem tb_agg1 : aggB Tryz.prog 1 = some false := by kernel_rfl
@[go_sem] theorem tb_tsz1 : tsz Tryz.prog 1 = some 1 := by kernel_rfl
@[go_sem] theorem tb_kd1 : kindT Tryz.prog 1 = 3 := by kernel_rfl
@[go_sem] theorem tb_agg2 : aggB Tryz.prog 2 = some false := by kernel_rfl
@[go_sem] theorem tb_tsz2 : tsz Tryz.prog 2 = some 1 := by kernel_rfl
@[go_sem] theorem tb_kd2 : kindT Tryz.prog 2 = 0 := by kernel_rfl
@[go_sem] theorem tb_agg3 : aggB Tryz.prog 3 = some false := by kernel_rfl
@[go_sem] theorem tb_tsz3 : tsz Tryz.prog 3 = some 1 := by kernel_rfl
@[go_sem] theorem tb_kd3 : kindT Tryz.prog 3 = 0 := by kernel_rfl
@[go_sem] theorem tb_agg4 : aggB Tryz.prog 4 = some false := by kernel_rfl
@[go_sem] theorem tb_tsz4 : tsz Tryz.prog 4 = some 1 := by kernel_rfl
@[go_sem] theorem tb_kd4 : kindT Tryz.prog 4 = 1 := by kernel_rfl
@[go_sem] theorem tb_agg5 : aggB Tryz.prog 5 = some false := by kernel_rfl
@[go_sem] theorem tb_tsz5 : tsz Tryz.prog 5 = some 1 := by kernel_rfl
@[go_sem] theorem tb_kd5 : kindT Tryz.prog 5 = 0 := by kernel_rfl
@[go_sem] theorem tb_agg9 : aggB Tryz.prog 9 = some false := by kernel_rfl
@[go_sem] theorem tb_tsz9 : tsz Tryz.prog 9 = some 1 := by kernel_rfl
@[go_sem] theorem tb_kd9 : kindT Tryz.prog 9 = 0 := by kernel_rfl
@[go_sem] theorem tb_arg9 : appArg Tryz.prog 9 = true := by kernel_rfl
@[go_sem] theorem tb_agg20 : aggB Tryz.prog 20 = some false := by kernel_rfl
@[go_sem] theorem tb_tsz20 : tsz Tryz.prog 20 = some 1 := by kernel_rfl
@[go_sem] theorem tb_kd20 : kindT Tryz.prog 20 = 2 := by kernel_rfl
@[go_sem] theorem tb_agg21 : aggB Tryz.prog 21 = some false := by kernel_rfl
@[go_sem] theorem tb_tsz21 : tsz Tryz.prog 21 = some 1 := by kernel_rfl
@[go_sem] theorem tb_kd21 : kindT Tryz.prog 21 = 0 := by kernel_rfl
@[go_sem] theorem tb_agg22 : aggB Tryz.prog 22 = some false := by kernel_rfl
@[go_sem] theorem tb_tsz22 : tsz Tryz.prog 22 = some 1 := by kernel_rfl
@[go_sem] theorem tb_kd22 : kindT Tryz.prog 22 = 0 := by kernel_rfl
@[go_sem] theorem tb_esz22 : esz Tryz.prog 22 = some ⟨5, 32⟩ := by kernel_rfl
@[go_sem] theorem tb_app22 : appTy Tryz.prog 22 = some ⟨5, 32⟩ := by kernel_rfl
@[go_sem] theorem tb_arg22 : appArg Tryz.prog 22 = true := by kernel_rfl
@[go_sem] theorem tb_agg25 : aggB Tryz.prog 25 = some false := by kernel_rfl
@[go_sem] theorem tb_tsz25 : tsz Tryz.prog 25 = some 1 := by kernel_rfl
@[go_sem] theorem tb_kd25 : kindT Tryz.prog 25 = 0 := by kernel_rfl
@[go_sem] theorem tb_agg30 : aggB Tryz.prog 30 = some false := by kernel_rfl
@[go_sem] theorem tb_tsz30 : tsz Tryz.prog 30 = some 1 := by kernel_rfl
@[go_sem] theorem tb_kd30 : kindT Tryz.prog 30 = 0 := by kernel_rfl
@[go_sem] theorem tb_esz30 : esz Tryz.prog 30 = some ⟨2, 78⟩ := by kernel_rfl
@[go_sem] theorem tb_app30 : appTy Tryz.prog 30 = some ⟨2, 78⟩ := by kernel_rfl
@[go_sem] theorem tb_arg30 : appArg Tryz.prog 30 = true := by kernel_rfl
@[go_sem] theorem tb_agg32 : aggB Tryz.prog 32 = some true := by kernel_rfl
@[go_sem] theorem tb_tsz32 : tsz Tryz.prog 32 = some 5 := by kernel_rfl
@[go_sem] theorem tb_kd32 : kindT Tryz.prog 32 = 0 := by kernel_rfl
@[go_sem] theorem tb_fld32_0 : fld Tryz.prog 32 0 = some (0, 1, false) := by kernel_rfl
@[go_sem] theorem tb_fld32_1 : fld Tryz.prog 32 1 = some (1, 1, false) := by kernel_rfl
@[go_sem] theorem tb_fld32_2 : fld Tryz.prog 32 2 = some (2, 1, false) := by kernel_rfl
@[go_sem] theorem tb_fld32_3 : fld Tryz.prog 32 3 = some (3, 1, false) := by kernel_rfl
@[go_sem] theorem tb_fld32_4 : fld Tryz.prog 32 4 = some (4, 1, false) := by kernel_rfl
@[go_sem] theorem tb_flds32 : flds Tryz.prog 32 = some [(0, 1), (1, 1), (2, 1), (3, 1), (4, 1)] := by kernel_rfl
@[go_sem] theorem tb_fty32 : fldTypes Tryz.prog 32 = [3, 9, 2, 30, 3] := by kernel_rfl
@[go_sem] theorem tb_agg42 : aggB Tryz.prog 42 = some false := by kernel_rfl
@[go_sem] theorem tb_tsz42 : tsz Tryz.prog 42 = some 1 := by kernel_rfl
@[go_sem] theorem tb_kd42 : kindT Tryz.prog 42 = 0 := by kernel_rfl
@[go_sem] theorem tb_agg43 : aggB Tryz.prog 43 = some false := by kernel_rfl
@[go_sem] theorem tb_tsz43 : tsz Tryz.prog 43 = some 1 := by kernel_rfl
@[go_sem] theorem tb_kd43 : kindT Tryz.prog 43 = 0 := by kernel_rfl
@[go_sem] theorem tb_esz43 : esz Tryz.prog 43 = some ⟨1, 5⟩ := by kernel_rfl
@[go_sem] theorem tb_app43 : appTy Tryz.prog 43 = some ⟨1, 5⟩ := by kernel_rfl
@[go_sem] theorem tb_arg43 : appArg Tryz.prog 43 = true := by kernel_rfl
@[go_sem] theorem tb_agg45 : aggB Tryz.prog 45 = some false := by kernel_rfl
@[go_sem] theorem tb_tsz45 : tsz Tryz.prog 45 = some 1 := by kernel_rfl
@[go_sem] theorem tb_kd45 : kindT Tryz.prog 45 = 0 := by kernel_rfl
@[go_sem] theorem tb_esz45 : esz Tryz.prog 45 = some ⟨3, 103⟩ := by kernel_rfl
@[go_sem] theorem tb_app45 : appTy Tryz.prog 45 = some ⟨3, 103⟩ := by kernel_rfl
@[go_sem] theorem tb_arg45 : appArg Tryz.prog 45 = true := by kernel_rfl
@[go_sem] theorem tb_agg47 : aggB Tryz.prog 47 = some true := by kernel_rfl
@[go_sem] theorem tb_tsz47 : tsz Tryz.prog 47 = some 2 := by kernel_rfl
@[go_sem] theorem tb_kd47 : kindT Tryz.prog 47 = 0 := by kernel_rfl
@[go_sem] theorem tb_fld47_0 : fld Tryz.prog 47 0 = some (0, 1, false) := by kernel_rfl
@[go_sem] theorem tb_fld47_1 : fld Tryz.prog 47 1 = some (1, 1, false) := by kernel_rfl
@[go_sem] theorem tb_flds47 : flds Tryz.prog 47 = some [(0, 1), (1, 1)] := by kernel_rfl
@[go_sem] theorem tb_fty47 : fldTypes Tryz.prog 47 = [3, 45] := by kernel_rfl
@[go_sem] theorem tb_agg56 : aggB Tryz.prog 56 = some false := by kernel_rfl
@[go_sem] theorem tb_tsz56 : tsz Tryz.prog 56 = some 1 := by kernel_rfl
@[go_sem] theorem tb_kd56 : kindT Tryz.prog 56 = 0 := by kernel_rfl
@[go_sem] theorem tb_esz56 : esz Tryz.prog 56 = some ⟨13, 76⟩ := by kernel_rfl
@[go_sem] theorem tb_app56 : appTy Tryz.prog 56 = some ⟨13, 76⟩ := by kernel_rfl
@[go_sem] theorem tb_arg56 : appArg Tryz.prog 56 = true := by kernel_rfl
@[go_sem] theorem tb_agg67 : aggB Tryz.prog 67 = some false := by kernel_rfl
@[go_sem] theorem tb_tsz67 : tsz Tryz.prog 67 = some 1 := by kernel_rfl
@[go_sem] theorem tb_kd67 : kindT Tryz.prog 67 = 0 := by kernel_rfl
@[go_sem] theorem tb_esz67 : esz Tryz.prog 67 = some ⟨1, 3⟩ := by kernel_rfl
@[go_sem] theorem tb_app67 : appTy Tryz.prog 67 = some ⟨1, 3⟩ := by kernel_rfl
@[go_sem] theorem tb_arg67 : appArg Tryz.prog 67 = true := by kernel_rfl
@[go_sem] theorem tb_agg71 : aggB Tryz.prog 71 = some false := by kernel_rfl
@[go_sem] theorem tb_tsz71 : tsz Tryz.prog 71 = some 1 := by kernel_rfl
@[go_sem] theorem tb_kd71 : kindT Tryz.prog 71 = 0 := by kernel_rfl
@[go_sem] theorem tb_esz71 : esz Tryz.prog 71 = some ⟨5, 73⟩ := by kernel_rfl
@[go_sem] theorem tb_app71 : appTy Tryz.prog 71 = some ⟨5, 73⟩ := by kernel_rfl
@[go_sem] theorem tb_arg71 : appArg Tryz.prog 71 = true := by kernel_rfl
@[go_sem] theorem tb_agg73 : aggB Tryz.prog 73 = some true := by kernel_rfl
@[go_sem] theorem tb_tsz73 : tsz Tryz.prog 73 = some 5 := by kernel_rfl
@[go_sem] theorem tb_kd73 : kindT Tryz.prog 73 = 0 := by kernel_rfl
@[go_sem] theorem tb_fld73_0 : fld Tryz.prog 73 0 = some (0, 1, false) := by kernel_rfl
@[go_sem] theorem tb_fld73_1 : fld Tryz.prog 73 1 = some (1, 1, false) := by kernel_rfl
@[go_sem] theorem tb_fld73_2 : fld Tryz.prog 73 2 = some (2, 1, false) := by kernel_rfl
@[go_sem] theorem tb_fld73_3 : fld Tryz.prog 73 3 = some (3, 1, false) := by kernel_rfl
@[go_sem] theorem tb_fld73_4 : fld Tryz.prog 73 4 = some (4, 1, false) := by kernel_rfl
@[go_sem] theorem tb_flds73 : flds Tryz.prog 73 = some [(0, 1), (1, 1), (2, 1), (3, 1), (4, 1)] := by kernel_rfl
@[go_sem] theorem tb_fty73 : fldTypes Tryz.prog 73 = [3, 2, 9, 9, 71] := by kernel_rfl
@[go_sem] theorem tb_agg74 : aggB Tryz.prog 74 = some false := by kernel_rfl
@[go_sem] theorem tb_tsz74 : tsz Tryz.prog 74 = some 1 := by kernel_rfl
@[go_sem] theorem tb_kd74 : kindT Tryz.prog 74 = 0 := by kernel_rfl
@[go_sem] theorem tb_esz74 : esz Tryz.prog 74 = some ⟨6, 172⟩ := by kernel_rfl
@[go_sem] theorem tb_app74 : appTy Tryz.prog 74 = some ⟨6, 172⟩ := by kernel_rfl
@[go_sem] theorem tb_arg74 : appArg Tryz.prog 74 = true := by kernel_rfl
@[go_sem] theorem tb_agg76 : aggB Tryz.prog 76 = some true := by kernel_rfl
@[go_sem] theorem tb_tsz76 : tsz Tryz.prog 76 = some 13 := by kernel_rfl
@[go_sem] theorem tb_kd76 : kindT Tryz.prog 76 = 0 := by kernel_rfl
@[go_sem] theorem tb_fld76_0 : fld Tryz.prog 76 0 = some (0, 1, false) := by kernel_rfl
@[go_sem] theorem tb_fld76_1 : fld Tryz.prog 76 1 = some (1, 1, false) := by kernel_rfl
@[go_sem] theorem tb_fld76_2 : fld Tryz.prog 76 2 = some (2, 1, false) := by kernel_rfl
@[go_sem] theorem tb_fld76_3 : fld Tryz.prog 76 3 = some (3, 1, false) := by kernel_rfl
@[go_sem] theorem tb_fld76_4 : fld Tryz.prog 76 4 = some (4, 5, true) := by kernel_rfl
@[go_sem] theorem tb_fld76_5 : fld Tryz.prog 76 5 = some (9, 1, false) := by kernel_rfl
@[go_sem] theorem tb_fld76_6 : fld Tryz.prog 76 6 = some (10, 1, false) := by kernel_rfl
@[go_sem] theorem tb_fld76_7 : fld Tryz.prog 76 7 = some (11, 1, false) := by kernel_rfl
@[go_sem] theorem tb_fld76_8 : fld Tryz.prog 76 8 = some (12, 1, false) := by kernel_rfl
@[go_sem] theorem tb_flds76 : flds Tryz.prog 76 = some [(0, 1), (1, 1), (2, 1), (3, 1), (4, 5), (9, 1), (10, 1), (11, 1), (12, 1)] := by kernel_rfl
@[go_sem] theorem tb_fty76 : fldTypes Tryz.prog 76 = [3, 9, 2, 30, 73, 56, 56, 74, 3] := by kernel_rfl
@[go_sem] theorem tb_agg78 : aggB Tryz.prog 78 = some true := by kernel_rfl
@[go_sem] theorem tb_tsz78 : tsz Tryz.prog 78 = some 2 := by kernel_rfl
@[go_sem] theorem tb_kd78 : kindT Tryz.prog 78 = 0 := by kernel_rfl
@[go_sem] theorem tb_fld78_0 : fld Tryz.prog 78 0 = some (0, 1, false) := by kernel_rfl
@[go_sem] theorem tb_fld78_1 : fld Tryz.prog 78 1 = some (1, 1, false) := by kernel_rfl
@[go_sem] theorem tb_flds78 : flds Tryz.prog 78 = some [(0, 1), (1, 1)] := by kernel_rfl
@[go_sem] theorem tb_fty78 : fldTypes Tryz.prog 78 = [9, 9] := by kernel_rfl
@[go_sem] theorem tb_agg79 : aggB Tryz.prog 79 = some false := by kernel_rfl
@[go_sem] theorem tb_tsz79 : tsz Tryz.prog 79 = some 1 := by kernel_rfl
@[go_sem] theorem tb_kd79 : kindT Tryz.prog 79 = 0 := by kernel_rfl
@[go_sem] theorem tb_esz79 : esz Tryz.prog 79 = some ⟨1, 9⟩ := by kernel_rfl
@[go_sem] theorem tb_app79 : appTy Tryz.prog 79 = some ⟨1, 9⟩ := by kernel_rfl
@[go_sem] theorem tb_arg79 : appArg Tryz.prog 79 = true := by kernel_rfl
@[go_sem] theorem tb_agg81 : aggB Tryz.prog 81 = some false := by kernel_rfl
@[go_sem] theorem tb_tsz81 : tsz Tryz.prog 81 = some 1 := by kernel_rfl
@[go_sem] theorem tb_kd81 : kindT Tryz.prog 81 = 3 := by kernel_rfl
@[go_sem] theorem tb_agg90 : aggB Tryz.prog 90 = some false := by kernel_rfl
@[go_sem] theorem tb_tsz90 : tsz Tryz.prog 90 = some 1 := by kernel_rfl
@[go_sem] theorem tb_kd90 : kindT Tryz.prog 90 = 4 := by kernel_rfl
@[go_sem] theorem tb_agg92 : aggB Tryz.prog 92 = some true := by kernel_rfl
@[go_sem] theorem tb_tsz92 : tsz Tryz.prog 92 = some 2 := by kernel_rfl
@[go_sem] theorem tb_kd92 : kindT Tryz.prog 92 = 0 := by kernel_rfl
@[go_sem] theorem tb_fld92_0 : fld Tryz.prog 92 0 = some (0, 1, false) := by kernel_rfl
@[go_sem] theorem tb_fld92_1 : fld Tryz.prog 92 1 = some (1, 1, false) := by kernel_rfl
@[go_sem] theorem tb_flds92 : flds Tryz.prog 92 = some [(0, 1), (1, 1)] := by kernel_rfl
@[go_sem] theorem tb_fty92 : fldTypes Tryz.prog 92 = [9, 3] := by kernel_rfl
@[go_sem] theorem tb_agg100 : aggB Tryz.prog 100 = some true := by kernel_rfl
@[go_sem] theorem tb_tsz100 : tsz Tryz.prog 100 = some 5 := by kernel_rfl
@[go_sem] theorem tb_kd100 : kindT Tryz.prog 100 = 0 := by kernel_rfl
@[go_sem] theorem tb_fld100_0 : fld Tryz.prog 100 0 = some (0, 1, false) := by kernel_rfl
@[go_sem] theorem tb_fld100_1 : fld Tryz.prog 100 1 = some (1, 1, false) := by kernel_rfl
@[go_sem] theorem tb_fld100_2 : fld Tryz.prog 100 2 = some (2, 1, false) := by kernel_rfl
@[go_sem] theorem tb_fld100_3 : fld Tryz.prog 100 3 = some (3, 1, false) := by kernel_rfl
@[go_sem] theorem tb_fld100_4 : fld Tryz.prog 100 4 = some (4, 1, false) := by kernel_rfl
@[go_sem] theorem tb_flds100 : flds Tryz.prog 100 = some [(0, 1), (1, 1), (2, 1), (3, 1), (4, 1)] := by kernel_rfl
@[go_sem] theorem tb_fty100 : fldTypes Tryz.prog 100 = [3, 9, 3, 3, 3] := by kernel_rfl
@[go_sem] theorem tb_agg101 : aggB Tryz.prog 101 = some false := by kernel_rfl
@[go_sem] theorem tb_tsz101 : tsz Tryz.prog 101 = some 1 := by kernel_rfl
@[go_sem] theorem tb_kd101 : kindT Tryz.prog 101 = 0 := by kernel_rfl
@[go_sem] theorem tb_esz101 : esz Tryz.prog 101 = some ⟨5, 100⟩ := by kernel_rfl
@[go_sem] theorem tb_app101 : appTy Tryz.prog 101 = some ⟨5, 100⟩ := by kernel_rfl
@[go_sem] theorem tb_arg101 : appArg Tryz.prog 101 = true := by kernel_rfl
@[go_sem] theorem tb_agg103 : aggB Tryz.prog 103 = some true := by kernel_rfl
@[go_sem] theorem tb_tsz103 : tsz Tryz.prog 103 = some 3 := by kernel_rfl
@[go_sem] theorem tb_kd103 : kindT Tryz.prog 103 = 0 := by kernel_rfl
@[go_sem] theorem tb_fld103_0 : fld Tryz.prog 103 0 = some (0, 1, false) := by kernel_rfl
@[go_sem] theorem tb_fld103_1 : fld Tryz.prog 103 1 = some (1, 1, false) := by kernel_rfl
@[go_sem] theorem tb_fld103_2 : fld Tryz.prog 103 2 = some (2, 1, false) := by kernel_rfl
@[go_sem] theorem tb_flds103 : flds Tryz.prog 103 = some [(0, 1), (1, 1), (2, 1)] := by kernel_rfl
@[go_sem] theorem tb_fty103 : fldTypes Tryz.prog 103 = [9, 4, 101] := by kernel_rfl
@[go_sem] theorem tb_agg105 : aggB Tryz.prog 105 = some true := by kernel_rfl
@[go_sem] theorem tb_tsz105 : tsz Tryz.prog 105 = some 1 := by kernel_rfl
@[go_sem] theorem tb_kd105 : kindT Tryz.prog 105 = 0 := by kernel_rfl
@[go_sem] theorem tb_fld105_0 : fld Tryz.prog 105 0 = some (0, 1, false) := by kernel_rfl
@[go_sem] theorem tb_flds105 : flds Tryz.prog 105 = some [(0, 1)] := by kernel_rfl
@[go_sem] theorem tb_fty105 : fldTypes Tryz.prog 105 = [22] := by kernel_rfl
@[go_sem] theorem tb_agg113 : aggB Tryz.prog 113 = some false := by kernel_rfl
@[go_sem] theorem tb_tsz113 : tsz Tryz.prog 113 = some 1 := by kernel_rfl
@[go_sem] theorem tb_kd113 : kindT Tryz.prog 113 = 3 := by kernel_rfl
@[go_sem] theorem tb_agg116 : aggB Tryz.prog 116 = some false := by kernel_rfl
@[go_sem] theorem tb_tsz116 : tsz Tryz.prog 116 = some 1 := by kernel_rfl
@[go_sem] theorem tb_kd116 : kindT Tryz.prog 116 = 3 := by kernel_rfl
@[go_sem] theorem tb_agg117 : aggB Tryz.prog 117 = some false := by kernel_rfl
@[go_sem] theorem tb_tsz117 : tsz Tryz.prog 117 = some 1 := by kernel_rfl
@[go_sem] theorem tb_kd117 : kindT Tryz.prog 117 = 4 := by kernel_rfl
@[go_sem] theorem tb_agg118 : aggB Tryz.prog 118 = some false := by kernel_rfl
@[go_sem] theorem tb_tsz118 : tsz Tryz.prog 118 = some 1 := by kernel_rfl
@[go_sem] theorem tb_kd118 : kindT Tryz.prog 118 = 4 := by kernel_rfl
@[go_sem] theorem tb_agg119 : aggB Tryz.prog 119 = some false := by kernel_rfl
@[go_sem] theorem tb_tsz119 : tsz Tryz.prog 119 = some 1 := by kernel_rfl
@[go_sem] theorem tb_kd119 : kindT Tryz.prog 119 = 0 := by kernel_rfl
@[go_sem] theorem tb_esz119 : esz Tryz.prog 119 = some ⟨2, 130⟩ := by kernel_rfl
@[go_sem] theorem tb_app119 : appTy Tryz.prog 119 = some ⟨2, 130⟩ := by kernel_rfl
@[go_sem] theorem tb_arg119 : appArg Tryz.prog 119 = true := by kernel_rfl
@[go_sem] theorem tb_agg120 : aggB Tryz.prog 120 = some false := by kernel_rfl
@[go_sem] theorem tb_tsz120 : tsz Tryz.prog 120 = some 1 := by kernel_rfl
@[go_sem] theorem tb_kd120 : kindT Tryz.prog 120 = 0 := by kernel_rfl
@[go_sem] theorem tb_esz120 : esz Tryz.prog 120 = some ⟨4, 217⟩ := by kernel_rfl
@[go_sem] theorem tb_app120 : appTy Tryz.prog 120 = some ⟨4, 217⟩ := by kernel_rfl
@[go_sem] theorem tb_arg120 : appArg Tryz.prog 120 = true := by kernel_rfl
@[go_sem] theorem tb_agg122 : aggB Tryz.prog 122 = some true := by kernel_rfl
@[go_sem] theorem tb_tsz122 : tsz Tryz.prog 122 = some 8 := by kernel_rfl
@[go_sem] theorem tb_kd122 : kindT Tryz.prog 122 = 0 := by kernel_rfl
@[go_sem] theorem tb_fld122_0 : fld Tryz.prog 122 0 = some (0, 1, false) := by kernel_rfl
@[go_sem] theorem tb_fld122_1 : fld Tryz.prog 122 1 = some (1, 1, false) := by kernel_rfl
@[go_sem] theorem tb_fld122_2 : fld Tryz.prog 122 2 = some (2, 1, false) := by kernel_rfl
@[go_sem] theorem tb_fld122_3 : fld Tryz.prog 122 3 = some (3, 1, false) := by kernel_rfl
@[go_sem] theorem tb_fld122_4 : fld Tryz.prog 122 4 = some (4, 1, false) := by kernel_rfl
@[go_sem] theorem tb_fld122_5 : fld Tryz.prog 122 5 = some (5, 1, false) := by kernel_rfl
@[go_sem] theorem tb_fld122_6 : fld Tryz.prog 122 6 = some (6, 2, true) := by kernel_rfl
@[go_sem] theorem tb_flds122 : flds Tryz.prog 122 = some [(0, 1), (1, 1), (2, 1), (3, 1), (4, 1), (5, 1), (6, 2)] := by kernel_rfl
@[go_sem] theorem tb_fty122 : fldTypes Tryz.prog 122 = [9, 22, 3, 118, 119, 120, 47] := by kernel_rfl
@[go_sem] theorem tb_agg130 : aggB Tryz.prog 130 = some true := by kernel_rfl
@[go_sem] theorem tb_tsz130 : tsz Tryz.prog 130 = some 2 := by kernel_rfl
@[go_sem] theorem tb_kd130 : kindT Tryz.prog 130 = 0 := by kernel_rfl
@[go_sem] theorem tb_fld130_0 : fld Tryz.prog 130 0 = some (0, 1, false) := by kernel_rfl
@[go_sem] theorem tb_fld130_1 : fld Tryz.prog 130 1 = some (1, 1, false) := by kernel_rfl
@[go_sem] theorem tb_flds130 : flds Tryz.prog 130 = some [(0, 1), (1, 1)] := by kernel_rfl
@[go_sem] theorem tb_fty130 : fldTypes Tryz.prog 130 = [3, 25] := by kernel_rfl
@[go_sem] theorem tb_agg132 : aggB Tryz.prog 132 = some false := by kernel_rfl
@[go_sem] theorem tb_tsz132 : tsz Tryz.prog 132 = some 1 := by kernel_rfl
@[go_sem] theorem tb_kd132 : kindT Tryz.prog 132 = 3 := by kernel_rfl
@[go_sem] theorem tb_agg133 : aggB Tryz.prog 133 = some false := by kernel_rfl
@[go_sem] theorem tb_tsz133 : tsz Tryz.prog 133 = some 1 := by kernel_rfl
@[go_sem] theorem tb_kd133 : kindT Tryz.prog 133 = 4 := by kernel_rfl
@[go_sem] theorem tb_agg135 : aggB Tryz.prog 135 = some true := by kernel_rfl
@[go_sem] theorem tb_tsz135 : tsz Tryz.prog 135 = some 9 := by kernel_rfl
@[go_sem] theorem tb_kd135 : kindT Tryz.prog 135 = 0 := by kernel_rfl
@[go_sem] theorem tb_fld135_0 : fld Tryz.prog 135 0 = some (0, 1, false) := by kernel_rfl
@[go_sem] theorem tb_fld135_1 : fld Tryz.prog 135 1 = some (1, 1, false) := by kernel_rfl
@[go_sem] theorem tb_fld135_2 : fld Tryz.prog 135 2 = some (2, 1, false) := by kernel_rfl
@[go_sem] theorem tb_fld135_3 : fld Tryz.prog 135 3 = some (3, 1, false) := by kernel_rfl
@[go_sem] theorem tb_fld135_4 : fld Tryz.prog 135 4 = some (4, 1, false) := by kernel_rfl
@[go_sem] theorem tb_fld135_5 : fld Tryz.prog 135 5 = some (5, 1, false) := by kernel_rfl
@[go_sem] theorem tb_fld135_6 : fld Tryz.prog 135 6 = some (6, 1, false) := by kernel_rfl
@[go_sem] theorem tb_fld135_7 : fld Tryz.prog 135 7 = some (7, 1, false) := by kernel_rfl
@[go_sem] theorem tb_fld135_8 : fld Tryz.prog 135 8 = some (8, 1, false) := by kernel_rfl
@[go_sem] theorem tb_flds135 : flds Tryz.prog 135 = some [(0, 1), (1, 1), (2, 1), (3, 1), (4, 1), (5, 1), (6, 1), (7, 1), (8, 1)] := by kernel_rfl
@[go_sem] theorem tb_fty135 : fldTypes Tryz.prog 135 = [9, 22, 3, 3, 3, 3, 3, 79, 67] := by kernel_rfl
@[go_sem] theorem tb_agg145 : aggB Tryz.prog 145 = some false := by kernel_rfl
@[go_sem] theorem tb_tsz145 : tsz Tryz.prog 145 = some 1 := by kernel_rfl
@[go_sem] theorem tb_kd145 : kindT Tryz.prog 145 = 3 := by kernel_rfl
@[go_sem] theorem tb_agg147 : aggB Tryz.prog 147 = some false := by kernel_rfl
@[go_sem] theorem tb_tsz147 : tsz Tryz.prog 147 = some 1 := by kernel_rfl
@[go_sem] theorem tb_kd147 : kindT Tryz.prog 147 = 4 := by kernel_rfl
@[go_sem] theorem tb_agg149 : aggB Tryz.prog 149 = some true := by kernel_rfl
@[go_sem] theorem tb_tsz149 : tsz Tryz.prog 149 = some 5 := by kernel_rfl
@[go_sem] theorem tb_kd149 : kindT Tryz.prog 149 = 0 := by kernel_rfl
@[go_sem] theorem tb_fld149_0 : fld Tryz.prog 149 0 = some (0, 1, false) := by kernel_rfl
@[go_sem] theorem tb_fld149_1 : fld Tryz.prog 149 1 = some (1, 1, false) := by kernel_rfl
@[go_sem] theorem tb_fld149_2 : fld Tryz.prog 149 2 = some (2, 1, false) := by kernel_rfl
@[go_sem] theorem tb_fld149_3 : fld Tryz.prog 149 3 = some (3, 1, false) := by kernel_rfl
@[go_sem] theorem tb_fld149_4 : fld Tryz.prog 149 4 = some (4, 1, false) := by kernel_rfl
@[go_sem] theorem tb_flds149 : flds Tryz.prog 149 = some [(0, 1), (1, 1), (2, 1), (3, 1), (4, 1)] := by kernel_rfl
@[go_sem] theorem tb_fty149 : fldTypes Tryz.prog 149 = [9, 22, 3, 3, 3] := by kernel_rfl
@[go_sem] theorem tb_agg151 : aggB Tryz.prog 151 = some false := by kernel_rfl
@[go_sem] theorem tb_tsz151 : tsz Tryz.prog 151 = some 1 := by kernel_rfl
@[go_sem] theorem tb_kd151 : kindT Tryz.prog 151 = 4 := by kernel_rfl
@[go_sem] theorem tb_agg153 : aggB Tryz.prog 153 = some true := by kernel_rfl
@[go_sem] theorem tb_tsz153 : tsz Tryz.prog 153 = some 5 := by kernel_rfl
@[go_sem] theorem tb_kd153 : kindT Tryz.prog 153 = 0 := by kernel_rfl
@[go_sem] theorem tb_fld153_0 : fld Tryz.prog 153 0 = some (0, 1, false) := by kernel_rfl
@[go_sem] theorem tb_fld153_1 : fld Tryz.prog 153 1 = some (1, 1, false) := by kernel_rfl
@[go_sem] theorem tb_fld153_2 : fld Tryz.prog 153 2 = some (2, 1, false) := by kernel_rfl
@[go_sem] theorem tb_fld153_3 : fld Tryz.prog 153 3 = some (3, 1, false) := by kernel_rfl
@[go_sem] theorem tb_fld153_4 : fld Tryz.prog 153 4 = some (4, 1, false) := by kernel_rfl
@[go_sem] theorem tb_flds153 : flds Tryz.prog 153 = some [(0, 1), (1, 1), (2, 1), (3, 1), (4, 1)] := by kernel_rfl
@[go_sem] theorem tb_fty153 : fldTypes Tryz.prog 153 = [9, 22, 3, 3, 25] := by kernel_rfl
@[go_sem] theorem tb_agg155 : aggB Tryz.prog 155 = some false := by kernel_rfl
@[go_sem] theorem tb_tsz155 : tsz Tryz.prog 155 = some 1 := by kernel_rfl
@[go_sem] theorem tb_kd155 : kindT Tryz.prog 155 = 4 := by kernel_rfl
@[go_sem] theorem tb_agg157 : aggB Tryz.prog 157 = some true := by kernel_rfl
@[go_sem] theorem tb_tsz157 : tsz Tryz.prog 157 = some 7 := by kernel_rfl
@[go_sem] theorem tb_kd157 : kindT Tryz.prog 157 = 0 := by kernel_rfl
@[go_sem] theorem tb_fld157_0 : fld Tryz.prog 157 0 = some (0, 1, false) := by kernel_rfl
@[go_sem] theorem tb_fld157_1 : fld Tryz.prog 157 1 = some (1, 1, false) := by kernel_rfl
@[go_sem] theorem tb_fld157_2 : fld Tryz.prog 157 2 = some (2, 1, false) := by kernel_rfl
@[go_sem] theorem tb_fld157_3 : fld Tryz.prog 157 3 = some (3, 1, false) := by kernel_rfl
@[go_sem] theorem tb_fld157_4 : fld Tryz.prog 157 4 = some (4, 1, false) := by kernel_rfl
@[go_sem] theorem tb_fld157_5 : fld Tryz.prog 157 5 = some (5, 1, false) := by kernel_rfl
@[go_sem] theorem tb_fld157_6 : fld Tryz.prog 157 6 = some (6, 1, false) := by kernel_rfl
@[go_sem] theorem tb_flds157 : flds Tryz.prog 157 = some [(0, 1), (1, 1), (2, 1), (3, 1), (4, 1), (5, 1), (6, 1)] := by kernel_rfl
@[go_sem] theorem tb_fty157 : fldTypes Tryz.prog 157 = [2, 79, 79, 79, 3, 3, 25] := by kernel_rfl
@[go_sem] theorem tb_agg160 : aggB Tryz.prog 160 = some true := by kernel_rfl
@[go_sem] theorem tb_tsz160 : tsz Tryz.prog 160 = some 2 := by kernel_rfl
@[go_sem] theorem tb_kd160 : kindT Tryz.prog 160 = 0 := by kernel_rfl
@[go_sem] theorem tb_fld160_0 : fld Tryz.prog 160 0 = some (0, 1, false) := by kernel_rfl
@[go_sem] theorem tb_fld160_1 : fld Tryz.prog 160 1 = some (1, 1, false) := by kernel_rfl
@[go_sem] theorem tb_flds160 : flds Tryz.prog 160 = some [(0, 1), (1, 1)] := by kernel_rfl
@[go_sem] theorem tb_fty160 : fldTypes Tryz.prog 160 = [4, 4] := by kernel_rfl
@[go_sem] theorem tb_agg161 : aggB Tryz.prog 161 = some false := by kernel_rfl
@[go_sem] theorem tb_tsz161 : tsz Tryz.prog 161 = some 1 := by kernel_rfl
@[go_sem] theorem tb_kd161 : kindT Tryz.prog 161 = 4 := by kernel_rfl
@[go_sem] theorem tb_agg164 : aggB Tryz.prog 164 = some true := by kernel_rfl
@[go_sem] theorem tb_tsz164 : tsz Tryz.prog 164 = some 7 := by kernel_rfl
@[go_sem] theorem tb_kd164 : kindT Tryz.prog 164 = 0 := by kernel_rfl
@[go_sem] theorem tb_fld164_0 : fld Tryz.prog 164 0 = some (0, 1, false) := by kernel_rfl
@[go_sem] theorem tb_fld164_1 : fld Tryz.prog 164 1 = some (1, 1, false) := by kernel_rfl
@[go_sem] theorem tb_fld164_2 : fld Tryz.prog 164 2 = some (2, 1, false) := by kernel_rfl
@[go_sem] theorem tb_fld164_3 : fld Tryz.prog 164 3 = some (3, 1, false) := by kernel_rfl
@[go_sem] theorem tb_fld164_4 : fld Tryz.prog 164 4 = some (4, 1, false) := by kernel_rfl
@[go_sem] theorem tb_fld164_5 : fld Tryz.prog 164 5 = some (5, 1, false) := by kernel_rfl
@[go_sem] theorem tb_fld164_6 : fld Tryz.prog 164 6 = some (6, 1, false) := by kernel_rfl
@[go_sem] theorem tb_flds164 : flds Tryz.prog 164 = some [(0, 1), (1, 1), (2, 1), (3, 1), (4, 1), (5, 1), (6, 1)] := by kernel_rfl
@[go_sem] theorem tb_fty164 : fldTypes Tryz.prog 164 = [2, 79, 79, 79, 3, 3, 3] := by kernel_rfl
@[go_sem] theorem tb_agg168 : aggB Tryz.prog 168 = some false := by kernel_rfl
@[go_sem] theorem tb_tsz168 : tsz Tryz.prog 168 = some 1 := by kernel_rfl
@[go_sem] theorem tb_kd168 : kindT Tryz.prog 168 = 3 := by kernel_rfl
@[go_sem] theorem tb_agg170 : aggB Tryz.prog 170 = some true := by kernel_rfl
@[go_sem] theorem tb_tsz170 : tsz Tryz.prog 170 = some 2 := by kernel_rfl
@[go_sem] theorem tb_kd170 : kindT Tryz.prog 170 = 0 := by kernel_rfl
@[go_sem] theorem tb_fld170_0 : fld Tryz.prog 170 0 = some (0, 1, false) := by kernel_rfl
@[go_sem] theorem tb_fld170_1 : fld Tryz.prog 170 1 = some (1, 1, false) := by kernel_rfl
@[go_sem] theorem tb_flds170 : flds Tryz.prog 170 = some [(0, 1), (1, 1)] := by kernel_rfl
@[go_sem] theorem tb_fty170 : fldTypes Tryz.prog 170 = [3, 9] := by kernel_rfl
@[go_sem] theorem tb_agg172 : aggB Tryz.prog 172 = some true := by kernel_rfl
@[go_sem] theorem tb_tsz172 : tsz Tryz.prog 172 = some 6 := by kernel_rfl
@[go_sem] theorem tb_kd172 : kindT Tryz.prog 172 = 0 := by kernel_rfl
@[go_sem] theorem tb_fld172_0 : fld Tryz.prog 172 0 = some (0, 1, false) := by kernel_rfl
@[go_sem] theorem tb_fld172_1 : fld Tryz.prog 172 1 = some (1, 1, false) := by kernel_rfl
@[go_sem] theorem tb_fld172_2 : fld Tryz.prog 172 2 = some (2, 2, true) := by kernel_rfl
@[go_sem] theorem tb_fld172_3 : fld Tryz.prog 172 3 = some (4, 1, false) := by kernel_rfl
@[go_sem] theorem tb_fld172_4 : fld Tryz.prog 172 4 = some (5, 1, false) := by kernel_rfl
@[go_sem] theorem tb_flds172 : flds Tryz.prog 172 = some [(0, 1), (1, 1), (2, 2), (4, 1), (5, 1)] := by kernel_rfl
@[go_sem] theorem tb_fty172 : fldTypes Tryz.prog 172 = [3, 2, 170, 56, 3] := by kernel_rfl
@[go_sem] theorem tb_agg176 : aggB Tryz.prog 176 = some false := by kernel_rfl
@[go_sem] theorem tb_tsz176 : tsz Tryz.prog 176 = some 1 := by kernel_rfl
@[go_sem] theorem tb_kd176 : kindT Tryz.prog 176 = 3 := by kernel_rfl
@[go_sem] theorem tb_agg177 : aggB Tryz.prog 177 = some false := by kernel_rfl
@[go_sem] theorem tb_tsz177 : tsz Tryz.prog 177 = some 1 := by kernel_rfl
@[go_sem] theorem tb_kd177 : kindT Tryz.prog 177 = 4 := by kernel_rfl
@[go_sem] theorem tb_agg179 : aggB Tryz.prog 179 = some true := by kernel_rfl
@[go_sem] theorem tb_tsz179 : tsz Tryz.prog 179 = some 2 := by kernel_rfl
@[go_sem] theorem tb_kd179 : kindT Tryz.prog 179 = 0 := by kernel_rfl
@[go_sem] theorem tb_fld179_0 : fld Tryz.prog 179 0 = some (0, 1, false) := by kernel_rfl
@[go_sem] theorem tb_fld179_1 : fld Tryz.prog 179 1 = some (1, 1, false) := by kernel_rfl
@[go_sem] theorem tb_flds179 : flds Tryz.prog 179 = some [(0, 1), (1, 1)] := by kernel_rfl
@[go_sem] theorem tb_fty179 : fldTypes Tryz.prog 179 = [177, 43] := by kernel_rfl
@[go_sem] theorem tb_agg181 : aggB Tryz.prog 181 = some false := by kernel_rfl
@[go_sem] theorem tb_tsz181 : tsz Tryz.prog 181 = some 1 := by kernel_rfl
@[go_sem] theorem tb_kd181 : kindT Tryz.prog 181 = 2 := by kernel_rfl
@[go_sem] theorem tb_agg192 : aggB Tryz.prog 192 = some false := by kernel_rfl
@[go_sem] theorem tb_tsz192 : tsz Tryz.prog 192 = some 1 := by kernel_rfl
@[go_sem] theorem tb_kd192 : kindT Tryz.prog 192 = 3 := by kernel_rfl
@[go_sem] theorem tb_agg193 : aggB Tryz.prog 193 = some false := by kernel_rfl
@[go_sem] theorem tb_tsz193 : tsz Tryz.prog 193 = some 1 := by kernel_rfl
@[go_sem] theorem tb_kd193 : kindT Tryz.prog 193 = 0 := by kernel_rfl
@[go_sem] theorem tb_agg205 : aggB Tryz.prog 205 = some false := by kernel_rfl
@[go_sem] theorem tb_tsz205 : tsz Tryz.prog 205 = some 1 := by kernel_rfl
@[go_sem] theorem tb_kd205 : kindT Tryz.prog 205 = 4 := by kernel_rfl
@[go_sem] theorem tb_agg209 : aggB Tryz.prog 209 = some false := by kernel_rfl
@[go_sem] theorem tb_tsz209 : tsz Tryz.prog 209 = some 1 := by kernel_rfl
@[go_sem] theorem tb_kd209 : kindT Tryz.prog 209 = 0 := by kernel_rfl
@[go_sem] theorem tb_esz209 : esz Tryz.prog 209 = some ⟨3, 258⟩ := by kernel_rfl
@[go_sem] theorem tb_app209 : appTy Tryz.prog 209 = some ⟨3, 258⟩ := by kernel_rfl
@[go_sem] theorem tb_arg209 : appArg Tryz.prog 209 = true := by kernel_rfl
@[go_sem] theorem tb_agg217 : aggB Tryz.prog 217 = some true := by kernel_rfl
@[go_sem] theorem tb_tsz217 : tsz Tryz.prog 217 = some 4 := by kernel_rfl
@[go_sem] theorem tb_kd217 : kindT Tryz.prog 217 = 0 := by kernel_rfl
@[go_sem] theorem tb_fld217_0 : fld Tryz.prog 217 0 = some (0, 1, false) := by kernel_rfl
@[go_sem] theorem tb_fld217_1 : fld Tryz.prog 217 1 = some (1, 1, false) := by kernel_rfl
@[go_sem] theorem tb_fld217_2 : fld Tryz.prog 217 2 = some (2, 1, false) := by kernel_rfl
@[go_sem] theorem tb_fld217_3 : fld Tryz.prog 217 3 = some (3, 1, false) := by kernel_rfl
@[go_sem] theorem tb_flds217 : flds Tryz.prog 217 = some [(0, 1), (1, 1), (2, 1), (3, 1)] := by kernel_rfl
@[go_sem] theorem tb_fty217 : fldTypes Tryz.prog 217 = [3, 3, 9, 3] := by kernel_rfl
@[go_sem] theorem tb_agg221 : aggB Tryz.prog 221 = some false := by kernel_rfl
@[go_sem] theorem tb_tsz221 : tsz Tryz.prog 221 = some 1 := by kernel_rfl
@[go_sem] theorem tb_kd221 : kindT Tryz.prog 221 = 3 := by kernel_rfl
@[go_sem] theorem tb_agg228 : aggB Tryz.prog 228 = some true := by kernel_rfl
@[go_sem] theorem tb_tsz228 : tsz Tryz.prog 228 = some 1 := by kernel_rfl
@[go_sem] theorem tb_kd228 : kindT Tryz.prog 228 = 0 := by kernel_rfl
@[go_sem] theorem tb_fld228_0 : fld Tryz.prog 228 0 = some (0, 1, false) := by kernel_rfl
@[go_sem] theorem tb_flds228 : flds Tryz.prog 228 = some [(0, 1)] := by kernel_rfl
@[go_sem] theorem tb_fty228 : fldTypes Tryz.prog 228 = [22] := by kernel_rfl
@[go_sem] theorem tb_agg233 : aggB Tryz.prog 233 = some false := by kernel_rfl
@[go_sem] theorem tb_tsz233 : tsz Tryz.prog 233 = some 1 := by kernel_rfl
@[go_sem] theorem tb_kd233 : kindT Tryz.prog 233 = 3 := by kernel_rfl
@[go_sem] theorem tb_agg234 : aggB Tryz.prog 234 = some false := by kernel_rfl
@[go_sem] theorem tb_tsz234 : tsz Tryz.prog 234 = some 1 := by kernel_rfl
@[go_sem] theorem tb_kd234 : kindT Tryz.prog 234 = 4 := by kernel_rfl
@[go_sem] theorem tb_agg237 : aggB Tryz.prog 237 = some true := by kernel_rfl
@[go_sem] theorem tb_tsz237 : tsz Tryz.prog 237 = some 256 := by kernel_rfl
@[go_sem] theorem tb_kd237 : kindT Tryz.prog 237 = 0 := by kernel_rfl
@[go_sem] theorem tb_arr237 : arr Tryz.prog 237 = some (256, 1) := by kernel_rfl
@[go_sem] theorem tb_agg241 : aggB Tryz.prog 241 = some false := by kernel_rfl
@[go_sem] theorem tb_tsz241 : tsz Tryz.prog 241 = some 1 := by kernel_rfl
@[go_sem] theorem tb_kd241 : kindT Tryz.prog 241 = 4 := by kernel_rfl
@[go_sem] theorem tb_agg242 : aggB Tryz.prog 242 = some false := by kernel_rfl
@[go_sem] theorem tb_tsz242 : tsz Tryz.prog 242 = some 1 := by kernel_rfl
@[go_sem] theorem tb_kd242 : kindT Tryz.prog 242 = 0 := by kernel_rfl
@[go_sem] theorem tb_agg253 : aggB Tryz.prog 253 = some false := by kernel_rfl
@[go_sem] theorem tb_tsz253 : tsz Tryz.prog 253 = some 1 := by kernel_rfl
@[go_sem] theorem tb_kd253 : kindT Tryz.prog 253 = 4 := by kernel_rfl
@[go_sem] theorem tb_agg255 : aggB Tryz.prog 255 = some true := by kernel_rfl
@[go_sem] theorem tb_tsz255 : tsz Tryz.prog 255 = some 3 := by kernel_rfl
@[go_sem] theorem tb_kd255 : kindT Tryz.prog 255 = 0 := by kernel_rfl
@[go_sem] theorem tb_fld255_0 : fld Tryz.prog 255 0 = some (0, 1, false) := by kernel_rfl
@[go_sem] theorem tb_fld255_1 : fld Tryz.prog 255 1 = some (1, 1, false) := by kernel_rfl
@[go_sem] theorem tb_fld255_2 : fld Tryz.prog 255 2 = some (2, 1, false) := by kernel_rfl
@[go_sem] theorem tb_flds255 : flds Tryz.prog 255 = some [(0, 1), (1, 1), (2, 1)] := by kernel_rfl
@[go_sem] theorem tb_fty255 : fldTypes Tryz.prog 255 = [9, 3, 4] := by kernel_rfl
@[go_sem] theorem tb_agg256 : aggB Tryz.prog 256 = some false := by kernel_rfl
@[go_sem] theorem tb_tsz256 : tsz Tryz.prog 256 = some 1 := by kernel_rfl
@[go_sem] theorem tb_kd256 : kindT Tryz.prog 256 = 0 := by kernel_rfl
@[go_sem] theorem tb_esz256 : esz Tryz.prog 256 = some ⟨2, 300⟩ := by kernel_rfl
@[go_sem] theorem tb_app256 : appTy Tryz.prog 256 = some ⟨2, 300⟩ := by kernel_rfl
@[go_sem] theorem tb_arg256 : appArg Tryz.prog 256 = true := by kernel_rfl
@[go_sem] theorem tb_agg258 : aggB Tryz.prog 258 = some true := by kernel_rfl
@[go_sem] theorem tb_tsz258 : tsz Tryz.prog 258 = some 3 := by kernel_rfl
@[go_sem] theorem tb_kd258 : kindT Tryz.prog 258 = 0 := by kernel_rfl
@[go_sem] theorem tb_fld258_0 : fld Tryz.prog 258 0 = some (0, 1, false) := by kernel_rfl
@[go_sem] theorem tb_fld258_1 : fld Tryz.prog 258 1 = some (1, 1, false) := by kernel_rfl
@[go_sem] theorem tb_fld258_2 : fld Tryz.prog 258 2 = some (2, 1, false) := by kernel_rfl
@[go_sem] theorem tb_flds258 : flds Tryz.prog 258 = some [(0, 1), (1, 1), (2, 1)] := by kernel_rfl
@[go_sem] theorem tb_fty258 : fldTypes Tryz.prog 258 = [3, 5, 256] := by kernel_rfl
@[go_sem] theorem tb_agg271 : aggB Tryz.prog 271 = some false := by kernel_rfl
@[go_sem] theorem tb_tsz271 : tsz Tryz.prog 271 = some 1 := by kernel_rfl
@[go_sem] theorem tb_kd271 : kindT Tryz.prog 271 = 3 := by kernel_rfl
@[go_sem] theorem tb_agg273 : aggB Tryz.prog 273 = some false := by kernel_rfl
@[go_sem] theorem tb_tsz273 : tsz Tryz.prog 273 = some 1 := by kernel_rfl
@[go_sem] theorem tb_kd273 : kindT Tryz.prog 273 = 4 := by kernel_rfl
@[go_sem] theorem tb_agg278 : aggB Tryz.prog 278 = some false := by kernel_rfl
@[go_sem] theorem tb_tsz278 : tsz Tryz.prog 278 = some 1 := by kernel_rfl
@[go_sem] theorem tb_kd278 : kindT Tryz.prog 278 = 0 := by kernel_rfl
@[go_sem] theorem tb_agg285 : aggB Tryz.prog 285 = some true := by kernel_rfl
@[go_sem] theorem tb_tsz285 : tsz Tryz.prog 285 = some 24 := by kernel_rfl
@[go_sem] theorem tb_kd285 : kindT Tryz.prog 285 = 0 := by kernel_rfl
@[go_sem] theorem tb_arr285 : arr Tryz.prog 285 = some (24, 1) := by kernel_rfl
@[go_sem] theorem tb_agg290 : aggB Tryz.prog 290 = some false := by kernel_rfl
@[go_sem] theorem tb_tsz290 : tsz Tryz.prog 290 = some 1 := by kernel_rfl
@[go_sem] theorem tb_kd290 : kindT Tryz.prog 290 = 4 := by kernel_rfl
@[go_sem] theorem tb_agg292 : aggB Tryz.prog 292 = some true := by kernel_rfl
@[go_sem] theorem tb_tsz292 : tsz Tryz.prog 292 = some 3 := by kernel_rfl
@[go_sem] theorem tb_kd292 : kindT Tryz.prog 292 = 0 := by kernel_rfl
@[go_sem] theorem tb_fld292_0 : fld Tryz.prog 292 0 = some (0, 1, false) := by kernel_rfl
@[go_sem] theorem tb_fld292_1 : fld Tryz.prog 292 1 = some (1, 1, false) := by kernel_rfl
@[go_sem] theorem tb_fld292_2 : fld Tryz.prog 292 2 = some (2, 1, false) := by kernel_rfl
@[go_sem] theorem tb_flds292 : flds Tryz.prog 292 = some [(0, 1), (1, 1), (2, 1)] := by kernel_rfl
@[go_sem] theorem tb_fty292 : fldTypes Tryz.prog 292 = [9, 3, 4] := by kernel_rfl
@[go_sem] theorem tb_agg300 : aggB Tryz.prog 300 = some true := by kernel_rfl
@[go_sem] theorem tb_tsz300 : tsz Tryz.prog 300 = some 2 := by kernel_rfl
@[go_sem] theorem tb_kd300 : kindT Tryz.prog 300 = 0 := by kernel_rfl
@[go_sem] theorem tb_fld300_0 : fld Tryz.prog 300 0 = some (0, 1, false) := by kernel_rfl
@[go_sem] theorem tb_fld300_1 : fld Tryz.prog 300 1 = some (1, 1, false) := by kernel_rfl
@[go_sem] theorem tb_flds300 : flds Tryz.prog 300 = some [(0, 1), (1, 1)] := by kernel_rfl
@[go_sem] theorem tb_fty300 : fldTypes Tryz.prog 300 = [5, 5] := by kernel_rfl
@[go_sem] theorem tb_agg309 : aggB Tryz.prog 309 = some false := by kernel_rfl
@[go_sem] theorem tb_tsz309 : tsz Tryz.prog 309 = some 1 := by kernel_rfl
@[go_sem] theorem tb_kd309 : kindT Tryz.prog 309 = 4 := by kernel_rfl
@[go_sem] theorem tb_agg315 : aggB Tryz.prog 315 = some true := by kernel_rfl
@[go_sem] theorem tb_tsz315 : tsz Tryz.prog 315 = some 4 := by kernel_rfl
@[go_sem] theorem tb_kd315 : kindT Tryz.prog 315 = 0 := by kernel_rfl
@[go_sem] theorem tb_arr315 : arr Tryz.prog 315 = some (4, 1) := by kernel_rfl
@[go_sem] theorem tb_agg316 : aggB Tryz.prog 316 = some false := by kernel_rfl
@[go_sem] theorem tb_tsz316 : tsz Tryz.prog 316 = some 1 := by kernel_rfl
@[go_sem] theorem tb_kd316 : kindT Tryz.prog 316 = 0 := by kernel_rfl
@[go_sem] theorem tb_esz316 : esz Tryz.prog 316 = some ⟨9, 318⟩ := by kernel_rfl
@[go_sem] theorem tb_app316 : appTy Tryz.prog 316 = some ⟨9, 318⟩ := by kernel_rfl
@[go_sem] theorem tb_arg316 : appArg Tryz.prog 316 = true := by kernel_rfl
@[go_sem] theorem tb_agg318 : aggB Tryz.prog 318 = some true := by kernel_rfl
@[go_sem] theorem tb_tsz318 : tsz Tryz.prog 318 = some 9 := by kernel_rfl
@[go_sem] theorem tb_kd318 : kindT Tryz.prog 318 = 0 := by kernel_rfl
@[go_sem] theorem tb_fld318_0 : fld Tryz.prog 318 0 = some (0, 1, false) := by kernel_rfl
@[go_sem] theorem tb_fld318_1 : fld Tryz.prog 318 1 = some (1, 4, true) := by kernel_rfl
@[go_sem] theorem tb_fld318_2 : fld Tryz.prog 318 2 = some (5, 1, false) := by kernel_rfl
@[go_sem] theorem tb_fld318_3 : fld Tryz.prog 318 3 = some (6, 1, false) := by kernel_rfl
@[go_sem] theorem tb_fld318_4 : fld Tryz.prog 318 4 = some (7, 1, false) := by kernel_rfl
@[go_sem] theorem tb_fld318_5 : fld Tryz.prog 318 5 = some (8, 1, false) := by kernel_rfl
@[go_sem] theorem tb_flds318 : flds Tryz.prog 318 = some [(0, 1), (1, 4), (5, 1), (6, 1), (7, 1), (8, 1)] := by kernel_rfl
@[go_sem] theorem tb_fty318 : fldTypes Tryz.prog 318 = [3, 315, 316, 3, 3, 3] := by kernel_rfl
@[go_sem] theorem tb_agg327 : aggB Tryz.prog 327 = some true := by kernel_rfl
@[go_sem] theorem tb_tsz327 : tsz Tryz.prog 327 = some 20 := by kernel_rfl
@[go_sem] theorem tb_kd327 : kindT Tryz.prog 327 = 0 := by kernel_rfl
@[go_sem] theorem tb_arr327 : arr Tryz.prog 327 = some (20, 1) := by kernel_rfl
@[go_sem] theorem tb_agg328 : aggB Tryz.prog 328 = some false := by kernel_rfl
@[go_sem] theorem tb_tsz328 : tsz Tryz.prog 328 = some 1 := by kernel_rfl
@[go_sem] theorem tb_kd328 : kindT Tryz.prog 328 = 0 := by kernel_rfl
@[go_sem] theorem tb_agg329 : aggB Tryz.prog 329 = some true := by kernel_rfl
@[go_sem] theorem tb_tsz329 : tsz Tryz.prog 329 = some 65 := by kernel_rfl
@[go_sem] theorem tb_kd329 : kindT Tryz.prog 329 = 0 := by kernel_rfl
@[go_sem] theorem tb_arr329 : arr Tryz.prog 329 = some (65, 1) := by kernel_rfl
@[go_sem] theorem tb_agg333 : aggB Tryz.prog 333 = some false := by kernel_rfl
@[go_sem] theorem tb_tsz333 : tsz Tryz.prog 333 = some 1 := by kernel_rfl
@[go_sem] theorem tb_kd333 : kindT Tryz.prog 333 = 0 := by kernel_rfl
@[go_sem] theorem tb_agg336 : aggB Tryz.prog 336 = some false := by kernel_rfl
@[go_sem] theorem tb_tsz336 : tsz Tryz.prog 336 = some 1 := by kernel_rfl
@[go_sem] theorem tb_kd336 : kindT Tryz.prog 336 = 4 := by kernel_rfl
@[go_sem] theorem tb_agg340 : aggB Tryz.prog 340 = some false := by kernel_rfl
@[go_sem] theorem tb_tsz340 : tsz Tryz.prog 340 = some 1 := by kernel_rfl
@[go_sem] theorem tb_kd340 : kindT Tryz.prog 340 = 4 := by kernel_rfl
@[go_sem] theorem tb_agg342 : aggB Tryz.prog 342 = some true := by kernel_rfl
@[go_sem] theorem tb_tsz342 : tsz Tryz.prog 342 = some 3 := by kernel_rfl
@[go_sem] theorem tb_kd342 : kindT Tryz.prog 342 = 0 := by kernel_rfl
@[go_sem] theorem tb_fld342_0 : fld Tryz.prog 342 0 = some (0, 1, false) := by kernel_rfl
@[go_sem] theorem tb_fld342_1 : fld Tryz.prog 342 1 = some (1, 1, false) := by kernel_rfl
@[go_sem] theorem tb_fld342_2 : fld Tryz.prog 342 2 = some (2, 1, false) := by kernel_rfl
@[go_sem] theorem tb_flds342 : flds Tryz.prog 342 = some [(0, 1), (1, 1), (2, 1)] := by kernel_rfl
@[go_sem] theorem tb_fty342 : fldTypes Tryz.prog 342 = [22, 3, 3] := by kernel_rfl
@[go_sem] theorem tb_agg344 : aggB Tryz.prog 344 = some false := by kernel_rfl
@[go_sem] theorem tb_tsz344 : tsz Tryz.prog 344 = some 1 := by kernel_rfl
@[go_sem] theorem tb_kd344 : kindT Tryz.prog 344 = 4 := by kernel_rfl
@[go_sem] theorem tb_agg346 : aggB Tryz.prog 346 = some true := by kernel_rfl
@[go_sem] theorem tb_tsz346 : tsz Tryz.prog 346 = some 3 := by kernel_rfl
@[go_sem] theorem tb_kd346 : kindT Tryz.prog 346 = 0 := by kernel_rfl
@[go_sem] theorem tb_fld346_0 : fld Tryz.prog 346 0 = some (0, 1, false) := by kernel_rfl
@[go_sem] theorem tb_fld346_1 : fld Tryz.prog 346 1 = some (1, 1, false) := by kernel_rfl
@[go_sem] theorem tb_fld346_2 : fld Tryz.prog 346 2 = some (2, 1, false) := by kernel_rfl
@[go_sem] theorem tb_flds346 : flds Tryz.prog 346 = some [(0, 1), (1, 1), (2, 1)] := by kernel_rfl
@[go_sem] theorem tb_fty346 : fldTypes Tryz.prog 346 = [22, 3, 25] := by kernel_rfl
@[go_sem] theorem tb_agg349 : aggB Tryz.prog 349 = some true := by kernel_rfl
@[go_sem] theorem tb_tsz349 : tsz Tryz.prog 349 = some 12 := by kernel_rfl
@[go_sem] theorem tb_kd349 : kindT Tryz.prog 349 = 0 := by kernel_rfl
@[go_sem] theorem tb_fld349_0 : fld Tryz.prog 349 0 = some (0, 2, true) := by kernel_rfl
@[go_sem] theorem tb_fld349_1 : fld Tryz.prog 349 1 = some (2, 1, false) := by kernel_rfl
@[go_sem] theorem tb_fld349_2 : fld Tryz.prog 349 2 = some (3, 9, true) := by kernel_rfl
@[go_sem] theorem tb_flds349 : flds Tryz.prog 349 = some [(0, 2), (2, 1), (3, 9)] := by kernel_rfl
@[go_sem] theorem tb_fty349 : fldTypes Tryz.prog 349 = [170, 209, 318] := by kernel_rfl
@[go_sem] theorem tb_agg352 : aggB Tryz.prog 352 = some false := by kernel_rfl
@[go_sem] theorem tb_tsz352 : tsz Tryz.prog 352 = some 1 := by kernel_rfl
@[go_sem] theorem tb_kd352 : kindT Tryz.prog 352 = 4 := by kernel_rfl
@[go_sem] theorem tb_agg354 : aggB Tryz.prog 354 = some true := by kernel_rfl
@[go_sem] theorem tb_tsz354 : tsz Tryz.prog 354 = some 4 := by kernel_rfl
@[go_sem] theorem tb_kd354 : kindT Tryz.prog 354 = 0 := by kernel_rfl
@[go_sem] theorem tb_fld354_0 : fld Tryz.prog 354 0 = some (0, 1, false) := by kernel_rfl
@[go_sem] theorem tb_fld354_1 : fld Tryz.prog 354 1 = some (1, 1, false) := by kernel_rfl
@[go_sem] theorem tb_fld354_2 : fld Tryz.prog 354 2 = some (2, 1, false) := by kernel_rfl
@[go_sem] theorem tb_fld354_3 : fld Tryz.prog 354 3 = some (3, 1, false) := by kernel_rfl
@[go_sem] theorem tb_flds354 : flds Tryz.prog 354 = some [(0, 1), (1, 1), (2, 1), (3, 1)] := by kernel_rfl
@[go_sem] theorem tb_fty354 : fldTypes Tryz.prog 354 = [9, 3, 3, 3] := by kernel_rfl
@[go_sem] theorem tb_agg359 : aggB Tryz.prog 359 = some true := by kernel_rfl
@[go_sem] theorem tb_tsz359 : tsz Tryz.prog 359 = some 256 := by kernel_rfl
@[go_sem] theorem tb_kd359 : kindT Tryz.prog 359 = 0 := by kernel_rfl
@[go_sem] theorem tb_arr359 : arr Tryz.prog 359 = some (256, 1) := by kernel_rfl
@[go_sem] theorem tb_agg361 : aggB Tryz.prog 361 = some true := by kernel_rfl
@[go_sem] theorem tb_tsz361 : tsz Tryz.prog 361 = some 2 := by kernel_rfl
@[go_sem] theorem tb_kd361 : kindT Tryz.prog 361 = 0 := by kernel_rfl
@[go_sem] theorem tb_fld361_0 : fld Tryz.prog 361 0 = some (0, 1, false) := by kernel_rfl
@[go_sem] theorem tb_fld361_1 : fld Tryz.prog 361 1 = some (1, 1, false) := by kernel_rfl
@[go_sem] theorem tb_flds361 : flds Tryz.prog 361 = some [(0, 1), (1, 1)] := by kernel_rfl
@[go_sem] theorem tb_fty361 : fldTypes Tryz.prog 361 = [5, 5] := by kernel_rfl
@[go_sem] theorem tb_agg362 : aggB Tryz.prog 362 = some true := by kernel_rfl
@[go_sem] theorem tb_tsz362 : tsz Tryz.prog 362 = some 32 := by kernel_rfl
@[go_sem] theorem tb_kd362 : kindT Tryz.prog 362 = 0 := by kernel_rfl
@[go_sem] theorem tb_arr362 : arr Tryz.prog 362 = some (16, 2) := by kernel_rfl
@[go_sem] theorem tb_agg367 : aggB Tryz.prog 367 = some true := by kernel_rfl
@[go_sem] theorem tb_tsz367 : tsz Tryz.prog 367 = some 3 := by kernel_rfl
@[go_sem] theorem tb_kd367 : kindT Tryz.prog 367 = 0 := by kernel_rfl
@[go_sem] theorem tb_fld367_0 : fld Tryz.prog 367 0 = some (0, 1, false) := by kernel_rfl
@[go_sem] theorem tb_fld367_1 : fld Tryz.prog 367 1 = some (1, 1, false) := by kernel_rfl
@[go_sem] theorem tb_fld367_2 : fld Tryz.prog 367 2 = some (2, 1, false) := by kernel_rfl
@[go_sem] theorem tb_flds367 : flds Tryz.prog 367 = some [(0, 1), (1, 1), (2, 1)] := by kernel_rfl
@[go_sem] theorem tb_fty367 : fldTypes Tryz.prog 367 = [9, 9, 181] := by kernel_rfl
@[go_sem] theorem tb_agg370 : aggB Tryz.prog 370 = some false := by kernel_rfl
@[go_sem] theorem tb_tsz370 : tsz Tryz.prog 370 = some 1 := by kernel_rfl
@[go_sem] theorem tb_kd370 : kindT Tryz.prog 370 = 4 := by kernel_rfl
@[go_sem] theorem tb_agg372 : aggB Tryz.prog 372 = some true := by kernel_rfl
@[go_sem] theorem tb_tsz372 : tsz Tryz.prog 372 = some 4 := by kernel_rfl
@[go_sem] theorem tb_kd372 : kindT Tryz.prog 372 = 0 := by kernel_rfl
@[go_sem] theorem tb_fld372_0 : fld Tryz.prog 372 0 = some (0, 1, false) := by kernel_rfl
@[go_sem] theorem tb_fld372_1 : fld Tryz.prog 372 1 = some (1, 1, false) := by kernel_rfl
@[go_sem] theorem tb_fld372_2 : fld Tryz.prog 372 2 = some (2, 1, false) := by kernel_rfl
@[go_sem] theorem tb_fld372_3 : fld Tryz.prog 372 3 = some (3, 1, false) := by kernel_rfl
@[go_sem] theorem tb_flds372 : flds Tryz.prog 372 = some [(0, 1), (1, 1), (2, 1), (3, 1)] := by kernel_rfl
@[go_sem] theorem tb_fty372 : fldTypes Tryz.prog 372 = [9, 3, 3, 25] := by kernel_rfl
@[go_sem] theorem tb_agg379 : aggB Tryz.prog 379 = some true := by kernel_rfl
@[go_sem] theorem tb_tsz379 : tsz Tryz.prog 379 = some 32 := by kernel_rfl
@[go_sem] theorem tb_kd379 : kindT Tryz.prog 379 = 0 := by kernel_rfl
@[go_sem] theorem tb_arr379 : arr Tryz.prog 379 = some (32, 1) := by kernel_rfl
@[go_sem] theorem tb_agg380 : aggB Tryz.prog 380 = some true := by kernel_rfl
@[go_sem] theorem tb_tsz380 : tsz Tryz.prog 380 = some 64 := by kernel_rfl
@[go_sem] theorem tb_kd380 : kindT Tryz.prog 380 = 0 := by kernel_rfl
@[go_sem] theorem tb_arr380 : arr Tryz.prog 380 = some (64, 1) := by kernel_rfl
@[go_sem] theorem tb_agg381 : aggB Tryz.prog 381 = some false := by kernel_rfl
@[go_sem] theorem tb_tsz381 : tsz Tryz.prog 381 = some 1 := by kernel_rfl
@[go_sem] theorem tb_kd381 : kindT Tryz.prog 381 = 4 := by kernel_rfl
@[go_sem] theorem tb_agg383 : aggB Tryz.prog 383 = some true := by kernel_rfl
@[go_sem] theorem tb_tsz383 : tsz Tryz.prog 383 = some 1 := by kernel_rfl
@[go_sem] theorem tb_kd383 : kindT Tryz.prog 383 = 0 := by kernel_rfl
@[go_sem] theorem tb_fld383_0 : fld Tryz.prog 383 0 = some (0, 1, false) := by kernel_rfl
@[go_sem] theorem tb_flds383 : flds Tryz.prog 383 = some [(0, 1)] := by kernel_rfl
@[go_sem] theorem tb_fty383 : fldTypes Tryz.prog 383 = [9] := by kernel_rfl
@[go_sem] theorem tb_agg387 : aggB Tryz.prog 387 = some true := by kernel_rfl
@[go_sem] theorem tb_tsz387 : tsz Tryz.prog 387 = some 1 := by kernel_rfl
@[go_sem] theorem tb_kd387 : kindT Tryz.prog 387 = 0 := by kernel_rfl
@[go_sem] theorem tb_fld387_0 : fld Tryz.prog 387 0 = some (0, 1, false) := by kernel_rfl
@[go_sem] theorem tb_flds387 : flds Tryz.prog 387 = some [(0, 1)] := by kernel_rfl
@[go_sem] theorem tb_fty387 : fldTypes Tryz.prog 387 = [3] := by kernel_rfl
@[go_sem] theorem tb_agg393 : aggB Tryz.prog 393 = some false := by kernel_rfl
@[go_sem] theorem tb_tsz393 : tsz Tryz.prog 393 = some 1 := by kernel_rfl
@[go_sem] theorem tb_kd393 : kindT Tryz.prog 393 = 4 := by kernel_rfl
@[go_sem] theorem tb_z3 : zeroA Tryz.prog 3 = some [.int .i64 0] := by kernel_rfl
@[go_sem] theorem tb_z5 : zeroA Tryz.prog 5 = some [.int .u8 0] := by kernel_rfl
@[go_sem] theorem tb_z9 : zeroA Tryz.prog 9 = some [.str []] := by kernel_rfl
@[go_sem] theorem tb_z30 : zeroA Tryz.prog 30 = some [.sl .nil ⟨2, 78⟩ []] := by kernel_rfl
@[go_sem] theorem tb_z32 : zeroA Tryz.prog 32 = some [.int .i64 0, .str [], .int .i64 0, .sl .nil ⟨2, 78⟩ [], .int .i64 0] := by kernel_rfl
@[go_sem] theorem tb_z47 : zeroA Tryz.prog 47 = some [.int .i64 0, .sl .nil ⟨3, 103⟩ []] := by kernel_rfl
@[go_sem] theorem tb_z73 : zeroA Tryz.prog 73 = some [.int .i64 0, .int .i64 0, .str [], .str [], .sl .nil ⟨5, 73⟩ []] := by kernel_rfl
@[go_sem] theorem tb_z76 : zeroA Tryz.prog 76 = some [.int .i64 0, .str [], .int .i64 0, .sl .nil ⟨2, 78⟩ [], .int .i64 0, .int .i64 0, .str [], .str [], .sl .nil ⟨5, 73⟩ [], .sl .nil ⟨13, 76⟩ [], .sl .nil ⟨13, 76⟩ [], .sl .nil ⟨6, 172⟩ [], .int .i64 0] := by kernel_rfl
@[go_sem] theorem tb_z78 : zeroA Tryz.prog 78 = some [.str [], .str []] := by kernel_rfl
@[go_sem] theorem tb_z92 : zeroA Tryz.prog 92 = some [.str [], .int .i64 0] := by kernel_rfl
@[go_sem] theorem tb_z100 : zeroA Tryz.prog 100 = some [.int .i64 0, .str [], .int .i64 0, .int .i64 0, .int .i64 0] := by kernel_rfl
@[go_sem] theorem tb_z103 : zeroA Tryz.prog 103 = some [.str [], .bool false, .sl .nil ⟨5, 100⟩ []] := by kernel_rfl
@[go_sem] theorem tb_z105 : zeroA Tryz.prog 105 = some [.sl .nil ⟨5, 32⟩ []] := by kernel_rfl
@[go_sem] theorem tb_z122 : zeroA Tryz.prog 122 = some [.str [], .sl .nil ⟨5, 32⟩ [], .int .i64 0, .nilp, .sl .nil ⟨2, 130⟩ [], .sl .nil ⟨4, 217⟩ [], .int .i64 0, .sl .nil ⟨3, 103⟩ []] := by kernel_rfl
@[go_sem] theorem tb_z130 : zeroA Tryz.prog 130 = some [.int .i64 0, .int .i64 0] := by kernel_rfl
@[go_sem] theorem tb_z135 : zeroA Tryz.prog 135 = some [.str [], .sl .nil ⟨5, 32⟩ [], .int .i64 0, .int .i64 0, .int .i64 0, .int .i64 0, .int .i64 0, .sl .nil ⟨1, 9⟩ [], .sl .nil ⟨1, 3⟩ []] := by kernel_rfl
@[go_sem] theorem tb_z149 : zeroA Tryz.prog 149 = some [.str [], .sl .nil ⟨5, 32⟩ [], .int .i64 0, .int .i64 0, .int .i64 0] := by kernel_rfl
@[go_sem] theorem tb_z153 : zeroA Tryz.prog 153 = some [.str [], .sl .nil ⟨5, 32⟩ [], .int .i64 0, .int .i64 0, .int .i64 0] := by kernel_rfl
@[go_sem] theorem tb_z157 : zeroA Tryz.prog 157 = some [.int .i64 0, .sl .nil ⟨1, 9⟩ [], .sl .nil ⟨1, 9⟩ [], .sl .nil ⟨1, 9⟩ [], .int .i64 0, .int .i64 0, .int .i64 0] := by kernel_rfl
@[go_sem] theorem tb_z160 : zeroA Tryz.prog 160 = some [.bool false, .bool false] := by kernel_rfl
@[go_sem] theorem tb_z164 : zeroA Tryz.prog 164 = some [.int .i64 0, .sl .nil ⟨1, 9⟩ [], .sl .nil ⟨1, 9⟩ [], .sl .nil ⟨1, 9⟩ [], .int .i64 0, .int .i64 0, .int .i64 0] := by kernel_rfl
@[go_sem] theorem tb_z170 : zeroA Tryz.prog 170 = some [.int .i64 0, .str []] := by kernel_rfl
@[go_sem] theorem tb_z172 : zeroA Tryz.prog 172 = some [.int .i64 0, .int .i64 0, .int .i64 0, .str [], .sl .nil ⟨13, 76⟩ [], .int .i64 0] := by kernel_rfl
@[go_sem] theorem tb_z179 : zeroA Tryz.prog 179 = some [.nilp, .sl .nil ⟨1, 5⟩ []] := by kernel_rfl
@[go_sem] theorem tb_z217 : zeroA Tryz.prog 217 = some [.int .i64 0, .int .i64 0, .str [], .int .i64 0] := by kernel_rfl
@[go_sem] theorem tb_z228 : zeroA Tryz.prog 228 = some [.sl .nil ⟨5, 32⟩ []] := by kernel_rfl
@[go_sem] theorem tb_z237 : zeroA Tryz.prog 237 = some [.bool false, .bool false, .bool false, .bool false, .bool false, .bool false, .bool false, .bool false, .bool false, .bool false, .bool false, .bool false, .bool false, .bool false, .bool false, .bool false, .bool false, .bool false, .bool false, .bool false, .bool false, .bool false, .bool false, .bool false, .bool false, .bool false, .bool false, .bool false, .bool false, .bool false, .bool false, .bool false, .bool false, .bool false, .bool false, .bool false, .bool false, .bool false, .bool false, .bool false, .bool false, .bool false, .bool false, .bool false, .bool false, .bool false, .bool false, .bool false, .bool false, .bool false, .bool false, .bool false, .bool false, .bool false, .bool false, .bool false, .bool false, .bool false, .bool false, .bool false, .bool false, .bool false, .bool false, .bool false, .bool false, .bool false, .bool false, .bool false, .bool false, .bool false, .bool false, .bool false, .bool false, .bool false, .bool false, .bool false, .bool false, .bool false, .bool false, .bool false, .bool false, .bool false, .bool false, .bool false, .bool false, .bool false, .bool false, .bool false, .bool false, .bool false, .bool false, .bool false, .bool false, .bool false, .bool false, .bool false, .bool false, .bool false, .bool false, .bool false, .bool false, .bool false, .bool false, .bool false, .bool false, .bool false, .bool false, .bool false, .bool false, .bool false, .bool false, .bool false, .bool false, .bool false, .bool false, .bool false, .bool false, .bool false, .bool false, .bool false, .bool false, .bool false, .bool false, .bool false, .bool false, .bool false, .bool false, .bool false, .bool false, .bool false, .bool false, .bool false, .bool false, .bool false, .bool false, .bool false, .bool false, .bool false, .bool false, .bool false, .bool false, .bool false, .bool false, .bool false, .bool false, .bool false, .bool false, .bool false, .bool false, .bool false, .bool false, .bool false, .bool false, .bool false, .bool false, .bool false, .bool false, .bool false, .bool false, .bool false, .bool false, .bool false, .bool false, .bool false, .bool false, .bool false, .bool false, .bool false, .bool false, .bool false, .bool false, .bool false, .bool false, .bool false, .bool false, .bool false, .bool false, .bool false, .bool false, .bool false, .bool false, .bool false, .bool false, .bool false, .bool false, .bool false, .bool false, .bool false, .bool false, .bool false, .bool false, .bool false, .bool false, .bool false, .bool false, .bool false, .bool false, .bool false, .bool false, .bool false, .bool false, .bool false, .bool false, .bool false, .bool false, .bool false, .bool false, .bool false, .bool false, .bool false, .bool false, .bool false, .bool false, .bool false, .bool false, .bool false, .bool false, .bool false, .bool false, .bool false, .bool false, .bool false, .bool false, .bool false, .bool false, .bool false, .bool false, .bool false, .bool false, .bool false, .bool false, .bool false, .bool false, .bool false, .bool false, .bool false, .bool false, .bool false, .bool false, .bool false, .bool false, .bool false, .bool false, .bool false, .bool false, .bool false, .bool false, .bool false, .bool false, .bool false, .bool false, .bool false, .bool false, .bool false, .bool false, .bool false] := by kernel_rfl
@[go_sem] theorem tb_z255 : zeroA Tryz.prog 255 = some [.str [], .int .i64 0, .bool false] := by kernel_rfl
@[go_sem] theorem tb_z258 : zeroA Tryz.prog 258 = some [.int .i64 0, .int .u8 0, .sl .nil ⟨2, 300⟩ []] := by kernel_rfl
@[go_sem] theorem tb_z285 : zeroA Tryz.prog 285 = some [.int .u8 0, .int .u8 0, .int .u8 0, .int .u8 0, .int .u8 0, .int .u8 0, .int .u8 0, .int .u8 0, .int .u8 0, .int .u8 0, .int .u8 0, .int .u8 0, .int .u8 0, .int .u8 0, .int .u8 0, .int .u8 0, .int .u8 0, .int .u8 0, .int .u8 0, .int .u8 0, .int .u8 0, .int .u8 0, .int .u8 0, .int .u8 0] := by kernel_rfl
@[go_sem] theorem tb_z292 : zeroA Tryz.prog 292 = some [.str [], .int .i64 0, .bool false] := by kernel_rfl
@[go_sem] theorem tb_z300 : zeroA Tryz.prog 300 = some [.int .u8 0, .int .u8 0] := by kernel_rfl
@[go_sem] theorem tb_z315 : zeroA Tryz.prog 315 = some [.int .u64 0, .int .u64 0, .int .u64 0, .int .u64 0] := by kernel_rfl
@[go_sem] theorem tb_z318 : zeroA Tryz.prog 318 = some [.int .i64 0, .int .u64 0, .int .u64 0, .int .u64 0, .int .u64 0, .sl .nil ⟨9, 318⟩ [], .int .i64 0, .int .i64 0, .int .i64 0] := by kernel_rfl
@[go_sem] theorem tb_z327 : zeroA Tryz.prog 327 = some [.int .u64 0, .int .u64 0, .int .u64 0, .int .u64 0, .int .u64 0, .int .u64 0, .int .u64 0, .int .u64 0, .int .u64 0, .int .u64 0, .int .u64 0, .int .u64 0, .int .u64 0, .int .u64 0, .int .u64 0, .int .u64 0, .int .u64 0, .int .u64 0, .int .u64 0, .int .u64 0] := by kernel_rfl
@[go_sem] theorem tb_z329 : zeroA Tryz.prog 329 = some [.int .u8 0, .int .u8 0, .int .u8 0, .int .u8 0, .int .u8 0, .int .u8 0, .int .u8 0, .int .u8 0, .int .u8 0, .int .u8 0, .int .u8 0, .int .u8 0, .int .u8 0, .int .u8 0, .int .u8 0, .int .u8 0, .int .u8 0, .int .u8 0, .int .u8 0, .int .u8 0, .int .u8 0, .int .u8 0, .int .u8 0, .int .u8 0, .int .u8 0, .int .u8 0, .int .u8 0, .int .u8 0, .int .u8 0, .int .u8 0, .int .u8 0, .int .u8 0, .int .u8 0, .int .u8 0, .int .u8 0, .int .u8 0, .int .u8 0, .int .u8 0, .int .u8 0, .int .u8 0, .int .u8 0, .int .u8 0, .int .u8 0, .int .u8 0, .int .u8 0, .int .u8 0, .int .u8 0, .int .u8 0, .int .u8 0, .int .u8 0, .int .u8 0, .int .u8 0, .int .u8 0, .int .u8 0, .int .u8 0, .int .u8 0, .int .u8 0, .int .u8 0, .int .u8 0, .int .u8 0, .int .u8 0, .int .u8 0, .int .u8 0, .int .u8 0, .int .u8 0] := by kernel_rfl
@[go_sem] theorem tb_z342 : zeroA Tryz.prog 342 = some [.sl .nil ⟨5, 32⟩ [], .int .i64 0, .int .i64 0] := by kernel_rfl
@[go_sem] theorem tb_z346 : zeroA Tryz.prog 346 = some [.sl .nil ⟨5, 32⟩ [], .int .i64 0, .int .i64 0] := by kernel_rfl
@[go_sem] theorem tb_z349 : zeroA Tryz.prog 349 = some [.int .i64 0, .str [], .sl .nil ⟨3, 258⟩ [], .int .i64 0, .int .u64 0, .int .u64 0, .int .u64 0, .int .u64 0, .sl .nil ⟨9, 318⟩ [], .int .i64 0, .int .i64 0, .int .i64 0] := by kernel_rfl
@[go_sem] theorem tb_z354 : zeroA Tryz.prog 354 = some [.str [], .int .i64 0, .int .i64 0, .int .i64 0] := by kernel_rfl
@[go_sem] theorem tb_z361 : zeroA Tryz.prog 361 = some [.int .u8 0, .int .u8 0] := by kernel_rfl
@[go_sem] theorem tb_z362 : zeroA Tryz.prog 362 = some [.int .u8 0, .int .u8 0, .int .u8 0, .int .u8 0, .int .u8 0, .int .u8 0, .int .u8 0, .int .u8 0, .int .u8 0, .int .u8 0, .int .u8 0, .int .u8 0, .int .u8 0, .int .u8 0, .int .u8 0, .int .u8 0, .int .u8 0, .int .u8 0, .int .u8 0, .int .u8 0, .int .u8 0, .int .u8 0, .int .u8 0, .int .u8 0, .int .u8 0, .int .u8 0, .int .u8 0, .int .u8 0, .int .u8 0, .int .u8 0, .int .u8 0, .int .u8 0] := by kernel_rfl
@[go_sem] theorem tb_z367 : zeroA Tryz.prog 367 = some [.str [], .str [], .nili] := by kernel_rfl
@[go_sem] theorem tb_z372 : zeroA Tryz.prog 372 = some [.str [], .int .i64 0, .int .i64 0, .int .i64 0] := by kernel_rfl
@[go_sem] theorem tb_z379 : zeroA Tryz.prog 379 = some [.int .u8 0, .int .u8 0, .int .u8 0, .int .u8 0, .int .u8 0, .int .u8 0, .int .u8 0, .int .u8 0, .int .u8 0, .int .u8 0, .int .u8 0, .int .u8 0, .int .u8 0, .int .u8 0, .int .u8 0, .int .u8 0, .int .u8 0, .int .u8 0, .int .u8 0, .int .u8 0, .int .u8 0, .int .u8 0, .int .u8 0, .int .u8 0, .int .u8 0, .int .u8 0, .int .u8 0, .int .u8 0, .int .u8 0, .int .u8 0, .int .u8 0, .int .u8 0] := by kernel_rfl
@[go_sem] theorem tb_z380 : zeroA Tryz.prog 380 = some [.int .u8 0, .int .u8 0, .int .u8 0, .int .u8 0, .int .u8 0, .int .u8 0, .int .u8 0, .int .u8 0, .int .u8 0, .int .u8 0, .int .u8 0, .int .u8 0, .int .u8 0, .int .u8 0, .int .u8 0, .int .u8 0, .int .u8 0, .int .u8 0, .int .u8 0, .int .u8 0, .int .u8 0, .int .u8 0, .int .u8 0, .int .u8 0, .int .u8 0, .int .u8 0, .int .u8 0, .int .u8 0, .int .u8 0, .int .u8 0, .int .u8 0, .int .u8 0, .int .u8 0, .int .u8 0, .int .u8 0, .int .u8 0, .int .u8 0, .int .u8 0, .int .u8 0, .int .u8 0, .int .u8 0, .int .u8 0, .int .u8 0, .int .u8 0, .int .u8 0, .int .u8 0, .int .u8 0, .int .u8 0, .int .u8 0, .int .u8 0, .int .u8 0, .int .u8 0, .int .u8 0, .int .u8 0, .int .u8 0, .int .u8 0, .int .u8 0, .int .u8 0, .int .u8 0, .int .u8 0, .int .u8 0, .int .u8 0, .int .u8 0, .int .u8 0] := by kernel_rfl
@[go_sem] theorem tb_z383 : zeroA Tryz.prog 383 = some [.str []] := by kernel_rfl
@[go_sem] theorem tb_z387 : zeroA Tryz.prog 387 = some [.int .i64 0] := by kernel_rfl
end Go.Pv
/- Words that the laws of the program's functions use. -/
namespace Go.Pv
open Go
abbrev byte (c : UInt8) : AV := .int .u8 c.toNat
abbrev i64 (n : Int) : AV := .int .i64 n
def letter (c : UInt8) : Bool := decide (97 ≤ c.toNat ∧ c.toNat ≤ 122)
def digit (c : UInt8) : Bool := decide (48 ≤ c.toNat ∧ c.toNat ≤ 57)
def within (c : UInt8) : Bool := letter c || digit c || decide (c.toNat = 95)
theorem u8_eq (c : UInt8) (n : Nat) (hn : n < 256) : c.toNat = n ↔ c = UInt8.ofNat n := by
  constructor
  · intro h; rw [← h]; simp
  · intro h; subst h; simp; omega
theorem u8_inj (c d : UInt8) : c.toNat = d.toNat ↔ c = d := ⟨fun h => UInt8.toNat_inj.1 h, fun h => h ▸ rfl⟩
theorem wrap_id (n : Int) (h1 : -9223372036854775808 ≤ n) (h2 : n < 9223372036854775808) : IntKind.i64.wrap n = n := by
  rw [IntKind.wrap_i64]; omega
theorem wrap_succ (i n : Nat) (h : i < n) (hn : n ≤ 4611686018427387904) : IntKind.i64.wrap ((i : Int) + 1) = ((i + 1 : Nat) : Int) := by
  rw [IntKind.wrap_i64]; omega
end Go.Pv
/- Laws of small functions. -/
namespace Go.Pv
open Go Go.Proofs
set_option maxRecDepth 4000
set_option linter.unusedSimpArgs false
variable {Prim : CallRel}
theorem c125 (c : UInt8) : Ret Tryz.prog Prim 125 [byte c] [] (.bool (letter c)) [] := by
  refine ret_intro Tryz.func125 rfl Tryz.results125 (by decide +kernel) rfl (Nat.le_refl _) rfl (by simp) ?_
  simp -implicitDefEqProofs only [Nat.reduceEqDiff, reduceCtorEq, go_sem, ↓reduceIte]
  simp [letter]
  grind
theorem c126 (c : UInt8) : Ret Tryz.prog Prim 126 [byte c] [] (.bool (within c)) [] := by
  refine ret_intro Tryz.func126 rfl Tryz.results126 (by decide +kernel) rfl (Nat.le_refl _) rfl (by simp) ?_
  simp -implicitDefEqProofs only [Nat.reduceEqDiff, reduceCtorEq, go_sem, ↓reduceIte]
  refine callW_pure (c125 _) rfl rfl ?_
  simp -implicitDefEqProofs only [Nat.reduceEqDiff, reduceCtorEq, go_sem, ↓reduceIte]
  simp [within, digit]
  grind
def small (c : UInt8) (b : Bool) : Bool := letter c || b && (digit c || decide (c.toNat = 95))
theorem c135 (c : UInt8) (b : Bool) : Ret Tryz.prog Prim 135 [byte c, .bool b] [] (.bool (small c b)) [] := by
  refine ret_intro Tryz.func135 rfl Tryz.results135 (by decide +kernel) rfl (Nat.le_refl _) rfl (by simp) ?_
  simp -implicitDefEqProofs only [Nat.reduceEqDiff, reduceCtorEq, go_sem, ↓reduceIte]
  cases b <;> simp [small, letter, digit] <;> grind
theorem c61 (c : UInt8) (b : Bool) : Ret Tryz.prog Prim 61 [byte c, .bool b] [] (.bool (small c b)) [] := by
  refine ret_intro Tryz.func61 rfl Tryz.results61 (by decide +kernel) rfl (Nat.le_refl _) rfl (by simp) ?_
  simp -implicitDefEqProofs only [Nat.reduceEqDiff, reduceCtorEq, go_sem, ↓reduceIte]
  cases b <;> simp [small, letter, digit] <;> grind
theorem c132 (b : Bool) : Ret Tryz.prog Prim 132 [.bool b] [] (.int .i64 (if b then 0 else 1)) [] := by
  refine ret_intro Tryz.func132 rfl Tryz.results132 (by decide +kernel) rfl (Nat.le_refl _) rfl (by simp) ?_
  simp -implicitDefEqProofs only [Nat.reduceEqDiff, reduceCtorEq, go_sem, ↓reduceIte]
  cases b <;> simp
end Go.Pv
/- Laws of small functions of the references. -/
namespace Go.Pv
open Go Go.Proofs
set_option maxRecDepth 4000
set_option linter.unusedSimpArgs false
variable {Prim : CallRel}
def mag (a : Int) : Int := if a < 0 then -a else a
theorem c127 (a : Int) (h : -9223372036854775808 ≤ a ∧ a < 9223372036854775808) : Ret Tryz.prog Prim 127 [i64 a] [] (.int .u64 (mag a)) [] := by
  refine ret_intro Tryz.func127 rfl Tryz.results127 (by decide +kernel) rfl (Nat.le_refl _) rfl (by simp) ?_
  simp -implicitDefEqProofs only [Nat.reduceEqDiff, reduceCtorEq, go_sem, ↓reduceIte]
  simp [mag, IntKind.wrap_u64]
  omega
def pow63 : Int := 9223372036854775808
def of (neg : Bool) (m : Int) : Int × Int := if neg = true ∧ m = pow63 then (-pow63, 0) else if pow63 ≤ m then (0, 3) else if neg then (-m, 0) else (m, 0)
theorem c199 (neg : Bool) (m : Int) (h : 0 ≤ m ∧ m < 18446744073709551616) : Ret Tryz.prog Prim 199 [.bool neg, .int .u64 m] [] (.tup [i64 (of neg m).1, i64 (of neg m).2]) [] := by
  refine ret_intro Tryz.func199 rfl Tryz.results199 (by decide +kernel) rfl (Nat.le_refl _) rfl (by simp) ?_
  simp -implicitDefEqProofs only [Nat.reduceEqDiff, reduceCtorEq, go_sem, ↓reduceIte]
  cases neg
  · simp [of, pow63, IntKind.wrap_i64]
    grind
  · simp [of, pow63, IntKind.wrap_i64]
    grind
def Flag (w : List UInt8) : Bool := decide (w = [105]) || decide (w = [101, 120]) || decide (w = [103, 108]) || decide (w = [114, 101])
theorem c140 (w : List UInt8) : Ret Tryz.prog Prim 140 [.str w] [] (.bool (Flag w)) [] := by
  refine ret_intro Tryz.func140 rfl Tryz.results140 (by decide +kernel) rfl (Nat.le_refl _) rfl (by simp) ?_
  simp -implicitDefEqProofs only [Nat.reduceEqDiff, reduceCtorEq, go_sem, ↓reduceIte]
  simp [Flag]
  grind
end Go.Pv
/- Laws of functions of quote. -/
namespace Go.Pv
open Go Go.Proofs
set_option maxRecDepth 4000
set_option linter.unusedSimpArgs false
variable {Prim : CallRel}
def nameQ (s : List UInt8) : Bool := if s = [] ∨ s.length > 8 then false else if s.length = 1 then letter (s.getD 0 0) || digit (s.getD 0 0) else letter (s.getD 0 0) && s.all within
theorem c52 (s : List UInt8) : Ret Tryz.prog Prim 52 [.str s] [] (.bool (nameQ s)) [] := by
  refine ret_intro Tryz.func52 rfl Tryz.results52 (by decide +kernel) rfl (Nat.le_refl _) rfl (by simp) ?_
  refine wp_mid [(0, .str s)] [] ?_ fun env ⟨h0, _⟩ => ?_
  · simp -implicitDefEqProofs only [Nat.reduceEqDiff, reduceCtorEq, go_sem, ↓reduceIte]
  refine wp_ghost (A := Unit) (fun _ => nameQ s = s.all within ∧ s.length ≤ 8) (fun _ => []) (fun _ => [(0, .str s)]) ?_ fun _ hs48 env ⟨h0, _⟩ => ?_
  · simp -implicitDefEqProofs only [h0, Nat.reduceEqDiff, reduceCtorEq, go_sem, ↓reduceIte]
    refine ⟨fun he => ⟨fun hl => ?_, fun hl => ⟨fun h1 => ⟨by omega, ?_, ?_⟩, fun h1 => ⟨by omega, ?_, ?_⟩⟩⟩, fun he => ?_⟩
    · simp at hl; simp [nameQ]; omega
    · simp at h1; simp; omega
    · refine callW_pure (c125 _) rfl rfl ?_
      simp -implicitDefEqProofs only [h0, Nat.reduceEqDiff, reduceCtorEq, go_sem, ↓reduceIte]
      simp at h1 hl he
      simp [nameQ, h1, he, digit]
      grind
    · simp at he; exact List.length_pos_iff.2 he
    · refine callW_pure (c125 _) rfl rfl ?_
      simp -implicitDefEqProofs only [h0, Nat.reduceEqDiff, reduceCtorEq, go_sem, ↓reduceIte]
      simp at h1 hl he
      have h2 : ¬ s.length = 1 := by omega
      have h3 : ¬ 8 < s.length := by omega
      simp [nameQ, h2, h3, he]
      grind
    · simp at he; simp [nameQ, he]
  obtain ⟨hn, hl⟩ := hs48
  rw [hn]
  refine wp_ghost (A := Unit) (fun _ => s.all within = true) (fun _ => []) (fun _ => []) ?_ fun _ hall env _ => ?_
  · refine wp_mid [(0, .str s), (36, .int .i64 (0 : Nat)), (35, .int .i64 s.length)] [] ?_ fun env ⟨h0, h24, h23, _⟩ => ?_
    · simp -implicitDefEqProofs only [h0, Nat.reduceEqDiff, reduceCtorEq, go_sem, ↓reduceIte]; rfl
    rw [wp_block_eq]
    refine wp_loop_use (A := Nat) (fun i => [(0, .str s), (36, .int .i64 i), (35, .int .i64 s.length)]) (fun _ => []) (fun i => i ≤ s.length ∧ (s.take i).all within = true) (fun i => s.length - i) 0 (by simp) rfl ⟨h0, h24, h23, trivial⟩ ?_
    intro i hi
    simp -implicitDefEqProofs only [Nat.reduceEqDiff, reduceCtorEq, go_sem, ↓reduceIte]
    refine ⟨fun hlt => ?_, fun hge => ?_⟩
    · simp at hlt
      have hget : s.getD (Int.toNat (i : Int)) 0 = s[i] := by simp [hlt]
      refine ⟨by omega, by simpa using hlt, callW_pure (c126 _) rfl rfl ?_⟩
      simp -implicitDefEqProofs only [Nat.reduceEqDiff, reduceCtorEq, go_sem, ↓reduceIte]
      rw [hget]
      refine ⟨?_, ?_⟩
      · intro h
        simp at h
        have : s.all within = false := List.all_eq_false.2 ⟨s[i], by simp, by simp [h]⟩
        rw [this]
      · intro h
        simp at h
        refine ⟨i + 1, ⟨⟨by omega, ?_⟩, by omega⟩, by rw [wrap_succ i s.length hlt (by omega)]⟩
        rw [List.take_add_one, List.all_append, hi.2]
        simp [hlt, h]
    · simp at hge
      have : i = s.length := by omega
      subst this
      simpa using hi.2
  simp -implicitDefEqProofs only [Nat.reduceEqDiff, reduceCtorEq, go_sem, ↓reduceIte]
  simp [hall]
end Go.Pv
/- Laws of functions of the second reference. -/
namespace Go.Pv
open Go Go.Proofs
set_option maxRecDepth 4000
variable {Prim : CallRel}
def name2 (s : List UInt8) : Bool := if s.length = 1 ∧ digit (s.getD 0 0) = true then true else if s = [] ∨ s.length > 8 then false else letter (s.getD 0 0) && s.all within
theorem name2_false {s : List UInt8} (hf : ¬ (s.length = 1 ∧ digit (s.getD 0 0) = true)) {i : Nat} (hi : i < s.length) (h : small (s.getD i 0) (decide (i > 0)) = false) : name2 s = false := by
  unfold name2
  rw [if_neg hf]
  split
  · rfl
  · cases i with
    | zero => simp [small] at h; simp [h]
    | succ i =>
      have hw : within s[i + 1] = false := by simp [small, hi] at h; simp [within, h]
      have : s.all within = false := List.all_eq_false.2 ⟨s[i + 1], by simp, by simp [hw]⟩
      simp [this]
theorem name2_true {s : List UInt8} (hf : ¬ (s.length = 1 ∧ digit (s.getD 0 0) = true)) (h : ∀ j, j < s.length → small (s.getD j 0) (decide (j > 0)) = true) : name2 s = decide (1 ≤ s.length ∧ s.length ≤ 8) := by
  unfold name2
  rw [if_neg hf]
  by_cases hc : s = [] ∨ s.length > 8
  · rw [if_pos hc]
    rcases hc with hc | hc
    · simp [hc]
    · simp; omega
  · rw [if_neg hc]
    simp only [not_or] at hc
    have hp := List.length_pos_iff.2 hc.1
    have h0 := h 0 hp
    have hall : s.all within = true := by
      rw [List.all_eq_true]
      intro x hx
      obtain ⟨j, hj, rfl⟩ := List.getElem_of_mem hx
      have := h j hj
      simp [small, hj] at this
      simp [within]
      grind
    simp [small] at h0
    simp [h0, hall]
    omega
theorem c22 (s : List UInt8) (hs : s.length ≤ strLim) : Ret Tryz.prog Prim 22 [.str s] [] (.bool (name2 s)) [] := by
  refine ret_intro Tryz.func22 rfl Tryz.results22 (by decide +kernel) rfl (Nat.le_refl _) rfl (by simp) ?_
  refine wp_mid [(0, .str s)] [] ?_ fun env ⟨h0, _⟩ => ?_
  · simp -implicitDefEqProofs only [Nat.reduceEqDiff, Nat.reduceLeDiff, Nat.reduceAdd, reduceCtorEq, go_sem, ↓reduceIte]
  refine wp_ghost (A := Unit) (fun _ => ¬ (s.length = 1 ∧ digit (s.getD 0 0) = true)) (fun _ => []) (fun _ => [(0, .str s)]) ?_ fun _ hf env ⟨h0, _⟩ => ?_
  · simp -implicitDefEqProofs only [h0, Nat.reduceEqDiff, Nat.reduceLeDiff, Nat.reduceAdd, reduceCtorEq, go_sem, ↓reduceIte]
    simp [name2, digit]
    grind
  refine wp_ghost (A := Unit) (fun _ => ∀ j, j < s.length → small (s.getD j 0) (decide (j > 0)) = true) (fun _ => []) (fun _ => [(0, .str s)]) ?_ fun _ hall env ⟨h0, _⟩ => ?_
  · refine wp_mid [(0, .str s), (3, .int .i64 (0 : Nat))] [] ?_ fun env ⟨h0, h3, _⟩ => ?_
    · simp -implicitDefEqProofs only [h0, Nat.reduceEqDiff, Nat.reduceLeDiff, Nat.reduceAdd, reduceCtorEq, go_sem, ↓reduceIte]; rfl
    rw [wp_block_eq]
    refine wp_loop_use (A := Nat) (fun i => [(0, .str s), (3, .int .i64 i)]) (fun _ => []) (fun i => i ≤ s.length ∧ (∀ j, j < i → small (s.getD j 0) (decide (j > 0)) = true)) (fun i => s.length - i) 0 (by simp) rfl ⟨h0, h3, trivial⟩ ?_
    intro i hi
    simp -implicitDefEqProofs only [Nat.reduceEqDiff, Nat.reduceLeDiff, Nat.reduceAdd, reduceCtorEq, go_sem, ↓reduceIte]
    refine ⟨fun hlt => ?_, fun hge => ?_⟩
    · simp at hlt
      have hd : decide ((i : Int) > 0) = decide (i > 0) := by simp
      refine ⟨by omega, by simpa using hlt, ?_⟩
      rw [hd]
      refine callW_pure (c61 _ _) rfl rfl ?_
      simp -implicitDefEqProofs only [Nat.reduceEqDiff, Nat.reduceLeDiff, Nat.reduceAdd, reduceCtorEq, go_sem, ↓reduceIte]
      have hti : Int.toNat (i : Int) = i := by simp
      rw [hti]
      refine ⟨?_, ?_⟩
      · intro h
        simp at h
        rw [name2_false hf (by omega) h]
      · intro h
        simp at h
        refine ⟨i + 1, ⟨⟨by omega, fun j hj => ?_⟩, by omega⟩, by rw [wrap_succ i s.length hlt hs]⟩
        by_cases e : j = i
        · rw [e]; exact h
        · exact hi.2 j (by omega)
    · simp at hge
      have : i = s.length := by omega
      subst this
      exact ⟨(), hi.2⟩
  simp -implicitDefEqProofs only [h0, Nat.reduceEqDiff, Nat.reduceLeDiff, Nat.reduceAdd, reduceCtorEq, go_sem, ↓reduceIte]
  rw [name2_true hf hall]
  simp
  grind
end Go.Pv
/- Laws of functions of the eighth reference. -/
namespace Go.Pv
open Go Go.Proofs
set_option maxRecDepth 4000
variable {Prim : CallRel}
def runTo (p : UInt8 → Bool) (s : List UInt8) (at' : Nat) : Nat := at' + ((s.drop at').takeWhile p).length
theorem runTo_step {p : UInt8 → Bool} {s : List UInt8} {i : Nat} (h : i < s.length) (hp : p s[i] = true) : runTo p s (i + 1) = runTo p s i := by
  unfold runTo
  rw [List.drop_eq_getElem_cons h, List.takeWhile_cons_of_pos hp]
  simp; omega
theorem runTo_stop {p : UInt8 → Bool} {s : List UInt8} {i : Nat} (h : i < s.length) (hp : p s[i] = false) : runTo p s i = i := by
  unfold runTo
  rw [List.drop_eq_getElem_cons h, List.takeWhile_cons_of_neg (by simp [hp])]
  simp
theorem runTo_end {p : UInt8 → Bool} {s : List UInt8} {i : Nat} (h : s.length ≤ i) : runTo p s i = i := by
  unfold runTo
  rw [List.drop_eq_nil_of_le h]
  simp
theorem c139 (s : List UInt8) (i0 : Nat) (h0 : i0 ≤ s.length) (hs : s.length ≤ strLim) : Ret Tryz.prog Prim 139 [.str s, i64 i0] [] (i64 (runTo letter s i0)) [] := by
  refine ret_intro Tryz.func139 rfl Tryz.results139 (by decide +kernel) rfl (Nat.le_refl _) rfl (by simp) ?_
  refine wp_mid [(0, .str s), (1, i64 i0)] [] ?_ fun env ⟨h0, h1, _⟩ => ?_
  · simp -implicitDefEqProofs only [Nat.reduceEqDiff, Nat.reduceLeDiff, Nat.reduceAdd, reduceCtorEq, go_sem, ↓reduceIte]
  refine wp_mid [(1, i64 (runTo letter s i0))] [] ?_ fun env ⟨h1, _⟩ => ?_
  · rw [wp_block_eq]
    refine wp_loop_use (A := Nat) (fun i => [(0, .str s), (1, i64 i)]) (fun _ => []) (fun i => i ≤ s.length ∧ runTo letter s i = runTo letter s i0) (fun i => s.length - i) i0 ⟨by omega, rfl⟩ rfl ⟨h0, h1, trivial⟩ ?_
    intro i hi
    simp -implicitDefEqProofs only [Nat.reduceEqDiff, Nat.reduceLeDiff, Nat.reduceAdd, reduceCtorEq, go_sem, ↓reduceIte]
    refine ⟨fun hlt => ?_, fun hge => ?_⟩
    · simp at hlt
      have hti : Int.toNat (i : Int) = i := by simp
      have hget : s.getD i 0 = s[i] := by simp [hlt]
      rw [hti, hget]
      refine ⟨by omega, by simpa using hlt, ?_⟩
      refine callW_pure (c135 _ _) rfl rfl ?_
      simp -implicitDefEqProofs only [Nat.reduceEqDiff, Nat.reduceLeDiff, Nat.reduceAdd, reduceCtorEq, go_sem, ↓reduceIte]
      have hsm : small s[i] false = letter s[i] := by simp [small]
      rw [hsm]
      refine ⟨?_, ?_⟩
      · intro h
        exact ⟨i + 1, ⟨⟨by omega, (runTo_step hlt h).trans hi.2⟩, by omega⟩, by rw [wrap_succ i s.length hlt hs]⟩
      · intro h
        rw [← hi.2, runTo_stop hlt h]
    · simp at hge
      rw [← hi.2, runTo_end (by omega)]
  simp -implicitDefEqProofs only [h1, Nat.reduceEqDiff, Nat.reduceLeDiff, Nat.reduceAdd, reduceCtorEq, go_sem, ↓reduceIte]
theorem small_true (c : UInt8) : small c true = within c := by simp [small, within, Bool.or_assoc]
def runP (d : Bool) : UInt8 → Bool := if d then digit else within
theorem c136 (s : List UInt8) (i0 : Nat) (d : Bool) (h0 : i0 ≤ s.length) (hs : s.length ≤ strLim) : Ret Tryz.prog Prim 136 [.str s, i64 i0, .bool d] [] (i64 (runTo (runP d) s i0)) [] := by
  refine ret_intro Tryz.func136 rfl Tryz.results136 (by decide +kernel) rfl (Nat.le_refl _) rfl (by simp) ?_
  refine wp_mid [(0, .str s), (1, i64 i0), (2, .bool d)] [] ?_ fun env ⟨h0, h1, h2, _⟩ => ?_
  · simp -implicitDefEqProofs only [Nat.reduceEqDiff, Nat.reduceLeDiff, Nat.reduceAdd, reduceCtorEq, go_sem, ↓reduceIte]
  refine wp_mid [(1, i64 (runTo (runP d) s i0))] [] ?_ fun env ⟨h1, _⟩ => ?_
  · rw [wp_block_eq]
    refine wp_loop_use (A := Nat) (fun i => [(0, .str s), (1, i64 i), (2, .bool d)]) (fun _ => []) (fun i => i ≤ s.length ∧ runTo (runP d) s i = runTo (runP d) s i0) (fun i => s.length - i) i0 ⟨by omega, rfl⟩ rfl ⟨h0, h1, h2, trivial⟩ ?_
    intro i hi
    have go : ∀ hlt : i < s.length, runP d s[i] = true → ∃ a', ((a' ≤ s.length ∧ runTo (runP d) s a' = runTo (runP d) s i0) ∧ s.length - a' < s.length - i) ∧ AV.int IntKind.i64 (IntKind.i64.wrap (↑i + 1)) = i64 ↑a' := fun hlt h =>
      ⟨i + 1, ⟨⟨by omega, (runTo_step hlt h).trans hi.2⟩, by omega⟩, by rw [wrap_succ i s.length hlt hs]⟩
    have stop : ∀ hlt : i < s.length, runP d s[i] = false → i64 ↑i = i64 ↑(runTo (runP d) s i0) := fun hlt h => by rw [← hi.2, runTo_stop hlt h]
    by_cases hlt : i < s.length
    · have hti : Int.toNat (i : Int) = i := by simp
      have hget : s.getD i 0 = s[i] := by simp [hlt]
      have hd : decide ((i : Int) < s.length) = true := by simp [hlt]
      have go := go hlt
      have stop := stop hlt
      cases d
      · simp -implicitDefEqProofs only [hd, hti, hget, Nat.reduceEqDiff, Nat.reduceLeDiff, Nat.reduceAdd, reduceCtorEq, go_sem, ↓reduceIte]
        refine ⟨by omega, hlt, ?_⟩
        refine callW_pure (c135 _ _) rfl rfl ?_
        simp -implicitDefEqProofs only [small_true, Nat.reduceEqDiff, Nat.reduceLeDiff, Nat.reduceAdd, reduceCtorEq, go_sem, ↓reduceIte]
        exact ⟨go, stop⟩
      · simp -implicitDefEqProofs only [hd, hti, hget, Nat.reduceEqDiff, Nat.reduceLeDiff, Nat.reduceAdd, reduceCtorEq, go_sem, ↓reduceIte]
        refine ⟨by omega, hlt, fun a => ⟨by omega, hlt, fun b => stop ?_, fun b => go ?_⟩, fun a => stop ?_⟩ <;> simp [runP, digit] at * <;> omega
    · have hd : decide ((i : Int) < s.length) = false := by simp; omega
      simp -implicitDefEqProofs only [hd, Nat.reduceEqDiff, Nat.reduceLeDiff, Nat.reduceAdd, reduceCtorEq, go_sem, ↓reduceIte]
      rw [← hi.2, runTo_end (by omega)]
  simp -implicitDefEqProofs only [h1, Nat.reduceEqDiff, Nat.reduceLeDiff, Nat.reduceAdd, reduceCtorEq, go_sem, ↓reduceIte]
end Go.Pv
/- Functions that are carried out in place. -/
namespace Go.Pv
open Go Go.Proofs
set_option maxRecDepth 4000
def idxB (s : List UInt8) (c : UInt8) : Int := match (List.range s.length).find? fun i => s.getD i 0 == c with
  | some i => i
  | none => -1
theorem run243 (s : List UInt8) (c : UInt8) (w : World) : (callFunc 243 #[.string ⟨s.toArray⟩, .int .u8 c.toNat]).run Tryz.prog w = .ok (.value (.int .i64 (idxB s c))) w := by
  have h1 : Extern.findNext Tryz.f243 = none := by kernel_rfl
  have h2 : Extern.find Tryz.f243 = some Extern.BytealgIndexByte.indexByte := by kernel_rfl
  simp [callFunc, Tryz.func243]
  rw [h1, h2]
  have h3 : ¬ Tryz.f243.name = "runtime.NumGoroutine" := by decide
  have h4 : Tryz.f243.body = none := rfl
  have h5 : ∀ x y, Extern.BytealgIndexByte.indexByte #[x, y] = (do
      let b ← Extern.Bytes.bytesOf x
      let c ← Extern.Bytes.asByte y
      match (List.range b.size).find? fun i => b[i]! == c with
      | some i => pure (goInt i)
      | none => pure (goInt (-1))) := fun _ _ => rfl
  simp only [h3, h4, if_false, if_true]
  simp only [Sem.run_map, h5]
  simp [h3, h4, Extern.Bytes.bytesOf, Extern.Bytes.asByte]
  have hb : ∀ i, (⟨s.toArray⟩ : ByteArray)[i]! = s.getD i 0 := fun i => by
    by_cases h : i < s.length
    · have h' : i < (⟨s.toArray⟩ : ByteArray).size := by simpa [ByteArray.size] using h
      rw [getElem!_pos _ i h']
      simp [h, List.getD]
      rfl
    · have h' : ¬ i < (⟨s.toArray⟩ : ByteArray).size := by simpa [ByteArray.size] using h
      rw [getElem!_neg _ i h']
      simp [List.getD, List.getElem?_eq_none (Nat.le_of_not_lt h)]; rfl
  have hz : (⟨s.toArray⟩ : ByteArray).size = s.length := by simp [ByteArray.size]
  simp only [hb, hz, idxB]
  cases (List.range s.length).find? fun i => s.getD i 0 == c <;> simp [goInt]
theorem sound243 {G : Frz} (s : List UInt8) (c : UInt8) (σ : List Blk) : Sound Tryz.prog G 243 [.str s, byte c] σ (i64 (idxB s c)) σ := by
  refine sound_inplace (vargs0 := #[.string ⟨s.toArray⟩, .int .u8 c.toNat]) (fun φ S vargs h => ?_) (run243 s c) (fun φ S => ?_) (fun sz l e => by cases e) σ
  · obtain ⟨h1, h2⟩ := h
    have hs : vargs.size = 2 := h1.symm
    apply Array.ext
    · simp [hs]
    · intro i hi1 hi2
      have h3 := h2 i
      match i, hi1, hi2 with
      | 0, a, b => exact vr_str (h2 0 _ vargs[0] rfl (by simp [hs]))
      | 1, a, b => exact vr_int (h2 1 _ vargs[1] rfl (by simp [hs]))
      | i + 2, a, b => omega
  · exact VP.int _ _
end Go.Pv

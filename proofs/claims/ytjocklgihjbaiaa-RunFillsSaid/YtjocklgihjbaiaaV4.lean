/- Part 4 of the proof: XR XR0 XV XN XR2 XB XA I1 I2 S2 I3 I6 G0 G1 I5 G3 G4 G5 G6 G7 U1 U2. -/
import Derived.Test.YtjocklgihjbaiaaV3
section
/- Ranges over functions for the executor: the statement, the call of yield, the ends of a function that holds such a statement. Over any program. -/
namespace Go.Proofs.Ytjocklgihjbaiaa
open Go.RowKit
/-- The two blocks of a loop's book-keeping lie as they lay. -/
def Same (l D : Nat) (W W' : World) : Prop := W'.heap[l]? = W.heap[l]? ∧ W'.heap[D]? = W.heap[D]?
theorem Fr.same {l D : Nat} {W W' : World} (h : Fr W W') (hl : l < W.heap.size) (hD : D < W.heap.size) : Same l D W W' := ⟨h.block _ hl, h.block _ hD⟩
theorem Ch.same {S : Nat → Prop} {l D : Nat} {W W' : World} (h : Ch S W W') (hl : l < W.heap.size) (hD : D < W.heap.size) (h1 : ¬ S l) (h2 : ¬ S D) : Same l D W W' := ⟨h.block _ hl h1, h.block _ hD h2⟩
/-- How a round may be left. -/
def roundQ (l D : Nat) (I : World → Prop) (Ix : Code → World → Prop) (W : World) : Exit → Act → World → Prop
  | .normal, _, W' => Same l D W W' ∧ I W'
  | .ret, _, W' => Same l D W W' ∧ Ix .ret W'
  | .exit id, _, W' => Same l D W W' ∧ Ix (.exit id) W'
  | .goto t, _, W' => Same l D W W' ∧ Ix (.goto t) W'
  | .panic _, _, _ => False
  | .outgrown, _, _ => False
/-- What an iterator is handed: a function that takes things, one behind the other. -/
def YieldOk {α : Type} (P : Program) (l : Nat) (encs : α → Array Value) (xs : List α) (J Jx : List α → World → Prop) : Prop :=
  ∀ pre x W, J pre W → (pre ++ [x]) <+: xs → YieldAt Fence.wide 0 P l (encs x) W fun e W' => (e = .returned (.bool true) ∧ J (pre ++ [x]) W') ∨ (e = .returned (.bool false) ∧ Jx (pre ++ [x]) W')
/-- The contract of an iterator: what it does with a yield that keeps J. Pre: what befalls the world ahead of the first call. -/
def Iter {α : Type} (P : Program) (gf : FuncId) (lb : Array Value) (encs : α → Array Value) (xs : List α) (Pre : World → World → Prop) (w : World) : Prop :=
  ∀ (l : Nat) (J Jx : List α → World → Prop) (W1 : World), Fr w W1 → (∀ pre W W', J pre W → Fr W W' → J pre W') → (∀ pre W W', Jx pre W → Fr W W' → Jx pre W') → YieldOk P l encs xs J Jx →
    (∀ W2, Pre W1 W2 → J [] W2) → Calls P gf (#[.func (.yield l) #[] #[]] ++ lb) W1 fun e W' => (∃ v, e = .returned v) ∧ (J xs W' ∨ ∃ pre, pre <+: xs ∧ Jx pre W')
theorem calls_in {P : Program} {f : FuncId} {args : Array Value} {w : World} {R : Ending → World → Prop} (n : Nat) (h : Calls P f args w R) : CallsIn Fence.wide n P f args w R := callsIn_wide.2 h
def putEnv : List (Tmp × Value) → Env → Env
  | [], e => e
  | (p, v) :: r, e => putEnv r ((p, v) :: e)
theorem agrees_putEnv {N : Nat} {e : Env} : ∀ (l : List (Tmp × Value)) (t : Array Value) (e : Env), (∀ p ∈ l, p.1 < N) → Agrees ⟨N, []⟩ { tmps := t, defers := [] } e →
    Agrees ⟨N, []⟩ { tmps := l.foldl (fun t (p, v) => t.setIfInBounds p v) t, defers := [] } (putEnv l e)
  | [], t, e, _, h => h
  | (p, v) :: r, t, e, hl, h => by
    simp only [List.foldl_cons, putEnv]
    exact agrees_putEnv (e := e) r _ _ (fun q hq => hl q (List.mem_cons_of_mem _ hq)) (by have := h.put (d := p) (v := v) (hl (p, v) (List.mem_cons_self ..)); simpa [Act.put] using this)
def mark (D : Nat) : Deferred := { target := .collected D, args := #[] }
section
variable {P : Program} {n : Fm} {Q : Exit → Act → World → Prop} {e : Env} {w : World} {α : Type}
theorem upd_putObj (W : World) (l : Nat) (o : Obj) : Upd l W (W.putObj l o) := ⟨rfl, rfl, rfl, Nat.le_refl _, by simp, fun k hk => World.putObj_heap_other hk⟩
/-- A block that is no cells and no map. -/
def Odd (W : World) (r : Nat) : Prop := (∀ cs t f, W.heap[r]? ≠ some (.cells cs t f)) ∧ (∀ es c, W.heap[r]? ≠ some (.map es c)) ∧ r < W.heap.size
theorem Odd.blk {W : World} {r b : Nat} {t : TypeId} {cs : Array Value} (h : Odd W r) (hb : Blk W b t cs) : b ≠ r := by rintro rfl; exact h.1 _ _ _ hb
theorem Odd.map {κ : Type} {kv : κ → Value} {W : World} {r b : Nat} {l : List (κ × Value)} (h : Odd W r) (hb : MapAt kv W b l) : b ≠ r := by rintro rfl; exact h.2.1 _ _ hb
theorem e_range {c assign body : Code} {g : Operand} {ps : Array Tmp} (hc : c = .rangeFunc g ps assign body) {gf : FuncId} {lb : Array Value} (hg : e.ev g = some (.func (.func gf) #[] lb)) (hen : Enters P gf)
    {encs : α → Array Value} {xs : List α} {Pre : World → World → Prop} (hseq : Iter P gf lb encs xs Pre w) (hps : ∀ x, (encs x).size = ps.size) (hN : ∀ p ∈ ps, p < n.n)
    (I : List α → World → Prop) (Ix : Code → List α → World → Prop) (A : List α → α → Env → World → Prop)
    (hF : ∀ pre W W', I pre W → Fr W W' → I pre W') (hFx : ∀ c pre W W', Ix c pre W → Fr W W' → Ix c pre W')
    (hU : ∀ pre W W' r, w.heap.size ≤ r → Odd W r → I pre W → Upd r W W' → I pre W') (hUx : ∀ c pre W W' r, w.heap.size ≤ r → Odd W r → Ix c pre W → Upd r W W' → Ix c pre W') (hUA : ∀ pre x e1 W W' r, w.heap.size ≤ r → Odd W r → A pre x e1 W → Upd r W W' → A pre x e1 W')
    (hPre : ∀ W1 W2, Fr w W1 → Pre W1 W2 → I [] W2 ∧ ∀ k, w.heap.size ≤ k → k < W1.heap.size → W2.heap[k]? = W1.heap[k]?)
    (hassign : ∀ l D pre x W, w.heap.size ≤ l → w.heap.size ≤ D → l < W.heap.size → D < W.heap.size → Odd W l → Odd W D → I pre W → (pre ++ [x]) <+: xs →
      ∀ a, Agrees ⟨n.n, []⟩ a (putEnv (ps.zip (encs x)).toList e) → ∀ m, assign.wpIn (Fence.wide.inRound l) m P (Exit.then (fun a1 W1 => Same l D W W1 ∧ ∃ e1, Agrees ⟨n.n, []⟩ a1 e1 ∧ A pre x e1 W1) (fun _ _ _ => False)) a W)
    (hbody : ∀ l D pre x e1 W, w.heap.size ≤ l → w.heap.size ≤ D → l < W.heap.size → D < W.heap.size → Odd W l → Odd W D → A pre x e1 W → (pre ++ [x]) <+: xs →
      ∀ a, Agrees ⟨n.n, []⟩ a e1 → ∀ m, body.wpIn (Fence.wide.inRound l) m P (roundQ l D (I (pre ++ [x])) (fun c => Ix c (pre ++ [x])) W) a W)
    (hdone : ∀ D W, w.heap.size ≤ D → I xs W → W.heap[D]? = some (.deferred (some [])) → ∀ a, Agrees ⟨n.n, mark D :: n.ds⟩ a e → Q .normal a W)
    (hstop : ∀ D c pre W, w.heap.size ≤ D → pre <+: xs → Ix c pre W → W.heap[D]? = some (.deferred (some [])) → ∀ a, Agrees ⟨n.n, mark D :: n.ds⟩ a e → c.wp P Q a W) :
    wpC P n (.code c) Q e w := fun a ha => by
  subst hc
  refine wpIn_wide (n := 3).1 (wpIn_rangeFunc ?_)
  intro fn hfn
  have hg' := ha.ev hg
  obtain ⟨rec, hrec⟩ : ∃ rec : LoopState → Option Code → Loop, rec = fun st pe => { state := st, pending := pe, fn, tmps := a.tmps, params := ps, assign, body, defers := w.heap.size } := ⟨_, rfl⟩
  obtain ⟨W1, hW1⟩ : ∃ W1, (w.alloc (.deferred (some []))).alloc (.loop (rec .ready none)) = W1 := ⟨_, rfl⟩
  have hL1 : W1.heap[w.heap.size + 1]? = some (.loop (rec .ready none)) := by
    rw [← hW1]; have := World.alloc_heap_new (w.alloc (.deferred (some []))) (.loop (rec .ready none)); rwa [World.size_alloc] at this
  have hK1 : W1.heap[w.heap.size]? = some (.deferred (some [])) := by
    rw [← hW1]; exact (Below.heap_alloc _ _ _ (by simp)).trans (World.alloc_heap_new w _)
  have hF1 : Fr w W1 := by rw [← hW1]; exact ((Fr.refl w).alloc _).alloc _
  have hs1 : w.heap.size + 1 < W1.heap.size := (Array.getElem?_eq_some_iff.1 hL1).1
  obtain ⟨gfn, hgf, hgn, hgb⟩ := hen
  have eg : ∀ args w, (callFunc gf args).run P w = .ok (.enter gf args) w := fun args w => by
    have hn' : ¬ gfn.name = "runtime.NumGoroutine" := by simpa using hgn
    have hb' : ¬ gfn.body = none := fun h0 => by rw [h0] at hgb; cases hgb
    simp [callFunc, hgf, hn', hb']
  have odd : ∀ {W : World} {r : Nat} {lp : Loop}, W.heap[r]? = some (.loop lp) → Odd W r := fun h => ⟨fun _ _ _ e => (by rw [h] at e; cases e), fun _ _ e => (by rw [h] at e; cases e), (Array.getElem?_eq_some_iff.1 h).1⟩
  have odd' : ∀ {W : World} {r : Nat} {o : Option (List Deferred)}, W.heap[r]? = some (.deferred o) → Odd W r := fun h => ⟨fun _ _ _ e => (by rw [h] at e; cases e), fun _ _ e => (by rw [h] at e; cases e), (Array.getElem?_eq_some_iff.1 h).1⟩
  refine ⟨w.heap.size + 1, [{ target := .collected w.heap.size, args := #[] }], W1, { target := .fn (.func gf) lb, args := #[.func (.yield (w.heap.size + 1)) #[] #[]] }, W1, gf,
    #[.func (.yield (w.heap.size + 1)) #[] #[]] ++ lb, W1, ?_, ?_, ?_, ?_, fun h => (by cases h), calls_in _ ?_⟩
  · rw [← hW1, hrec]; exact run_enterLoop_outer _ _ _ _ _
  · simp only [resolve, hg']
    simp [go_sem]
  · intro f' _; trivial
  · simp [invoke, go_sem, eg]
  · refine (hseq (w.heap.size + 1)
      (fun pre W => I pre W ∧ W.heap[w.heap.size + 1]? = some (.loop (rec .ready none)) ∧ W.heap[w.heap.size]? = some (.deferred (some [])))
      (fun pre W => ∃ c, Ix c pre W ∧ W.heap[w.heap.size + 1]? = some (.loop (rec .done (some c))) ∧ W.heap[w.heap.size]? = some (.deferred (some [])))
      W1 hF1 (fun pre W W' h hF' => ⟨hF _ _ _ h.1 hF', hF'.heap h.2.1, hF'.heap h.2.2⟩)
      (fun pre W W' h hF' => by obtain ⟨c, h1, h2, h3⟩ := h; exact ⟨c, hFx _ _ _ _ h1 hF', hF'.heap h2, hF'.heap h3⟩) ?_ ?_).mono ?_
    · rintro pre x W ⟨hi, hl, hk⟩ hpre
      have hlt : w.heap.size + 1 < W.heap.size := (Array.getElem?_eq_some_iff.1 hl).1
      have hy := run_yield (P := P) (args := encs x) hl (by rw [hrec]; exact hps x)
      rw [hrec] at hy
      have hag : Agrees ⟨n.n, []⟩ { tmps := (ps.zip (encs x)).foldl (fun tmps (t, a) => tmps.setIfInBounds t a) a.tmps, defers := [] } (putEnv (ps.zip (encs x)).toList e) := by
        have := agrees_putEnv (N := n.n) (e := e) (ps.zip (encs x)).toList a.tmps e (fun p hp => hN p.1 (by
          have := Array.mem_toList_iff.1 hp
          obtain ⟨i, hi, rfl⟩ := Array.mem_iff_getElem.1 this
          simp only [Array.getElem_zip]
          exact Array.getElem_mem _)) ⟨rfl, ha.2.1, ha.2.2⟩
        rw [Array.foldl_toList] at this
        exact this
      refine ⟨fn, _, assign, body, hy, roundIn_of_wpIn (n := 0) trivial (wpIn_mono (hassign (w.heap.size + 1) w.heap.size pre x W (by omega) (Nat.le_refl _) hlt (by omega) (odd hl) (odd' hk) hi hpre _ hag 0) ?_)⟩
      intro ex a1 W2 hex
      cases ex with
      | normal =>
        obtain ⟨⟨hs, hs'⟩, e1, hag1, hA⟩ := hex
        have hl1 := hs.trans hl
        have hk1 := hs'.trans hk
        have hlt2 : w.heap.size + 1 < W2.heap.size := (Array.getElem?_eq_some_iff.1 hl1).1
        refine ⟨_, run_beginRound hl1 (by rw [hrec]), ?_⟩
        have hl2 : (W2.putObj (w.heap.size + 1) (.loop { rec .ready none with state := .busy })).heap[w.heap.size + 1]? = some (.loop { rec .ready none with state := .busy }) := World.putObj_heap_same hlt2
        have hk2 : (W2.putObj (w.heap.size + 1) (.loop { rec .ready none with state := .busy })).heap[w.heap.size]? = some (.deferred (some [])) := (World.putObj_heap_other (by omega)).trans hk1
        have hA2 := hUA _ _ _ _ _ _ (by omega) (odd hl1) hA (upd_putObj W2 (w.heap.size + 1) (.loop { rec .ready none with state := .busy }))
        refine wpIn_mono (hbody (w.heap.size + 1) w.heap.size pre x e1 _ (by omega) (Nat.le_refl _) (by simp; omega) (by simp; omega) (odd hl2) (odd' hk2) hA2 hpre a1 hag1 0) ?_
        have fin : ∀ (jump : Option Code) (W3 : World), Same (w.heap.size + 1) w.heap.size (W2.putObj (w.heap.size + 1) (.loop { rec .ready none with state := .busy })) W3 →
            (Instr.endRound (w.heap.size + 1) jump).run P W3 = .ok (.bool jump.isNone) (W3.putObj (w.heap.size + 1) (.loop (rec (if jump.isNone then .ready else .done) jump))) ∧
            W3.heap[w.heap.size + 1]? = some (.loop { rec .ready none with state := .busy }) ∧
            (W3.putObj (w.heap.size + 1) (.loop (rec (if jump.isNone then .ready else .done) jump))).heap[w.heap.size + 1]? = some (.loop (rec (if jump.isNone then .ready else .done) jump)) ∧
            (W3.putObj (w.heap.size + 1) (.loop (rec (if jump.isNone then .ready else .done) jump))).heap[w.heap.size]? = some (.deferred (some [])) := fun jump W3 hk3 => by
          have hl3 := hk3.1.trans hl2
          have := run_endRound (P := P) jump hl3
          rw [hrec] at this ⊢
          exact ⟨this, by rw [hrec] at hl3; exact hl3, World.putObj_heap_same (Array.getElem?_eq_some_iff.1 hl3).1, (World.putObj_heap_other (by omega)).trans (hk3.2.trans hk2)⟩
        rintro ex a3 W3 hp
        cases ex with
        | normal =>
          obtain ⟨hk3, hi3⟩ := hp
          obtain ⟨hr, hl3, hl4, hk4⟩ := fin none W3 hk3
          exact ⟨_, _, hr, .inl ⟨rfl, hU _ _ _ _ (by omega) (odd hl3) hi3 (upd_putObj _ _ _), hl4, hk4⟩⟩
        | ret =>
          obtain ⟨hk3, hi3⟩ := hp
          obtain ⟨hr, hl3, hl4, hk4⟩ := fin (some .ret) W3 hk3
          exact ⟨_, _, hr, .inr ⟨rfl, .ret, hUx _ _ _ _ _ (by omega) (odd hl3) hi3 (upd_putObj _ _ _), hl4, hk4⟩⟩
        | exit id =>
          obtain ⟨hk3, hi3⟩ := hp
          obtain ⟨hr, hl3, hl4, hk4⟩ := fin (some (.exit id)) W3 hk3
          exact ⟨_, _, hr, .inr ⟨rfl, .exit id, hUx _ _ _ _ _ (by omega) (odd hl3) hi3 (upd_putObj _ _ _), hl4, hk4⟩⟩
        | goto t =>
          obtain ⟨hk3, hi3⟩ := hp
          obtain ⟨hr, hl3, hl4, hk4⟩ := fin (some (.goto t)) W3 hk3
          exact ⟨_, _, hr, .inr ⟨rfl, .goto t, hUx _ _ _ _ _ (by omega) (odd hl3) hi3 (upd_putObj _ _ _), hl4, hk4⟩⟩
        | panic ch => exact hp.elim
        | outgrown => exact hp.elim
      | _ => exact hex.elim
    · intro W2 hp
      obtain ⟨hi, hsame⟩ := hPre W1 W2 hF1 hp
      exact ⟨hi, (hsame _ (by omega) hs1).trans hL1, (hsame _ (Nat.le_refl _) (by omega)).trans hK1⟩
    · rintro ex W2 ⟨⟨v, rfl⟩, (⟨hi, hl, hk⟩ | ⟨pre, hpre, c, hi, hl, hk⟩)⟩
      · refine ⟨none, _, by have := run_endLoop (P := P) hl (by rw [hrec]; simp); rw [hrec] at this; exact this, ?_⟩
        exact hdone w.heap.size _ (Nat.le_refl _) (hU _ _ _ _ (by omega) (odd hl) hi (upd_putObj _ _ _)) ((World.putObj_heap_other (by omega)).trans hk) _ ⟨by simp [mark, ha.1], ha.2.1, ha.2.2⟩
      · refine ⟨some c, _, by have := run_endLoop (P := P) hl (by rw [hrec]; simp); rw [hrec] at this; exact this, ?_⟩
        exact wpIn_wide.2 (hstop w.heap.size c pre _ (Nat.le_refl _) hpre (hUx _ _ _ _ _ (by omega) (odd hl) hi (upd_putObj _ _ _)) ((World.putObj_heap_other (by omega)).trans hk) _ ⟨by simp [mark, ha.1], ha.2.1, ha.2.2⟩)
end
/-! ### The ends of a function that holds such a statement -/
/-- What its body is to come to. -/
def endM (P : Program) (fn : Func) (RR : Ending → World → Prop) : Exit → Act → World → Prop
  | .normal, a, w | .ret, a, w => LeavesInM Fence.wide 3 P fn a.tmps RR a.defers .returning w
  | _, _, _ => False
section
variable {P : Program} {n : Fm} {e : Env} {w : World}
theorem e_enterM {f : FuncId} {fn : Func} {c : Code} {args : Array Value} {RR : Ending → World → Prop} (hm : P.follows .mixedOrders = true) (hf : P.funcs[f]? = some fn) (plans : Nat → Option Plan) (x : XCode)
    (hb : fn.body = some c) (hx : compile plans c = x) (hok : plansOk plans c = true) (hn : fn.ntmps = n.n) (hds : n.ds = []) (hargs : args.size ≤ n.n) (h : wpC P n x (endM P fn RR) (argEnv 0 args.toList) w) : Calls P f args w RR := by
  refine callsIn_wide.1 (callsIn_of_wp_marks (n := 3) hf hb trivial (wpIn_wide.2 (wp_mono (wp_enter hm plans x hx hok (h _ ⟨hds.symm, by simp; omega, fun t v ht => ?_⟩)) ?_)))
  · have key : ∀ (l : List Value) (k : Nat) (t : Nat), Env.get (argEnv k l) t = some v → k ≤ t ∧ l[t - k]? = some v := by
      intro l
      induction l with
      | nil => intro k t ht; cases ht
      | cons u l ih =>
        intro k t ht
        simp only [argEnv, Env.get] at ht
        split at ht
        · rename_i hk; subst hk; simpa using ht
        · rename_i hk
          obtain ⟨h1, h2⟩ := ih (k + 1) t ht
          refine ⟨by omega, ?_⟩
          rw [show t - k = (t - (k + 1)) + 1 by omega]
          simpa using h2
    obtain ⟨_, h2⟩ := key args.toList 0 t ht
    simp only [Nat.sub_zero, Array.getElem?_toList] at h2
    rw [Array.getElem?_append_left (Array.getElem?_eq_some_iff.1 h2).1]
    exact h2
  · intro ex a w h
    cases ex <;> first | exact h | exact h.elim
theorem leavesM {fn : Func} {tmps : Array Value} {RR : Ending → World → Prop} {v : Value} : ∀ (Ds : List Nat) (w : World), (∀ D ∈ Ds, w.heap[D]? = some (.deferred (some []))) → Ds.Nodup →
    (∀ w', Ch (· ∈ Ds) w w' → (results fn tmps).run P w' = .ok v w' ∧ RR (.returned v) w') → LeavesInM Fence.wide 3 P fn tmps RR (Ds.map mark) .returning w
  | [], w, _, _, h => by
    obtain ⟨h1, h2⟩ := h w (Ch.refl _ w)
    exact ⟨v, h1, h2⟩
  | D :: Ds, w, hD, hnd, h => by
    obtain ⟨hn1, hn2⟩ := List.nodup_cons.1 hnd
    refine ⟨by simp, .inl ⟨D, w.putObj D (.deferred none), rfl, run_takeDeferred (hD D (List.mem_cons_self ..)), leavesM Ds _ (fun D' hD' => ?_) hn2 fun w' hc => h w' ?_⟩⟩
    · rw [World.putObj_heap_other (by rintro rfl; exact hn1 hD')]
      exact hD D' (List.mem_cons_of_mem _ hD')
    · exact ((upd_putObj w D (.deferred none)).ch.mono fun k _ hk => by subst hk; exact List.mem_cons_self ..).trans (hc.mono fun k _ hk => List.mem_cons_of_mem _ hk)
theorem e_ret1M {fn : Func} {RR : Ending → World → Prop} {t : Tmp} {v : Value} (Ds : List Nat) (hf : fn.results = #[.tmp t]) (ht : e.get t = some v) (hds : n.ds = Ds.map mark) (hD : ∀ D ∈ Ds, w.heap[D]? = some (.deferred (some []))) (hnd : Ds.Nodup)
    (h : ∀ w', Ch (· ∈ Ds) w w' → RR (.returned v) w') : wpC P n .ret (endM P fn RR) e w := fun a ha => by
  show LeavesInM _ _ _ _ _ _ _ _ _
  rw [ha.1, hds]
  exact leavesM Ds w hD hnd fun w' hc => ⟨by simp [results, hf, ha.get ht], h w' hc⟩
theorem e_end0M {fn : Func} {RR : Ending → World → Prop} (Ds : List Nat) (hf : fn.results = #[]) (hds : n.ds = Ds.map mark) (hD : ∀ D ∈ Ds, w.heap[D]? = some (.deferred (some []))) (hnd : Ds.Nodup)
    (h : ∀ w', Ch (· ∈ Ds) w w' → RR (.returned (.tuple #[])) w') : ∀ a, Agrees n a e → endM P fn RR .normal a w := fun a ha => by
  show LeavesInM _ _ _ _ _ _ _ _ _
  rw [ha.1, hds]
  exact leavesM Ds w hD hnd fun w' hc => ⟨by simp [results, hf], h w' hc⟩
/-- A call of yield. -/
theorem E_yield {Q : Exit → Act → World → Prop} {R : Rel} {d : Tmp} {ty : TypeId} {s : XPlan} {f : Operand} {xs : Array Operand} {ts : Array TypeId} {l : Nat} {vs : List Value} {RR : Ending → World → Prop} (hf : e.ev f = some (.func (.yield l) #[] #[])) (hvs : e.evs xs.toList = some vs)
    (hy : YieldAt Fence.wide 0 P l vs.toArray w RR) (hd : d < n.n) (h : ∀ ex w1, RR ex w1 → ∃ v, ex = .returned v ∧ wpE P n Q R s ((d, v) :: e) w1) :
    wpE P n Q R (.step .text ⟨some d, .call { callee := .value f, args := xs, argTypes := ts }, ty⟩ none s) e w := fun a ha => by
  obtain ⟨fn, tmps, assign, body, hy, hr⟩ := hy
  simp only [wpX, wantedBy, if_true]
  refine .inr ⟨fun _ _ => trivial, ?_⟩
  have h1 := ha.ev hf
  have h2 : xs.map a.eval = vs.toArray := Array.toList_inj.1 (by simp [ha.evs hvs])
  have hrun : (execOp a.eval (XOp.mk (some d) (.call { callee := .value f, args := xs, argTypes := ts }) ty).oper).run P w = .ok (.round l fn tmps assign body) w := by
    simp [execOp, XOp.oper, resolve, h1, h2, invoke, hy, Deferred.ofValue]
  show Oper.uponIn Fence.wide 0 P _ a _ Q ((execOp a.eval (XOp.mk (some d) (.call { callee := .value f, args := xs, argTypes := ts }) ty).oper).run P w)
  rw [hrun]
  refine ⟨fun h => (by cases h), hr.mono fun ex w1 hex => ?_⟩
  obtain ⟨v, rfl, hs⟩ := h ex w1 hex
  exact hs _ (ha.put hd)
theorem e_assignN {α : Type} {l D : Nat} {W0 : World} {A : List α → α → Env → World → Prop} {pre : List α} {x : α} {F : Exit → Act → World → Prop} {e1 : Env} (hs : Same l D W0 w) (hA : A pre x e1 w) (hsub : Env.sub e1 e) :
    ∀ a, Agrees n a e → Exit.then (fun a1 W1 => Same l D W0 W1 ∧ ∃ e1, Agrees n a1 e1 ∧ A pre x e1 W1) F .normal a w := fun _ ha => ⟨hs, e1, ha.sub hsub, hA⟩
theorem e_roundN {l D : Nat} {I : World → Prop} {Ix : Code → World → Prop} {W0 : World} (hs : Same l D W0 w) (hI : I w) : ∀ a, Agrees n a e → roundQ l D I Ix W0 .normal a w := fun _ _ => ⟨hs, hI⟩
theorem letsOut_then {K : Act → World → Prop} : ¬ LetsOut (Exit.then K (fun _ _ _ => False)) := by rintro ⟨_, _, h⟩; exact h
theorem letsOut_round {l D : Nat} {I : World → Prop} {Ix : Code → World → Prop} {W0 : World} : ¬ LetsOut (roundQ l D I Ix W0) := by rintro ⟨_, _, h⟩; exact h
theorem Row.blk {w : World} {e : TypeId} {k n : Nat} {v : Value} {cs : List Value} (h : Row w e k v n cs) {g : Nat} (hg : v.ownBlock = some g) : ∃ cur, Blk w g e cur := by
  rcases h.2 with ⟨rfl, _⟩ | ⟨g', cap, cur, rfl, _, hb, _⟩
  · cases hg
  · injection hg with hg; subst hg; exact ⟨cur, hb⟩
theorem Row.odd {w w' : World} {e : TypeId} {k n r : Nat} {v : Value} {cs : List Value} (h : Row w e k v n cs) (ho : Odd w r) (hU : Upd r w w') : Row w' e k v n cs :=
  h.ch hU.ch fun g hg e' => by obtain ⟨cur, hb⟩ := h.blk hg; exact ho.blk hb e'
theorem Sl.odd {α : Type} {w w' : World} {e : TypeId} {k r : Nat} {enc : α → List Value} {v : Value} {xs : List α} (h : Sl w e k enc v xs) (ho : Odd w r) (hU : Upd r w w') : Sl w' e k enc v xs := Row.odd h ho hU
theorem Blk.odd {w w' : World} {b r : Nat} {t : TypeId} {cs : Array Value} (h : Blk w b t cs) (ho : Odd w r) (hU : Upd r w w') : Blk w' b t cs := h.upd hU (ho.blk h)
end
end Go.Proofs.Ytjocklgihjbaiaa
end
section
/- Ranges over functions, by program (xc.py): the code in small of what is assigned in each round, and of the body. -/
set_option maxRecDepth 100000
namespace Go.Proofs.Ytjocklgihjbaiaa
def part2 (c : Code) (n : Nat) : Code :=
  match c with
  | .rangeFunc _ _ x y => if n = 0 then x else y
  | c => c
def Try.q6bbbbaba : Nat → Option Plan := fun i => match i with
  | _ => none
theorem Try.rf6bbbbaba : Try.c6bbbbaba = .rangeFunc (.tmp 19) #[20, 21] (part2 Try.c6bbbbaba 0) (part2 Try.c6bbbbaba 1) := by kernel_rfl
noncomputable def Try.x6bbbbaba_0 : XCode := (.seq (.region (.step .text ⟨some 3, .alloc 27, 0⟩ none
      (.step .text ⟨none, .store 27 (.tmp 3) (.tmp 20), 0⟩ none
      .nil)))
    (.region (.step .text ⟨some 4, .alloc 33, 0⟩ none
      (.step .text ⟨none, .store 33 (.tmp 4) (.tmp 21), 0⟩ none
      .nil))))
theorem Try.hx6bbbbaba_0 : compile Try.q6bbbbaba (part2 Try.c6bbbbaba 0) = Try.x6bbbbaba_0 := by kernel_rfl
theorem Try.ok6bbbbaba_0 : plansOk Try.q6bbbbaba (part2 Try.c6bbbbaba 0) = true := by kernel_rfl
theorem Try.cm6bbbbaba_0 : calm (part2 Try.c6bbbbaba 0) = true := by kernel_rfl
theorem Try.pl6bbbbaba_0 : planned Try.q6bbbbaba (part2 Try.c6bbbbaba 0) = true := by kernel_rfl
noncomputable def Try.x6bbbbaba_1 : XCode := (.block 1 (.seq (.region (.step .text ⟨some 22, .load 27 (.tmp 3), 27⟩ none
      (.step .text ⟨some 23, .load 27 (.tmp 2), 27⟩ none
      (.step .text ⟨some 24, .binOp .eql 27 (.tmp 22) (.tmp 23) 27, 4⟩ none
      (.step .text ⟨some 25, .move (.tmp 24), 4⟩ none
      (.step .text ⟨some 26, .fieldAddr 33 (.tmp 4) 2, 0⟩ (some (some 25, true))
      (.step .text ⟨some 27, .load 3 (.tmp 26), 3⟩ (some (some 25, true))
      (.step .text ⟨some 28, .binOp .eql 3 (.tmp 27) (.const (.int .i64 4)) 3, 4⟩ (some (some 25, true))
      (.step .text ⟨some 29, .pick (.tmp 25) (.tmp 28) (.const (.bool false)), 4⟩ none
      (.step .text ⟨some 30, .move (.tmp 29), 4⟩ none
      (.step .text ⟨some 31, .load 36 (.tmp 1), 36⟩ (some (some 30, true))
      (.step .text ⟨some 32, .load 27 (.tmp 2), 27⟩ (some (some 30, true))
      (.step .text ⟨some 33, .call { callee := (.value (.func 22)), args := #[(.tmp 31), (.tmp 32)], argTypes := #[36, 27] }, 4⟩ (some (some 30, true))
      (.step .text ⟨some 34, .pick (.tmp 30) (.tmp 33) (.const (.bool false)), 4⟩ none
      (.step .text ⟨none, .store 4 (.tmp 0) (.tmp 34), 0⟩ none
      .nil)))))))))))))))
    .ret))
theorem Try.hx6bbbbaba_1 : compile Try.q6bbbbaba (part2 Try.c6bbbbaba 1) = Try.x6bbbbaba_1 := by kernel_rfl
theorem Try.ok6bbbbaba_1 : plansOk Try.q6bbbbaba (part2 Try.c6bbbbaba 1) = true := by kernel_rfl
theorem Try.cm6bbbbaba_1 : calm (part2 Try.c6bbbbaba 1) = true := by kernel_rfl
theorem Try.pl6bbbbaba_1 : planned Try.q6bbbbaba (part2 Try.c6bbbbaba 1) = true := by kernel_rfl
def Try.q10ba : Nat → Option Plan := fun i => match i with
  | _ => none
theorem Try.rf10ba : Try.c10ba = .rangeFunc (.tmp 3) #[4, 5] (part2 Try.c10ba 0) (part2 Try.c10ba 1) := by kernel_rfl
noncomputable def Try.x10ba_0 : XCode := .skip
theorem Try.hx10ba_0 : compile Try.q10ba (part2 Try.c10ba 0) = Try.x10ba_0 := by kernel_rfl
theorem Try.ok10ba_0 : plansOk Try.q10ba (part2 Try.c10ba 0) = true := by kernel_rfl
theorem Try.cm10ba_0 : calm (part2 Try.c10ba 0) = true := by kernel_rfl
theorem Try.pl10ba_0 : planned Try.q10ba (part2 Try.c10ba 0) = true := by kernel_rfl
noncomputable def Try.x10ba_1 : XCode := (.block 1 (.exit 1))
theorem Try.hx10ba_1 : compile Try.q10ba (part2 Try.c10ba 1) = Try.x10ba_1 := by kernel_rfl
theorem Try.ok10ba_1 : plansOk Try.q10ba (part2 Try.c10ba 1) = true := by kernel_rfl
theorem Try.cm10ba_1 : calm (part2 Try.c10ba 1) = true := by kernel_rfl
theorem Try.pl10ba_1 : planned Try.q10ba (part2 Try.c10ba 1) = true := by kernel_rfl
def Try.q68bbbaba : Nat → Option Plan := fun i => match i with
  | 5 => some ⟨[], [], (.load 0 [0] (.load 1 [1] (.pure 2 (.pure 3 (.load 4 [4] (.pure 5 (.pure 6 (.load 7 [7] (.load 8 [8] (.eff 9 (.pure 10 (.pure 11 .nil))))))))))))⟩
  | _ => none
theorem Try.rf68bbbaba : Try.c68bbbaba = .rangeFunc (.tmp 23) #[24] (part2 Try.c68bbbaba 0) (part2 Try.c68bbbaba 1) := by kernel_rfl
noncomputable def Try.x68bbbaba_0 : XCode := (.region (.step .text ⟨some 8, .alloc 27, 0⟩ none
      (.step .text ⟨none, .store 27 (.tmp 8) (.tmp 24), 0⟩ none
      .nil)))
theorem Try.hx68bbbaba_0 : compile Try.q68bbbaba (part2 Try.c68bbbaba 0) = Try.x68bbbaba_0 := by kernel_rfl
theorem Try.ok68bbbaba_0 : plansOk Try.q68bbbaba (part2 Try.c68bbbaba 0) = true := by kernel_rfl
theorem Try.cm68bbbaba_0 : calm (part2 Try.c68bbbaba 0) = true := by kernel_rfl
theorem Try.pl68bbbaba_0 : planned Try.q68bbbaba (part2 Try.c68bbbaba 0) = true := by kernel_rfl
noncomputable def Try.x68bbbaba_1 : XCode := (.block 1 (.seq (.drawn (.step .load ⟨some 25, .load 27 (.tmp 8), 27⟩ none
      (.step .load ⟨some 26, .load 27 (.tmp 3), 27⟩ none
      (.step .pure ⟨some 27, .binOp .neq 27 (.tmp 25) (.tmp 26) 27, 4⟩ none
      (.step .pure ⟨some 28, .move (.tmp 27), 4⟩ none
      (.step .load ⟨some 29, .load 84 (.tmp 2), 84⟩ (some (some 28, true))
      (.step .pure ⟨some 30, .nilCheck (.tmp 29), 0⟩ (some (some 28, true))
      (.step .pure ⟨some 31, .fieldAddr 88 (.tmp 30) 0, 0⟩ (some (some 28, true))
      (.step .load ⟨some 32, .load 59 (.tmp 31), 59⟩ (some (some 28, true))
      (.step .load ⟨some 33, .load 27 (.tmp 8), 27⟩ (some (some 28, true))
      (.step .eff ⟨some 34, .call { callee := (.value (.func 41)), args := #[(.tmp 32), (.tmp 33)], argTypes := #[59, 27] }, 4⟩ (some (some 28, true))
      (.step .pure ⟨some 35, .unOp .not 4 (.tmp 34), 4⟩ (some (some 28, true))
      (.step .pure ⟨some 36, .pick (.tmp 28) (.tmp 35) (.const (.bool false)), 4⟩ none
      .nil)))))))))))))
    (.cond (.tmp 36)
    (.region (.step .text ⟨some 37, .load 39 (.tmp 7), 39⟩ none
      (.step .text ⟨some 38, .load 27 (.tmp 8), 27⟩ none
      (.step .text ⟨some 39, .buildSlice 39 1 #[(0, (.tmp 38))], 39⟩ none
      (.step .text ⟨some 40, .call { callee := (.builtin .append), args := #[(.tmp 37), (.tmp 39)], argTypes := #[39, 39] }, 39⟩ none
      (.step .text ⟨none, .store 39 (.tmp 7) (.tmp 40), 0⟩ none
      .nil))))))
    .skip)))
theorem Try.hx68bbbaba_1 : compile Try.q68bbbaba (part2 Try.c68bbbaba 1) = Try.x68bbbaba_1 := by kernel_rfl
theorem Try.ok68bbbaba_1 : plansOk Try.q68bbbaba (part2 Try.c68bbbaba 1) = true := by kernel_rfl
theorem Try.cm68bbbaba_1 : calm (part2 Try.c68bbbaba 1) = true := by kernel_rfl
theorem Try.pl68bbbaba_1 : planned Try.q68bbbaba (part2 Try.c68bbbaba 1) = true := by kernel_rfl
end Go.Proofs.Ytjocklgihjbaiaa
end
section
/- Calls of function values; clear; for the executor. Over any program. -/
namespace Go.Proofs.Ytjocklgihjbaiaa
open Go.RowKit
section
variable {P : Program} {n : Fm} {R : Rel} {Q : Exit → Act → World → Prop} {e : Env} {w : World} {k : Kind} {d : Tmp} {ty : TypeId} {s : XPlan}
theorem callFunc_enters {g : FuncId} (hg : Enters P g) (args : Array Value) (w : World) : (callFunc g args).run P w = .ok (.enter g args) w := by
  obtain ⟨fn, hfn, hn, hb⟩ := hg
  have hn' : ¬ fn.name = "runtime.NumGoroutine" := by simpa using hn
  have hb' : ¬ fn.body = none := fun h0 => by rw [h0] at hb; cases hb
  simp [callFunc, hfn, hn', hb']
/-- A call of a function value. -/
theorem E_callV {f : Operand} {g : FuncId} {first cap : Array Value} {xs : Array Operand} {ts : Array TypeId} {vs : List Value} (hk : k.acts = true) (hf : e.ev f = some (.func (.func g) first cap)) (hg : Enters P g) (hvs : e.evs xs.toList = some vs)
    (h : ∀ RR : Ending → World → Prop, (∀ v w1, behind k R w w1 → d < n.n → wpE P n Q R s ((d, v) :: e) w1 → RR (.returned v) w1) → Calls P g (first ++ vs.toArray ++ cap) w RR) :
    wpE P n Q R (.step k ⟨some d, .call { callee := .value f, args := xs, argTypes := ts }, ty⟩ none s) e w := fun a ha =>
  ef_gen (by
    have h1 := ha.ev hf
    have h2 : xs.map a.eval = vs.toArray := Array.toList_inj.1 (by simp [ha.evs hvs])
    have hr : (execOp a.eval (XOp.mk (some d) (.call { callee := .value f, args := xs, argTypes := ts }) ty).oper).run P w = .ok (.enter g (first ++ vs.toArray ++ cap)) w := by
      simp [execOp, XOp.oper, resolve, h1, h2, invoke, Deferred.ofValue, callFunc_enters hg]
    unfold Oper.wp
    rw [hr]
    refine Calls.mono (h (CallPost P Q R k s a (some d) w) fun v w1 hb hd hs => called hb (hs _ (ha.put hd))) fun ex w' he => ?_
    cases ex <;> exact he) hk
theorem run_clear_blk {t el : TypeId} {sz by' : Nat} (ht : SliceTy P t el sz by') {b o m c : Nat} {cs : Array Value} (hb : Blk w b el cs) (hm : o + m * sz ≤ cs.size) (h1 : ∀ z, elemZero P el = some z → z.cells.all (·.oneCell') = true) :
    ∃ w' cs', (Builtin.clear_ #[t] ty #[.slice (some ⟨b, o, none⟩) m c]).run P w = .ok (.tuple #[]) w' ∧ Upd b w w' ∧ Blk w' b el cs' ∧ cs'.size = cs.size ∧ cs'.toList.take o = cs.toList.take o ∧ (m = 0 → cs' = cs) := by
  obtain ⟨hu, ie, z, hi, hz, rfl, rfl, hzs, hpos, _⟩ := ht
  cases m with
  | zero =>
    refine ⟨w, cs, ?_, ⟨rfl, rfl, rfl, Nat.le_refl _, rfl, fun _ _ => rfl⟩, hb, rfl, rfl, fun _ => rfl⟩
    simp [Builtin.clear_, run_underlying hu]
  | succ m =>
    have hez : elemZero P el = some z := by simp [elemZero, hi, hz]
    have hz1 := h1 z hez
    have hlen : (Builtin.zeroCells z.cells (m + 1)).toList.length = (m + 1) * ie.size := by rw [Array.length_toList, size_zeroCells, hzs]
    obtain ⟨hU, hB⟩ := upd_setCells (Builtin.zeroCells z.cells (m + 1)).toList o w cs hb (by rw [hlen]; exact hm)
    have hone : ∀ v ∈ (Builtin.zeroCells z.cells (m + 1)).toList, v.oneCell' = true := by
      intro v hv
      simp only [Builtin.zeroCells, Array.toList_map, List.mem_map] at hv
      obtain ⟨i, _, rfl⟩ := hv
      have hlt : i % z.cells.size < z.cells.size := Nat.mod_lt _ (by omega)
      have : z.cells[i % z.cells.size]! = z.cells[i % z.cells.size] := by simp [hlt]
      rw [this]
      exact Array.all_eq_true.1 hz1 _ hlt
    have hst := run_storeCells_cells (P := P) b o (Builtin.zeroCells z.cells (m + 1)).toList 0 w (fun j hj => by
      rw [hlen] at hj
      have : o + 0 + j < cs.size := by omega
      rw [hb.cell (v := cs[o + 0 + j]) (by simp [this])]; rfl) (fun j _ => hb.frozen _) hone
    simp only [Nat.add_zero] at hst
    refine ⟨_, _, ?_, hU, hB, ?_, ?_, fun h => by cases h⟩
    · simp [Builtin.clear_, run_underlying hu, run_elemZero hez w, hst]
    · simp only [List.size_toArray, List.length_append, List.length_take, List.length_drop, Array.length_toList]
      rw [hlen] at *
      simp only [Array.length_toList] at *
      have := size_zeroCells z.cells (m + 1)
      rw [hzs] at this
      omega
    · rw [List.append_assoc, List.take_append_of_le_length (by rw [List.length_take, Array.length_toList]; omega), List.take_take, Nat.min_self]
/-- clear(s[i:]). -/
theorem E_clear {x : Operand} {t el : TypeId} {sz by' b o m c : Nat} {cs : Array Value} (ht : SliceTy P t el sz by') (hk : k.acts = true) (hR : ∀ w1, Upd b w w1 → behind k R w w1) (hx : e.ev x = some (.slice (some ⟨b, o, none⟩) m c)) (hb : Blk w b el cs) (hm : o + m * sz ≤ cs.size)
    (h1 : ∀ z, elemZero P el = some z → z.cells.all (·.oneCell') = true)
    (h : ∀ w1 cs', Upd b w w1 → Blk w1 b el cs' → cs'.size = cs.size → cs'.toList.take o = cs.toList.take o → (m = 0 → cs' = cs) → wpE P n Q R s e w1) :
    wpE P n Q R (.step k ⟨none, .call { callee := .builtin .clear, args := #[x], argTypes := #[t] }, ty⟩ none s) e w := fun a ha =>
  ef_gen (by
    obtain ⟨w1, cs', hr, hU, hB, h2, h3, h4⟩ := run_clear_blk (P := P) (ty := ty) (c := c) ht hb hm h1
    have hx' := ha.ev hx
    have hr' : (execOp a.eval (XOp.mk none (.call { callee := .builtin .clear, args := #[x], argTypes := #[t] }) ty).oper).run P w = .ok (.value (.tuple #[])) w1 := by
      simp only [execOp, XOp.oper, resolve, invoke, builtin, Sem.run_bind, Sem.run_pure, Result.andThen_ok, List.map_toArray, List.map_cons, List.map_nil, hx', hr]
    unfold Oper.wp
    rw [hr']
    exact ⟨hR w1 hU, h w1 cs' hU hB h2 h3 h4 _ ha⟩) hk
end
end Go.Proofs.Ytjocklgihjbaiaa
end
section
/- Sums of numbers that are no less than 0, kept as natural numbers. Over any program. -/
namespace Go.Proofs.Ytjocklgihjbaiaa
open Go.RowKit
section
variable {P : Program} {n : Fm} {R : Rel} {Q : Exit → Act → World → Prop} {e : Env} {w : World} {k : Kind} {d : Tmp} {ty : TypeId} {s : XPlan}
theorem E_addN {x y : Operand} {t u : TypeId} {i j : Nat} (hx : e.ev x = some (.int .i64 (i : Int))) (hy : e.ev y = some (.int .i64 (j : Int))) (h1 : i + j < 9223372036854775808) (hd : d < n.n) (h : wpE P n Q R s ((d, .int .i64 ((i + j : Nat) : Int)) :: e) w) :
    wpE P n Q R (.step k ⟨some d, .binOp .add t x y u, ty⟩ none s) e w := E_add hx hy (by omega) (by omega) hd (by rw [← Int.natCast_add]; exact h)
theorem E_addN1 {x : Operand} {t u : TypeId} {i : Nat} (hx : e.ev x = some (.int .i64 (i : Int))) (h1 : i + 1 < 9223372036854775808) (hd : d < n.n) (h : wpE P n Q R s ((d, .int .i64 ((i + 1 : Nat) : Int)) :: e) w) :
    wpE P n Q R (.step k ⟨some d, .binOp .add t x (.const (.int .i64 1)) u, ty⟩ none s) e w := E_add hx (y := .const (.int .i64 1)) rfl (by omega) (by omega) hd (by rw [show (i : Int) + 1 = ((i + 1 : Nat) : Int) from rfl]; exact h)
theorem E_subN {x y : Operand} {t u : TypeId} {i j m : Nat} (hx : e.ev x = some (.int .i64 (i : Int))) (hy : e.ev y = some (.int .i64 (j : Int))) (h1 : i < 9223372036854775808) (hj : j ≤ i) (hm : i - j = m) (hd : d < n.n) (h : wpE P n Q R s ((d, .int .i64 (m : Int)) :: e) w) :
    wpE P n Q R (.step k ⟨some d, .binOp .sub t x y u, ty⟩ none s) e w := E_sub hx hy (by omega) (by omega) hd (by rw [show (i : Int) - j = (m : Int) by omega]; exact h)
theorem E_subN1 {x : Operand} {t u : TypeId} {i m : Nat} (hx : e.ev x = some (.int .i64 (i : Int))) (h1 : i < 9223372036854775808) (hm : m + 1 = i) (hd : d < n.n) (h : wpE P n Q R s ((d, .int .i64 (m : Int)) :: e) w) :
    wpE P n Q R (.step k ⟨some d, .binOp .sub t x (.const (.int .i64 1)) u, ty⟩ none s) e w := E_sub hx (y := .const (.int .i64 1)) rfl (by omega) (by omega) hd (by rw [show (i : Int) - 1 = (m : Int) by omega]; exact h)
theorem rd_mul {x y : Operand} {t u : TypeId} {a : Act} {m n : Int} (hx : a.eval x = .int .i64 m) (hy : a.eval y = .int .i64 n) (h0 : -9223372036854775808 ≤ m * n) (h1 : m * n < 9223372036854775808) {dd : Option Tmp} (nx : wpX P Q R s (a.put dd (.int .i64 (m * n))) w) : wpX P Q R (.step k ⟨dd, .binOp .mul t x y u, ty⟩ none s) a w :=
  rd_bin hx hy (fun w' => by
    have : IntKind.i64.wrap (m * n) = m * n := IntWalk.i64_in _ (by omega)
    simp [Go.binOp, Op.intArith, this]) nx
theorem E_mulN2 {y : Operand} {t u : TypeId} {i : Nat} (hy : e.ev y = some (.int .i64 (i : Int))) (h1 : 2 * i < 9223372036854775808) (hd : d < n.n) (h : wpE P n Q R s ((d, .int .i64 ((2 * i : Nat) : Int)) :: e) w) :
    wpE P n Q R (.step k ⟨some d, .binOp .mul t (.const (.int .i64 2)) y u, ty⟩ none s) e w := fun _ ha => rd_mul (x := .const (.int .i64 2)) rfl (ha.ev hy) (by omega) (by omega) (by rw [show (2 : Int) * i = ((2 * i : Nat) : Int) by omega]; exact h _ (ha.put hd))
theorem E_quoN {x : Operand} {t u : TypeId} {i m : Nat} (hx : e.ev x = some (.int .i64 (i : Int))) (hm : 0 < m) (h1 : i < 9223372036854775808) (hd : d < n.n) (h : wpE P n Q R s ((d, .int .i64 ((i / m : Nat) : Int)) :: e) w) :
    wpE P n Q R (.step k ⟨some d, .binOp .quo t x (.const (.int .i64 (m : Int))) u, ty⟩ none s) e w := fun _ ha =>
  rd_bin (ha.ev hx) (y := .const (.int .i64 (m : Int))) rfl (fun w' => by
    have hlt : i / m ≤ i := Nat.div_le_self i m
    have e1 : (i : Int).tdiv (m : Int) = ((i / m : Nat) : Int) := by rw [Int.tdiv_eq_ediv_of_nonneg (by omega)]; exact (Int.natCast_ediv i m).symm
    generalize i / m = qv at hlt e1 ⊢
    have e2 : IntKind.i64.wrap (qv : Int) = (qv : Int) := IntWalk.i64_in _ (by omega)
    have e3 : ¬ ((m : Int) = 0) := by omega
    have e4 : (Op.intDiv .quo .i64 (i : Int) (m : Int)).run P w' = .ok (.int .i64 (qv : Int)) w' := by
      unfold Op.intDiv
      rw [if_neg e3, e1, e2]; rfl
    simpa [Go.binOp] using e4) (h _ (ha.put hd))
end
end Go.Proofs.Ytjocklgihjbaiaa
end
section
/- Ranges over functions: an iterator that turns the world ahead of its first call; what it is told of the worlds behind. Over any program. -/
namespace Go.Proofs.Ytjocklgihjbaiaa
open Go.RowKit
/-- As Iter; V: the world ahead of the first call; all but T stays as it is in V. -/
def Iter2 {α : Type} (P : Program) (gf : FuncId) (lb : Array Value) (encs : α → Array Value) (xs : List α) (Pre : World → World → Prop) (T : Nat → Prop) (w : World) : Prop :=
  ∀ (l : Nat) (J Jx : World → List α → World → Prop) (W1 : World), Fr w W1 → (∀ V pre W W', J V pre W → Fr W W' → J V pre W') → (∀ V pre W W', Jx V pre W → Fr W W' → Jx V pre W') → (∀ V, YieldOk P l encs xs (J V) (Jx V)) →
    (∀ V, Pre W1 V → J V [] V) → (∀ V pre W, J V pre W → Ch (fun k => T k ∨ Odd V k) V W) → Calls P gf (#[.func (.yield l) #[] #[]] ++ lb) W1 fun e W' => (∃ v, e = .returned v) ∧ ∃ V, Pre W1 V ∧ (J V xs W' ∨ ∃ pre, pre <+: xs ∧ Jx V pre W')
theorem chNew_upd {T : Nat → Prop} {B : Nat} {V W W' : World} {r : Nat} (h : Ch (fun k => T k ∨ (Odd V k ∧ B ≤ k)) V W) (hB : B ≤ r) (ho : Odd W r) (hU : Upd r W W') : Ch (fun k => T k ∨ (Odd V k ∧ B ≤ k)) V W' :=
  h.more hU.ch fun i hi e => by
    subst e
    by_cases h1 : T i ∨ (Odd V i ∧ B ≤ i)
    · exact h1
    · have e := h.block i hi h1
      exact .inr ⟨⟨fun cs t f hc => ho.1 cs t f (e.trans hc), fun es c hc => ho.2.1 es c (e.trans hc), hi⟩, hB⟩
theorem chNew_odd {T : Nat → Prop} {B : Nat} {V W : World} (h : Ch (fun k => T k ∨ (Odd V k ∧ B ≤ k)) V W) : Ch (fun k => T k ∨ Odd V k) V W := h.mono fun _ _ e => e.imp id And.left
section
variable {P : Program} {n : Fm} {Q : Exit → Act → World → Prop} {e : Env} {w : World} {α : Type}
theorem e_range2 {c assign body : Code} {g : Operand} {ps : Array Tmp} (hc : c = .rangeFunc g ps assign body) {gf : FuncId} {lb : Array Value} (hg : e.ev g = some (.func (.func gf) #[] lb)) (hen : Enters P gf)
    {encs : α → Array Value} {xs : List α} {Pre : World → World → Prop} {T : Nat → Prop} (hseq : Iter2 P gf lb encs xs Pre T w) (hps : ∀ x, (encs x).size = ps.size) (hN : ∀ p ∈ ps, p < n.n)
    (I : World → List α → World → Prop) (Ix : World → Code → List α → World → Prop) (A : World → List α → α → Env → World → Prop) (hT : ∀ W2 pre W, I W2 pre W → Ch (fun k => T k ∨ Odd W2 k) W2 W)
    (hF : ∀ W2 pre W W', I W2 pre W → Fr W W' → I W2 pre W') (hFx : ∀ W2 c pre W W', Ix W2 c pre W → Fr W W' → Ix W2 c pre W')
    (hU : ∀ W2 pre W W' r, w.heap.size ≤ r → Odd W r → I W2 pre W → Upd r W W' → I W2 pre W') (hUx : ∀ W2 c pre W W' r, w.heap.size ≤ r → Odd W r → Ix W2 c pre W → Upd r W W' → Ix W2 c pre W') (hUA : ∀ W2 pre x e1 W W' r, w.heap.size ≤ r → Odd W r → A W2 pre x e1 W → Upd r W W' → A W2 pre x e1 W')
    (hPre : ∀ W1 W2, Fr w W1 → Pre W1 W2 → I W2 [] W2 ∧ ∀ k, w.heap.size ≤ k → k < W1.heap.size → W2.heap[k]? = W1.heap[k]?)
    (hassign : ∀ W2 l D pre x W, w.heap.size ≤ l → w.heap.size ≤ D → l < W.heap.size → D < W.heap.size → Odd W l → Odd W D → I W2 pre W → (pre ++ [x]) <+: xs →
      ∀ a, Agrees ⟨n.n, []⟩ a (putEnv (ps.zip (encs x)).toList e) → ∀ m, assign.wpIn (Fence.wide.inRound l) m P (Exit.then (fun a1 W1 => Same l D W W1 ∧ ∃ e1, Agrees ⟨n.n, []⟩ a1 e1 ∧ A W2 pre x e1 W1) (fun _ _ _ => False)) a W)
    (hbody : ∀ W2 l D pre x e1 W, w.heap.size ≤ l → w.heap.size ≤ D → l < W.heap.size → D < W.heap.size → Odd W l → Odd W D → A W2 pre x e1 W → (pre ++ [x]) <+: xs →
      ∀ a, Agrees ⟨n.n, []⟩ a e1 → ∀ m, body.wpIn (Fence.wide.inRound l) m P (roundQ l D (I W2 (pre ++ [x])) (fun c => Ix W2 c (pre ++ [x])) W) a W)
    (hdone : ∀ W1 W2 D W, Fr w W1 → Pre W1 W2 → w.heap.size ≤ D → I W2 xs W → W.heap[D]? = some (.deferred (some [])) → ∀ a, Agrees ⟨n.n, mark D :: n.ds⟩ a e → Q .normal a W)
    (hstop : ∀ W1 W2 D c pre W, Fr w W1 → Pre W1 W2 → w.heap.size ≤ D → pre <+: xs → Ix W2 c pre W → W.heap[D]? = some (.deferred (some [])) → ∀ a, Agrees ⟨n.n, mark D :: n.ds⟩ a e → c.wp P Q a W) :
    wpC P n (.code c) Q e w := fun a ha => by
  subst hc
  refine wpIn_wide (n := 3).1 (wpIn_rangeFunc ?_)
  intro fn hfn
  have hg' := ha.ev hg
  obtain ⟨rec, hrec⟩ : ∃ rec : LoopState → Option Code → Loop, rec = fun st pe => { state := st, pending := pe, fn, tmps := a.tmps, params := ps, assign, body, defers := w.heap.size } := ⟨_, rfl⟩
  obtain ⟨W1, hW1⟩ : ∃ W1, (w.alloc (.deferred (some []))).alloc (.loop (rec .ready none)) = W1 := ⟨_, rfl⟩
  have hL1 : W1.heap[w.heap.size + 1]? = some (.loop (rec .ready none)) := by
    rw [← hW1]; have := World.alloc_heap_new (w.alloc (.deferred (some []))) (.loop (rec .ready none)); rwa [World.size_alloc] at this
  have hK1 : W1.heap[w.heap.size]? = some (.deferred (some [])) := by
    rw [← hW1]; exact (Below.heap_alloc _ _ _ (by simp)).trans (World.alloc_heap_new w _)
  have hF1 : Fr w W1 := by rw [← hW1]; exact ((Fr.refl w).alloc _).alloc _
  have hs1 : w.heap.size + 1 < W1.heap.size := (Array.getElem?_eq_some_iff.1 hL1).1
  obtain ⟨gfn, hgf, hgn, hgb⟩ := hen
  have eg : ∀ args w, (callFunc gf args).run P w = .ok (.enter gf args) w := fun args w => by
    have hn' : ¬ gfn.name = "runtime.NumGoroutine" := by simpa using hgn
    have hb' : ¬ gfn.body = none := fun h0 => by rw [h0] at hgb; cases hgb
    simp [callFunc, hgf, hn', hb']
  have odd : ∀ {W : World} {r : Nat} {lp : Loop}, W.heap[r]? = some (.loop lp) → Odd W r := fun h => ⟨fun _ _ _ e => (by rw [h] at e; cases e), fun _ _ e => (by rw [h] at e; cases e), (Array.getElem?_eq_some_iff.1 h).1⟩
  have odd' : ∀ {W : World} {r : Nat} {o : Option (List Deferred)}, W.heap[r]? = some (.deferred o) → Odd W r := fun h => ⟨fun _ _ _ e => (by rw [h] at e; cases e), fun _ _ e => (by rw [h] at e; cases e), (Array.getElem?_eq_some_iff.1 h).1⟩
  refine ⟨w.heap.size + 1, [{ target := .collected w.heap.size, args := #[] }], W1, { target := .fn (.func gf) lb, args := #[.func (.yield (w.heap.size + 1)) #[] #[]] }, W1, gf,
    #[.func (.yield (w.heap.size + 1)) #[] #[]] ++ lb, W1, ?_, ?_, ?_, ?_, fun h => (by cases h), calls_in _ ?_⟩
  · rw [← hW1, hrec]; exact run_enterLoop_outer _ _ _ _ _
  · simp only [resolve, hg']
    simp [go_sem]
  · intro f' _; trivial
  · simp [invoke, go_sem, eg]
  · refine (hseq (w.heap.size + 1)
      (fun V pre W => I V pre W ∧ W.heap[w.heap.size + 1]? = some (.loop (rec .ready none)) ∧ W.heap[w.heap.size]? = some (.deferred (some [])))
      (fun V pre W => ∃ c, Ix V c pre W ∧ W.heap[w.heap.size + 1]? = some (.loop (rec .done (some c))) ∧ W.heap[w.heap.size]? = some (.deferred (some [])))
      W1 hF1 (fun V pre W W' h hF' => ⟨hF _ _ _ _ h.1 hF', hF'.heap h.2.1, hF'.heap h.2.2⟩)
      (fun V pre W W' h hF' => by obtain ⟨c, h1, h2, h3⟩ := h; exact ⟨c, hFx _ _ _ _ _ h1 hF', hF'.heap h2, hF'.heap h3⟩) ?_ ?_ (fun V pre W h => hT _ _ _ h.1)).mono ?_
    · rintro V pre x W ⟨hi, hl, hk⟩ hpre
      have hlt : w.heap.size + 1 < W.heap.size := (Array.getElem?_eq_some_iff.1 hl).1
      have hy := run_yield (P := P) (args := encs x) hl (by rw [hrec]; exact hps x)
      rw [hrec] at hy
      have hag : Agrees ⟨n.n, []⟩ { tmps := (ps.zip (encs x)).foldl (fun tmps (t, a) => tmps.setIfInBounds t a) a.tmps, defers := [] } (putEnv (ps.zip (encs x)).toList e) := by
        have := agrees_putEnv (N := n.n) (e := e) (ps.zip (encs x)).toList a.tmps e (fun p hp => hN p.1 (by
          have := Array.mem_toList_iff.1 hp
          obtain ⟨i, hi, rfl⟩ := Array.mem_iff_getElem.1 this
          simp only [Array.getElem_zip]
          exact Array.getElem_mem _)) ⟨rfl, ha.2.1, ha.2.2⟩
        rw [Array.foldl_toList] at this
        exact this
      refine ⟨fn, _, assign, body, hy, roundIn_of_wpIn (n := 0) trivial (wpIn_mono (hassign V (w.heap.size + 1) w.heap.size pre x W (by omega) (Nat.le_refl _) hlt (by omega) (odd hl) (odd' hk) hi hpre _ hag 0) ?_)⟩
      intro ex a1 W2 hex
      cases ex with
      | normal =>
        obtain ⟨⟨hs, hs'⟩, e1, hag1, hA⟩ := hex
        have hl1 := hs.trans hl
        have hk1 := hs'.trans hk
        have hlt2 : w.heap.size + 1 < W2.heap.size := (Array.getElem?_eq_some_iff.1 hl1).1
        refine ⟨_, run_beginRound hl1 (by rw [hrec]), ?_⟩
        have hl2 : (W2.putObj (w.heap.size + 1) (.loop { rec .ready none with state := .busy })).heap[w.heap.size + 1]? = some (.loop { rec .ready none with state := .busy }) := World.putObj_heap_same hlt2
        have hk2 : (W2.putObj (w.heap.size + 1) (.loop { rec .ready none with state := .busy })).heap[w.heap.size]? = some (.deferred (some [])) := (World.putObj_heap_other (by omega)).trans hk1
        have hA2 := hUA _ _ _ _ _ _ _ (by omega) (odd hl1) hA (upd_putObj W2 (w.heap.size + 1) (.loop { rec .ready none with state := .busy }))
        refine wpIn_mono (hbody V (w.heap.size + 1) w.heap.size pre x e1 _ (by omega) (Nat.le_refl _) (by simp; omega) (by simp; omega) (odd hl2) (odd' hk2) hA2 hpre a1 hag1 0) ?_
        have fin : ∀ (jump : Option Code) (W3 : World), Same (w.heap.size + 1) w.heap.size (W2.putObj (w.heap.size + 1) (.loop { rec .ready none with state := .busy })) W3 →
            (Instr.endRound (w.heap.size + 1) jump).run P W3 = .ok (.bool jump.isNone) (W3.putObj (w.heap.size + 1) (.loop (rec (if jump.isNone then .ready else .done) jump))) ∧
            W3.heap[w.heap.size + 1]? = some (.loop { rec .ready none with state := .busy }) ∧
            (W3.putObj (w.heap.size + 1) (.loop (rec (if jump.isNone then .ready else .done) jump))).heap[w.heap.size + 1]? = some (.loop (rec (if jump.isNone then .ready else .done) jump)) ∧
            (W3.putObj (w.heap.size + 1) (.loop (rec (if jump.isNone then .ready else .done) jump))).heap[w.heap.size]? = some (.deferred (some [])) := fun jump W3 hk3 => by
          have hl3 := hk3.1.trans hl2
          have := run_endRound (P := P) jump hl3
          rw [hrec] at this ⊢
          exact ⟨this, by rw [hrec] at hl3; exact hl3, World.putObj_heap_same (Array.getElem?_eq_some_iff.1 hl3).1, (World.putObj_heap_other (by omega)).trans (hk3.2.trans hk2)⟩
        rintro ex a3 W3 hp
        cases ex with
        | normal =>
          obtain ⟨hk3, hi3⟩ := hp
          obtain ⟨hr, hl3, hl4, hk4⟩ := fin none W3 hk3
          exact ⟨_, _, hr, .inl ⟨rfl, hU _ _ _ _ _ (by omega) (odd hl3) hi3 (upd_putObj _ _ _), hl4, hk4⟩⟩
        | ret =>
          obtain ⟨hk3, hi3⟩ := hp
          obtain ⟨hr, hl3, hl4, hk4⟩ := fin (some .ret) W3 hk3
          exact ⟨_, _, hr, .inr ⟨rfl, .ret, hUx _ _ _ _ _ _ (by omega) (odd hl3) hi3 (upd_putObj _ _ _), hl4, hk4⟩⟩
        | exit id =>
          obtain ⟨hk3, hi3⟩ := hp
          obtain ⟨hr, hl3, hl4, hk4⟩ := fin (some (.exit id)) W3 hk3
          exact ⟨_, _, hr, .inr ⟨rfl, .exit id, hUx _ _ _ _ _ _ (by omega) (odd hl3) hi3 (upd_putObj _ _ _), hl4, hk4⟩⟩
        | goto t =>
          obtain ⟨hk3, hi3⟩ := hp
          obtain ⟨hr, hl3, hl4, hk4⟩ := fin (some (.goto t)) W3 hk3
          exact ⟨_, _, hr, .inr ⟨rfl, .goto t, hUx _ _ _ _ _ _ (by omega) (odd hl3) hi3 (upd_putObj _ _ _), hl4, hk4⟩⟩
        | panic ch => exact hp.elim
        | outgrown => exact hp.elim
      | _ => exact hex.elim
    · intro W2 hp
      obtain ⟨hi, hsame⟩ := hPre W1 W2 hF1 hp
      exact ⟨hi, (hsame _ (by omega) hs1).trans hL1, (hsame _ (Nat.le_refl _) (by omega)).trans hK1⟩
    · rintro ex W2 ⟨⟨v, rfl⟩, V, hV, (⟨hi, hl, hk⟩ | ⟨pre, hpre, c, hi, hl, hk⟩)⟩
      · refine ⟨none, _, by have := run_endLoop (P := P) hl (by rw [hrec]; simp); rw [hrec] at this; exact this, ?_⟩
        exact hdone W1 V w.heap.size _ hF1 hV (Nat.le_refl _) (hU _ _ _ _ _ (by omega) (odd hl) hi (upd_putObj _ _ _)) ((World.putObj_heap_other (by omega)).trans hk) _ ⟨by simp [mark, ha.1], ha.2.1, ha.2.2⟩
      · refine ⟨some c, _, by have := run_endLoop (P := P) hl (by rw [hrec]; simp); rw [hrec] at this; exact this, ?_⟩
        exact wpIn_wide.2 (hstop W1 V w.heap.size c pre _ hF1 hV (Nat.le_refl _) hpre (hUx _ _ _ _ _ _ (by omega) (odd hl) hi (upd_putObj _ _ _)) ((World.putObj_heap_other (by omega)).trans hk) _ ⟨by simp [mark, ha.1], ha.2.1, ha.2.2⟩)
end
end Go.Proofs.Ytjocklgihjbaiaa
end
section
/- More ends: a result that lies in a cell; a store of one cell. Over any program. -/
namespace Go.Proofs.Ytjocklgihjbaiaa
open Go.RowKit
section
variable {P : Program} {fn : Func} {n : Fm} {e : Env} {w : World} {RR : Ending → World → Prop}
theorem run_cell {P : Program} {t : TypeId} {p : Addr} {v : Value} {w : World} (ht : loadKind P t = some none) (hc : w.cell? p = some v) : (loadVar t p).run P w = .ok v w := by
  have hagg := loadKind_none ht w
  simp [loadVar, hagg, hc]
theorem e_retCM {t ty bt : TypeId} {b : Nat} {v : Value} (Ds : List Nat) (hf : fn.results = #[.cell t ty]) (ht : e.get t = some (.pointer (some ⟨b, 0, none⟩))) (hb : Blk w b bt #[v]) (hk : loadKind P ty = some none)
    (hds : n.ds = Ds.map mark) (hD : ∀ D ∈ Ds, w.heap[D]? = some (.deferred (some []))) (hnd : Ds.Nodup)
    (h : ∀ w', Ch (· ∈ Ds) w w' → RR (.returned v) w') : wpC P n .ret (endM P fn RR) e w := fun a ha => by
  show LeavesInM _ _ _ _ _ _ _ _ _
  rw [ha.1, hds]
  refine leavesM Ds w hD hnd fun w' hc => ⟨?_, h w' hc⟩
  have hbD : ¬ b ∈ Ds := fun hm => by
    have := hD b hm
    unfold Blk at hb
    rw [hb] at this; cases this
  have h2 := run_cell (P := P) (t := ty) (p := ⟨b, 0, none⟩) hk ((hb.ch hc hbD).cell rfl)
  have g1 := ha.get ht
  simp [results, hf, g1, asAddr, h2]
end
section
variable {P : Program} {n : Fm} {R : Rel} {Q : Exit → Act → World → Prop} {e : Env} {w : World} {k : Kind} {d : Tmp} {ty : TypeId} {s : XPlan}
/-- A store of one cell into a block of one. -/
theorem E_storeC {x y : Operand} {t bt : TypeId} {v v0 : Value} {b : Nat} (hk : k.acts = true) (hR : ∀ w1, Upd b w w1 → Blk w1 b bt #[v] → behind k R w w1) (hx : e.ev x = some (.pointer (some ⟨b, 0, none⟩))) (hy : e.ev y = some v)
    (hb : Blk w b bt #[v0]) (ht : sizeIs P t = some 1) (h1 : v.oneCell' = true)
    (h : ∀ w1, Upd b w w1 → Blk w1 b bt #[v] → wpE P n Q R s e w1) : wpE P n Q R (.step k ⟨none, .store t x y, ty⟩ none s) e w :=
  E_store1 (o := 0) hk (fun w1 h2 h3 => hR w1 h2 h3) hx hy hb ht h1 (Nat.lt_succ_self 0) fun w1 h2 h3 => h w1 h2 h3
end
end Go.Proofs.Ytjocklgihjbaiaa
end
section
/- The laws of XE .. with their small goals shut by themselves: by program (pack.py). -/
namespace Go.Proofs.Ytjocklgihjbaiaa
open Go.RowKit
section
variable {P : Program} {n : Fm} {R : Rel} {Q : Exit → Act → World → Prop} {e : Env} {w : World} {k : Kind} {d : Tmp} {ty : TypeId} {s : XPlan} {fn : Func} {RR : Ending → World → Prop} {κ : Type} [DecidableEq κ] {kv : κ → Value} {t mt el : TypeId}
theorem A_add {x y : Operand} {t u : TypeId} {i j : Int} (h : wpE P n Q R s ((d, .int .i64 (i + j)) :: e) w) (hx : e.ev x = some (.int .i64 i) := by rfl) (hy : e.ev y = some (.int .i64 j) := by rfl) (h0 : -9223372036854775808 ≤ i + j := by omega) (h1 : i + j < 9223372036854775808 := by omega) (hd : d < n.n := by exact Nat.le_of_ble_eq_true rfl) : wpE P n Q R (.step k ⟨some d, .binOp .add t x y u, ty⟩ none s) e w := E_add hx hy h0 h1 hd h
theorem A_addN {x y : Operand} {t u : TypeId} {i j : Nat} (h : wpE P n Q R s ((d, .int .i64 ((i + j : Nat) : Int)) :: e) w) (hx : e.ev x = some (.int .i64 (i : Int)) := by rfl) (hy : e.ev y = some (.int .i64 (j : Int)) := by rfl) (h1 : i + j < 9223372036854775808 := by omega) (hd : d < n.n := by exact Nat.le_of_ble_eq_true rfl) : wpE P n Q R (.step k ⟨some d, .binOp .add t x y u, ty⟩ none s) e w := E_addN hx hy h1 hd h
theorem A_addN1 {x : Operand} {t u : TypeId} {i : Nat} (h : wpE P n Q R s ((d, .int .i64 ((i + 1 : Nat) : Int)) :: e) w) (hx : e.ev x = some (.int .i64 (i : Int)) := by rfl) (h1 : i + 1 < 9223372036854775808 := by omega) (hd : d < n.n := by exact Nat.le_of_ble_eq_true rfl) : wpE P n Q R (.step k ⟨some d, .binOp .add t x (.const (.int .i64 1)) u, ty⟩ none s) e w := E_addN1 hx h1 hd h
theorem A_alloc {t : TypeId} {cs : Array Value} (h : ∀ b w1, Fr w w1 → NewB w w1 b → Blk w1 b t cs → wpE P n Q R s ((d, .pointer (some ⟨b, 0, none⟩)) :: e) w1) (hk : k.acts = true := by rfl) (hz : zeroOf P t = some cs := by (simp only [Try.ZO]; try rfl)) (hd : d < n.n := by exact Nat.le_of_ble_eq_true rfl) : wpE P n Q R (.step k ⟨some d, .alloc t, ty⟩ none s) e w := E_alloc hk hz hd h
theorem A_assign {x : Operand} {v : Value} (h : wpE P n Q R s ((d, v) :: e) w) (hx : e.ev x = some v := by rfl) (hd : d < n.n := by exact Nat.le_of_ble_eq_true rfl) : wpE P n Q R (.step k ⟨some d, .assign x, ty⟩ none s) e w := E_assign hx hd h
theorem A_box {x : Operand} {t : TypeId} {v : Value} {cs : Array Value} (h : ∀ b w1, Fr w w1 → NewB w w1 b → Blk w1 b t cs → wpE P n Q R s ((d, .pointer (some ⟨b, 0, none⟩)) :: e) w1) (hk : k.acts = true := by rfl) (hx : e.ev x = some v := by rfl) (hcs : v.cells = cs := by (first | (simp only [Value.cells]; done) | (simp only [Value.cells]; rfl) | rfl)) (hd : d < n.n := by exact Nat.le_of_ble_eq_true rfl) : wpE P n Q R (.step k ⟨some d, .box t x, ty⟩ none s) e w := E_box hk hx hcs hd h
theorem A_build {t : TypeId} {parts : Array (Nat × Operand)} {vs : List Value} {cs : Array Value} (h : wpE P n Q R s ((d, .agg cs) :: e) w) (hv : e.evs (parts.toList.map (·.2)) = some vs := by rfl) (hb : P.built t ((parts.toList.map (·.1)).zip vs) = some cs := by (simp only [List.map_cons, List.map_nil, List.zip_cons_cons, List.zip_nil_left]; assumption)) (hd : d < n.n := by exact Nat.le_of_ble_eq_true rfl) : wpE P n Q R (.step k ⟨some d, .build t parts, ty⟩ none s) e w := E_build hv hb hd h
theorem A_eqK {x y : Operand} {u : TypeId} {a b : κ} (hk : KeyTy P t kv) {r : Bool} (h : wpE P n Q R s ((d, .bool r) :: e) w) (hx : e.ev x = some (kv a) := by rfl) (hy : e.ev y = some (kv b) := by rfl) (hr : decide (a = b) = r := by (first | exact decide_eq_true (by assumption) | exact decide_eq_false (by assumption) | exact decide_eq_false (fun h => h (by assumption)) | exact decide_eq_true rfl | rfl)) (hd : d < n.n := by exact Nat.le_of_ble_eq_true rfl) : wpE P n Q R (.step k ⟨some d, .binOp .eql t x y u, ty⟩ none s) e w := E_eqK hk hx hy hr hd h
theorem A_eql {x y : Operand} {t u : TypeId} {kd : IntKind} {i j : Int} {b : Bool} (h : wpE P n Q R s ((d, .bool b) :: e) w) (hx : e.ev x = some (.int kd i) := by rfl) (hy : e.ev y = some (.int kd j) := by rfl) (hb : decide (i = j) = b := by (first | exact decide_eq_true (by omega) | exact decide_eq_false (by omega) | rfl)) (hd : d < n.n := by exact Nat.le_of_ble_eq_true rfl) : wpE P n Q R (.step k ⟨some d, .binOp .eql t x y u, ty⟩ none s) e w := E_eql hx hy hb hd h
theorem A_eqlnil {x y : Operand} {t u : TypeId} {p : Option Addr} {b : Bool} (h : wpE P n Q R s ((d, .bool b) :: e) w) (hx : e.ev x = some (.pointer p) := by rfl) (hy : e.ev y = some (.pointer none) := by rfl) (ht : ptrDesc P t = true := by (simp only [Try.PD])) (hb : p.isNone = b := by (first | (simp only [Option.isNone_some, Option.isNone_none, Bool.not_true, Bool.not_false]; done) | (simp only [Option.isNone_some, Option.isNone_none, Bool.not_true, Bool.not_false]; rfl) | rfl)) (hd : d < n.n := by exact Nat.le_of_ble_eq_true rfl) : wpE P n Q R (.step k ⟨some d, .binOp .eql t x y u, ty⟩ none s) e w := E_eqlnil hx hy ht hb hd h
theorem A_eqlnilS {x y : Operand} {t u : TypeId} {p : Option Addr} {i c j c' : Nat} {b : Bool} (h : wpE P n Q R s ((d, .bool b) :: e) w) (hx : e.ev x = some (.slice p i c) := by rfl) (hy : e.ev y = some (.slice none j c') := by rfl) (ht : sliceDesc P t = true := by (simp only [Try.SD])) (hb : p.isNone = b := by (first | (simp only [Option.isNone_some, Option.isNone_none, Bool.not_true, Bool.not_false]; done) | (simp only [Option.isNone_some, Option.isNone_none, Bool.not_true, Bool.not_false]; rfl) | rfl)) (hd : d < n.n := by exact Nat.le_of_ble_eq_true rfl) : wpE P n Q R (.step k ⟨some d, .binOp .eql t x y u, ty⟩ none s) e w := E_eqlnilS hx hy ht hb hd h
theorem A_extract {x : Operand} {vs : Array Value} {i : Nat} {v : Value} (h : wpE P n Q R s ((d, v) :: e) w) (hx : e.ev x = some (.tuple vs) := by rfl) (hv : vs[i]? = some v := by (first | (simp only [List.getElem?_toArray, List.getElem?_cons_zero, List.getElem?_cons_succ]; done) | (simp only [List.getElem?_toArray, List.getElem?_cons_zero, List.getElem?_cons_succ]; rfl) | assumption | rfl)) (hd : d < n.n := by exact Nat.le_of_ble_eq_true rfl) : wpE P n Q R (.step k ⟨some d, .extract x i, ty⟩ none s) e w := E_extract hx hv hd h
theorem A_field {x : Operand} {st : TypeId} {f o q o' b : Nat} (h : wpE P n Q R s ((d, .pointer (some ⟨b, q, none⟩)) :: e) w) (hx : e.ev x = some (.pointer (some ⟨b, o', none⟩)) := by rfl) (ho : fieldOff P st f = some o := by (simp only [Try.FO]; try rfl)) (hq : o' + o = q := by ((try simp only [Nat.reduceAdd, Nat.reduceMul, Nat.zero_add, Nat.add_zero, Nat.mul_one, Int.toNat_natCast, Int.toNat_zero]); try rfl)) (hd : d < n.n := by exact Nat.le_of_ble_eq_true rfl) : wpE P n Q R (.step k ⟨some d, .fieldAddr st x f, ty⟩ none s) e w := E_field hx ho hq hd h
theorem A_geq {x y : Operand} {t u : TypeId} {kd : IntKind} {i j : Int} {b : Bool} (h : wpE P n Q R s ((d, .bool b) :: e) w) (hx : e.ev x = some (.int kd i) := by rfl) (hy : e.ev y = some (.int kd j) := by rfl) (hb : decide (j ≤ i) = b := by (first | exact decide_eq_true (by omega) | exact decide_eq_false (by omega) | rfl)) (hd : d < n.n := by exact Nat.le_of_ble_eq_true rfl) : wpE P n Q R (.step k ⟨some d, .binOp .geq t x y u, ty⟩ none s) e w := E_geq hx hy hb hd h
theorem A_gtr {x y : Operand} {t u : TypeId} {kd : IntKind} {i j : Int} {b : Bool} (h : wpE P n Q R s ((d, .bool b) :: e) w) (hx : e.ev x = some (.int kd i) := by rfl) (hy : e.ev y = some (.int kd j) := by rfl) (hb : decide (j < i) = b := by (first | exact decide_eq_true (by omega) | exact decide_eq_false (by omega) | rfl)) (hd : d < n.n := by exact Nat.le_of_ble_eq_true rfl) : wpE P n Q R (.step k ⟨some d, .binOp .gtr t x y u, ty⟩ none s) e w := E_gtr hx hy hb hd h
theorem A_idxA {x i : Operand} {t : TypeId} {kd : IntKind} {j : Int} {b o q m c : Nat} (h : wpE P n Q R s ((d, .pointer (some ⟨b, q, none⟩)) :: e) w) (hx : e.ev x = some (.pointer (some ⟨b, o, none⟩)) := by rfl) (hi : e.ev i = some (.int kd j) := by rfl) (ht : arrayOf P t = some (c, m) := by (simp only [Try.AO]; try rfl)) (h0 : 0 ≤ j := by omega) (h1 : j < c := by omega) (hq : o + j.toNat * m = q := by ((try simp only [Nat.reduceAdd, Nat.reduceMul, Nat.zero_add, Nat.add_zero, Nat.mul_one, Int.toNat_natCast, Int.toNat_zero]); try rfl)) (hd : d < n.n := by exact Nat.le_of_ble_eq_true rfl) : wpE P n Q R (.step k ⟨some d, .indexAddr t x i, ty⟩ none s) e w := E_idxA hx hi ht h0 h1 hq hd h
theorem A_idxS {x i : Operand} {t e' : TypeId} {kd : IntKind} {j : Int} {b o q m c c' by' : Nat} (h : wpE P n Q R s ((d, .pointer (some ⟨b, q, none⟩)) :: e) w) (hx : e.ev x = some (.slice (some ⟨b, o, none⟩) c c') := by rfl) (hi : e.ev i = some (.int kd j) := by rfl) (ht : sliceOf P t = some (e', m, by') := by (simp only [Try.SO]; try rfl)) (h0 : 0 ≤ j := by omega) (h1 : j < c := by omega) (hq : o + j.toNat * m = q := by ((try simp only [Nat.reduceAdd, Nat.reduceMul, Nat.zero_add, Nat.add_zero, Nat.mul_one, Int.toNat_natCast, Int.toNat_zero]); try rfl)) (hd : d < n.n := by exact Nat.le_of_ble_eq_true rfl) : wpE P n Q R (.step k ⟨some d, .indexAddr t x i, ty⟩ none s) e w := E_idxS hx hi ht h0 h1 hq hd h
theorem A_index {x i : Operand} {t : TypeId} {kd : IntKind} {j : Int} {cs : Array Value} {c e' : Nat} {v : Value} (h : wpE P n Q R s ((d, v) :: e) w) (hx : e.ev x = some (.agg cs) := by rfl) (hi : e.ev i = some (.int kd j) := by rfl) (ht : P.underlying t = some (.array c e') := by (simp only [Try.UA]; try rfl)) (he : loadKind P e' = some none := by (simp only [Try.LK])) (hs : sizeIs P e' = some 1 := by (simp only [Try.SI])) (h0 : 0 ≤ j := by omega) (h1 : j < c := by omega) (hv : cs[j.toNat]? = some v := by (first | assumption | (simp only [Int.toNat_natCast]; assumption) | rfl)) (hd : d < n.n := by exact Nat.le_of_ble_eq_true rfl) : wpE P n Q R (.step k ⟨some d, .index t x i, ty⟩ none s) e w := E_index hx hi ht he hs h0 h1 hv hd h
omit [DecidableEq κ] in
theorem A_lenM {x : Operand} {b : Nat} {l : List (κ × Value)} (hm : P.underlying mt = some (.map t el)) (h : wpE P n Q R s ((d, .int .i64 l.length) :: e) w) (hx : e.ev x = some (.map (some b)) := by rfl) (hB : R.keepsO k b := by (first | exact trivial | exact (fun _ _ => trivial) | assumption | (intro _ _; assumption))) (hb : MapAt kv w b l := by (repeat (first | assumption | (apply MapAt.fr; rotate_left; assumption) | (apply MapAt.upd; rotate_left; assumption; (focus (first | assumption | omega)))))) (hd : d < n.n := by exact Nat.le_of_ble_eq_true rfl) : wpE P n Q R (.step k ⟨some d, .call { callee := .builtin .len, args := #[x], argTypes := #[mt] }, ty⟩ none s) e w := E_lenM hm hx hB hb hd h
theorem A_lenS {x : Operand} {t : TypeId} {p : Option Addr} {i c : Nat} (h : wpE P n Q R s ((d, .int .i64 i) :: e) w) (hx : e.ev x = some (.slice p i c) := by rfl) (ht : sliceDesc P t = true := by (simp only [Try.SD])) (hd : d < n.n := by exact Nat.le_of_ble_eq_true rfl) : wpE P n Q R (.step k ⟨some d, .call { callee := .builtin .len, args := #[x], argTypes := #[t] }, ty⟩ none s) e w := E_lenS hx ht hd h
theorem A_leq {x y : Operand} {t u : TypeId} {kd : IntKind} {i j : Int} {b : Bool} (h : wpE P n Q R s ((d, .bool b) :: e) w) (hx : e.ev x = some (.int kd i) := by rfl) (hy : e.ev y = some (.int kd j) := by rfl) (hb : decide (i ≤ j) = b := by (first | exact decide_eq_true (by omega) | exact decide_eq_false (by omega) | rfl)) (hd : d < n.n := by exact Nat.le_of_ble_eq_true rfl) : wpE P n Q R (.step k ⟨some d, .binOp .leq t x y u, ty⟩ none s) e w := E_leq hx hy hb hd h
theorem A_load {x : Operand} {t : TypeId} {p : Addr} {v : Value} (h : wpE P n Q R s ((d, v) :: e) w) (hx : e.ev x = some (.pointer (some p)) := by rfl) (ht : loadKind P t = some none := by (simp only [Try.LK])) (hB : R.keeps k p := by (first | exact trivial | exact (fun _ _ => trivial) | assumption | (intro _ _; assumption))) (hc : w.cell? p = some v := by (repeat (first | assumption | (apply Blk.cell; assumption; (focus (first | (simp only [List.getElem?_toArray, List.getElem?_cons_zero, List.getElem?_cons_succ]; done) | (simp only [List.getElem?_toArray, List.getElem?_cons_zero, List.getElem?_cons_succ]; rfl) | assumption | rfl))) | (apply Fr.c; assumption) | (apply Upd.c; assumption; (focus (dsimp only; omega)))))) (hd : d < n.n := by exact Nat.le_of_ble_eq_true rfl) : wpE P n Q R (.step k ⟨some d, .load t x, ty⟩ none s) e w := E_load hx ht hB hc hd h
theorem A_loadB {x : Operand} {t bt : TypeId} {b o m : Nat} {cs cs' : Array Value} (h : wpE P n Q R s ((d, .agg cs') :: e) w) (hx : e.ev x = some (.pointer (some ⟨b, o, none⟩)) := by rfl) (ht : loadKind P t = some (some m) := by (first | (simp only [Try.LK]; done) | (simp only [Try.LK]; rfl) | (simp only [Try.LK, *]; done))) (hB : R.keepsR k b o m := by (first | exact trivial | exact (fun _ _ => trivial) | assumption | (intro _ _; assumption))) (hb : Blk w b bt cs := by (repeat (first | assumption | (apply Blk.fr; rotate_left; assumption) | (apply Blk.upd; rotate_left; assumption; (focus omega))))) (hm : o + m ≤ cs.size := by (first | assumption | exact Nat.le_of_ble_eq_true rfl)) (he : cs.extract o (o + m) = cs' := by (first | assumption | rfl)) (hd : d < n.n := by exact Nat.le_of_ble_eq_true rfl) : wpE P n Q R (.step k ⟨some d, .load t x, ty⟩ none s) e w := E_loadB hx ht hB hb hm he hd h
theorem A_loadW {x : Operand} {t bt : TypeId} {b : Nat} {cs : Array Value} (h : wpE P n Q R s ((d, .agg cs) :: e) w) (hx : e.ev x = some (.pointer (some ⟨b, 0, none⟩)) := by rfl) (hB : R.keepsR k b 0 cs.size := by (first | exact trivial | exact (fun _ _ => trivial) | assumption | (intro _ _; assumption))) (hb : Blk w b bt cs := by (repeat (first | assumption | (apply Blk.fr; rotate_left; assumption) | (apply Blk.upd; rotate_left; assumption; (focus omega))))) (ht : loadKind P t = some (some cs.size) := by (first | (simp only [Try.LK]; done) | (simp only [Try.LK]; rfl) | (simp only [Try.LK, *]; done))) (hd : d < n.n := by exact Nat.le_of_ble_eq_true rfl) : wpE P n Q R (.step k ⟨some d, .load t x, ty⟩ none s) e w := E_loadW hx hB hb ht hd h
theorem A_loads {x : Operand} {t : TypeId} {b o m : Nat} {cs : Array Value} (h : wpE P n Q R s ((d, .agg cs) :: e) w) (hx : e.ev x = some (.pointer (some ⟨b, o, none⟩)) := by rfl) (ht : loadKind P t = some (some m) := by (first | (simp only [Try.LK]; done) | (simp only [Try.LK]; rfl) | (simp only [Try.LK, *]; done))) (hB : R.keepsR k b o m := by (first | exact trivial | exact (fun _ _ => trivial) | assumption | (intro _ _; assumption))) (hc : w.rangeAt b o cs.toList := by (repeat (first | assumption | (apply rangeAt_fr; rotate_left; assumption) | (apply rangeAt_upd; rotate_left; assumption; (focus omega))))) (hm : cs.size = m := by (first | rfl | assumption | (simp only [*]; done))) (hd : d < n.n := by exact Nat.le_of_ble_eq_true rfl) : wpE P n Q R (.step k ⟨some d, .load t x, ty⟩ none s) e w := E_loads hx ht hB hc hm hd h
theorem A_lss {x y : Operand} {t u : TypeId} {kd : IntKind} {i j : Int} {b : Bool} (h : wpE P n Q R s ((d, .bool b) :: e) w) (hx : e.ev x = some (.int kd i) := by rfl) (hy : e.ev y = some (.int kd j) := by rfl) (hb : decide (i < j) = b := by (first | exact decide_eq_true (by omega) | exact decide_eq_false (by omega) | rfl)) (hd : d < n.n := by exact Nat.le_of_ble_eq_true rfl) : wpE P n Q R (.step k ⟨some d, .binOp .lss t x y u, ty⟩ none s) e w := E_lss hx hy hb hd h
theorem A_makeFunc {fn : Fn} {first cap : Array Operand} {vs us : List Value} (h : wpE P n Q R s ((d, .func fn vs.toArray us.toArray) :: e) w) (hv : e.evs first.toList = some vs := by rfl) (hu : e.evs cap.toList = some us := by rfl) (hd : d < n.n := by exact Nat.le_of_ble_eq_true rfl) : wpE P n Q R (.step k ⟨some d, .makeFunc fn first cap, ty⟩ none s) e w := E_makeFunc hv hu hd h
theorem A_max {x y : Operand} {t u : TypeId} {i j m : Int} (h : wpE P n Q R s ((d, .int .i64 m) :: e) w) (hx : e.ev x = some (.int .i64 i) := by rfl) (hy : e.ev y = some (.int .i64 j) := by rfl) (hm : max i j = m := by rfl) (hd : d < n.n := by exact Nat.le_of_ble_eq_true rfl) : wpE P n Q R (.step k ⟨some d, .call { callee := .builtin .max, args := #[x, y], argTypes := #[t, u] }, ty⟩ none s) e w := E_max hx hy hm hd h
theorem A_min {x y : Operand} {t u : TypeId} {i j m : Int} (h : wpE P n Q R s ((d, .int .i64 m) :: e) w) (hx : e.ev x = some (.int .i64 i) := by rfl) (hy : e.ev y = some (.int .i64 j) := by rfl) (hm : min i j = m := by rfl) (hd : d < n.n := by exact Nat.le_of_ble_eq_true rfl) : wpE P n Q R (.step k ⟨some d, .call { callee := .builtin .min, args := #[x, y], argTypes := #[t, u] }, ty⟩ none s) e w := E_min hx hy hm hd h
theorem A_move {x : Operand} {v : Value} (h : wpE P n Q R s ((d, v) :: e) w) (hx : e.ev x = some v := by rfl) (hd : d < n.n := by exact Nat.le_of_ble_eq_true rfl) : wpE P n Q R (.step k ⟨some d, .move x, ty⟩ none s) e w := E_move hx hd h
theorem A_mulN2 {y : Operand} {t u : TypeId} {i : Nat} (h : wpE P n Q R s ((d, .int .i64 ((2 * i : Nat) : Int)) :: e) w) (hy : e.ev y = some (.int .i64 (i : Int)) := by rfl) (h1 : 2 * i < 9223372036854775808 := by omega) (hd : d < n.n := by exact Nat.le_of_ble_eq_true rfl) : wpE P n Q R (.step k ⟨some d, .binOp .mul t (.const (.int .i64 2)) y u, ty⟩ none s) e w := E_mulN2 hy h1 hd h
theorem A_neK {x y : Operand} {u : TypeId} {a b : κ} (hk : KeyTy P t kv) {r : Bool} (h : wpE P n Q R s ((d, .bool r) :: e) w) (hx : e.ev x = some (kv a) := by rfl) (hy : e.ev y = some (kv b) := by rfl) (hr : decide (a ≠ b) = r := by (first | exact decide_eq_true (by assumption) | exact decide_eq_false (by assumption) | exact decide_eq_false (fun h => h (by assumption)) | exact decide_eq_true rfl | rfl)) (hd : d < n.n := by exact Nat.le_of_ble_eq_true rfl) : wpE P n Q R (.step k ⟨some d, .binOp .neq t x y u, ty⟩ none s) e w := E_neK hk hx hy hr hd h
theorem A_neq {x y : Operand} {t u : TypeId} {kd : IntKind} {i j : Int} {b : Bool} (h : wpE P n Q R s ((d, .bool b) :: e) w) (hx : e.ev x = some (.int kd i) := by rfl) (hy : e.ev y = some (.int kd j) := by rfl) (hb : decide (i ≠ j) = b := by (first | exact decide_eq_true (by omega) | exact decide_eq_false (by omega) | rfl)) (hd : d < n.n := by exact Nat.le_of_ble_eq_true rfl) : wpE P n Q R (.step k ⟨some d, .binOp .neq t x y u, ty⟩ none s) e w := E_neq hx hy hb hd h
theorem A_neqnil {x y : Operand} {t u : TypeId} {p : Option Addr} {b : Bool} (h : wpE P n Q R s ((d, .bool b) :: e) w) (hx : e.ev x = some (.pointer p) := by rfl) (hy : e.ev y = some (.pointer none) := by rfl) (ht : ptrDesc P t = true := by (simp only [Try.PD])) (hb : (!p.isNone) = b := by (first | (simp only [Option.isNone_some, Option.isNone_none, Bool.not_true, Bool.not_false]; done) | (simp only [Option.isNone_some, Option.isNone_none, Bool.not_true, Bool.not_false]; rfl) | rfl)) (hd : d < n.n := by exact Nat.le_of_ble_eq_true rfl) : wpE P n Q R (.step k ⟨some d, .binOp .neq t x y u, ty⟩ none s) e w := E_neqnil hx hy ht hb hd h
theorem A_nil {x : Operand} {p : Addr} (h : wpE P n Q R s ((d, .pointer (some p)) :: e) w) (hx : e.ev x = some (.pointer (some p)) := by rfl) (hd : d < n.n := by exact Nat.le_of_ble_eq_true rfl) : wpE P n Q R (.step k ⟨some d, .nilCheck x, ty⟩ none s) e w := E_nil hx hd h
theorem A_not {x : Operand} {b b' : Bool} {t : TypeId} (h : wpE P n Q R s ((d, .bool b') :: e) w) (hx : e.ev x = some (.bool b) := by rfl) (hb : (!b) = b' := by (first | (simp only [*, Bool.not_true, Bool.not_false]; try rfl; done) | rfl)) (hd : d < n.n := by exact Nat.le_of_ble_eq_true rfl) : wpE P n Q R (.step k ⟨some d, .unOp .not t x, ty⟩ none s) e w := E_not hx hb hd h
theorem A_pass {op : Op} {t : Tmp} {want b : Bool} (h : wpE P n Q R s ((d, undef) :: e) w) (ht : e.get t = some (.bool b) := by rfl) (hb : b = !want := by (first | rfl | assumption | exact decide_eq_true (by omega) | exact decide_eq_false (by omega) | (simp only [*, Bool.not_true, Bool.not_false]; done))) (hd : d < n.n := by exact Nat.le_of_ble_eq_true rfl) : wpE P n Q R (.step k ⟨some d, op, ty⟩ (some (some t, want)) s) e w := E_pass ht hb hd h
theorem A_passu {op : Op} {t : Tmp} {want : Bool} (h : wpE P n Q R s ((d, undef) :: e) w) (ht : e.get t = some undef := by rfl) (hd : d < n.n := by exact Nat.le_of_ble_eq_true rfl) : wpE P n Q R (.step k ⟨some d, op, ty⟩ (some (some t, want)) s) e w := E_passu ht hd h
theorem A_pick_f {c x y : Operand} {b : Bool} {v : Value} (h : wpE P n Q R s ((d, v) :: e) w) (hc : e.ev c = some (.bool b) := by rfl) (hb : b = false := by (first | rfl | assumption | exact decide_eq_true (by omega) | exact decide_eq_false (by omega) | (simp only [*, Bool.not_true, Bool.not_false]; done))) (hx : e.ev y = some v := by rfl) (hd : d < n.n := by exact Nat.le_of_ble_eq_true rfl) : wpE P n Q R (.step k ⟨some d, .pick c x y, ty⟩ none s) e w := E_pick_f hc hb hx hd h
theorem A_pick_t {c x y : Operand} {b : Bool} {v : Value} (h : wpE P n Q R s ((d, v) :: e) w) (hc : e.ev c = some (.bool b) := by rfl) (hb : b = true := by (first | rfl | assumption | exact decide_eq_true (by omega) | exact decide_eq_false (by omega) | (simp only [*, Bool.not_true, Bool.not_false]; done))) (hx : e.ev x = some v := by rfl) (hd : d < n.n := by exact Nat.le_of_ble_eq_true rfl) : wpE P n Q R (.step k ⟨some d, .pick c x y, ty⟩ none s) e w := E_pick_t hc hb hx hd h
theorem A_storeC {x y : Operand} {t bt : TypeId} {v v0 : Value} {b : Nat} (h : ∀ w1, Upd b w w1 → Blk w1 b bt #[v] → wpE P n Q R s e w1) (hk : k.acts = true := by rfl) (hR : ∀ w1, Upd b w w1 → Blk w1 b bt #[v] → behind k R w w1 := by (intro _ hb _; first | exact trivial | exact hb)) (hx : e.ev x = some (.pointer (some ⟨b, 0, none⟩)) := by rfl) (hy : e.ev y = some v := by rfl) (hb : Blk w b bt #[v0] := by (repeat (first | assumption | (apply Blk.fr; rotate_left; assumption) | (apply Blk.upd; rotate_left; assumption; (focus omega))))) (ht : sizeIs P t = some 1 := by (first | (simp only [Try.SI]; done) | (simp only [Try.SI]; rfl) | (simp only [Try.SI, *]; done))) (h1 : v.oneCell' = true := by rfl) : wpE P n Q R (.step k ⟨none, .store t x y, ty⟩ none s) e w := E_storeC hk hR hx hy hb ht h1 h
theorem A_storeW {x y : Operand} {t bt : TypeId} {b : Nat} {cs cs' : Array Value} (h : ∀ w1, Upd b w w1 → Blk w1 b bt cs' → wpE P n Q R s e w1) (hk : k.acts = true := by rfl) (hR : ∀ w1, Upd b w w1 → Blk w1 b bt cs' → behind k R w w1 := by (intro _ hb _; first | exact trivial | exact hb)) (hx : e.ev x = some (.pointer (some ⟨b, 0, none⟩)) := by rfl) (hy : e.ev y = some (.agg cs') := by rfl) (hb : Blk w b bt cs := by (repeat (first | assumption | (apply Blk.fr; rotate_left; assumption) | (apply Blk.upd; rotate_left; assumption; (focus omega))))) (ht : sizeIs P t = some cs'.size := by (first | (simp only [Try.SI]; done) | (simp only [Try.SI]; rfl) | (simp only [Try.SI, *]; done))) (h1 : cs'.toList.all (·.oneCell') = true := by (first | rfl | assumption | (simp only [*]; done))) (hm : cs'.size = cs.size := by (first | rfl | assumption | (simp only [*]; done) | omega)) : wpE P n Q R (.step k ⟨none, .store t x y, ty⟩ none s) e w := E_storeW hk hR hx hy hb ht h1 hm h
theorem A_sub {x y : Operand} {t u : TypeId} {i j : Int} (h : wpE P n Q R s ((d, .int .i64 (i - j)) :: e) w) (hx : e.ev x = some (.int .i64 i) := by rfl) (hy : e.ev y = some (.int .i64 j) := by rfl) (h0 : -9223372036854775808 ≤ i - j := by omega) (h1 : i - j < 9223372036854775808 := by omega) (hd : d < n.n := by exact Nat.le_of_ble_eq_true rfl) : wpE P n Q R (.step k ⟨some d, .binOp .sub t x y u, ty⟩ none s) e w := E_sub hx hy h0 h1 hd h
theorem A_subN {x y : Operand} {t u : TypeId} {i j m : Nat} (h : wpE P n Q R s ((d, .int .i64 (m : Int)) :: e) w) (hx : e.ev x = some (.int .i64 (i : Int)) := by rfl) (hy : e.ev y = some (.int .i64 (j : Int)) := by rfl) (h1 : i < 9223372036854775808 := by omega) (hj : j ≤ i := by omega) (hm : i - j = m := by (first | assumption | rfl)) (hd : d < n.n := by exact Nat.le_of_ble_eq_true rfl) : wpE P n Q R (.step k ⟨some d, .binOp .sub t x y u, ty⟩ none s) e w := E_subN hx hy h1 hj hm hd h
theorem A_subN1 {x : Operand} {t u : TypeId} {i m : Nat} (h : wpE P n Q R s ((d, .int .i64 (m : Int)) :: e) w) (hx : e.ev x = some (.int .i64 (i : Int)) := by rfl) (h1 : i < 9223372036854775808 := by omega) (hm : m + 1 = i := by (first | rfl | assumption)) (hd : d < n.n := by exact Nat.le_of_ble_eq_true rfl) : wpE P n Q R (.step k ⟨some d, .binOp .sub t x (.const (.int .i64 1)) u, ty⟩ none s) e w := E_subN1 hx h1 hm hd h
theorem A_want {x : XOp} {t : Tmp} {want b : Bool} (h : wpE P n Q R (.step k x none s) e w) (ht : e.get t = some (.bool b) := by rfl) (hb : b = want := by (first | rfl | assumption | exact decide_eq_true (by omega) | exact decide_eq_false (by omega) | (simp only [*, Bool.not_true, Bool.not_false]; done))) : wpE P n Q R (.step k x (some (some t, want)) s) e w := E_want ht hb h
theorem a_drawn {p : XPlan} (h : ∀ w1, Fr w w1 → wpE P n Q frRel p e w1) (hQ : ∀ c a w d v, Q (.panic c) (a.put d v) w → Q (.panic c) a w := by (intro _ _ _ d1 _ h1; cases d1 <;> exact h1)) : wpC P n (.drawn p) Q e w := e_drawn hQ h
theorem a_end0 (h : RR (.returned (.tuple #[])) w) (hf : fn.results = #[] := by rfl) (hds : n.ds = [] := by rfl) : ∀ a, Agrees n a e → bodyPost P fn RR .normal a w := e_end0 hf hds h
theorem a_exit_on {id id' : Nat} (h : wpC P n (.exit id) Q e w) (hne : id ≠ id' := by decide) : wpC P n (.exit id) (Exit.inBlock id' Q) e w := e_exit_on hne h
theorem a_false {c : Operand} {x y : XCode} {t : Bool} (h : wpC P n y Q e w) (hc : e.ev c = some (.bool t) := by rfl) (ht : t = false := by (first | rfl | assumption | exact decide_eq_true (by omega) | exact decide_eq_false (by omega) | (simp only [*, Bool.not_true, Bool.not_false]; done))) : wpC P n (.cond c x y) Q e w := e_false hc ht h
theorem a_next {y : XCode} {K : Act → World → Prop} {Q' : Exit → Act → World → Prop} (h : wpC P n y Q e w) (hK : Later P y Q K := by assumption) : wpE P n (Exit.then K Q') R .nil e w := e_next hK h
theorem a_nextC {y : XCode} {K : Act → World → Prop} {Q' : Exit → Act → World → Prop} (h : wpC P n y Q e w) (hK : Later P y Q K := by assumption) : wpC P n .skip (Exit.then K Q') e w := e_nextC hK h
theorem a_norm_then {y : XCode} {K : Act → World → Prop} {Q' : Exit → Act → World → Prop} (h : wpC P n y Q e w) (hK : Later P y Q K := by assumption) : ∀ a, Agrees n a e → Exit.then K Q' .normal a w := e_norm_then hK h
theorem a_ret0 (h : RR (.returned (.tuple #[])) w) (hf : fn.results = #[] := by rfl) (hds : n.ds = [] := by rfl) : wpC P n .ret (bodyPost P fn RR) e w := e_ret0 hf hds h
theorem a_ret1 {t : Tmp} {v : Value} (h : RR (.returned v) w) (hf : fn.results = #[.tmp t] := by rfl) (ht : e.get t = some v := by rfl) (hds : n.ds = [] := by rfl) : wpC P n .ret (bodyPost P fn RR) e w := e_ret1 hf ht hds h
theorem a_ret2 {t u : Tmp} {v1 v2 : Value} (h : RR (.returned (.tuple #[v1, v2])) w) (hf : fn.results = #[.tmp t, .tmp u] := by rfl) (ht : e.get t = some v1 := by rfl) (hu : e.get u = some v2 := by rfl) (hds : n.ds = [] := by rfl) : wpC P n .ret (bodyPost P fn RR) e w := e_ret2 hf ht hu hds h
theorem a_retB {t u ty bt : TypeId} {b : Nat} {cs : Array Value} {v : Value} (h : RR (.returned (.tuple #[.agg cs, v])) w) (hf : fn.results = #[.cell t ty, .tmp u] := by rfl) (ht : e.get t = some (.pointer (some ⟨b, 0, none⟩)) := by rfl) (hu : e.get u = some v := by rfl) (hb : Blk w b bt cs := by (repeat (first | assumption | (apply Blk.fr; rotate_left; assumption) | (apply Blk.upd; rotate_left; assumption; (focus omega))))) (hk : loadKind P ty = some (some cs.size) := by (first | (simp only [Try.LK]; done) | (simp only [Try.LK]; rfl) | (simp only [Try.LK, *]; done))) (hds : n.ds = [] := by rfl) : wpC P n .ret (bodyPost P fn RR) e w := e_retB hf ht hu hb hk hds h
theorem a_true {c : Operand} {x y : XCode} {t : Bool} (h : wpC P n x Q e w) (hc : e.ev c = some (.bool t) := by rfl) (ht : t = true := by (first | rfl | assumption | exact decide_eq_true (by omega) | exact decide_eq_false (by omega) | (simp only [*, Bool.not_true, Bool.not_false]; done))) : wpC P n (.cond c x y) Q e w := e_true hc ht h
end
theorem sub_ {p : Prop} (h : p := by (repeat (first | exact Env.sub_nil _ | (apply Env.sub_cons; rfl)))) : p := h
theorem blk_ {p : Prop} (h : p := by (focus (repeat (first | assumption | (apply Blk.fr; rotate_left; assumption) | (apply Blk.upd; rotate_left; assumption; (focus omega)))))) : p := h
theorem fr_ {p : Prop} (h : p := by (focus (repeat (first | assumption | exact Fr.refl _ | (apply Fr.trans; rotate_left; assumption) | (apply Fr.upd; rotate_left; assumption; (focus omega)))))) : p := h
end Go.Proofs.Ytjocklgihjbaiaa
end
section
/- Items: contracts of Good, Less and At. -/
namespace Go.Proofs.Ytjocklgihjbaiaa
open Go.RowKit
abbrev It := Int × Int
def itA (x : It) : Array Value := #[.int .i64 x.1, .int .i64 x.2]
abbrev itV (x : It) : Value := .agg (itA x)
def itL (x : It) : List Value := (itA x).toList
theorem itL_len (x : It) : (itL x).length = 2 := rfl
theorem itL_one (x : It) : ∀ v ∈ itL x, v.oneCell' = true := by
  intro v hv; simp [itL, itA] at hv; rcases hv with rfl | rfl <;> rfl
/-- A call, as far as a graph looks at it, and what it doesn't look at. -/
structure CallD where
  kind : Int
  key : ByteArray
  val : ByteArray
  ver : Int
  ses : Int
  num : Int
  dep : Nat → Int
  seq : Int
def callA (c : CallD) : Array Value := #[.int .i64 c.kind, .string c.key, .string c.val, .int .i64 c.ver, .int .i64 c.ses, .int .i64 c.num,
  .int .i64 (c.dep 0), .int .i64 (c.dep 1), .int .i64 (c.dep 2), .int .i64 (c.dep 3), .int .i64 (c.dep 4), .int .i64 (c.dep 5), .int .i64 (c.dep 6), .int .i64 c.seq]
def depA (d : Nat → Int) : Array Value := #[.int .i64 (d 0), .int .i64 (d 1), .int .i64 (d 2), .int .i64 (d 3), .int .i64 (d 4), .int .i64 (d 5), .int .i64 (d 6)]
def callO : Option CallD → Array Value
  | some c => callA c
  | none => Try.z33
theorem callO_size (c : Option CallD) : (callO c).size = 14 := by cases c <;> rfl
theorem callO_one (c : Option CallD) : (callO c).toList.all (·.oneCell') = true := by cases c <;> rfl
theorem callO_len (c : Option CallD) : (callO c).toList.length = 14 := by cases c <;> rfl
def goodB (r m n : Int) : Bool := decide (0 ≤ r) && (decide (r < n) && (decide (1 ≤ m) && decide (m ≤ 64)))
theorem goodB_true {r m n : Int} (h : goodB r m n = true) : 0 ≤ r ∧ r < n ∧ 1 ≤ m ∧ m ≤ 64 := by simpa [goodB] using h
def lessB (a b : It) : Bool := decide (a.2 < b.2) || (decide (a.2 = b.2) && decide (a.1 < b.1))
theorem retb {R : Ending → World → Prop} {w : World} {b b' : Bool} (h : R (.returned (.bool b)) w) (e : b' = b) : R (.returned (.bool b')) w := e ▸ h
set_option maxHeartbeats 400000 in
theorem good57 (r m n : Int) (w : World) (R : Ending → World → Prop) (hR : ∀ w', Fr w w' → R (.returned (.bool (goodB r m n))) w') :
    Calls Try.prog 57 #[.agg #[.int .i64 r, .int .i64 m], .int .i64 n] w R := by
  by_cases h1 : 0 ≤ r
  · by_cases h2 : r < n
    · by_cases h3 : 1 ≤ m
      · refine e_enter (n := ⟨24, []⟩) Try.mixed Try.func57 Try.p57 Try.x57 Try.fb57 Try.hx57 Try.ok57 rfl rfl (by simp) ?_; simp only [Try.x57, argEnv, Nat.zero_add, Nat.reduceAdd]
        (refine e_seq fun K1 hK1 => ?_; refine e_region ?_; refine A_box fun b1 w1 hF1 hN1 hB1 => ?_; have hz1 := hF1.size; obtain ⟨hn1, hl1⟩ := hN1; refine A_assign ?_; 
           refine a_next ?_; refine e_seq fun K1 hK1 => ?_; refine e_region ?_; refine A_field ?_; refine A_load ?_; refine A_geq ?_; refine A_move ?_; refine A_want ?_; 
           refine A_field ?_; refine A_want ?_; refine A_load ?_; refine A_want ?_; refine A_move ?_; refine A_want ?_; refine A_lss ?_; refine A_pick_t ?_; refine A_move ?_; 
           refine A_want ?_; refine A_field ?_; refine A_want ?_; refine A_load ?_; refine A_want ?_; refine A_geq ?_; refine A_pick_t ?_; refine A_move ?_; refine A_want ?_; 
           refine A_field ?_; refine A_want ?_; refine A_load ?_; refine A_want ?_; refine A_leq ?_; refine A_pick_t ?_; refine A_assign ?_; refine a_next ?_; refine a_ret1 ?_)
        exact retb (hR _ hF1) (by simp [goodB, h1, h2, h3])
      · refine e_enter (n := ⟨24, []⟩) Try.mixed Try.func57 Try.p57 Try.x57 Try.fb57 Try.hx57 Try.ok57 rfl rfl (by simp) ?_; simp only [Try.x57, argEnv, Nat.zero_add, Nat.reduceAdd]
        (refine e_seq fun K1 hK1 => ?_; refine e_region ?_; refine A_box fun b1 w1 hF1 hN1 hB1 => ?_; have hz1 := hF1.size; obtain ⟨hn1, hl1⟩ := hN1; refine A_assign ?_; 
           refine a_next ?_; refine e_seq fun K1 hK1 => ?_; refine e_region ?_; refine A_field ?_; refine A_load ?_; refine A_geq ?_; refine A_move ?_; refine A_want ?_; 
           refine A_field ?_; refine A_want ?_; refine A_load ?_; refine A_want ?_; refine A_move ?_; refine A_want ?_; refine A_lss ?_; refine A_pick_t ?_; refine A_move ?_; 
           refine A_want ?_; refine A_field ?_; refine A_want ?_; refine A_load ?_; refine A_want ?_; refine A_geq ?_; refine A_pick_t ?_; refine A_move ?_; refine A_pass ?_; 
           refine A_pass ?_; refine A_pass ?_; refine A_pick_f ?_; refine A_assign ?_; refine a_next ?_; refine a_ret1 ?_)
        exact retb (hR _ hF1) (by simp [goodB, h3])
    · refine e_enter (n := ⟨24, []⟩) Try.mixed Try.func57 Try.p57 Try.x57 Try.fb57 Try.hx57 Try.ok57 rfl rfl (by simp) ?_; simp only [Try.x57, argEnv, Nat.zero_add, Nat.reduceAdd]
      (refine e_seq fun K1 hK1 => ?_; refine e_region ?_; refine A_box fun b1 w1 hF1 hN1 hB1 => ?_; have hz1 := hF1.size; obtain ⟨hn1, hl1⟩ := hN1; refine A_assign ?_; 
         refine a_next ?_; refine e_seq fun K1 hK1 => ?_; refine e_region ?_; refine A_field ?_; refine A_load ?_; refine A_geq ?_; refine A_move ?_; refine A_want ?_; 
         refine A_field ?_; refine A_want ?_; refine A_load ?_; refine A_want ?_; refine A_move ?_; refine A_want ?_; refine A_lss ?_; refine A_pick_t ?_; refine A_move ?_; 
         refine A_pass ?_; refine A_pass ?_; refine A_pass ?_; refine A_pick_f ?_; refine A_move ?_; refine A_pass ?_; refine A_pass ?_; refine A_pass ?_; refine A_pick_f ?_; 
         refine A_assign ?_; refine a_next ?_; refine a_ret1 ?_)
      exact retb (hR _ hF1) (by simp [goodB, h2])
  · refine e_enter (n := ⟨24, []⟩) Try.mixed Try.func57 Try.p57 Try.x57 Try.fb57 Try.hx57 Try.ok57 rfl rfl (by simp) ?_; simp only [Try.x57, argEnv, Nat.zero_add, Nat.reduceAdd]
    (refine e_seq fun K1 hK1 => ?_; refine e_region ?_; refine A_box fun b1 w1 hF1 hN1 hB1 => ?_; have hz1 := hF1.size; obtain ⟨hn1, hl1⟩ := hN1; refine A_assign ?_; 
       refine a_next ?_; refine e_seq fun K1 hK1 => ?_; refine e_region ?_; refine A_field ?_; refine A_load ?_; refine A_geq ?_; refine A_move ?_; refine A_pass ?_; 
       refine A_pass ?_; refine A_pass ?_; refine A_pass ?_; refine A_pick_f ?_; refine A_move ?_; refine A_pass ?_; refine A_pass ?_; refine A_pass ?_; refine A_pick_f ?_; 
       refine A_move ?_; refine A_pass ?_; refine A_pass ?_; refine A_pass ?_; refine A_pick_f ?_; refine A_assign ?_; refine a_next ?_; refine a_ret1 ?_)
    exact retb (hR _ hF1) (by simp [goodB, h1])
set_option maxHeartbeats 400000 in
theorem less29 (a b : It) (w : World) (R : Ending → World → Prop) (hR : ∀ w', Fr w w' → R (.returned (.bool (lessB a b))) w') :
    Calls Try.prog 29 #[itV a, itV b] w R := by
  obtain ⟨a1, a2⟩ := a
  obtain ⟨b1, b2⟩ := b
  by_cases h1 : a2 < b2
  · refine e_enter (n := ⟨24, []⟩) Try.mixed Try.func29 Try.p29 Try.x29 Try.fb29 Try.hx29 Try.ok29 rfl rfl (by simp) ?_; simp only [Try.x29, argEnv, Nat.zero_add, Nat.reduceAdd]
    (refine e_seq fun K1 hK1 => ?_; refine e_region ?_; refine A_box fun b1 w1 hF1 hN1 hB1 => ?_; have hz1 := hF1.size; obtain ⟨hn1, hl1⟩ := hN1; 
       refine A_box fun b1 w1 hF1 hN1 hB1 => ?_; have hz1 := hF1.size; obtain ⟨hn1, hl1⟩ := hN1; refine A_assign ?_; refine a_next ?_; refine e_seq fun K1 hK1 => ?_; 
       refine e_region ?_; refine A_field ?_; refine A_load ?_; refine A_field ?_; refine A_load ?_; refine A_lss ?_; refine A_move ?_; refine A_pass ?_; refine A_pass ?_; 
       refine A_pass ?_; refine A_pass ?_; refine A_pass ?_; refine A_pass ?_; refine A_passu ?_; refine A_passu ?_; refine A_passu ?_; refine A_passu ?_; refine A_passu ?_; 
       refine A_pass ?_; refine A_pick_t ?_; refine A_assign ?_; refine a_next ?_; refine a_ret1 ?_)
    exact retb (hR _ (by exact fr_)) (by simp [lessB, h1])
  · by_cases h2 : a2 = b2
    · refine e_enter (n := ⟨24, []⟩) Try.mixed Try.func29 Try.p29 Try.x29 Try.fb29 Try.hx29 Try.ok29 rfl rfl (by simp) ?_; simp only [Try.x29, argEnv, Nat.zero_add, Nat.reduceAdd]
      (refine e_seq fun K1 hK1 => ?_; refine e_region ?_; refine A_box fun b1 w1 hF1 hN1 hB1 => ?_; have hz1 := hF1.size; obtain ⟨hn1, hl1⟩ := hN1; 
         refine A_box fun b1 w1 hF1 hN1 hB1 => ?_; have hz1 := hF1.size; obtain ⟨hn1, hl1⟩ := hN1; refine A_assign ?_; refine a_next ?_; refine e_seq fun K1 hK1 => ?_; 
         refine e_region ?_; refine A_field ?_; refine A_load ?_; refine A_field ?_; refine A_load ?_; refine A_lss ?_; refine A_move ?_; refine A_want ?_; refine A_field ?_; 
         refine A_want ?_; refine A_load ?_; refine A_want ?_; refine A_field ?_; refine A_want ?_; refine A_load ?_; refine A_want ?_; refine A_eql ?_; refine A_want ?_; 
         refine A_move ?_; refine A_want ?_; refine A_field ?_; refine A_want ?_; refine A_load ?_; refine A_want ?_; refine A_field ?_; refine A_want ?_; refine A_load ?_; 
         refine A_want ?_; refine A_lss ?_; refine A_want ?_; refine A_pick_t ?_; refine A_pick_f ?_; refine A_assign ?_; refine a_next ?_; refine a_ret1 ?_)
      exact retb (hR _ (by exact fr_)) (by simp [lessB, h1, h2])
    · refine e_enter (n := ⟨24, []⟩) Try.mixed Try.func29 Try.p29 Try.x29 Try.fb29 Try.hx29 Try.ok29 rfl rfl (by simp) ?_; simp only [Try.x29, argEnv, Nat.zero_add, Nat.reduceAdd]
      (refine e_seq fun K1 hK1 => ?_; refine e_region ?_; refine A_box fun b1 w1 hF1 hN1 hB1 => ?_; have hz1 := hF1.size; obtain ⟨hn1, hl1⟩ := hN1; 
         refine A_box fun b1 w1 hF1 hN1 hB1 => ?_; have hz1 := hF1.size; obtain ⟨hn1, hl1⟩ := hN1; refine A_assign ?_; refine a_next ?_; refine e_seq fun K1 hK1 => ?_; 
         refine e_region ?_; refine A_field ?_; refine A_load ?_; refine A_field ?_; refine A_load ?_; refine A_lss ?_; refine A_move ?_; refine A_want ?_; refine A_field ?_; 
         refine A_want ?_; refine A_load ?_; refine A_want ?_; refine A_field ?_; refine A_want ?_; refine A_load ?_; refine A_want ?_; refine A_eql ?_; refine A_want ?_; 
         refine A_move ?_; refine A_pass ?_; refine A_pass ?_; refine A_pass ?_; refine A_pass ?_; refine A_pass ?_; refine A_want ?_; refine A_pick_f ?_; refine A_pick_f ?_; 
         refine A_assign ?_; refine a_next ?_; refine a_ret1 ?_)
      exact retb (hR _ (by exact fr_)) (by simp [lessB, h1, h2])
/-! ### Rows of things by places -/
def rowsA (n : Int) (rs hs : Nat → Value) : Array Value := #[.int .i64 n, rs 0, rs 1, rs 2, rs 3, rs 4, rs 5, rs 6, hs 0, hs 1, hs 2, hs 3, hs 4, hs 5, hs 6]
def hasL {α : Type} (o : Option α) : List Value := [.bool o.isSome]
theorem hasL_len {α : Type} (o : Option α) : (hasL o).length = 1 := rfl
/-- Rows in memory: R i is the row of replica i; F: the blocks that they take. -/
structure RowsAt {α : Type} (w : World) (T e k : Nat) (enc : Option α → List Value) (b : Nat) (n : Int) (R : Nat → List (Option α)) (F : Nat → Prop) (rs hs : Nat → Value) : Prop where
  blk : Blk w b T (rowsA n rs hs)
  row : ∀ i, i < 7 → Sl w e k enc (rs i) (R i)
  has : ∀ i, i < 7 → Sl w 4 1 hasL (hs i) (R i)
  foot : ∀ g, F g ↔ g = b ∨ ∃ i, i < 7 ∧ ((rs i).ownBlock = some g ∨ (hs i).ownBlock = some g)
  short : ∀ i, i < 7 → (R i).length ≤ 64
  rr : ∀ i j g, i < 7 → j < 7 → i ≠ j → (rs i).ownBlock = some g → (rs j).ownBlock ≠ some g
  hh : ∀ i j g, i < 7 → j < 7 → i ≠ j → (hs i).ownBlock = some g → (hs j).ownBlock ≠ some g
  rh : ∀ i j g, i < 7 → j < 7 → (rs i).ownBlock = some g → (hs j).ownBlock ≠ some g
  rb : ∀ i, i < 7 → (rs i).ownBlock ≠ some b
  hb : ∀ i, i < 7 → (hs i).ownBlock ≠ some b
  reps : 0 ≤ n ∧ n ≤ 7
theorem RowsAt.ch {α : Type} {w w' : World} {T e k : Nat} {enc : Option α → List Value} {b : Nat} {n : Int} {R : Nat → List (Option α)} {F : Nat → Prop} {rs hs : Nat → Value} {S : Nat → Prop}
    (h : RowsAt w T e k enc b n R F rs hs) (hc : Ch S w w') (hn : ∀ g, F g → ¬ S g) : RowsAt w' T e k enc b n R F rs hs :=
  { h with
    blk := h.blk.ch hc (hn _ ((h.foot _).2 (.inl rfl)))
    row := fun i hi => (h.row i hi).ch hc fun g hg => hn g ((h.foot g).2 (.inr ⟨i, hi, .inl hg⟩))
    has := fun i hi => (h.has i hi).ch hc fun g hg => hn g ((h.foot g).2 (.inr ⟨i, hi, .inr hg⟩)) }
theorem RowsAt.fr {α : Type} {w w' : World} {T e k : Nat} {enc : Option α → List Value} {b : Nat} {n : Int} {R : Nat → List (Option α)} {F : Nat → Prop} {rs hs : Nat → Value}
    (h : RowsAt w T e k enc b n R F rs hs) (hF : Fr w w') : RowsAt w' T e k enc b n R F rs hs := h.ch (hF.ch fun _ => False) fun _ _ h => h
theorem RowsAt.lt {α : Type} {w : World} {T e k : Nat} {enc : Option α → List Value} {b : Nat} {n : Int} {R : Nat → List (Option α)} {F : Nat → Prop} {rs hs : Nat → Value}
    (h : RowsAt w T e k enc b n R F rs hs) {g : Nat} (hg : F g) : g < w.heap.size := by
  rcases (h.foot g).1 hg with rfl | ⟨i, hi, h1 | h1⟩
  · exact h.blk.lt
  · exact (h.row i hi).lt h1
  · exact (h.has i hi).lt h1
/-- The thing at a place. -/
def atR {α : Type} (R : Nat → List (Option α)) (n : Int) (x : It) : Option α := if goodB x.1 x.2 n = true then ((R x.1.toNat)[x.2.toNat - 1]?).join else none
theorem rowsA_r (n : Int) (rs hs : Nat → Value) (i : Nat) (h : i < 7) : (rowsA n rs hs)[1 + i]? = some (rs i) := by
  match i, h with
  | 0, _ | 1, _ | 2, _ | 3, _ | 4, _ | 5, _ | 6, _ => rfl
theorem rowsA_h (n : Int) (rs hs : Nat → Value) (i : Nat) (h : i < 7) : (rowsA n rs hs)[8 + i]? = some (hs i) := by
  match i, h with
  | 0, _ | 1, _ | 2, _ | 3, _ | 4, _ | 5, _ | 6, _ => rfl
section
variable (r m n : Int) (b : Nat) (w : World) (R : Ending → World → Prop)
set_option maxHeartbeats 400000 in
theorem at46_bad (hn : w.cell? ⟨b, 0, none⟩ = some (.int .i64 n)) (hg : goodB r m n = false)
    (hR : ∀ w', Fr w w' → R (.returned (.tuple #[.agg Try.z33, .bool false])) w') :
    Calls Try.prog 46 #[.pointer (some ⟨b, 0, none⟩), .agg #[.int .i64 r, .int .i64 m]] w R := by
  refine e_enter (n := ⟨59, []⟩) Try.mixed Try.func46 Try.p46 Try.x46 Try.fb46 Try.hx46 Try.ok46 rfl rfl (by simp) ?_; simp only [Try.x46, argEnv, Nat.zero_add, Nat.reduceAdd]
  (refine e_seq fun K1 hK1 => ?_; refine e_region ?_; refine A_box fun b1 w1 hF1 hN1 hB1 => ?_; have hz1 := hF1.size; obtain ⟨hn1, hl1⟩ := hN1; 
     refine A_alloc fun b1 w1 hF1 hN1 hB1 => ?_; have hz1 := hF1.size; obtain ⟨hn1, hl1⟩ := hN1; refine A_assign ?_; refine a_next ?_; refine e_seq fun K1 hK1 => ?_; 
     refine e_region ?_; refine A_alloc fun b1 w1 hF1 hN1 hB1 => ?_; have hz1 := hF1.size; obtain ⟨hn1, hl1⟩ := hN1; refine a_next ?_; refine e_seq fun K1 hK1 => ?_; 
     refine e_seq fun K1 hK1 => ?_; refine a_drawn fun w1 hF1 => ?_; have hz1 := hF1.size; refine A_move ?_; refine A_eqlnil ?_; refine A_move ?_; refine A_want ?_; 
     refine A_move ?_; refine A_want ?_; refine A_nil ?_; refine A_want ?_; refine A_field ?_; refine A_want ?_; refine A_loadW ?_; refine A_want ?_; refine A_load ?_; 
     refine A_want ?_)
  (with_reducible apply E_call); rfl; exact Try.en57; rfl; intro RR1 hRR1
  refine good57 _ _ _ _ _ fun w2 hF2 => ?_
  have hz2 := hF2.size
  refine hRR1 _ _ (by first | assumption | exact trivial) (Nat.le_of_ble_eq_true rfl) ?_; clear hRR1 RR1
  rw [hg]
  (refine A_want ?_; refine A_not ?_; refine A_pick_f ?_; refine A_move ?_; refine A_pass ?_; refine A_pass ?_; refine A_pass ?_; refine A_pass ?_; refine A_pass ?_; 
     refine A_pass ?_; refine A_pass ?_; refine A_pass ?_; refine A_pass ?_; refine A_pass ?_; refine A_pass ?_; refine A_pick_t ?_; refine A_move ?_; refine A_pass ?_; 
     refine A_pass ?_; refine A_pass ?_; refine A_pass ?_; refine A_pass ?_; refine A_pass ?_; refine A_pass ?_; refine A_pass ?_; refine A_pass ?_; refine A_pass ?_; 
     refine A_pass ?_; refine A_pass ?_; refine A_pass ?_; refine A_pick_t ?_; refine a_next ?_; refine a_true ?_; refine e_seq fun K1 hK1 => ?_; refine e_region ?_; 
     refine A_loadW ?_; refine A_storeW fun w1 hU1 hB1 => ?_; refine A_assign ?_; refine a_next ?_; refine e_ret_then ?_; refine a_retB ?_)
  exact hR _ (by exact fr_)
set_option maxHeartbeats 400000 in
theorem at46_short (hn : w.cell? ⟨b, 0, none⟩ = some (.int .i64 n)) (hg : goodB r m n = true) (h7 : n ≤ 7) (p : Option Addr) (c len : Nat) (hr : w.cell? ⟨b, 1 + r.toNat, none⟩ = some (.slice p len c)) (hl : (len : Int) < m)
    (hR : ∀ w', Fr w w' → R (.returned (.tuple #[.agg Try.z33, .bool false])) w') :
    Calls Try.prog 46 #[.pointer (some ⟨b, 0, none⟩), .agg #[.int .i64 r, .int .i64 m]] w R := by
  obtain ⟨g1, g2, g3, g4⟩ := goodB_true hg
  refine e_enter (n := ⟨59, []⟩) Try.mixed Try.func46 Try.p46 Try.x46 Try.fb46 Try.hx46 Try.ok46 rfl rfl (by simp) ?_; simp only [Try.x46, argEnv, Nat.zero_add, Nat.reduceAdd]
  (refine e_seq fun K1 hK1 => ?_; refine e_region ?_; refine A_box fun b1 w1 hF1 hN1 hB1 => ?_; have hz1 := hF1.size; obtain ⟨hn1, hl1⟩ := hN1; 
     refine A_alloc fun b1 w1 hF1 hN1 hB1 => ?_; have hz1 := hF1.size; obtain ⟨hn1, hl1⟩ := hN1; refine A_assign ?_; refine a_next ?_; refine e_seq fun K1 hK1 => ?_; 
     refine e_region ?_; refine A_alloc fun b1 w1 hF1 hN1 hB1 => ?_; have hz1 := hF1.size; obtain ⟨hn1, hl1⟩ := hN1; refine a_next ?_; refine e_seq fun K1 hK1 => ?_; 
     refine e_seq fun K1 hK1 => ?_; refine a_drawn fun w1 hF1 => ?_; have hz1 := hF1.size; refine A_move ?_; refine A_eqlnil ?_; refine A_move ?_; refine A_want ?_; 
     refine A_move ?_; refine A_want ?_; refine A_nil ?_; refine A_want ?_; refine A_field ?_; refine A_want ?_; refine A_loadW ?_; refine A_want ?_; refine A_load ?_; 
     refine A_want ?_)
  (with_reducible apply E_call); rfl; exact Try.en57; rfl; intro RR1 hRR1
  refine good57 _ _ _ _ _ fun w2 hF2 => ?_
  have hz2 := hF2.size
  refine hRR1 _ _ (by first | assumption | exact trivial) (Nat.le_of_ble_eq_true rfl) ?_; clear hRR1 RR1
  rw [hg]
  (refine A_want ?_; refine A_not ?_; refine A_pick_f ?_; refine A_move ?_; refine A_want ?_; refine A_field ?_; refine A_want ?_; refine A_move ?_; refine A_want ?_; 
     refine A_field ?_; refine A_want ?_; refine A_nil ?_; refine A_want ?_; refine A_field ?_; refine A_want ?_; refine A_load ?_; refine A_want ?_; refine A_load ?_; 
     refine A_want ?_; refine A_idxA ?_; refine A_want ?_; refine A_load ?_; refine A_want ?_; refine A_lenS ?_; refine A_want ?_; refine A_gtr ?_; refine A_pick_f ?_; 
     refine A_move ?_; refine A_pass ?_; refine A_pass ?_; refine A_pass ?_; refine A_pass ?_; refine A_pass ?_; refine A_pass ?_; refine A_pass ?_; refine A_pass ?_; 
     refine A_pass ?_; refine A_pass ?_; refine A_pass ?_; refine A_pass ?_; refine A_pass ?_; refine A_pick_t ?_; refine a_next ?_; refine a_true ?_; 
     refine e_seq fun K1 hK1 => ?_; refine e_region ?_; refine A_loadW ?_; refine A_storeW fun w1 hU1 hB1 => ?_; refine A_assign ?_; refine a_next ?_; refine e_ret_then ?_; 
     refine a_retB ?_)
  exact hR _ (by exact fr_)
set_option maxHeartbeats 400000 in
theorem at46_none (hn : w.cell? ⟨b, 0, none⟩ = some (.int .i64 n)) (hg : goodB r m n = true) (h7 : n ≤ 7) (p : Option Addr) (c len : Nat) (hr : w.cell? ⟨b, 1 + r.toNat, none⟩ = some (.slice p len c)) (hl : m ≤ (len : Int))
    (hb c' : Nat) (hh : w.cell? ⟨b, 8 + r.toNat, none⟩ = some (.slice (some ⟨hb, 0, none⟩) len c')) (hv : w.cell? ⟨hb, (m - 1).toNat, none⟩ = some (.bool false))
    (hR : ∀ w', Fr w w' → R (.returned (.tuple #[.agg Try.z33, .bool false])) w') :
    Calls Try.prog 46 #[.pointer (some ⟨b, 0, none⟩), .agg #[.int .i64 r, .int .i64 m]] w R := by
  obtain ⟨g1, g2, g3, g4⟩ := goodB_true hg
  refine e_enter (n := ⟨59, []⟩) Try.mixed Try.func46 Try.p46 Try.x46 Try.fb46 Try.hx46 Try.ok46 rfl rfl (by simp) ?_; simp only [Try.x46, argEnv, Nat.zero_add, Nat.reduceAdd]
  (refine e_seq fun K1 hK1 => ?_; refine e_region ?_; refine A_box fun b1 w1 hF1 hN1 hB1 => ?_; have hz1 := hF1.size; obtain ⟨hn1, hl1⟩ := hN1; 
     refine A_alloc fun b1 w1 hF1 hN1 hB1 => ?_; have hz1 := hF1.size; obtain ⟨hn1, hl1⟩ := hN1; refine A_assign ?_; refine a_next ?_; refine e_seq fun K1 hK1 => ?_; 
     refine e_region ?_; refine A_alloc fun b1 w1 hF1 hN1 hB1 => ?_; have hz1 := hF1.size; obtain ⟨hn1, hl1⟩ := hN1; refine a_next ?_; refine e_seq fun K1 hK1 => ?_; 
     refine e_seq fun K1 hK1 => ?_; refine a_drawn fun w1 hF1 => ?_; have hz1 := hF1.size; refine A_move ?_; refine A_eqlnil ?_; refine A_move ?_; refine A_want ?_; 
     refine A_move ?_; refine A_want ?_; refine A_nil ?_; refine A_want ?_; refine A_field ?_; refine A_want ?_; refine A_loadW ?_; refine A_want ?_; refine A_load ?_; 
     refine A_want ?_)
  (with_reducible apply E_call); rfl; exact Try.en57; rfl; intro RR1 hRR1
  refine good57 _ _ _ _ _ fun w2 hF2 => ?_
  have hz2 := hF2.size
  refine hRR1 _ _ (by first | assumption | exact trivial) (Nat.le_of_ble_eq_true rfl) ?_; clear hRR1 RR1
  rw [hg]
  (refine A_want ?_; refine A_not ?_; refine A_pick_f ?_; refine A_move ?_; refine A_want ?_; refine A_field ?_; refine A_want ?_; refine A_move ?_; refine A_want ?_; 
     refine A_field ?_; refine A_want ?_; refine A_nil ?_; refine A_want ?_; refine A_field ?_; refine A_want ?_; refine A_load ?_; refine A_want ?_; refine A_load ?_; 
     refine A_want ?_; refine A_idxA ?_; refine A_want ?_; refine A_load ?_; refine A_want ?_; refine A_lenS ?_; refine A_want ?_; refine A_gtr ?_; refine A_pick_f ?_; 
     refine A_move ?_; refine A_want ?_; refine A_move ?_; refine A_want ?_; refine A_field ?_; refine A_want ?_; refine A_nil ?_; refine A_want ?_; refine A_field ?_; 
     refine A_want ?_; refine A_field ?_; refine A_want ?_; refine A_load ?_; refine A_want ?_; refine A_idxA ?_; refine A_want ?_; refine A_load ?_; refine A_want ?_; 
     refine A_load ?_; refine A_want ?_; refine A_sub ?_; refine A_want ?_; refine A_idxS ?_; refine A_want ?_; refine A_load ?_; refine A_want ?_; refine A_not ?_; 
     refine A_pick_f ?_; refine a_next ?_; refine a_true ?_; refine e_seq fun K1 hK1 => ?_; refine e_region ?_; refine A_loadW ?_; refine A_storeW fun w1 hU1 hB1 => ?_; 
     refine A_assign ?_; refine a_next ?_; refine e_ret_then ?_; refine a_retB ?_)
  exact hR _ (by exact fr_)
set_option maxHeartbeats 400000 in
theorem at46_some (hn : w.cell? ⟨b, 0, none⟩ = some (.int .i64 n)) (hg : goodB r m n = true) (h7 : n ≤ 7) (c len : Nat) (rb : Nat) (hr : w.cell? ⟨b, 1 + r.toNat, none⟩ = some (.slice (some ⟨rb, 0, none⟩) len c)) (hl : m ≤ (len : Int))
    (hb c' : Nat) (hh : w.cell? ⟨b, 8 + r.toNat, none⟩ = some (.slice (some ⟨hb, 0, none⟩) len c')) (hv : w.cell? ⟨hb, (m - 1).toNat, none⟩ = some (.bool true)) (cs : Array Value) (hcs : w.rangeAt rb ((m - 1).toNat * 14) cs.toList) (hsz : cs.size = 14) (hone : cs.toList.all (·.oneCell') = true)
    (hR : ∀ w', Fr w w' → R (.returned (.tuple #[.agg cs, .bool true])) w') :
    Calls Try.prog 46 #[.pointer (some ⟨b, 0, none⟩), .agg #[.int .i64 r, .int .i64 m]] w R := by
  obtain ⟨g1, g2, g3, g4⟩ := goodB_true hg
  refine e_enter (n := ⟨59, []⟩) Try.mixed Try.func46 Try.p46 Try.x46 Try.fb46 Try.hx46 Try.ok46 rfl rfl (by simp) ?_; simp only [Try.x46, argEnv, Nat.zero_add, Nat.reduceAdd]
  (refine e_seq fun K1 hK1 => ?_; refine e_region ?_; refine A_box fun b1 w1 hF1 hN1 hB1 => ?_; have hz1 := hF1.size; obtain ⟨hn1, hl1⟩ := hN1; 
     refine A_alloc fun b1 w1 hF1 hN1 hB1 => ?_; have hz1 := hF1.size; obtain ⟨hn1, hl1⟩ := hN1; refine A_assign ?_; refine a_next ?_; refine e_seq fun K1 hK1 => ?_; 
     refine e_region ?_; refine A_alloc fun b1 w1 hF1 hN1 hB1 => ?_; have hz1 := hF1.size; obtain ⟨hn1, hl1⟩ := hN1; refine a_next ?_; refine e_seq fun K1 hK1 => ?_; 
     refine e_seq fun K1 hK1 => ?_; refine a_drawn fun w1 hF1 => ?_; have hz1 := hF1.size; refine A_move ?_; refine A_eqlnil ?_; refine A_move ?_; refine A_want ?_; 
     refine A_move ?_; refine A_want ?_; refine A_nil ?_; refine A_want ?_; refine A_field ?_; refine A_want ?_; refine A_loadW ?_; refine A_want ?_; refine A_load ?_; 
     refine A_want ?_)
  (with_reducible apply E_call); rfl; exact Try.en57; rfl; intro RR1 hRR1
  refine good57 _ _ _ _ _ fun w2 hF2 => ?_
  have hz2 := hF2.size
  refine hRR1 _ _ (by first | assumption | exact trivial) (Nat.le_of_ble_eq_true rfl) ?_; clear hRR1 RR1
  rw [hg]
  (refine A_want ?_; refine A_not ?_; refine A_pick_f ?_; refine A_move ?_; refine A_want ?_; refine A_field ?_; refine A_want ?_; refine A_move ?_; refine A_want ?_; 
     refine A_field ?_; refine A_want ?_; refine A_nil ?_; refine A_want ?_; refine A_field ?_; refine A_want ?_; refine A_load ?_; refine A_want ?_; refine A_load ?_; 
     refine A_want ?_; refine A_idxA ?_; refine A_want ?_; refine A_load ?_; refine A_want ?_; refine A_lenS ?_; refine A_want ?_; refine A_gtr ?_; refine A_pick_f ?_; 
     refine A_move ?_; refine A_want ?_; refine A_move ?_; refine A_want ?_; refine A_field ?_; refine A_want ?_; refine A_nil ?_; refine A_want ?_; refine A_field ?_; 
     refine A_want ?_; refine A_field ?_; refine A_want ?_; refine A_load ?_; refine A_want ?_; refine A_idxA ?_; refine A_want ?_; refine A_load ?_; refine A_want ?_; 
     refine A_load ?_; refine A_want ?_; refine A_sub ?_; refine A_want ?_; refine A_idxS ?_; refine A_want ?_; refine A_load ?_; refine A_want ?_; refine A_not ?_; 
     refine A_pick_f ?_; refine a_next ?_; refine a_false ?_; refine a_nextC ?_; refine e_seq fun K1 hK1 => ?_; refine a_drawn fun w1 hF1 => ?_; have hz1 := hF1.size; 
     refine A_move ?_; refine A_field ?_; refine A_nil ?_; refine A_field ?_; refine A_field ?_; refine A_load ?_; refine A_idxA ?_; refine A_load ?_; refine A_load ?_; 
     refine A_sub ?_; refine A_idxS ?_; refine A_loads ?_; refine A_storeW fun w1 hU1 hB1 => ?_; refine A_assign ?_; refine a_next ?_; refine a_retB ?_)
  exact hR _ (by exact fr_)
end
theorem sl_bool {w : World} {α : Type} {v : Value} {xs : List (Option α)} (h : Sl w 4 1 hasL v xs) {i : Nat} (hi : i < xs.length) : ∃ g cap, v = .slice (some ⟨g, 0, none⟩) xs.length cap ∧ w.cell? ⟨g, i, none⟩ = some (.bool (xs[i]?).join.isSome) := by
  obtain ⟨g, cap, hv, _, hr⟩ := h.at_ hasL_len (List.getElem?_eq_getElem hi)
  refine ⟨g, cap, hv, ?_⟩
  have := hr 0 (.bool (xs[i]).isSome) rfl
  rw [Nat.mul_one, Nat.add_zero] at this
  rw [this, List.getElem?_eq_getElem hi]; rfl
def callL (c : Option CallD) : List Value := (callO c).toList
theorem callL_len (c : Option CallD) : (callL c).length = 14 := callO_len c
abbrev CallRows (w : World) (b : Nat) (n : Int) (R : Nat → List (Option CallD)) (F : Nat → Prop) (rs hs : Nat → Value) : Prop := RowsAt w 99 33 14 callL b n R F rs hs
/-- At: the call at a place. -/
theorem at46 (x : It) (n : Int) (b : Nat) (w : World) (RR : Ending → World → Prop) {R : Nat → List (Option CallD)} {F : Nat → Prop} {rs hs : Nat → Value} (h : CallRows w b n R F rs hs)
    (hR : ∀ w', Fr w w' → RR (.returned (.tuple #[.agg (callO (atR R n x)), .bool (atR R n x).isSome])) w') : Calls Try.prog 46 #[.pointer (some ⟨b, 0, none⟩), itV x] w RR := by
  obtain ⟨r, m⟩ := x
  have hn : w.cell? ⟨b, 0, none⟩ = some (.int .i64 n) := h.blk.cell rfl
  cases hg : goodB r m n with
  | false =>
    have e : atR R n (r, m) = none := by simp [atR, hg]
    rw [e] at hR
    exact at46_bad r m n b w RR hn hg hR
  | true =>
    obtain ⟨g1, g2, g3, g4⟩ := goodB_true hg
    have h7 := h.reps.2
    have hi : r.toNat < 7 := by omega
    have e : atR R n (r, m) = ((R r.toNat)[(m - 1).toNat]?).join := by simp only [atR, hg, if_true]; rw [show m.toNat - 1 = (m - 1).toNat by omega]
    have hr := h.blk.cell (rowsA_r n rs hs r.toNat hi)
    have hh := h.blk.cell (rowsA_h n rs hs r.toNat hi)
    obtain ⟨p, c, hv⟩ := (h.row _ hi).value
    rw [hv] at hr
    by_cases hl : ((R r.toNat).length : Int) < m
    · have e0 : ((R r.toNat)[(m - 1).toNat]?).join = none := by rw [List.getElem?_eq_none (by omega)]; rfl
      rw [e, e0] at hR
      exact at46_short r m n b w RR hn hg h7 p c _ hr hl hR
    · have hlt : (m - 1).toNat < (R r.toNat).length := by omega
      obtain ⟨hb, c', hv', hcell⟩ := sl_bool (h.has _ hi) hlt
      rw [hv'] at hh
      cases ho : ((R r.toNat)[(m - 1).toNat]?).join with
      | none =>
        rw [ho] at hcell
        rw [e, ho] at hR
        exact at46_none r m n b w RR hn hg h7 p c _ hr (by omega) hb c' hh hcell hR
      | some cd =>
        rw [ho] at hcell
        rw [e, ho] at hR
        obtain ⟨rb, c2, hv2, _, hra⟩ := (h.row _ hi).at_ callL_len (List.getElem?_eq_getElem hlt)
        have e2 : (R r.toNat)[(m - 1).toNat] = some cd := by rw [List.getElem?_eq_getElem hlt] at ho; simpa using ho
        rw [e2] at hra
        rw [hv2] at hv
        obtain ⟨rfl, rfl⟩ : some (⟨rb, 0, none⟩ : Addr) = p ∧ c2 = c := by injection hv with a1 a2 a3; exact ⟨a1, a3⟩
        exact at46_some r m n b w RR hn hg h7 c2 _ rb hr (by omega) hb c' hh hcell (callO (some cd)) hra (callO_size _) (callO_one _) hR
/-! ### The same for bools -/
section
variable (r m n : Int) (b : Nat) (w : World) (R : Ending → World → Prop)
set_option maxHeartbeats 400000 in
theorem at56_bad (hn : w.cell? ⟨b, 0, none⟩ = some (.int .i64 n)) (hg : goodB r m n = false)
    (hR : ∀ w', Fr w w' → R (.returned (.tuple #[.bool false, .bool false])) w') :
    Calls Try.prog 56 #[.pointer (some ⟨b, 0, none⟩), .agg #[.int .i64 r, .int .i64 m]] w R := by
  refine e_enter (n := ⟨59, []⟩) Try.mixed Try.func56 Try.p56 Try.x56 Try.fb56 Try.hx56 Try.ok56 rfl rfl (by simp) ?_; simp only [Try.x56, argEnv, Nat.zero_add, Nat.reduceAdd]
  (refine e_seq fun K1 hK1 => ?_; refine e_region ?_; refine A_box fun b1 w1 hF1 hN1 hB1 => ?_; have hz1 := hF1.size; obtain ⟨hn1, hl1⟩ := hN1; refine A_assign ?_; 
     refine A_assign ?_; refine a_next ?_; refine e_seq fun K1 hK1 => ?_; refine e_region ?_; refine A_assign ?_; refine a_next ?_; refine e_seq fun K1 hK1 => ?_; 
     refine e_seq fun K1 hK1 => ?_; refine a_drawn fun w1 hF1 => ?_; have hz1 := hF1.size; refine A_move ?_; refine A_eqlnil ?_; refine A_move ?_; refine A_want ?_; 
     refine A_move ?_; refine A_want ?_; refine A_nil ?_; refine A_want ?_; refine A_field ?_; refine A_want ?_; refine A_loadW ?_; refine A_want ?_; refine A_load ?_; 
     refine A_want ?_)
  (with_reducible apply E_call); rfl; exact Try.en57; rfl; intro RR1 hRR1
  refine good57 _ _ _ _ _ fun w2 hF2 => ?_
  have hz2 := hF2.size
  refine hRR1 _ _ (by first | assumption | exact trivial) (Nat.le_of_ble_eq_true rfl) ?_; clear hRR1 RR1
  rw [hg]
  (refine A_want ?_; refine A_not ?_; refine A_pick_f ?_; refine A_move ?_; refine A_pass ?_; refine A_pass ?_; refine A_pass ?_; refine A_pass ?_; refine A_pass ?_; 
     refine A_pass ?_; refine A_pass ?_; refine A_pass ?_; refine A_pass ?_; refine A_pass ?_; refine A_pass ?_; refine A_pick_t ?_; refine A_move ?_; refine A_pass ?_; 
     refine A_pass ?_; refine A_pass ?_; refine A_pass ?_; refine A_pass ?_; refine A_pass ?_; refine A_pass ?_; refine A_pass ?_; refine A_pass ?_; refine A_pass ?_; 
     refine A_pass ?_; refine A_pass ?_; refine A_pass ?_; refine A_pick_t ?_; refine a_next ?_; refine a_true ?_; refine e_seq fun K1 hK1 => ?_; refine e_region ?_; 
     refine A_move ?_; refine A_assign ?_; refine A_assign ?_; refine a_next ?_; refine e_ret_then ?_; refine a_ret2 ?_)
  exact hR _ (by exact fr_)
set_option maxHeartbeats 400000 in
theorem at56_short (hn : w.cell? ⟨b, 0, none⟩ = some (.int .i64 n)) (hg : goodB r m n = true) (h7 : n ≤ 7) (p : Option Addr) (c len : Nat) (hr : w.cell? ⟨b, 1 + r.toNat, none⟩ = some (.slice p len c)) (hl : (len : Int) < m)
    (hR : ∀ w', Fr w w' → R (.returned (.tuple #[.bool false, .bool false])) w') :
    Calls Try.prog 56 #[.pointer (some ⟨b, 0, none⟩), .agg #[.int .i64 r, .int .i64 m]] w R := by
  obtain ⟨g1, g2, g3, g4⟩ := goodB_true hg
  refine e_enter (n := ⟨59, []⟩) Try.mixed Try.func56 Try.p56 Try.x56 Try.fb56 Try.hx56 Try.ok56 rfl rfl (by simp) ?_; simp only [Try.x56, argEnv, Nat.zero_add, Nat.reduceAdd]
  (refine e_seq fun K1 hK1 => ?_; refine e_region ?_; refine A_box fun b1 w1 hF1 hN1 hB1 => ?_; have hz1 := hF1.size; obtain ⟨hn1, hl1⟩ := hN1; refine A_assign ?_; 
     refine A_assign ?_; refine a_next ?_; refine e_seq fun K1 hK1 => ?_; refine e_region ?_; refine A_assign ?_; refine a_next ?_; refine e_seq fun K1 hK1 => ?_; 
     refine e_seq fun K1 hK1 => ?_; refine a_drawn fun w1 hF1 => ?_; have hz1 := hF1.size; refine A_move ?_; refine A_eqlnil ?_; refine A_move ?_; refine A_want ?_; 
     refine A_move ?_; refine A_want ?_; refine A_nil ?_; refine A_want ?_; refine A_field ?_; refine A_want ?_; refine A_loadW ?_; refine A_want ?_; refine A_load ?_; 
     refine A_want ?_)
  (with_reducible apply E_call); rfl; exact Try.en57; rfl; intro RR1 hRR1
  refine good57 _ _ _ _ _ fun w2 hF2 => ?_
  have hz2 := hF2.size
  refine hRR1 _ _ (by first | assumption | exact trivial) (Nat.le_of_ble_eq_true rfl) ?_; clear hRR1 RR1
  rw [hg]
  (refine A_want ?_; refine A_not ?_; refine A_pick_f ?_; refine A_move ?_; refine A_want ?_; refine A_field ?_; refine A_want ?_; refine A_move ?_; refine A_want ?_; 
     refine A_field ?_; refine A_want ?_; refine A_nil ?_; refine A_want ?_; refine A_field ?_; refine A_want ?_; refine A_load ?_; refine A_want ?_; refine A_load ?_; 
     refine A_want ?_; refine A_idxA ?_; refine A_want ?_; refine A_load ?_; refine A_want ?_; refine A_lenS ?_; refine A_want ?_; refine A_gtr ?_; refine A_pick_f ?_; 
     refine A_move ?_; refine A_pass ?_; refine A_pass ?_; refine A_pass ?_; refine A_pass ?_; refine A_pass ?_; refine A_pass ?_; refine A_pass ?_; refine A_pass ?_; 
     refine A_pass ?_; refine A_pass ?_; refine A_pass ?_; refine A_pass ?_; refine A_pass ?_; refine A_pick_t ?_; refine a_next ?_; refine a_true ?_; 
     refine e_seq fun K1 hK1 => ?_; refine e_region ?_; refine A_move ?_; refine A_assign ?_; refine A_assign ?_; refine a_next ?_; refine e_ret_then ?_; refine a_ret2 ?_)
  exact hR _ (by exact fr_)
set_option maxHeartbeats 400000 in
theorem at56_none (hn : w.cell? ⟨b, 0, none⟩ = some (.int .i64 n)) (hg : goodB r m n = true) (h7 : n ≤ 7) (p : Option Addr) (c len : Nat) (hr : w.cell? ⟨b, 1 + r.toNat, none⟩ = some (.slice p len c)) (hl : m ≤ (len : Int))
    (hb c' : Nat) (hh : w.cell? ⟨b, 8 + r.toNat, none⟩ = some (.slice (some ⟨hb, 0, none⟩) len c')) (hv : w.cell? ⟨hb, (m - 1).toNat, none⟩ = some (.bool false))
    (hR : ∀ w', Fr w w' → R (.returned (.tuple #[.bool false, .bool false])) w') :
    Calls Try.prog 56 #[.pointer (some ⟨b, 0, none⟩), .agg #[.int .i64 r, .int .i64 m]] w R := by
  obtain ⟨g1, g2, g3, g4⟩ := goodB_true hg
  refine e_enter (n := ⟨59, []⟩) Try.mixed Try.func56 Try.p56 Try.x56 Try.fb56 Try.hx56 Try.ok56 rfl rfl (by simp) ?_; simp only [Try.x56, argEnv, Nat.zero_add, Nat.reduceAdd]
  (refine e_seq fun K1 hK1 => ?_; refine e_region ?_; refine A_box fun b1 w1 hF1 hN1 hB1 => ?_; have hz1 := hF1.size; obtain ⟨hn1, hl1⟩ := hN1; refine A_assign ?_; 
     refine A_assign ?_; refine a_next ?_; refine e_seq fun K1 hK1 => ?_; refine e_region ?_; refine A_assign ?_; refine a_next ?_; refine e_seq fun K1 hK1 => ?_; 
     refine e_seq fun K1 hK1 => ?_; refine a_drawn fun w1 hF1 => ?_; have hz1 := hF1.size; refine A_move ?_; refine A_eqlnil ?_; refine A_move ?_; refine A_want ?_; 
     refine A_move ?_; refine A_want ?_; refine A_nil ?_; refine A_want ?_; refine A_field ?_; refine A_want ?_; refine A_loadW ?_; refine A_want ?_; refine A_load ?_; 
     refine A_want ?_)
  (with_reducible apply E_call); rfl; exact Try.en57; rfl; intro RR1 hRR1
  refine good57 _ _ _ _ _ fun w2 hF2 => ?_
  have hz2 := hF2.size
  refine hRR1 _ _ (by first | assumption | exact trivial) (Nat.le_of_ble_eq_true rfl) ?_; clear hRR1 RR1
  rw [hg]
  (refine A_want ?_; refine A_not ?_; refine A_pick_f ?_; refine A_move ?_; refine A_want ?_; refine A_field ?_; refine A_want ?_; refine A_move ?_; refine A_want ?_; 
     refine A_field ?_; refine A_want ?_; refine A_nil ?_; refine A_want ?_; refine A_field ?_; refine A_want ?_; refine A_load ?_; refine A_want ?_; refine A_load ?_; 
     refine A_want ?_; refine A_idxA ?_; refine A_want ?_; refine A_load ?_; refine A_want ?_; refine A_lenS ?_; refine A_want ?_; refine A_gtr ?_; refine A_pick_f ?_; 
     refine A_move ?_; refine A_want ?_; refine A_move ?_; refine A_want ?_; refine A_field ?_; refine A_want ?_; refine A_nil ?_; refine A_want ?_; refine A_field ?_; 
     refine A_want ?_; refine A_field ?_; refine A_want ?_; refine A_load ?_; refine A_want ?_; refine A_idxA ?_; refine A_want ?_; refine A_load ?_; refine A_want ?_; 
     refine A_load ?_; refine A_want ?_; refine A_sub ?_; refine A_want ?_; refine A_idxS ?_; refine A_want ?_; refine A_load ?_; refine A_want ?_; refine A_not ?_; 
     refine A_pick_f ?_; refine a_next ?_; refine a_true ?_; refine e_seq fun K1 hK1 => ?_; refine e_region ?_; refine A_move ?_; refine A_assign ?_; refine A_assign ?_; 
     refine a_next ?_; refine e_ret_then ?_; refine a_ret2 ?_)
  exact hR _ (by exact fr_)
set_option maxHeartbeats 400000 in
theorem at56_some (hn : w.cell? ⟨b, 0, none⟩ = some (.int .i64 n)) (hg : goodB r m n = true) (h7 : n ≤ 7) (c len : Nat) (rb : Nat) (hr : w.cell? ⟨b, 1 + r.toNat, none⟩ = some (.slice (some ⟨rb, 0, none⟩) len c)) (hl : m ≤ (len : Int))
    (hb c' : Nat) (hh : w.cell? ⟨b, 8 + r.toNat, none⟩ = some (.slice (some ⟨hb, 0, none⟩) len c')) (hv : w.cell? ⟨hb, (m - 1).toNat, none⟩ = some (.bool true)) (v : Bool) (hcs : w.cell? ⟨rb, (m - 1).toNat, none⟩ = some (.bool v))
    (hR : ∀ w', Fr w w' → R (.returned (.tuple #[.bool v, .bool true])) w') :
    Calls Try.prog 56 #[.pointer (some ⟨b, 0, none⟩), .agg #[.int .i64 r, .int .i64 m]] w R := by
  obtain ⟨g1, g2, g3, g4⟩ := goodB_true hg
  refine e_enter (n := ⟨59, []⟩) Try.mixed Try.func56 Try.p56 Try.x56 Try.fb56 Try.hx56 Try.ok56 rfl rfl (by simp) ?_; simp only [Try.x56, argEnv, Nat.zero_add, Nat.reduceAdd]
  (refine e_seq fun K1 hK1 => ?_; refine e_region ?_; refine A_box fun b1 w1 hF1 hN1 hB1 => ?_; have hz1 := hF1.size; obtain ⟨hn1, hl1⟩ := hN1; refine A_assign ?_; 
     refine A_assign ?_; refine a_next ?_; refine e_seq fun K1 hK1 => ?_; refine e_region ?_; refine A_assign ?_; refine a_next ?_; refine e_seq fun K1 hK1 => ?_; 
     refine e_seq fun K1 hK1 => ?_; refine a_drawn fun w1 hF1 => ?_; have hz1 := hF1.size; refine A_move ?_; refine A_eqlnil ?_; refine A_move ?_; refine A_want ?_; 
     refine A_move ?_; refine A_want ?_; refine A_nil ?_; refine A_want ?_; refine A_field ?_; refine A_want ?_; refine A_loadW ?_; refine A_want ?_; refine A_load ?_; 
     refine A_want ?_)
  (with_reducible apply E_call); rfl; exact Try.en57; rfl; intro RR1 hRR1
  refine good57 _ _ _ _ _ fun w2 hF2 => ?_
  have hz2 := hF2.size
  refine hRR1 _ _ (by first | assumption | exact trivial) (Nat.le_of_ble_eq_true rfl) ?_; clear hRR1 RR1
  rw [hg]
  (refine A_want ?_; refine A_not ?_; refine A_pick_f ?_; refine A_move ?_; refine A_want ?_; refine A_field ?_; refine A_want ?_; refine A_move ?_; refine A_want ?_; 
     refine A_field ?_; refine A_want ?_; refine A_nil ?_; refine A_want ?_; refine A_field ?_; refine A_want ?_; refine A_load ?_; refine A_want ?_; refine A_load ?_; 
     refine A_want ?_; refine A_idxA ?_; refine A_want ?_; refine A_load ?_; refine A_want ?_; refine A_lenS ?_; refine A_want ?_; refine A_gtr ?_; refine A_pick_f ?_; 
     refine A_move ?_; refine A_want ?_; refine A_move ?_; refine A_want ?_; refine A_field ?_; refine A_want ?_; refine A_nil ?_; refine A_want ?_; refine A_field ?_; 
     refine A_want ?_; refine A_field ?_; refine A_want ?_; refine A_load ?_; refine A_want ?_; refine A_idxA ?_; refine A_want ?_; refine A_load ?_; refine A_want ?_; 
     refine A_load ?_; refine A_want ?_; refine A_sub ?_; refine A_want ?_; refine A_idxS ?_; refine A_want ?_; refine A_load ?_; refine A_want ?_; refine A_not ?_; 
     refine A_pick_f ?_; refine a_next ?_; refine a_false ?_; refine a_nextC ?_; refine e_seq fun K1 hK1 => ?_; refine a_drawn fun w1 hF1 => ?_; have hz1 := hF1.size; 
     refine A_move ?_; refine A_field ?_; refine A_nil ?_; refine A_field ?_; refine A_field ?_; refine A_load ?_; refine A_idxA ?_; refine A_load ?_; refine A_load ?_; 
     refine A_sub ?_; refine A_idxS ?_; refine A_load ?_; refine A_assign ?_; refine A_assign ?_; refine a_next ?_; refine a_ret2 ?_)
  exact hR _ (by exact fr_)
end
def boolL (o : Option Bool) : List Value := [.bool (o.getD false)]
theorem boolL_len (c : Option Bool) : (boolL c).length = 1 := rfl
abbrev BoolRows (w : World) (b : Nat) (n : Int) (R : Nat → List (Option Bool)) (F : Nat → Prop) (rs hs : Nat → Value) : Prop := RowsAt w 101 4 1 boolL b n R F rs hs
theorem at56 (x : It) (n : Int) (b : Nat) (w : World) (RR : Ending → World → Prop) {R : Nat → List (Option Bool)} {F : Nat → Prop} {rs hs : Nat → Value} (h : BoolRows w b n R F rs hs)
    (hR : ∀ w', Fr w w' → RR (.returned (.tuple #[.bool ((atR R n x).getD false), .bool (atR R n x).isSome])) w') : Calls Try.prog 56 #[.pointer (some ⟨b, 0, none⟩), itV x] w RR := by
  obtain ⟨r, m⟩ := x
  have hn : w.cell? ⟨b, 0, none⟩ = some (.int .i64 n) := h.blk.cell rfl
  cases hg : goodB r m n with
  | false =>
    have e : atR R n (r, m) = none := by simp [atR, hg]
    rw [e] at hR
    exact at56_bad r m n b w RR hn hg hR
  | true =>
    obtain ⟨g1, g2, g3, g4⟩ := goodB_true hg
    have h7 := h.reps.2
    have hi : r.toNat < 7 := by omega
    have e : atR R n (r, m) = ((R r.toNat)[(m - 1).toNat]?).join := by simp only [atR, hg, if_true]; rw [show m.toNat - 1 = (m - 1).toNat by omega]
    have hr := h.blk.cell (rowsA_r n rs hs r.toNat hi)
    have hh := h.blk.cell (rowsA_h n rs hs r.toNat hi)
    obtain ⟨p, c, hv⟩ := (h.row _ hi).value
    rw [hv] at hr
    by_cases hl : ((R r.toNat).length : Int) < m
    · have e0 : ((R r.toNat)[(m - 1).toNat]?).join = none := by rw [List.getElem?_eq_none (by omega)]; rfl
      rw [e, e0] at hR
      exact at56_short r m n b w RR hn hg h7 p c _ hr hl hR
    · have hlt : (m - 1).toNat < (R r.toNat).length := by omega
      obtain ⟨hb, c', hv', hcell⟩ := sl_bool (h.has _ hi) hlt
      rw [hv'] at hh
      cases ho : ((R r.toNat)[(m - 1).toNat]?).join with
      | none =>
        rw [ho] at hcell
        rw [e, ho] at hR
        exact at56_none r m n b w RR hn hg h7 p c _ hr (by omega) hb c' hh hcell hR
      | some cd =>
        rw [ho] at hcell
        rw [e, ho] at hR
        obtain ⟨rb, c2, hv2, _, hra⟩ := (h.row _ hi).at_ boolL_len (List.getElem?_eq_getElem hlt)
        have e2 : (R r.toNat)[(m - 1).toNat] = some cd := by rw [List.getElem?_eq_getElem hlt] at ho; simpa using ho
        rw [e2] at hra
        rw [hv2] at hv
        obtain ⟨rfl, rfl⟩ : some (⟨rb, 0, none⟩ : Addr) = p ∧ c2 = c := by injection hv with a1 a2 a3; exact ⟨a1, a3⟩
        have hcl := hra 0 (.bool cd) rfl
        rw [Nat.mul_one, Nat.add_zero] at hcl
        exact at56_some r m n b w RR hn hg h7 c2 _ rb hr (by omega) hb c' hh hcell cd hcl hR
end Go.Proofs.Ytjocklgihjbaiaa
end
section
/- Items, deps: contracts of the functions that go over seven numbers; of New. -/
namespace Go.Proofs.Ytjocklgihjbaiaa
open Go.RowKit
theorem depA_get (d : Nat → Int) (i : Nat) (h : i < 7) : (depA d)[i]? = some (.int .i64 (d i)) := by
  match i, h with
  | 0, _ | 1, _ | 2, _ | 3, _ | 4, _ | 5, _ | 6, _ => rfl
def goodDep (d : Nat → Int) (n : Int) (i : Nat) : Prop := 0 ≤ d i ∧ d i ≤ 64 ∧ ((i : Int) < n ∨ d i = 0)
instance (d : Nat → Int) (n : Int) (i : Nat) : Decidable (goodDep d n i) := by unfold goodDep; infer_instance
def GoodDeps (d : Nat → Int) (n : Int) : Prop := ∀ i, i < 7 → goodDep d n i
instance (d : Nat → Int) (n : Int) : Decidable (GoodDeps d n) := by unfold GoodDeps; infer_instance
theorem goodDeps_of {d : Nat → Int} {n : Int} (h : ∀ j, j < 7 → goodDep d n j) : decide (GoodDeps d n) = true := decide_eq_true h
set_option maxHeartbeats 400000 in
theorem good45 (d : Nat → Int) (n : Int) (w : World) (R : Ending → World → Prop) (hR : ∀ w', Fr w w' → R (.returned (.bool (decide (GoodDeps d n)))) w') :
    Calls Try.prog 45 #[.agg (depA d), .int .i64 n] w R := by
  have bad : ∀ i, i < 7 → ¬ goodDep d n i → ∀ w', Fr w w' → R (.returned (.bool false)) w' := fun i hi hb w' hF =>
    retb (hR w' hF) (decide_eq_false fun h => hb (h i hi)).symm
  refine e_enter (n := ⟨28, []⟩) Try.mixed Try.func45 Try.p45 Try.x45 Try.fb45 Try.hx45 Try.ok45 rfl rfl (by simp) ?_; simp only [Try.x45, argEnv, Nat.zero_add, Nat.reduceAdd]
  (refine e_seq fun K1 hK1 => ?_; refine e_region ?_; refine A_box fun b1 w1 hF1 hN1 hB1 => ?_; have hz1 := hF1.size; obtain ⟨hn1, hl1⟩ := hN1; refine A_assign ?_; 
     refine a_next ?_; refine e_seq fun K1 hK1 => ?_; refine e_seq fun K1 hK1 => ?_; refine e_region ?_; refine A_loadW ?_; refine A_move ?_; refine a_next ?_; 
     refine e_block ?_)
  refine e_loop Try.mixed Try.p45 Try.lp45baba Try.hx45babal Try.ok45babal (fun i : Nat => [(7, .agg (depA d)), (8, .int .i64 i), (1, .int .i64 n)]) (fun i w' => i ≤ 7 ∧ (∀ j, j < i → goodDep d n j) ∧ Fr w w') (fun i => 7 - i) 0 (by exact sub_) ⟨Nat.zero_le _, (fun j hj => absurd hj (Nat.not_lt_zero j)), (by exact fr_)⟩ ?_
  rintro i w2 ⟨hi7, hall, hF2⟩
  have hz2 := hF2.size
  simp only [Try.x45babal]
  by_cases hi : i < 7
  · have hget := depA_get d i hi
    by_cases h1 : d i < 0
    · (refine e_seq fun K1 hK1 => ?_; refine e_region ?_; refine A_lss ?_; refine a_next ?_; refine e_seq fun K1 hK1 => ?_; refine a_true ?_; refine a_nextC ?_; 
       refine e_seq fun K1 hK1 => ?_; refine e_block ?_; refine e_seq fun K1 hK1 => ?_; refine e_region ?_; refine A_move ?_; refine A_index ?_; refine A_assign ?_; 
       refine A_assign ?_; refine a_next ?_; refine e_seq fun K1 hK1 => ?_; refine e_region ?_; refine A_move ?_; refine A_lss ?_; refine A_move ?_; refine A_pass ?_; 
       refine A_pass ?_; refine A_pick_t ?_; refine A_move ?_; refine A_pass ?_; refine A_pass ?_; refine A_pass ?_; refine A_pass ?_; refine A_passu ?_; refine A_passu ?_; 
       refine A_pass ?_; refine A_pick_t ?_; refine a_next ?_; refine a_true ?_; refine e_seq fun K1 hK1 => ?_; refine e_region ?_; refine A_assign ?_; refine a_next ?_; 
       refine e_ret_block ?_; refine e_ret_then ?_; refine e_ret_then ?_; refine e_ret_block ?_; refine e_ret_then ?_; refine a_ret1 ?_)
      exact bad i hi (fun h => by have := h.1; omega) _ (by exact fr_)
    · by_cases h2 : 64 < d i
      · (refine e_seq fun K1 hK1 => ?_; refine e_region ?_; refine A_lss ?_; refine a_next ?_; refine e_seq fun K1 hK1 => ?_; refine a_true ?_; refine a_nextC ?_; 
         refine e_seq fun K1 hK1 => ?_; refine e_block ?_; refine e_seq fun K1 hK1 => ?_; refine e_region ?_; refine A_move ?_; refine A_index ?_; refine A_assign ?_; 
         refine A_assign ?_; refine a_next ?_; refine e_seq fun K1 hK1 => ?_; refine e_region ?_; refine A_move ?_; refine A_lss ?_; refine A_move ?_; refine A_want ?_; 
         refine A_move ?_; refine A_want ?_; refine A_gtr ?_; refine A_pick_f ?_; refine A_move ?_; refine A_pass ?_; refine A_pass ?_; refine A_pass ?_; refine A_pass ?_; 
         refine A_passu ?_; refine A_passu ?_; refine A_pass ?_; refine A_pick_t ?_; refine a_next ?_; refine a_true ?_; refine e_seq fun K1 hK1 => ?_; refine e_region ?_; 
         refine A_assign ?_; refine a_next ?_; refine e_ret_block ?_; refine e_ret_then ?_; refine e_ret_then ?_; refine e_ret_block ?_; refine e_ret_then ?_; refine a_ret1 ?_)
        exact bad i hi (fun h => by have := h.2.1; omega) _ (by exact fr_)
      · by_cases h3 : n ≤ (i : Int)
        · by_cases h4 : d i = 0
          · (refine e_seq fun K1 hK1 => ?_; refine e_region ?_; refine A_lss ?_; refine a_next ?_; refine e_seq fun K1 hK1 => ?_; refine a_true ?_; refine a_nextC ?_; 
             refine e_seq fun K1 hK1 => ?_; refine e_block ?_; refine e_seq fun K1 hK1 => ?_; refine e_region ?_; refine A_move ?_; refine A_index ?_; refine A_assign ?_; 
             refine A_assign ?_; refine a_next ?_; refine e_seq fun K1 hK1 => ?_; refine e_region ?_; refine A_move ?_; refine A_lss ?_; refine A_move ?_; refine A_want ?_; 
             refine A_move ?_; refine A_want ?_; refine A_gtr ?_; refine A_pick_f ?_; refine A_move ?_; refine A_want ?_; refine A_move ?_; refine A_want ?_; refine A_move ?_; 
             refine A_want ?_; refine A_geq ?_; refine A_want ?_; refine A_move ?_; refine A_want ?_; refine A_move ?_; refine A_want ?_; refine A_neq ?_; refine A_want ?_; 
             refine A_pick_t ?_; refine A_pick_f ?_; refine a_next ?_; refine a_false ?_; refine e_norm_skip ?_; refine e_norm_block ?_; refine a_norm_then ?_; refine e_region ?_; 
             refine A_add ?_; refine A_move ?_; refine e_norm_nil ?_)
            refine e_againN (i + 1) (by omega) ⟨by omega, fun j hj => ?_, by exact fr_⟩ rfl (by exact sub_)
            rcases Nat.lt_or_eq_of_le (Nat.lt_succ_iff.1 hj) with h | rfl
            · exact hall j h
            · exact ⟨by omega, by omega, by omega⟩
          · (refine e_seq fun K1 hK1 => ?_; refine e_region ?_; refine A_lss ?_; refine a_next ?_; refine e_seq fun K1 hK1 => ?_; refine a_true ?_; refine a_nextC ?_; 
             refine e_seq fun K1 hK1 => ?_; refine e_block ?_; refine e_seq fun K1 hK1 => ?_; refine e_region ?_; refine A_move ?_; refine A_index ?_; refine A_assign ?_; 
             refine A_assign ?_; refine a_next ?_; refine e_seq fun K1 hK1 => ?_; refine e_region ?_; refine A_move ?_; refine A_lss ?_; refine A_move ?_; refine A_want ?_; 
             refine A_move ?_; refine A_want ?_; refine A_gtr ?_; refine A_pick_f ?_; refine A_move ?_; refine A_want ?_; refine A_move ?_; refine A_want ?_; refine A_move ?_; 
             refine A_want ?_; refine A_geq ?_; refine A_want ?_; refine A_move ?_; refine A_want ?_; refine A_move ?_; refine A_want ?_; refine A_neq ?_; refine A_want ?_; 
             refine A_pick_t ?_; refine A_pick_f ?_; refine a_next ?_; refine a_true ?_; refine e_seq fun K1 hK1 => ?_; refine e_region ?_; refine A_assign ?_; refine a_next ?_; 
             refine e_ret_block ?_; refine e_ret_then ?_; refine e_ret_then ?_; refine e_ret_block ?_; refine e_ret_then ?_; refine a_ret1 ?_)
            exact bad i hi (fun h => by have := h.2.2; omega) _ (by exact fr_)
        · (refine e_seq fun K1 hK1 => ?_; refine e_region ?_; refine A_lss ?_; refine a_next ?_; refine e_seq fun K1 hK1 => ?_; refine a_true ?_; refine a_nextC ?_; 
           refine e_seq fun K1 hK1 => ?_; refine e_block ?_; refine e_seq fun K1 hK1 => ?_; refine e_region ?_; refine A_move ?_; refine A_index ?_; refine A_assign ?_; 
           refine A_assign ?_; refine a_next ?_; refine e_seq fun K1 hK1 => ?_; refine e_region ?_; refine A_move ?_; refine A_lss ?_; refine A_move ?_; refine A_want ?_; 
           refine A_move ?_; refine A_want ?_; refine A_gtr ?_; refine A_pick_f ?_; refine A_move ?_; refine A_want ?_; refine A_move ?_; refine A_want ?_; refine A_move ?_; 
           refine A_want ?_; refine A_geq ?_; refine A_want ?_; refine A_move ?_; refine A_pass ?_; refine A_pass ?_; refine A_want ?_; refine A_pick_f ?_; refine A_pick_f ?_; 
           refine a_next ?_; refine a_false ?_; refine e_norm_skip ?_; refine e_norm_block ?_; refine a_norm_then ?_; refine e_region ?_; refine A_add ?_; refine A_move ?_; 
           refine e_norm_nil ?_)
          refine e_againN (i + 1) (by omega) ⟨by omega, fun j hj => ?_, by exact fr_⟩ rfl (by exact sub_)
          rcases Nat.lt_or_eq_of_le (Nat.lt_succ_iff.1 hj) with h | rfl
          · exact hall j h
          · exact ⟨by omega, by omega, by omega⟩
  · (refine e_seq fun K1 hK1 => ?_; refine e_region ?_; refine A_lss ?_; refine a_next ?_; refine e_seq fun K1 hK1 => ?_; refine a_false ?_; refine e_exit_then ?_; 
     refine e_exit_then ?_; refine e_exit_here ?_; refine a_norm_then ?_; refine e_seq fun K1 hK1 => ?_; refine e_region ?_; refine A_assign ?_; refine a_next ?_; 
     refine a_ret1 ?_)
    exact retb (hR _ (by exact fr_)) (goodDeps_of fun j hj => hall j (by omega)).symm
end Go.Proofs.Ytjocklgihjbaiaa
end
section
/- More of slices: one element put anew. Over any program. -/
namespace Go.Proofs.Ytjocklgihjbaiaa
open Go.RowKit
theorem cellsOf_set {α : Type} {enc : α → List Value} {k : Nat} (hk : ∀ x, (enc x).length = k) : ∀ (xs : List α) (i : Nat) (y : α), i < xs.length →
    cellsOf enc (xs.set i y) = (cellsOf enc xs).take (i * k) ++ enc y ++ (cellsOf enc xs).drop (i * k + k)
  | [], i, y, h => by simp at h
  | x :: xs, 0, y, h => by
    simp only [List.set_cons_zero, cellsOf, List.flatMap_cons, Nat.zero_mul, List.take_zero, List.nil_append, Nat.zero_add]
    congr 1
    rw [List.drop_append_of_le_length (by rw [hk]; omega), List.drop_of_length_le (by rw [hk]; omega), List.nil_append]
  | x :: xs, i + 1, y, h => by
    have ih := cellsOf_set hk xs i y (by simpa using h)
    simp only [List.set_cons_succ, cellsOf, List.flatMap_cons] at ih ⊢
    rw [ih]
    have e : (i + 1) * k = (enc x).length + i * k := by rw [hk, Nat.add_mul]; omega
    rw [e, List.take_length_add_append, Nat.add_assoc, List.drop_length_add_append]
    simp
theorem take_mid {β : Type} (L E : List β) (o k N : Nat) (hE : E.length = k) (h1 : o + k ≤ N) (h2 : N ≤ L.length) :
    (L.take o ++ E ++ L.drop (o + k)).take N = (L.take N).take o ++ E ++ (L.take N).drop (o + k) := by
  have e : (L.take o ++ E).length = o + k := by rw [List.length_append, List.length_take, hE]; omega
  rw [List.take_append, e, List.take_of_length_le (by omega), List.take_take, Nat.min_eq_left (by omega), List.drop_take]
theorem Sl.put {α : Type} {w : World} {e : TypeId} {k : Nat} {enc : α → List Value} {v : Value} {xs : List α} (h : Sl w e k enc v xs) (hk : ∀ x, (enc x).length = k) {i : Nat} (hi : i < xs.length) (y : α) :
    ∃ g cap cur, v = .slice (some ⟨g, 0, none⟩) xs.length cap ∧ Blk w g e cur ∧ i * k + k ≤ cur.size ∧
      ∀ w', Blk w' g e ⟨cur.toList.take (i * k) ++ enc y ++ cur.toList.drop (i * k + k)⟩ → Sl w' e k enc v (xs.set i y) := by
  obtain ⟨hl, h⟩ := h
  rcases h with ⟨h0, _⟩ | ⟨g, cap, cur, rfl, hb, hg, hn, hm, hs, ht⟩
  · omega
  · have hik : i * k + k ≤ xs.length * k := by rw [← Nat.succ_mul]; exact Nat.mul_le_mul_right _ hi
    have hcap : xs.length * k ≤ cap * k := Nat.mul_le_mul_right _ hn
    refine ⟨g, cap, cur, rfl, hg, by omega, fun w' hb' => ⟨?_, .inr ⟨g, cap, _, ?_, hb, hb', ?_, hm, ?_, ?_⟩⟩⟩
    · rw [List.length_set, cellsOf_length hk, List.length_set]
    · rw [List.length_set]
    · rw [List.length_set]; exact hn
    · simp only [List.size_toArray, List.length_append, List.length_take, List.length_drop, Array.length_toList, hk]
      omega
    · rw [cellsOf_set hk _ _ _ hi, ← ht, List.length_set]
      exact take_mid _ _ _ _ _ (hk y) hik (by rw [show cur.toList.length = cap * k from hs]; exact hcap)
theorem Row.len_le {w : World} {e : TypeId} {k n : Nat} {v : Value} {cs : List Value} (h : Row w e k v n cs) : (n : Int) ≤ 9223372036854775807 := by
  rcases h.2 with ⟨_, rfl⟩ | ⟨_, cap, _, _, _, _, h1, h2, _⟩
  · omega
  · unfold maxLen at h2; omega
theorem Sl.len_le {α : Type} {w : World} {e : TypeId} {k : Nat} {enc : α → List Value} {v : Value} {xs : List α} (h : Sl w e k enc v xs) : (xs.length : Int) ≤ 9223372036854775807 := Row.len_le h
end Go.Proofs.Ytjocklgihjbaiaa
end
section
/- Rows of things: a thing is put at a place. -/
namespace Go.Proofs.Ytjocklgihjbaiaa
open Go.RowKit
def upd {α : Type} (f : Nat → α) (r : Nat) (v : α) : Nat → α := fun i => if i = r then v else f i
theorem upd_same {α : Type} (f : Nat → α) (r : Nat) (v : α) : upd f r v r = v := by simp [upd]
theorem upd_ne {α : Type} (f : Nat → α) (r : Nat) (v : α) {i : Nat} (h : i ≠ r) : upd f r v i = f i := by simp [upd, h]
theorem upd_self {α : Type} (f : Nat → α) (r : Nat) : upd f r (f r) = f := by funext i; simp only [upd]; split <;> simp [*]
theorem upd_upd {α : Type} (f : Nat → α) (r : Nat) (u v : α) : upd (upd f r u) r v = upd f r v := by funext i; simp only [upd]; split <;> rfl
theorem rowsA_upd1 (n : Int) (rs hs : Nat → Value) (r : Nat) (h : r < 7) (v : Value) : (rowsA n rs hs).setIfInBounds (1 + r) v = rowsA n (upd rs r v) hs := by
  match r, h with
  | 0, _ | 1, _ | 2, _ | 3, _ | 4, _ | 5, _ | 6, _ => rfl
theorem rowsA_upd2 (n : Int) (rs hs : Nat → Value) (r : Nat) (h : r < 7) (v : Value) : (rowsA n rs hs).setIfInBounds (8 + r) v = rowsA n rs (upd hs r v) := by
  match r, h with
  | 0, _ | 1, _ | 2, _ | 3, _ | 4, _ | 5, _ | 6, _ => rfl
/-- One row is another one. -/
theorem RowsAt.turn {α : Type} {w w' : World} {T e k : Nat} {enc : Option α → List Value} {b : Nat} {n : Int} {R : Nat → List (Option α)} {F : Nat → Prop} {rs hs : Nat → Value} (h : RowsAt w T e k enc b n R F rs hs)
    {r : Nat} (hr : r < 7) {v' v'' : Value} {l : List (Option α)} (hl : l.length ≤ 64) (hblk : Blk w' b T (rowsA n (upd rs r v') (upd hs r v''))) (hrow : Sl w' e k enc v' l) (hhas : Sl w' 4 1 hasL v'' l)
    (hc : Ch (fun g => g = b ∨ (rs r).ownBlock = some g ∨ (hs r).ownBlock = some g) w w')
    (h1 : ∀ g, v'.ownBlock = some g → (rs r).ownBlock = some g ∨ w.heap.size ≤ g) (h2 : ∀ g, v''.ownBlock = some g → (hs r).ownBlock = some g ∨ w.heap.size ≤ g) (h12 : ∀ g, v'.ownBlock = some g → v''.ownBlock ≠ some g) :
    ∃ F', RowsAt w' T e k enc b n (upd R r l) F' (upd rs r v') (upd hs r v'') ∧ (∀ g, F' g → F g ∨ w.heap.size ≤ g) ∧ Ch F w w' := by
  have Fb : F b := (h.foot b).2 (.inl rfl)
  have Fr' : ∀ i g, i < 7 → (rs i).ownBlock = some g → F g := fun i g hi hg => (h.foot g).2 (.inr ⟨i, hi, .inl hg⟩)
  have Fh : ∀ i g, i < 7 → (hs i).ownBlock = some g → F g := fun i g hi hg => (h.foot g).2 (.inr ⟨i, hi, .inr hg⟩)
  have lr : ∀ i g, i < 7 → (rs i).ownBlock = some g → g < w.heap.size := fun i g hi hg => (h.row i hi).lt hg
  have lh : ∀ i g, i < 7 → (hs i).ownBlock = some g → g < w.heap.size := fun i g hi hg => (h.has i hi).lt hg
  have lb : b < w.heap.size := h.blk.lt
  refine ⟨fun g => g = b ∨ ∃ i, i < 7 ∧ ((upd rs r v' i).ownBlock = some g ∨ (upd hs r v'' i).ownBlock = some g), ⟨hblk, ?_, ?_, fun _ => Iff.rfl, ?_, ?_, ?_, ?_, ?_, ?_, h.reps⟩, ?_, ?_⟩
  · intro i hi
    by_cases hir : i = r
    · subst hir; rw [upd_same, upd_same]; exact hrow
    · rw [upd_ne _ _ _ hir, upd_ne _ _ _ hir]
      exact (h.row i hi).ch hc (by rintro g hg (rfl | hg' | hg'); exact h.rb i hi hg; exact h.rr i r g hi hr hir hg hg'; exact h.rh i r g hi hr hg hg')
  · intro i hi
    by_cases hir : i = r
    · subst hir; rw [upd_same, upd_same]; exact hhas
    · rw [upd_ne _ _ _ hir, upd_ne _ _ _ hir]
      exact (h.has i hi).ch hc (by rintro g hg (rfl | hg' | hg'); exact h.hb i hi hg; exact h.rh r i g hr hi hg' hg; exact h.hh i r g hi hr hir hg hg')
  · intro i hi
    by_cases hir : i = r
    · subst hir; rw [upd_same]; exact hl
    · rw [upd_ne _ _ _ hir]; exact h.short i hi
  · intro i j g hi hj hij hg hg'
    by_cases hir : i = r
    · subst hir
      rw [upd_same] at hg
      rw [upd_ne _ _ _ (Ne.symm hij)] at hg'
      rcases h1 g hg with h3 | h3
      · exact h.rr i j g hi hj hij h3 hg'
      · have := lr j g hj hg'; omega
    · rw [upd_ne _ _ _ hir] at hg
      by_cases hjr : j = r
      · subst hjr
        rw [upd_same] at hg'
        rcases h1 g hg' with h3 | h3
        · exact h.rr i j g hi hj hij hg h3
        · have := lr i g hi hg; omega
      · rw [upd_ne _ _ _ hjr] at hg'
        exact h.rr i j g hi hj hij hg hg'
  · intro i j g hi hj hij hg hg'
    by_cases hir : i = r
    · subst hir
      rw [upd_same] at hg
      rw [upd_ne _ _ _ (Ne.symm hij)] at hg'
      rcases h2 g hg with h3 | h3
      · exact h.hh i j g hi hj hij h3 hg'
      · have := lh j g hj hg'; omega
    · rw [upd_ne _ _ _ hir] at hg
      by_cases hjr : j = r
      · subst hjr
        rw [upd_same] at hg'
        rcases h2 g hg' with h3 | h3
        · exact h.hh i j g hi hj hij hg h3
        · have := lh i g hi hg; omega
      · rw [upd_ne _ _ _ hjr] at hg'
        exact h.hh i j g hi hj hij hg hg'
  · intro i j g hi hj hg hg'
    by_cases hir : i = r
    · subst hir
      rw [upd_same] at hg
      by_cases hjr : j = i
      · subst hjr
        rw [upd_same] at hg'
        exact h12 g hg hg'
      · rw [upd_ne _ _ _ hjr] at hg'
        rcases h1 g hg with h3 | h3
        · exact h.rh i j g hi hj h3 hg'
        · have := lh j g hj hg'; omega
    · rw [upd_ne _ _ _ hir] at hg
      by_cases hjr : j = r
      · subst hjr
        rw [upd_same] at hg'
        rcases h2 g hg' with h3 | h3
        · exact h.rh i j g hi hj hg h3
        · have := lr i g hi hg; omega
      · rw [upd_ne _ _ _ hjr] at hg'
        exact h.rh i j g hi hj hg hg'
  · intro i hi hg
    by_cases hir : i = r
    · subst hir
      rw [upd_same] at hg
      rcases h1 b hg with h3 | h3
      · exact h.rb i hi h3
      · omega
    · rw [upd_ne _ _ _ hir] at hg; exact h.rb i hi hg
  · intro i hi hg
    by_cases hir : i = r
    · subst hir
      rw [upd_same] at hg
      rcases h2 b hg with h3 | h3
      · exact h.hb i hi h3
      · omega
    · rw [upd_ne _ _ _ hir] at hg; exact h.hb i hi hg
  · rintro g (rfl | ⟨i, hi, hg | hg⟩)
    · exact .inl Fb
    · by_cases hir : i = r
      · subst hir
        rw [upd_same] at hg
        exact (h1 g hg).imp (Fr' i g hi) id
      · rw [upd_ne _ _ _ hir] at hg; exact .inl (Fr' i g hi hg)
    · by_cases hir : i = r
      · subst hir
        rw [upd_same] at hg
        exact (h2 g hg).imp (Fh i g hi) id
      · rw [upd_ne _ _ _ hir] at hg; exact .inl (Fh i g hi hg)
  · exact hc.mono (by rintro g _ (rfl | hg | hg); exact Fb; exact Fr' r g hr hg; exact Fh r g hr hg)
def padTo {α : Type} (l : List (Option α)) (m : Nat) : List (Option α) := l ++ List.replicate (m - l.length) none
/-- A thing is put at a place. -/
def setR {α : Type} (R : Nat → List (Option α)) (x : It) (v : α) : Nat → List (Option α) := upd R x.1.toNat ((padTo (R x.1.toNat) x.2.toNat).set (x.2.toNat - 1) (some v))
theorem sty40 : SliceTy Try.prog 40 33 14 128 := sliceTy_of (by kernel_rfl)
theorem sty23 : SliceTy Try.prog 23 4 1 1 := sliceTy_of (by kernel_rfl)
theorem sty39 : SliceTy Try.prog 39 27 2 16 := sliceTy_of (by kernel_rfl)
end Go.Proofs.Ytjocklgihjbaiaa
end
section
/- Items: the document's Good and Has, New. -/
namespace Go.Proofs.Ytjocklgihjbaiaa
open Go.RowKit
/-- Whether a row reaches to an item. -/
def HasD (d : Nat → Int) (x : It) : Prop := 0 ≤ x.1 ∧ x.1 < 7 ∧ 0 < x.2 ∧ x.2 ≤ d x.1.toNat
instance (d : Nat → Int) (x : It) : Decidable (HasD d x) := by unfold HasD; infer_instance
abbrev nilS : Nat → Value := fun _ => .slice none 0 0
theorem build99 (n : Int) : Try.prog.built 99 [(0, .int .i64 n)] = some (rowsA n nilS nilS) := by kernel_rfl
theorem build101 (n : Int) : Try.prog.built 101 [(0, .int .i64 n)] = some (rowsA n nilS nilS) := by kernel_rfl
theorem rowsAt_new {α : Type} {w : World} {T e k b : Nat} {enc : Option α → List Value} {n : Int} (hb : Blk w b T (rowsA n nilS nilS)) (hn : 0 ≤ n ∧ n ≤ 7) : RowsAt w T e k enc b n (fun _ => []) (fun g => g = b) nilS nilS :=
  ⟨hb, fun _ _ => Sl.nil, fun _ _ => Sl.nil, fun g => ⟨.inl, fun h => h.elim id (fun ⟨_, _, h⟩ => by simp [Value.ownBlock] at h)⟩, fun _ _ => Nat.zero_le _, fun _ _ _ _ _ _ h => by simp [Value.ownBlock] at h, fun _ _ _ _ _ _ h => by simp [Value.ownBlock] at h,
    fun _ _ _ _ _ h => by simp [Value.ownBlock] at h, fun _ _ h => by simp [Value.ownBlock] at h, fun _ _ h => by simp [Value.ownBlock] at h, hn⟩
theorem new43 (n : Int) (w : World) (R : Ending → World → Prop) (hR : ∀ b w', Fr w w' → NewB w w' b → CallRows w' b (min (max n 0) 7) (fun _ => []) (fun g => g = b) nilS nilS → R (.returned (.pointer (some ⟨b, 0, none⟩))) w') :
    Calls Try.prog 43 #[.int .i64 n] w R := by
  have hb := build99 (min (max n 0) 7)
  refine e_enter (n := ⟨8, []⟩) Try.mixed Try.func43 Try.p43 Try.x43 Try.fb43 Try.hx43 Try.ok43 rfl rfl (by simp) ?_; simp only [Try.x43, argEnv, Nat.zero_add, Nat.reduceAdd]
  (refine e_seq fun K1 hK1 => ?_; refine e_region ?_; refine A_assign ?_; refine a_next ?_; refine e_seq fun K1 hK1 => ?_; refine e_region ?_; refine A_move ?_; 
     refine A_max ?_; refine A_min ?_; refine A_build ?_; refine A_box fun b1 w1 hF1 hN1 hB1 => ?_; have hz1 := hF1.size; obtain ⟨hn1, hl1⟩ := hN1; refine A_assign ?_; 
     refine a_next ?_; refine a_ret1 ?_)
  exact hR b1 _ (by exact fr_) ⟨by omega, by omega⟩ (rowsAt_new (by exact blk_) (by omega))
theorem new44 (n : Int) (w : World) (R : Ending → World → Prop) (hR : ∀ b w', Fr w w' → NewB w w' b → BoolRows w' b (min (max n 0) 7) (fun _ => []) (fun g => g = b) nilS nilS → R (.returned (.pointer (some ⟨b, 0, none⟩))) w') :
    Calls Try.prog 44 #[.int .i64 n] w R := by
  have hb := build101 (min (max n 0) 7)
  refine e_enter (n := ⟨8, []⟩) Try.mixed Try.func44 Try.p44 Try.x44 Try.fb44 Try.hx44 Try.ok44 rfl rfl (by simp) ?_; simp only [Try.x44, argEnv, Nat.zero_add, Nat.reduceAdd]
  (refine e_seq fun K1 hK1 => ?_; refine e_region ?_; refine A_assign ?_; refine a_next ?_; refine e_seq fun K1 hK1 => ?_; refine e_region ?_; refine A_move ?_; 
     refine A_max ?_; refine A_min ?_; refine A_build ?_; refine A_box fun b1 w1 hF1 hN1 hB1 => ?_; have hz1 := hF1.size; obtain ⟨hn1, hl1⟩ := hN1; refine A_assign ?_; 
     refine a_next ?_; refine a_ret1 ?_)
  exact hR b1 _ (by exact fr_) ⟨by omega, by omega⟩ (rowsAt_new (by exact blk_) (by omega))
/-! ### What a row says behind a thing is put -/
theorem atR_setR {α : Type} {R : Nat → List (Option α)} {n : Int} {x : It} {v : α} (hg : goodB x.1 x.2 n = true) (y : It) : atR (setR R x v) n y = if y = x then some v else atR R n y := by
  obtain ⟨r, m⟩ := x
  obtain ⟨r', m'⟩ := y
  obtain ⟨g1, g2, g3, g4⟩ := goodB_true hg
  simp only at g1 g2 g3 g4
  unfold atR
  by_cases hy : goodB r' m' n = true
  · obtain ⟨k1, k2, k3, k4⟩ := goodB_true hy
    simp only [hy, if_true]
    simp only [setR, upd]
    by_cases hr : r' = r
    · subst hr
      simp only [if_true]
      rw [List.getElem?_set]
      by_cases hm : m' = m
      · subst hm
        have hlt : m'.toNat - 1 < (padTo (R r'.toNat) m'.toNat).length := by simp [padTo]; omega
        simp [hlt]
      · rw [if_neg (by omega), if_neg (by simp [hm])]
        simp only [padTo]
        by_cases hl : m'.toNat - 1 < (R r'.toNat).length
        · rw [List.getElem?_append_left hl]
        · rw [List.getElem?_append_right (by omega), List.getElem?_eq_none (l := R r'.toNat) (by omega), List.getElem?_replicate]
          split <;> rfl
    · rw [if_neg (by omega), if_neg (by simp [hr])]
  · have hne : (r', m') ≠ (r, m) := by rintro ⟨rfl, rfl⟩; exact hy hg
    simp [hy, hne]
theorem atR_nil {α : Type} (n : Int) (x : It) : atR (fun _ => ([] : List (Option α))) n x = none := by simp [atR]
end Go.Proofs.Ytjocklgihjbaiaa
end
section
/- Items as keys of maps; comparing of structs. -/
namespace Go.Proofs.Ytjocklgihjbaiaa
open Go.RowKit
noncomputable abbrev fdA : Field := (Try.prog.fieldsOf 27)[0]!
noncomputable abbrev fdB : Field := (Try.prog.fieldsOf 27)[1]!
theorem fieldsIt : Try.prog.fieldsOf 27 = #[fdA, fdB] := by kernel_rfl
theorem fdA_t : fdA.type = 3 := by kernel_rfl
theorem fdB_t : fdB.type = 3 := by kernel_rfl
theorem fdA_o : fdA.offset = 0 := by kernel_rfl
theorem fdB_o : fdB.offset = 1 := by kernel_rfl
theorem fdA_n : (fdA.name == "_") = false := by kernel_rfl
theorem fdB_n : (fdB.name == "_") = false := by kernel_rfl
theorem und27 : Try.prog.underlying 27 = some (.struct (Try.prog.fieldsOf 27)) := by kernel_rfl
theorem und3 : Try.prog.underlying 3 = some (.int .i64) := by kernel_rfl
theorem held27 : Try.prog.stoodInHeld 27 = false := by kernel_rfl
theorem grd27 : Try.prog.eqGuardType Try.prog.depth 27 = false := by kernel_rfl
theorem run_part0 (x : It) (w : World) : (part 3 (itA x) 0).run Try.prog w = .ok (.int .i64 x.1) w := by
  have hagg := loadKind_none (P := Try.prog) (t := 3) (by simp only [Try.LK]) w
  simp [part, hagg, itA]
theorem run_part1 (x : It) (w : World) : (part 3 (itA x) 1).run Try.prog w = .ok (.int .i64 x.2) w := by
  have hagg := loadKind_none (P := Try.prog) (t := 3) (by simp only [Try.LK]) w
  simp [part, hagg, itA]
theorem checkKey_int (e : Bool) (n : Nat) (v : Value) (w : World) : (Instr.checkKey e (n + 1) 3 v).run Try.prog w = .ok () w := by
  rw [Instr.checkKey]
  simp only [Sem.run_bind, run_underlying und3, Result.andThen_ok]
  cases v <;> rfl
theorem checkKey_it (e : Bool) (n : Nat) (x : It) (w : World) (hA : ¬ fdA.name = "_") (hB : ¬ fdB.name = "_") : (Instr.checkKey e (n + 2) 27 (itV x)).run Try.prog w = .ok () w := by
  rw [Instr.checkKey]
  simp only [itV, Sem.run_bind, run_underlying und27, Result.andThen_ok, fieldsIt]
  simp [hA, hB, fdA_t, fdB_t, fdA_o, fdB_o, run_part0, run_part1, checkKey_int]
theorem keyIt : KeyTy Try.prog 27 itV where
  eq x y w := by
    have hA : ¬ fdA.name = "_" := by have := fdA_n; simpa using this
    have hB : ¬ fdB.name = "_" := by have := fdB_n; simpa using this
    show (Op.equalIn 10000 27 (.agg (itA x)) (.agg (itA y))).run Try.prog w = _
    rw [run_equalIn_struct w 9999 27 _ _ und27 held27, fieldsIt]
    simp only [Op.eqFields, hA, hB, ne_eq, not_false_eq_true, if_true, fdA_t, fdB_t, fdA_o, fdB_o, Sem.run_bind, run_part0, run_part1, Result.andThen_ok, run_equalIn_int w _ 3 .i64 .i64 _ _ und3]
    by_cases h1 : x.1 = y.1
    · by_cases h2 : x.2 = y.2
      · have : x = y := Prod.ext h1 h2
        simp [this, run_part1, run_equalIn_int w 9998 3 .i64 .i64 _ _ und3]
      · have : x ≠ y := fun e => h2 (by rw [e])
        simp [h1, h2, this, run_part1, run_equalIn_int w 9998 3 .i64 .i64 _ _ und3]
    · have : x ≠ y := fun e => h1 (by rw [e])
      simp [h1, this]
  chk e x w := by
    have hA : ¬ fdA.name = "_" := by have := fdA_n; simpa using this
    have hB : ¬ fdB.name = "_" := by have := fdB_n; simpa using this
    exact checkKey_it e 9998 x w hA hB
  str := ⟨_, und27⟩
  agg x := ⟨_, rfl⟩
  bits x := by simp [Instr.sameBits, itA]
  grd := grd27
end Go.Proofs.Ytjocklgihjbaiaa
end
section
/- Graphs: what lies in memory; Is, Over, Call, New. -/
namespace Go.Proofs.Ytjocklgihjbaiaa
open Go.RowKit
/-- A graph in memory: n replicas; C: the calls that are committed; O: what is done; F: its blocks. -/
structure GraphP (w : World) (b bc bd : Nat) (n : Int) (R : Nat → List (Option CallD)) (D : Nat → List (Option Bool)) (F Fc Fd : Nat → Prop) (rs hs rs' hs' : Nat → Value) : Prop where
  blk : Blk w b 80 #[.pointer (some ⟨bc, 0, none⟩), .pointer (some ⟨bd, 0, none⟩)]
  calls : CallRows w bc n R Fc rs hs
  done : BoolRows w bd n D Fd rs' hs'
  foot : ∀ g, F g ↔ g = b ∨ Fc g ∨ Fd g
  bc : ¬ Fc b
  bd : ¬ Fd b
  cd : ∀ g, Fc g → ¬ Fd g
def GraphAt (w : World) (b : Nat) (n : Int) (C : It → Option CallD) (O : It → Bool) (F : Nat → Prop) : Prop :=
  ∃ bc bd R D Fc Fd rs hs rs' hs', GraphP w b bc bd n R D F Fc Fd rs hs rs' hs' ∧ C = atR R n ∧ O = fun x => (atR D n x).isSome
section
variable {w w' : World} {b : Nat} {n : Int} {C : It → Option CallD} {O : It → Bool} {F : Nat → Prop}
theorem GraphAt.ch {S : Nat → Prop} (h : GraphAt w b n C O F) (hc : Ch S w w') (hn : ∀ g, F g → ¬ S g) : GraphAt w' b n C O F := by
  obtain ⟨bc, bd, R, D, Fc, Fd, rs, hs, rs', hs', h, e1, e2⟩ := h
  exact ⟨bc, bd, R, D, Fc, Fd, rs, hs, rs', hs', { h with
    blk := h.blk.ch hc (hn _ ((h.foot _).2 (.inl rfl)))
    calls := h.calls.ch hc fun g hg => hn g ((h.foot g).2 (.inr (.inl hg)))
    done := h.done.ch hc fun g hg => hn g ((h.foot g).2 (.inr (.inr hg))) }, e1, e2⟩
theorem GraphAt.fr (h : GraphAt w b n C O F) (hF : Fr w w') : GraphAt w' b n C O F := h.ch (hF.ch fun _ => False) fun _ _ h => h
theorem GraphAt.lt (h : GraphAt w b n C O F) {g : Nat} (hg : F g) : g < w.heap.size := by
  obtain ⟨bc, bd, R, D, Fc, Fd, rs, hs, rs', hs', h, e1, e2⟩ := h
  rcases (h.foot g).1 hg with rfl | h1 | h1
  · exact h.blk.lt
  · exact h.calls.lt h1
  · exact h.done.lt h1
theorem GraphAt.good (h : GraphAt w b n C O F) {x : It} (hx : C x ≠ none) : goodB x.1 x.2 n = true := by
  obtain ⟨bc, bd, R, D, Fc, Fd, rs, hs, rs', hs', h, e1, e2⟩ := h
  subst e1
  cases hg : goodB x.1 x.2 n
  · simp [atR, hg] at hx
  · rfl
theorem GraphAt.reps (h : GraphAt w b n C O F) : 0 ≤ n ∧ n ≤ 7 := by
  obtain ⟨bc, bd, R, D, Fc, Fd, rs, hs, rs', hs', h, e1, e2⟩ := h
  exact h.calls.reps
end
section
variable {b : Nat} {n : Int} {C : It → Option CallD} {O : It → Bool} {F : Nat → Prop} (x : It) (w : World) (RR : Ending → World → Prop)
set_option maxRecDepth 10000 in
set_option maxHeartbeats 400000 in
theorem is42 (h : GraphAt w b n C O F) (hR : ∀ w', Fr w w' → RR (.returned (.bool (C x).isSome)) w') : Calls Try.prog 42 #[.pointer (some ⟨b, 0, none⟩), itV x] w RR := by
  obtain ⟨bc, bd, R, D, Fc, Fd, rs, hs, rs', hs', h, rfl, rfl⟩ := h
  have hc : w.cell? ⟨b, 0, none⟩ = some (.pointer (some ⟨bc, 0, none⟩)) := h.blk.cell rfl
  have hsz := callO_size (atR R n x)
  have hone := callO_one (atR R n x)
  refine e_enter (n := ⟨19, []⟩) Try.mixed Try.func42 Try.p42 Try.x42 Try.fb42 Try.hx42 Try.ok42 rfl rfl (by simp) ?_; simp only [Try.x42, argEnv, Nat.zero_add, Nat.reduceAdd]
  (refine e_seq fun K1 hK1 => ?_; refine e_region ?_; refine A_box fun b1 w1 hF1 hN1 hB1 => ?_; have hz1 := hF1.size; obtain ⟨hn1, hl1⟩ := hN1; refine A_assign ?_; 
     refine a_next ?_; refine e_seq fun K1 hK1 => ?_; refine e_seq fun K1 hK1 => ?_; refine e_region ?_; refine A_move ?_; refine A_eqlnil ?_; refine a_next ?_; 
     refine a_false ?_; refine a_nextC ?_; refine e_seq fun K1 hK1 => ?_; refine a_drawn fun w1 hF1 => ?_; have hz1 := hF1.size; refine A_move ?_; refine A_nil ?_; 
     refine A_field ?_; refine A_load ?_; refine A_loadW ?_)
  apply E_fork
  · (with_reducible apply E_call); rfl; exact Try.en46; rfl; intro RR1 hRR1
    refine at46 x n bc _ _ (h.calls.fr (by exact fr_)) fun w2 hF2 => ?_
    have hz2 := hF2.size
    refine hRR1 _ _ (by first | assumption | exact trivial) (Nat.le_of_ble_eq_true rfl) ?_; clear hRR1 RR1
    (refine A_move ?_; refine A_extract ?_; refine A_extract ?_; refine A_alloc fun b1 w1 hF1 hN1 hB1 => ?_; have hz1 := hF1.size; obtain ⟨hn1, hl1⟩ := hN1; 
       refine A_storeW fun w1 hU1 hB1 => ?_; refine A_assign ?_; refine a_next ?_; refine e_seq fun K1 hK1 => ?_; refine e_region ?_; refine A_move ?_; refine A_assign ?_; 
       refine a_next ?_; refine a_ret1 ?_)
    exact hR _ (by exact fr_)
  · (refine A_alloc fun b1 w1 hF1 hN1 hB1 => ?_; have hz1 := hF1.size; obtain ⟨hn1, hl1⟩ := hN1)
    (with_reducible apply E_call); rfl; exact Try.en46; rfl; intro RR1 hRR1
    refine at46 x n bc _ _ (h.calls.fr (by exact fr_)) fun w2 hF2 => ?_
    have hz2 := hF2.size
    refine hRR1 _ _ (by first | assumption | exact trivial) (Nat.le_of_ble_eq_true rfl) ?_; clear hRR1 RR1
    (refine A_move ?_; refine A_extract ?_; refine A_extract ?_; refine A_storeW fun w1 hU1 hB1 => ?_; refine A_assign ?_; refine a_next ?_; refine e_seq fun K1 hK1 => ?_; 
       refine e_region ?_; refine A_move ?_; refine A_assign ?_; refine a_next ?_; refine a_ret1 ?_)
    exact hR _ (by exact fr_)
set_option maxRecDepth 10000 in
set_option maxHeartbeats 400000 in
theorem over41 (h : GraphAt w b n C O F) (hR : ∀ w', Fr w w' → RR (.returned (.bool (O x))) w') : Calls Try.prog 41 #[.pointer (some ⟨b, 0, none⟩), itV x] w RR := by
  obtain ⟨bc, bd, R, D, Fc, Fd, rs, hs, rs', hs', h, rfl, rfl⟩ := h
  have hc : w.cell? ⟨b, 1, none⟩ = some (.pointer (some ⟨bd, 0, none⟩)) := h.blk.cell rfl
  refine e_enter (n := ⟨19, []⟩) Try.mixed Try.func41 Try.p41 Try.x41 Try.fb41 Try.hx41 Try.ok41 rfl rfl (by simp) ?_; simp only [Try.x41, argEnv, Nat.zero_add, Nat.reduceAdd]
  (refine e_seq fun K1 hK1 => ?_; refine e_region ?_; refine A_box fun b1 w1 hF1 hN1 hB1 => ?_; have hz1 := hF1.size; obtain ⟨hn1, hl1⟩ := hN1; refine A_assign ?_; 
     refine a_next ?_; refine e_seq fun K1 hK1 => ?_; refine e_seq fun K1 hK1 => ?_; refine e_region ?_; refine A_move ?_; refine A_eqlnil ?_; refine a_next ?_; 
     refine a_false ?_; refine a_nextC ?_; refine e_seq fun K1 hK1 => ?_; refine a_drawn fun w1 hF1 => ?_; have hz1 := hF1.size; refine A_move ?_; refine A_nil ?_; 
     refine A_field ?_; refine A_load ?_; refine A_loadW ?_)
  (with_reducible apply E_call); rfl; exact Try.en56; rfl; intro RR1 hRR1
  refine at56 x n bd _ _ (h.done.fr (by exact fr_)) fun w2 hF2 => ?_
  have hz2 := hF2.size
  refine hRR1 _ _ (by first | assumption | exact trivial) (Nat.le_of_ble_eq_true rfl) ?_; clear hRR1 RR1
  (refine A_move ?_; refine A_extract ?_; refine A_extract ?_; refine A_assign ?_; refine A_assign ?_; refine a_next ?_; refine e_seq fun K1 hK1 => ?_; refine e_region ?_; 
     refine A_move ?_; refine A_assign ?_; refine a_next ?_; refine a_ret1 ?_)
  exact hR _ (by exact fr_)
set_option maxRecDepth 10000 in
set_option maxHeartbeats 400000 in
theorem call36 (h : GraphAt w b n C O F) (hR : ∀ w', Fr w w' → RR (.returned (.tuple #[.agg (callO (C x)), .bool (C x).isSome])) w') : Calls Try.prog 36 #[.pointer (some ⟨b, 0, none⟩), itV x] w RR := by
  obtain ⟨bc, bd, R, D, Fc, Fd, rs, hs, rs', hs', h, rfl, rfl⟩ := h
  have hc : w.cell? ⟨b, 0, none⟩ = some (.pointer (some ⟨bc, 0, none⟩)) := h.blk.cell rfl
  have hsz := callO_size (atR R n x)
  have hone := callO_one (atR R n x)
  refine e_enter (n := ⟨17, []⟩) Try.mixed Try.func36 Try.p36 Try.x36 Try.fb36 Try.hx36 Try.ok36 rfl rfl (by simp) ?_; simp only [Try.x36, argEnv, Nat.zero_add, Nat.reduceAdd]
  (refine e_seq fun K1 hK1 => ?_; refine e_region ?_; refine A_box fun b1 w1 hF1 hN1 hB1 => ?_; have hz1 := hF1.size; obtain ⟨hn1, hl1⟩ := hN1; 
     refine A_alloc fun b1 w1 hF1 hN1 hB1 => ?_; have hz1 := hF1.size; obtain ⟨hn1, hl1⟩ := hN1; refine A_assign ?_; refine a_next ?_; refine e_seq fun K1 hK1 => ?_; 
     refine e_seq fun K1 hK1 => ?_; refine e_region ?_; refine A_move ?_; refine A_eqlnil ?_; refine a_next ?_; refine a_false ?_; refine a_nextC ?_; 
     refine e_seq fun K1 hK1 => ?_; refine a_drawn fun w1 hF1 => ?_; have hz1 := hF1.size; refine A_move ?_; refine A_nil ?_; refine A_field ?_; refine A_load ?_; 
     refine A_loadW ?_)
  (with_reducible apply E_call); rfl; exact Try.en46; rfl; intro RR1 hRR1
  refine at46 x n bc _ _ (h.calls.fr (by exact fr_)) fun w2 hF2 => ?_
  have hz2 := hF2.size
  refine hRR1 _ _ (by first | assumption | exact trivial) (Nat.le_of_ble_eq_true rfl) ?_; clear hRR1 RR1
  (refine A_extract ?_; refine A_extract ?_; refine A_storeW fun w1 hU1 hB1 => ?_; refine A_assign ?_; refine a_next ?_; refine a_retB ?_)
  exact hR _ (by exact fr_)
set_option maxRecDepth 10000 in
theorem new25 (k : Int) (hR : ∀ b w' F, Fr w w' → GraphAt w' b (min (max k 0) 7) (fun _ => none) (fun _ => false) F → (∀ g, F g → w.heap.size ≤ g) → RR (.returned (.pointer (some ⟨b, 0, none⟩))) w') : Calls Try.prog 25 #[.int .i64 k] w RR := by
  refine e_enter (n := ⟨9, []⟩) Try.mixed Try.func25 Try.p25 Try.x25 Try.fb25 Try.hx25 Try.ok25 rfl rfl (by simp) ?_; simp only [Try.x25, argEnv, Nat.zero_add, Nat.reduceAdd]
  (refine e_seq fun K1 hK1 => ?_; refine e_region ?_; refine A_assign ?_; refine a_next ?_; refine e_seq fun K1 hK1 => ?_; refine e_region ?_; refine A_move ?_)
  (with_reducible apply E_call); rfl; exact Try.en43; rfl; intro RR1 hRR1
  refine new43 _ _ _ fun bc w2 hF2 hN2 h2 => ?_
  have hz2 := hF2.size
  refine hRR1 _ _ (by first | assumption | exact trivial) (Nat.le_of_ble_eq_true rfl) ?_; clear hRR1 RR1
  refine A_move ?_
  (with_reducible apply E_call); rfl; exact Try.en44; rfl; intro RR1 hRR1
  refine new44 _ _ _ fun bd w3 hF3 hN3 h3 => ?_
  have hz3 := hF3.size
  refine hRR1 _ _ (by first | assumption | exact trivial) (Nat.le_of_ble_eq_true rfl) ?_; clear hRR1 RR1
  have hb : Try.prog.built 80 [(0, .pointer (some ⟨bc, 0, none⟩)), (1, .pointer (some ⟨bd, 0, none⟩))] = some #[.pointer (some ⟨bc, 0, none⟩), .pointer (some ⟨bd, 0, none⟩)] := by kernel_rfl
  (refine A_build ?_; refine A_box fun b1 w1 hF1 hN1 hB1 => ?_; have hz1 := hF1.size; obtain ⟨hn1, hl1⟩ := hN1; refine A_assign ?_; refine a_next ?_; refine a_ret1 ?_)
  have hlb : bc < w2.heap.size := hN2.2
  have hlc := hN2.1
  have hld : bd < w3.heap.size := hN3.2
  have hle := hN3.1
  refine hR b1 _ (fun g => g = b1 ∨ g = bc ∨ g = bd) (by exact fr_) ⟨bc, bd, _, _, _, _, _, _, _, _, ⟨(by exact blk_), h2.fr (by exact fr_), h3.fr (by exact fr_), fun _ => Iff.rfl, (fun e => by omega), (fun e => by omega), (fun g e => by omega)⟩, by funext x; rw [atR_nil], by funext x; rw [atR_nil]; rfl⟩ (by rintro g (rfl | rfl | rfl) <;> omega)
end
end Go.Proofs.Ytjocklgihjbaiaa
end
section
/- Set, of bools. -/
namespace Go.Proofs.Ytjocklgihjbaiaa
open Go.RowKit
set_option maxRecDepth 10000 in
set_option maxHeartbeats 1000000 in
theorem set70_ok (r m : Int) (c : Bool) (n : Int) (b : Nat) (w : World) (RR : Ending → World → Prop) {R : Nat → List (Option Bool)} {F : Nat → Prop} {rs hs : Nat → Value} (h : BoolRows w b n R F rs hs) (hg : goodB r m n = true)
    (hR : ∀ w' F' rs' hs', BoolRows w' b n (setR R (r, m) c) F' rs' hs' → (∀ g, F' g → F g ∨ w.heap.size ≤ g) → Ch F w w' → RR (.returned (.bool true)) w') :
    Calls Try.prog 70 #[.pointer (some ⟨b, 0, none⟩), .agg #[.int .i64 r, .int .i64 m], .bool c] w RR := by
  obtain ⟨g1, g2, g3, g4⟩ := goodB_true hg
  have h7 := h.reps.2
  have hr7 : r.toNat < 7 := by omega
  have hn : w.cell? ⟨b, 0, none⟩ = some (.int .i64 n) := h.blk.cell rfl
  refine e_enter (n := ⟨84, []⟩) Try.mixed Try.func70 Try.p70 Try.x70 Try.fb70 Try.hx70 Try.ok70 rfl rfl (by simp) ?_; simp only [Try.x70, argEnv, Nat.zero_add, Nat.reduceAdd]
  (refine e_seq fun K1 hK1 => ?_; refine e_region ?_; refine A_box fun b1 w1 hF1 hN1 hB1 => ?_; have hz1 := hF1.size; obtain ⟨hn1, hl1⟩ := hN1; refine A_assign ?_; 
     refine a_next ?_; refine e_seq fun K1 hK1 => ?_; refine e_seq fun K1 hK1 => ?_; refine a_drawn fun w1 hF1 => ?_; have hz1 := hF1.size; refine A_move ?_; 
     refine A_eqlnil ?_; refine A_move ?_; refine A_want ?_; refine A_move ?_; refine A_want ?_; refine A_nil ?_; refine A_want ?_; refine A_field ?_; refine A_want ?_; 
     refine A_loadW ?_; refine A_want ?_; refine A_load ?_; refine A_want ?_)
  (with_reducible apply E_call); rfl; exact Try.en57; rfl; intro RR1 hRR1
  refine good57 _ _ _ _ _ fun w2 hF2 => ?_
  have hz2 := hF2.size
  refine hRR1 _ _ (by first | assumption | exact trivial) (Nat.le_of_ble_eq_true rfl) ?_; clear hRR1 RR1
  rw [hg]
  (refine A_want ?_; refine A_not ?_; refine A_pick_f ?_; refine a_next ?_; refine a_false ?_; refine a_nextC ?_; refine e_seq fun K1 hK1 => ?_; refine e_block ?_)
  rename_i K2 hK2 w5 hF5 hz5 K3 hK3 K4 hK4
  have hB4' : Blk w2 b1 27 #[.int .i64 r, .int .i64 m] := by exact blk_
  have hFw : Fr w w2 := by exact fr_
  refine e_loop Try.mixed Try.p70 Try.lp70bbaa Try.hx70bbaal Try.ok70bbaal (fun _ : Nat => [(0, .pointer (some ⟨b, 0, none⟩)), (4, .pointer (some ⟨b1, 0, none⟩)), (2, .bool c)])
    (fun k w' => ∃ F' rs' hs', BoolRows w' b n (upd R r.toNat (R r.toNat ++ List.replicate k none)) F' rs' hs' ∧ (∀ g, F' g → F g ∨ w.heap.size ≤ g) ∧ Ch F w w' ∧ Blk w' b1 27 #[.int .i64 r, .int .i64 m] ∧
      ¬ F' b1 ∧ (k = 0 ∨ (R r.toNat).length + k ≤ m.toNat)) (fun k => m.toNat - ((R r.toNat).length + k)) 0 (by exact sub_)
    ⟨F, rs, hs, by rw [List.replicate_zero, List.append_nil, upd_self]; exact h.fr hFw, fun g hg => .inl hg, hFw.ch F, hB4', (fun hf => by have := h.lt hf; omega), .inl rfl⟩ ?_
  rintro k w3 ⟨F', rs', hs', h3, hF', hCh, hB43, hf4, hk⟩
  have hrow := h3.row _ hr7
  have hhas := h3.has _ hr7
  have hshort := h3.short _ hr7
  rw [upd_same] at hrow hhas hshort
  obtain ⟨L, hL⟩ : ∃ L, L = (R r.toNat ++ List.replicate k none).length := ⟨_, rfl⟩
  have hL' : L = (R r.toNat).length + k := by rw [hL]; simp
  have hrowS := hrow
  have hhasS := hhas
  unfold Sl at hrow hhas
  rw [← hL] at hrow hhas hshort
  obtain ⟨cs, hcs⟩ : ∃ cs, cs = cellsOf boolL (R r.toNat ++ List.replicate k none) := ⟨_, rfl⟩
  obtain ⟨cs', hcs'⟩ : ∃ cs, cs = cellsOf hasL (R r.toNat ++ List.replicate k none) := ⟨_, rfl⟩
  rw [← hcs] at hrow
  rw [← hcs'] at hhas
  obtain ⟨p, cap, hv⟩ := hrow.value
  obtain ⟨p', cap', hv'⟩ := hhas.value
  have hcr := h3.blk.cell (rowsA_r n rs' hs' r.toNat hr7)
  have hch := h3.blk.cell (rowsA_h n rs' hs' r.toNat hr7)
  have hrb := h3.rb _ hr7
  have hhb := h3.hb _ hr7
  have hrh := h3.rh r.toNat r.toNat
  have hr4 : (rs' r.toNat).ownBlock ≠ some b1 := fun hg => hf4 ((h3.foot _).2 (.inr ⟨_, hr7, .inl hg⟩))
  have hh4 : (hs' r.toNat).ownBlock ≠ some b1 := fun hg => hf4 ((h3.foot _).2 (.inr ⟨_, hr7, .inr hg⟩))
  have hb1 : b1 ≠ b := fun e => hf4 ((h3.foot _).2 (.inl e))
  have hlr : ∀ g, (rs' r.toNat).ownBlock = some g → g < w3.heap.size := fun g hg => hrow.lt hg
  have hlh : ∀ g, (hs' r.toNat).ownBlock = some g → g < w3.heap.size := fun g hg => hhas.lt hg
  have hcx : w3.cell? ⟨b1, 0, none⟩ = some (.int .i64 r) := hB43.cell rfl
  have hcy : w3.cell? ⟨b1, 1, none⟩ = some (.int .i64 m) := hB43.cell rfl
  have hb3 := h3.blk.lt
  have hblk3 := h3.blk
  have fin : ∀ w' v' v'', (L : Int) < m → Blk w' b 101 (((rowsA n rs' hs').setIfInBounds (1 + r.toNat) v').setIfInBounds (8 + r.toNat) v'') → Row w' 4 1 v' (L + 1) (cs ++ [.bool false]) → Row w' 4 1 v'' (L + 1) (cs' ++ [.bool false]) →
      Ch (fun g => g = b ∨ (rs' r.toNat).ownBlock = some g ∨ (hs' r.toNat).ownBlock = some g) w3 w' → (∀ g, v'.ownBlock = some g → (rs' r.toNat).ownBlock = some g ∨ w3.heap.size ≤ g) →
      (∀ g, v''.ownBlock = some g → (hs' r.toNat).ownBlock = some g ∨ w3.heap.size ≤ g) → (∀ g, v'.ownBlock = some g → v''.ownBlock ≠ some g) →
      ∃ F' rs' hs', BoolRows w' b n (upd R r.toNat (R r.toNat ++ List.replicate (k + 1) none)) F' rs' hs' ∧ (∀ g, F' g → F g ∨ w.heap.size ≤ g) ∧ Ch F w w' ∧ Blk w' b1 27 #[.int .i64 r, .int .i64 m] ∧
        ¬ F' b1 ∧ (k + 1 = 0 ∨ (R r.toNat).length + (k + 1) ≤ m.toNat) := by
    intro w' v' v'' hlt hblk hro hha hcc ho1 ho2 ho12
    rw [rowsA_upd1 n rs' hs' _ hr7, rowsA_upd2 n _ hs' _ hr7] at hblk
    have hz := hCh.size
    have e : (R r.toNat ++ List.replicate (k + 1) none).length = L + 1 := by simp [hL']; omega
    obtain ⟨F'', a1, a2, a3⟩ := h3.turn hr7 (l := R r.toNat ++ List.replicate (k + 1) none) (by rw [e]; omega) hblk
      (by unfold Sl; rw [e, List.replicate_succ', ← List.append_assoc, cellsOf_append, ← hcs]; exact hro) (by unfold Sl; rw [e, List.replicate_succ', ← List.append_assoc, cellsOf_append, ← hcs']; exact hha) hcc ho1 ho2 ho12
    rw [upd_upd] at a1
    exact ⟨F'', _, _, a1, fun g hg => (a2 g hg).elim (hF' g) (fun h => .inr (by omega)), hCh.more a3 (fun i hi hg => (hF' i hg).resolve_right (by omega)), hB43.ch a3 hf4,
      fun hg => (a2 _ hg).elim hf4 (fun h => by have := hB43.lt; omega), .inr (by omega)⟩
  clear hcs hcs'
  simp only [Try.x70bbaal]
  rw [hv] at hrow hcr hrb hr4 hlr hrh fin
  rw [hv'] at hhas hch hhb hh4 hlh hrh fin
  have hrh' := fun g => hrh g hr7 hr7
  have tail : ∀ X w8 Y w9 w10 w11 p8 c8 p9 c9, (L : Int) < m → Fr w3 X → Ch (fun g => (Value.slice p L cap).ownBlock = some g) X w8 → Row w8 4 1 (.slice p8 (L + 1) c8) (L + 1) (cs ++ [.bool false]) →
      (∀ g, (Value.slice p8 (L + 1) c8).ownBlock = some g → (Value.slice p L cap).ownBlock = some g ∨ X.heap.size ≤ g) → Fr w8 Y → Ch (fun g => (Value.slice p' L cap').ownBlock = some g) Y w9 →
      Row w9 4 1 (.slice p9 (L + 1) c9) (L + 1) (cs' ++ [.bool false]) → (∀ g, (Value.slice p9 (L + 1) c9).ownBlock = some g → (Value.slice p' L cap').ownBlock = some g ∨ Y.heap.size ≤ g) → Upd b w9 w10 → Upd b w10 w11 →
      Blk w11 b 101 (((rowsA n rs' hs').setIfInBounds (1 + r.toNat) (.slice p8 (L + 1) c8)).setIfInBounds (8 + r.toNat) (.slice p9 (L + 1) c9)) →
      ∃ F' rs' hs', BoolRows w11 b n (upd R r.toNat (R r.toNat ++ List.replicate (k + 1) none)) F' rs' hs' ∧ (∀ g, F' g → F g ∨ w.heap.size ≤ g) ∧ Ch F w w11 ∧ Blk w11 b1 27 #[.int .i64 r, .int .i64 m] ∧
        ¬ F' b1 ∧ (k + 1 = 0 ∨ (R r.toNat).length + (k + 1) ≤ m.toNat) := by
    intro X w8 Y w9 w10 w11 p8 c8 p9 c9 hlt hFX hC8 hR8 hO8 hFY hC9 hR9 hO9 hU10 hU11 hB11
    have z1 := hFX.size
    have z2 := hC8.size
    have z3 := hFY.size
    have hl8 : ∀ g, (Value.slice p8 (L + 1) c8).ownBlock = some g → g < w8.heap.size := fun g hg => hR8.lt hg
    have n8 : ∀ g, (Value.slice p8 (L + 1) c8).ownBlock = some g → (Value.slice p' L cap').ownBlock ≠ some g := fun g hg hg' => (hO8 g hg).elim (fun h => hrh' g h hg') (fun h => by have := hlh g hg'; omega)
    have nb8 : (Value.slice p8 (L + 1) c8).ownBlock ≠ some b := fun hg => (hO8 b hg).elim hrb (fun h => by omega)
    have nb9 : (Value.slice p9 (L + 1) c9).ownBlock ≠ some b := fun hg => (hO9 b hg).elim hhb (fun h => by omega)
    refine fin w11 _ _ hlt hB11 (((((hR8.fr hFY).ch hC9 fun g hg => n8 g hg).ch hU10.ch fun g hg e => nb8 (e ▸ hg))).ch hU11.ch fun g hg e => nb8 (e ▸ hg)) ((hR9.ch hU10.ch fun g hg e => nb9 (e ▸ hg)).ch hU11.ch fun g hg e => nb9 (e ▸ hg))
      (((((hFX.ch _).trans (hC8.mono fun _ _ h => .inr (.inl h))).trans (hFY.ch _)).trans (hC9.mono fun _ _ h => .inr (.inr h))).trans ((hU10.ch.mono fun _ _ h => .inl h).trans (hU11.ch.mono fun _ _ h => .inl h)))
      (fun g hg => (hO8 g hg).imp id (fun h => by omega)) (fun g hg => (hO9 g hg).imp id (fun h => by omega)) (fun g hg hg' => ?_)
    rcases hO9 g hg' with h | h
    · exact n8 g hg h
    · have := hl8 g hg; omega
  by_cases hlt : (L : Int) < m
  · (refine e_seq fun K1 hK1 => ?_; refine e_seq fun K1 hK1 => ?_)
    ((with_reducible apply e_drawn); (focus (intro _ _ _ d1 _ h1; cases d1 <;> exact h1)); intro w1 hF1; have hz1 := hF1.size)
    (refine A_move ?_; refine A_field ?_; refine A_nil ?_; refine A_field ?_; refine A_field ?_; refine A_load ?_; refine A_idxA ?_; refine A_load ?_; refine A_lenS ?_; 
       refine A_load ?_; refine A_lss ?_; refine a_next ?_; refine a_true ?_; refine a_nextC ?_; refine e_block ?_; refine e_seq fun K1 hK1 => ?_; refine e_region ?_; 
       refine A_assign ?_; refine a_next ?_)
    refine e_drawnR (chcRel (fun g => (Value.slice p L cap).ownBlock = some g ∨ (Value.slice p' L cap').ownBlock = some g) b (1 + r.toNat)) (by intro _ _ _ d1 _ h1; cases d1 <;> exact h1) fun w5 hF5 => ?_
    have hz5 := hF5.size
    have k1 : (chcRel (fun g => (Value.slice p L cap).ownBlock = some g ∨ (Value.slice p' L cap').ownBlock = some g) b (1 + r.toNat)).keeps .weak ⟨b1, 0, none⟩ := .inl ⟨hb1, fun h => h.elim hr4 hh4⟩
    have k2 : (chcRel (fun g => (Value.slice p L cap).ownBlock = some g ∨ (Value.slice p' L cap').ownBlock = some g) b (1 + r.toNat)).keeps .weak ⟨b, 8 + r.toNat, none⟩ := .inr ⟨rfl, by show 8 + r.toNat ≠ 1 + r.toNat; omega, rfl⟩
    (refine A_move ?_; refine A_field ?_; refine A_move ?_; refine A_field ?_; refine A_move ?_; refine A_field ?_; refine A_nil ?_; refine A_field ?_; refine A_move ?_; 
       refine A_move ?_; refine A_field ?_; refine A_nil ?_; refine A_field ?_; refine A_nil ?_; refine A_field ?_; refine A_nil ?_; refine A_field ?_; refine A_load ?_; 
       refine A_load ?_; refine A_load ?_; refine A_idxA ?_; refine A_load ?_; refine A_load ?_; refine A_idxA ?_; refine A_load ?_)
    apply E_fork
    · refine E_lit1 rfl rfl sty23 rfl (by decide) ?_; intro b6 w6 hF6 hN6 hB6; have hz6 := hF6.size; obtain ⟨hn6, hl6⟩ := hN6
      apply E_fork
      · have hFX : Fr w3 w6 := by exact fr_
        have hXA := hB6
        refine E_append (v := .slice p L cap) (m := L) (xs := cs) (news := [.bool false]) rfl rfl rfl sty23 (hrow.fr hFX) rfl (Blk.range (cs := #[.bool false]) hXA) (by decide) (by omega) (by omega) (fun _ hc => hc.chc (fun g hg => .inl hg) hrb) (by decide) ?_; intro v8 w8 hC8 hR8 hO8; obtain ⟨p8, c8, rfl⟩ := Row.value hR8; have hz8 := hC8.size; have hhas8 := Row.ch (hhas.fr hFX) hC8 (fun g hg h' => hrh' g h' hg); have hblk8 := Blk.ch (hblk3.fr hFX) hC8 hrb
        refine E_lit1 rfl rfl sty23 rfl (by decide) ?_; intro b7 w7 hF7 hN7 hB7; have hz7 := hF7.size; obtain ⟨hn7, hl7⟩ := hN7
        have hFY : Fr w8 w7 := hF7
        have hXB : Blk w7 b7 4 #[.bool false] := hB7
        refine E_append (v := .slice p' L cap') (m := L) (xs := cs') (news := [.bool false]) rfl rfl rfl sty23 (hhas8.fr hFY) rfl (Blk.range hXB) (by decide) (by omega) (by omega) (fun _ hc => hc.chc (fun g hg => .inr hg) hhb) (by decide) ?_; intro v9 w9 hC9 hR9 hO9; obtain ⟨p9, c9, rfl⟩ := Row.value hR9; have hz9 := hC9.size; have hblk9 := Blk.ch (hblk8.fr hFY) hC9 hhb
        refine A_idxA ?_
        refine E_store1 (o := 1 + r.toNat) rfl (fun _ h1 h2 => chc_store hblk9 h1 h2) rfl rfl hblk9 (by simp only [Try.SI]) rfl (by show 1 + r.toNat < 15; omega) ?_; intro w10 hU10 hB10
        refine A_idxA ?_
        refine E_store1 (o := 8 + r.toNat) rfl (fun _ _ _ => trivial) rfl rfl hB10 (by simp only [Try.SI]) rfl (by rw [Array.size_setIfInBounds]; show 8 + r.toNat < 15; omega) ?_; intro w11 hU11 hB11
        (refine e_norm_nil ?_; refine e_norm_block ?_)
        exact e_againN (k + 1) (by omega) (tail _ _ _ _ _ _ _ _ _ _ hlt hFX hC8 hR8 hO8 hFY hC9 hR9 hO9 hU10 hU11 hB11) rfl (by exact sub_)
      · refine E_lit1 rfl rfl sty23 rfl (by decide) ?_; intro b7 w7 hF7 hN7 hB7; have hz7 := hF7.size; obtain ⟨hn7, hl7⟩ := hN7
        have hFX : Fr w3 w7 := by exact fr_
        have hXA := hB6.fr hF7
        refine E_append (v := .slice p L cap) (m := L) (xs := cs) (news := [.bool false]) rfl rfl rfl sty23 (hrow.fr hFX) rfl (Blk.range (cs := #[.bool false]) hXA) (by decide) (by omega) (by omega) (fun _ hc => hc.chc (fun g hg => .inl hg) hrb) (by decide) ?_; intro v8 w8 hC8 hR8 hO8; obtain ⟨p8, c8, rfl⟩ := Row.value hR8; have hz8 := hC8.size; have hhas8 := Row.ch (hhas.fr hFX) hC8 (fun g hg h' => hrh' g h' hg); have hblk8 := Blk.ch (hblk3.fr hFX) hC8 hrb
        have hFY : Fr w8 w8 := Fr.refl _
        have hXB : Blk w8 b7 4 #[.bool false] := Blk.ch hB7 hC8 (fun h => by have := hlr _ h; have := hFX.size; omega)
        refine E_append (v := .slice p' L cap') (m := L) (xs := cs') (news := [.bool false]) rfl rfl rfl sty23 (hhas8.fr hFY) rfl (Blk.range hXB) (by decide) (by omega) (by omega) (fun _ hc => hc.chc (fun g hg => .inr hg) hhb) (by decide) ?_; intro v9 w9 hC9 hR9 hO9; obtain ⟨p9, c9, rfl⟩ := Row.value hR9; have hz9 := hC9.size; have hblk9 := Blk.ch (hblk8.fr hFY) hC9 hhb
        refine A_idxA ?_
        refine E_store1 (o := 1 + r.toNat) rfl (fun _ h1 h2 => chc_store hblk9 h1 h2) rfl rfl hblk9 (by simp only [Try.SI]) rfl (by show 1 + r.toNat < 15; omega) ?_; intro w10 hU10 hB10
        refine A_idxA ?_
        refine E_store1 (o := 8 + r.toNat) rfl (fun _ _ _ => trivial) rfl rfl hB10 (by simp only [Try.SI]) rfl (by rw [Array.size_setIfInBounds]; show 8 + r.toNat < 15; omega) ?_; intro w11 hU11 hB11
        (refine e_norm_nil ?_; refine e_norm_block ?_)
        exact e_againN (k + 1) (by omega) (tail _ _ _ _ _ _ _ _ _ _ hlt hFX hC8 hR8 hO8 hFY hC9 hR9 hO9 hU10 hU11 hB11) rfl (by exact sub_)
    · refine E_lit1 rfl rfl sty23 rfl (by decide) ?_; intro b7 w7 hF7 hN7 hB7; have hz7 := hF7.size; obtain ⟨hn7, hl7⟩ := hN7
      refine E_lit1 rfl rfl sty23 rfl (by decide) ?_; intro b6 w6 hF6 hN6 hB6; have hz6 := hF6.size; obtain ⟨hn6, hl6⟩ := hN6
      have hFX : Fr w3 w6 := by exact fr_
      have hXA := hB6
      refine E_append (v := .slice p L cap) (m := L) (xs := cs) (news := [.bool false]) rfl rfl rfl sty23 (hrow.fr hFX) rfl (Blk.range (cs := #[.bool false]) hXA) (by decide) (by omega) (by omega) (fun _ hc => hc.chc (fun g hg => .inl hg) hrb) (by decide) ?_; intro v8 w8 hC8 hR8 hO8; obtain ⟨p8, c8, rfl⟩ := Row.value hR8; have hz8 := hC8.size; have hhas8 := Row.ch (hhas.fr hFX) hC8 (fun g hg h' => hrh' g h' hg); have hblk8 := Blk.ch (hblk3.fr hFX) hC8 hrb
      have hFY : Fr w8 w8 := Fr.refl _
      have hXB : Blk w8 b7 4 #[.bool false] := Blk.ch (hB7.fr hF6) hC8 (fun h => by have := hlr _ h; omega)
      refine E_append (v := .slice p' L cap') (m := L) (xs := cs') (news := [.bool false]) rfl rfl rfl sty23 (hhas8.fr hFY) rfl (Blk.range hXB) (by decide) (by omega) (by omega) (fun _ hc => hc.chc (fun g hg => .inr hg) hhb) (by decide) ?_; intro v9 w9 hC9 hR9 hO9; obtain ⟨p9, c9, rfl⟩ := Row.value hR9; have hz9 := hC9.size; have hblk9 := Blk.ch (hblk8.fr hFY) hC9 hhb
      refine A_idxA ?_
      refine E_store1 (o := 1 + r.toNat) rfl (fun _ h1 h2 => chc_store hblk9 h1 h2) rfl rfl hblk9 (by simp only [Try.SI]) rfl (by show 1 + r.toNat < 15; omega) ?_; intro w10 hU10 hB10
      refine A_idxA ?_
      refine E_store1 (o := 8 + r.toNat) rfl (fun _ _ _ => trivial) rfl rfl hB10 (by simp only [Try.SI]) rfl (by rw [Array.size_setIfInBounds]; show 8 + r.toNat < 15; omega) ?_; intro w11 hU11 hB11
      (refine e_norm_nil ?_; refine e_norm_block ?_)
      exact e_againN (k + 1) (by omega) (tail _ _ _ _ _ _ _ _ _ _ hlt hFX hC8 hR8 hO8 hFY hC9 hR9 hO9 hU10 hU11 hB11) rfl (by exact sub_)
  · have hml : m = (L : Int) ∨ (L : Int) = (R r.toNat).length ∧ m ≤ L := by omega
    have hlm : (m - 1).toNat < L := by omega
    obtain ⟨ga, capa, cura, hve, hba, hfita, hputa⟩ := Sl.put hrowS boolL_len (i := (m - 1).toNat) (by rw [← hL]; exact hlm) (some c)
    obtain ⟨gb, capb, curb, hve', hbb, hfitb, hputb⟩ := Sl.put hhasS hasL_len (i := (m - 1).toNat) (by rw [← hL]; exact hlm) (some c)
    rw [hv, ← hL] at hve
    rw [hv', ← hL] at hve'
    injection hve with e1 _ e2
    injection hve' with e3 _ e4
    subst e1 e2 e3 e4
    rw [Nat.mul_one] at hfita hputa hfitb hputb
    have hab : ga ≠ gb := fun e => hrh' ga rfl (by rw [e]; rfl)
    have hra : gb ≠ ga := Ne.symm hab
    (refine e_seq fun K1 hK1 => ?_; refine e_seq fun K1 hK1 => ?_)
    ((with_reducible apply e_drawn); (focus (intro _ _ _ d1 _ h1; cases d1 <;> exact h1)); intro w1 hF1; have hz1 := hF1.size)
    (refine A_move ?_; refine A_field ?_; refine A_nil ?_; refine A_field ?_; refine A_field ?_; refine A_load ?_; refine A_idxA ?_; refine A_load ?_; refine A_lenS ?_; 
       refine A_load ?_; refine A_lss ?_; refine a_next ?_; refine a_false ?_; refine e_exit_then ?_; refine e_exit_then ?_; refine e_exit_here ?_; refine a_norm_then ?_; 
       refine e_seq fun K1 hK1 => ?_)
    refine e_drawnR (chRel (fun g => g = ga)) (by intro _ _ _ d1 _ h1; cases d1 <;> exact h1) fun w5 hF5 => ?_
    have hz5 := hF5.size
    have hk1 : (chRel (fun g => g = ga)).keeps .weak ⟨b1, 1, none⟩ := fun e => hr4 (by rw [show b1 = ga from e]; rfl)
    (refine A_move ?_; refine A_field ?_; refine A_nil ?_; refine A_field ?_; refine A_field ?_; refine A_move ?_; refine A_field ?_; refine A_nil ?_; refine A_field ?_; 
       refine A_field ?_; refine A_move ?_; refine A_load ?_; refine A_idxA ?_; refine A_load ?_; refine A_load ?_; refine A_sub ?_; refine A_load ?_; refine A_idxA ?_; 
       refine A_load ?_; refine A_idxS ?_; refine A_load ?_; refine A_sub ?_)
    have hFX : Fr w3 w5 := by exact fr_
    refine E_store (o := (m - 1).toNat) rfl (fun _ hU _ => hU.ch) rfl rfl (hba.fr hFX) (by simp only [Try.SI]; rfl) (by show (#[Value.bool c] : Array Value).all _ = true; rw [← Array.all_toList]; rfl) hfita rfl ?_
    intro w6 hU6 hB6
    refine A_idxS ?_
    refine E_store (o := (m - 1).toNat) rfl (fun _ _ _ => trivial) rfl rfl ((hbb.fr hFX).upd hU6 hra) (by simp only [Try.SI]; rfl) (by show (#[Value.bool true] : Array Value).all _ = true; rw [← Array.all_toList]; rfl) hfitb rfl ?_
    intro w7 hU7 hB7
    (refine a_next ?_; refine e_seq fun K1 hK1 => ?_; refine e_region ?_; refine A_assign ?_; refine a_next ?_; refine a_ret1 ?_)
    have hS1 := (hputa w6 hB6).ch hU7.ch (fun g hg e => hab (by rw [← e]; rw [hv] at hg; injection hg))
    have hS2 := hputb w7 hB7
    have hlen : ((R r.toNat ++ List.replicate k none).set (m - 1).toNat (some c)).length ≤ 64 := by rw [List.length_set, ← hL]; exact hshort
    have hba' := hrb
    obtain ⟨F'', a1, a2, a3⟩ := h3.turn hr7 (v' := rs' r.toNat) (v'' := hs' r.toNat) hlen (by
        rw [upd_self, upd_self]
        exact ((hblk3.fr hFX).upd hU6 (fun e => hrb (by rw [e]; rfl))).upd hU7 (fun e => hhb (by rw [e]; rfl))) hS1 hS2
      (((hFX.ch _).trans (hU6.ch.mono fun g _ e => .inr (.inl (by rw [hv, e]; rfl)))).trans (hU7.ch.mono fun g _ e => .inr (.inr (by rw [hv', e]; rfl))))
      (fun g hg => .inl hg) (fun g hg => .inl hg) (fun g => by rw [hv, hv']; exact hrh' g)
    rw [upd_upd, upd_self, upd_self] at a1
    have hz := hCh.size
    refine hR w7 F'' rs' hs' ?_ (fun g hg => (a2 g hg).elim (hF' g) (fun h => .inr (by omega))) (hCh.more a3 (fun i hi hg => (hF' i hg).resolve_right (by omega)))
    have e : padTo (R r.toNat) m.toNat = R r.toNat ++ List.replicate k none := by
      unfold padTo
      congr 2
      omega
    unfold setR
    simp only
    rw [e, show m.toNat - 1 = (m - 1).toNat by omega]
    exact a1
set_option maxHeartbeats 400000 in
theorem set70_bad (r m : Int) (c : Bool) (n : Int) (b : Nat) (w : World) (RR : Ending → World → Prop) (hn : w.cell? ⟨b, 0, none⟩ = some (.int .i64 n)) (hg : goodB r m n = false)
    (hR : ∀ w', Fr w w' → RR (.returned (.bool false)) w') :
    Calls Try.prog 70 #[.pointer (some ⟨b, 0, none⟩), .agg #[.int .i64 r, .int .i64 m], .bool c] w RR := by
  refine e_enter (n := ⟨84, []⟩) Try.mixed Try.func70 Try.p70 Try.x70 Try.fb70 Try.hx70 Try.ok70 rfl rfl (by simp) ?_; simp only [Try.x70, argEnv, Nat.zero_add, Nat.reduceAdd]
  (refine e_seq fun K1 hK1 => ?_; refine e_region ?_; refine A_box fun b1 w1 hF1 hN1 hB1 => ?_; have hz1 := hF1.size; obtain ⟨hn1, hl1⟩ := hN1; refine A_assign ?_; 
     refine a_next ?_; refine e_seq fun K1 hK1 => ?_; refine e_seq fun K1 hK1 => ?_; refine a_drawn fun w1 hF1 => ?_; have hz1 := hF1.size; refine A_move ?_; 
     refine A_eqlnil ?_; refine A_move ?_; refine A_want ?_; refine A_move ?_; refine A_want ?_; refine A_nil ?_; refine A_want ?_; refine A_field ?_; refine A_want ?_; 
     refine A_loadW ?_; refine A_want ?_; refine A_load ?_; refine A_want ?_)
  (with_reducible apply E_call); rfl; exact Try.en57; rfl; intro RR1 hRR1
  refine good57 _ _ _ _ _ fun w2 hF2 => ?_
  have hz2 := hF2.size
  refine hRR1 _ _ (by first | assumption | exact trivial) (Nat.le_of_ble_eq_true rfl) ?_; clear hRR1 RR1
  rw [hg]
  (refine A_want ?_; refine A_not ?_; refine A_pick_f ?_; refine a_next ?_; refine a_true ?_; refine e_seq fun K1 hK1 => ?_; refine e_region ?_; refine A_assign ?_; 
     refine a_next ?_; refine e_ret_then ?_; refine a_ret1 ?_)
  exact hR _ (by exact fr_)
end Go.Proofs.Ytjocklgihjbaiaa
end
section
/- Graphs: before, Done. -/
namespace Go.Proofs.Ytjocklgihjbaiaa
open Go.RowKit
def seqOf : Option CallD → Int
  | some c => c.seq
  | none => 0
theorem callO_seq (c : Option CallD) : (callO c)[13]? = some (.int .i64 (seqOf c)) := by cases c <;> rfl
def beforeB (C : It → Option CallD) (x y : It) : Bool := decide (seqOf (C x) < seqOf (C y)) || (decide (seqOf (C x) = seqOf (C y)) && lessB x y)
def cmpB (C : It → Option CallD) (x y : It) : Int := if x = y then 0 else if beforeB C x y = true then -1 else 1
section
variable {b : Nat} {n : Int} {C : It → Option CallD} {O : It → Bool} {F : Nat → Prop} (x y : It) (w : World) (RR : Ending → World → Prop)
set_option maxRecDepth 10000 in
set_option maxHeartbeats 1000000 in
theorem before78 (h : GraphAt w b n C O F) (hR : ∀ w', Fr w w' → RR (.returned (.int .i64 (cmpB C x y))) w') : Calls Try.prog 78 #[.pointer (some ⟨b, 0, none⟩), itV x, itV y] w RR := by
  obtain ⟨bc, bd, R, D, Fc, Fd, rs, hs, rs', hs', h, rfl, rfl⟩ := h
  have hc : w.cell? ⟨b, 0, none⟩ = some (.pointer (some ⟨bc, 0, none⟩)) := h.blk.cell rfl
  have hsz := callO_size (atR R n x)
  have hone := callO_one (atR R n x)
  have hsz' := callO_size (atR R n y)
  have hone' := callO_one (atR R n y)
  have hs1 := callO_seq (atR R n x)
  have hs2 := callO_seq (atR R n y)
  have fin : ∀ k, k = cmpB (atR R n) x y → ∀ w', Fr w w' → RR (.returned (.int .i64 k)) w' := fun k hk w' hF => hk ▸ hR w' hF
  refine e_enter (n := ⟨51, []⟩) Try.mixed Try.func78 Try.p78 Try.x78 Try.fb78 Try.hx78 Try.ok78 rfl rfl (by simp) ?_; simp only [Try.x78, argEnv, Nat.zero_add, Nat.reduceAdd]
  (refine e_seq fun K1 hK1 => ?_; refine e_region ?_; refine A_box fun b1 w1 hF1 hN1 hB1 => ?_; have hz1 := hF1.size; obtain ⟨hn1, hl1⟩ := hN1; 
     refine A_box fun b1 w1 hF1 hN1 hB1 => ?_; have hz1 := hF1.size; obtain ⟨hn1, hl1⟩ := hN1; refine A_assign ?_; refine a_next ?_; refine e_seq fun K1 hK1 => ?_)
  rename_i b4 w4 hF4 hB4 hz4 hn4 hl4
  have rest1 : ∀ b7 w', Fr w w' → Blk w' b4 27 (itA x) → Blk w' b1 27 (itA y) → Blk w' b7 33 (callO (atR R n x)) → ∀ a, Agrees ⟨51, []⟩ a [(6, .int .i64 0), (5, .pointer (some ⟨b1, 0, none⟩)), (4, .pointer (some ⟨b4, 0, none⟩)), (0, .pointer (some ⟨b, 0, none⟩)), (7, .pointer (some ⟨b7, 0, none⟩))] → K1 a w' := by
    intro b7 w5 hF5 hB45 hB55 hB75
    have hz5 := hF5.size
    have hl45 := hB45.lt
    have hl55 := hB55.lt
    have hl75 := hB75.lt
    refine later_of hK1 ?_
    clear hF1 hF4
    refine e_seq fun K1 hK1 => ?_
    have rest2 : ∀ b9 w', Fr w w' → Blk w' b4 27 (itA x) → Blk w' b1 27 (itA y) → Blk w' b7 33 (callO (atR R n x)) → Blk w' b9 33 (callO (atR R n y)) → ∀ a, Agrees ⟨51, []⟩ a [(6, .int .i64 0), (5, .pointer (some ⟨b1, 0, none⟩)), (4, .pointer (some ⟨b4, 0, none⟩)), (0, .pointer (some ⟨b, 0, none⟩)), (7, .pointer (some ⟨b7, 0, none⟩)), (9, .pointer (some ⟨b9, 0, none⟩))] → K1 a w' := by
      intro b9 w6 hF6 hB46 hB56 hB76 hB96
      have hz6 := hF6.size
      refine later_of hK1 ?_
      clear hF5
      by_cases hxy : x = y
      · (refine e_seq fun K1 hK1 => ?_; refine e_block ?_; refine e_seq fun K1 hK1 => ?_; refine e_region ?_; refine A_loadW ?_; refine A_loadW ?_; refine A_eqK keyIt ?_; 
         refine A_assign ?_; refine a_next ?_; refine a_true ?_; refine e_seq fun K1 hK1 => ?_; refine e_region ?_; refine A_assign ?_; refine a_next ?_; refine e_ret_block ?_; 
         refine e_ret_then ?_; refine a_ret1 ?_)
        exact fin 0 (by simp [cmpB, hxy]) _ (by exact fr_)
      · by_cases hlt : seqOf (atR R n x) < seqOf (atR R n y)
        · (refine e_seq fun K1 hK1 => ?_; refine e_block ?_; refine e_seq fun K1 hK1 => ?_; refine e_region ?_; refine A_loadW ?_; refine A_loadW ?_; refine A_eqK keyIt ?_; 
           refine A_assign ?_; refine a_next ?_; refine a_false ?_; refine e_seq fun K1 hK1 => ?_; refine e_region ?_; refine A_field ?_; refine A_load ?_; refine A_field ?_; 
           refine A_load ?_; refine A_lss ?_; refine A_move ?_; refine A_pass ?_; refine A_pass ?_; refine A_pass ?_; refine A_pass ?_; refine A_pass ?_; refine A_pass ?_; 
           refine A_passu ?_; refine A_passu ?_; refine A_passu ?_; refine A_pass ?_; refine A_pick_t ?_; refine A_assign ?_; refine a_next ?_; refine a_true ?_; 
           refine e_seq fun K1 hK1 => ?_; refine e_region ?_; refine A_assign ?_; refine a_next ?_; refine e_ret_block ?_; refine e_ret_then ?_; refine a_ret1 ?_)
          exact fin (-1) (by simp [cmpB, hxy, beforeB, hlt]) _ (by exact fr_)
        · by_cases heq : seqOf (atR R n x) = seqOf (atR R n y)
          · (refine e_seq fun K1 hK1 => ?_; refine e_block ?_; refine e_seq fun K1 hK1 => ?_; refine e_region ?_; refine A_loadW ?_; refine A_loadW ?_; refine A_eqK keyIt ?_; 
             refine A_assign ?_; refine a_next ?_; refine a_false ?_; refine e_seq fun K1 hK1 => ?_; refine e_region ?_; refine A_field ?_; refine A_load ?_; refine A_field ?_; 
             refine A_load ?_; refine A_lss ?_; refine A_move ?_; refine A_want ?_; refine A_field ?_; refine A_want ?_; refine A_load ?_; refine A_want ?_; refine A_field ?_; 
             refine A_want ?_; refine A_load ?_; refine A_want ?_; refine A_eql ?_; refine A_want ?_; refine A_move ?_; refine A_want ?_; refine A_loadW ?_; refine A_want ?_; 
             refine A_loadW ?_; refine A_want ?_)
            (with_reducible apply E_call); rfl; exact Try.en29; rfl; intro RR1 hRR1
            refine less29 x y _ _ fun w8 hF8 => ?_
            have hz8 := hF8.size
            refine hRR1 _ _ (by first | assumption | exact trivial) (Nat.le_of_ble_eq_true rfl) ?_; clear hRR1 RR1
            cases hle : lessB x y with
            | true =>
              (refine A_want ?_; refine A_pick_t ?_; refine A_pick_f ?_; refine A_assign ?_; refine a_next ?_; refine a_true ?_; refine e_seq fun K1 hK1 => ?_; refine e_region ?_; 
                 refine A_assign ?_; refine a_next ?_; refine e_ret_block ?_; refine e_ret_then ?_; refine a_ret1 ?_)
              exact fin (-1) (by simp [cmpB, hxy, beforeB, heq, hle]) _ (by exact fr_)
            | false =>
              (refine A_want ?_; refine A_pick_t ?_; refine A_pick_f ?_; refine A_assign ?_; refine a_next ?_; refine a_false ?_; refine e_norm_skip ?_; refine e_norm_block ?_; 
                 refine a_norm_then ?_; refine e_seq fun K1 hK1 => ?_; refine e_region ?_; refine A_assign ?_; refine a_next ?_; refine a_ret1 ?_)
              exact fin 1 (by simp [cmpB, hxy, beforeB, heq, hle]) _ (by exact fr_)
          · (refine e_seq fun K1 hK1 => ?_; refine e_block ?_; refine e_seq fun K1 hK1 => ?_; refine e_region ?_; refine A_loadW ?_; refine A_loadW ?_; refine A_eqK keyIt ?_; 
             refine A_assign ?_; refine a_next ?_; refine a_false ?_; refine e_seq fun K1 hK1 => ?_; refine e_region ?_; refine A_field ?_; refine A_load ?_; refine A_field ?_; 
             refine A_load ?_; refine A_lss ?_; refine A_move ?_; refine A_want ?_; refine A_field ?_; refine A_want ?_; refine A_load ?_; refine A_want ?_; refine A_field ?_; 
             refine A_want ?_; refine A_load ?_; refine A_want ?_; refine A_eql ?_; refine A_want ?_; refine A_move ?_; refine A_pass ?_; refine A_pass ?_; refine A_pass ?_; 
             refine A_want ?_; refine A_pick_f ?_; refine A_pick_f ?_; refine A_assign ?_; refine a_next ?_; refine a_false ?_; refine e_norm_skip ?_; refine e_norm_block ?_; 
             refine a_norm_then ?_; refine e_seq fun K1 hK1 => ?_; refine e_region ?_; refine A_assign ?_; refine a_next ?_; refine a_ret1 ?_)
            exact fin 1 (by simp [cmpB, hxy, beforeB, hlt, heq]) _ (by exact fr_)
    clear hK1
    (refine a_drawn fun w1 hF1 => ?_; have hz1 := hF1.size; refine A_move ?_; refine A_nil ?_; refine A_field ?_; refine A_load ?_; refine A_loadW ?_)
    apply E_fork
    · (with_reducible apply E_call); rfl; exact Try.en46; rfl; intro RR1 hRR1
      refine at46 y n bc _ _ (h.calls.fr (by exact fr_)) fun w6 hF6 => ?_
      have hz6 := hF6.size
      refine hRR1 _ _ (by first | assumption | exact trivial) (Nat.le_of_ble_eq_true rfl) ?_; clear hRR1 RR1
      (refine A_move ?_; refine A_extract ?_; refine A_extract ?_; refine A_alloc fun b1 w1 hF1 hN1 hB1 => ?_; have hz1 := hF1.size; obtain ⟨hn1, hl1⟩ := hN1; 
         refine A_storeW fun w1 hU1 hB1 => ?_; refine A_assign ?_; refine e_norm_nil ?_)
      exact e_restN (rest2 _ _ (by exact fr_) (by exact blk_) (by exact blk_) (by exact blk_) (by exact blk_)) (by exact sub_)
    · (refine A_alloc fun b1 w1 hF1 hN1 hB1 => ?_; have hz1 := hF1.size; obtain ⟨hn1, hl1⟩ := hN1)
      (with_reducible apply E_call); rfl; exact Try.en46; rfl; intro RR1 hRR1
      refine at46 y n bc _ _ (h.calls.fr (by exact fr_)) fun w6 hF6 => ?_
      have hz6 := hF6.size
      refine hRR1 _ _ (by first | assumption | exact trivial) (Nat.le_of_ble_eq_true rfl) ?_; clear hRR1 RR1
      (refine A_move ?_; refine A_extract ?_; refine A_extract ?_; refine A_storeW fun w1 hU1 hB1 => ?_; refine A_assign ?_; refine e_norm_nil ?_)
      exact e_restN (rest2 _ _ (by exact fr_) (by exact blk_) (by exact blk_) (by exact blk_) (by exact blk_)) (by exact sub_)
  clear hK1
  (refine a_drawn fun w1 hF1 => ?_; have hz1 := hF1.size; refine A_move ?_; refine A_nil ?_; refine A_field ?_; refine A_load ?_; refine A_loadW ?_)
  apply E_fork
  · (with_reducible apply E_call); rfl; exact Try.en46; rfl; intro RR1 hRR1
    refine at46 x n bc _ _ (h.calls.fr (by exact fr_)) fun w6 hF6 => ?_
    have hz6 := hF6.size
    refine hRR1 _ _ (by first | assumption | exact trivial) (Nat.le_of_ble_eq_true rfl) ?_; clear hRR1 RR1
    (refine A_move ?_; refine A_extract ?_; refine A_extract ?_; refine A_alloc fun b1 w1 hF1 hN1 hB1 => ?_; have hz1 := hF1.size; obtain ⟨hn1, hl1⟩ := hN1; 
       refine A_storeW fun w1 hU1 hB1 => ?_; refine A_assign ?_; refine e_norm_nil ?_)
    exact e_restN (rest1 _ _ (by exact fr_) (by exact blk_) (by exact blk_) (by exact blk_)) (by exact sub_)
  · (refine A_alloc fun b1 w1 hF1 hN1 hB1 => ?_; have hz1 := hF1.size; obtain ⟨hn1, hl1⟩ := hN1)
    (with_reducible apply E_call); rfl; exact Try.en46; rfl; intro RR1 hRR1
    refine at46 x n bc _ _ (h.calls.fr (by exact fr_)) fun w6 hF6 => ?_
    have hz6 := hF6.size
    refine hRR1 _ _ (by first | assumption | exact trivial) (Nat.le_of_ble_eq_true rfl) ?_; clear hRR1 RR1
    (refine A_move ?_; refine A_extract ?_; refine A_extract ?_; refine A_storeW fun w1 hU1 hB1 => ?_; refine A_assign ?_; refine e_norm_nil ?_)
    exact e_restN (rest1 _ _ (by exact fr_) (by exact blk_) (by exact blk_) (by exact blk_)) (by exact sub_)
end
end Go.Proofs.Ytjocklgihjbaiaa
end
section
/- Graphs: Done. -/
namespace Go.Proofs.Ytjocklgihjbaiaa
open Go.RowKit
def doneO (O : It → Bool) (n : Int) (items : List It) : It → Bool := fun y => O y || (decide (y ∈ items) && goodB y.1 y.2 n)
theorem doneO_snoc (O : It → Bool) (n : Int) (items : List It) (x : It) : doneO O n (items ++ [x]) = fun y => doneO O n items y || (decide (y = x) && goodB x.1 x.2 n) := by
  funext y
  simp only [doneO, List.mem_append, List.mem_singleton]
  by_cases h : y = x
  · subst h; cases O y <;> cases goodB y.1 y.2 n <;> simp
  · cases O y <;> cases goodB y.1 y.2 n <;> simp [h]
section
variable {b : Nat} {n : Int} {C : It → Option CallD} {O : It → Bool} {F : Nat → Prop} (w : World) (RR : Ending → World → Prop)
set_option maxRecDepth 10000 in
set_option maxHeartbeats 1000000 in
theorem done53 (v : Value) (items : List It) (h : GraphAt w b n C O F) (hs : Sl w 27 2 itL v items) (hn : ∀ g, v.ownBlock = some g → ¬ F g)
    (hR : ∀ w' F', GraphAt w' b n C (doneO O n items) F' → (∀ g, F' g → F g ∨ w.heap.size ≤ g) → Ch F w w' → RR (.returned (.tuple #[])) w') : Calls Try.prog 53 #[.pointer (some ⟨b, 0, none⟩), v] w RR := by
  obtain ⟨p, cap, hv⟩ := hs.value
  have hmx := hs.len_le
  rw [hv] at hn hs ⊢
  clear hv
  refine e_enter (n := ⟨21, []⟩) Try.mixed Try.func53 Try.p53 Try.x53 Try.fb53 Try.hx53 Try.ok53 rfl rfl (by simp) ?_; simp only [Try.x53, argEnv, Nat.zero_add, Nat.reduceAdd]
  (refine e_seq fun K1 hK1 => ?_; refine e_region ?_; refine A_move ?_; refine A_lenS ?_; refine A_move ?_; refine a_next ?_; refine e_block ?_)
  refine e_loop Try.mixed Try.p53 Try.lp53ba Try.hx53bal Try.ok53bal (fun i : Nat => [(0, .pointer (some ⟨b, 0, none⟩)), (6, .slice p items.length cap), (7, .int .i64 items.length), (8, .int .i64 i)])
    (fun i w' => i ≤ items.length ∧ ∃ F', GraphAt w' b n C (doneO O n (items.take i)) F' ∧ (∀ g, F' g → F g ∨ w.heap.size ≤ g) ∧ Ch F w w' ∧ Sl w' 27 2 itL (.slice p items.length cap) items) (fun i => items.length - i) 0 (by exact sub_)
    ⟨Nat.zero_le _, F, by rw [List.take_zero, show doneO O n [] = O by funext y; simp [doneO]]; exact h, fun g hg => .inl hg, Ch.refl _ _, hs⟩ ?_
  rintro i w3 ⟨hi, F', h3, hF', hC3, hs3⟩
  have hz3 := hC3.size
  simp only [Try.x53bal]
  by_cases hlt : i < items.length
  · obtain ⟨g, cap', hve, hgl, hra⟩ := hs3.at_ itL_len (List.getElem?_eq_getElem hlt)
    injection hve with e1 _ e2
    subst e1 e2
    have hnF : ¬ F' g := fun hg => (hF' g hg).elim (hn g rfl) (fun hle => by have := hs.lt (g := g) rfl; omega)
    obtain ⟨bc, bd, R, D, Fc, Fd, rs, hs2, rs', hs', h4, e1, e2⟩ := h3
    have hc : w3.cell? ⟨b, 1, none⟩ = some (.pointer (some ⟨bd, 0, none⟩)) := h4.blk.cell rfl
    have hlb := h4.blk.lt
    have hlF : ∀ g, F' g → g < w3.heap.size := fun g hg => GraphAt.lt ⟨bc, bd, R, D, Fc, Fd, rs, hs2, rs', hs', h4, e1, e2⟩ hg
    have hsz : (itA items[i]).size = 2 := rfl
    have hone : (itA items[i]).toList.all (·.oneCell') = true := rfl
    have hra2 : w3.rangeAt g (i * 2) (itA items[i]).toList := hra
    (refine e_seq fun K1 hK1 => ?_; refine e_region ?_; refine A_lss ?_; refine a_next ?_; refine e_seq fun K1 hK1 => ?_; refine a_true ?_; refine a_nextC ?_; 
       refine e_seq fun K1 hK1 => ?_; refine e_block ?_; refine e_seq fun K1 hK1 => ?_; refine e_region ?_; refine A_idxS ?_; refine A_loads ?_; 
       refine A_alloc fun b1 w1 hF1 hN1 hB1 => ?_; have hz1 := hF1.size; obtain ⟨hn1, hl1⟩ := hN1; refine A_storeW fun w1 hU1 hB1 => ?_; refine a_next ?_; 
       refine e_seq fun K1 hK1 => ?_; refine e_region ?_; refine A_move ?_; refine A_neqnil ?_; refine a_next ?_; refine a_true ?_; 
       refine a_drawn fun w1 hF1 => ?_; have hz1 := hF1.size; refine A_move ?_; refine A_nil ?_; refine A_field ?_; refine A_load ?_; refine A_loadW ?_)
    (with_reducible apply E_call); rfl; exact Try.en70; rfl; intro RR1 hRR1
    have hFX : Fr w3 w1 := by exact fr_
    have hzX := hFX.size
    generalize hx : items[i] = x
    obtain ⟨r, m⟩ := x
    have next : ∀ w' D' Fd' rs2' hs2', BoolRows w' bd n D' Fd' rs2' hs2' → (∀ g, Fd' g → Fd g ∨ w1.heap.size ≤ g) → Ch Fd w1 w' → (∀ y, (atR D' n y).isSome = ((atR D n y).isSome || (decide (y = (r, m)) && goodB r m n))) →
        ∃ F', GraphAt w' b n C (doneO O n (items.take (i + 1))) F' ∧ (∀ g, F' g → F g ∨ w.heap.size ≤ g) ∧ Ch F w w' ∧ Sl w' 27 2 itL (.slice (some ⟨g, 0, none⟩) items.length cap) items := by
      intro w' D' Fd' rs2' hs2' hb hFd hC hD
      have hfd : ∀ g, Fd g → F' g := fun g hg => (h4.foot g).2 (.inr (.inr hg))
      refine ⟨fun g => g = b ∨ Fc g ∨ Fd' g, ⟨bc, bd, R, D', Fc, Fd', rs, hs2, rs2', hs2', ⟨(h4.blk.fr hFX).ch hC h4.bd, (h4.calls.fr hFX).ch hC (fun g hg hd => h4.cd g hg hd), hb, fun _ => Iff.rfl, h4.bc, ?_, ?_⟩, e1, ?_⟩, ?_, ?_, ?_⟩
      · exact fun hg => (hFd b hg).elim h4.bd (fun hle => by have := hlF b ((h4.foot b).2 (.inl rfl)); omega)
      · exact fun g hg hd => (hFd g hd).elim (h4.cd g hg) (fun hle => by have := hlF g ((h4.foot g).2 (.inr (.inl hg))); omega)
      · funext y
        rw [List.take_succ_eq_append_getElem hlt, doneO_snoc, hx, hD, e2]
      · rintro g (rfl | hg | hg)
        · exact hF' _ ((h4.foot _).2 (.inl rfl))
        · exact hF' _ ((h4.foot _).2 (.inr (.inl hg)))
        · exact (hFd g hg).elim (fun hd => hF' g (hfd g hd)) (fun hle => .inr (by omega))
      · exact (hC3.trans (hFX.ch F)).more hC (fun j hj hd => (hF' j (hfd j hd)).resolve_right (by omega))
      · exact (hs3.fr hFX).ch hC (fun g' hg' hd => by
          have e : g = g' := by simpa [Value.ownBlock] using hg'
          subst e
          exact hnF (hfd _ hd))
    cases hg : goodB r m n with
    | false =>
      refine set70_bad r m true n bd _ _ (by apply Fr.c; rotate_left; exact h4.done.blk.cell rfl; exact hFX) hg fun w6 hF6 => ?_
      have hz6 := hF6.size
      refine hRR1 _ _ (by first | assumption | exact trivial) (Nat.le_of_ble_eq_true rfl) ?_; clear hRR1 RR1
      (refine e_norm_nil ?_; refine e_norm_block ?_; refine a_norm_then ?_; refine e_region ?_; refine A_add ?_; refine A_move ?_; refine e_norm_nil ?_)
      refine e_againN (i + 1) (by omega) ⟨by omega, next _ D Fd rs' hs' ((h4.done.fr hFX).fr hF6) (fun g hg => .inl hg) (hF6.ch _) (fun y => by rw [hg]; simp)⟩ rfl (by exact sub_)
    | true =>
      refine set70_ok r m true n bd _ _ (h4.done.fr hFX) hg fun w6 Fd' rs2' hs2' h6 hFd hC6 => ?_
      refine hRR1 _ _ (by first | assumption | exact trivial) (Nat.le_of_ble_eq_true rfl) ?_; clear hRR1 RR1
      (refine e_norm_nil ?_; refine e_norm_block ?_; refine a_norm_then ?_; refine e_region ?_; refine A_add ?_; refine A_move ?_; refine e_norm_nil ?_)
      refine e_againN (i + 1) (by omega) ⟨by omega, next _ _ Fd' rs2' hs2' h6 hFd hC6 (fun y => ?_)⟩ rfl (by exact sub_)
      rw [atR_setR (x := (r, m)) hg, hg]
      by_cases hy : y = (r, m) <;> simp [hy]
  · (refine e_seq fun K1 hK1 => ?_; refine e_region ?_; refine A_lss ?_; refine a_next ?_; refine e_seq fun K1 hK1 => ?_; refine a_false ?_; refine e_exit_then ?_; 
     refine e_exit_then ?_; refine e_exit_here ?_; refine a_end0 ?_)
    have e : i = items.length := by omega
    rw [e, List.take_length] at h3
    exact hR _ F' h3 hF' hC3
end
end Go.Proofs.Ytjocklgihjbaiaa
end
section
/- The items to which deps reach, one behind the other: the iterator. -/
namespace Go.Proofs.Ytjocklgihjbaiaa
open Go.RowKit
def rowI (i k : Nat) : List It := (List.range k).map fun (j : Nat) => (((i : Int), (j : Int) + 1) : It)
def upTo (d : Nat → Int) (i : Nat) : List It := (List.range i).flatMap fun r => rowI r (d r).toNat
def itemsOf (d : Nat → Int) : List It := upTo d 7
theorem rowI_succ (i k : Nat) : rowI i (k + 1) = rowI i k ++ [((i : Int), (k : Int) + 1)] := by simp [rowI, List.range_succ]
theorem upTo_succ (d : Nat → Int) (i : Nat) : upTo d (i + 1) = upTo d i ++ rowI i (d i).toNat := by simp [upTo, List.range_succ]
theorem upTo_mono (d : Nat → Int) (i : Nat) : ∀ j, upTo d i <+: upTo d (i + j)
  | 0 => List.prefix_refl _
  | j + 1 => (upTo_mono d i j).trans (by rw [← Nat.add_assoc, upTo_succ]; exact List.prefix_append _ _)
theorem rowI_mono (i : Nat) (k : Nat) : ∀ j, rowI i k <+: rowI i (k + j)
  | 0 => List.prefix_refl _
  | j + 1 => (rowI_mono i k j).trans (by rw [← Nat.add_assoc, rowI_succ]; exact List.prefix_append _ _)
theorem itemsOf_prefix (d : Nat → Int) (i k : Nat) (hi : i < 7) (hk : k ≤ (d i).toNat) : upTo d i ++ rowI i k <+: itemsOf d := by
  have h1 : upTo d i ++ rowI i k <+: upTo d (i + 1) := by
    rw [upTo_succ]
    have := rowI_mono i k ((d i).toNat - k)
    rw [show k + ((d i).toNat - k) = (d i).toNat by omega] at this
    exact (List.prefix_append_right_inj _).2 this
  have h2 := upTo_mono d (i + 1) (7 - (i + 1))
  rw [show i + 1 + (7 - (i + 1)) = 7 by omega] at h2
  exact h1.trans h2
theorem build27 (a b : Int) : Try.prog.built 27 [(0, .int .i64 a), (1, .int .i64 b)] = some (itA (a, b)) := by kernel_rfl
set_option maxRecDepth 10000 in
set_option maxHeartbeats 1000000 in
theorem iter80 (d : Nat → Int) (hd : ∀ i, i < 7 → d i ≤ 64) {b : Nat} {w : World} (hb : Blk w b 31 (depA d)) : Iter Try.prog 80 #[.pointer (some ⟨b, 0, none⟩)] (fun x : It => #[itV x]) (itemsOf d) Fr w := by
  intro l J Jx w0 hF0 hJ hJx hY h0
  have h0' := h0 w0 (Fr.refl w0)
  have hz0 := hF0.size
  have hb0 := hb.fr hF0
  clear hb
  refine e_enter (n := ⟨23, []⟩) Try.mixed Try.func80 Try.p80 Try.x80 Try.fb80 Try.hx80 Try.ok80 rfl rfl (by simp) ?_; simp only [Try.x80, argEnv, Nat.zero_add, Nat.reduceAdd]
  (refine e_seq fun K1 hK1 => ?_; refine e_region ?_; refine A_loadW ?_; refine A_move ?_; refine a_next ?_; refine e_block ?_)
  refine e_loop Try.mixed Try.p80 Try.lp80ba Try.hx80bal Try.ok80bal (fun i : Nat => [(0, .func (.yield l) #[] #[]), (6, .agg (depA d)), (7, .int .i64 i)]) (fun i W => i ≤ 7 ∧ J (upTo d i) W) (fun i => 7 - i) 0 (by exact sub_) ⟨Nat.zero_le _, h0'⟩ ?_
  rintro i w2 ⟨hi7, hJi⟩
  simp only [Try.x80bal]
  by_cases hi : i < 7
  · have hget := depA_get d i hi
    have hdi := hd i hi
    (refine e_seq fun K1 hK1 => ?_; refine e_region ?_; refine A_lss ?_; refine a_next ?_; refine e_seq fun K1 hK1 => ?_; refine a_true ?_; refine a_nextC ?_; 
       refine e_seq fun K1 hK1 => ?_; refine e_block ?_; refine e_seq fun K1 hK1 => ?_; refine e_region ?_; refine A_move ?_; refine A_index ?_; refine A_assign ?_; 
       refine A_assign ?_; refine a_next ?_; refine e_seq fun K1 hK1 => ?_; refine e_region ?_; refine A_assign ?_; refine a_next ?_; refine e_block ?_)
    refine e_loop Try.mixed Try.p80 Try.lp80balbbaabba Try.hx80balbbaabbal Try.ok80balbbaabbal (fun k : Nat => [(0, .func (.yield l) #[] #[]), (3, .int .i64 i), (4, .int .i64 (d i)), (6, .agg (depA d)), (7, .int .i64 i), (5, .int .i64 ((k : Int) + 1))]) (fun k W => (k : Int) ≤ max 0 (d i) ∧ J (upTo d i ++ rowI i k) W) (fun k => 65 - k) 0 (by exact sub_) ⟨by omega, by simpa [rowI] using hJi⟩ ?_
    rintro k w3 ⟨hk, hJk⟩
    simp only [Try.x80balbbaabbal]
    by_cases hlt : (k : Int) + 1 ≤ d i
    · have hbd := build27 i ((k : Int) + 1)
      (refine e_seq fun K1 hK1 => ?_; refine e_seq fun K1 hK1 => ?_; refine e_region ?_; refine A_move ?_; refine A_move ?_; refine A_leq ?_; refine a_next ?_; refine a_true ?_; 
         refine a_nextC ?_; refine e_seq fun K1 hK1 => ?_; refine e_block ?_; refine e_seq fun K1 hK1 => ?_; refine e_region ?_; refine A_move ?_; refine A_move ?_; 
         refine A_move ?_; refine A_build ?_)
      have hpre : (upTo d i ++ rowI i k) ++ [((i : Int), (k : Int) + 1)] <+: itemsOf d := by
        rw [List.append_assoc, ← rowI_succ]
        exact itemsOf_prefix d i (k + 1) hi (by omega)
      refine E_yield rfl rfl (hY _ _ _ hJk hpre) (by decide) ?_
      rintro ex w4 (⟨rfl, hJ4⟩ | ⟨rfl, hJ4⟩)
      · refine ⟨_, rfl, ?_⟩
        rw [List.append_assoc, ← rowI_succ] at hJ4
        (refine A_not ?_; refine a_next ?_; refine a_false ?_; refine e_norm_skip ?_; refine e_norm_block ?_; refine a_norm_then ?_; refine e_region ?_; refine A_move ?_; 
           refine A_add ?_; refine A_assign ?_; refine e_norm_nil ?_)
        exact e_againN (k + 1) (by omega) ⟨by omega, hJ4⟩ rfl (by exact sub_)
      · refine ⟨_, rfl, ?_⟩
        (refine A_not ?_; refine a_next ?_; refine a_true ?_; refine e_ret_block ?_; refine e_ret_then ?_; refine e_ret_then ?_; refine e_ret_block ?_; refine e_ret_block ?_; 
           refine e_ret_then ?_; refine e_ret_then ?_; refine e_ret_block ?_; refine a_ret0 ?_)
        exact ⟨⟨_, rfl⟩, .inr ⟨_, hpre, hJ4⟩⟩
    · (refine e_seq fun K1 hK1 => ?_; refine e_seq fun K1 hK1 => ?_; refine e_region ?_; refine A_move ?_; refine A_move ?_; refine A_leq ?_; refine a_next ?_; 
       refine a_false ?_; refine e_exit_then ?_; refine e_exit_then ?_; refine e_exit_here ?_; refine e_norm_block ?_; refine a_norm_then ?_; refine e_region ?_; refine A_add ?_; 
       refine A_move ?_; refine e_norm_nil ?_)
      refine e_againN (i + 1) (by omega) ⟨by omega, ?_⟩ rfl (by exact sub_)
      rw [upTo_succ, show (d i).toNat = k by omega]
      exact hJk
  · (refine e_seq fun K1 hK1 => ?_; refine e_region ?_; refine A_lss ?_; refine a_next ?_; refine e_seq fun K1 hK1 => ?_; refine a_false ?_; refine e_exit_then ?_; 
     refine e_exit_then ?_; refine e_exit_here ?_; refine a_end0 ?_)
    exact ⟨⟨_, rfl⟩, .inl (by rw [show i = 7 by omega] at hJi; exact hJi)⟩
end Go.Proofs.Ytjocklgihjbaiaa
end
section
/- Graphs: for what an item waits. -/
namespace Go.Proofs.Ytjocklgihjbaiaa
open Go.RowKit
theorem items77 (d : Nat → Int) (w : World) (R : Ending → World → Prop) (hR : ∀ b w', Fr w w' → NewB w w' b → Blk w' b 31 (depA d) → R (.returned (.func (.func 80) #[] #[.pointer (some ⟨b, 0, none⟩)])) w') :
    Calls Try.prog 77 #[.agg (depA d)] w R := by
  refine e_enter (n := ⟨4, []⟩) Try.mixed Try.func77 Try.p77 Try.x77 Try.fb77 Try.hx77 Try.ok77 rfl rfl (by simp) ?_; simp only [Try.x77, argEnv, Nat.zero_add, Nat.reduceAdd]
  (refine e_seq fun K1 hK1 => ?_; refine e_region ?_; refine A_box fun b1 w1 hF1 hN1 hB1 => ?_; have hz1 := hF1.size; obtain ⟨hn1, hl1⟩ := hN1; refine A_assign ?_; 
     refine a_next ?_; refine e_seq fun K1 hK1 => ?_; refine e_region ?_; refine A_makeFunc ?_; refine A_assign ?_; refine a_next ?_; refine a_ret1 ?_)
  exact hR b1 w1 hF1 ⟨hn1, hl1⟩ hB1
def depOf : Option CallD → Nat → Int
  | some c => c.dep
  | none => fun _ => 0
theorem callO_dep (c : Option CallD) : (callO c).extract 6 (6 + 7) = depA (depOf c) := by cases c <;> rfl
theorem callO_size' (c : Option CallD) : 6 + 7 ≤ (callO c).size := by rw [callO_size]; omega
def waitsB (O : It → Bool) (x y : It) : Bool := decide (y ≠ x) && !O y
/-- For what an item waits, and isn't done. -/
def waitsL (C : It → Option CallD) (O : It → Bool) (x : It) : List It := (itemsOf (depOf (C x))).filter (waitsB O x)
theorem upTo_length (d : Nat → Int) (hd : ∀ i, i < 7 → d i ≤ 64) : ∀ i, i ≤ 7 → (upTo d i).length ≤ 64 * i
  | 0, _ => by simp [upTo]
  | i + 1, h => by
    rw [upTo_succ, List.length_append]
    have := upTo_length d hd i (by omega)
    have := hd i (by omega)
    simp only [rowI, List.length_map, List.length_range]
    omega
section
variable {b bw : Nat} {n : Int} {C : It → Option CallD} {O : It → Bool} {F : Nat → Prop} (x : It) (w : World) (RR : Ending → World → Prop)
set_option maxRecDepth 10000 in
set_option maxHeartbeats 2000000 in
theorem waits68 (h : GraphAt w b n C O F) (hdep : ∀ i, i < 7 → depOf (C x) i ≤ 64) (hw : w.cell? ⟨bw, 0, none⟩ = some (.pointer (some ⟨b, 0, none⟩)))
    (hR : ∀ v w', Fr w w' → Sl w' 27 2 itL v (waitsL C O x) → (∀ g, v.ownBlock = some g → w.heap.size ≤ g) → RR (.returned v) w') : Calls Try.prog 68 #[.pointer (some ⟨bw, 0, none⟩), itV x] w RR := by
  have hG := h
  obtain ⟨bc, bd, R, D, Fc, Fd, rs, hs, rs', hs', h, rfl, rfl⟩ := h
  have hc : w.cell? ⟨b, 0, none⟩ = some (.pointer (some ⟨bc, 0, none⟩)) := h.blk.cell rfl
  have hsz := callO_size (atR R n x)
  have hone := callO_one (atR R n x)
  have hdp := callO_dep (atR R n x)
  have hds := callO_size' (atR R n x)
  refine e_enterM (n := ⟨42, []⟩) Try.mixed Try.func68 Try.p68 Try.x68 Try.fb68 Try.hx68 Try.ok68 rfl rfl (by simp) ?_; simp only [Try.x68, argEnv, Nat.zero_add, Nat.reduceAdd]
  (refine e_seq fun K1 hK1 => ?_; refine e_region ?_; refine A_box fun b1 w1 hF1 hN1 hB1 => ?_; have hz1 := hF1.size; obtain ⟨hn1, hl1⟩ := hN1; 
     refine A_box fun b1 w1 hF1 hN1 hB1 => ?_; have hz1 := hF1.size; obtain ⟨hn1, hl1⟩ := hN1; refine A_assign ?_; refine a_next ?_; refine e_seq fun K1 hK1 => ?_)
  rename_i b2 w2 hF2 hB2 hz2 hn2 hl2
  have ⟨b3, hb3⟩ : ∃ b3, b3 = b1 := ⟨_, rfl⟩
  subst hb3
  have rest : ∀ b5 w', Fr w w' → Blk w' b2 84 #[.pointer (some ⟨bw, 0, none⟩)] → Blk w' b3 27 (itA x) → Blk w' b5 33 (callO (atR R n x)) → ∀ a, Agrees ⟨42, []⟩ a [(2, .pointer (some ⟨b2, 0, none⟩)), (3, .pointer (some ⟨b3, 0, none⟩)), (5, .pointer (some ⟨b5, 0, none⟩))] → K1 a w' := by
    intro b5 w5 hF5 hB25 hB15 hB55
    have hz5 := hF5.size
    have hl25 := hB25.lt
    have hl15 := hB15.lt
    have hl55 := hB55.lt
    refine later_of hK1 ?_
    clear hF1 hF2
    (refine e_seq fun K1 hK1 => ?_; refine e_region ?_; refine A_alloc fun b1 w1 hF1 hN1 hB1 => ?_; have hz1 := hF1.size; obtain ⟨hn1, hl1⟩ := hN1; refine a_next ?_; 
       refine e_seq fun K1 hK1 => ?_; refine e_seq fun K1 hK1 => ?_; refine e_region ?_; refine A_field ?_; refine A_loadB ?_)
    (with_reducible apply E_call); rfl; exact Try.en77; rfl; intro RR1 hRR1
    refine items77 _ _ _ fun bi w6 hF6 hN6 hB6 => ?_
    have hz6 := hF6.size
    obtain ⟨hn6, hl6⟩ := hN6
    refine hRR1 _ _ (by first | assumption | exact trivial) (Nat.le_of_ble_eq_true rfl) ?_; clear hRR1 RR1
    (refine a_next ?_; refine e_block ?_)
    have ⟨b7, hb7⟩ : ∃ b7, b7 = b1 := ⟨_, rfl⟩
    subst hb7
    obtain ⟨O, hO⟩ : ∃ O : It → Bool, O = fun x => (atR D n x).isSome := ⟨_, rfl⟩
    rw [← hO] at hG hR
    have hB2' : Blk w6 b2 84 #[.pointer (some ⟨bw, 0, none⟩)] := by exact blk_
    have hB3' : Blk w6 b3 27 (itA x) := by exact blk_
    have hB7' : Blk w6 b7 39 #[.slice none 0 0] := by exact blk_
    have hFX : Fr w w6 := by exact fr_
    have hl2' := hB2'.lt
    have hl3' := hB3'.lt
    have hl7' := hB7'.lt
    have hlen := upTo_length (depOf (atR R n x)) hdep 7 (Nat.le_refl _)
    obtain ⟨I, hI⟩ : ∃ I : List It → World → Prop, I = fun pre W => Fr w W ∧ Blk W b2 84 #[.pointer (some ⟨bw, 0, none⟩)] ∧ Blk W b3 27 (itA x) ∧ ∃ v, Blk W b7 39 #[v] ∧ Sl W 27 2 itL v (pre.filter (waitsB O x)) ∧ ∀ g, v.ownBlock = some g → w6.heap.size ≤ g := ⟨_, rfl⟩
    obtain ⟨A, hA⟩ : ∃ A : List It → It → Env → World → Prop, A = fun pre y e1 W => ∃ b8, e1 = [(2, .pointer (some ⟨b2, 0, none⟩)), (3, .pointer (some ⟨b3, 0, none⟩)), (7, .pointer (some ⟨b7, 0, none⟩)), (8, .pointer (some ⟨b8, 0, none⟩))] ∧ I pre W ∧ Blk W b8 27 (itA y) ∧ w6.heap.size ≤ b8 ∧
      ∀ v, Blk W b7 39 #[v] → v.ownBlock ≠ some b8 := ⟨_, rfl⟩
    have hIe : ∀ pre W, I pre W = (Fr w W ∧ Blk W b2 84 #[.pointer (some ⟨bw, 0, none⟩)] ∧ Blk W b3 27 (itA x) ∧ ∃ v, Blk W b7 39 #[v] ∧ Sl W 27 2 itL v (pre.filter (waitsB O x)) ∧ ∀ g, v.ownBlock = some g → w6.heap.size ≤ g) := fun pre W => by rw [hI]
    have hIF : ∀ pre W W', I pre W → Fr W W' → I pre W' := by
      subst hI
      rintro pre W W' ⟨i1, i2, i3, v, i4, i5, i6⟩ hF
      exact ⟨i1.trans hF, i2.fr hF, i3.fr hF, v, i4.fr hF, i5.fr hF, i6⟩
    have hIU : ∀ pre W W' r, w6.heap.size ≤ r → Odd W r → I pre W → Upd r W W' → I pre W' := by
      subst hI
      rintro pre W W' r hr ho ⟨i1, i2, i3, v, i4, i5, i6⟩ hU
      exact ⟨i1.upd hU (by have := hFX.size; omega), i2.odd ho hU, i3.odd ho hU, v, i4.odd ho hU, i5.odd ho hU, i6⟩
    have hI0 : I [] w6 := by
      subst hI
      exact ⟨hFX, hB2', hB3', .slice none 0 0, hB7', Sl.nil, fun g hg => by simp [Value.ownBlock] at hg⟩
    refine e_range (α := It) Try.rf68bbbaba rfl Try.en80 (iter80 _ hdep hB6) (fun _ => rfl) (by simp) I (fun _ _ _ => False) A hIF (fun _ _ _ _ h _ => h) hIU (fun _ _ _ _ _ _ _ h _ => h) ?_ (fun W1 W2 h1 h2 => ⟨hIF _ _ _ hI0 (h1.trans h2), fun k _ hk => h2.block k hk⟩) ?_ ?_ ?_ (fun _ _ _ _ _ _ h => h.elim)
    · subst hA
      rintro pre y e1 W W' r hr ho ⟨b8, rfl, a1, a2, a3, a4⟩ hU
      refine ⟨b8, rfl, hIU _ _ _ _ hr ho a1 hU, a2.odd ho hU, a3, fun v hv => a4 v ?_⟩
      subst hI
      obtain ⟨i1, i2, i3, v', i4, i5, i6⟩ := a1
      have := (hv.inj (i4.odd ho hU)).2
      rw [this]
      exact i4
    · intro l Dd pre y W hl hD hlW hDW hol hoD hi hpre a ha m
      refine wpIn_enter Try.mixed Try.q68bbbaba Try.x68bbbaba_0 Try.hx68bbbaba_0 Try.ok68bbbaba_0 Try.cm68bbbaba_0 Try.pl68bbbaba_0 l letsOut_then ((show wpC Try.prog ⟨42, []⟩ Try.x68bbbaba_0 _ _ W from ?_) a ha)
      simp only [Try.x68bbbaba_0]
      rw [show ∀ e, putEnv (#[24].zip #[itV y]).toList e = (24, itV y) :: e from fun _ => by simp [putEnv]]
      have hi' := hi
      rw [hI] at hi'
      obtain ⟨i1, i2, i3, v, i4, i5, i6⟩ := hi'
      clear hF1 hF6 hFX
      (refine e_region ?_; refine A_alloc fun b1 w1 hF1 hN1 hB1 => ?_; have hz1 := hF1.size; obtain ⟨hn1, hl1⟩ := hN1; refine A_storeW fun w1 hU1 hB1 => ?_; 
         refine e_norm_nil ?_)
      refine e_assignN ((show Fr W _ by exact fr_).same hlW hDW) ?_ (e1 := [(2, .pointer (some ⟨b2, 0, none⟩)), (3, .pointer (some ⟨b3, 0, none⟩)), (7, .pointer (some ⟨b7, 0, none⟩)), (8, .pointer (some ⟨b1, 0, none⟩))]) (by exact sub_)
      rw [hA]
      refine ⟨b1, rfl, hIF _ _ _ hi (by exact fr_), (by exact blk_), by omega, fun u hu hou => ?_⟩
      have e : u = v := by
        have := (hu.inj (i4.fr (by exact fr_))).2
        simpa using this
      rw [e] at hou
      have := i5.lt hou
      omega
    · intro l Dd pre y e1 W hl hD hlW hDW hol hoD hA' hpre a ha m
      rw [hA] at hA'
      obtain ⟨b8, rfl, hi, hb8, hn8, hv8⟩ := hA'
      have hi' := hi
      rw [hI] at hi'
      obtain ⟨i1, i2, i3, v, i4, i5, i6⟩ := hi'
      have hGW := hG.fr i1
      have hwW := i1.c hw
      refine wpIn_enter Try.mixed Try.q68bbbaba Try.x68bbbaba_1 Try.hx68bbbaba_1 Try.ok68bbbaba_1 Try.cm68bbbaba_1 Try.pl68bbbaba_1 l letsOut_round ((show wpC Try.prog ⟨42, []⟩ Try.x68bbbaba_1 _ _ W from ?_) a ha)
      simp only [Try.x68bbbaba_1]
      have hplen := hpre.length_le
      have skip : waitsB O x y = false → ∀ W', Fr W W' → I (pre ++ [y]) W' := by
        intro hwb W' hF
        have := hIF _ _ _ hi hF
        rw [hIe] at this ⊢
        rw [List.filter_append, show [y].filter (waitsB O x) = [] by simp [hwb], List.append_nil]
        exact this
      clear hF1 hF6 hFX
      by_cases hyx : y = x
      · (refine e_block ?_; refine e_seq fun K1 hK1 => ?_; refine a_drawn fun w1 hF1 => ?_; have hz1 := hF1.size; refine A_loadW ?_; refine A_loadW ?_; refine A_neK keyIt ?_; 
         refine A_move ?_; refine A_pass ?_; refine A_pass ?_; refine A_pass ?_; refine A_pass ?_; refine A_pass ?_; refine A_pass ?_; refine A_pass ?_; refine A_pick_f ?_; 
         refine a_next ?_; refine a_false ?_; refine e_norm_skip ?_; refine e_norm_block ?_)
        exact e_roundN ((show Fr W _ by exact fr_).same hlW hDW) (skip (by simp [waitsB, hyx]) _ (by exact fr_))
      · (refine e_block ?_; refine e_seq fun K1 hK1 => ?_; refine a_drawn fun w1 hF1 => ?_; have hz1 := hF1.size; refine A_loadW ?_; refine A_loadW ?_; refine A_neK keyIt ?_; 
         refine A_move ?_; refine A_want ?_; refine A_load ?_; refine A_want ?_; refine A_nil ?_; refine A_want ?_; refine A_field ?_; refine A_want ?_; refine A_load ?_; 
         refine A_want ?_; refine A_loadW ?_; refine A_want ?_)
        (with_reducible apply E_call); rfl; exact Try.en41; rfl; intro RR1 hRR1
        refine over41 y _ _ (hGW.fr (by exact fr_)) fun w8 hF8 => ?_
        have hz8 := hF8.size
        refine hRR1 _ _ (by first | assumption | exact trivial) (Nat.le_of_ble_eq_true rfl) ?_; clear hRR1 RR1
        cases hoy : O y with
        | true =>
          (refine A_want ?_; refine A_not ?_; refine A_pick_t ?_; refine a_next ?_; refine a_false ?_; refine e_norm_skip ?_; refine e_norm_block ?_)
          exact e_roundN ((show Fr W _ by exact fr_).same hlW hDW) (skip (by simp [waitsB, hoy]) _ (by exact fr_))
        | false =>
          obtain ⟨p, cap, rfl⟩ := i5.value
          have hflen := List.length_filter_le (waitsB O x) pre
          rw [List.length_append] at hplen
          (refine A_want ?_; refine A_not ?_; refine A_pick_t ?_; refine a_next ?_; refine a_true ?_; refine e_region ?_; refine A_load ?_; refine A_loadW ?_)
          have hFX : Fr W w8 := by exact fr_
          clear hF1
          refine E_lit1 rfl rfl sty39 rfl (by decide) ?_
          intro b9 w9 hF9 hN9 hB9
          have hz9 := hF9.size
          obtain ⟨hn9, hl9⟩ := hN9
          have hFY := hFX.trans hF9
          have hzX := hFX.size
          have h5 : Row w9 27 2 (.slice p (pre.filter (waitsB O x)).length cap) _ (cellsOf itL (pre.filter (waitsB O x))) := i5.fr hFY
          refine E_append (v := .slice p (pre.filter (waitsB O x)).length cap) (m := (pre.filter (waitsB O x)).length) (xs := cellsOf itL (pre.filter (waitsB O x))) (news := itL y) rfl rfl rfl sty39 h5 rfl (Blk.range (cs := itA y) hB9) (itL_one y)
            (by simp only [List.length_singleton] at hplen; unfold itemsOf at hplen; omega) (by simp only [List.length_singleton] at hplen; unfold itemsOf at hplen; omega) (fun _ _ => trivial) (by decide) ?_
          intro v10 w10 hC10 hR10 hO10
          have hz10 := hC10.size
          obtain ⟨p10, c10, rfl⟩ := Row.value hR10
          have hB10 : Blk w10 b7 39 #[.slice p (pre.filter (waitsB O x)).length cap] := (i4.fr hFY).ch hC10 (fun hg => by have := i6 _ hg; omega)
          refine E_store1 (o := 0) rfl (fun _ _ _ => trivial) rfl rfl hB10 (by simp only [Try.SI]) rfl (by simp) ?_
          intro w11 hU11 hB11
          (refine e_norm_nil ?_; refine e_norm_block ?_)
          have hlb7 := i4.lt
          have nb7 : ∀ g, (Value.slice p10 ((pre.filter (waitsB O x)).length + 1) c10).ownBlock = some g → w6.heap.size ≤ g := fun g hg => (hO10 g hg).elim (i6 g) (fun h => by have := hFY.size; omega)
          have hChW : Ch (fun g => (Value.slice p (pre.filter (waitsB O x)).length cap).ownBlock = some g ∨ g = b7) W w11 := ((hFY.ch _).trans (hC10.mono fun _ _ h => .inl h)).trans (hU11.ch.mono fun _ _ h => .inr h)
          have nl : ∀ k, Odd W k → ¬ ((Value.slice p (pre.filter (waitsB O x)).length cap).ownBlock = some k ∨ k = b7) := by
            rintro k ho (hk | rfl)
            · obtain ⟨cur, hbk⟩ := Row.blk i5 hk
              exact ho.blk hbk rfl
            · exact ho.blk i4 rfl
          refine e_roundN (hChW.same hlW hDW (nl l hol) (nl Dd hoD)) ?_
          rw [hIe]
          have nold : ∀ k, k < w6.heap.size → k ≠ b7 → ¬ ((Value.slice p (pre.filter (waitsB O x)).length cap).ownBlock = some k ∨ k = b7) := fun k hk hkn h => h.elim (fun h => by have := i6 k h; omega) hkn
          have hwz := hB7'
          refine ⟨i1.more hChW (fun k hk => hk.elim (fun h => by have := i6 k h; omega) (fun h => by omega)), i2.ch hChW (nold _ hl2' (by omega)), i3.ch hChW (nold _ hl3' (by omega)), _, hB11, ?_, fun g hg => nb7 g hg⟩
          have hR11 := hR10.ch hU11.ch (fun g hg e => by have := nb7 g hg; omega)
          rw [List.filter_append, show [y].filter (waitsB O x) = [y] by simp [waitsB, hyx, hoy]]
          unfold Sl
          rw [cellsOf_append, List.length_append]
          simpa [cellsOf] using hR11
    · intro D W hD hIW hdef
      rw [hI] at hIW
      obtain ⟨i1, i2, i3, v, i4, i5, i6⟩ := hIW
      clear hF1 hF6 hFX
      (refine e_norm_block ?_; refine a_norm_then ?_; refine e_seq fun K1 hK1 => ?_; refine e_region ?_; refine A_load ?_; refine A_assign ?_; refine a_next ?_)
      apply e_ret1M [D]
      · rfl
      · rfl
      · rfl
      · simpa using hdef
      · simp
      intro w' hc
      have hDs : ∀ k, k < w.heap.size → ¬ k ∈ [D] := fun k hk h => by have := List.mem_singleton.1 h; omega
      refine hR v w' (i1.more hc (fun k hk => by have := List.mem_singleton.1 hk; omega)) ?_ (fun g hg => by have := i6 g hg; omega)
      refine Sl.ch i5 hc (fun g hg hk => ?_)
      obtain ⟨cur, hbk⟩ := Row.blk i5 hg
      have := List.mem_singleton.1 hk
      subst this
      unfold Blk at hbk
      rw [hdef] at hbk
      cases hbk
  clear hK1
  (refine a_drawn fun w1 hF1 => ?_; have hz1 := hF1.size; refine A_load ?_; refine A_nil ?_; refine A_field ?_; refine A_load ?_; refine A_nil ?_; refine A_field ?_; 
     refine A_load ?_; refine A_loadW ?_)
  apply E_fork
  · (with_reducible apply E_call); rfl; exact Try.en46; rfl; intro RR1 hRR1
    refine at46 x n bc _ _ (h.calls.fr (by exact fr_)) fun w6 hF6 => ?_
    have hz6 := hF6.size
    refine hRR1 _ _ (by first | assumption | exact trivial) (Nat.le_of_ble_eq_true rfl) ?_; clear hRR1 RR1
    (refine A_move ?_; refine A_extract ?_; refine A_extract ?_; refine A_alloc fun b1 w1 hF1 hN1 hB1 => ?_; have hz1 := hF1.size; obtain ⟨hn1, hl1⟩ := hN1; 
       refine A_storeW fun w1 hU1 hB1 => ?_; refine A_assign ?_; refine e_norm_nil ?_)
    exact e_restN (rest _ _ (by exact fr_) (by exact blk_) (by exact blk_) (by exact blk_)) (by exact sub_)
  · (refine A_alloc fun b1 w1 hF1 hN1 hB1 => ?_; have hz1 := hF1.size; obtain ⟨hn1, hl1⟩ := hN1)
    (with_reducible apply E_call); rfl; exact Try.en46; rfl; intro RR1 hRR1
    refine at46 x n bc _ _ (h.calls.fr (by exact fr_)) fun w6 hF6 => ?_
    have hz6 := hF6.size
    refine hRR1 _ _ (by first | assumption | exact trivial) (Nat.le_of_ble_eq_true rfl) ?_; clear hRR1 RR1
    (refine A_move ?_; refine A_extract ?_; refine A_extract ?_; refine A_storeW fun w1 hU1 hB1 => ?_; refine A_assign ?_; refine e_norm_nil ?_)
    exact e_restN (rest _ _ (by exact fr_) (by exact blk_) (by exact blk_) (by exact blk_)) (by exact sub_)
end
end Go.Proofs.Ytjocklgihjbaiaa
end
section
/- Graphs: the walk in memory; push. -/
namespace Go.Proofs.Ytjocklgihjbaiaa
open Go.RowKit
def frL (p : It × Value) : List Value := [.int .i64 p.1.1, .int .i64 p.1.2, p.2]
theorem frL_len (p : It × Value) : (frL p).length = 3 := rfl
def slL (v : Value) : List Value := [v]
theorem slL_len (v : Value) : (slL v).length = 1 := rfl
theorem sty86 : SliceTy Try.prog 86 115 3 40 := sliceTy_of (by kernel_rfl)
theorem sty66 : SliceTy Try.prog 66 39 1 24 := sliceTy_of (by kernel_rfl)
theorem und46 : Try.prog.underlying 46 = some (.map 27 3) := by kernel_rfl
theorem und85 : Try.prog.underlying 85 = some (.map 27 4) := by kernel_rfl
theorem ez3 : elemZero Try.prog 3 = some (.int .i64 0) := by kernel_rfl
theorem ez4 : elemZero Try.prog 4 = some (.bool false) := by kernel_rfl
/-- A walk in memory. -/
structure WalkM (w : World) (bw bg bi bl bo : Nat) (vs vf vp vm : Value) (idx low on : List (It × Value)) (stack : List It) (frames : List (It × Value)) (pvs : List Value) (missing : List It) : Prop where
  blk : Blk w bw 88 #[.pointer (some ⟨bg, 0, none⟩), .map (some bi), .map (some bl), .map (some bo), vs, vf, vp, vm]
  idx : MapAt itV w bi idx
  low : MapAt itV w bl low
  on : MapAt itV w bo on
  st : Sl w 27 2 itL vs stack
  fr : Sl w 115 3 frL vf frames
  pa : Sl w 39 1 slL vp pvs
  mi : Sl w 27 2 itL vm missing
  il : bi ≠ bl
  io : bi ≠ bo
  lo : bl ≠ bo
  sm : ∀ g, vs.ownBlock = some g → vm.ownBlock ≠ some g
theorem MapAt.ne_blk {κ : Type} {kv : κ → Value} {w : World} {b c : Nat} {l : List (κ × Value)} {t : TypeId} {cs : Array Value} (h : MapAt kv w b l) (hb : Blk w c t cs) : c ≠ b := by
  rintro rfl
  unfold MapAt at h
  unfold Blk at hb
  rw [h] at hb
  cases hb
theorem Row.ne_map {κ : Type} {kv : κ → Value} {w : World} {e : TypeId} {k n b : Nat} {v : Value} {cs : List Value} {l : List (κ × Value)} (h : Row w e k v n cs) (hm : MapAt kv w b l) : v.ownBlock ≠ some b := fun hg => by
  obtain ⟨cur, hb⟩ := h.blk hg
  exact hm.ne_blk hb rfl
theorem Row.ne_ty {w : World} {e t : TypeId} {k n b : Nat} {v : Value} {cs : List Value} {cs' : Array Value} (h : Row w e k v n cs) (hb : Blk w b t cs') (hne : e ≠ t) : v.ownBlock ≠ some b := fun hg => by
  obtain ⟨cur, hb'⟩ := h.blk hg
  exact hne (hb'.inj hb).1
theorem Row.ne_row {w : World} {e e' : TypeId} {k k' n n' : Nat} {v v' : Value} {cs cs' : List Value} (h : Row w e k v n cs) (h' : Row w e' k' v' n' cs') (hne : e ≠ e') : ∀ g, v.ownBlock = some g → v'.ownBlock ≠ some g := fun g hg hg' => by
  obtain ⟨cur, hb⟩ := h'.blk hg'
  exact h.ne_ty hb hne hg
theorem MapAt.upd {κ : Type} {kv : κ → Value} {w w' : World} {b c : Nat} {l : List (κ × Value)} (h : MapAt kv w b l) (hU : Upd c w w') (hne : b ≠ c) : MapAt kv w' b l := h.ch hU.ch hne
theorem modify_snoc {β : Type} (l : List β) (a : β) (f : β → β) : (l ++ [a]).modify l.length f = l ++ [f a] := by
  apply List.ext_getElem?
  intro i
  rw [List.getElem?_modify]
  by_cases h : l.length = i
  · subst h; simp
  · rw [show (fun a => if l.length = i then f a else a) = id from by funext a; simp [h]]
    simp only [id_map]
    by_cases h2 : i < l.length
    · simp [List.getElem?_append_left h2]
    · rw [List.getElem?_eq_none (by simp; omega), List.getElem?_eq_none (by simp; omega)]
theorem Ch.trans_fr {S : Nat → Prop} {a b c : World} (h : Ch S a b) (k : Fr b c) : Ch S a c := h.trans (k.ch S)
theorem Ch.trans_upd {S : Nat → Prop} {g : Nat} {a b c : World} (h : Ch S a b) (k : Upd g b c) (hg : S g ∨ a.heap.size ≤ g) : Ch S a c :=
  h.more k.ch fun i hi e => by subst e; exact hg.resolve_right (by omega)
theorem Ch.trans_ch {S T : Nat → Prop} {a b c : World} (h : Ch S a b) (k : Ch T b c) (hT : ∀ i, T i → S i ∨ a.heap.size ≤ i) : Ch S a c :=
  h.more k fun i hi e => (hT i e).resolve_right (by omega)
theorem entK_none {x : It} {l : List (It × Value)} (h : findK x l 0 = none) (z : Value) : entK l x z = (l ++ [(x, z)], z, l.length) := by simp [entK, h]
/-- The blocks of a graph are of none of the walk's types. -/
theorem GraphAt.ty {w : World} {b : Nat} {n : Int} {C : It → Option CallD} {O : It → Bool} {F : Nat → Prop} (h : GraphAt w b n C O F) {g : Nat} (hg : F g) : ∃ t cs, Blk w g t cs ∧ t ≠ 27 ∧ t ≠ 88 ∧ t ≠ 115 ∧ t ≠ 39 := by
  obtain ⟨bc, bd, R, D, Fc, Fd, rs, hs, rs', hs', h, e1, e2⟩ := h
  rcases (h.foot g).1 hg with rfl | hg | hg
  · exact ⟨_, _, h.blk, by decide, by decide, by decide, by decide⟩
  · rcases (h.calls.foot g).1 hg with rfl | ⟨i, hi, hg | hg⟩
    · exact ⟨_, _, h.calls.blk, by decide, by decide, by decide, by decide⟩
    · obtain ⟨cur, hb⟩ := Row.blk (h.calls.row i hi) hg
      exact ⟨_, _, hb, by decide, by decide, by decide, by decide⟩
    · obtain ⟨cur, hb⟩ := Row.blk (h.calls.has i hi) hg
      exact ⟨_, _, hb, by decide, by decide, by decide, by decide⟩
  · rcases (h.done.foot g).1 hg with rfl | ⟨i, hi, hg | hg⟩
    · exact ⟨_, _, h.done.blk, by decide, by decide, by decide, by decide⟩
    · obtain ⟨cur, hb⟩ := Row.blk (h.done.row i hi) hg
      exact ⟨_, _, hb, by decide, by decide, by decide, by decide⟩
    · obtain ⟨cur, hb⟩ := Row.blk (h.done.has i hi) hg
      exact ⟨_, _, hb, by decide, by decide, by decide, by decide⟩
theorem build115 (x : It) (p : Option Addr) (n c : Nat) : Try.prog.built 115 [(0, itV x), (1, .slice p n c)] = some #[.int .i64 x.1, .int .i64 x.2, .slice p n c] := by kernel_rfl
section
variable {bw bg bi bl bo : Nat} {vs vf vp vm : Value} {idx low on : List (It × Value)} {stack : List It} {frames : List (It × Value)} {pvs : List Value} {missing : List It}
variable {n : Int} {C : It → Option CallD} {O : It → Bool} {F : Nat → Prop}
/-- The blocks that a walk turns. -/
def walkS (bw bi bl bo : Nat) (vs vf vp vm : Value) (g : Nat) : Prop := g = bw ∨ g = bi ∨ g = bl ∨ g = bo ∨ vs.ownBlock = some g ∨ vf.ownBlock = some g ∨ vp.ownBlock = some g ∨ vm.ownBlock = some g
theorem WalkM.graph {w : World} (h : WalkM w bw bg bi bl bo vs vf vp vm idx low on stack frames pvs missing) (hG : GraphAt w bg n C O F) : ∀ g, F g → ¬ walkS bw bi bl bo vs vf vp vm g := by
  intro g hg hs
  obtain ⟨t, cs, hb, n1, n2, n3, n4⟩ := hG.ty hg
  rcases hs with rfl | rfl | rfl | rfl | hs | hs | hs | hs
  · exact n2 (hb.inj h.blk).1
  · exact h.idx.ne_blk hb rfl
  · exact h.low.ne_blk hb rfl
  · exact h.on.ne_blk hb rfl
  · exact Row.ne_ty h.st hb (Ne.symm n1) hs
  · exact Row.ne_ty h.fr hb (Ne.symm n3) hs
  · exact Row.ne_ty h.pa hb (Ne.symm n4) hs
  · exact Row.ne_ty h.mi hb (Ne.symm n1) hs
set_option maxRecDepth 10000 in
set_option maxHeartbeats 2000000 in
theorem push50 (x : It) (w : World) (RR : Ending → World → Prop) (hG : GraphAt w bg n C O F) (h : WalkM w bw bg bi bl bo vs vf vp vm idx low on stack frames pvs missing) (hdep : ∀ i, i < 7 → depOf (C x) i ≤ 64)
    (hx : findK x idx 0 = none) (hx' : findK x low 0 = none) (hls : stack.length ≤ 1000000) (hlf : frames.length ≤ 1000000)
    (hR : ∀ w' vs' vf' vn, WalkM w' bw bg bi bl bo vs' vf' vp vm (idx ++ [(x, .int .i64 idx.length)]) (low ++ [(x, .int .i64 idx.length)]) (putK on x (.bool true)) (stack ++ [x]) (frames ++ [(x, vn)]) pvs missing → Sl w' 27 2 itL vn (waitsL C O x) →
      (∀ g, vn.ownBlock = some g → w.heap.size ≤ g) → (∀ g, vn.ownBlock = some g → vs'.ownBlock ≠ some g) → Ch (walkS bw bi bl bo vs vf vp vm) w w' → (∀ g, vs'.ownBlock = some g → vs.ownBlock = some g ∨ w.heap.size ≤ g) → (∀ g, vf'.ownBlock = some g → vf.ownBlock = some g ∨ w.heap.size ≤ g) →
      RR (.returned (.tuple #[])) w') : Calls Try.prog 50 #[.pointer (some ⟨bw, 0, none⟩), itV x] w RR := by
  have hb := h.blk
  have c1 : w.cell? ⟨bw, 1, none⟩ = some (.map (some bi)) := hb.cell rfl
  have c2 : w.cell? ⟨bw, 2, none⟩ = some (.map (some bl)) := hb.cell rfl
  have c3 : w.cell? ⟨bw, 3, none⟩ = some (.map (some bo)) := hb.cell rfl
  have c4 : w.cell? ⟨bw, 4, none⟩ = some vs := hb.cell rfl
  have c5 : w.cell? ⟨bw, 5, none⟩ = some vf := hb.cell rfl
  refine e_enter (n := ⟨57, []⟩) Try.mixed Try.func50 Try.p50 Try.x50 Try.fb50 Try.hx50 Try.ok50 rfl rfl (by simp) ?_; simp only [Try.x50, argEnv, Nat.zero_add, Nat.reduceAdd]
  (refine e_seq fun K1 hK1 => ?_; refine e_region ?_; refine A_box fun b1 w1 hF1 hN1 hB1 => ?_; have hz1 := hF1.size; obtain ⟨hn1, hl1⟩ := hN1; refine a_next ?_; 
     refine e_seq fun K1 hK1 => ?_)
  have n1 : bw ≠ bi := h.idx.ne_blk hb
  have n2 : bw ≠ bl := h.low.ne_blk hb
  have n3 : bw ≠ bo := h.on.ne_blk hb
  have il := h.il
  have io := h.io
  have lo := h.lo
  have hlb := hb.lt
  have hli := h.idx.lt
  have hll := h.low.lt
  have hlo := h.on.lt
  have hmi := h.idx
  have hml := h.low
  have hmo := h.on
  have ⟨b3, hb3⟩ : ∃ b3, b3 = b1 := ⟨_, rfl⟩
  subst hb3
  refine e_drawnR (chRel (fun g => g = bi)) (by intro _ _ _ d1 _ h1; cases d1 <;> exact h1) fun w5 hF5 => ?_
  have hz5 := hF5.size
  have kx : (chRel (fun g => g = bi)).keepsR .weak b3 0 (itA x).size := fun j _ => (show ¬ b3 = bi by omega)
  (refine A_move ?_; refine A_nil ?_; refine A_field ?_; refine A_move ?_; refine A_nil ?_; refine A_field ?_; refine A_move ?_; refine A_nil ?_; refine A_field ?_; 
     refine A_move ?_; refine A_nil ?_; refine A_field ?_; refine A_load ?_; refine A_loadW ?_; refine A_load ?_; refine A_loadW ?_; refine A_load ?_; refine A_lenM und46 ?_; 
     refine A_load ?_; refine A_lenM und46 ?_)
  refine E_mapEntryK und46 keyIt ez3 rfl (fun _ hU => hU.ch) rfl rfl (by (focus (repeat (first | assumption | (apply MapAt.fr; rotate_left; assumption) | (apply MapAt.upd; rotate_left; assumption; (focus (first | assumption | omega))))))) (by decide) ?_
  intro w6 hU6 hM6
  rw [entK_none hx] at hM6 ⊢
  refine A_extract ?_
  refine E_entryStoreK (j := idx.length) rfl (fun _ hU => hU.ch) rfl rfl rfl hM6 (by simp) ?_
  intro w7 hU7 hM7
  rw [modify_snoc] at hM7
  skip
  refine E_mapEntryK (l := low) und46 keyIt ez3 rfl (fun _ _ => trivial) rfl rfl (by (focus (repeat (first | assumption | (apply MapAt.fr; rotate_left; assumption) | (apply MapAt.upd; rotate_left; assumption; (focus (first | assumption | omega))))))) (by decide) ?_
  intro w8 hU8 hM8
  rw [entK_none hx'] at hM8 ⊢
  refine A_extract ?_
  refine E_entryStoreK (j := low.length) rfl (fun _ _ => trivial) rfl rfl rfl hM8 (by simp) ?_
  intro w9 hU9 hM9
  rw [modify_snoc] at hM9
  (refine a_next ?_; refine e_seq fun K1 hK1 => ?_; refine a_drawn fun w1 hF1 => ?_; have hz1 := hF1.size; refine A_move ?_; refine A_nil ?_; refine A_field ?_; 
     refine A_load ?_; refine A_loadW ?_)
  refine E_mapUpdateK (l := on) und85 keyIt rfl (fun _ _ => trivial) rfl rfl rfl (by (focus (repeat (first | assumption | (apply MapAt.fr; rotate_left; assumption) | (apply MapAt.upd; rotate_left; assumption; (focus (first | assumption | omega))))))) ?_
  intro w10 hU10 hM10
  (refine a_next ?_; refine e_seq fun K1 hK1 => ?_; refine a_drawn fun w1 hF1 => ?_; have hz1 := hF1.size; refine A_move ?_; refine A_move ?_; refine A_nil ?_; 
     refine A_field ?_; refine A_load ?_; refine A_loadW ?_)
  have hCh : Ch (fun g => g = bi ∨ g = bl ∨ g = bo) w w1 := by (focus (repeat (first | assumption | exact Ch.refl _ _ | (apply Ch.trans_fr; rotate_left; assumption) | (apply Ch.trans_upd; rotate_left; assumption; (focus (first | exact Or.inl (by simp) | exact Or.inr (by omega)))))))
  have hst : Sl w1 27 2 itL vs stack := h.st.ch hCh (by
    rintro g hg (rfl | rfl | rfl)
    · exact Row.ne_map h.st hmi hg
    · exact Row.ne_map h.st hml hg
    · exact Row.ne_map h.st hmo hg)
  have hbk : Blk w1 bw 88 _ := hb.ch hCh (by rintro (e | e | e); exact n1 e; exact n2 e; exact n3 e)
  have hm1 : MapAt itV w1 bi (idx ++ [(x, .int .i64 idx.length)]) := by (focus (repeat (first | assumption | (apply MapAt.fr; rotate_left; assumption) | (apply MapAt.upd; rotate_left; assumption; (focus (first | assumption | omega))))))
  have hm2 : MapAt itV w1 bl (low ++ [(x, .int .i64 idx.length)]) := by (focus (repeat (first | assumption | (apply MapAt.fr; rotate_left; assumption) | (apply MapAt.upd; rotate_left; assumption; (focus (first | assumption | omega))))))
  have hm3 : MapAt itV w1 bo (putK on x (.bool true)) := by (focus (repeat (first | assumption | (apply MapAt.fr; rotate_left; assumption) | (apply MapAt.upd; rotate_left; assumption; (focus (first | assumption | omega))))))
  have hb31 : Blk w1 b3 27 (itA x) := by exact blk_
  have hl3 := hb31.lt
  have hz1w := hCh.size
  refine E_lit1 rfl rfl sty39 rfl (by decide) ?_
  intro b11 w11 hF11 hN11 hB11
  have hz11 := hF11.size
  obtain ⟨hn11, hl11⟩ := hN11
  refine E_append (v := vs) (m := stack.length) (xs := cellsOf itL stack) (news := itL x) rfl rfl rfl sty39 (Row.fr hst hF11) rfl (Blk.range (cs := itA x) hB11) (itL_one x) (by omega) (by omega) (fun _ _ => trivial) (by decide) ?_
  intro vs' w12 hC12 hR12 hO12
  have hz12 := hC12.size
  obtain ⟨ps, cs, rfl⟩ := Row.value hR12
  have hB12 := (hbk.fr hF11).ch hC12 (Row.ne_ty h.st hb (by decide))
  (refine A_nil ?_; refine A_field ?_)
  refine E_store1 (o := 4) rfl (fun _ _ _ => trivial) rfl rfl hB12 (by simp only [Try.SI]) rfl (by simp) ?_
  intro w13 hU13 hB13
  have hs13 := hU13.size
  have hCh13 : Ch (walkS bw bi bl bo vs vf vp vm) w w13 := ((((hCh.mono (T := walkS bw bi bl bo vs vf vp vm) fun g _ hg => .inr (hg.elim .inl fun hg => .inr (hg.elim .inl fun hg => .inr (.inl hg)))).trans_fr hF11).trans_ch hC12 fun g hg => .inl (.inr (.inr (.inr (.inr (.inl hg)))))).trans_upd hU13 (.inl (.inl rfl)))
  have hG13 := hG.ch hCh13 (h.graph hG)
  have n31 : vs.ownBlock ≠ some b3 := fun hg => by have := Sl.lt h.st hg; omega
  have hb313 : Blk w13 b3 27 (itA x) := ((hb31.fr hF11).ch hC12 n31).upd hU13 (by omega)
  have hm13 : ∀ {b l}, MapAt itV w1 b l → MapAt itV w13 b l := fun hm => ((hm.fr hF11).ch hC12 (Row.ne_map hst hm)).upd hU13 (fun e => hm.ne_blk hbk e.symm)
  have d1 := hm13 hm1
  have d2 := hm13 hm2
  have d3 := hm13 hm3
  have hst13 : Sl w13 27 2 itL (.slice ps (stack.length + 1) cs) (stack ++ [x]) := by
    unfold Sl
    rw [cellsOf_append, List.length_append]
    have := hR12.ch hU13.ch (fun g hg e => by subst e; exact Row.ne_ty hR12 hB12 (by decide) hg)
    simpa [cellsOf] using this
  have hfr1 : Sl w1 115 3 frL vf frames := h.fr.ch hCh (by
    rintro g hg (rfl | rfl | rfl)
    · exact Row.ne_map h.fr hmi hg
    · exact Row.ne_map h.fr hml hg
    · exact Row.ne_map h.fr hmo hg)
  have hpa1 : Sl w1 39 1 slL vp pvs := h.pa.ch hCh (by
    rintro g hg (rfl | rfl | rfl)
    · exact Row.ne_map h.pa hmi hg
    · exact Row.ne_map h.pa hml hg
    · exact Row.ne_map h.pa hmo hg)
  have hmi1 : Sl w1 27 2 itL vm missing := h.mi.ch hCh (by
    rintro g hg (rfl | rfl | rfl)
    · exact Row.ne_map h.mi hmi hg
    · exact Row.ne_map h.mi hml hg
    · exact Row.ne_map h.mi hmo hg)
  have hfr13 : Sl w13 115 3 frL vf frames := ((hfr1.fr hF11).ch hC12 (Row.ne_row h.fr h.st (by decide))).ch hU13.ch (fun g hg e => Row.ne_ty h.fr hb (by decide) (e ▸ hg))
  have hpa13 : Sl w13 39 1 slL vp pvs := ((hpa1.fr hF11).ch hC12 (Row.ne_row h.pa h.st (by decide))).ch hU13.ch (fun g hg e => Row.ne_ty h.pa hb (by decide) (e ▸ hg))
  have hmi13 : Sl w13 27 2 itL vm missing := ((hmi1.fr hF11).ch hC12 (fun g hg hg' => h.sm g hg' hg)).ch hU13.ch (fun g hg e => Row.ne_ty h.mi hb (by decide) (e ▸ hg))
  have hz13 := hCh13.size
  have hc13 : w13.cell? ⟨bw, 5, none⟩ = some vf := hB13.cell rfl
  have hc0 : w13.cell? ⟨bw, 0, none⟩ = some (.pointer (some ⟨bg, 0, none⟩)) := hB13.cell rfl
  have hlb3 := hb313.lt
  clear hF5 hF11 hC12 hU13 hU10 hU9 hU8 hU7 hU6 hCh
  (refine a_next ?_; refine a_drawn fun w1 hF1 => ?_; have hz1 := hF1.size; refine A_move ?_; refine A_move ?_; refine A_nil ?_; refine A_field ?_; refine A_move ?_; 
     refine A_load ?_; refine A_loadW ?_; refine A_loadW ?_)
  (with_reducible apply E_call); rfl; exact Try.en68; rfl; intro RR1 hRR1
  refine waits68 x _ _ (hG13.fr (by exact fr_)) hdep (by (focus (repeat (first | assumption | (apply Blk.cell; assumption; (focus (first | (simp only [List.getElem?_toArray, List.getElem?_cons_zero, List.getElem?_cons_succ]; done) | (simp only [List.getElem?_toArray, List.getElem?_cons_zero, List.getElem?_cons_succ]; rfl) | assumption | rfl))) | (apply Fr.c; assumption) | (apply Upd.c; assumption; (focus (dsimp only; omega))))))) fun vn w14 hF14 hvn hvo => ?_
  have hz14 := hF14.size
  obtain ⟨pn, cn, rfl⟩ := hvn.value
  refine hRR1 _ _ (by first | assumption | exact trivial) (Nat.le_of_ble_eq_true rfl) ?_; clear hRR1 RR1
  have hbd := build115 x pn (waitsL C O x).length cn
  refine A_build ?_
  have hFX : Fr w13 w14 := by exact fr_
  clear hF1
  refine E_lit1 rfl rfl sty86 rfl (by decide) ?_
  intro b15 w15 hF15 hN15 hB15
  have hz15 := hF15.size
  obtain ⟨hn15, hl15⟩ := hN15
  have hFY := hFX.trans hF15
  have hzY := hFY.size
  refine E_append (v := vf) (m := frames.length) (xs := cellsOf frL frames) (news := frL (x, .slice pn (waitsL C O x).length cn)) rfl rfl rfl sty86 (Row.fr hfr13 hFY) rfl (Blk.range (cs := #[.int .i64 x.1, .int .i64 x.2, .slice pn (waitsL C O x).length cn]) hB15)
    (by intro u hu; simp [frL] at hu; rcases hu with rfl | rfl | rfl <;> rfl) (by omega) (by omega) (fun _ _ => trivial) (by decide) ?_
  intro vf' w16 hC16 hR16 hO16
  have hz16 := hC16.size
  obtain ⟨pf, cf, rfl⟩ := Row.value hR16
  have hB16 := (hB13.fr hFY).ch hC16 (Row.ne_ty hfr13 hB13 (by decide))
  (refine A_nil ?_; refine A_field ?_)
  refine E_store1 (o := 5) rfl (fun _ _ _ => trivial) rfl rfl hB16 (by simp only [Try.SI]) rfl (by simp) ?_
  intro w17 hU17 hB17
  (refine e_norm_nil ?_; refine a_end0 ?_)
  have hcz : ∀ {g : Nat} {t : TypeId} {cs : Array Value}, Blk w13 g t cs → t ≠ 115 → g ≠ bw → Blk w17 g t cs := fun hb' hne hg => ((hb'.fr hFY).ch hC16 (Row.ne_ty hfr13 hb' (Ne.symm hne))).upd hU17 hg
  have hmz : ∀ {b l}, MapAt itV w13 b l → MapAt itV w17 b l := fun hm => ((hm.fr hFY).ch hC16 (Row.ne_map hfr13 hm)).upd hU17 (fun e => hm.ne_blk hB13 e.symm)
  have hlf13 : ∀ g, vf.ownBlock = some g → g < w13.heap.size := fun g hg => Sl.lt hfr13 hg
  have hsz : ∀ {e k n : Nat} {v : Value} {cs : List Value}, Row w13 e k v n cs → e ≠ 115 → e ≠ 88 → Row w17 e k v n cs := fun hr hne hne2 => ((Row.fr hr hFY).ch hC16 (Row.ne_row hr hfr13 hne)).ch hU17.ch (fun g hg e => Row.ne_ty hr hB13 hne2 (e ▸ hg))
  refine hR w17 (.slice ps (stack.length + 1) cs) (.slice pf (frames.length + 1) cf) (.slice pn (waitsL C O x).length cn) ⟨by simpa using hB17, hmz d1, hmz d2, hmz d3, hsz hst13 (by decide) (by decide), ?_, hsz hpa13 (by decide) (by decide), hsz hmi13 (by decide) (by decide), il, io, lo, ?_⟩ ?_ ?_ ?_ ?_ ?_ ?_
  · unfold Sl
    rw [cellsOf_append, List.length_append]
    have := hR16.ch hU17.ch (fun g hg e => by subst e; exact Row.ne_ty hR16 hB16 (by decide) hg)
    simpa [cellsOf] using this
  · intro g hg hg'
    rcases hO12 g hg with h1 | h1
    · exact h.sm g h1 hg'
    · have := Sl.lt h.mi hg'; omega
  · have hr1 : Row w14 27 2 _ _ _ := hvn
    have hn1 : ∀ g, (Value.slice pn (waitsL C O x).length cn).ownBlock = some g → vf.ownBlock ≠ some g := fun g hg hg' => by have := hlf13 g hg'; have := hvo g hg; omega
    have hn2 : ∀ g, (Value.slice pn (waitsL C O x).length cn).ownBlock = some g → g ≠ bw := fun g hg e => by have := hvo g hg; have := hB13.lt; omega
    exact ((hr1.fr hF15).ch hC16 hn1).ch hU17.ch hn2
  · exact fun g hg => by have := hvo g hg; omega
  · intro g hg hg'
    have := hvo g hg
    have := hst13.lt hg'
    omega
  · exact ((hCh13.trans_fr hFY).trans_ch hC16 fun g hg => .inl (.inr (.inr (.inr (.inr (.inr (.inl hg))))))).trans_upd hU17 (.inl (.inl rfl))
  · exact fun g hg => (hO12 g hg).imp id (fun h1 => by omega)
  · exact fun g hg => (hO16 g hg).imp id (fun h1 => by omega)
end
end Go.Proofs.Ytjocklgihjbaiaa
end
section
/- Functions of package slices at items: Index, Contains, Clone. -/
namespace Go.Proofs.Ytjocklgihjbaiaa
open Go.RowKit
theorem rangeAt_part {α : Type} {enc : α → List Value} {k : Nat} (hk : ∀ x, (enc x).length = k) {w : World} {g o : Nat} {xs : List α} (h : w.rangeAt g o (cellsOf enc xs)) {i : Nat} {y : α} (hi : xs[i]? = some y) : w.rangeAt g (o + i * k) (enc y) := fun j u hj => by
  have e := cellsOf_part hk xs i y hi
  have hj' : ((cellsOf enc xs).drop (i * k))[j]? = some u := by
    have h1 : (((cellsOf enc xs).drop (i * k)).take k)[j]? = some u := by rw [e]; exact hj
    rw [List.getElem?_take] at h1
    split at h1
    · exact h1
    · cases h1
  rw [List.getElem?_drop] at hj'
  have := h (i * k + j) u hj'
  rwa [← Nat.add_assoc] at this
/-- A slice that can be read: it may begin anywhere in a block. -/
def Rd {α : Type} (w : World) (enc : α → List Value) (v : Value) (xs : List α) : Prop :=
  ∃ p c, v = .slice p xs.length c ∧ (xs.length : Int) ≤ 9223372036854775807 ∧ ((xs = [] ∧ p = none) ∨ ∃ g o, p = some ⟨g, o, none⟩ ∧ w.rangeAt g o (cellsOf enc xs) ∧ g < w.heap.size)
theorem Sl.rd {α : Type} {w : World} {e : TypeId} {k : Nat} {enc : α → List Value} {v : Value} {xs : List α} (h : Sl w e k enc v xs) : Rd w enc v xs := by
  have hm := h.len_le
  rcases h.2 with ⟨rfl, h0⟩ | ⟨g, cap, cur, rfl, _, hb, _⟩
  · have : xs = [] := List.eq_nil_of_length_eq_zero h0
    subst this
    exact ⟨none, 0, rfl, by simp, .inl ⟨rfl, rfl⟩⟩
  · refine ⟨_, cap, rfl, hm, .inr ⟨g, 0, rfl, fun j u hj => ?_, Blk.lt (t := e) (cs := cur) hb⟩⟩
    rw [Nat.zero_add]
    exact Row.cell (g := g) (v := .slice (some ⟨g, 0, none⟩) xs.length cap) h rfl hj
theorem Rd.fr {α : Type} {w w' : World} {enc : α → List Value} {v : Value} {xs : List α} (h : Rd w enc v xs) (hF : Fr w w') : Rd w' enc v xs := by
  obtain ⟨p, c, h1, h2, h3⟩ := h
  exact ⟨p, c, h1, h2, h3.imp id fun ⟨g, o, h4, h5, h6⟩ => ⟨g, o, h4, rangeAt_fr h5 hF, hF.lt h6⟩⟩
/-- The first place of a thing; -1: it is in none. -/
def indexI (x : It) (xs : List It) : Int := match xs.findIdx? (· = x) with | some i => i | none => -1
theorem indexI_at {x : It} {xs : List It} {i : Nat} (hall : ∀ j, j < i → xs[j]? ≠ some x) (hi : xs[i]? = some x) : indexI x xs = i := by
  obtain ⟨hlt, he⟩ := List.getElem?_eq_some_iff.1 hi
  have : xs.findIdx? (· = x) = some i := by
    rw [List.findIdx?_eq_some_iff_getElem]
    exact ⟨hlt, by simp [he], fun j hj => by
      have := hall j hj
      rw [List.getElem?_eq_getElem (by omega)] at this
      simpa using this⟩
  simp [indexI, this]
theorem indexI_none {x : It} {xs : List It} (hall : ∀ j, j < xs.length → xs[j]? ≠ some x) : indexI x xs = -1 := by
  have : xs.findIdx? (· = x) = none := by
    rw [List.findIdx?_eq_none_iff]
    intro y hy
    obtain ⟨j, hj, rfl⟩ := List.getElem_of_mem hy
    have := hall j hj
    rw [List.getElem?_eq_getElem hj] at this
    simpa using this
  simp [indexI, this]
theorem indexI_mem (x : It) (xs : List It) : decide (0 ≤ indexI x xs) = decide (x ∈ xs) := by
  by_cases h : x ∈ xs
  · have h1 : (xs.findIdx? (· = x)).isSome = true := by
      rw [List.findIdx?_isSome, List.any_eq_true]
      exact ⟨x, h, by simp⟩
    obtain ⟨i, hi⟩ := Option.isSome_iff_exists.1 h1
    simp [indexI, hi, h]
  · have : xs.findIdx? (· = x) = none := by
      rw [List.findIdx?_eq_none_iff]
      intro y hy
      simp only [decide_eq_false_iff_not]
      rintro rfl
      exact h hy
    simp [indexI, this, h]
section
variable (x : It) (v : Value) (xs : List It) (w : World) (RR : Ending → World → Prop)
set_option maxRecDepth 10000 in
set_option maxHeartbeats 1000000 in
theorem index52 (h : Rd w itL v xs) (hR : ∀ w', Fr w w' → RR (.returned (.int .i64 (indexI x xs))) w') : Calls Try.prog 52 #[v, itV x] w RR := by
  obtain ⟨p, c, rfl, hlen, hp⟩ := h
  refine e_enter (n := ⟨19, []⟩) Try.mixed Try.func52 Try.p52 Try.x52 Try.fb52 Try.hx52 Try.ok52 rfl rfl (by simp) ?_; simp only [Try.x52, argEnv, Nat.zero_add, Nat.reduceAdd]
  (refine e_seq fun K1 hK1 => ?_; refine e_region ?_; refine A_box fun b1 w1 hF1 hN1 hB1 => ?_; have hz1 := hF1.size; obtain ⟨hn1, hl1⟩ := hN1; refine A_assign ?_; 
     refine a_next ?_; refine e_seq fun K1 hK1 => ?_; refine e_seq fun K1 hK1 => ?_; refine e_region ?_; refine A_move ?_; refine A_lenS ?_; refine A_move ?_; refine a_next ?_; 
     refine e_block ?_)
  have ⟨b3, hb3⟩ : ∃ b3, b3 = b1 := ⟨_, rfl⟩
  subst hb3
  refine e_loop Try.mixed Try.p52 Try.lp52baba Try.hx52babal Try.ok52babal (fun i : Nat => [(0, .slice p xs.length c), (3, .pointer (some ⟨b3, 0, none⟩)), (7, .int .i64 xs.length), (8, .int .i64 i)])
    (fun i W => i ≤ xs.length ∧ (∀ j, j < i → xs[j]? ≠ some x) ∧ Fr w W ∧ Blk W b3 27 (itA x)) (fun i => xs.length - i) 0 (by exact sub_) ⟨Nat.zero_le _, (fun j hj => absurd hj (Nat.not_lt_zero j)), by exact fr_, by exact blk_⟩ ?_
  rintro i w2 ⟨hi, hall, hF2, hb2⟩
  have hz2 := hF2.size
  simp only [Try.x52babal]
  by_cases hlt : i < xs.length
  · obtain ⟨g, o, rfl, hr, hg⟩ := hp.resolve_left (by rintro ⟨rfl, _⟩; simp at hlt)
    have hget : xs[i]? = some xs[i] := List.getElem?_eq_getElem hlt
    have hra : w2.rangeAt g (o + i * 2) (itA xs[i]).toList := rangeAt_fr (rangeAt_part itL_len hr hget) hF2
    by_cases he : x = xs[i]
    · (refine e_seq fun K1 hK1 => ?_; refine e_region ?_; refine A_lss ?_; refine a_next ?_; refine e_seq fun K1 hK1 => ?_; refine a_true ?_; refine a_nextC ?_; 
       refine e_seq fun K1 hK1 => ?_; refine e_block ?_; refine e_seq fun K1 hK1 => ?_; refine e_region ?_; refine A_move ?_; refine A_assign ?_; refine a_next ?_; 
       refine e_seq fun K1 hK1 => ?_; refine a_drawn fun w1 hF1 => ?_; have hz1 := hF1.size; refine A_move ?_; refine A_move ?_; refine A_idxS ?_; refine A_loadW ?_; 
       refine A_loads ?_; refine A_eqK keyIt ?_; refine a_next ?_; refine a_true ?_; refine e_seq fun K1 hK1 => ?_; refine e_region ?_; refine A_move ?_; refine A_assign ?_; 
       refine a_next ?_; refine e_ret_block ?_; refine e_ret_then ?_; refine e_ret_then ?_; refine e_ret_block ?_; refine e_ret_then ?_; refine a_ret1 ?_)
      exact (indexI_at hall (by rw [hget, ← he])) ▸ hR _ (by exact fr_)
    · (refine e_seq fun K1 hK1 => ?_; refine e_region ?_; refine A_lss ?_; refine a_next ?_; refine e_seq fun K1 hK1 => ?_; refine a_true ?_; refine a_nextC ?_; 
       refine e_seq fun K1 hK1 => ?_; refine e_block ?_; refine e_seq fun K1 hK1 => ?_; refine e_region ?_; refine A_move ?_; refine A_assign ?_; refine a_next ?_; 
       refine e_seq fun K1 hK1 => ?_; refine a_drawn fun w1 hF1 => ?_; have hz1 := hF1.size; refine A_move ?_; refine A_move ?_; refine A_idxS ?_; refine A_loadW ?_; 
       refine A_loads ?_; refine A_eqK keyIt ?_; refine a_next ?_; refine a_false ?_; refine e_norm_skip ?_; refine e_norm_block ?_; refine a_norm_then ?_; refine e_region ?_; 
       refine A_add ?_; refine A_move ?_; refine e_norm_nil ?_)
      refine e_againN (i + 1) (by omega) ⟨by omega, fun j hj => ?_, by exact fr_, by exact blk_⟩ rfl (by exact sub_)
      rcases Nat.lt_or_eq_of_le (Nat.lt_succ_iff.1 hj) with h | rfl
      · exact hall j h
      · rw [hget]; intro e; injection e with e; exact he e.symm
  · (refine e_seq fun K1 hK1 => ?_; refine e_region ?_; refine A_lss ?_; refine a_next ?_; refine e_seq fun K1 hK1 => ?_; refine a_false ?_; refine e_exit_then ?_; 
     refine e_exit_then ?_; refine e_exit_here ?_; refine a_norm_then ?_; refine e_seq fun K1 hK1 => ?_; refine e_region ?_; refine A_assign ?_; refine a_next ?_; 
     refine a_ret1 ?_)
    exact (indexI_none (fun j hj => hall j (by omega))) ▸ hR _ (by exact fr_)
set_option maxRecDepth 10000 in
theorem contains32 (h : Rd w itL v xs) (hR : ∀ w', Fr w w' → RR (.returned (.bool (decide (x ∈ xs)))) w') : Calls Try.prog 32 #[v, itV x] w RR := by
  refine e_enter (n := ⟨9, []⟩) Try.mixed Try.func32 Try.p32 Try.x32 Try.fb32 Try.hx32 Try.ok32 rfl rfl (by simp) ?_; simp only [Try.x32, argEnv, Nat.zero_add, Nat.reduceAdd]
  (refine e_seq fun K1 hK1 => ?_; refine e_region ?_; refine A_box fun b1 w1 hF1 hN1 hB1 => ?_; have hz1 := hF1.size; obtain ⟨hn1, hl1⟩ := hN1; refine A_assign ?_; 
     refine a_next ?_; refine e_seq fun K1 hK1 => ?_; refine e_region ?_; refine A_move ?_; refine A_loadW ?_)
  (with_reducible apply E_call); rfl; exact Try.en52; rfl; intro RR1 hRR1
  refine index52 x v xs _ _ (h.fr (by exact fr_)) fun w2 hF2 => ?_
  have hz2 := hF2.size
  refine hRR1 _ _ (by first | assumption | exact trivial) (Nat.le_of_ble_eq_true rfl) ?_; clear hRR1 RR1
  (refine A_geq ?_; refine A_assign ?_; refine a_next ?_; refine a_ret1 ?_)
  exact (indexI_mem x xs) ▸ hR _ (by exact fr_)
set_option maxRecDepth 10000 in
set_option maxHeartbeats 1000000 in
theorem clone30 (h : Rd w itL v xs) (hb : xs.length ≤ 1000000) (hR : ∀ v' w', Fr w w' → Sl w' 27 2 itL v' xs → (∀ g, v'.ownBlock = some g → w.heap.size ≤ g) → RR (.returned v') w') : Calls Try.prog 30 #[v] w RR := by
  obtain ⟨p, c, rfl, hlen, hp⟩ := h
  rcases hp with ⟨rfl, rfl⟩ | ⟨g, o, rfl, hr, hg⟩
  · refine e_enter (n := ⟨8, []⟩) Try.mixed Try.func30 Try.p30 Try.x30 Try.fb30 Try.hx30 Try.ok30 rfl rfl (by simp) ?_; simp only [Try.x30, argEnv, Nat.zero_add, Nat.reduceAdd]
    (refine e_seq fun K1 hK1 => ?_; refine e_region ?_; refine A_assign ?_; refine a_next ?_; refine e_seq fun K1 hK1 => ?_; refine e_seq fun K1 hK1 => ?_; refine e_region ?_; 
       refine A_move ?_; refine A_eqlnilS ?_; refine a_next ?_; refine a_true ?_; refine e_seq fun K1 hK1 => ?_; refine e_region ?_; refine A_assign ?_; refine a_next ?_; 
       refine e_ret_then ?_; refine a_ret1 ?_)
    exact hR _ _ (by exact fr_) Sl.nil (fun g hg => by simp [Value.ownBlock] at hg)
  · refine e_enter (n := ⟨8, []⟩) Try.mixed Try.func30 Try.p30 Try.x30 Try.fb30 Try.hx30 Try.ok30 rfl rfl (by simp) ?_; simp only [Try.x30, argEnv, Nat.zero_add, Nat.reduceAdd]
    (refine e_seq fun K1 hK1 => ?_; refine e_region ?_; refine A_assign ?_; refine a_next ?_; refine e_seq fun K1 hK1 => ?_; refine e_seq fun K1 hK1 => ?_; refine e_region ?_; 
       refine A_move ?_; refine A_eqlnilS ?_; refine a_next ?_; refine a_false ?_; refine a_nextC ?_; refine e_seq fun K1 hK1 => ?_; refine e_region ?_)
    refine E_lit0 rfl sty39 (by decide) ?_
    intro b6 w6 hF6 hN6 hB6
    have hz6 := hF6.size
    obtain ⟨hn6, hl6⟩ := hN6
    refine A_move ?_
    have hFX : Fr w w6 := by exact fr_
    have hzX := hFX.size
    have hrow : Row w6 27 2 (.slice (some ⟨b6, 0, none⟩) 0 0) 0 [] := ⟨rfl, .inr ⟨b6, 0, #[], rfl, Nat.zero_le _, hB6, Nat.le_refl _, Nat.zero_le _, by simp, by simp⟩⟩
    refine E_append (v := .slice (some ⟨b6, 0, none⟩) 0 0) (m := 0) (xs := []) (news := cellsOf itL xs) rfl rfl rfl sty39 hrow (cellsOf_length itL_len xs) (rangeAt_fr hr hFX) (fun u hu => by
      simp only [cellsOf, List.mem_flatMap] at hu
      obtain ⟨y, _, hy⟩ := hu
      exact itL_one y u hy) (by omega) (by omega) (fun _ _ => trivial) (by decide) ?_
    intro v' w7 hC7 hR7 hO7
    rw [Nat.zero_add, List.nil_append] at hR7
    (refine A_assign ?_; refine a_next ?_; refine a_ret1 ?_)
    have hb6w : w.heap.size ≤ b6 := by have := hzX; omega
    have own6 : ∀ k, (Value.slice (some ⟨b6, 0, none⟩) 0 0).ownBlock = some k → w.heap.size ≤ k := fun k hk => by
      have e : b6 = k := by simpa [Value.ownBlock] using hk
      omega
    exact hR v' w7 (hFX.more hC7 own6) hR7 (fun g hg => (hO7 g hg).elim (own6 g) (fun h => by omega))
end
end Go.Proofs.Ytjocklgihjbaiaa
end
section
/- Functions of package slices at items: IndexFunc, DeleteFunc, at what is done in a graph. -/
namespace Go.Proofs.Ytjocklgihjbaiaa
open Go.RowKit
def indexP (p : It → Bool) (xs : List It) : Int := match xs.findIdx? p with | some i => i | none => -1
theorem indexP_at {p : It → Bool} {xs : List It} {i : Nat} (hall : ∀ (j : Nat) (y : It), j < i → xs[j]? = some y → p y = false) {x : It} (hi : xs[i]? = some x) (hp : p x = true) : indexP p xs = i := by
  obtain ⟨hlt, he⟩ := List.getElem?_eq_some_iff.1 hi
  have : xs.findIdx? p = some i := by
    rw [List.findIdx?_eq_some_iff_getElem]
    refine ⟨hlt, by rw [he]; exact hp, fun j hj => ?_⟩
    have := hall j xs[j] hj (List.getElem?_eq_getElem (by omega))
    simp [this]
  simp [indexP, this]
theorem indexP_none {p : It → Bool} {xs : List It} (hall : ∀ (j : Nat) (y : It), j < xs.length → xs[j]? = some y → p y = false) : indexP p xs = -1 := by
  have : xs.findIdx? p = none := by
    rw [List.findIdx?_eq_none_iff]
    intro y hy
    obtain ⟨j, hj, rfl⟩ := List.getElem_of_mem hy
    exact hall j _ hj (List.getElem?_eq_getElem hj)
  simp [indexP, this]
abbrev overV (bg : Nat) : Value := .func (.func 41) #[.pointer (some ⟨bg, 0, none⟩)] #[]
section
variable {bg : Nat} {n : Int} {C : It → Option CallD} {O : It → Bool} {F : Nat → Prop} (v : Value) (xs : List It) (w : World) (RR : Ending → World → Prop)
set_option maxRecDepth 10000 in
set_option maxHeartbeats 1000000 in
theorem indexFunc71 (hG : GraphAt w bg n C O F) (h : Rd w itL v xs) (hR : ∀ w', Fr w w' → RR (.returned (.int .i64 (indexP O xs))) w') : Calls Try.prog 71 #[v, overV bg] w RR := by
  obtain ⟨p, c, rfl, hlen, hp⟩ := h
  refine e_enter (n := ⟨19, []⟩) Try.mixed Try.func71 Try.p71 Try.x71 Try.fb71 Try.hx71 Try.ok71 rfl rfl (by simp) ?_; simp only [Try.x71, argEnv, Nat.zero_add, Nat.reduceAdd]
  (refine e_seq fun K1 hK1 => ?_; refine e_region ?_; refine A_assign ?_; refine a_next ?_; refine e_seq fun K1 hK1 => ?_; refine e_seq fun K1 hK1 => ?_; refine e_region ?_; 
     refine A_move ?_; refine A_lenS ?_; refine A_move ?_; refine a_next ?_; refine e_block ?_)
  refine e_loop Try.mixed Try.p71 Try.lp71baba Try.hx71babal Try.ok71babal (fun i : Nat => [(0, .slice p xs.length c), (1, overV bg), (7, .int .i64 xs.length), (8, .int .i64 i)])
    (fun i W => i ≤ xs.length ∧ (∀ (j : Nat) (y : It), j < i → xs[j]? = some y → O y = false) ∧ Fr w W) (fun i => xs.length - i) 0 (by exact sub_) ⟨Nat.zero_le _, (fun j _ hj => absurd hj (Nat.not_lt_zero j)), Fr.refl _⟩ ?_
  rintro i w2 ⟨hi, hall, hF2⟩
  have hz2 := hF2.size
  simp only [Try.x71babal]
  by_cases hlt : i < xs.length
  · obtain ⟨g, o, rfl, hr, hg⟩ := hp.resolve_left (by rintro ⟨rfl, _⟩; simp at hlt)
    have hget : xs[i]? = some xs[i] := List.getElem?_eq_getElem hlt
    have hra : w2.rangeAt g (o + i * 2) (itA xs[i]).toList := rangeAt_fr (rangeAt_part itL_len hr hget) hF2
    (refine e_seq fun K1 hK1 => ?_; refine e_region ?_; refine A_lss ?_; refine a_next ?_; refine e_seq fun K1 hK1 => ?_; refine a_true ?_; refine a_nextC ?_; 
       refine e_seq fun K1 hK1 => ?_; refine e_block ?_; refine e_seq fun K1 hK1 => ?_; refine e_region ?_; refine A_move ?_; refine A_assign ?_; refine a_next ?_; 
       refine e_seq fun K1 hK1 => ?_; refine e_region ?_; refine A_move ?_; refine A_move ?_; refine A_move ?_; refine A_idxS ?_; refine A_loads ?_)
    refine E_callV rfl rfl Try.en41 rfl fun RR1 hRR1 => ?_
    refine over41 xs[i] _ _ (hG.fr (by exact fr_)) fun w4 hF4 => ?_
    have hz4 := hF4.size
    refine hRR1 _ _ (by first | assumption | exact trivial) (Nat.le_of_ble_eq_true rfl) ?_; clear hRR1 RR1
    cases ho : O xs[i] with
    | true =>
      (refine a_next ?_; refine a_true ?_; refine e_seq fun K1 hK1 => ?_; refine e_region ?_; refine A_move ?_; refine A_assign ?_; refine a_next ?_; refine e_ret_block ?_; 
         refine e_ret_then ?_; refine e_ret_then ?_; refine e_ret_block ?_; refine e_ret_then ?_; refine a_ret1 ?_)
      exact (indexP_at hall hget ho) ▸ hR _ (by exact fr_)
    | false =>
      (refine a_next ?_; refine a_false ?_; refine e_norm_skip ?_; refine e_norm_block ?_; refine a_norm_then ?_; refine e_region ?_; refine A_add ?_; refine A_move ?_; 
         refine e_norm_nil ?_)
      refine e_againN (i + 1) (by omega) ⟨by omega, fun j y hj hy => ?_, by exact fr_⟩ rfl (by exact sub_)
      rcases Nat.lt_or_eq_of_le (Nat.lt_succ_iff.1 hj) with h | rfl
      · exact hall j y h hy
      · rw [hget] at hy; injection hy with hy; rw [← hy]; exact ho
  · (refine e_seq fun K1 hK1 => ?_; refine e_region ?_; refine A_lss ?_; refine a_next ?_; refine e_seq fun K1 hK1 => ?_; refine a_false ?_; refine e_exit_then ?_; 
     refine e_exit_then ?_; refine e_exit_here ?_; refine a_norm_then ?_; refine e_seq fun K1 hK1 => ?_; refine e_region ?_; refine A_assign ?_; refine a_next ?_; 
     refine a_ret1 ?_)
    exact (indexP_none (fun j y hj hy => hall j y (by omega) hy)) ▸ hR _ (by exact fr_)
theorem indexP_spec (p : It → Bool) (xs : List It) : (indexP p xs = -1 ∧ xs.filter p = []) ∨ ∃ i, indexP p xs = (i : Nat) ∧ i < xs.length ∧ (xs.take (i + 1)).filter (fun y => !p y) = xs.take i := by
  cases h : xs.findIdx? p with
  | none =>
    left
    refine ⟨by simp [indexP, h], ?_⟩
    rw [List.filter_eq_nil_iff]
    intro y hy
    have := List.findIdx?_eq_none_iff.1 h y hy
    simp [this]
  | some i =>
    right
    obtain ⟨hlt, hp, hall⟩ := List.findIdx?_eq_some_iff_getElem.1 h
    refine ⟨i, by simp [indexP, h], hlt, ?_⟩
    rw [List.take_succ_eq_append_getElem hlt, List.filter_append, List.filter_cons_of_neg (by simp [hp]), List.filter_nil, List.append_nil, List.filter_eq_self]
    intro y hy
    obtain ⟨j, hj, rfl⟩ := List.getElem_of_mem hy
    rw [List.length_take] at hj
    have := hall j (by omega)
    simp only [List.getElem_take]
    simpa using this
theorem slicedHi (g h m s : Nat) : sliced (some ⟨g, 0, none⟩) 0 h m s = .slice (some ⟨g, 0, none⟩) h m := by
  unfold sliced
  simp only [Option.map_some, Nat.zero_mul, Nat.sub_zero]
  split <;> first | rfl | (rw [Addr.add_mid])
theorem slicedLo (g l len m s : Nat) : sliced (some ⟨g, 0, none⟩) l len m s = .slice (some ⟨g, if m = l then 0 else l * s, none⟩) (len - l) (m - l) := by
  unfold sliced
  simp only [Option.map_some]
  split <;> first | rfl | (rw [Addr.add_mid, Nat.zero_add])
set_option maxRecDepth 10000 in
set_option maxHeartbeats 2000000 in
theorem deleteFunc54 (hG : GraphAt w bg n C O F) (h : Sl w 27 2 itL v xs) (hR : ∀ v' w', Ch (fun g => v.ownBlock = some g) w w' → Sl w' 27 2 itL v' (xs.filter (fun y => !O y)) → (∀ g, v'.ownBlock = some g → v.ownBlock = some g) → RR (.returned v') w') :
    Calls Try.prog 54 #[v, overV bg] w RR := by
  have hlen := h.len_le
  obtain ⟨p, c, rfl⟩ := h.value
  refine e_enter (n := ⟨42, []⟩) Try.mixed Try.func54 Try.p54 Try.x54 Try.fb54 Try.hx54 Try.ok54 rfl rfl (by simp) ?_; simp only [Try.x54, argEnv, Nat.zero_add, Nat.reduceAdd]
  (refine e_seq fun K1 hK1 => ?_; refine e_region ?_; refine A_assign ?_; refine a_next ?_; refine e_seq fun K1 hK1 => ?_; refine e_region ?_; refine A_move ?_; 
     refine A_move ?_)
  (with_reducible apply E_call); rfl; exact Try.en71; rfl; intro RR1 hRR1
  refine indexFunc71 _ xs _ _ hG h.rd fun w2 hF2 => ?_
  have hz2 := hF2.size
  refine hRR1 _ _ (by first | assumption | exact trivial) (Nat.le_of_ble_eq_true rfl) ?_; clear hRR1 RR1
  rcases indexP_spec O xs with ⟨he, hf⟩ | ⟨i0, he, hi0, hf0⟩
  · rw [he]
    (refine A_assign ?_; refine a_next ?_; refine e_seq fun K1 hK1 => ?_; refine e_seq fun K1 hK1 => ?_; refine e_region ?_; refine A_move ?_; refine A_eql ?_; 
       refine a_next ?_; refine a_true ?_; refine e_seq fun K1 hK1 => ?_; refine e_region ?_; refine A_move ?_; refine A_assign ?_; refine a_next ?_; refine e_ret_then ?_; 
       refine a_ret1 ?_)
    refine hR _ _ ((show Fr w _ by exact fr_).ch _) ?_ (fun g hg => hg)
    rw [show xs.filter (fun y => !O y) = xs from List.filter_eq_self.2 (fun y hy => by
      have := List.filter_eq_nil_iff.1 hf y hy
      simpa using this)]
    exact h.fr (by exact fr_)
  · rw [he]
    obtain ⟨g, c', hve, hgl, _⟩ := h.at_ itL_len (List.getElem?_eq_getElem hi0)
    injection hve with e1 _ e2
    subst e1 e2
    have hgF : ∀ g', F g' → ¬ (Value.slice (some ⟨g, 0, none⟩) xs.length c).ownBlock = some g' := fun g' hg' e => by
      obtain ⟨t, cs, hb, n1, _⟩ := hG.ty hg'
      exact Row.ne_ty h hb (Ne.symm n1) e
    (refine A_assign ?_; refine a_next ?_; refine e_seq fun K1 hK1 => ?_; refine e_seq fun K1 hK1 => ?_; refine e_region ?_; refine A_move ?_; refine A_eql ?_; 
       refine a_next ?_; refine a_false ?_; refine a_nextC ?_; refine e_seq fun K1 hK1 => ?_; refine e_seq fun K1 hK1 => ?_; refine e_region ?_; refine A_move ?_; 
       refine A_add ?_; refine A_assign ?_; refine a_next ?_; refine e_block ?_)
    refine e_loop Try.mixed Try.p54 Try.lp54bbbaba Try.hx54bbbabal Try.ok54bbbabal (fun q : Nat × Nat => [(0, .slice (some ⟨g, 0, none⟩) xs.length c), (1, overV bg), (5, .int .i64 q.1), (6, .int .i64 q.2)])
      (fun q W => ∃ ys : List It, ys.length = xs.length ∧ Sl W 27 2 itL (.slice (some ⟨g, 0, none⟩) xs.length c) ys ∧ q.1 < q.2 ∧ q.2 ≤ xs.length ∧ ys.take q.1 = (xs.take q.2).filter (fun y => !O y) ∧ ys.drop q.2 = xs.drop q.2 ∧ Ch (fun g' => (Value.slice (some ⟨g, 0, none⟩) xs.length c).ownBlock = some g') w W)
      (fun q => xs.length - q.2) (i0, i0 + 1) (by exact sub_) ⟨xs, rfl, h.fr (by exact fr_), Nat.lt_succ_self _, hi0, hf0.symm, rfl, (show Fr w _ by exact fr_).ch _⟩ ?_
    rintro ⟨i, j⟩ w3 ⟨ys, hyl, hys, hij, hjl, htk, hdr, hC3⟩
    simp only at hij hjl htk hdr
    have hz3 := hC3.size
    clear hF2
    simp only [Try.x54bbbabal]
    by_cases hlt : j < xs.length
    · have hyj : ys[j]? = some xs[j] := by
        have e1 : ys[j]? = (ys.drop j)[0]? := by rw [List.getElem?_drop, Nat.add_zero]
        have e2 : xs[j]? = (xs.drop j)[0]? := by rw [List.getElem?_drop, Nat.add_zero]
        rw [e1, hdr, ← e2, List.getElem?_eq_getElem hlt]
      obtain ⟨g2, c2, hve2, hgl2, hra⟩ := hys.at_ itL_len hyj
      injection hve2 with e1 _ _
      injection e1 with e1
      injection e1 with e1 _ _
      subst e1
      have hG3 := hG.ch hC3 hgF
      have hra2 : w3.rangeAt g (j * 2) (itA xs[j]).toList := hra
      (refine e_seq fun K1 hK1 => ?_; refine e_seq fun K1 hK1 => ?_; refine e_region ?_; refine A_move ?_; refine A_move ?_; refine A_lenS ?_; refine A_lss ?_; refine a_next ?_; 
         refine a_true ?_; refine a_nextC ?_; refine e_seq fun K1 hK1 => ?_; refine e_block ?_; refine e_seq fun K1 hK1 => ?_; refine e_region ?_; refine A_move ?_; 
         refine A_move ?_; refine A_idxS ?_; refine A_loads ?_; refine A_alloc fun b1 w1 hF1 hN1 hB1 => ?_; have hz1 := hF1.size; obtain ⟨hn1, hl1⟩ := hN1; 
         refine A_storeW fun w1 hU1 hB1 => ?_; refine a_next ?_; refine e_seq fun K1 hK1 => ?_; refine e_region ?_; refine A_move ?_; refine A_loadW ?_)
      refine E_callV rfl rfl Try.en41 rfl fun RR1 hRR1 => ?_
      refine over41 xs[j] _ _ (hG3.fr (by exact fr_)) fun w4 hF4 => ?_
      have hz4 := hF4.size
      refine hRR1 _ _ (by first | assumption | exact trivial) (Nat.le_of_ble_eq_true rfl) ?_; clear hRR1 RR1
      have hstep : (xs.take (j + 1)).filter (fun y => !O y) = (xs.take j).filter (fun y => !O y) ++ if O xs[j] = true then [] else [xs[j]] := by
        rw [List.take_succ_eq_append_getElem hlt, List.filter_append]
        congr 1
        by_cases hO : O xs[j] = true <;> simp [hO]
      have hdr' : ys.drop (j + 1) = xs.drop (j + 1) := by rw [← List.drop_drop, ← List.drop_drop, hdr]
      cases ho : O xs[j] with
      | true =>
        (refine A_not ?_; refine a_next ?_; refine a_false ?_; refine e_norm_skip ?_; refine e_norm_block ?_; refine a_norm_then ?_; refine e_region ?_; refine A_move ?_; 
           refine A_add ?_; refine A_assign ?_; refine e_norm_nil ?_)
        refine e_againN (i, j + 1) (by show xs.length - (j + 1) < xs.length - j; omega) ⟨ys, hyl, hys.fr (by exact fr_), by show i < j + 1; omega, hlt, by show ys.take i = _; rw [hstep, ho, htk]; simp, hdr', hC3.trans_fr (by exact fr_)⟩ rfl (by exact sub_)
      | false =>
        obtain ⟨g3, c3, cur, hve3, hbg, hfit, hput⟩ := hys.put itL_len (i := i) (by omega) xs[j]
        injection hve3 with e1 _ _
        injection e1 with e1
        injection e1 with e1 _ _
        subst e1
        (refine A_not ?_; refine a_next ?_; refine a_true ?_; refine e_seq fun K1 hK1 => ?_; refine e_region ?_; refine A_move ?_; refine A_move ?_; refine A_loadW ?_; 
           refine A_idxS ?_)
        have hFX : Fr w3 w4 := by exact fr_
        refine E_store (o := i * 2) rfl (fun _ _ _ => trivial) rfl rfl (hbg.fr hFX) (by simp only [Try.SI]; rfl) (by show (itA xs[j]).all _ = true; rw [← Array.all_toList]; rfl) hfit rfl ?_
        intro w5 hU5 hB5
        have hys5 := hput w5 hB5
        clear hF4
        (refine a_next ?_; refine e_region ?_; refine A_move ?_; refine A_add ?_; refine A_assign ?_; refine e_norm_nil ?_; refine e_norm_block ?_; refine a_norm_then ?_; 
           refine e_region ?_; refine A_move ?_; refine A_add ?_; refine A_assign ?_; refine e_norm_nil ?_)
        refine e_againN (i + 1, j + 1) (by show xs.length - (j + 1) < xs.length - j; omega) ⟨ys.set i xs[j], by rw [List.length_set]; exact hyl, hys5, by show i + 1 < j + 1; omega, hlt, ?_, ?_, (hC3.trans_fr hFX).trans_upd hU5 (.inl rfl)⟩ rfl (by exact sub_)
        · show (ys.set i xs[j]).take (i + 1) = _
          rw [hstep, ho, ← htk]
          have hi : i < (ys.set i xs[j]).length := by rw [List.length_set]; omega
          rw [List.take_succ_eq_append_getElem hi, List.getElem_set_self, List.take_set_of_le (Nat.le_refl _)]
          simp
        · show (ys.set i xs[j]).drop (j + 1) = _
          rw [List.drop_set_of_lt (by omega), hdr']
    · (refine e_seq fun K1 hK1 => ?_; refine e_seq fun K1 hK1 => ?_; refine e_region ?_; refine A_move ?_; refine A_move ?_; refine A_lenS ?_; refine A_lss ?_; refine a_next ?_; 
       refine a_false ?_; refine e_exit_then ?_; refine e_exit_then ?_; refine e_exit_here ?_; refine a_norm_then ?_; refine e_seq fun K1 hK1 => ?_; refine e_region ?_; 
       refine A_move ?_; refine A_move ?_)
      have hj : j = xs.length := by omega
      subst hj
      rw [List.take_length] at htk
      have hrow : Row w3 27 2 (.slice (some ⟨g, 0, none⟩) xs.length c) xs.length (cellsOf itL ys) := by
        have := hys
        unfold Sl at this
        rw [hyl] at this
        exact this
      rcases hrow.2 with ⟨hbad, _⟩ | ⟨g2, cap, cur, hve2, _, hbg, hnc, hcm, hcs, htake⟩
      · cases hbad
      · injection hve2 with e1 _ e2
        injection e1 with e1
        injection e1 with e1 _ _
        subst e1 e2
        have hil : i ≤ xs.length := by omega
        refine E_sliceLo sty39 rfl rfl (by omega) (by omega) (slicedLo _ _ _ _ _) (Nat.le_of_ble_eq_true rfl) ?_
        have hbg1 : Blk w3 g 27 cur := hbg
        refine E_clear sty39 rfl (fun _ _ => trivial) rfl hbg1 (by rw [hcs, Int.toNat_natCast]; split <;> (rw [Nat.sub_mul]; have := Nat.mul_le_mul_right 2 hil; have := Nat.mul_le_mul_right 2 hnc; omega)) (fun z hz => by
          have e : z = .agg Try.z27 := by
            have h1 : elemZero Try.prog 27 = some (.agg Try.z27) := by kernel_rfl
            rw [h1] at hz; injection hz with hz; exact hz.symm
          rw [e]
          show (Try.z27).all _ = true
          rw [← Array.all_toList]
          rfl) ?_
        intro w6 cs6 hU6 hB6 hsz6 htk6 hz6
        rw [Int.toNat_natCast] at htk6 hz6
        (refine a_next ?_; refine e_seq fun K1 hK1 => ?_; refine e_region ?_; refine A_move ?_; refine A_move ?_)
        refine E_sliceHi sty39 rfl rfl (by omega) (by omega) (slicedHi _ _ _ _) (Nat.le_of_ble_eq_true rfl) ?_
        rw [Int.toNat_natCast]
        (refine A_assign ?_; refine a_next ?_; refine a_ret1 ?_)
        have hfl : (xs.filter (fun y => !O y)).length = i := by rw [← htk, List.length_take]; omega
        have htk7 : cs6.toList.take (i * 2) = cur.toList.take (i * 2) := by
          by_cases hci : c = i
          · rw [hz6 (by omega)]
          · rw [if_neg hci] at htk6; exact htk6
        refine hR _ w6 (hC3.trans_upd hU6 (.inl rfl)) ?_ (fun g' hg' => hg')
        unfold Sl
        rw [hfl]
        have hcl : cellsOf itL (xs.filter (fun y => !O y)) = cs6.toList.take (i * 2) := by
          have e0 : cur.toList.take (i * 2) = (cur.toList.take (xs.length * 2)).take (i * 2) := by rw [List.take_take, Nat.min_eq_left (Nat.mul_le_mul_right 2 hil)]
          rw [htk7, ← htk, e0, htake]
          have := cellsOf_append itL (ys.take i) (ys.drop i)
          rw [List.take_append_drop] at this
          rw [this, List.take_append_of_le_length (by rw [cellsOf_length itL_len, List.length_take]; omega)]
          exact (List.take_of_length_le (by rw [cellsOf_length itL_len, List.length_take]; omega)).symm
        refine ⟨by rw [cellsOf_length itL_len, hfl], .inr ⟨g, c, cs6, rfl, Nat.zero_le _, hB6, by omega, hcm, by rw [hsz6]; exact hcs, hcl.symm⟩⟩
end
end Go.Proofs.Ytjocklgihjbaiaa
end

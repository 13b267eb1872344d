/- Part 1 of the proof: Reg X XO XE XS XL XM XT. -/
import Derived.Below
import Derived.Calls
import Derived.Deep.Draws
import Derived.Deep.LoopGhost
import Derived.Deep.MidRow
import Derived.Deep.Slices
import Derived.Great.BuildSlice
import Derived.KernelRfl
import Derived.Laws.AppendOwn
import Derived.Laws.IdiomCopy
import Derived.Laws.OwnMore
import Derived.Laws.Pointers
import Derived.Laws.Rows
import Derived.Laws.StructEq
import Derived.Laws.Tables
import Derived.Lib.Hide
import Derived.Lib.SliceRun
import Derived.OpenShut
import Derived.OrdersHeld
import Derived.OrdersIn
import Derived.ProofKit
import Derived.RangeFuncCalls
import Derived.RangeFuncNested
import Derived.RangeFuncRecord
import Derived.Shelf.SlSortCmp.Xorshift
import Derived.Sort.AssemblyPlain
import Derived.Sort.WalkC
import Derived.Tactics2
import Derived.TacticsIn
import Derived.Test.YtjocklgihjbaiaaChecked
import Derived.Test.YtjocklgihjbaiaaRows
import Derived.WalkKit
import Derived.WideLaws
section
/- A law for a region that draws its order: reads may be taken as soon as they are ready, behind every other operation the world stands in a chosen relation to what it was. Over any program. -/
namespace Go.Proofs.Ytjocklgihjbaiaa
section
variable {P : Program} {ops : Array Oper} {Q : Exit → Act → World → Prop} {md : Region.Mode} {R R2 : World → World → Prop} {lA lB : Nat → Bool}
/-- What is asked behind operation i: R; of a late one R2; of a last one nothing. -/
def Asked (R R2 : World → World → Prop) (lA lB : Nat → Bool) (i : Nat) (w w' : World) : Prop := lB i = false → (lA i = false → R w w') ∧ (lA i = true → R2 w w')
/-- Whatever order is picked from here on; behind each operation the world is as it is asked. -/
def wpAnyR (P : Program) (md : Region.Mode) (ops : Array Oper) (Q : Exit → Act → World → Prop) (R R2 : World → World → Prop) (lA lB : Nat → Bool) : Nat → Array Bool → Act → World → Prop
  | 0, listed, a, w => Region.ready md ops listed = [] ∧ Q .normal a w
  | fuel + 1, listed, a, w =>
    (Region.ready md ops listed = [] → Q .normal a w) ∧
    ∀ i ∈ Region.ready md ops listed, wpOp P ops Q i (fun a' w' => Asked R R2 lA lB i w w' ∧ wpAnyR P md ops Q R R2 lA lB fuel (listed.setIfInBounds i true) a' w') a w
theorem wpAny_of_R : ∀ (fuel : Nat) (listed : Array Bool) (a : Act) (w : World), wpAnyR P md ops Q R R2 lA lB fuel listed a w → wpAny P md ops Q fuel listed a w
  | 0, _, _, _, h => h
  | fuel + 1, _, _, _, h => ⟨h.1, fun i hi => wpOp_mono (fun a' w' h' => wpAny_of_R fuel _ a' w' h'.2) (h.2 i hi)⟩
/-- What is blocked till number i has come up. -/
def Blocked (md : Region.Mode) (ops : Array Oper) (i : Nat) (X : List Nat) (listed : Array Bool) : Prop :=
  ∀ x ∈ X, listed.getD x true = false ∧ (x = i ∨ ∃ o, ops[x]? = some o ∧ ∃ e ∈ o.after, Region.binds md e = true ∧ e.on ∈ X)
theorem Blocked.not_ready {i j : Nat} {X : List Nat} {listed : Array Bool} (h : Blocked md ops i X listed) (hj : j ∈ Region.ready md ops listed) (hji : j ≠ i) : j ∉ X := fun hX => by
  obtain ⟨_, rfl | ⟨o, ho, e, he, hb, hin⟩⟩ := h j hX
  · exact hji rfl
  · obtain ⟨_, o', ho', hall⟩ := mem_ready.1 hj
    obtain rfl : o' = o := by rw [ho] at ho'; exact (Option.some.inj ho').symm
    have h1 := hall e he hb
    have h2 := (h e.on hin).1
    rcases Nat.lt_or_ge e.on listed.size with h' | h'
    · simp [h'] at h1 h2; rw [h1] at h2; cases h2
    · simp [Array.getElem?_eq_none h'] at h1
theorem Blocked.step {i j : Nat} {X : List Nat} {listed : Array Bool} (h : Blocked md ops i X listed) (hj : j ∉ X) : Blocked md ops i X (listed.setIfInBounds j true) := fun x hx => by
  refine ⟨?_, (h x hx).2⟩
  rw [getD_set_ne true (by rintro rfl; exact hj hx)]
  exact (h x hx).1
theorem wpAnyR_first {R' : World → World → Prop} (hrefl : ∀ w, R' w w) (htrans : ∀ a b c, R' a b → R' b c → R' a c) {i : Nat} {oi : Oper} {v : Value} (hi : ops[i]? = some oi)
    (hsel : ∀ (j : Nat) (o : Oper) cs b, ops[j]? = some o → o.op ≠ .select cs b) (hQ : ∀ c a w, Q (.panic c) (a.put oi.dst v) w → Q (.panic c) a w) (X : List Nat)
    (hR : (∀ w w', R' w w') ∨ (∀ w w', R w w' → R' w w') ∧ (∀ j, lB j = true → j ∈ X) ∧ ((∀ w w', R2 w w' → R' w w') ∨ ∀ j, lA j = true → j ∈ X)) :
    ∀ (fuel : Nat) (listed : Array Bool) (a : Act) (w : World),
      (∀ j oj, ops[j]? = some oj → j ≠ i → listed.getD j true = false → (∀ e ∈ oj.after, Region.binds md e = true → e.on ≠ i) → oi.apart ops oj = true) →
      Blocked md ops i X listed → i ∈ Region.ready md ops listed → Asked R R2 lA lB i w w → YieldsIf P ops (R' w) oi v a →
      wpAnyR P md ops Q R R2 lA lB fuel (listed.setIfInBounds i true) (a.put oi.dst v) w → (∀ w, Asked R R2 lA lB i w w) → wpAnyR P md ops Q R R2 lA lB (fuel + 1) listed a w := by
  intro fuel
  induction fuel with
  | zero =>
    intro listed a w _ _ hr hRw hy H _
    refine ⟨fun h => (by rw [h] at hr; cases hr), fun j hj => ?_⟩
    by_cases hji : j = i
    · subst hji; exact hy.wpOp hi (hrefl w) ⟨hRw, H⟩
    · have := ready_mono hj hji
      rw [H.1] at this
      cases this
  | succ fuel ih =>
    intro listed a w hfree hbl hr hRw hy H hRr
    refine ⟨fun h => (by rw [h] at hr; cases hr), fun j hj => ?_⟩
    by_cases hji : j = i
    · subst hji; exact hy.wpOp hi (hrefl w) ⟨hRw, H⟩
    · have h1 := H.2 j (ready_mono hj hji)
      obtain ⟨hjun, oj, hoj, hall⟩ := mem_ready.1 hj
      have hnot : ∀ e ∈ oj.after, Region.binds md e = true → e.on ≠ i := fun e he hb heq => by
        have h1 := hall e he hb
        have h0 := (mem_ready.1 hr).1
        rw [heq] at h1
        rcases Nat.lt_or_ge i listed.size with h' | h'
        · simp [h'] at h0 h1; rw [h0] at h1; cases h1
        · simp [Array.getElem?_eq_none h'] at h1
      have hjX : j ∉ X := hbl.not_ready hj hji
      have hgrow : ∀ w', Asked R R2 lA lB j w w' → R' w w' := fun w' h => by
        rcases hR with hR | ⟨hR, hl, h2⟩
        · exact hR _ _
        · cases hlj : lB j
          · obtain ⟨g1, g2⟩ := h hlj
            cases hla : lA j
            · exact hR _ _ (g1 hla)
            · rcases h2 with h2 | h2
              · exact h2 _ _ (g2 hla)
              · exact absurd (h2 j hla) hjX
          · exact absurd (hl j hlj) hjX
      have h2 := wpOp_putIf hoj (hfree j oj hoj hji hjun hnot) (fun cs b => hsel i oi cs b hi) (fun cs b => hsel j oj cs b hoj) hQ hy h1
      have hfree' : ∀ k ok, ops[k]? = some ok → k ≠ i → (listed.setIfInBounds j true).getD k true = false →
          (∀ e ∈ ok.after, Region.binds md e = true → e.on ≠ i) → oi.apart ops ok = true := fun k ok hk hki hun hno => by
        refine hfree k ok hk hki ?_ hno
        by_cases hjk : j = k
        · subst hjk; exact hjun
        · rw [getD_set_ne true hjk] at hun; exact hun
      refine wpOp_mono (fun a' w' h3 => ?_) h2
      obtain ⟨h3, h4, h5⟩ := h3
      have hg := hgrow w' h4
      refine ⟨h4, ih (listed.setIfInBounds j true) a' w' hfree' (hbl.step hjX) (ready_mono hr (Ne.symm hji)) (hRr w') ?_ ?_ hRr⟩
      · rcases h3 with ⟨hw, hv⟩ | h3
        · exact .inl ⟨hw, fun w'' h => hv w'' (htrans _ _ _ hg h)⟩
        · exact .inr h3
      · rw [Array.setIfInBounds_comm _ _ hji]
        exact h5
/-- A plan: in which order the operations of a region are met. 'pure': its value hangs on no world. 'load': it hangs on what R keeps; X: what waits for it. 'weak': on what R2 keeps. 'eff': it may turn the world, by R; 'late': by R2; 'last': anyhow. -/
inductive Sch where
  | nil
  | pure (i : Nat) (s : Sch)
  | load (i : Nat) (X : List Nat) (s : Sch)
  | weak (i : Nat) (X : List Nat) (s : Sch)
  | eff (i : Nat) (s : Sch)
  | late (i : Nat) (s : Sch)
  | last (i : Nat) (s : Sch)
  | fork (s t : Sch)
/-- The plan with the operations themselves, and the slot that a guard looks at. -/
inductive SchO where
  | nil
  | pure (o : Oper) (g : Option (Option Tmp × Bool)) (s : SchO)
  | load (o : Oper) (g : Option (Option Tmp × Bool)) (s : SchO)
  | weak (o : Oper) (g : Option (Option Tmp × Bool)) (s : SchO)
  | eff (o : Oper) (g : Option (Option Tmp × Bool)) (s : SchO)
  | late (o : Oper) (g : Option (Option Tmp × Bool)) (s : SchO)
  | last (o : Oper) (g : Option (Option Tmp × Bool)) (s : SchO)
  | fork (s t : SchO)
def guardOf (ops : Array Oper) (o : Oper) : Option (Option Tmp × Bool) := o.guard.map fun (j, want) => ((ops[j]?).bind (·.dst), want)
def wantedBy (g : Option (Option Tmp × Bool)) (tmps : Array Value) : Bool :=
  match g with
  | none => true
  | some (t, want) => (match t.bind (tmps[·]?) with | some (.bool b) => some b | _ => none) == some want
theorem wanted_eq (o : Oper) (tmps : Array Value) : Region.wanted o (yielded ops tmps) = wantedBy (guardOf ops o) tmps := by
  unfold Region.wanted wantedBy guardOf
  cases h : o.guard with
  | none => rfl
  | some p => obtain ⟨j, want⟩ := p; rfl
def opAt (ops : Array Oper) (i : Nat) : Oper := ops.getD i default
def Sch.fill (ops : Array Oper) : Sch → SchO
  | .nil => .nil
  | .pure i s => .pure (opAt ops i) (guardOf ops (opAt ops i)) (s.fill ops)
  | .load i _ s => .load (opAt ops i) (guardOf ops (opAt ops i)) (s.fill ops)
  | .eff i s => .eff (opAt ops i) (guardOf ops (opAt ops i)) (s.fill ops)
  | .weak i _ s => .weak (opAt ops i) (guardOf ops (opAt ops i)) (s.fill ops)
  | .late i s => .late (opAt ops i) (guardOf ops (opAt ops i)) (s.fill ops)
  | .last i s => .last (opAt ops i) (guardOf ops (opAt ops i)) (s.fill ops)
  | .fork s t => .fork (s.fill ops) (t.fill ops)
def takes (ops : Array Oper) (listed : Array Bool) (i : Nat) : Bool := decide (i < ops.size) && Region.free .any ops listed i && (Region.ready .any ops listed).contains i
def free (A B : List Nat) (i : Nat) : Bool := !A.contains i && !B.contains i
def waits (ops : Array Oper) (l : Array Bool) (i : Nat) (X : List Nat) : Bool := X.all fun x => !l.getD x true && (x == i || (ops[x]?).any fun o => o.after.any fun e => Region.binds .any e && X.contains e.on)
/-- A plan that begins with operations that may turn the world: all that are ready. -/
def Sch.arm : Sch → Bool
  | .eff _ _ | .late _ _ | .last _ _ => true
  | .fork s t => s.arm && t.arm
  | _ => false
def Sch.heads : Sch → List Nat
  | .eff i _ | .late i _ | .last i _ => [i]
  | .fork s t => s.heads ++ t.heads
  | _ => []
def Sch.top (ops : Array Oper) (s : Sch) (l : Array Bool) : Bool := !s.arm || Region.ready .any ops l == s.heads
def Sch.oks (ops : Array Oper) : Sch → List Nat → List Nat → Array Bool → Bool
  | .nil, _, _, l => (Region.ready .any ops l).isEmpty
  | .pure i s, A, B, l => takes ops l i && free A B i && s.top ops (l.setIfInBounds i true) && s.oks ops A B (l.setIfInBounds i true)
  | .load i X s, A, B, l => takes ops l i && free A B i && waits ops l i X && (A.all fun j => X.contains j) && (B.all fun j => X.contains j) && s.top ops (l.setIfInBounds i true) && s.oks ops A B (l.setIfInBounds i true)
  | .weak i X s, A, B, l => takes ops l i && free A B i && waits ops l i X && (B.all fun j => X.contains j) && s.top ops (l.setIfInBounds i true) && s.oks ops A B (l.setIfInBounds i true)
  | .eff i s, A, B, l => decide (i < ops.size) && (Region.ready .any ops l).contains i && free A B i && s.top ops (l.setIfInBounds i true) && s.oks ops A B (l.setIfInBounds i true)
  | .late i s, A, B, l => decide (i < ops.size) && (Region.ready .any ops l).contains i && A.contains i && !B.contains i && s.top ops (l.setIfInBounds i true) && s.oks ops (A.filter (· != i)) B (l.setIfInBounds i true)
  | .last i s, A, B, l => decide (i < ops.size) && (Region.ready .any ops l).contains i && B.contains i && s.top ops (l.setIfInBounds i true) && s.oks ops A (B.filter (· != i)) (l.setIfInBounds i true)
  | .fork s t, A, B, l => s.arm && t.arm && s.oks ops A B l && t.oks ops A B l
def Sch.ok (ops : Array Oper) (s : Sch) (A B : List Nat) (l : Array Bool) : Bool := s.top ops l && s.oks ops A B l
/-- One operation that yields a value in every world that K says, and leaves it. -/
def Takes (P : Program) (o : Oper) (K : World → Prop) (v : Value) (a : Act) : Prop := ∀ w', K w' → (execOp a.eval o).run P w' = .ok (.value v) w'
def wpS (P : Program) (Q : Exit → Act → World → Prop) (R R2 : World → World → Prop) : SchO → Act → World → Prop
  | .nil, a, w => Q .normal a w
  | .pure o g s, a, w => if wantedBy g a.tmps = true then ∃ v, Takes P o (fun _ => True) v a ∧ wpS P Q R R2 s (a.put o.dst v) w else wpS P Q R R2 s (a.put o.dst undef) w
  | .load o g s, a, w => if wantedBy g a.tmps = true then ∃ v, Takes P o (R w) v a ∧ wpS P Q R R2 s (a.put o.dst v) w else wpS P Q R R2 s (a.put o.dst undef) w
  | .weak o g s, a, w => if wantedBy g a.tmps = true then ∃ v, Takes P o (R2 w) v a ∧ wpS P Q R R2 s (a.put o.dst v) w else wpS P Q R R2 s (a.put o.dst undef) w
  | .eff o g s, a, w => if wantedBy g a.tmps = true then o.wp P a w (fun a' w' => R w w' ∧ wpS P Q R R2 s a' w') Q else wpS P Q R R2 s (a.put o.dst undef) w
  | .late o g s, a, w => if wantedBy g a.tmps = true then o.wp P a w (fun a' w' => R2 w w' ∧ wpS P Q R R2 s a' w') Q else wpS P Q R R2 s (a.put o.dst undef) w
  | .last o g s, a, w => if wantedBy g a.tmps = true then o.wp P a w (fun a' w' => wpS P Q R R2 s a' w') Q else wpS P Q R R2 s (a.put o.dst undef) w
  | .fork s t, a, w => wpS P Q R R2 s a w ∧ wpS P Q R R2 t a w
end
section
variable {P : Program} {ops : Array Oper} {Q : Exit → Act → World → Prop} {R R2 : World → World → Prop}
theorem opAt_some {i : Nat} (h : i < ops.size) : ops[i]? = some (opAt ops i) := by
  simp [opAt, h]
theorem wpAnyR_mono_late {lA lB lA' lB' : Nat → Bool} : ∀ (fuel : Nat) (listed : Array Bool) (a : Act) (w : World),
    (∀ i, listed.getD i true = false → lA' i = lA i ∧ lB' i = lB i) → wpAnyR P .any ops Q R R2 lA lB fuel listed a w → (∀ (i : Nat) (l : Array Bool) x, l.getD i true = true → (l.setIfInBounds x true).getD i true = true) → wpAnyR P .any ops Q R R2 lA' lB' fuel listed a w := by
  intro fuel
  induction fuel with
  | zero => intro listed a w _ h _; exact h
  | succ fuel ih =>
    intro listed a w hl h hm
    refine ⟨h.1, fun i hi => wpOp_mono (fun a' w' h' => ⟨?_, ih _ a' w' (fun k hk => hl k ?_) h'.2 hm⟩) (h.2 i hi)⟩
    · obtain ⟨e1, e2⟩ := hl i (mem_ready.1 hi).1
      unfold Asked at *
      rw [e1, e2]
      exact h'.1
    · cases hg : listed.getD k true
      · rfl
      · rw [hm k listed i hg] at hk; cases hk
theorem getD_set_true' (i : Nat) (l : Array Bool) (x : Nat) (h : l.getD i true = true) : (l.setIfInBounds x true).getD i true = true := by
  by_cases hij : x = i
  · subst hij
    by_cases hx : x < l.size
    · simp [hx]
    · simp [hx]
  · rw [getD_set_ne true hij]; exact h
theorem blocked_of {l : Array Bool} {i : Nat} {X : List Nat}
    (h : waits ops l i X = true) : Blocked .any ops i X l := fun x hx => by
  have := List.all_eq_true.1 h x hx
  rw [Bool.and_eq_true, Bool.or_eq_true] at this
  obtain ⟨h1, h2⟩ := this
  refine ⟨by simpa using h1, ?_⟩
  rcases h2 with h2 | h2
  · exact .inl (by simpa using h2)
  · right
    cases ho : ops[x]? with
    | none => rw [ho] at h2; cases h2
    | some o =>
      rw [ho] at h2
      obtain ⟨k, hk, hb⟩ := Array.any_eq_true.1 (show o.after.any _ = true from h2)
      rw [Bool.and_eq_true] at hb
      exact ⟨o, rfl, o.after[k], Array.getElem_mem hk, hb.1, by simpa using hb.2⟩
theorem free_spec {A B : List Nat} {i : Nat} (h : free A B i = true) : A.contains i = false ∧ B.contains i = false := by
  simpa [free] using h
theorem wpAnyR_of_wpS (hrefl : ∀ w, R w w) (htrans : ∀ a b c, R a b → R b c → R a c) (hrefl2 : ∀ w, R2 w w) (htrans2 : ∀ a b c, R2 a b → R2 b c → R2 a c) (hsub : ∀ a b, R a b → R2 a b) (hns : Region.noSelect ops = true) (hQ : ∀ c a w d v, Q (.panic c) (a.put d v) w → Q (.panic c) a w) (s : Sch) :
    ∀ (A B : List Nat) (fuel : Nat) (listed : Array Bool) (a : Act) (w : World), s.ok ops A B listed = true → (listed.toList.filter (! ·)).length ≤ fuel → listed.size = ops.size →
      wpS P Q R R2 (s.fill ops) a w → wpAnyR P .any ops Q R R2 (A.contains ·) (B.contains ·) fuel listed a w := by
  have hcount : ∀ (l : Array Bool) (i : Nat) (n : Nat), l.getD i true = false → (l.toList.filter (! ·)).length ≤ n + 1 → ((l.setIfInBounds i true).toList.filter (! ·)).length ≤ n := by
    intro l i n hi hn
    have hlt : i < l.size := by
      rcases Nat.lt_or_ge i l.size with h | h
      · exact h
      · simp [Array.getElem?_eq_none h] at hi
    obtain ⟨xs⟩ := l
    simp only [List.setIfInBounds_toArray] at *
    simp only [List.size_toArray] at hlt
    have hx : xs[i]'hlt = false := by simpa [hlt] using hi
    have hs : xs = xs.take i ++ xs[i]'hlt :: xs.drop (i + 1) := by simp
    have h2 : xs.set i true = xs.take i ++ true :: xs.drop (i + 1) := by rw [List.set_eq_take_append_cons_drop, if_pos hlt]
    rw [h2]
    rw [hs, hx] at hn
    simp only [List.filter_append, List.filter_cons, List.length_append, Bool.not_true, Bool.not_false, if_true, Bool.false_eq_true, if_false, List.length_cons] at hn ⊢
    omega
  have hpos : ∀ (l : Array Bool) (i : Nat), l.getD i true = false → 0 < (l.toList.filter (! ·)).length := by
    intro l i hi
    have hlt : i < l.size := by
      rcases Nat.lt_or_ge i l.size with h | h
      · exact h
      · simp [Array.getElem?_eq_none h] at hi
    refine List.length_pos_of_mem (a := false) (List.mem_filter.2 ⟨?_, rfl⟩)
    have : l[i] = false := by simpa [hlt] using hi
    rw [← this]
    exact Array.getElem_mem_toList hlt
  have refl : ∀ (A B : List Nat) (i : Nat) (w : World), free A B i = true → Asked R R2 (A.contains ·) (B.contains ·) i w w := fun A B i w hf => by
    obtain ⟨h1, h2⟩ := free_spec hf
    exact fun _ => ⟨fun _ => hrefl w, fun h => absurd (h1.symm.trans h) (by simp)⟩
  have hheads : ∀ (s : Sch), s.arm = true → s.heads ≠ [] := by
    intro s
    induction s with
    | fork s t ihs iht =>
      intro h
      simp only [Sch.arm, Bool.and_eq_true] at h
      simp [Sch.heads, ihs h.1]
    | eff | late | last => intro _; simp [Sch.heads]
    | _ => intro h; cases h
  have close : ∀ (s : Sch) (A B : List Nat) (fuel : Nat) (listed : Array Bool) (a : Act) (w : World), s.top ops listed = true → (listed.toList.filter (! ·)).length ≤ fuel →
      (s.arm = false → wpAnyR P .any ops Q R R2 (A.contains ·) (B.contains ·) fuel listed a w) ∧
        (s.arm = true → ∀ n, fuel = n + 1 → ∀ i ∈ s.heads, wpOp P ops Q i (fun a' w' => Asked R R2 (A.contains ·) (B.contains ·) i w w' ∧ wpAnyR P .any ops Q R R2 (A.contains ·) (B.contains ·) n (listed.setIfInBounds i true) a' w') a w) →
      wpAnyR P .any ops Q R R2 (A.contains ·) (B.contains ·) fuel listed a w := by
    intro s A B fuel listed a w ht hf h
    cases harm : s.arm with
    | false => exact h.1 harm
    | true =>
      have hr : Region.ready .any ops listed = s.heads := by simpa [Sch.top, harm] using ht
      have hne' : s.heads ≠ [] := hheads s harm
      obtain ⟨i, rest, hi⟩ := List.exists_cons_of_ne_nil hne'
      have hun := (mem_ready.1 (show i ∈ Region.ready .any ops listed by rw [hr, hi]; simp)).1
      have := hpos listed i hun
      obtain ⟨n, rfl⟩ : ∃ n, fuel = n + 1 := ⟨fuel - 1, by omega⟩
      refine ⟨fun h0 => absurd (hr.symm.trans h0) hne', fun j hj => h.2 harm n rfl j (hr ▸ hj)⟩
  have main : ∀ s : Sch,
      ∀ (A B : List Nat) (fuel : Nat) (listed : Array Bool) (a : Act) (w : World), s.oks ops A B listed = true → (listed.toList.filter (! ·)).length ≤ fuel → listed.size = ops.size →
      wpS P Q R R2 (s.fill ops) a w → (s.arm = false → wpAnyR P .any ops Q R R2 (A.contains ·) (B.contains ·) fuel listed a w) ∧
        (s.arm = true → ∀ n, fuel = n + 1 → ∀ i ∈ s.heads, wpOp P ops Q i (fun a' w' => Asked R R2 (A.contains ·) (B.contains ·) i w w' ∧ wpAnyR P .any ops Q R R2 (A.contains ·) (B.contains ·) n (listed.setIfInBounds i true) a' w') a w) := by
    intro s
    induction s with
    | nil =>
      intro A B fuel listed a w hok hf hsz h
      refine ⟨fun _ => ?_, fun h => by cases h⟩
      have hr : Region.ready .any ops listed = [] := by simpa [Sch.oks] using hok
      cases fuel with
      | zero => exact ⟨hr, h⟩
      | succ fuel => exact ⟨fun _ => h, fun i hi => by rw [hr] at hi; cases hi⟩
    | pure i s ih =>
      intro A B fuel listed a w hok hf hsz h
      refine ⟨fun _ => ?_, fun h => by cases h⟩
      simp only [Sch.oks, takes, Bool.and_eq_true, decide_eq_true_eq] at hok
      obtain ⟨⟨⟨⟨⟨hlt, hfree⟩, hready⟩, hnl⟩, htop⟩, hok⟩ := hok
      have hr : i ∈ Region.ready .any ops listed := by simpa using hready
      have hun := (mem_ready.1 hr).1
      have := hpos listed i hun
      obtain ⟨n, rfl⟩ : ∃ n, fuel = n + 1 := ⟨fuel - 1, by omega⟩
      have hi := opAt_some hlt
      have key : ∀ v, YieldsIf P ops (fun _ => True) (opAt ops i) v a → wpS P Q R R2 (s.fill ops) (a.put (opAt ops i).dst v) w → wpAnyR P .any ops Q R R2 (A.contains ·) (B.contains ·) (n + 1) listed a w := fun v hy hs =>
        have hc := hcount listed i n hun hf
        wpAnyR_first (R' := fun _ _ => True) (fun _ => trivial) (fun _ _ _ _ _ => trivial) hi (Region.noSelect_spec hns) (fun c a w => hQ c a w _ _) [] (.inl fun _ _ => trivial) n listed a w
          (Region.free_spec hi hfree) (fun x hx => by cases hx) hr (refl A B i w hnl) hy (close s A B n _ _ w htop hc (ih A B n _ _ w hok hc (by simpa using hsz) hs)) (fun w => refl A B i w hnl)
      simp only [Sch.fill, wpS] at h
      split at h
      · rename_i hw
        obtain ⟨v, hv, hs⟩ := h
        exact key v (.inl ⟨by rw [wanted_eq]; exact hw, hv⟩) hs
      · rename_i hw
        exact key undef (.inr ⟨by rw [wanted_eq]; simpa using hw, rfl⟩) h
    | load i X s ih =>
      intro A B fuel listed a w hok hf hsz h
      refine ⟨fun _ => ?_, fun h => by cases h⟩
      simp only [Sch.oks, takes, Bool.and_eq_true, decide_eq_true_eq] at hok
      obtain ⟨⟨⟨⟨⟨⟨⟨⟨hlt, hfree⟩, hready⟩, hnl⟩, hX⟩, hXA⟩, hXB⟩, htop⟩, hok⟩ := hok
      have hr : i ∈ Region.ready .any ops listed := by simpa using hready
      have hun := (mem_ready.1 hr).1
      have := hpos listed i hun
      obtain ⟨n, rfl⟩ : ∃ n, fuel = n + 1 := ⟨fuel - 1, by omega⟩
      have hi := opAt_some hlt
      have key : ∀ v, YieldsIf P ops (R w) (opAt ops i) v a → wpS P Q R R2 (s.fill ops) (a.put (opAt ops i).dst v) w → wpAnyR P .any ops Q R R2 (A.contains ·) (B.contains ·) (n + 1) listed a w := fun v hy hs =>
        have hc := hcount listed i n hun hf
        wpAnyR_first (R' := R) hrefl htrans hi (Region.noSelect_spec hns) (fun c a w => hQ c a w _ _) X (.inr ⟨fun _ _ h => h, fun j hj => by simpa using List.all_eq_true.1 hXB j (by simpa using hj), .inr fun j hj => by simpa using List.all_eq_true.1 hXA j (by simpa using hj)⟩) n listed a w
          (Region.free_spec hi hfree) (blocked_of hX) hr (refl A B i w hnl) hy (close s A B n _ _ w htop hc (ih A B n _ _ w hok hc (by simpa using hsz) hs)) (fun w => refl A B i w hnl)
      simp only [Sch.fill, wpS] at h
      split at h
      · rename_i hw
        obtain ⟨v, hv, hs⟩ := h
        exact key v (.inl ⟨by rw [wanted_eq]; exact hw, hv⟩) hs
      · rename_i hw
        exact key undef (.inr ⟨by rw [wanted_eq]; simpa using hw, rfl⟩) h
    | weak i X s ih =>
      intro A B fuel listed a w hok hf hsz h
      refine ⟨fun _ => ?_, fun h => by cases h⟩
      simp only [Sch.oks, takes, Bool.and_eq_true, decide_eq_true_eq] at hok
      obtain ⟨⟨⟨⟨⟨⟨⟨hlt, hfree⟩, hready⟩, hnl⟩, hX⟩, hXB⟩, htop⟩, hok⟩ := hok
      have hr : i ∈ Region.ready .any ops listed := by simpa using hready
      have hun := (mem_ready.1 hr).1
      have := hpos listed i hun
      obtain ⟨n, rfl⟩ : ∃ n, fuel = n + 1 := ⟨fuel - 1, by omega⟩
      have hi := opAt_some hlt
      have key : ∀ v, YieldsIf P ops (R2 w) (opAt ops i) v a → wpS P Q R R2 (s.fill ops) (a.put (opAt ops i).dst v) w → wpAnyR P .any ops Q R R2 (A.contains ·) (B.contains ·) (n + 1) listed a w := fun v hy hs =>
        have hc := hcount listed i n hun hf
        wpAnyR_first (R' := R2) hrefl2 htrans2 hi (Region.noSelect_spec hns) (fun c a w => hQ c a w _ _) X (.inr ⟨hsub, fun j hj => by simpa using List.all_eq_true.1 hXB j (by simpa using hj), .inl fun _ _ h => h⟩) n listed a w
          (Region.free_spec hi hfree) (blocked_of hX) hr (refl A B i w hnl) hy (close s A B n _ _ w htop hc (ih A B n _ _ w hok hc (by simpa using hsz) hs)) (fun w => refl A B i w hnl)
      simp only [Sch.fill, wpS] at h
      split at h
      · rename_i hw
        obtain ⟨v, hv, hs⟩ := h
        exact key v (.inl ⟨by rw [wanted_eq]; exact hw, hv⟩) hs
      · rename_i hw
        exact key undef (.inr ⟨by rw [wanted_eq]; simpa using hw, rfl⟩) h
    | eff i s ih =>
      intro A B fuel listed a w hok hf hsz h
      refine ⟨fun h => (by cases h), fun _ n hn j hj => ?_⟩
      subst hn
      obtain rfl : j = i := by simpa [Sch.heads] using hj
      simp only [Sch.oks, Bool.and_eq_true, decide_eq_true_eq] at hok
      obtain ⟨⟨⟨⟨hlt, hready⟩, hnl⟩, htop⟩, hok⟩ := hok
      have hr : j ∈ Region.ready .any ops listed := by simpa using hready
      have hc := hcount listed j n (mem_ready.1 hr).1 hf
      have hi := opAt_some hlt
      obtain ⟨f1, f2⟩ := free_spec hnl
      have next : ∀ a' w', wpS P Q R R2 (s.fill ops) a' w' → wpAnyR P .any ops Q R R2 (A.contains ·) (B.contains ·) n (listed.setIfInBounds j true) a' w' := fun a' w' h' =>
        close s A B n _ a' w' htop hc (ih A B n _ a' w' hok hc (by simpa using hsz) h')
      simp only [Sch.fill, wpS] at h
      unfold wpOp
      simp only [hi, wanted_eq]
      split at h
      · rename_i hw
        rw [if_pos hw]
        exact .inl (Oper.wp_mono (fun a' w' h' => ⟨fun _ => ⟨fun _ => h'.1, fun e => absurd (f1.symm.trans e) (by simp)⟩, next a' w' h'.2⟩) h)
      · rename_i hw
        rw [if_neg hw]
        exact ⟨refl A B j w hnl, next _ w h⟩
    | late i s ih =>
      intro A B fuel listed a w hok hf hsz h
      refine ⟨fun h => (by cases h), fun _ n hn j hj => ?_⟩
      subst hn
      obtain rfl : j = i := by simpa [Sch.heads] using hj
      simp only [Sch.oks, Bool.and_eq_true, decide_eq_true_eq] at hok
      obtain ⟨⟨⟨⟨⟨hlt, hready⟩, hli⟩, hnb⟩, htop⟩, hok⟩ := hok
      have hr : j ∈ Region.ready .any ops listed := by simpa using hready
      have hc := hcount listed j n (mem_ready.1 hr).1 hf
      have hi := opAt_some hlt
      have next : ∀ a' w', wpS P Q R R2 (s.fill ops) a' w' → wpAnyR P .any ops Q R R2 (A.contains ·) (B.contains ·) n (listed.setIfInBounds j true) a' w' := fun a' w' h' =>
        wpAnyR_mono_late n _ a' w' (fun k hk => ⟨by
          have hne : k ≠ j := by
            rintro rfl
            have hlt' : k < listed.size := by omega
            simp [hlt'] at hk
          rw [Bool.eq_iff_iff]
          simp [hne], rfl⟩) (close s (A.filter (· != j)) B n _ a' w' htop hc (ih (A.filter (· != j)) B n _ a' w' hok hc (by simpa using hsz) h')) getD_set_true'
      simp only [Sch.fill, wpS] at h
      unfold wpOp
      simp only [hi, wanted_eq]
      split at h
      · rename_i hw
        rw [if_pos hw]
        exact .inl (Oper.wp_mono (fun a' w' h' => ⟨fun _ => ⟨fun e => absurd (hli.symm.trans e) (by simp), fun _ => h'.1⟩, next a' w' h'.2⟩) h)
      · rename_i hw
        rw [if_neg hw]
        exact ⟨fun _ => ⟨fun _ => hrefl w, fun _ => hrefl2 w⟩, next _ w h⟩
    | last i s ih =>
      intro A B fuel listed a w hok hf hsz h
      refine ⟨fun h => (by cases h), fun _ n hn j hj => ?_⟩
      subst hn
      obtain rfl : j = i := by simpa [Sch.heads] using hj
      simp only [Sch.oks, Bool.and_eq_true, decide_eq_true_eq] at hok
      obtain ⟨⟨⟨⟨hlt, hready⟩, hli⟩, htop⟩, hok⟩ := hok
      have hr : j ∈ Region.ready .any ops listed := by simpa using hready
      have hc := hcount listed j n (mem_ready.1 hr).1 hf
      have hi := opAt_some hlt
      have next : ∀ a' w', wpS P Q R R2 (s.fill ops) a' w' → wpAnyR P .any ops Q R R2 (A.contains ·) (B.contains ·) n (listed.setIfInBounds j true) a' w' := fun a' w' h' =>
        wpAnyR_mono_late n _ a' w' (fun k hk => ⟨rfl, by
          have hne : k ≠ j := by
            rintro rfl
            have hlt' : k < listed.size := by omega
            simp [hlt'] at hk
          rw [Bool.eq_iff_iff]
          simp [hne]⟩) (close s A (B.filter (· != j)) n _ a' w' htop hc (ih A (B.filter (· != j)) n _ a' w' hok hc (by simpa using hsz) h')) getD_set_true'
      simp only [Sch.fill, wpS] at h
      unfold wpOp
      simp only [hi, wanted_eq]
      split at h
      · rename_i hw
        rw [if_pos hw]
        exact .inl (Oper.wp_mono (fun a' w' h' => ⟨fun e => absurd (hli.symm.trans e) (by simp), next a' w' h'⟩) h)
      · rename_i hw
        rw [if_neg hw]
        exact ⟨fun _ => ⟨fun _ => hrefl w, fun _ => hrefl2 w⟩, next _ w h⟩
    | fork s t ihs iht =>
      intro A B fuel listed a w hok hf hsz h
      simp only [Sch.oks, Bool.and_eq_true] at hok
      obtain ⟨⟨⟨ha, hb⟩, hoks⟩, hokt⟩ := hok
      refine ⟨fun h => (by simp [Sch.arm, ha, hb] at h), fun _ n hn j hj => ?_⟩
      simp only [Sch.heads, List.mem_append] at hj
      simp only [Sch.fill, wpS] at h
      rcases hj with hj | hj
      · exact (ihs A B fuel listed a w hoks hf hsz h.1).2 ha n hn j hj
      · exact (iht A B fuel listed a w hokt hf hsz h.2).2 hb n hn j hj
  intro A B fuel listed a w hok hf hsz h
  simp only [Sch.ok, Bool.and_eq_true] at hok
  exact close s A B fuel listed a w hok.1 hf (main s A B fuel listed a w hok.2 hf hsz h)
/-- THE LAW. -/
theorem wpAny_sch (hrefl : ∀ w, R w w) (htrans : ∀ a b c, R a b → R b c → R a c) (hrefl2 : ∀ w, R2 w w) (htrans2 : ∀ a b c, R2 a b → R2 b c → R2 a c) (hsub : ∀ a b, R a b → R2 a b) (s : Sch) (A B : List Nat) {a : Act} {w : World}
    (hns : Region.noSelect ops = true) (hok : s.ok ops A B (Array.replicate ops.size false) = true) (hQ : ∀ c a w d v, Q (.panic c) (a.put d v) w → Q (.panic c) a w)
    (h : wpS P Q R R2 (s.fill ops) a w) : wpAny P .any ops Q ops.size (Array.replicate ops.size false) a w := by
  have hf : ((Array.replicate ops.size false).toList.filter (! ·)).length ≤ ops.size := by
    refine Nat.le_trans (List.length_filter_le _ _) ?_
    simp
  exact wpAny_of_R _ _ _ _ (wpAnyR_of_wpS hrefl htrans hrefl2 htrans2 hsub hns hQ s A B _ _ a _ hok hf (by simp) h)
end
end Go.Proofs.Ytjocklgihjbaiaa
end
section
/- An executor for pieces of Go code without loops: each operation has a law of its own, over any program. -/
namespace Go.Proofs.Ytjocklgihjbaiaa
open Go.RowKit
/-! ### How a world grows -/
/-- All that was there is as it was; there may be more; draws go on. -/
structure Fr (w w' : World) : Prop where
  os : w'.os = w.os
  tape : w'.tape = w.tape
  output : w'.output = w.output
  drawn : w.drawn ≤ w'.drawn
  size : w.heap.size ≤ w'.heap.size
  block : ∀ k, k < w.heap.size → w'.heap[k]? = w.heap[k]?
theorem Fr.refl (w : World) : Fr w w := ⟨rfl, rfl, rfl, Nat.le_refl _, Nat.le_refl _, fun _ _ => rfl⟩
theorem Fr.trans {a b c : World} (h : Fr a b) (k : Fr b c) : Fr a c :=
  ⟨k.os.trans h.os, k.tape.trans h.tape, k.output.trans h.output, Nat.le_trans h.drawn k.drawn, Nat.le_trans h.size k.size, fun i hi => (k.block i (Nat.lt_of_lt_of_le hi h.size)).trans (h.block i hi)⟩
theorem Fr.alloc {w w' : World} (h : Fr w w') (o : Obj) : Fr w (w'.alloc o) :=
  h.trans ⟨rfl, rfl, rfl, Nat.le_refl _, by simp, fun k hk => Below.heap_alloc _ _ _ hk⟩
theorem Fr.drew {w w' : World} (h : Fr w w') : Fr w w'.drew := h.trans ⟨rfl, rfl, rfl, Nat.le_succ _, Nat.le_refl _, fun _ _ => rfl⟩
theorem Fr.below {w w' : World} (h : Fr w w') : Below w.heap.size w w' := ⟨h.os, h.tape, h.output, h.size, h.block⟩
theorem Fr.heap {w w' : World} (h : Fr w w') {b : Nat} {o : Obj} (hb : w.heap[b]? = some o) : w'.heap[b]? = some o := by
  have hlt : b < w.heap.size := by
    rcases Nat.lt_or_ge b w.heap.size with h | h
    · exact h
    · rw [Array.getElem?_eq_none h] at hb; cases hb
  rw [h.block b hlt]; exact hb
theorem Fr.c {w w' : World} (h : Fr w w') {p : Addr} {v : Value} (hc : w.cell? p = some v) : w'.cell? p = some v := by
  rw [Below.cell h.below (World.block_lt_of_cell? w p hc)]; exact hc
theorem Fr.lt {w w' : World} (h : Fr w w') {b : Nat} (hb : b < w.heap.size) : b < w'.heap.size := Nat.lt_of_lt_of_le hb h.size
/-- What may befall the world between the operations of a region that draws its order: it grows behind most; R2 behind the late ones; what that keeps. -/
structure Rel where
  R2 : World → World → Prop
  B2 : Addr → Prop
  O2 : Nat → Prop
  refl2 : ∀ w, R2 w w
  trans2 : ∀ a b c, R2 a b → R2 b c → R2 a c
  sub : ∀ a b, Fr a b → R2 a b
  cell2 : ∀ w w' p v, B2 p → R2 w w' → w.cell? p = some v → w'.cell? p = some v
  obj2 : ∀ (w w' : World) (b : Nat) (es : Array MapEntry) (n : Nat), O2 b → R2 w w' → w.heap[b]? = some (Obj.map es n) → w'.heap[b]? = some (Obj.map es n)
def frRel : Rel := ⟨fun _ _ => True, fun _ => False, fun _ => False, fun _ => trivial, fun _ _ _ _ _ => trivial, fun _ _ _ => trivial, fun _ _ _ _ h => h.elim, fun _ _ _ _ _ h => h.elim⟩
/-! ### Code in small -/
inductive Kind where
  | pure | load | weak | eff | late | last | text
structure XOp where
  dst : Option Tmp
  op : Op
  type : TypeId
def XOp.oper (x : XOp) : Oper := { dst := x.dst, op := x.op, type := x.type, pos := "", after := #[], guard := none }
def XOp.of (o : Oper) : XOp := { dst := o.dst, op := o.op, type := o.type }
inductive XPlan where
  | nil
  | step (k : Kind) (x : XOp) (g : Option (Option Tmp × Bool)) (s : XPlan)
  | fork (s t : XPlan)
def SchO.small : SchO → XPlan
  | .nil => .nil
  | .pure o g s => .step .pure (.of o) g s.small
  | .load o g s => .step .load (.of o) g s.small
  | .weak o g s => .step .weak (.of o) g s.small
  | .eff o g s => .step .eff (.of o) g s.small
  | .late o g s => .step .late (.of o) g s.small
  | .last o g s => .step .last (.of o) g s.small
  | .fork s t => .fork s.small t.small
/-- In which world the value of an operation of this kind is to be the same. -/
def relOf (k : Kind) (R : Rel) (w w' : World) : Prop :=
  match k with
  | .pure => True
  | .load => Fr w w'
  | .weak => R.R2 w w'
  | _ => w' = w
def wpX (P : Program) (Q : Exit → Act → World → Prop) (R : Rel) : XPlan → Act → World → Prop
  | .nil, a, w => Q .normal a w
  | .step k x g s, a, w =>
    if wantedBy g a.tmps = true then
      (match k with
       | .pure | .load | .weak => ∃ v, (∀ w', relOf k R w w' → (execOp a.eval x.oper).run P w' = .ok (.value v) w') ∧ wpX P Q R s (a.put x.dst v) w
       | .eff => x.oper.wp P a w (fun a' w' => Fr w w' ∧ wpX P Q R s a' w') Q
       | .late => x.oper.wp P a w (fun a' w' => R.R2 w w' ∧ wpX P Q R s a' w') Q
       | .last => x.oper.wp P a w (fun a' w' => wpX P Q R s a' w') Q
       | .text => x.oper.wp P a w (fun a' w' => wpX P Q R s a' w') Q ∨ x.oper.wpIn Fence.wide 0 P a w (fun a' w' => wpX P Q R s a' w') Q)
    else wpX P Q R s (a.put x.dst undef) w
  | .fork s t, a, w => wpX P Q R s a w ∧ wpX P Q R t a w
theorem execOp_of (ρ : Operand → Value) (o : Oper) : execOp ρ (XOp.of o).oper = execOp ρ o := by cases o; rfl
theorem wp_of (P : Program) (o : Oper) (a : Act) (w : World) (K : Act → World → Prop) (Q : Exit → Act → World → Prop) : (XOp.of o).oper.wp P a w K Q = o.wp P a w K Q := by
  cases o; rfl
theorem wpIn_of (F : Fence) (n : Nat) (P : Program) (o : Oper) (a : Act) (w : World) (K : Act → World → Prop) (Q : Exit → Act → World → Prop) : (XOp.of o).oper.wpIn F n P a w K Q = o.wpIn F n P a w K Q := by
  cases o; rfl
theorem wpS_of_small {P : Program} {Q : Exit → Act → World → Prop} {R : Rel} : ∀ (s : SchO) (a : Act) (w : World), wpX P Q R s.small a w → wpS P Q Fr R.R2 s a w := by
  intro s
  induction s with
  | nil => intro a w h; exact h
  | pure o g s ih =>
    intro a w h
    simp only [SchO.small, wpX, wpS] at h ⊢
    split
    · rename_i hw
      rw [if_pos hw] at h
      obtain ⟨v, hv, h⟩ := h
      exact ⟨v, fun w' _ => by rw [← execOp_of]; exact hv w' trivial, ih _ _ h⟩
    · rename_i hw
      rw [if_neg hw] at h
      exact ih _ _ h
  | load o g s ih =>
    intro a w h
    simp only [SchO.small, wpX, wpS] at h ⊢
    split
    · rename_i hw
      rw [if_pos hw] at h
      obtain ⟨v, hv, h⟩ := h
      exact ⟨v, fun w' hr => by rw [← execOp_of]; exact hv w' hr, ih _ _ h⟩
    · rename_i hw
      rw [if_neg hw] at h
      exact ih _ _ h
  | weak o g s ih =>
    intro a w h
    simp only [SchO.small, wpX, wpS] at h ⊢
    split
    · rename_i hw
      rw [if_pos hw] at h
      obtain ⟨v, hv, h⟩ := h
      exact ⟨v, fun w' hr => by rw [← execOp_of]; exact hv w' hr, ih _ _ h⟩
    · rename_i hw
      rw [if_neg hw] at h
      exact ih _ _ h
  | eff o g s ih =>
    intro a w h
    simp only [SchO.small, wpX, wpS] at h ⊢
    split
    · rename_i hw
      rw [if_pos hw, wp_of] at h
      exact Oper.wp_mono (fun a' w' h' => ⟨h'.1, ih _ _ h'.2⟩) h
    · rename_i hw
      rw [if_neg hw] at h
      exact ih _ _ h
  | late o g s ih =>
    intro a w h
    simp only [SchO.small, wpX, wpS] at h ⊢
    split
    · rename_i hw
      rw [if_pos hw, wp_of] at h
      exact Oper.wp_mono (fun a' w' h' => ⟨h'.1, ih _ _ h'.2⟩) h
    · rename_i hw
      rw [if_neg hw] at h
      exact ih _ _ h
  | last o g s ih =>
    intro a w h
    simp only [SchO.small, wpX, wpS] at h ⊢
    split
    · rename_i hw
      rw [if_pos hw, wp_of] at h
      exact Oper.wp_mono (fun a' w' h' => ih _ _ h') h
    · rename_i hw
      rw [if_neg hw] at h
      exact ih _ _ h
  | fork s t ihs iht =>
    intro a w h
    exact ⟨ihs a w h.1, iht a w h.2⟩
def textPlan (ops : Array Oper) : List Oper → XPlan
  | [] => .nil
  | o :: rest => .step .text (.of o) (guardOf ops o) (textPlan ops rest)
/-! ### In a round of a range over a function -/
/-- The fence that lets all in; in a round, or in none. -/
def fenceR (r : Option Nat) : Fence := { Fence.wide with round := r }
def noDefer (o : Oper) : Bool := match o.op with | .defer _ => false | _ => true
theorem wpIn_of_wide {P : Program} {o : Oper} {a : Act} {w : World} {K : Act → World → Prop} {Q : Exit → Act → World → Prop} (r : Option Nat) (hd : r = none ∨ noDefer o = true) (h : o.wpIn Fence.wide 0 P a w K Q) : o.wpIn (fenceR r) 0 P a w K Q := by
  refine ⟨fun _ _ => trivial, ?_⟩
  have e : o.semAt (fenceR r).round a.eval = o.semAt Fence.wide.round a.eval := by
    rcases hd with rfl | hd
    · rfl
    · rw [Oper.semAt_eq _ _ _ (fun c hc => by unfold noDefer at hd; rw [hc] at hd; cases hd)]; rfl
  rw [e]
  exact h.2
theorem wpIn_of_wp {P : Program} {o : Oper} {a : Act} {w : World} {K : Act → World → Prop} {Q : Exit → Act → World → Prop} (h : o.wp P a w K Q) : o.wpIn Fence.wide 0 P a w K Q := by
  refine ⟨fun _ _ => trivial, ?_⟩
  show o.uponIn Fence.wide 0 P a K Q ((execOp a.eval o).run P w)
  unfold Oper.wp at h
  generalize (execOp a.eval o).run P w = res at *
  cases res with
  | ok x w' =>
    cases x with
    | value v => exact h
    | skip => exact h
    | defer d => exact h
    | enter f args => exact ⟨fun _ => by simp_all [Fence.wide], callsIn_wide.2 h⟩
    | row row args => exact ⟨fun _ => by simp_all [Fence.wide], fun c cs _ => by
        obtain ⟨v, w'', hr, hs⟩ := h c cs
        exact ⟨v, w'', hr, stepsIn_wide.2 hs⟩⟩
    | _ => exact h.elim
  | halt x w' => cases x <;> first | exact h | exact h.elim
theorem wpOpIn_of_wpOp {P : Program} {ops : Array Oper} {Q : Exit → Act → World → Prop} {i : Nat} {K : Act → World → Prop} {a : Act} {w : World} (r : Option Nat) (hd : ops.all noDefer = true) (hL : ¬ LetsOut Q) (h : wpOp P ops Q i K a w) : wpOpIn (fenceR r) 0 P ops Q i K a w := by
  unfold wpOp at h
  unfold wpOpIn
  split
  · rename_i ho
    simpa [ho] using h
  · rename_i o ho
    simp only [ho] at h
    split
    · rename_i hw
      rw [if_pos hw] at h
      refine wpIn_of_wide r (.inr ?_) (wpIn_of_wp ?_)
      · obtain ⟨hlt, rfl⟩ := Array.getElem?_eq_some_iff.1 ho
        exact Array.all_eq_true.1 hd _ hlt
      · exact h.resolve_right fun h => hL h.2
    · rename_i hw
      rw [if_neg hw] at h
      exact ⟨fun _ _ => trivial, h⟩
theorem wpAnyIn_of_wpAny {P : Program} {ops : Array Oper} {Q : Exit → Act → World → Prop} (r : Option Nat) (hd : ops.all noDefer = true) (hL : ¬ LetsOut Q) : ∀ (fuel : Nat) (l : Array Bool) (a : Act) (w : World), wpAny P .any ops Q fuel l a w → wpAnyIn (fenceR r) 0 P .any ops Q fuel l a w
  | 0, _, _, _, h => h
  | fuel + 1, l, a, w, h => ⟨h.1, fun i hi => wpOpIn_mono (fun a' w' h' => wpAnyIn_of_wpAny r hd hL fuel _ a' w' h') (wpOpIn_of_wpOp r hd hL (h.2 i hi))⟩
theorem wpListIn_of_text {P : Program} {Q : Exit → Act → World → Prop} {R : Rel} {ops : Array Oper} (r : Option Nat) : ∀ (l : List Oper) (a : Act) (w : World), (r = none ∨ l.all noDefer = true) → wpX P Q R (textPlan ops l) a w → wpListIn (fenceR r) 0 P ops Q l a w := by
  intro l
  induction l with
  | nil => intro a w _ h; exact h
  | cons o l ih =>
    intro a w hd h
    have hd1 : r = none ∨ noDefer o = true := hd.imp id fun h => by simp only [List.all_cons, Bool.and_eq_true] at h; exact h.1
    have hd2 : r = none ∨ l.all noDefer = true := hd.imp id fun h => by simp only [List.all_cons, Bool.and_eq_true] at h; exact h.2
    simp only [textPlan, wpX, wpListIn, wanted_eq] at h ⊢
    split
    · rename_i hw
      rw [if_pos hw, wp_of, wpIn_of] at h
      refine wpIn_of_wide r hd1 ?_
      rcases h with h | h
      · exact wpIn_of_wp (Oper.wp_mono (fun a' w' h' => ih _ _ hd2 h') h)
      · exact Oper.wpIn_mono (fun a' w' h' => ih _ _ hd2 h') h
    · rename_i hw
      rw [if_neg hw] at h
      exact ⟨fun _ _ => trivial, ih _ _ hd2 h⟩
inductive XCode where
  | skip
  | region (p : XPlan)
  | drawn (p : XPlan)
  | seq (x y : XCode)
  | cond (c : Operand) (x y : XCode)
  | block (id : Nat) (x : XCode)
  | exit (id : Nat)
  | ret
  | code (c : Code)
structure Plan where
  lates : List Nat
  lasts : List Nat
  s : Sch
def compile (plans : Nat → Option Plan) : Code → XCode
  | .skip => .skip
  | .region _ ops false => .region (textPlan ops ops.toList)
  | .region id ops true => match plans id with
    | some p => .drawn (p.s.fill ops).small
    | none => .code (.region id ops true)
  | .seq x y => .seq (compile plans x) (compile plans y)
  | .cond c x y => .cond c (compile plans x) (compile plans y)
  | .block id x => .block id (compile plans x)
  | .exit id => .exit id
  | .ret => .ret
  | c => .code c
def plansOk (plans : Nat → Option Plan) : Code → Bool
  | .region _ _ false => true
  | .region id ops true => match plans id with
    | some p => Region.noSelect ops && p.s.ok ops p.lates p.lasts (Array.replicate ops.size false)
    | none => true
  | .seq x y => plansOk plans x && plansOk plans y
  | .cond _ x y => plansOk plans x && plansOk plans y
  | .block _ x => plansOk plans x
  | _ => true
def planned (plans : Nat → Option Plan) : Code → Bool
  | .region id _ true => (plans id).isSome
  | .seq x y => planned plans x && planned plans y
  | .cond _ x y => planned plans x && planned plans y
  | .block _ x => planned plans x
  | _ => true
def XCode.wp (P : Program) : XCode → (Exit → Act → World → Prop) → Act → World → Prop
  | .skip, Q, a, w => Q .normal a w
  | .region p, Q, a, w => wpX P Q frRel p a w
  | .drawn p, Q, a, w => (∀ c a w d v, Q (.panic c) (a.put d v) w → Q (.panic c) a w) ∧ ∃ R : Rel, wpX P Q R p a w.drew
  | .seq x y, Q, a, w => x.wp P (Exit.then (y.wp P Q) Q) a w
  | .cond c x y, Q, a, w => ∃ t, a.eval c = .bool t ∧ if t = true then x.wp P Q a w else y.wp P Q a w
  | .block id x, Q, a, w => x.wp P (Exit.inBlock id Q) a w
  | .exit id, Q, a, w => Q (.exit id) a w
  | .ret, Q, a, w => Q .ret a w
  | .code c, Q, a, w => c.wp P Q a w
/-- Code that may stand in a round. -/
def calm : Code → Bool
  | .region _ ops _ => ops.all noDefer
  | .seq x y => calm x && calm y
  | .cond _ x y => calm x && calm y
  | .block _ x => calm x
  | .skip | .exit _ | .ret => true
  | _ => false
theorem wpIn_of_x {P : Program} (hm : P.follows .mixedOrders = true) (plans : Nat → Option Plan) (r : Option Nat) : ∀ (c : Code) (Q : Exit → Act → World → Prop) (a : Act) (w : World),
    plansOk plans c = true → (r = none ∨ (calm c = true ∧ planned plans c = true ∧ ¬ LetsOut Q)) → (compile plans c).wp P Q a w → c.wpIn (fenceR r) 0 P Q a w := by
  intro c
  induction c with
  | skip => intro Q a w _ _ h; exact wpIn_skip h
  | region rid ops draw =>
    intro Q a w hok hr h
    cases draw with
    | false => exact wpIn_region_list (wpListIn_of_text r _ _ _ (hr.imp id fun hr => by rw [Array.all_toList]; exact hr.1) h)
    | true =>
      simp only [plansOk, compile] at hok h
      cases hp : plans rid with
      | none =>
        rw [hp] at h
        rcases hr with rfl | hr
        · exact wpIn_wide.2 h
        · simp [planned, hp] at hr
      | some p =>
        rw [hp] at hok h
        simp only [Bool.and_eq_true] at hok
        obtain ⟨hQ, R, h⟩ := h
        have hany := wpAny_sch (R := Fr) (R2 := R.R2) Fr.refl (fun _ _ _ h k => h.trans k) R.refl2 R.trans2 R.sub p.s p.lates p.lasts hok.1 hok.2 hQ (wpS_of_small _ _ _ h)
        rcases hr with rfl | hr
        · exact wpIn_wide.2 (wp_region_any hm hany)
        · exact wpIn_region_any hm (wpAnyIn_of_wpAny r hr.1 hr.2.2 _ _ _ _ hany)
  | seq x y ihx ihy =>
    intro Q a w hok hr h
    simp only [plansOk, Bool.and_eq_true] at hok
    have h1 := ihx _ a w hok.1 (hr.imp id fun hr => by simp only [calm, planned, Bool.and_eq_true] at hr; exact ⟨hr.1.1, hr.2.1.1, hr.2.2⟩) h
    refine wpIn_seq (wpIn_mono h1 fun e a w hq => ?_)
    cases e <;> first | exact ihy _ _ _ hok.2 (hr.imp id fun hr => by simp only [calm, planned, Bool.and_eq_true] at hr; exact ⟨hr.1.2, hr.2.1.2, hr.2.2⟩) hq | exact hq
  | cond c x y ihx ihy =>
    intro Q a w hok hr h
    simp only [plansOk, Bool.and_eq_true] at hok
    obtain ⟨t, ht, h⟩ := h
    refine wpIn_cond ht ?_
    cases t
    · exact ihy _ _ _ hok.2 (hr.imp id fun hr => by simp only [calm, planned, Bool.and_eq_true] at hr; exact ⟨hr.1.2, hr.2.1.2, hr.2.2⟩) (by simpa using h)
    · exact ihx _ _ _ hok.1 (hr.imp id fun hr => by simp only [calm, planned, Bool.and_eq_true] at hr; exact ⟨hr.1.1, hr.2.1.1, hr.2.2⟩) (by simpa using h)
  | block bid x ih =>
    intro Q a w hok hr h
    exact wpIn_block (ih _ _ _ hok hr h)
  | exit _ => intro Q a w _ _ h; exact wpIn_exit h
  | ret => intro Q a w _ _ h; exact wpIn_ret h
  | _ =>
    intro Q a w _ hr h
    rcases hr with rfl | hr
    · exact wpIn_wide.2 h
    · cases hr.1
/-- As a walk uses it: the small code is written out. -/
theorem wp_enter {P : Program} (hm : P.follows .mixedOrders = true) (plans : Nat → Option Plan) {c : Code} (x : XCode) (hc : compile plans c = x) (hok : plansOk plans c = true)
    {Q : Exit → Act → World → Prop} {a : Act} {w : World} (h : x.wp P Q a w) : c.wp P Q a w := wpIn_wide.1 (wpIn_of_x hm plans none c Q a w hok (.inl rfl) (hc ▸ h))
theorem wpIn_enter {P : Program} (hm : P.follows .mixedOrders = true) (plans : Nat → Option Plan) {c : Code} (x : XCode) (hc : compile plans c = x) (hok : plansOk plans c = true) (hcalm : calm c = true) (hpl : planned plans c = true) (l : Nat) {m : Nat}
    {Q : Exit → Act → World → Prop} (hL : ¬ LetsOut Q) {a : Act} {w : World} (h : x.wp P Q a w) : c.wpIn (Fence.wide.inRound l) m P Q a w := fun b k cs h1 h2 _ =>
  wpIn_of_x hm plans (some l) c Q a w hok (.inr ⟨hcalm, hpl, hL⟩) (hc ▸ h) b k cs h1 h2 (room_wide _)
section ctrl
variable {P : Program} {Q : Exit → Act → World → Prop} {a : Act} {w : World}
/-- The rest of the walk, behind a name. -/
def Later (P : Program) (y : XCode) (Q : Exit → Act → World → Prop) (K : Act → World → Prop) : Prop := ∀ a w, y.wp P Q a w → K a w
theorem x_seq {x y : XCode} (h : ∀ K : Act → World → Prop, Later P y Q K → x.wp P (Exit.then K Q) a w) : (XCode.seq x y).wp P Q a w :=
  h _ fun _ _ h => h
theorem x_drawn {p : XPlan} (R : Rel) (hQ : ∀ c a w d v, Q (.panic c) (a.put d v) w → Q (.panic c) a w) (h : ∀ w1, Fr w w1 → wpX P Q R p a w1) : (XCode.drawn p).wp P Q a w := ⟨hQ, R, h _ (Fr.refl w).drew⟩
theorem x_cond_true {c : Operand} {x y : XCode} {t : Bool} (hc : a.eval c = .bool t) (ht : t = true) (h : x.wp P Q a w) : (XCode.cond c x y).wp P Q a w := ⟨t, hc, by rw [if_pos ht]; exact h⟩
theorem x_cond_false {c : Operand} {x y : XCode} {t : Bool} (hc : a.eval c = .bool t) (ht : t = false) (h : y.wp P Q a w) : (XCode.cond c x y).wp P Q a w := ⟨t, hc, by rw [if_neg (by simp [ht])]; exact h⟩
end ctrl
end Go.Proofs.Ytjocklgihjbaiaa
end
section
/- The laws of the single operations for the executor of X, over any program. -/
namespace Go.Proofs.Ytjocklgihjbaiaa
open Go.RowKit
/-! ### Blocks -/
def Blk (w : World) (b : Nat) (t : TypeId) (cs : Array Value) : Prop := w.heap[b]? = some (.cells cs t (0, 0))
def NewB (w w' : World) (b : Nat) : Prop := w.heap.size ≤ b ∧ b < w'.heap.size
/-- Behind w all that was there is as it was, but for block b. -/
structure Upd (b : Nat) (w w' : World) : Prop where
  os : w'.os = w.os
  tape : w'.tape = w.tape
  output : w'.output = w.output
  drawn : w.drawn ≤ w'.drawn
  size : w'.heap.size = w.heap.size
  block : ∀ k, k ≠ b → w'.heap[k]? = w.heap[k]?
section
variable {w w' : World} {b : Nat} {t : TypeId} {cs : Array Value}
theorem Blk.lt (h : Blk w b t cs) : b < w.heap.size := by
  rcases Nat.lt_or_ge b w.heap.size with hlt | hge
  · exact hlt
  · unfold Blk at h; rw [Array.getElem?_eq_none hge] at h; cases h
theorem Blk.cell {o : Nat} {v : Value} (h : Blk w b t cs) (hv : cs[o]? = some v) : w.cell? ⟨b, o, none⟩ = some v := (cell_of_row w b o cs t (0, 0) h).trans hv
theorem Blk.frozen (h : Blk w b t cs) (o : Nat) : w.frozen? ⟨b, o, none⟩ = false := frozen_of_row w b o cs t h
theorem Blk.fr (h : Blk w b t cs) (hF : Fr w w') : Blk w' b t cs := hF.heap h
theorem Blk.upd {c : Nat} (h : Blk w b t cs) (hU : Upd c w w') (hne : b ≠ c) : Blk w' b t cs := (hU.block b hne).trans h
theorem Blk.inj {t' : TypeId} {cs' : Array Value} (h : Blk w b t cs) (h' : Blk w b t' cs') : t = t' ∧ cs = cs' := by
  unfold Blk at h h'; rw [h] at h'; injection h' with h'; injection h' with h1 h2; exact ⟨h2, h1⟩
theorem Blk.ne {c : Nat} {t' : TypeId} {cs' : Array Value} (h : Blk w b t cs) (h' : Blk w c t' cs') (hne : t ≠ t') : b ≠ c := by
  rintro rfl; exact hne (h.inj h').1
theorem Upd.c {p : Addr} {v : Value} (hU : Upd b w w') (hne : p.block ≠ b) (hc : w.cell? p = some v) : w'.cell? p = some v := by
  rw [World.cell?_of_block (w := w) (hU.block p.block hne)]; exact hc
theorem Fr.upd {w0 : World} (h : Fr w0 w) (hU : Upd b w w') (hb : w0.heap.size ≤ b) : Fr w0 w' :=
  ⟨hU.os.trans h.os, hU.tape.trans h.tape, hU.output.trans h.output, Nat.le_trans h.drawn hU.drawn, by rw [hU.size]; exact h.size, fun k hk => (hU.block k (by omega)).trans (h.block k hk)⟩
theorem newB_alloc (w : World) (o : Obj) : NewB w (w.alloc o) w.heap.size := ⟨Nat.le_refl _, by simp⟩
theorem blk_alloc (w : World) (t : TypeId) (cs : Array Value) : Blk (w.alloc (.cells cs t)) w.heap.size t cs := heap_alloc_new w _
end
/-- The cells of many: a row of stores into one block. -/
theorem upd_setCells {b : Nat} {t : TypeId} : ∀ (vs : List Value) (o : Nat) (w : World) (cs : Array Value), Blk w b t cs → o + vs.length ≤ cs.size →
    Upd b w (w.setCells b o vs) ∧ Blk (w.setCells b o vs) b t ⟨cs.toList.take o ++ vs ++ cs.toList.drop (o + vs.length)⟩
  | [], o, w, cs, h, _ => by
    refine ⟨⟨rfl, rfl, rfl, Nat.le_refl _, rfl, fun _ _ => rfl⟩, ?_⟩
    have : (⟨cs.toList.take o ++ ([] : List Value) ++ cs.toList.drop (o + ([] : List Value).length)⟩ : Array Value) = cs := by simp
    rw [this]; exact h
  | v :: vs, o, w, cs, h, hl => by
    simp only [List.length_cons] at hl
    have h1 : Blk (w.setCell ⟨b, o, none⟩ v) b t (cs.setIfInBounds o v) := by unfold Blk at h ⊢; simp [World.setCell, Array.getElem?_modify, h]
    have hU : Upd b w (w.setCell ⟨b, o, none⟩ v) := ⟨rfl, rfl, rfl, Nat.le_refl _, by simp [World.setCell], fun k hk => Below.heap_setCell w ⟨b, o, none⟩ v k hk⟩
    obtain ⟨h2, h3⟩ := upd_setCells vs (o + 1) (w.setCell ⟨b, o, none⟩ v) _ h1 (by simp; omega)
    refine ⟨⟨h2.os.trans hU.os, h2.tape.trans hU.tape, h2.output.trans hU.output, Nat.le_trans hU.drawn h2.drawn, h2.size.trans hU.size, fun k hk => (h2.block k hk).trans (hU.block k hk)⟩, ?_⟩
    have e : (⟨(cs.setIfInBounds o v).toList.take (o + 1) ++ vs ++ (cs.setIfInBounds o v).toList.drop (o + 1 + vs.length)⟩ : Array Value) = ⟨cs.toList.take o ++ (v :: vs) ++ cs.toList.drop (o + (vs.length + 1))⟩ := by
      obtain ⟨l⟩ := cs
      simp only [List.setIfInBounds_toArray]
      have hlt : o < l.length := by simp at hl; omega
      have h4 : (l.set o v).take (o + 1) = l.take o ++ [v] := by
        rw [List.set_eq_take_append_cons_drop, if_pos hlt, List.take_append]
        simp [List.length_take, Nat.min_eq_left (Nat.le_of_lt hlt), List.take_take]
      have h5 : (l.set o v).drop (o + 1 + vs.length) = l.drop (o + (vs.length + 1)) := by
        rw [List.drop_set_of_lt (by omega), show o + 1 + vs.length = o + (vs.length + 1) by omega]
      rw [h4, h5]; simp
    rw [e] at h3
    simpa [World.setCells] using h3
/-! ### What the program's tables say -/
def aggD : TypeDesc → Bool
  | .struct _ | .array _ _ => true
  | _ => false
def loadKind (P : Program) (t : TypeId) : Option (Option Nat) :=
  (P.underlying t).bind fun d => (P.info? t).map fun i => if aggD d = true then some i.size else none
theorem run_isAgg {P : Program} {t : TypeId} {d : TypeDesc} (h : P.underlying t = some d) (w : World) : (isAgg t).run P w = .ok (aggD d) w := by
  unfold isAgg
  rw [Sem.run_bind, run_underlying h]
  cases d <;> rfl
theorem loadKind_none {P : Program} {t : TypeId} (h : loadKind P t = some none) (w : World) : (isAgg t).run P w = .ok false w := by
  unfold loadKind at h
  cases hu : P.underlying t with
  | none => simp [hu] at h
  | some d =>
    cases hi : P.info? t with
    | none => simp [hu, hi] at h
    | some i =>
      simp only [hu, hi, Option.bind_some, Option.map_some, Option.some.injEq] at h
      rw [run_isAgg hu]
      split at h
      · cases h
      · rename_i hd; simp at hd; rw [hd]
theorem loadKind_some {P : Program} {t : TypeId} {m : Nat} (h : loadKind P t = some (some m)) : ∃ d, P.underlying t = some d ∧ d.isRow = true ∧ (P.info? t).map (·.size) = some m := by
  unfold loadKind at h
  cases hu : P.underlying t with
  | none => simp [hu] at h
  | some d =>
    cases hi : P.info? t with
    | none => simp [hu, hi] at h
    | some i =>
      simp only [hu, hi, Option.bind_some, Option.map_some, Option.some.injEq] at h
      split at h
      · rename_i hd
        refine ⟨d, rfl, ?_, by simpa using h⟩
        cases d <;> first | rfl | cases hd
      · cases h
def fieldOff (P : Program) (s : TypeId) (f : Nat) : Option Nat :=
  match P.underlying s with
  | some (.struct fs) => match fs[f]? with
    | some fd => match P.info? fd.type with
      | some i => if i.size = 0 then none else some fd.offset
      | none => none
    | none => none
  | _ => none
def arrayOf (P : Program) (t : TypeId) : Option (Nat × Nat) :=
  match P.underlying t with
  | some (.array n e) => (P.info? e).map fun i => (n, i.size)
  | _ => none
def sliceOf (P : Program) (t : TypeId) : Option (TypeId × Nat × Nat) :=
  match P.underlying t with
  | some (.slice e) => (P.info? e).map fun i => (e, i.size, i.bytes)
  | _ => none
def zeroOf (P : Program) (t : TypeId) : Option (Array Value) := (P.info? t).bind fun i => i.zero.map Value.cells
def sizeIs (P : Program) (t : TypeId) : Option Nat := (P.info? t).map (·.size)
def Enters (P : Program) (f : FuncId) : Prop := ∃ fn, P.funcs[f]? = some fn ∧ (fn.name == "runtime.NumGoroutine") = false ∧ fn.body.isNone = false
def Kind.acts : Kind → Bool | .pure | .load | .weak => false | _ => true
/-- The blocks that may be read by an operation of this kind. -/
def Rel.keeps (R : Rel) (k : Kind) (p : Addr) : Prop := match k with | .pure => False | .weak => R.B2 p | _ => True
def Rel.keepsO (R : Rel) (k : Kind) (b : Nat) : Prop := match k with | .pure => False | .weak => R.O2 b | _ => True
def Rel.keepsR (R : Rel) (k : Kind) (b o m : Nat) : Prop := ∀ j, j < m → R.keeps k ⟨b, o + j, none⟩
def behind (k : Kind) (R : Rel) (w w' : World) : Prop := match k with | .eff => Fr w w' | .late => R.R2 w w' | .last | .text => True | _ => False
section laws
variable {P : Program} {Q : Exit → Act → World → Prop} {R : Rel} {k : Kind} {d : Option Tmp} {ty : TypeId} {s : XPlan} {a : Act} {w : World}
theorem rd_gen {x : XOp} (v : Value) (h : ∀ w', relOf k R w w' → (execOp a.eval x.oper).run P w' = .ok (.value v) w') (n : wpX P Q R s (a.put x.dst v) w) : wpX P Q R (.step k x none s) a w := by
  simp only [wpX, wantedBy, if_true]
  have hw : ∀ K : Act → World → Prop, relOf k R w w → K (a.put x.dst v) w → x.oper.wp P a w K Q := fun K hr hK => by
    unfold Oper.wp
    rw [h w hr]
    exact hK
  cases k with
  | pure => exact ⟨v, h, n⟩
  | load => exact ⟨v, h, n⟩
  | weak => exact ⟨v, h, n⟩
  | eff => exact hw _ rfl ⟨Fr.refl w, n⟩
  | late => exact hw _ rfl ⟨R.refl2 w, n⟩
  | last => exact hw _ rfl n
  | text => exact .inl (hw _ rfl n)
/-- What stands behind an operation that may turn the world. -/
def EffPost (P : Program) (Q : Exit → Act → World → Prop) (R : Rel) (k : Kind) (s : XPlan) (w : World) (a' : Act) (w' : World) : Prop :=
  behind k R w w' ∧ wpX P Q R s a' w'
/-- What was there can be read. -/
theorem kept {w' : World} {p : Addr} {v : Value} (hB : R.keeps k p) (hr : relOf k R w w') (hc : w.cell? p = some v) : w'.cell? p = some v := by
  cases k with
  | pure => exact hB.elim
  | load => exact Fr.c hr hc
  | weak => exact R.cell2 _ _ _ _ hB hr hc
  | _ => obtain rfl : w' = w := hr; exact hc
theorem keptMap {w' : World} {b : Nat} {es : Array MapEntry} {n : Nat} (hB : R.keepsO k b) (hr : relOf k R w w') (hc : w.heap[b]? = some (Obj.map es n)) : w'.heap[b]? = some (Obj.map es n) := by
  cases k with
  | pure => exact hB.elim
  | load => exact Fr.heap hr hc
  | weak => exact R.obj2 _ _ _ _ _ hB hr hc
  | _ => obtain rfl : w' = w := hr; exact hc
theorem ef_gen {x : XOp} (h : x.oper.wp P a w (fun a' w' => EffPost P Q R k s w a' w') Q) (hk : k.acts = true) : wpX P Q R (.step k x none s) a w := by
  simp only [wpX, wantedBy, if_true]
  cases k with
  | pure => cases hk
  | load => cases hk
  | weak => cases hk
  | eff => exact Oper.wp_mono (fun _ _ h => h) h
  | late => exact Oper.wp_mono (fun _ _ h => h) h
  | last => exact Oper.wp_mono (fun _ _ h => h.2) h
  | text => exact .inl (Oper.wp_mono (fun _ _ h => h.2) h)
theorem x_want {x : XOp} {t : Tmp} {want b : Bool} (ht : a.tmps[t]? = some (.bool b)) (hb : b = want) (h : wpX P Q R (.step k x none s) a w) : wpX P Q R (.step k x (some (some t, want)) s) a w := by
  have hw : wantedBy (some (some t, want)) a.tmps = true := by simp [wantedBy, ht, hb]
  have h0 : wantedBy none a.tmps = true := rfl
  simp only [wpX] at h ⊢
  rw [if_pos hw]
  rw [if_pos h0] at h
  exact h
theorem x_pass {x : XOp} {t : Tmp} {want b : Bool} (ht : a.tmps[t]? = some (.bool b)) (hb : b = !want) (h : wpX P Q R s (a.put x.dst undef) w) : wpX P Q R (.step k x (some (some t, want)) s) a w := by
  have hw : wantedBy (some (some t, want)) a.tmps = false := by subst hb; simp [wantedBy, ht]
  simp only [wpX]
  rw [if_neg (by simp [hw])]
  exact h
/-- The guard's own operation was passed over. -/
theorem x_pass_undef {x : XOp} {t : Tmp} {want : Bool} (ht : a.tmps[t]? = some undef) (h : wpX P Q R s (a.put x.dst undef) w) : wpX P Q R (.step k x (some (some t, want)) s) a w := by
  have hw : wantedBy (some (some t, want)) a.tmps = false := by simp [wantedBy, ht, undef]
  simp only [wpX]
  rw [if_neg (by simp [hw])]
  exact h
/-! ### Reads -/
theorem rd_move {x : Operand} {v : Value} (hx : a.eval x = v) (n : wpX P Q R s (a.put d v) w) : wpX P Q R (.step k ⟨d, .move x, ty⟩ none s) a w :=
  rd_gen v (fun w' _ => by subst hx; rfl) n
theorem rd_assign {x : Operand} {v : Value} (hx : a.eval x = v) (n : wpX P Q R s (a.put d v) w) : wpX P Q R (.step k ⟨d, .assign x, ty⟩ none s) a w :=
  rd_gen v (fun w' _ => by subst hx; rfl) n
theorem rd_pick_t {c x y : Operand} {b : Bool} {v : Value} (hc : a.eval c = .bool b) (hb : b = true) (hx : a.eval x = v) (n : wpX P Q R s (a.put d v) w) : wpX P Q R (.step k ⟨d, .pick c x y, ty⟩ none s) a w :=
  rd_gen v (fun w' _ => by subst hx hb; simp [execOp, XOp.oper, hc, asBool]) n
theorem rd_pick_f {c x y : Operand} {b : Bool} {v : Value} (hc : a.eval c = .bool b) (hb : b = false) (hx : a.eval y = v) (n : wpX P Q R s (a.put d v) w) : wpX P Q R (.step k ⟨d, .pick c x y, ty⟩ none s) a w :=
  rd_gen v (fun w' _ => by subst hx hb; simp [execOp, XOp.oper, hc, asBool]) n
theorem rd_nil {x : Operand} {p : Addr} (hx : a.eval x = .pointer (some p)) (n : wpX P Q R s (a.put d (.pointer (some p))) w) : wpX P Q R (.step k ⟨d, .nilCheck x, ty⟩ none s) a w :=
  rd_gen _ (fun w' _ => by simp [execOp, XOp.oper, hx]) n
theorem rd_not {x : Operand} {b : Bool} (hx : a.eval x = .bool b) {t : TypeId} (n : wpX P Q R s (a.put d (.bool !b)) w) : wpX P Q R (.step k ⟨d, .unOp .not t x, ty⟩ none s) a w :=
  rd_gen _ (fun w' _ => by simp [execOp, XOp.oper, hx, Op.unary]) n
theorem rd_extract {x : Operand} {vs : Array Value} {i : Nat} {v : Value} (hx : a.eval x = .tuple vs) (hv : vs[i]? = some v) (n : wpX P Q R s (a.put d v) w) : wpX P Q R (.step k ⟨d, .extract x i, ty⟩ none s) a w :=
  rd_gen _ (fun w' _ => by simp [execOp, XOp.oper, hx, Instr.extract, hv]) n
theorem run_sizeOf {t : TypeId} {i : TypeInfo} (h : P.info? t = some i) (w : World) : (sizeOf t).run P w = .ok i.size w := by simp [sizeOf, typeInfo, h]
theorem rd_field {x : Operand} {st : TypeId} {f o : Nat} {p : Addr} (hx : a.eval x = .pointer (some p)) (ho : fieldOff P st f = some o) (n : wpX P Q R s (a.put d (.pointer (some (p.add o)))) w) :
    wpX P Q R (.step k ⟨d, .fieldAddr st x f, ty⟩ none s) a w :=
  rd_gen _ (fun w' _ => by
    unfold fieldOff at ho
    split at ho <;> try (cases ho; done)
    rename_i fs hu
    split at ho <;> try (cases ho; done)
    rename_i fd hfd
    split at ho <;> try (cases ho; done)
    rename_i i hi
    split at ho
    · cases ho
    · rename_i hsz
      obtain rfl : fd.offset = o := by simpa using ho
      simp [execOp, XOp.oper, hx, Instr.fieldAt, run_underlying hu, hfd, Instr.sureAddr, fieldPlace, run_sizeOf hi, hsz]) n
/-- A load of one cell. -/
theorem rd_load {x : Operand} {t : TypeId} {p : Addr} {v : Value} (hx : a.eval x = .pointer (some p)) (ht : loadKind P t = some none) (hB : R.keeps k p) (hc : w.cell? p = some v) (n : wpX P Q R s (a.put d v) w) :
    wpX P Q R (.step k ⟨d, .load t x, ty⟩ none s) a w :=
  rd_gen _ (fun w' hr => by
    have hc' : w'.cell? p = some v := kept hB hr hc
    have hagg := loadKind_none ht w'
    simp [execOp, XOp.oper, hx, Instr.loadAt, Instr.sureAddr, loadVar, hagg, hc']) n
/-- A load of many cells. -/
theorem rd_loads {x : Operand} {t : TypeId} {b o m : Nat} {cs : List Value} (hx : a.eval x = .pointer (some ⟨b, o, none⟩)) (ht : loadKind P t = some (some m)) (hB : R.keepsR k b o m) (hc : w.rangeAt b o cs) (hm : cs.length = m)
    (n : wpX P Q R s (a.put d (.agg cs.toArray)) w) : wpX P Q R (.step k ⟨d, .load t x, ty⟩ none s) a w :=
  rd_gen _ (fun w' hr => by
    have hc' : w'.rangeAt b o cs := fun j v hv => kept (p := ⟨b, o + j, none⟩) (hB j (by have := (List.getElem?_eq_some_iff.1 hv).1; omega)) hr (hc j v hv)
    obtain ⟨d', hu, hd, hi⟩ := loadKind_some ht
    have := run_loadAt_mid (P := P) w' b o t cs d' hc' hu hd (by rw [hi, hm])
    simp [execOp, XOp.oper, hx, this]) n
/-- A load out of a block that is known: a part of it. -/
theorem rd_loadB {x : Operand} {t bt : TypeId} {b o m : Nat} {cs : Array Value} (hx : a.eval x = .pointer (some ⟨b, o, none⟩)) (ht : loadKind P t = some (some m)) (hB : R.keepsR k b o m) (hb : Blk w b bt cs) (hm : o + m ≤ cs.size)
    (n : wpX P Q R s (a.put d (.agg (cs.extract o (o + m)))) w) : wpX P Q R (.step k ⟨d, .load t x, ty⟩ none s) a w :=
  rd_loads hx ht hB (World.rangeAt_of_block hb o m) (by simp; omega) (by rw [Array.toArray_toList]; exact n)
/-- The whole block. -/
theorem rd_loadW {x : Operand} {t bt : TypeId} {b : Nat} {cs : Array Value} (hx : a.eval x = .pointer (some ⟨b, 0, none⟩)) (ht : loadKind P t = some (some cs.size)) (hB : R.keepsR k b 0 cs.size) (hb : Blk w b bt cs)
    (n : wpX P Q R s (a.put d (.agg cs)) w) : wpX P Q R (.step k ⟨d, .load t x, ty⟩ none s) a w :=
  rd_loadB hx ht hB hb (by omega) (by simpa using n)
/-- &x[i], x an array behind an address. -/
theorem rd_idxA {x i : Operand} {t : TypeId} {kd : IntKind} {j : Int} {p : Addr} {n m : Nat} (hx : a.eval x = .pointer (some p)) (hi : a.eval i = .int kd j) (ht : arrayOf P t = some (n, m)) (h0 : 0 ≤ j) (h1 : j < n)
    (nx : wpX P Q R s (a.put d (.pointer (some (p.add (j.toNat * m))))) w) : wpX P Q R (.step k ⟨d, .indexAddr t x i, ty⟩ none s) a w :=
  rd_gen _ (fun w' _ => by
    unfold arrayOf at ht
    split at ht <;> try (cases ht; done)
    rename_i n' e hu
    cases he : P.info? e with
    | none => simp [he] at ht
    | some ie =>
      simp only [he, Option.map_some, Option.some.injEq, Prod.mk.injEq] at ht
      obtain ⟨rfl, rfl⟩ := ht
      simp [execOp, XOp.oper, hx, hi, Instr.indexAt, asIntOf, run_underlying hu, Instr.sureAddr, h0, h1, run_sizeOf he]) nx
/-- &x[i], x a slice. -/
theorem rd_idxS {x i : Operand} {t e : TypeId} {kd : IntKind} {j : Int} {p : Addr} {n c m by' : Nat} (hx : a.eval x = .slice (some p) n c) (hi : a.eval i = .int kd j) (ht : sliceOf P t = some (e, m, by')) (h0 : 0 ≤ j) (h1 : j < n)
    (nx : wpX P Q R s (a.put d (.pointer (some (p.add (j.toNat * m))))) w) : wpX P Q R (.step k ⟨d, .indexAddr t x i, ty⟩ none s) a w :=
  rd_gen _ (fun w' _ => by
    unfold sliceOf at ht
    split at ht <;> try (cases ht; done)
    rename_i e' hu
    cases he : P.info? e' with
    | none => simp [he] at ht
    | some ie =>
      simp only [he, Option.map_some, Option.some.injEq, Prod.mk.injEq] at ht
      obtain ⟨rfl, rfl, rfl⟩ := ht
      simp [execOp, XOp.oper, hx, hi, Instr.indexAt, asIntOf, run_underlying hu, h0, h1, run_sizeOf he]) nx
/-- x[i], x an array by value, of one-cell elements. -/
theorem rd_index {x i : Operand} {t : TypeId} {kd : IntKind} {j : Int} {cs : Array Value} {n e : Nat} {v : Value} (hx : a.eval x = .agg cs) (hi : a.eval i = .int kd j) (ht : P.underlying t = some (.array n e)) (he : loadKind P e = some none) (hs : sizeIs P e = some 1)
    (h0 : 0 ≤ j) (h1 : j < n) (hv : cs[j.toNat]? = some v) (nx : wpX P Q R s (a.put d v) w) : wpX P Q R (.step k ⟨d, .index t x i, ty⟩ none s) a w :=
  rd_gen _ (fun w' _ => by
    cases hie : P.info? e with
    | none => simp [sizeIs, hie] at hs
    | some ie =>
      have hs1 : ie.size = 1 := by simpa [sizeIs, hie] using hs
      have hagg := loadKind_none he w'
      simp [execOp, XOp.oper, hx, hi, Instr.index, asIntOf, run_underlying ht, h0, h1, run_sizeOf hie, hs1, part, hagg, hv]) nx
/-! #### Arithmetic, tests -/
theorem rd_bin {op : BinOp} {x y : Operand} {t u : TypeId} {kd : IntKind} {m n : Int} {v : Value} (hx : a.eval x = .int kd m) (hy : a.eval y = .int kd n) (hv : ∀ w', (Go.binOp op t (.int kd m) (.int kd n)).run P w' = .ok v w')
    (nx : wpX P Q R s (a.put d v) w) : wpX P Q R (.step k ⟨d, .binOp op t x y u, ty⟩ none s) a w :=
  rd_gen _ (fun w' _ => by
    have hg : (eqGuard op t x y (.int kd m) (.int kd n)).run P w' = .ok () w' := by
      unfold eqGuard
      cases op <;> rfl
    simp [execOp, XOp.oper, hx, hy, hg, hv]) nx
theorem rd_lss {x y : Operand} {t u : TypeId} {kd : IntKind} {m n : Int} (hx : a.eval x = .int kd m) (hy : a.eval y = .int kd n) (nx : wpX P Q R s (a.put d (.bool (decide (m < n)))) w) : wpX P Q R (.step k ⟨d, .binOp .lss t x y u, ty⟩ none s) a w :=
  rd_bin hx hy (fun w' => by simp [Go.binOp, Op.intCmp]) nx
theorem rd_leq {x y : Operand} {t u : TypeId} {kd : IntKind} {m n : Int} (hx : a.eval x = .int kd m) (hy : a.eval y = .int kd n) (nx : wpX P Q R s (a.put d (.bool (decide (m ≤ n)))) w) : wpX P Q R (.step k ⟨d, .binOp .leq t x y u, ty⟩ none s) a w :=
  rd_bin hx hy (fun w' => by simp [Go.binOp, Op.intCmp]) nx
theorem rd_gtr {x y : Operand} {t u : TypeId} {kd : IntKind} {m n : Int} (hx : a.eval x = .int kd m) (hy : a.eval y = .int kd n) (nx : wpX P Q R s (a.put d (.bool (decide (n < m)))) w) : wpX P Q R (.step k ⟨d, .binOp .gtr t x y u, ty⟩ none s) a w :=
  rd_bin hx hy (fun w' => by simp [Go.binOp, Op.intCmp]) nx
theorem rd_geq {x y : Operand} {t u : TypeId} {kd : IntKind} {m n : Int} (hx : a.eval x = .int kd m) (hy : a.eval y = .int kd n) (nx : wpX P Q R s (a.put d (.bool (decide (n ≤ m)))) w) : wpX P Q R (.step k ⟨d, .binOp .geq t x y u, ty⟩ none s) a w :=
  rd_bin hx hy (fun w' => by simp [Go.binOp, Op.intCmp]) nx
theorem rd_eql {x y : Operand} {t u : TypeId} {kd : IntKind} {m n : Int} (hx : a.eval x = .int kd m) (hy : a.eval y = .int kd n) (nx : wpX P Q R s (a.put d (.bool (decide (m = n)))) w) : wpX P Q R (.step k ⟨d, .binOp .eql t x y u, ty⟩ none s) a w :=
  rd_bin hx hy (fun w' => by simp [Go.binOp, Op.intCmp]; exact Bool.beq_eq_decide_eq _ _) nx
theorem rd_neq {x y : Operand} {t u : TypeId} {kd : IntKind} {m n : Int} (hx : a.eval x = .int kd m) (hy : a.eval y = .int kd n) (nx : wpX P Q R s (a.put d (.bool (decide (m ≠ n)))) w) : wpX P Q R (.step k ⟨d, .binOp .neq t x y u, ty⟩ none s) a w :=
  rd_bin hx hy (fun w' => by simp [Go.binOp, Op.intCmp, bne, Bool.beq_eq_decide_eq]) nx
theorem rd_add {x y : Operand} {t u : TypeId} {m n : Int} (hx : a.eval x = .int .i64 m) (hy : a.eval y = .int .i64 n) (h0 : -9223372036854775808 ≤ m + n) (h1 : m + n < 9223372036854775808) (nx : wpX P Q R s (a.put d (.int .i64 (m + n))) w) : wpX P Q R (.step k ⟨d, .binOp .add t x y u, ty⟩ none s) a w :=
  rd_bin hx hy (fun w' => by
    have : IntKind.i64.wrap (m + n) = m + n := IntWalk.i64_in _ (by omega)
    simp [Go.binOp, Op.intArith, this]) nx
theorem rd_sub {x y : Operand} {t u : TypeId} {m n : Int} (hx : a.eval x = .int .i64 m) (hy : a.eval y = .int .i64 n) (h0 : -9223372036854775808 ≤ m - n) (h1 : m - n < 9223372036854775808) (nx : wpX P Q R s (a.put d (.int .i64 (m - n))) w) : wpX P Q R (.step k ⟨d, .binOp .sub t x y u, ty⟩ none s) a w :=
  rd_bin hx hy (fun w' => by
    have : IntKind.i64.wrap (m - n) = m - n := IntWalk.i64_in _ (by omega)
    simp [Go.binOp, Op.intArith, this]) nx
def ptrDesc (P : Program) (t : TypeId) : Bool := match P.underlying t with | some (.pointer _) => true | _ => false
def sliceDesc (P : Program) (t : TypeId) : Bool := match P.underlying t with | some (.slice _) => true | _ => false
theorem rd_eqlnil {x y : Operand} {t u : TypeId} {p : Option Addr} (hx : a.eval x = .pointer p) (hy : a.eval y = .pointer none) (ht : ptrDesc P t = true) (nx : wpX P Q R s (a.put d (.bool p.isNone)) w) : wpX P Q R (.step k ⟨d, .binOp .eql t x y u, ty⟩ none s) a w :=
  rd_gen _ (fun w' _ => by
    unfold ptrDesc at ht
    split at ht <;> try (cases ht; done)
    rename_i e hu
    have hg : (eqGuard .eql t x y (.pointer p) (.pointer none)).run P w' = .ok () w' := rfl
    have hu' : P.underlying t = some (.pointer (P.pointee t)) := by simp [Program.pointee, hu]
    simp [execOp, XOp.oper, hx, hy, hg, run_eql_pointer_nil w' t p hu']) nx
theorem rd_neqnil {x y : Operand} {t u : TypeId} {p : Option Addr} (hx : a.eval x = .pointer p) (hy : a.eval y = .pointer none) (ht : ptrDesc P t = true) (nx : wpX P Q R s (a.put d (.bool !p.isNone)) w) : wpX P Q R (.step k ⟨d, .binOp .neq t x y u, ty⟩ none s) a w :=
  rd_gen _ (fun w' _ => by
    unfold ptrDesc at ht
    split at ht <;> try (cases ht; done)
    rename_i e hu
    have hg : (eqGuard .neq t x y (.pointer p) (.pointer none)).run P w' = .ok () w' := rfl
    have hu' : P.underlying t = some (.pointer (P.pointee t)) := by simp [Program.pointee, hu]
    simp [execOp, XOp.oper, hx, hy, hg, run_neq_pointer_nil w' t p hu']) nx
theorem rd_eqlnilS {x y : Operand} {t u : TypeId} {p : Option Addr} {n c m c' : Nat} (hx : a.eval x = .slice p n c) (hy : a.eval y = .slice none m c') (ht : sliceDesc P t = true) (nx : wpX P Q R s (a.put d (.bool p.isNone)) w) : wpX P Q R (.step k ⟨d, .binOp .eql t x y u, ty⟩ none s) a w :=
  rd_gen _ (fun w' _ => by
    unfold sliceDesc at ht
    split at ht <;> try (cases ht; done)
    rename_i e hu
    have hg : (eqGuard .eql t x y (.slice p n c) (.slice none m c')).run P w' = .ok () w' := rfl
    simp [execOp, XOp.oper, hx, hy, hg, Lib.run_eql_slice_nil w' t e p n c m c' hu]) nx
theorem rd_lenS {x : Operand} {t : TypeId} {p : Option Addr} {n c : Nat} (hx : a.eval x = .slice p n c) (ht : sliceDesc P t = true) (nx : wpX P Q R s (a.put d (.int .i64 n)) w) :
    wpX P Q R (.step k ⟨d, .call { callee := .builtin .len, args := #[x], argTypes := #[t] }, ty⟩ none s) a w :=
  rd_gen _ (fun w' _ => by
    unfold sliceDesc at ht
    split at ht <;> try (cases ht; done)
    rename_i e hu
    simp [execOp, XOp.oper, hx, resolve, invoke, builtin, Builtin.len_, run_underlying hu, goInt]) nx
theorem rd_build {t : TypeId} {parts : Array (Nat × Operand)} {cs : Array Value} (hb : P.built t (parts.toList.map fun p => (p.1, a.eval p.2)) = some cs) (nx : wpX P Q R s (a.put d (.agg cs)) w) : wpX P Q R (.step k ⟨d, .build t parts, ty⟩ none s) a w :=
  rd_gen _ (fun w' _ => by
    have := run_build (P := P) w' t (parts.map fun p => (p.1, a.eval p.2)) cs (by simpa using hb)
    simp [execOp, XOp.oper, this]) nx
/-! ### What turns the world -/
/-- The relation behind a step that only grows. -/
theorem grows (hk : k.acts = true) {w1 : World} (h : Fr w w1) : behind k R w w1 := by
  cases k with
  | pure => cases hk
  | load => cases hk
  | weak => cases hk
  | eff => exact h
  | late => exact R.sub _ _ h
  | last => trivial
  | text => trivial
theorem ef_box {x : Operand} {t : TypeId} {v : Value} {cs : Array Value} (hk : k.acts = true) (hx : a.eval x = v) (hcs : v.cells = cs)
    (n : ∀ b w1, Fr w w1 → NewB w w1 b → Blk w1 b t cs → wpX P Q R s (a.put d (.pointer (some ⟨b, 0, none⟩))) w1) : wpX P Q R (.step k ⟨d, .box t x, ty⟩ none s) a w :=
  ef_gen (by
    subst hcs
    have hF : Fr w (w.alloc (.cells v.cells t)) := (Fr.refl w).alloc _
    have := n w.heap.size (w.alloc (.cells v.cells t)) hF (newB_alloc w _) (blk_alloc w t v.cells)
    unfold Oper.wp
    have hr : (execOp a.eval (XOp.mk d (.box t x) ty).oper).run P w = .ok (.value (.pointer (some ⟨w.heap.size, 0, none⟩))) (w.alloc (.cells v.cells t)) := by
      simp [execOp, XOp.oper, hx, Instr.box, newVar, newRow]
    rw [hr]
    exact ⟨grows hk hF, this⟩) hk
theorem ef_alloc {t : TypeId} {cs : Array Value} (hk : k.acts = true) (hz : zeroOf P t = some cs)
    (n : ∀ b w1, Fr w w1 → NewB w w1 b → Blk w1 b t cs → wpX P Q R s (a.put d (.pointer (some ⟨b, 0, none⟩))) w1) : wpX P Q R (.step k ⟨d, .alloc t, ty⟩ none s) a w :=
  ef_gen (by
    have hF : Fr w (w.alloc (.cells cs t)) := (Fr.refl w).alloc _
    have := n w.heap.size (w.alloc (.cells cs t)) hF (newB_alloc w _) (blk_alloc w t cs)
    unfold zeroOf at hz
    cases hi : P.info? t with
    | none => simp [hi] at hz
    | some i =>
      cases hz' : i.zero with
      | none => simp [hi, hz'] at hz
      | some z =>
        obtain rfl : z.cells = cs := by simpa [hi, hz'] using hz
        have hr : (execOp a.eval (XOp.mk d (.alloc t) ty).oper).run P w = .ok (.value (.pointer (some ⟨w.heap.size, 0, none⟩))) (w.alloc (.cells z.cells t)) := by
          simp [execOp, XOp.oper, Instr.alloc, newVar, newRow, zeroValue, typeInfo, hi, hz']
        unfold Oper.wp
        rw [hr]
        exact ⟨grows hk hF, this⟩) hk
/-- A store into a part of a block that is known. -/
theorem ef_store {x y : Operand} {t bt : TypeId} {v : Value} {b o : Nat} {cs : Array Value} (hk : k.acts = true) (hR : ∀ w1, Upd b w w1 → Blk w1 b bt ⟨cs.toList.take o ++ v.cells.toList ++ cs.toList.drop (o + v.cells.size)⟩ → behind k R w w1) (hx : a.eval x = .pointer (some ⟨b, o, none⟩)) (hy : a.eval y = v)
    (hb : Blk w b bt cs) (ht : sizeIs P t = some v.cells.size) (h1 : v.cells.all (·.oneCell') = true) (hm : o + v.cells.size ≤ cs.size)
    (n : ∀ w1, Upd b w w1 → Blk w1 b bt ⟨cs.toList.take o ++ v.cells.toList ++ cs.toList.drop (o + v.cells.size)⟩ → wpX P Q R s (a.put d undef) w1) : wpX P Q R (.step k ⟨d, .store t x y, ty⟩ none s) a w := by
  refine ef_gen ?_ hk
  obtain ⟨hU, hB⟩ := upd_setCells v.cells.toList o w cs hb (by simpa using hm)
  have hn := n _ hU (by simpa using hB)
  have hr : (execOp a.eval (XOp.mk d (.store t x y) ty).oper).run P w = .ok .skip (w.setCells b o v.cells.toList) := by
    have hs := run_storeVar_mid (P := P) w b o t v.cells (fun j hj => ⟨by
      have hlt : o + j < cs.size := by omega
      rw [hb.cell (v := cs[o + j]) (by simp [hlt])]; rfl, hb.frozen _⟩) ht h1
    have e : storeVar t ⟨b, o, none⟩ v = storeVar t ⟨b, o, none⟩ (.agg v.cells) := rfl
    simp [execOp, XOp.oper, hx, hy, Instr.storeAt, Instr.sureAddr, e, hs]
  unfold Oper.wp
  rw [hr]
  exact ⟨hR _ hU (by simpa using hB), hn⟩
def CallPost (P : Program) (Q : Exit → Act → World → Prop) (R : Rel) (k : Kind) (s : XPlan) (a : Act) (d : Option Tmp) (w : World) : Ending → World → Prop
  | .returned v, w' => EffPost P Q R k s w (a.put d v) w'
  | .panicked chain, w' => Q (.panic chain) a w'
  | .outgrown, _ => LetsOut Q
theorem called {v : Value} {w1 : World} (h : behind k R w w1) (n : wpX P Q R s (a.put d v) w1) : CallPost P Q R k s a d w (.returned v) w1 := ⟨h, n⟩
theorem ef_call {f : FuncId} {xs : Array Operand} {ts : Array TypeId} {vs : Array Value} (hk : k.acts = true) (hf : Enters P f) (hvs : xs.map a.eval = vs) (h : Calls P f vs w (CallPost P Q R k s a d w)) :
    wpX P Q R (.step k ⟨d, .call { callee := .value (.func f), args := xs, argTypes := ts }, ty⟩ none s) a w :=
  ef_gen (by
    obtain ⟨fn, hfn, hn, hb⟩ := hf
    have hr : (execOp a.eval (XOp.mk d (.call { callee := .value (.func f), args := xs, argTypes := ts }) ty).oper).run P w = .ok (.enter f vs) w := by
      have e : execOp a.eval (XOp.mk d (.call { callee := .value (.func f), args := xs, argTypes := ts }) ty).oper = callFunc f (#[] ++ xs.map a.eval ++ #[]) := rfl
      rw [e]
      have hn' : ¬ fn.name = "runtime.NumGoroutine" := by simpa using hn
      have hb' : ¬ fn.body = none := fun h0 => by rw [h0] at hb; cases hb
      simp [callFunc, hfn, hn', hb', hvs]
    unfold Oper.wp
    rw [hr]
    refine Calls.mono h fun e w' he => ?_
    cases e <;> exact he) hk
end laws
end Go.Proofs.Ytjocklgihjbaiaa
end
section
/- The executor of X over what is known of the temporaries: a list of slots and values. Over any program. -/
namespace Go.Proofs.Ytjocklgihjbaiaa
open Go.RowKit
abbrev Env := List (Tmp × Value)
def Env.get : Env → Tmp → Option Value
  | [], _ => none
  | (s, v) :: r, t => if s = t then some v else Env.get r t
def Env.ev (e : Env) : Operand → Option Value
  | .tmp t => e.get t
  | .const v => some v
  | .global g => some (.pointer (some ⟨g, 0, none⟩))
  | .func f => some (.func (.func f) #[] #[])
def Env.evs (e : Env) : List Operand → Option (List Value)
  | [] => some []
  | x :: r => match e.ev x, Env.evs e r with
    | some v, some vs => some (v :: vs)
    | _, _ => none
/-- How many temporaries there are, and which calls are deferred. -/
structure Fm where
  n : Nat
  ds : List Deferred
/-- What is known of the temporaries is so. -/
def Agrees (n : Fm) (a : Act) (e : Env) : Prop := a.defers = n.ds ∧ a.tmps.size = n.n ∧ ∀ t v, e.get t = some v → a.tmps[t]? = some v
section
variable {n : Fm} {a : Act} {e : Env}
theorem Agrees.ev (h : Agrees n a e) {x : Operand} {v : Value} (hx : e.ev x = some v) : a.eval x = v := by
  cases x with
  | tmp t => have := h.2.2 t v hx; simp [Act.eval, this]
  | const v' => simpa [Env.ev, Act.eval] using hx
  | global g => simpa [Env.ev, Act.eval] using hx
  | func f => simpa [Env.ev, Act.eval] using hx
theorem Agrees.evs (h : Agrees n a e) : ∀ {xs : List Operand} {vs : List Value}, e.evs xs = some vs → xs.map a.eval = vs
  | [], vs, hx => by simp [Env.evs] at hx; simp [hx]
  | x :: xs, vs, hx => by
    simp only [Env.evs] at hx
    cases h1 : e.ev x with
    | none => simp [h1] at hx
    | some v =>
      cases h2 : Env.evs e xs with
      | none => simp [h1, h2] at hx
      | some r =>
        simp only [h1, h2, Option.some.injEq] at hx
        subst hx
        simp [h.ev h1, h.evs h2]
theorem Agrees.put (h : Agrees n a e) {d : Tmp} {v : Value} (hd : d < n.n) : Agrees n (a.put (some d) v) ((d, v) :: e) := by
  refine ⟨h.1, by simp [Act.put, h.2.1], fun t u ht => ?_⟩
  simp only [Env.get] at ht
  split at ht
  · rename_i e'
    subst e'
    obtain rfl : v = u := by simpa using ht
    simp [Act.put, h.2.1, hd]
  · rename_i hne
    simp only [Act.put]
    rw [Array.getElem?_setIfInBounds_ne hne]
    exact h.2.2 t u ht
theorem Agrees.get (h : Agrees n a e) {t : Tmp} {v : Value} (ht : e.get t = some v) : a.tmps[t]? = some v := h.2.2 t v ht
def Env.sub (e' e : Env) : Prop := ∀ t v, e'.get t = some v → e.get t = some v
theorem Agrees.sub {e' : Env} (h : Agrees n a e) (hs : Env.sub e' e) : Agrees n a e' := ⟨h.1, h.2.1, fun t v ht => h.2.2 t v (hs t v ht)⟩
theorem Env.sub_nil (e : Env) : Env.sub [] e := fun t v h => by cases h
theorem Env.sub_cons {e' e : Env} {t : Tmp} {v : Value} (h1 : e.get t = some v) (h2 : Env.sub e' e) : Env.sub ((t, v) :: e') e := fun s u hs => by
  simp only [Env.get] at hs
  split at hs
  · rename_i h; subst h; simpa [h1] using hs
  · exact h2 s u hs
end
def argEnv : Nat → List Value → Env
  | _, [] => []
  | k, v :: r => (k, v) :: argEnv (k + 1) r
def wpE (P : Program) (n : Fm) (Q : Exit → Act → World → Prop) (R : Rel) (p : XPlan) (e : Env) (w : World) : Prop := ∀ a, Agrees n a e → wpX P Q R p a w
def wpC (P : Program) (n : Fm) (x : XCode) (Q : Exit → Act → World → Prop) (e : Env) (w : World) : Prop := ∀ a, Agrees n a e → x.wp P Q a w
section ctrl
variable {P : Program} {n : Fm} {R : Rel} {Q : Exit → Act → World → Prop} {e : Env} {w : World}
/-- A function is entered. -/
theorem e_enter {f : FuncId} {fn : Func} {c : Code} {args : Array Value} {RR : Ending → World → Prop} (hm : P.follows .mixedOrders = true) (hf : P.funcs[f]? = some fn) (plans : Nat → Option Plan) (x : XCode)
    (hb : fn.body = some c) (hx : compile plans c = x) (hok : plansOk plans c = true) (hn : fn.ntmps = n.n) (hds : n.ds = []) (hargs : args.size ≤ n.n) (h : wpC P n x (bodyPost P fn RR) (argEnv 0 args.toList) w) : Calls P f args w RR := by
  refine calls_of_wp hf hb (wp_enter hm plans x hx hok (h _ ⟨hds.symm, by simp; omega, fun t v ht => ?_⟩))
  have key : ∀ (l : List Value) (k : Nat) (t : Nat), Env.get (argEnv k l) t = some v → k ≤ t ∧ l[t - k]? = some v := by
    intro l
    induction l with
    | nil => intro k t ht; cases ht
    | cons u l ih =>
      intro k t ht
      simp only [argEnv, Env.get] at ht
      split at ht
      · rename_i hk; subst hk; simpa using ht
      · rename_i hk
        obtain ⟨h1, h2⟩ := ih (k + 1) t ht
        refine ⟨by omega, ?_⟩
        rw [show t - k = (t - (k + 1)) + 1 by omega]
        simpa using h2
  obtain ⟨_, h2⟩ := key args.toList 0 t ht
  simp only [Nat.sub_zero, Array.getElem?_toList] at h2
  rw [Array.getElem?_append_left (Array.getElem?_eq_some_iff.1 h2).1]
  exact h2
theorem e_seq {x y : XCode} (h : ∀ K : Act → World → Prop, Later P y Q K → wpC P n x (Exit.then K Q) e w) : wpC P n (.seq x y) Q e w :=
  fun a ha => x_seq fun K hK => h K hK a ha
/-- The rest of a sequence is come to. -/
theorem e_next {y : XCode} {K : Act → World → Prop} {Q' : Exit → Act → World → Prop} (hK : Later P y Q K) (h : wpC P n y Q e w) : wpE P n (Exit.then K Q') R .nil e w :=
  fun a ha => hK a w (h a ha)
theorem e_nextC {y : XCode} {K : Act → World → Prop} {Q' : Exit → Act → World → Prop} (hK : Later P y Q K) (h : wpC P n y Q e w) : wpC P n .skip (Exit.then K Q') e w :=
  fun a ha => hK a w (h a ha)
theorem e_region {p : XPlan} (h : wpE P n Q frRel p e w) : wpC P n (.region p) Q e w := h
theorem e_drawnR (R : Rel) {p : XPlan} (hQ : ∀ c a w d v, Q (.panic c) (a.put d v) w → Q (.panic c) a w) (h : ∀ w1, Fr w w1 → wpE P n Q R p e w1) : wpC P n (.drawn p) Q e w :=
  fun a ha => x_drawn R hQ fun w1 hw => h w1 hw a ha
theorem e_drawn {p : XPlan} (hQ : ∀ c a w d v, Q (.panic c) (a.put d v) w → Q (.panic c) a w) (h : ∀ w1, Fr w w1 → wpE P n Q frRel p e w1) : wpC P n (.drawn p) Q e w :=
  e_drawnR frRel hQ h
theorem e_true {c : Operand} {x y : XCode} {t : Bool} (hc : e.ev c = some (.bool t)) (ht : t = true) (h : wpC P n x Q e w) : wpC P n (.cond c x y) Q e w :=
  fun a ha => x_cond_true (ha.ev hc) ht (h a ha)
theorem e_false {c : Operand} {x y : XCode} {t : Bool} (hc : e.ev c = some (.bool t)) (ht : t = false) (h : wpC P n y Q e w) : wpC P n (.cond c x y) Q e w :=
  fun a ha => x_cond_false (ha.ev hc) ht (h a ha)
theorem e_block {id : Nat} {x : XCode} (h : wpC P n x (Exit.inBlock id Q) e w) : wpC P n (.block id x) Q e w := h
/-- A way out of a block. -/
theorem e_exit_then {id : Nat} {K : Act → World → Prop} (h : wpC P n (.exit id) Q e w) : wpC P n (.exit id) (Exit.then K Q) e w := h
theorem e_exit_here {id : Nat} (h : ∀ a, Agrees n a e → Q .normal a w) : wpC P n (.exit id) (Exit.inBlock id Q) e w := fun a ha => by
  show Exit.inBlock id Q (.exit id) a w
  simp only [Exit.inBlock, if_true]
  exact h a ha
theorem e_exit_on {id id' : Nat} (hne : id ≠ id') (h : wpC P n (.exit id) Q e w) : wpC P n (.exit id) (Exit.inBlock id' Q) e w := fun a ha => by
  show Exit.inBlock id' Q (.exit id) a w
  simp only [Exit.inBlock, if_neg hne]
  exact h a ha
theorem e_ret_then {K : Act → World → Prop} (h : wpC P n .ret Q e w) : wpC P n .ret (Exit.then K Q) e w := h
theorem e_ret_block {id : Nat} (h : wpC P n .ret Q e w) : wpC P n .ret (Exit.inBlock id Q) e w := h
theorem e_norm_then {y : XCode} {K : Act → World → Prop} {Q' : Exit → Act → World → Prop} (hK : Later P y Q K) (h : wpC P n y Q e w) : ∀ a, Agrees n a e → Exit.then K Q' .normal a w := fun a ha => hK a w (h a ha)
theorem e_norm_block {id : Nat} (h : ∀ a, Agrees n a e → Q .normal a w) : ∀ a, Agrees n a e → Exit.inBlock id Q .normal a w := h
theorem e_norm_nil (h : ∀ a, Agrees n a e → Q .normal a w) : wpE P n Q R .nil e w := h
theorem e_norm_skip (h : ∀ a, Agrees n a e → Q .normal a w) : wpC P n .skip Q e w := h
/-! The ends of a function. -/
section
variable {fn : Func} {RR : Ending → World → Prop}
theorem e_ret1 {t : Tmp} {v : Value} (hf : fn.results = #[.tmp t]) (ht : e.get t = some v) (hds : n.ds = []) (h : RR (.returned v) w) : wpC P n .ret (bodyPost P fn RR) e w := fun a ha => by
  refine bodyPost_ret (v := v) ?_ (ha.1.trans hds) h
  simp [results, hf, ha.get ht]
theorem e_ret2 {t u : Tmp} {v1 v2 : Value} (hf : fn.results = #[.tmp t, .tmp u]) (ht : e.get t = some v1) (hu : e.get u = some v2) (hds : n.ds = []) (h : RR (.returned (.tuple #[v1, v2])) w) : wpC P n .ret (bodyPost P fn RR) e w := fun a ha => by
  refine bodyPost_ret (v := .tuple #[v1, v2]) ?_ (ha.1.trans hds) h
  simp [results, hf, ha.get ht, ha.get hu]
theorem e_ret0 (hf : fn.results = #[]) (hds : n.ds = []) (h : RR (.returned (.tuple #[])) w) : wpC P n .ret (bodyPost P fn RR) e w := fun a ha => by
  refine bodyPost_ret (v := .tuple #[]) ?_ (ha.1.trans hds) h
  simp [results, hf]
theorem e_end0 (hf : fn.results = #[]) (hds : n.ds = []) (h : RR (.returned (.tuple #[])) w) : ∀ a, Agrees n a e → bodyPost P fn RR .normal a w := fun a ha =>
  ⟨ha.1.trans hds, .tuple #[], by simp [results, hf], h⟩
/-- Two results, the first of which lies in a block of its own. -/
theorem e_retB {t u ty bt : TypeId} {b : Nat} {cs : Array Value} {v : Value} (hf : fn.results = #[.cell t ty, .tmp u]) (ht : e.get t = some (.pointer (some ⟨b, 0, none⟩))) (hu : e.get u = some v) (hb : Blk w b bt cs) (hk : loadKind P ty = some (some cs.size))
    (hds : n.ds = []) (h : RR (.returned (.tuple #[.agg cs, v])) w) : wpC P n .ret (bodyPost P fn RR) e w := fun a ha => by
  refine bodyPost_ret (v := .tuple #[.agg cs, v]) ?_ (ha.1.trans hds) h
  obtain ⟨d', hud, hd, hi⟩ := loadKind_some hk
  have h1 := run_loadVar_mid (P := P) w b 0 ty (cs.extract 0 (0 + cs.size)).toList d' (World.rangeAt_of_block hb 0 cs.size) hud hd (by rw [hi]; simp)
  have h2 : (loadVar ty ⟨b, 0, none⟩).run P w = .ok (.agg cs) w := by rw [h1]; simp
  have g1 := ha.get ht
  have g2 := ha.get hu
  simp [results, hf, g1, g2, asAddr, h2]
end
end ctrl
section ops
variable {P : Program} {n : Fm} {R : Rel} {Q : Exit → Act → World → Prop} {e : Env} {w : World} {k : Kind} {d : Tmp} {ty : TypeId} {s : XPlan}
theorem E_fork {s t : XPlan} (h1 : wpE P n Q R s e w) (h2 : wpE P n Q R t e w) : wpE P n Q R (.fork s t) e w := fun a ha => ⟨h1 a ha, h2 a ha⟩
theorem E_want {x : XOp} {t : Tmp} {want b : Bool} (ht : e.get t = some (.bool b)) (hb : b = want) (h : wpE P n Q R (.step k x none s) e w) : wpE P n Q R (.step k x (some (some t, want)) s) e w :=
  fun a ha => x_want (ha.get ht) hb (h a ha)
theorem E_pass {op : Op} {t : Tmp} {want b : Bool} (ht : e.get t = some (.bool b)) (hb : b = !want) (hd : d < n.n) (h : wpE P n Q R s ((d, undef) :: e) w) : wpE P n Q R (.step k ⟨some d, op, ty⟩ (some (some t, want)) s) e w :=
  fun a ha => x_pass (ha.get ht) hb (h _ (ha.put hd))
theorem E_passu {op : Op} {t : Tmp} {want : Bool} (ht : e.get t = some undef) (hd : d < n.n) (h : wpE P n Q R s ((d, undef) :: e) w) : wpE P n Q R (.step k ⟨some d, op, ty⟩ (some (some t, want)) s) e w :=
  fun a ha => x_pass_undef (ha.get ht) (h _ (ha.put hd))
theorem E_move {x : Operand} {v : Value} (hx : e.ev x = some v) (hd : d < n.n) (h : wpE P n Q R s ((d, v) :: e) w) : wpE P n Q R (.step k ⟨some d, .move x, ty⟩ none s) e w :=
  fun _ ha => rd_move (ha.ev hx) (h _ (ha.put hd))
theorem E_assign {x : Operand} {v : Value} (hx : e.ev x = some v) (hd : d < n.n) (h : wpE P n Q R s ((d, v) :: e) w) : wpE P n Q R (.step k ⟨some d, .assign x, ty⟩ none s) e w :=
  fun _ ha => rd_assign (ha.ev hx) (h _ (ha.put hd))
theorem E_pick_t {c x y : Operand} {b : Bool} {v : Value} (hc : e.ev c = some (.bool b)) (hb : b = true) (hx : e.ev x = some v) (hd : d < n.n) (h : wpE P n Q R s ((d, v) :: e) w) : wpE P n Q R (.step k ⟨some d, .pick c x y, ty⟩ none s) e w :=
  fun _ ha => rd_pick_t (ha.ev hc) hb (ha.ev hx) (h _ (ha.put hd))
theorem E_pick_f {c x y : Operand} {b : Bool} {v : Value} (hc : e.ev c = some (.bool b)) (hb : b = false) (hx : e.ev y = some v) (hd : d < n.n) (h : wpE P n Q R s ((d, v) :: e) w) : wpE P n Q R (.step k ⟨some d, .pick c x y, ty⟩ none s) e w :=
  fun _ ha => rd_pick_f (ha.ev hc) hb (ha.ev hx) (h _ (ha.put hd))
theorem E_nil {x : Operand} {p : Addr} (hx : e.ev x = some (.pointer (some p))) (hd : d < n.n) (h : wpE P n Q R s ((d, .pointer (some p)) :: e) w) : wpE P n Q R (.step k ⟨some d, .nilCheck x, ty⟩ none s) e w :=
  fun _ ha => rd_nil (ha.ev hx) (h _ (ha.put hd))
theorem E_not {x : Operand} {b b' : Bool} {t : TypeId} (hx : e.ev x = some (.bool b)) (hb : (!b) = b') (hd : d < n.n) (h : wpE P n Q R s ((d, .bool b') :: e) w) : wpE P n Q R (.step k ⟨some d, .unOp .not t x, ty⟩ none s) e w :=
  fun _ ha => rd_not (ha.ev hx) (hb ▸ h _ (ha.put hd))
theorem E_extract {x : Operand} {vs : Array Value} {i : Nat} {v : Value} (hx : e.ev x = some (.tuple vs)) (hv : vs[i]? = some v) (hd : d < n.n) (h : wpE P n Q R s ((d, v) :: e) w) : wpE P n Q R (.step k ⟨some d, .extract x i, ty⟩ none s) e w :=
  fun _ ha => rd_extract (ha.ev hx) hv (h _ (ha.put hd))
theorem E_field {x : Operand} {st : TypeId} {f o q o' b : Nat} (hx : e.ev x = some (.pointer (some ⟨b, o', none⟩))) (ho : fieldOff P st f = some o) (hq : o' + o = q) (hd : d < n.n) (h : wpE P n Q R s ((d, .pointer (some ⟨b, q, none⟩)) :: e) w) :
    wpE P n Q R (.step k ⟨some d, .fieldAddr st x f, ty⟩ none s) e w :=
  fun _ ha => rd_field (ha.ev hx) ho (by rw [Addr.add_mid, hq]; exact h _ (ha.put hd))
theorem E_load {x : Operand} {t : TypeId} {p : Addr} {v : Value} (hx : e.ev x = some (.pointer (some p))) (ht : loadKind P t = some none) (hB : R.keeps k p) (hc : w.cell? p = some v) (hd : d < n.n) (h : wpE P n Q R s ((d, v) :: e) w) :
    wpE P n Q R (.step k ⟨some d, .load t x, ty⟩ none s) e w :=
  fun _ ha => rd_load (ha.ev hx) ht hB hc (h _ (ha.put hd))
theorem E_loads {x : Operand} {t : TypeId} {b o m : Nat} {cs : Array Value} (hx : e.ev x = some (.pointer (some ⟨b, o, none⟩))) (ht : loadKind P t = some (some m)) (hB : R.keepsR k b o m) (hc : w.rangeAt b o cs.toList) (hm : cs.size = m) (hd : d < n.n)
    (h : wpE P n Q R s ((d, .agg cs) :: e) w) : wpE P n Q R (.step k ⟨some d, .load t x, ty⟩ none s) e w :=
  fun _ ha => rd_loads (ha.ev hx) ht hB hc (by simpa using hm) (by simpa using h _ (ha.put hd))
theorem E_loadB {x : Operand} {t bt : TypeId} {b o m : Nat} {cs cs' : Array Value} (hx : e.ev x = some (.pointer (some ⟨b, o, none⟩))) (ht : loadKind P t = some (some m)) (hB : R.keepsR k b o m) (hb : Blk w b bt cs) (hm : o + m ≤ cs.size) (he : cs.extract o (o + m) = cs') (hd : d < n.n)
    (h : wpE P n Q R s ((d, .agg cs') :: e) w) : wpE P n Q R (.step k ⟨some d, .load t x, ty⟩ none s) e w :=
  fun _ ha => rd_loadB (ha.ev hx) ht hB hb hm (he ▸ h _ (ha.put hd))
theorem E_loadW {x : Operand} {t bt : TypeId} {b : Nat} {cs : Array Value} (hx : e.ev x = some (.pointer (some ⟨b, 0, none⟩))) (hB : R.keepsR k b 0 cs.size) (hb : Blk w b bt cs) (ht : loadKind P t = some (some cs.size)) (hd : d < n.n)
    (h : wpE P n Q R s ((d, .agg cs) :: e) w) : wpE P n Q R (.step k ⟨some d, .load t x, ty⟩ none s) e w :=
  fun _ ha => rd_loadW (ha.ev hx) ht hB hb (h _ (ha.put hd))
theorem E_idxA {x i : Operand} {t : TypeId} {kd : IntKind} {j : Int} {b o q m c : Nat} (hx : e.ev x = some (.pointer (some ⟨b, o, none⟩))) (hi : e.ev i = some (.int kd j)) (ht : arrayOf P t = some (c, m)) (h0 : 0 ≤ j) (h1 : j < c) (hq : o + j.toNat * m = q) (hd : d < n.n)
    (h : wpE P n Q R s ((d, .pointer (some ⟨b, q, none⟩)) :: e) w) : wpE P n Q R (.step k ⟨some d, .indexAddr t x i, ty⟩ none s) e w :=
  fun _ ha => rd_idxA (ha.ev hx) (ha.ev hi) ht h0 h1 (by rw [Addr.add_mid, hq]; exact h _ (ha.put hd))
theorem E_idxS {x i : Operand} {t e' : TypeId} {kd : IntKind} {j : Int} {b o q m c c' by' : Nat} (hx : e.ev x = some (.slice (some ⟨b, o, none⟩) c c')) (hi : e.ev i = some (.int kd j)) (ht : sliceOf P t = some (e', m, by')) (h0 : 0 ≤ j) (h1 : j < c) (hq : o + j.toNat * m = q) (hd : d < n.n)
    (h : wpE P n Q R s ((d, .pointer (some ⟨b, q, none⟩)) :: e) w) : wpE P n Q R (.step k ⟨some d, .indexAddr t x i, ty⟩ none s) e w :=
  fun _ ha => rd_idxS (ha.ev hx) (ha.ev hi) ht h0 h1 (by rw [Addr.add_mid, hq]; exact h _ (ha.put hd))
theorem E_index {x i : Operand} {t : TypeId} {kd : IntKind} {j : Int} {cs : Array Value} {c e' : Nat} {v : Value} (hx : e.ev x = some (.agg cs)) (hi : e.ev i = some (.int kd j)) (ht : P.underlying t = some (.array c e')) (he : loadKind P e' = some none) (hs : sizeIs P e' = some 1)
    (h0 : 0 ≤ j) (h1 : j < c) (hv : cs[j.toNat]? = some v) (hd : d < n.n) (h : wpE P n Q R s ((d, v) :: e) w) : wpE P n Q R (.step k ⟨some d, .index t x i, ty⟩ none s) e w :=
  fun _ ha => rd_index (ha.ev hx) (ha.ev hi) ht he hs h0 h1 hv (h _ (ha.put hd))
theorem E_lss {x y : Operand} {t u : TypeId} {kd : IntKind} {i j : Int} {b : Bool} (hx : e.ev x = some (.int kd i)) (hy : e.ev y = some (.int kd j)) (hb : decide (i < j) = b) (hd : d < n.n) (h : wpE P n Q R s ((d, .bool b) :: e) w) : wpE P n Q R (.step k ⟨some d, .binOp .lss t x y u, ty⟩ none s) e w :=
  fun _ ha => rd_lss (ha.ev hx) (ha.ev hy) (hb ▸ h _ (ha.put hd))
theorem E_leq {x y : Operand} {t u : TypeId} {kd : IntKind} {i j : Int} {b : Bool} (hx : e.ev x = some (.int kd i)) (hy : e.ev y = some (.int kd j)) (hb : decide (i ≤ j) = b) (hd : d < n.n) (h : wpE P n Q R s ((d, .bool b) :: e) w) : wpE P n Q R (.step k ⟨some d, .binOp .leq t x y u, ty⟩ none s) e w :=
  fun _ ha => rd_leq (ha.ev hx) (ha.ev hy) (hb ▸ h _ (ha.put hd))
theorem E_gtr {x y : Operand} {t u : TypeId} {kd : IntKind} {i j : Int} {b : Bool} (hx : e.ev x = some (.int kd i)) (hy : e.ev y = some (.int kd j)) (hb : decide (j < i) = b) (hd : d < n.n) (h : wpE P n Q R s ((d, .bool b) :: e) w) : wpE P n Q R (.step k ⟨some d, .binOp .gtr t x y u, ty⟩ none s) e w :=
  fun _ ha => rd_gtr (ha.ev hx) (ha.ev hy) (hb ▸ h _ (ha.put hd))
theorem E_geq {x y : Operand} {t u : TypeId} {kd : IntKind} {i j : Int} {b : Bool} (hx : e.ev x = some (.int kd i)) (hy : e.ev y = some (.int kd j)) (hb : decide (j ≤ i) = b) (hd : d < n.n) (h : wpE P n Q R s ((d, .bool b) :: e) w) : wpE P n Q R (.step k ⟨some d, .binOp .geq t x y u, ty⟩ none s) e w :=
  fun _ ha => rd_geq (ha.ev hx) (ha.ev hy) (hb ▸ h _ (ha.put hd))
theorem E_eql {x y : Operand} {t u : TypeId} {kd : IntKind} {i j : Int} {b : Bool} (hx : e.ev x = some (.int kd i)) (hy : e.ev y = some (.int kd j)) (hb : decide (i = j) = b) (hd : d < n.n) (h : wpE P n Q R s ((d, .bool b) :: e) w) : wpE P n Q R (.step k ⟨some d, .binOp .eql t x y u, ty⟩ none s) e w :=
  fun _ ha => rd_eql (ha.ev hx) (ha.ev hy) (hb ▸ h _ (ha.put hd))
theorem E_neq {x y : Operand} {t u : TypeId} {kd : IntKind} {i j : Int} {b : Bool} (hx : e.ev x = some (.int kd i)) (hy : e.ev y = some (.int kd j)) (hb : decide (i ≠ j) = b) (hd : d < n.n) (h : wpE P n Q R s ((d, .bool b) :: e) w) : wpE P n Q R (.step k ⟨some d, .binOp .neq t x y u, ty⟩ none s) e w :=
  fun _ ha => rd_neq (ha.ev hx) (ha.ev hy) (hb ▸ h _ (ha.put hd))
theorem E_add {x y : Operand} {t u : TypeId} {i j : Int} (hx : e.ev x = some (.int .i64 i)) (hy : e.ev y = some (.int .i64 j)) (h0 : -9223372036854775808 ≤ i + j) (h1 : i + j < 9223372036854775808) (hd : d < n.n) (h : wpE P n Q R s ((d, .int .i64 (i + j)) :: e) w) : wpE P n Q R (.step k ⟨some d, .binOp .add t x y u, ty⟩ none s) e w :=
  fun _ ha => rd_add (ha.ev hx) (ha.ev hy) h0 h1 (h _ (ha.put hd))
theorem E_sub {x y : Operand} {t u : TypeId} {i j : Int} (hx : e.ev x = some (.int .i64 i)) (hy : e.ev y = some (.int .i64 j)) (h0 : -9223372036854775808 ≤ i - j) (h1 : i - j < 9223372036854775808) (hd : d < n.n) (h : wpE P n Q R s ((d, .int .i64 (i - j)) :: e) w) : wpE P n Q R (.step k ⟨some d, .binOp .sub t x y u, ty⟩ none s) e w :=
  fun _ ha => rd_sub (ha.ev hx) (ha.ev hy) h0 h1 (h _ (ha.put hd))
theorem E_eqlnil {x y : Operand} {t u : TypeId} {p : Option Addr} {b : Bool} (hx : e.ev x = some (.pointer p)) (hy : e.ev y = some (.pointer none)) (ht : ptrDesc P t = true) (hb : p.isNone = b) (hd : d < n.n) (h : wpE P n Q R s ((d, .bool b) :: e) w) : wpE P n Q R (.step k ⟨some d, .binOp .eql t x y u, ty⟩ none s) e w :=
  fun _ ha => rd_eqlnil (ha.ev hx) (ha.ev hy) ht (hb ▸ h _ (ha.put hd))
theorem E_neqnil {x y : Operand} {t u : TypeId} {p : Option Addr} {b : Bool} (hx : e.ev x = some (.pointer p)) (hy : e.ev y = some (.pointer none)) (ht : ptrDesc P t = true) (hb : (!p.isNone) = b) (hd : d < n.n) (h : wpE P n Q R s ((d, .bool b) :: e) w) : wpE P n Q R (.step k ⟨some d, .binOp .neq t x y u, ty⟩ none s) e w :=
  fun _ ha => rd_neqnil (ha.ev hx) (ha.ev hy) ht (hb ▸ h _ (ha.put hd))
theorem E_eqlnilS {x y : Operand} {t u : TypeId} {p : Option Addr} {i c j c' : Nat} {b : Bool} (hx : e.ev x = some (.slice p i c)) (hy : e.ev y = some (.slice none j c')) (ht : sliceDesc P t = true) (hb : p.isNone = b) (hd : d < n.n) (h : wpE P n Q R s ((d, .bool b) :: e) w) : wpE P n Q R (.step k ⟨some d, .binOp .eql t x y u, ty⟩ none s) e w :=
  fun _ ha => rd_eqlnilS (ha.ev hx) (ha.ev hy) ht (hb ▸ h _ (ha.put hd))
theorem E_lenS {x : Operand} {t : TypeId} {p : Option Addr} {i c : Nat} (hx : e.ev x = some (.slice p i c)) (ht : sliceDesc P t = true) (hd : d < n.n) (h : wpE P n Q R s ((d, .int .i64 i) :: e) w) :
    wpE P n Q R (.step k ⟨some d, .call { callee := .builtin .len, args := #[x], argTypes := #[t] }, ty⟩ none s) e w :=
  fun _ ha => rd_lenS (ha.ev hx) ht (h _ (ha.put hd))
theorem E_box {x : Operand} {t : TypeId} {v : Value} {cs : Array Value} (hk : k.acts = true) (hx : e.ev x = some v) (hcs : v.cells = cs) (hd : d < n.n)
    (h : ∀ b w1, Fr w w1 → NewB w w1 b → Blk w1 b t cs → wpE P n Q R s ((d, .pointer (some ⟨b, 0, none⟩)) :: e) w1) : wpE P n Q R (.step k ⟨some d, .box t x, ty⟩ none s) e w :=
  fun _ ha => ef_box hk (ha.ev hx) hcs fun b w1 h1 h2 h3 => h b w1 h1 h2 h3 _ (ha.put hd)
theorem E_alloc {t : TypeId} {cs : Array Value} (hk : k.acts = true) (hz : zeroOf P t = some cs) (hd : d < n.n)
    (h : ∀ b w1, Fr w w1 → NewB w w1 b → Blk w1 b t cs → wpE P n Q R s ((d, .pointer (some ⟨b, 0, none⟩)) :: e) w1) : wpE P n Q R (.step k ⟨some d, .alloc t, ty⟩ none s) e w :=
  fun _ ha => ef_alloc hk hz fun b w1 h1 h2 h3 => h b w1 h1 h2 h3 _ (ha.put hd)
theorem E_store {x y : Operand} {t bt : TypeId} {v : Value} {b o : Nat} {cs cs' : Array Value} (hk : k.acts = true) (hR : ∀ w1, Upd b w w1 → Blk w1 b bt cs' → behind k R w w1) (hx : e.ev x = some (.pointer (some ⟨b, o, none⟩))) (hy : e.ev y = some v)
    (hb : Blk w b bt cs) (ht : sizeIs P t = some v.cells.size) (h1 : v.cells.all (·.oneCell') = true) (hm : o + v.cells.size ≤ cs.size) (hc : (⟨cs.toList.take o ++ v.cells.toList ++ cs.toList.drop (o + v.cells.size)⟩ : Array Value) = cs')
    (h : ∀ w1, Upd b w w1 → Blk w1 b bt cs' → wpE P n Q R s e w1) : wpE P n Q R (.step k ⟨none, .store t x y, ty⟩ none s) e w :=
  fun _ ha => ef_store hk (fun w1 h2 h3 => hR w1 h2 (hc ▸ h3)) (ha.ev hx) (ha.ev hy) hb ht h1 hm fun w1 h2 h3 => h w1 h2 (hc ▸ h3) _ ha
/-- A store of a whole block. -/
theorem E_storeW {x y : Operand} {t bt : TypeId} {b : Nat} {cs cs' : Array Value} (hk : k.acts = true) (hR : ∀ w1, Upd b w w1 → Blk w1 b bt cs' → behind k R w w1) (hx : e.ev x = some (.pointer (some ⟨b, 0, none⟩))) (hy : e.ev y = some (.agg cs'))
    (hb : Blk w b bt cs) (ht : sizeIs P t = some cs'.size) (h1 : cs'.toList.all (·.oneCell') = true) (hm : cs'.size = cs.size)
    (h : ∀ w1, Upd b w w1 → Blk w1 b bt cs' → wpE P n Q R s e w1) : wpE P n Q R (.step k ⟨none, .store t x y, ty⟩ none s) e w :=
  E_store hk hR hx hy hb ht (by show cs'.all (·.oneCell') = true; rw [← Array.all_toList]; exact h1) (by show 0 + cs'.size ≤ cs.size; omega) (by
    show (⟨cs.toList.take 0 ++ cs'.toList ++ cs.toList.drop (0 + cs'.size)⟩ : Array Value) = cs'
    rw [Nat.zero_add, hm, List.take_zero, List.nil_append, List.drop_of_length_le (by simp), List.append_nil]) h
/-- A store of one cell. -/
theorem E_store1 {x y : Operand} {t bt : TypeId} {v : Value} {b o : Nat} {cs : Array Value} (hk : k.acts = true) (hR : ∀ w1, Upd b w w1 → Blk w1 b bt (cs.setIfInBounds o v) → behind k R w w1) (hx : e.ev x = some (.pointer (some ⟨b, o, none⟩))) (hy : e.ev y = some v)
    (hb : Blk w b bt cs) (ht : sizeIs P t = some 1) (h1 : v.oneCell' = true) (hm : o < cs.size)
    (h : ∀ w1, Upd b w w1 → Blk w1 b bt (cs.setIfInBounds o v) → wpE P n Q R s e w1) : wpE P n Q R (.step k ⟨none, .store t x y, ty⟩ none s) e w := by
  have hc : v.cells = #[v] := by cases v <;> first | rfl | (simp [Value.oneCell'] at h1)
  refine E_store hk hR hx hy hb (by rw [hc]; exact ht) (by rw [hc]; simpa using h1) (by rw [hc]; show o + 1 ≤ cs.size; omega) ?_ h
  rw [hc]
  obtain ⟨l⟩ := cs
  simp only [List.setIfInBounds_toArray]
  rw [List.set_eq_take_append_cons_drop, if_pos (by simpa using hm)]
  simp
theorem E_call {f : FuncId} {xs : Array Operand} {ts : Array TypeId} {vs : List Value} (hk : k.acts = true) (hf : Enters P f) (hvs : e.evs xs.toList = some vs)
    (h : ∀ RR : Ending → World → Prop, (∀ v w1, behind k R w w1 → d < n.n → wpE P n Q R s ((d, v) :: e) w1 → RR (.returned v) w1) → Calls P f vs.toArray w RR) :
    wpE P n Q R (.step k ⟨some d, .call { callee := .value (.func f), args := xs, argTypes := ts }, ty⟩ none s) e w :=
  fun a ha => ef_call hk hf (by rw [← ha.evs hvs]; exact (Array.toList_inj.1 (by simp))) (h _ fun v w1 hb hd hs => called hb (hs _ (ha.put hd)))
end ops
end Go.Proofs.Ytjocklgihjbaiaa
end
section
/- Slices for the executor: what a slice of the call's own holds, append, slice literals, worlds in which some blocks have turned. Over any program. -/
namespace Go.Proofs.Ytjocklgihjbaiaa
open Go.RowKit
/-- What was there is as it was, but for the blocks of S. -/
structure Ch (S : Nat → Prop) (w w' : World) : Prop where
  os : w'.os = w.os
  tape : w'.tape = w.tape
  output : w'.output = w.output
  drawn : w.drawn ≤ w'.drawn
  size : w.heap.size ≤ w'.heap.size
  block : ∀ k, k < w.heap.size → ¬ S k → w'.heap[k]? = w.heap[k]?
section
variable {S T : Nat → Prop} {a b c' w w' : World}
theorem Ch.refl (S : Nat → Prop) (w : World) : Ch S w w := ⟨rfl, rfl, rfl, Nat.le_refl _, Nat.le_refl _, fun _ _ _ => rfl⟩
theorem Ch.trans (h : Ch S a b) (k : Ch S b c') : Ch S a c' :=
  ⟨k.os.trans h.os, k.tape.trans h.tape, k.output.trans h.output, Nat.le_trans h.drawn k.drawn, Nat.le_trans h.size k.size, fun i hi hs => (k.block i (Nat.lt_of_lt_of_le hi h.size) hs).trans (h.block i hi hs)⟩
theorem Ch.mono (h : Ch S a b) (hs : ∀ k, k < a.heap.size → S k → T k) : Ch T a b := ⟨h.os, h.tape, h.output, h.drawn, h.size, fun i hi hn => h.block i hi fun hS => hn (hs i hi hS)⟩
/-- A second step may turn what the first one may, and what is new. -/
theorem Ch.more (h : Ch S a b) (k : Ch T b c') (hT : ∀ i, i < a.heap.size → T i → S i) : Ch S a c' :=
  ⟨k.os.trans h.os, k.tape.trans h.tape, k.output.trans h.output, Nat.le_trans h.drawn k.drawn, Nat.le_trans h.size k.size, fun i hi hs => (k.block i (Nat.lt_of_lt_of_le hi h.size) fun ht => hs (hT i hi ht)).trans (h.block i hi hs)⟩
theorem Fr.ch (h : Fr a b) (S : Nat → Prop) : Ch S a b := ⟨h.os, h.tape, h.output, h.drawn, h.size, fun i hi _ => h.block i hi⟩
theorem Ch.fr (h : Ch S a b) (hn : ∀ k, k < a.heap.size → ¬ S k) : Fr a b := ⟨h.os, h.tape, h.output, h.drawn, h.size, fun i hi => h.block i hi (hn i hi)⟩
theorem Upd.ch {k : Nat} (h : Upd k a b) : Ch (· = k) a b := ⟨h.os, h.tape, h.output, h.drawn, Nat.le_of_eq h.size.symm, fun i _ hn => h.block i hn⟩
theorem Blk.ch {g : Nat} {t : TypeId} {cs : Array Value} (h : Blk w g t cs) (hc : Ch S w w') (hn : ¬ S g) : Blk w' g t cs := (hc.block g h.lt hn).trans h
theorem Ch.c (hc : Ch S w w') {p : Addr} {v : Value} (hn : ¬ S p.block) (h : w.cell? p = some v) : w'.cell? p = some v := by
  rw [World.cell?_of_block (w := w) (hc.block p.block (World.block_lt_of_cell? w p h) hn)]; exact h
theorem Ch.obj (hc : Ch S w w') {g : Nat} {o : Obj} (hn : ¬ S g) (h : w.heap[g]? = some o) : w'.heap[g]? = some o := by
  have hlt : g < w.heap.size := by
    rcases Nat.lt_or_ge g w.heap.size with h' | h'
    · exact h'
    · rw [Array.getElem?_eq_none h'] at h; cases h
  rw [hc.block g hlt hn]; exact h
/-- The late operations turn blocks of S. -/
def chRel (S : Nat → Prop) : Rel := ⟨Ch S, fun p => ¬ S p.block, fun k => ¬ S k, Ch.refl S, fun _ _ _ h k => h.trans k, fun _ _ h => h.ch S, fun _ _ _ _ hn h hc => h.c hn hc, fun _ _ _ _ _ hn h hb => h.obj hn hb⟩
/-- The late operations turn blocks of S, and one cell of block b. -/
structure Chc (S : Nat → Prop) (b o : Nat) (w w' : World) : Prop where
  ch : Ch (fun k => S k ∨ k = b) w w'
  cell : ∀ o' v, o' ≠ o → w.cell? ⟨b, o', none⟩ = some v → w'.cell? ⟨b, o', none⟩ = some v
def chcRel (S : Nat → Prop) (b o : Nat) : Rel := ⟨Chc S b o, fun p => (p.block ≠ b ∧ ¬ S p.block) ∨ (p.block = b ∧ p.off ≠ o ∧ p.spot = none), fun k => ¬ S k ∧ k ≠ b,
  fun w => ⟨Ch.refl _ w, fun _ _ _ h => h⟩, fun _ _ _ h k => ⟨h.ch.trans k.ch, fun o' v ho hc => k.cell o' v ho (h.cell o' v ho hc)⟩, fun _ _ h => ⟨h.ch _, fun _ _ _ hc => h.c hc⟩,
  fun _ _ p _ hn h hc => by
    rcases hn with ⟨h1, h2⟩ | ⟨h1, h2, h3⟩
    · exact h.ch.c (by rintro (h' | h'); exact h2 h'; exact h1 h') hc
    · obtain ⟨pb, po, ps⟩ := p
      subst h1 h3
      exact h.cell _ _ h2 hc,
  fun _ _ _ _ _ hn h hb => h.ch.obj (by rintro (h' | h'); exact hn.1 h'; exact hn.2 h') hb⟩
theorem Ch.chc {S T : Nat → Prop} {b o : Nat} {w w' : World} (h : Ch T w w') (hT : ∀ g, T g → S g) (hb : ¬ T b) : Chc S b o w w' := ⟨h.mono fun k _ hk => .inl (hT k hk), fun _ _ _ hc => h.c hb hc⟩
theorem chc_store {S : Nat → Prop} {b o : Nat} {w w' : World} {t : TypeId} {cs : Array Value} {v : Value} (hb : Blk w b t cs) (hU : Upd b w w') (hb' : Blk w' b t (cs.setIfInBounds o v)) : Chc S b o w w' :=
  ⟨hU.ch.mono fun k _ hk => .inr hk, fun o' u ho hc => by
    rw [cell_of_row w b o' cs t (0, 0) hb] at hc
    exact hb'.cell (by rw [Array.getElem?_setIfInBounds_ne (Ne.symm ho)]; exact hc)⟩
/-- Only new blocks were turned. -/
theorem Fr.more {T : Nat → Prop} (h : Fr a b) (k : Ch T b c') (hT : ∀ i, T i → a.heap.size ≤ i) : Fr a c' :=
  ⟨k.os.trans h.os, k.tape.trans h.tape, k.output.trans h.output, Nat.le_trans h.drawn k.drawn, Nat.le_trans h.size k.size, fun i hi => (k.block i (Nat.lt_of_lt_of_le hi h.size) fun ht => by have := hT i ht; omega).trans (h.block i hi)⟩
end
theorem rangeAt_fr {w w' : World} {b o : Nat} {cs : List Value} (h : w.rangeAt b o cs) (hF : Fr w w') : w'.rangeAt b o cs := fun j v hj => hF.c (h j v hj)
theorem rangeAt_ch {S : Nat → Prop} {w w' : World} {b o : Nat} {cs : List Value} (h : w.rangeAt b o cs) (hF : Ch S w w') (hn : ¬ S b) : w'.rangeAt b o cs := fun j v hj => hF.c hn (h j v hj)
theorem rangeAt_upd {w w' : World} {b o g : Nat} {cs : List Value} (h : w.rangeAt b o cs) (hU : Upd g w w') (hn : b ≠ g) : w'.rangeAt b o cs := fun j v hj => hU.c hn (h j v hj)
/-! ### What a slice holds -/
/-- v is a slice of n elements, k cells each, from the head of a block on (or nil); the cells are cs. -/
abbrev Row (w : World) (e : TypeId) (k : Nat) (v : Value) (n : Nat) (cs : List Value) : Prop := w.ownsRow 0 e k v n cs
section
variable {w w' : World} {e : TypeId} {k n : Nat} {v : Value} {cs : List Value}
theorem Row.lt (h : Row w e k v n cs) {g : Nat} (hg : v.ownBlock = some g) : g < w.heap.size := (World.ownsRow.lt h g hg).2
theorem Row.ch {S : Nat → Prop} (h : Row w e k v n cs) (hc : Ch S w w') (hn : ∀ g, v.ownBlock = some g → ¬ S g) : Row w' e k v n cs := by
  refine ⟨h.1, h.2.imp id ?_⟩
  rintro ⟨g, cap, cur, rfl, h1, h2, h3⟩
  exact ⟨g, cap, cur, rfl, h1, Blk.ch (t := e) (cs := cur) h2 hc (hn g rfl), h3⟩
theorem Row.fr (h : Row w e k v n cs) (hF : Fr w w') : Row w' e k v n cs := h.ch (hF.ch fun _ => False) fun _ _ h => h
theorem Row.form (h : Row w e k v n cs) (h0 : 0 < n) : ∃ g cap, v = .slice (some ⟨g, 0, none⟩) n cap ∧ g < w.heap.size := by
  rcases h.2 with ⟨_, rfl⟩ | ⟨g, cap, cur, rfl, _, hg, _⟩
  · omega
  · exact ⟨g, cap, rfl, Blk.lt (t := e) (cs := cur) hg⟩
theorem Row.value (h : Row w e k v n cs) : ∃ p cap, v = .slice p n cap := by
  rcases h.2 with ⟨rfl, rfl⟩ | ⟨g, cap, cur, rfl, _⟩
  · exact ⟨_, _, rfl⟩
  · exact ⟨_, _, rfl⟩
theorem Row.cell (h : Row w e k v n cs) {g : Nat} (hg : v.ownBlock = some g) {j : Nat} {u : Value} (hj : cs[j]? = some u) : w.cell? ⟨g, j, none⟩ = some u := by
  have := World.ownsRow.cells h hg j u hj
  rwa [Addr.add_mid, Nat.zero_add] at this
theorem Row.range (h : Row w e k v n cs) {g : Nat} (hg : v.ownBlock = some g) (o m : Nat) : w.rangeAt g o ((cs.drop o).take m) := fun j u hj => by
  refine h.cell hg ?_
  rw [List.getElem?_take] at hj
  split at hj
  · rw [List.getElem?_drop] at hj; exact hj
  · cases hj
end
/-- The cells of a row of things. -/
def cellsOf {α : Type} (enc : α → List Value) (xs : List α) : List Value := xs.flatMap enc
theorem cellsOf_length {α : Type} {enc : α → List Value} {k : Nat} (hk : ∀ x, (enc x).length = k) (xs : List α) : (cellsOf enc xs).length = xs.length * k := by
  induction xs with
  | nil => simp [cellsOf]
  | cons x xs ih => simp only [cellsOf, List.flatMap_cons, List.length_append, hk, List.length_cons] at ih ⊢; rw [ih, Nat.add_mul]; omega
theorem cellsOf_append {α : Type} (enc : α → List Value) (xs ys : List α) : cellsOf enc (xs ++ ys) = cellsOf enc xs ++ cellsOf enc ys := by simp [cellsOf]
theorem cellsOf_part {α : Type} {enc : α → List Value} {k : Nat} (hk : ∀ x, (enc x).length = k) : ∀ (xs : List α) (i : Nat) (x : α), xs[i]? = some x → ((cellsOf enc xs).drop (i * k)).take k = enc x
  | [], i, x, h => by simp at h
  | y :: xs, 0, x, h => by
    simp only [List.getElem?_cons_zero, Option.some.injEq] at h
    subst h
    simp only [cellsOf, List.flatMap_cons, Nat.zero_mul, List.drop_zero]
    rw [← hk y, List.take_left]
  | y :: xs, i + 1, x, h => by
    simp only [List.getElem?_cons_succ] at h
    have := cellsOf_part hk xs i x h
    simp only [cellsOf, List.flatMap_cons] at this ⊢
    have e : (i + 1) * k = (enc y).length + i * k := by rw [hk, Nat.add_mul]; omega
    rw [e, List.drop_append, List.drop_of_length_le (by omega), List.nil_append, show (enc y).length + i * k - (enc y).length = i * k by omega]
    exact this
/-- A slice of things. -/
def Sl {α : Type} (w : World) (e : TypeId) (k : Nat) (enc : α → List Value) (v : Value) (xs : List α) : Prop := Row w e k v xs.length (cellsOf enc xs)
section
variable {α : Type} {w w' : World} {e : TypeId} {k : Nat} {enc : α → List Value} {v : Value} {xs : List α}
theorem Sl.ch {S : Nat → Prop} (h : Sl w e k enc v xs) (hc : Ch S w w') (hn : ∀ g, v.ownBlock = some g → ¬ S g) : Sl w' e k enc v xs := Row.ch h hc hn
theorem Sl.fr (h : Sl w e k enc v xs) (hF : Fr w w') : Sl w' e k enc v xs := Row.fr h hF
theorem Sl.lt (h : Sl w e k enc v xs) {g : Nat} (hg : v.ownBlock = some g) : g < w.heap.size := Row.lt h hg
theorem Sl.nil : Sl w e k enc (.slice none 0 0) ([] : List α) := World.ownsRow_nil w 0 e k
theorem Sl.value (h : Sl w e k enc v xs) : ∃ p cap, v = .slice p xs.length cap := Row.value h
theorem Sl.at_ (h : Sl w e k enc v xs) (hk : ∀ x, (enc x).length = k) {i : Nat} {x : α} (hi : xs[i]? = some x) : ∃ g cap, v = .slice (some ⟨g, 0, none⟩) xs.length cap ∧ g < w.heap.size ∧ w.rangeAt g (i * k) (enc x) := by
  obtain ⟨g, cap, rfl, hlt⟩ := Row.form h (by have := (List.getElem?_eq_some_iff.1 hi).1; omega)
  refine ⟨g, cap, rfl, hlt, ?_⟩
  have := Row.range h (g := g) rfl (i * k) k
  rwa [cellsOf_part hk xs i x hi] at this
end
/-! ### Slice types -/
def SliceTy (P : Program) (t e : TypeId) (k bytes : Nat) : Prop :=
  P.underlying t = some (.slice e) ∧ ∃ ie z, P.info? e = some ie ∧ ie.zero = some z ∧ ie.size = k ∧ ie.bytes = bytes ∧ z.cells.size = k ∧ 0 < k ∧ k ≤ 1000
def sliceInfo (P : Program) (t : TypeId) : Option (TypeId × Nat × Nat) :=
  match P.underlying t with
  | some (.slice e) => match P.info? e with
    | some ie => match ie.zero with
      | some z => if z.cells.size = ie.size ∧ 0 < ie.size ∧ ie.size ≤ 1000 then some (e, ie.size, ie.bytes) else none
      | none => none
    | none => none
  | _ => none
theorem sliceTy_of {P : Program} {t e : TypeId} {k bytes : Nat} (h : sliceInfo P t = some (e, k, bytes)) : SliceTy P t e k bytes := by
  unfold sliceInfo at h
  split at h <;> try (cases h; done)
  rename_i e' hu
  split at h <;> try (cases h; done)
  rename_i ie hi
  split at h <;> try (cases h; done)
  rename_i z hz
  split at h
  · rename_i hc
    simp only [Option.some.injEq, Prod.mk.injEq] at h
    obtain ⟨rfl, rfl, rfl⟩ := h
    exact ⟨hu, ie, z, hi, hz, rfl, rfl, hc.1, hc.2.1, hc.2.2⟩
  · cases h
theorem Blk.range {w : World} {b : Nat} {t : TypeId} {cs : Array Value} (h : Blk w b t cs) : w.rangeAt b 0 cs.toList := by
  have := World.rangeAt_of_block h 0 cs.size
  simpa using this
section append
variable {P : Program} {w : World}
theorem ch_alloc (S : Nat → Prop) (w : World) (o : Obj) : Ch S w (w.drew.alloc o) := (((Fr.refl w).drew).alloc o).ch S
theorem run_append {t ty e : TypeId} {k by' : Nat} (ht : SliceTy P t e k by') {v : Value} {n : Nat} {xs : List Value} (hown : Row w e k v n xs)
    {a : Addr} {m c : Nat} {news : List Value} (hl : news.length = m * k) (hnews : w.rangeAt a.block a.off news) (ha : a.spot = none) (h1 : ∀ u ∈ news, u.oneCell' = true) (hb : (n + m) * by' ≤ 140737488355328) (hm : n + m ≤ 140737488355328) :
    ∃ v' w', (Builtin.append_ #[t, t] ty #[v, .slice (some a) m c]).run P w = .ok v' w' ∧ Row w' e k v' (n + m) (xs ++ news) ∧ Ch (fun g => v.ownBlock = some g) w w' ∧
      (∀ g, v'.ownBlock = some g → v.ownBlock = some g ∨ w.heap.size ≤ g) := by
  obtain ⟨hu, ie, z, hi, hz, rfl, rfl, hzs, hk, _⟩ := ht
  obtain ⟨ab, ao, asp⟩ := a
  obtain rfl : asp = none := ha
  have hnews' : ∀ j u, news[j]? = some u → w.cell? ((⟨ab, ao, none⟩ : Addr).add j) = some u := fun j u hj => by rw [Addr.add_mid]; exact hnews j u hj
  have hmx : n + m ≤ maxLen := by unfold maxLen; omega
  have hlen : (xs ++ news).length = (n + m) * ie.size := by rw [List.length_append, hown.1, hl, Nat.add_mul]
  have grown : ∀ (old : Nat), Row (w.drew.alloc (.cells (xs.toArray ++ news.toArray ++ Builtin.zeroCells z.cells (grownCap w (n + m) old e - (n + m))) e)) e ie.size
        (.slice (some ⟨w.heap.size, 0, none⟩) (n + m) (grownCap w (n + m) old e)) (n + m) (xs ++ news) := by
    intro old
    have hge := grownCap_ge w (n + m) old e
    have hcm : grownCap w (n + m) old e ≤ maxLen := grownCap_le_maxLen w (n + m) old e hmx
    refine ⟨hlen, .inr ⟨w.heap.size, _, _, rfl, Nat.zero_le _, heap_alloc_new w.drew _, hge, hcm, ?_, ?_⟩⟩
    · simp only [Array.size_append, List.size_toArray, size_zeroCells, hzs, hown.1, hl, ← Nat.add_mul]
      congr 1
      omega
    · simp only [Array.toList_append, List.append_assoc]
      rw [← List.append_assoc, ← hlen]
      exact List.take_left
  rcases hown.2 with ⟨rfl, rfl⟩ | ⟨g, cap, cur, rfl, hbg, hg, hnc, hcm, hcs, htake⟩
  · have hx : xs = [] := List.eq_nil_of_length_eq_zero (by simpa using hown.1)
    subst hx
    by_cases hm0 : m = 0
    · subst hm0
      have hn : news = [] := List.eq_nil_of_length_eq_zero (by simpa using hl)
      subst hn
      refine ⟨.slice none 0 0, w, ?_, World.ownsRow_nil w 0 e ie.size, Ch.refl _ w, by simp [Value.ownBlock]⟩
      simp [Builtin.append_, run_underlying hu, sizeOf, typeInfo, hi, Builtin.lenOf, Builtin.firstCells, loadCells, loadCellsFrom]
    · have hr := Go.run_append_nil (P := P) w t ty e ie z hu hi hz ⟨ab, ao, none⟩ m c news hl hnews' (by omega) (by omega) (by rw [Nat.zero_add] at hb; omega)
      have hgr := grown 0
      simp only [Nat.zero_add, List.nil_append, Array.empty_append] at hgr ⊢
      exact ⟨_, _, hr, hgr, ch_alloc _ w _, fun g hg => by simp [Value.ownBlock] at hg; right; omega⟩
  · by_cases hroom : n + m ≤ cap
    · have hfit : n * ie.size + news.length ≤ cur.size := by rw [hl, hcs, ← Nat.add_mul]; exact Nat.mul_le_mul_right _ hroom
      have hr := Go.run_append_room (P := P) w t ty e ie hu hi g n cap cur hg ⟨ab, ao, none⟩ m c news hl hnews' h1 hroom hfit
      refine ⟨_, _, hr, ⟨hlen, .inr ⟨g, cap, _, rfl, hbg, setRow_heap w g cur _ e _ hg, hroom, hcm, ?_, ?_⟩⟩, ⟨rfl, rfl, rfl, Nat.le_refl _, by simp, fun k _ hk => setRow_other w g k _ (fun e => hk (by simp [Value.ownBlock, e]))⟩, fun g' hg' => .inl hg'⟩
      · simp only [List.size_toArray, List.length_append, List.length_take, List.length_drop, Array.length_toList]
        omega
      · rw [htake, ← hlen]
        exact List.take_left
    · have holds : ∀ j u, xs[j]? = some u → w.cell? ((⟨g, 0, none⟩ : Addr).add j) = some u := World.ownsRow.cells hown (g := g) rfl
      have hr := Go.run_append_grow (P := P) w t ty e ie z hu hi hz ⟨g, 0, none⟩ n cap xs hown.1 holds ⟨ab, ao, none⟩ m c news hl hnews' (by omega) (by omega) (growslice_fits (by omega) hb)
      have hgr := grown cap
      exact ⟨_, _, hr, hgr, ch_alloc _ w _, fun g' hg' => by simp [Value.ownBlock] at hg'; right; omega⟩
end append
section ops
variable {P : Program} {n : Fm} {R : Rel} {Q : Exit → Act → World → Prop} {e : Env} {w : World} {k : Kind} {d : Tmp} {ty : TypeId} {s : XPlan}
/-- s = append(s, xs...), s of the call's own, xs at an address. -/
theorem E_append {x y : Operand} {t el : TypeId} {sz by' : Nat} {v : Value} {m : Nat} {xs : List Value} {b o i c : Nat} {news : List Value} (hk : k.acts = true) (hx : e.ev x = some v) (hy : e.ev y = some (.slice (some ⟨b, o, none⟩) i c)) (ht : SliceTy P t el sz by')
    (hown : Row w el sz v m xs) (hl : news.length = i * sz) (hnews : w.rangeAt b o news) (h1 : ∀ u ∈ news, u.oneCell' = true) (hb : (m + i) * by' ≤ 140737488355328) (hm : m + i ≤ 140737488355328) (hR : ∀ w1, Ch (fun g => v.ownBlock = some g) w w1 → behind k R w w1) (hd : d < n.n)
    (h : ∀ v' w1, Ch (fun g => v.ownBlock = some g) w w1 → Row w1 el sz v' (m + i) (xs ++ news) → (∀ g, v'.ownBlock = some g → v.ownBlock = some g ∨ w.heap.size ≤ g) → wpE P n Q R s ((d, v') :: e) w1) :
    wpE P n Q R (.step k ⟨some d, .call { callee := .builtin .append, args := #[x, y], argTypes := #[t, t] }, ty⟩ none s) e w := fun a ha =>
  ef_gen (by
    obtain ⟨v', w1, hr, h2, h3, h4⟩ := run_append (P := P) (ty := ty) (a := ⟨b, o, none⟩) (c := c) ht hown hl hnews rfl h1 hb hm
    have hx' := ha.ev hx
    have hy' := ha.ev hy
    unfold Oper.wp
    have hr' : (execOp a.eval (XOp.mk (some d) (.call { callee := .builtin .append, args := #[x, y], argTypes := #[t, t] }) ty).oper).run P w = .ok (.value v') w1 := by
      simp only [execOp, XOp.oper, resolve, invoke, builtin, Sem.run_bind, Sem.run_pure, Result.andThen_ok, List.map_toArray, List.map_cons, List.map_nil, hx', hy', hr]
    rw [hr']
    exact ⟨hR w1 h3, h v' w1 h3 h2 h4 _ (ha.put hd)⟩) hk
/-- []T{x}: one element. -/
theorem E_lit1 {x : Operand} {t el : TypeId} {sz by' : Nat} {v : Value} (hk : k.acts = true) (hx : e.ev x = some v) (ht : SliceTy P t el sz by') (hs : v.cells.size = sz) (hd : d < n.n)
    (h : ∀ b w1, Fr w w1 → NewB w w1 b → Blk w1 b el v.cells → wpE P n Q R s ((d, .slice (some ⟨b, 0, none⟩) 1 1) :: e) w1) : wpE P n Q R (.step k ⟨some d, .buildSlice t 1 #[(0, x)], ty⟩ none s) e w := fun a ha =>
  ef_gen (by
    obtain ⟨hu, ie, z, hi, hz, rfl, rfl, hzs, hpos, hsm⟩ := ht
    have hf : Instr.fill (fun i => some (i * ie.size, ie.size)) ((Array.range (1 * ie.size)).map (z.cells[· % z.cells.size]!)) (#[(0, v)] : Array (Nat × Value)).toList = some v.cells := by
      have := Go.Great.fill_whole hpos [v] ((Array.range (1 * ie.size)).map (z.cells[· % z.cells.size]!)) (by simpa using hs) (by simp)
      simpa using this
    have hx' := ha.ev hx
    have hrun := run_buildSlice (P := P) w t el 1 #[(0, v)] v.cells ie z hu hi hz (by omega) (by omega) hf
    have hF : Fr w (w.alloc (.cells v.cells el)) := (Fr.refl w).alloc _
    have hr : (execOp a.eval (XOp.mk (some d) (.buildSlice t 1 #[(0, x)]) ty).oper).run P w = .ok (.value (.slice (some ⟨w.heap.size, 0, none⟩) 1 1)) (w.alloc (.cells v.cells el)) := by
      simp only [execOp, XOp.oper, List.map_toArray, List.map_cons, List.map_nil, hx', Sem.run_bind, hrun, Result.andThen_ok, Sem.run_pure]
    unfold Oper.wp
    rw [hr]
    exact ⟨grows hk hF, h w.heap.size _ hF (newB_alloc w _) (blk_alloc w el v.cells) _ (ha.put hd)⟩) hk
/-- []T{}. -/
theorem E_lit0 {t el : TypeId} {sz by' : Nat} (hk : k.acts = true) (ht : SliceTy P t el sz by') (hd : d < n.n)
    (h : ∀ b w1, Fr w w1 → NewB w w1 b → Blk w1 b el #[] → wpE P n Q R s ((d, .slice (some ⟨b, 0, none⟩) 0 0) :: e) w1) : wpE P n Q R (.step k ⟨some d, .buildSlice t 0 #[], ty⟩ none s) e w := fun a ha =>
  ef_gen (by
    obtain ⟨hu, ie, z, hi, hz, rfl, rfl, hzs, hpos, hsm⟩ := ht
    have hF : Fr w (w.alloc (.cells #[] el)) := (Fr.refl w).alloc _
    have hr : (execOp a.eval (XOp.mk (some d) (.buildSlice t 0 #[]) ty).oper).run P w = .ok (.value (.slice (some ⟨w.heap.size, 0, none⟩) 0 0)) (w.alloc (.cells #[] el)) := by
      have e0 : ((Array.range 0).map fun _ => (default : Value)) = #[] := by apply Array.eq_empty_of_size_eq_zero; simp
      simp [execOp, XOp.oper, Instr.buildSlice, run_underlying hu, sizeOf, typeInfo, hi, newRow, Instr.fill, e0]
    unfold Oper.wp
    rw [hr]
    exact ⟨grows hk hF, h w.heap.size _ hF (newB_alloc w _) (blk_alloc w el #[]) _ (ha.put hd)⟩) hk
end ops
end Go.Proofs.Ytjocklgihjbaiaa
end
section
/- Loops for the executor: an invariant over what is known of the temporaries, that bears a number. Over any program. -/
namespace Go.Proofs.Ytjocklgihjbaiaa
open Go.RowKit
section
variable {P : Program} {n : Fm} {Q : Exit → Act → World → Prop} {e : Env} {w : World} {α : Type}
/-- What a round hands on. -/
def Again (fm : α → Fm) (env : α → Env) (I : α → World → Prop) (μ : α → Nat) (i : α) (a : Act) (w : World) : Prop := ∃ j, μ j < μ i ∧ I j w ∧ Agrees (fm j) a (env j)
theorem e_loopF {c c0 : Code} {x : XCode} (hm : P.follows .mixedOrders = true) (plans : Nat → Option Plan) (hl : c = .loop c0) (hx : compile plans c0 = x) (hok : plansOk plans c0 = true)
    (fm : α → Fm) (env : α → Env) (I : α → World → Prop) (μ : α → Nat) (i : α) (hfm : fm i = n) (hsub : Env.sub (env i) e) (h0 : I i w)
    (round : ∀ i w, I i w → wpC P (fm i) x (Exit.then (Again fm env I μ i) Q) (env i) w) : wpC P n (.code c) Q e w := fun a ha => by
  subst hl
  refine wp_loop_ghost (fun k a w => ∃ i, μ i = k ∧ I i w ∧ Agrees (fm i) a (env i)) (μ i) ⟨i, rfl, h0, hfm ▸ ha.sub hsub⟩ ?_
  rintro k a w ⟨i, rfl, hi, ha⟩
  refine wp_mono (wp_enter hm plans x hx hok (round i w hi a ha)) fun e a w h => ?_
  cases e with
  | normal =>
    obtain ⟨j, h1, h2, h3⟩ := h
    exact ⟨μ j, h1, j, rfl, h2, h3⟩
  | _ => exact h
theorem e_loop {c c0 : Code} {x : XCode} (hm : P.follows .mixedOrders = true) (plans : Nat → Option Plan) (hl : c = .loop c0) (hx : compile plans c0 = x) (hok : plansOk plans c0 = true)
    (env : α → Env) (I : α → World → Prop) (μ : α → Nat) (i : α) (hsub : Env.sub (env i) e) (h0 : I i w)
    (round : ∀ i w, I i w → wpC P n x (Exit.then (Again (fun _ => n) env I μ i) Q) (env i) w) : wpC P n (.code c) Q e w :=
  e_loopF hm plans hl hx hok (fun _ => n) env I μ i rfl hsub h0 round
theorem e_againN {Q' : Exit → Act → World → Prop} {fm : α → Fm} {env : α → Env} {I : α → World → Prop} {μ : α → Nat} {i : α} (j : α) (hμ : μ j < μ i) (hI : I j w) (hf : fm j = n) (hs : Env.sub (env j) e) :
    ∀ a, Agrees n a e → Exit.then (Again fm env I μ i) Q' .normal a w := fun _ ha => ⟨j, hμ, hI, hf ▸ ha.sub hs⟩
/-- What follows, by its name. -/
theorem later_of {y : XCode} {K : Act → World → Prop} (hK : Later P y Q K) (h : wpC P n y Q e w) : ∀ a, Agrees n a e → K a w := fun a ha => hK a w (h a ha)
theorem e_restN {K : Act → World → Prop} {Q' : Exit → Act → World → Prop} {e' : Env} (h : ∀ a, Agrees n a e' → K a w) (hs : Env.sub e' e) : ∀ a, Agrees n a e → Exit.then K Q' .normal a w := fun a ha => h a (ha.sub hs)
end
/-! ### max, min -/
section
variable {P : Program} {n : Fm} {R : Rel} {Q : Exit → Act → World → Prop} {e : Env} {w : World} {k : Kind} {d : Tmp} {ty : TypeId} {s : XPlan}
theorem run_max (w : World) (t : TypeId) (ts : Array TypeId) (i j : Int) : (Builtin.max_ ts t #[.int .i64 i, .int .i64 j]).run P w = .ok (.int .i64 (max i j)) w := by
  have h : (Builtin.max2 (.int .i64 i) (.int .i64 j)).run P w = .ok (.int .i64 (max i j)) w := by
    simp only [Builtin.max2, if_true, Sem.run_pure, beq_self_eq_true]
    first | (congr 2; omega) | (split <;> (simp; omega))
  simp only [Builtin.max_, List.foldlM, Sem.run_bind, h, Result.andThen_ok, Sem.run_pure]
theorem E_max {x y : Operand} {t u : TypeId} {i j m : Int} (hx : e.ev x = some (.int .i64 i)) (hy : e.ev y = some (.int .i64 j)) (hm : max i j = m) (hd : d < n.n) (h : wpE P n Q R s ((d, .int .i64 m) :: e) w) :
    wpE P n Q R (.step k ⟨some d, .call { callee := .builtin .max, args := #[x, y], argTypes := #[t, u] }, ty⟩ none s) e w :=
  fun a ha => rd_gen _ (fun w' _ => by
    have h1 := ha.ev hx
    have h2 := ha.ev hy
    subst hm
    simp [execOp, XOp.oper, h1, h2, resolve, invoke, builtin, run_max]) (h _ (ha.put hd))
theorem run_min (w : World) (t : TypeId) (ts : Array TypeId) (i j : Int) : (Builtin.min_ ts t #[.int .i64 i, .int .i64 j]).run P w = .ok (.int .i64 (min i j)) w := by
  have h : (Builtin.min2 (.int .i64 i) (.int .i64 j)).run P w = .ok (.int .i64 (min i j)) w := by
    simp only [Builtin.min2, if_true, Sem.run_pure, beq_self_eq_true]
    first | (congr 2; omega) | (split <;> (simp; omega))
  simp only [Builtin.min_, List.foldlM, Sem.run_bind, h, Result.andThen_ok, Sem.run_pure]
theorem E_min {x y : Operand} {t u : TypeId} {i j m : Int} (hx : e.ev x = some (.int .i64 i)) (hy : e.ev y = some (.int .i64 j)) (hm : min i j = m) (hd : d < n.n) (h : wpE P n Q R s ((d, .int .i64 m) :: e) w) :
    wpE P n Q R (.step k ⟨some d, .call { callee := .builtin .min, args := #[x, y], argTypes := #[t, u] }, ty⟩ none s) e w :=
  fun a ha => rd_gen _ (fun w' _ => by
    have h1 := ha.ev hx
    have h2 := ha.ev hy
    subst hm
    simp [execOp, XOp.oper, h1, h2, resolve, invoke, builtin, run_min]) (h _ (ha.put hd))
theorem E_build {t : TypeId} {parts : Array (Nat × Operand)} {vs : List Value} {cs : Array Value} (hv : e.evs (parts.toList.map (·.2)) = some vs) (hb : P.built t ((parts.toList.map (·.1)).zip vs) = some cs) (hd : d < n.n) (h : wpE P n Q R s ((d, .agg cs) :: e) w) :
    wpE P n Q R (.step k ⟨some d, .build t parts, ty⟩ none s) e w :=
  fun a ha => rd_build (by
    rw [← hb, ← ha.evs hv]
    congr 1
    induction parts.toList with
    | nil => rfl
    | cons p r ih => simp [ih]) (h _ (ha.put hd))
end
end Go.Proofs.Ytjocklgihjbaiaa
end
section
/- Maps with keys that are structs, for the executor. Over any program. -/
namespace Go.Proofs.Ytjocklgihjbaiaa
open Go.RowKit
/-- A type of keys: what Go does with them is what is done with things of κ. -/
structure KeyTy {κ : Type} [DecidableEq κ] (P : Program) (t : TypeId) (kv : κ → Value) : Prop where
  eq : ∀ x y w, (Op.equal t (kv x) (kv y)).run P w = .ok (decide (x = y)) w
  chk : ∀ e x w, (Instr.checkKey e 10000 t (kv x)).run P w = .ok () w
  str : ∃ fs, P.underlying t = some (.struct fs)
  agg : ∀ x, ∃ cs, kv x = .agg cs
  bits : ∀ x, Instr.sameBits 10000 (kv x) (kv x) = true
  grd : P.eqGuardType P.depth t = false
section
variable {κ : Type} (kv : κ → Value)
def mkEs (l : List (κ × Value)) : Array MapEntry := ((l.zipIdx).map fun (p, i) => { key := kv p.1, val := p.2, born := i }).toArray
/-- A map in memory: its things, in the order in which they came. -/
def MapAt (w : World) (b : Nat) (l : List (κ × Value)) : Prop := w.heap[b]? = some (.map (mkEs kv l) l.length)
theorem mkEs_get (l : List (κ × Value)) (i : Nat) : (mkEs kv l)[i]? = (l[i]?).map fun p => { key := kv p.1, val := p.2, born := i } := by
  simp [mkEs, List.getElem?_zipIdx, Option.map_map, Function.comp_def]
theorem mkEs_size (l : List (κ × Value)) : (mkEs kv l).size = l.length := by simp [mkEs]
theorem mkEs_push (l : List (κ × Value)) (x : κ) (v : Value) : (mkEs kv l).push { key := kv x, val := v, born := l.length } = mkEs kv (l ++ [(x, v)]) := by
  simp [mkEs, List.zipIdx_append]
theorem mkEs_modify (l : List (κ × Value)) (i : Nat) (v : Value) : ((mkEs kv l).modify i fun e => { e with val := v }) = mkEs kv (l.modify i fun p => (p.1, v)) := by
  apply Array.ext_getElem?
  intro j
  rw [Array.getElem?_modify, mkEs_get, mkEs_get, List.getElem?_modify]
  by_cases h : i = j
  · subst h; simp [Option.map_map, Function.comp_def]
  · simp [h]
end
section
variable {κ : Type} [DecidableEq κ] {kv : κ → Value}
def findK (x : κ) : List (κ × Value) → Nat → Option (Nat × Value)
  | [], _ => none
  | p :: r, i => if x = p.1 then some (i, p.2) else findK x r (i + 1)
def putK (l : List (κ × Value)) (x : κ) (v : Value) : List (κ × Value) :=
  match findK x l 0 with
  | some (i, _) => l.modify i fun p => (p.1, v)
  | none => l ++ [(x, v)]
theorem findK_get {x : κ} : ∀ {l : List (κ × Value)} {i j : Nat} {v : Value}, findK x l i = some (j, v) → ∃ k, j = i + k ∧ l[k]? = some (x, v)
  | [], i, j, v, h => by cases h
  | p :: r, i, j, v, h => by
    simp only [findK] at h
    split at h
    · rename_i hp
      simp only [Option.some.injEq, Prod.mk.injEq] at h
      obtain ⟨rfl, rfl⟩ := h
      exact ⟨0, rfl, by subst hp; rfl⟩
    · obtain ⟨k, rfl, hk⟩ := findK_get h
      exact ⟨k + 1, by omega, by simpa using hk⟩
section
variable {P : Program} {t : TypeId}
theorem KeyTy.findAsking (hk : KeyTy P t kv) (x : κ) (w : World) : ∀ (l : List (κ × Value)) (i j : Nat),
    (Instr.findAsking t (kv x) ((l.zipIdx j).map fun (p, i) => { key := kv p.1, val := p.2, born := i }) i).run P w = .ok (findK x l i) w
  | [], i, j => rfl
  | p :: r, i, j => by
    simp only [List.zipIdx_cons, List.map_cons, Instr.findAsking, Sem.run_bind, hk.eq, Result.andThen_ok, findK]
    by_cases h : x = p.1
    · simp [h]
    · simp only [h, decide_false, Bool.false_eq_true, if_false]
      exact hk.findAsking x w r (i + 1) (j + 1)
theorem KeyTy.findKey (hk : KeyTy P t kv) (x : κ) (w : World) (l : List (κ × Value)) : (Instr.findKey t (kv x) (mkEs kv l).toList).run P w = .ok (findK x l 0) w := by
  obtain ⟨fs, hu⟩ := hk.str
  unfold Instr.findKey
  simp only [Sem.run_bind, run_underlying hu, Result.andThen_ok]
  cases l with
  | nil => rfl
  | cons p r =>
    obtain ⟨cs, hc⟩ := hk.agg x
    have e : Instr.findNow (.struct fs) (kv x) (mkEs kv (p :: r)).toList 0 = none := by
      simp only [mkEs, List.zipIdx_cons, List.map_cons, Instr.findNow, hc, Instr.sameNow]
    rw [e]
    exact hk.findAsking x w (p :: r) 0 0
variable {mt el : TypeId} (hm : P.underlying mt = some (.map t el)) (hk : KeyTy P t kv)
include hm hk
theorem run_lookupK {w : World} {b : Nat} {l : List (κ × Value)} (h : MapAt kv w b l) {z : Value} (hz : (zeroValue el).run P w = .ok z w) (x : κ) (ok : Bool) :
    (Instr.lookup mt (.map (some b)) (kv x) ok).run P w = .ok (if ok then .tuple #[((findK x l 0).map (·.2)).getD z, .bool (findK x l 0).isSome] else ((findK x l 0).map (·.2)).getD z) w := by
  unfold Instr.lookup
  have hg : (getObj b).run P w = .ok (.map (mkEs kv l) l.length) w := by simp [getObj, Sem.run, show w.heap[b]? = _ from h]
  simp only [Sem.run_bind, run_underlying hm, Result.andThen_ok, hg, hk.chk, hk.findKey, Sem.run_pure]
  cases findK x l 0 with
  | none => simp [hz]
  | some p => simp
omit hm hk [DecidableEq κ] in
/-- Behind a turn of the map. -/
theorem mapAt_set {w : World} {b : Nat} {l : List (κ × Value)} (h : MapAt kv w b l) (l' : List (κ × Value)) :
    (setObj b (.map (mkEs kv l') l'.length)).run P w = .ok () { w with heap := w.heap.setIfInBounds b (.map (mkEs kv l') l'.length) } ∧
      Upd b w { w with heap := w.heap.setIfInBounds b (.map (mkEs kv l') l'.length) } ∧ MapAt kv { w with heap := w.heap.setIfInBounds b (.map (mkEs kv l') l'.length) } b l' := by
  have hlt : b < w.heap.size := by
    rcases Nat.lt_or_ge b w.heap.size with h' | h'
    · exact h'
    · unfold MapAt at h; rw [Array.getElem?_eq_none h'] at h; cases h
  refine ⟨by simp [setObj, Sem.run, show w.heap[b]? = _ from h], ⟨rfl, rfl, rfl, Nat.le_refl _, by simp, fun k hk => ?_⟩, ?_⟩
  · simp [Array.getElem?_setIfInBounds_ne (Ne.symm hk)]
  · unfold MapAt; simp [hlt]
omit hm in
theorem keyStays (x : κ) (w : World) : (Instr.keyThatStays (kv x) (kv x)).run P w = .ok (kv x) w := by
  simp [Instr.keyThatStays, hk.bits]
theorem run_mapUpdateK {w : World} {b : Nat} {l : List (κ × Value)} (h : MapAt kv w b l) (x : κ) (v : Value) :
    ∃ w', (Instr.mapUpdate mt (.map (some b)) (kv x) v).run P w = .ok () w' ∧ Upd b w w' ∧ MapAt kv w' b (putK l x v) := by
  have hg : (getObj b).run P w = .ok (.map (mkEs kv l) l.length) w := by simp [getObj, Sem.run, show w.heap[b]? = _ from h]
  obtain ⟨h1, h2, h3⟩ := mapAt_set (P := P) h (putK l x v)
  refine ⟨_, ?_, h2, h3⟩
  unfold Instr.mapUpdate
  simp only [Sem.run_bind, run_underlying hm, Result.andThen_ok, hg, hk.chk, hk.findKey]
  cases hf : findK x l 0 with
  | none =>
    rw [← h1]
    simp only [putK, hf, List.length_append, List.length_singleton, ← mkEs_push]
  | some p =>
    obtain ⟨i, v0⟩ := p
    obtain ⟨k, rfl, hki⟩ := findK_get hf
    rw [Nat.zero_add] at *
    have e : (((mkEs kv l)[k]?).map (·.key)).getD (kv x) = kv x := by rw [mkEs_get, hki]; rfl
    simp only [e, Sem.run_bind, keyStays hk, Result.andThen_ok]
    rw [← h1]
    simp only [putK, hf, List.length_modify, ← mkEs_modify]
    have e4 : ((mkEs kv l).modify k fun e => { e with key := kv x, val := v }) = (mkEs kv l).modify k fun e => { e with val := v } := by
      apply Array.ext_getElem?
      intro j
      rw [Array.getElem?_modify, Array.getElem?_modify]
      split
      · rename_i hj; subst hj
        rw [mkEs_get, hki]; rfl
      · rfl
    rw [e4]
/-- The entry of a key: made, if it isn't there. -/
def entK (l : List (κ × Value)) (x : κ) (z : Value) : List (κ × Value) × Value × Nat :=
  match findK x l 0 with
  | some (i, v) => (l, v, i)
  | none => (l ++ [(x, z)], z, l.length)
theorem run_mapEntryK {w : World} {b : Nat} {l : List (κ × Value)} (h : MapAt kv w b l) {z : Value} (hz : (zeroValue el).run P w = .ok z w) (x : κ) :
    ∃ w', (Instr.mapEntry mt (.map (some b)) (kv x)).run P w = .ok (.tuple #[(entK l x z).2.1, .int .i64 (entK l x z).2.2]) w' ∧ Upd b w w' ∧ MapAt kv w' b (entK l x z).1 := by
  have hg : (getObj b).run P w = .ok (.map (mkEs kv l) l.length) w := by simp [getObj, Sem.run, show w.heap[b]? = _ from h]
  obtain ⟨h1, h2, h3⟩ := mapAt_set (P := P) h (entK l x z).1
  refine ⟨_, ?_, h2, h3⟩
  unfold Instr.mapEntry
  simp only [Sem.run_bind, run_underlying hm, Result.andThen_ok, hg, hk.chk, hk.findKey]
  cases hf : findK x l 0 with
  | none =>
    simp only [entK, hf, List.length_append, List.length_singleton, ← mkEs_push] at h1 ⊢
    simp only [hz, Result.andThen_ok, Sem.run_bind, h1, Sem.run_pure, goInt]
  | some p =>
    obtain ⟨i, v0⟩ := p
    obtain ⟨k, rfl, hki⟩ := findK_get hf
    rw [Nat.zero_add] at *
    have e : (((mkEs kv l)[k]?).map (·.key)).getD (kv x) = kv x := by rw [mkEs_get, hki]; rfl
    have e2 : (mkEs kv l)[k]? = some { key := kv x, val := v0, born := k } := by rw [mkEs_get, hki]; rfl
    have e3 : ((mkEs kv l).modify k fun e => { e with key := kv x }) = mkEs kv l := by
      apply Array.ext_getElem?
      intro j
      rw [Array.getElem?_modify]
      split
      · rename_i hj; subst hj
        rw [mkEs_get, hki]; rfl
      · rfl
    simp only [entK, hf] at h1 ⊢
    simp only [e, Sem.run_bind, keyStays hk, Result.andThen_ok, e3, h1, Sem.run_pure, e2, goInt, Option.map_some, Option.getD_some]
omit hm hk [DecidableEq κ] in
theorem run_entryStoreK {w : World} {b : Nat} {l : List (κ × Value)} (h : MapAt kv w b l) (i : Nat) (hi : i < l.length) (v : Value) :
    ∃ w', (Instr.entryStore mt (.map (some b)) (.int .i64 i) v).run P w = .ok () w' ∧ Upd b w w' ∧ MapAt kv w' b (l.modify i fun p => (p.1, v)) := by
  have hg : (getObj b).run P w = .ok (.map (mkEs kv l) l.length) w := by simp [getObj, Sem.run, show w.heap[b]? = _ from h]
  obtain ⟨h1, h2, h3⟩ := mapAt_set (P := P) h (l.modify i fun p => (p.1, v))
  refine ⟨_, ?_, h2, h3⟩
  unfold Instr.entryStore
  have hf : (mkEs kv l).findIdx? (fun e => ((e.born : Int) == (i : Int))) = some i := by
    rw [Array.findIdx?_eq_some_iff_getElem]
    have hs : i < (mkEs kv l).size := by rw [mkEs_size]; exact hi
    have hb : ∀ j (hj : j < (mkEs kv l).size), ((mkEs kv l)[j]).born = j := fun j hj => by
      have := mkEs_get kv l j
      rw [Array.getElem?_eq_getElem hj] at this
      rw [mkEs_size] at hj
      rw [List.getElem?_eq_getElem hj] at this
      simp only [Option.map_some, Option.some.injEq] at this
      rw [this]
    refine ⟨hs, by simp [hb], fun j hj => ?_⟩
    have := hb j (by omega)
    simp [this]; omega
  simp only [Sem.run_bind, hg, Result.andThen_ok, asInt, asIntOf, Sem.run_pure, hf]
  rw [← h1, List.length_modify, mkEs_modify]
end
end
end Go.Proofs.Ytjocklgihjbaiaa
end
section
/- Operations on maps with struct keys, on parts of slices, on structs, for the executor. Over any program. -/
namespace Go.Proofs.Ytjocklgihjbaiaa
open Go.RowKit
def elemZero (P : Program) (t : TypeId) : Option Value := (P.info? t).bind fun i => i.zero
theorem run_elemZero {P : Program} {t : TypeId} {z : Value} (h : elemZero P t = some z) (w : World) : (zeroValue t).run P w = .ok z w := by
  unfold elemZero at h
  cases hi : P.info? t with
  | none => simp [hi] at h
  | some i =>
    have hz : i.zero = some z := by simpa [hi] using h
    simp [zeroValue, typeInfo, hi, hz]
theorem MapAt.fr {κ : Type} {kv : κ → Value} {w w' : World} {b : Nat} {l : List (κ × Value)} (h : MapAt kv w b l) (hF : Fr w w') : MapAt kv w' b l := hF.heap h
theorem MapAt.ch {κ : Type} {kv : κ → Value} {S : Nat → Prop} {w w' : World} {b : Nat} {l : List (κ × Value)} (h : MapAt kv w b l) (hc : Ch S w w') (hn : ¬ S b) : MapAt kv w' b l := hc.obj hn h
theorem MapAt.lt {κ : Type} {kv : κ → Value} {w : World} {b : Nat} {l : List (κ × Value)} (h : MapAt kv w b l) : b < w.heap.size := by
  rcases Nat.lt_or_ge b w.heap.size with h' | h'
  · exact h'
  · unfold MapAt at h; rw [Array.getElem?_eq_none h'] at h; cases h
section
variable {P : Program} {n : Fm} {R : Rel} {Q : Exit → Act → World → Prop} {e : Env} {w : World} {k : Kind} {d : Tmp} {ty : TypeId} {s : XPlan}
section
variable {κ : Type} [DecidableEq κ] {kv : κ → Value} {t mt el : TypeId}
theorem E_eqK {x y : Operand} {u : TypeId} {a b : κ} (hk : KeyTy P t kv) (hx : e.ev x = some (kv a)) (hy : e.ev y = some (kv b)) {r : Bool} (hr : decide (a = b) = r) (hd : d < n.n) (h : wpE P n Q R s ((d, .bool r) :: e) w) :
    wpE P n Q R (.step k ⟨some d, .binOp .eql t x y u, ty⟩ none s) e w :=
  fun act ha => rd_gen _ (fun w' _ => by
    obtain ⟨cs, hcs⟩ := hk.agg a
    obtain ⟨cs', hcs'⟩ := hk.agg b
    have heq := hk.eq a b w'
    rw [hcs, hcs'] at heq
    have h1 := ha.ev hx
    have h2 := ha.ev hy
    rw [hcs] at h1
    rw [hcs'] at h2
    have hg := run_eqGuard_agg (P := P) w' .eql t x y cs cs' hk.grd
    have hb := run_eql_struct (P := P) w' t cs cs'
    have heq' : (Op.equalIn 10000 t (.agg cs) (.agg cs')).run P w' = .ok (decide (a = b)) w' := heq
    subst hr
    simp only [execOp, XOp.oper, h1, h2, Sem.run_bind, hg, Result.andThen_ok, hb, heq', Sem.run_pure]) (h _ (ha.put hd))
theorem E_neK {x y : Operand} {u : TypeId} {a b : κ} (hk : KeyTy P t kv) (hx : e.ev x = some (kv a)) (hy : e.ev y = some (kv b)) {r : Bool} (hr : decide (a ≠ b) = r) (hd : d < n.n) (h : wpE P n Q R s ((d, .bool r) :: e) w) :
    wpE P n Q R (.step k ⟨some d, .binOp .neq t x y u, ty⟩ none s) e w :=
  fun act ha => rd_gen _ (fun w' _ => by
    obtain ⟨cs, hcs⟩ := hk.agg a
    obtain ⟨cs', hcs'⟩ := hk.agg b
    have heq := hk.eq a b w'
    rw [hcs, hcs'] at heq
    have h1 := ha.ev hx
    have h2 := ha.ev hy
    rw [hcs] at h1
    rw [hcs'] at h2
    have hg := run_eqGuard_agg (P := P) w' .neq t x y cs cs' hk.grd
    have hb := run_neq_struct (P := P) w' t cs cs'
    have heq' : (Op.equalIn 10000 t (.agg cs) (.agg cs')).run P w' = .ok (decide (a = b)) w' := heq
    have hr' : (!decide (a = b)) = r := by rw [← hr]; simp
    subst hr'
    simp only [execOp, XOp.oper, h1, h2, Sem.run_bind, hg, Result.andThen_ok, hb, heq', Sem.run_pure]) (h _ (ha.put hd))
theorem E_lookupK {x i : Operand} {b : Nat} {l : List (κ × Value)} {key : κ} {z : Value} {ok : Bool} {v : Value} (hm : P.underlying mt = some (.map t el)) (hk : KeyTy P t kv) (hz : elemZero P el = some z)
    (hx : e.ev x = some (.map (some b))) (hi : e.ev i = some (kv key)) (hB : R.keepsO k b) (hb : MapAt kv w b l)
    (hv : (if ok then .tuple #[((findK key l 0).map (·.2)).getD z, .bool (findK key l 0).isSome] else ((findK key l 0).map (·.2)).getD z) = v) (hd : d < n.n) (h : wpE P n Q R s ((d, v) :: e) w) :
    wpE P n Q R (.step k ⟨some d, .lookup mt x i ok, ty⟩ none s) e w :=
  fun act ha => rd_gen _ (fun w' hr => by
    have h1 := ha.ev hx
    have h2 := ha.ev hi
    have hb' : MapAt kv w' b l := keptMap hB hr hb
    have := run_lookupK hm hk hb' (run_elemZero hz w') key ok
    subst hv
    simp only [execOp, XOp.oper, h1, h2, Sem.run_bind, this, Result.andThen_ok, Sem.run_pure]) (h _ (ha.put hd))
omit [DecidableEq κ] in
theorem E_lenM {x : Operand} {b : Nat} {l : List (κ × Value)} (hm : P.underlying mt = some (.map t el)) (hx : e.ev x = some (.map (some b))) (hB : R.keepsO k b) (hb : MapAt kv w b l) (hd : d < n.n) (h : wpE P n Q R s ((d, .int .i64 l.length) :: e) w) :
    wpE P n Q R (.step k ⟨some d, .call { callee := .builtin .len, args := #[x], argTypes := #[mt] }, ty⟩ none s) e w :=
  fun act ha => rd_gen _ (fun w' hr => by
    have h1 := ha.ev hx
    have hb' : MapAt kv w' b l := keptMap hB hr hb
    have hg : (getObj b).run P w' = .ok (.map (mkEs kv l) l.length) w' := by simp [getObj, Sem.run, show w'.heap[b]? = _ from hb']
    simp [execOp, XOp.oper, h1, resolve, invoke, builtin, Builtin.len_, run_underlying hm, hg, goInt, mkEs_size]) (h _ (ha.put hd))
theorem E_mapUpdateK {x i y : Operand} {b : Nat} {l : List (κ × Value)} {key : κ} {v : Value} (hm : P.underlying mt = some (.map t el)) (hk : KeyTy P t kv) (ha' : k.acts = true) (hR : ∀ w1, Upd b w w1 → behind k R w w1)
    (hx : e.ev x = some (.map (some b))) (hi : e.ev i = some (kv key)) (hy : e.ev y = some v) (hb : MapAt kv w b l)
    (h : ∀ w1, Upd b w w1 → MapAt kv w1 b (putK l key v) → wpE P n Q R s e w1) : wpE P n Q R (.step k ⟨none, .mapUpdate mt x i y, ty⟩ none s) e w := fun act ha =>
  ef_gen (by
    obtain ⟨w1, hr, hU, hM⟩ := run_mapUpdateK hm hk hb key v
    have h1 := ha.ev hx
    have h2 := ha.ev hi
    have h3 := ha.ev hy
    unfold Oper.wp
    have hr' : (execOp act.eval (XOp.mk none (.mapUpdate mt x i y) ty).oper).run P w = .ok .skip w1 := by
      simp only [execOp, XOp.oper, h1, h2, h3, Sem.run_bind, hr, Result.andThen_ok, Sem.run_pure]
    rw [hr']
    exact ⟨hR w1 hU, h w1 hU hM _ ha⟩) ha'
theorem E_mapEntryK {x i : Operand} {b : Nat} {l : List (κ × Value)} {key : κ} {z : Value} (hm : P.underlying mt = some (.map t el)) (hk : KeyTy P t kv) (hz : elemZero P el = some z) (ha' : k.acts = true) (hR : ∀ w1, Upd b w w1 → behind k R w w1)
    (hx : e.ev x = some (.map (some b))) (hi : e.ev i = some (kv key)) (hb : MapAt kv w b l) (hd : d < n.n)
    (h : ∀ w1, Upd b w w1 → MapAt kv w1 b (entK l key z).1 → wpE P n Q R s ((d, .tuple #[(entK l key z).2.1, .int .i64 (entK l key z).2.2]) :: e) w1) : wpE P n Q R (.step k ⟨some d, .mapEntry mt x i, ty⟩ none s) e w := fun act ha =>
  ef_gen (by
    obtain ⟨w1, hr, hU, hM⟩ := run_mapEntryK hm hk hb (run_elemZero hz w) key
    have h1 := ha.ev hx
    have h2 := ha.ev hi
    unfold Oper.wp
    have hr' : (execOp act.eval (XOp.mk (some d) (.mapEntry mt x i) ty).oper).run P w = .ok (.value (.tuple #[(entK l key z).2.1, .int .i64 (entK l key z).2.2])) w1 := by
      simp only [execOp, XOp.oper, h1, h2, Sem.run_bind, hr, Result.andThen_ok, Sem.run_pure]
    rw [hr']
    exact ⟨hR w1 hU, h w1 hU hM _ (ha.put hd)⟩) ha'
omit [DecidableEq κ] in
theorem E_entryStoreK {x i y : Operand} {b j : Nat} {l : List (κ × Value)} {v : Value} (ha' : k.acts = true) (hR : ∀ w1, Upd b w w1 → behind k R w w1)
    (hx : e.ev x = some (.map (some b))) (hi : e.ev i = some (.int .i64 j)) (hy : e.ev y = some v) (hb : MapAt kv w b l) (hj : j < l.length)
    (h : ∀ w1, Upd b w w1 → MapAt kv w1 b (l.modify j fun p => (p.1, v)) → wpE P n Q R s e w1) : wpE P n Q R (.step k ⟨none, .entryStore mt x i y, ty⟩ none s) e w := fun act ha =>
  ef_gen (by
    obtain ⟨w1, hr, hU, hM⟩ := run_entryStoreK (P := P) (mt := mt) hb j hj v
    have h1 := ha.ev hx
    have h2 := ha.ev hi
    have h3 := ha.ev hy
    unfold Oper.wp
    have hr' : (execOp act.eval (XOp.mk none (.entryStore mt x i y) ty).oper).run P w = .ok .skip w1 := by
      simp only [execOp, XOp.oper, h1, h2, h3, Sem.run_bind, hr, Result.andThen_ok, Sem.run_pure]
    rw [hr']
    exact ⟨hR w1 hU, h w1 hU hM _ ha⟩) ha'
omit [DecidableEq κ] in
theorem E_makeMap (kv : κ → Value) (ha' : k.acts = true) (hd : d < n.n) (h : ∀ b w1, Fr w w1 → NewB w w1 b → MapAt kv w1 b ([] : List (κ × Value)) → wpE P n Q R s ((d, .map (some b)) :: e) w1) :
    wpE P n Q R (.step k ⟨some d, .makeMap mt none, ty⟩ none s) e w := fun act ha =>
  ef_gen (by
    have hF : Fr w (w.alloc (.map #[] 0)) := (Fr.refl w).alloc _
    have hr : (execOp act.eval (XOp.mk (some d) (.makeMap mt none) ty).oper).run P w = .ok (.value (.map (some w.heap.size))) (w.alloc (.map #[] 0)) := by
      have : (Instr.makeMap mt none).run P w = .ok (.map (some w.heap.size)) (w.alloc (.map #[] 0)) := rfl
      simp only [execOp, XOp.oper, Option.map_none, Sem.run_bind, this, Result.andThen_ok, Sem.run_pure]
    unfold Oper.wp
    rw [hr]
    exact ⟨grows ha' hF, h w.heap.size _ hF (newB_alloc w _) (heap_alloc_new w _) _ (ha.put hd)⟩) ha'
end
theorem run_slicePart {t el : TypeId} {sz by' : Nat} (ht : SliceTy P t el sz by') (a : Option Addr) (len cap : Nat) (w : World) :
    (∀ h : Int, 0 ≤ h → h ≤ cap → (Instr.sliceAt t (.slice a len cap) none (some (.int .i64 h)) none).run P w = .ok (sliced a 0 h.toNat cap sz) w) ∧
    (∀ l : Int, 0 ≤ l → l ≤ len → (Instr.sliceAt t (.slice a len cap) (some (.int .i64 l)) none none).run P w = .ok (sliced a l.toNat len cap sz) w) ∧
    (∀ l h : Int, 0 ≤ l → l ≤ h → h ≤ cap → (Instr.sliceAt t (.slice a len cap) (some (.int .i64 l)) (some (.int .i64 h)) none).run P w = .ok (sliced a l.toNat h.toNat cap sz) w) := by
  obtain ⟨hu, ie, z, hi, hz, rfl, rfl, _⟩ := ht
  have hu' : P.underlying t = some (.slice (P.elem t)) := by simp [Program.elem, hu]
  have hel : P.elem t = el := by simp [Program.elem, hu]
  have hs : (sizeOf (P.elem t)).run P w = .ok ie.size w := by rw [hel]; exact run_sizeOf hi w
  refine ⟨fun h h0 h1 => ?_, fun l h0 h1 => ?_, fun l h h0 h1 h2 => ?_⟩
  · rw [run_sliceAt_slice w t _ _ _ _ hu', run_slice_h w t a len cap hu' .i64 h h0 h1, hs]; rfl
  · rw [run_sliceAt_slice w t _ _ _ _ hu']
    have eh : (l.toNat : Int) = l := Int.toNat_of_nonneg h0
    simp [Instr.slice, run_underlying hu', Instr.sliceBounds, run_sliceBound, sliced, h0, h1, hs]
  · rw [run_sliceAt_slice w t _ _ _ _ hu', run_slice_lh w t a len cap hu' .i64 .i64 l h h0 h1 h2, hs]; rfl
theorem E_sliceHi {x y : Operand} {t el : TypeId} {sz by' : Nat} {a : Option Addr} {len cap : Nat} {j : Int} {v : Value} (ht : SliceTy P t el sz by') (hx : e.ev x = some (.slice a len cap)) (hy : e.ev y = some (.int .i64 j)) (h0 : 0 ≤ j) (h1 : j ≤ cap) (hv : sliced a 0 j.toNat cap sz = v) (hd : d < n.n)
    (h : wpE P n Q R s ((d, v) :: e) w) : wpE P n Q R (.step k ⟨some d, .slice t x none (some y) none, ty⟩ none s) e w :=
  fun act ha => rd_gen _ (fun w' hr => by
    have g1 := ha.ev hx
    have g2 := ha.ev hy
    have := (run_slicePart ht a len cap w').1 j h0 h1
    subst hv
    simp only [execOp, XOp.oper, g1, g2, Option.map_some, Option.map_none, Sem.run_bind, this, Result.andThen_ok, Sem.run_pure]) (h _ (ha.put hd))
theorem E_sliceLo {x y : Operand} {t el : TypeId} {sz by' : Nat} {a : Option Addr} {len cap : Nat} {j : Int} {v : Value} (ht : SliceTy P t el sz by') (hx : e.ev x = some (.slice a len cap)) (hy : e.ev y = some (.int .i64 j)) (h0 : 0 ≤ j) (h1 : j ≤ len) (hv : sliced a j.toNat len cap sz = v) (hd : d < n.n)
    (h : wpE P n Q R s ((d, v) :: e) w) : wpE P n Q R (.step k ⟨some d, .slice t x (some y) none none, ty⟩ none s) e w :=
  fun act ha => rd_gen _ (fun w' hr => by
    have g1 := ha.ev hx
    have g2 := ha.ev hy
    have := (run_slicePart ht a len cap w').2.1 j h0 h1
    subst hv
    simp only [execOp, XOp.oper, g1, g2, Option.map_some, Option.map_none, Sem.run_bind, this, Result.andThen_ok, Sem.run_pure]) (h _ (ha.put hd))
theorem E_makeFunc {fn : Fn} {first cap : Array Operand} {vs us : List Value} (hv : e.evs first.toList = some vs) (hu : e.evs cap.toList = some us) (hd : d < n.n) (h : wpE P n Q R s ((d, .func fn vs.toArray us.toArray) :: e) w) :
    wpE P n Q R (.step k ⟨some d, .makeFunc fn first cap, ty⟩ none s) e w :=
  fun act ha => rd_gen _ (fun w' hr => by
    have g1 := ha.evs hv
    have g2 := ha.evs hu
    have e1 : first.map act.eval = vs.toArray := Array.toList_inj.1 (by simp [g1])
    have e2 : cap.map act.eval = us.toArray := Array.toList_inj.1 (by simp [g2])
    simp only [execOp, XOp.oper, e1, e2, Instr.makeFunc, Sem.run_bind, Sem.run_pure, Result.andThen_ok]) (h _ (ha.put hd))
end
end Go.Proofs.Ytjocklgihjbaiaa
end

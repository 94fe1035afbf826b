import PyProof.Rows.All
import Wide.All
import OpenK.AllK
import Wide.FinOn
import HandS.ForMost
import HandS.Conv
import HandS.SortInts
import HandS.IsInst
import HandS.Codes
import PySem.Challenge.RW_waitloom_k24_what_is_reached
set_option Elab.async false
set_option linter.all false
set_option maxRecDepth 100000
set_option maxHeartbeats 8000000
namespace Wl
/-! ### values, things, what is reached -/
inductive Val where
  | thing (k : Nat)
  | nil
  | num (n : Int)
  deriving DecidableEq
inductive Thing where
  | box (v : Val)
  | maker (taken : List Nat)
  | wait (slots : List Val) (boxes taken : List Nat)
def lvals : Thing → List Val
  | .box v => [v]
  | .maker t => t.map Val.thing
  | .wait s b t => s ++ b.map Val.thing ++ t.map Val.thing
def isVal (v : Val) : Bool := decide (v ≠ Val.nil)
def holds : Thing → List Val
  | .box v => if v = .nil then [] else [v]
  | .maker t => t.map Val.thing
  | .wait s b t => (s.filter isVal ++ b.map Val.thing) ++ t.map Val.thing
theorem holds_iff (th : Thing) (k : Nat) : Val.thing k ∈ holds th ↔ Val.thing k ∈ lvals th := by
  cases th with
  | box v =>
    unfold holds lvals
    by_cases h : v = .nil
    · subst h; simp
    · simp [h]
  | maker t => rfl
  | wait s b t =>
    unfold holds lvals
    simp [List.mem_append, List.mem_filter, isVal]
theorem holds_len (th : Thing) : (holds th).length ≤ (lvals th).length := by
  cases th with
  | box v =>
    unfold holds lvals
    by_cases h : v = .nil
    · simp [h]
    · simp [h]
  | maker t => exact Nat.le_refl _
  | wait s b t =>
    unfold holds lvals
    have := List.length_filter_le isVal s
    simp only [List.length_append, List.length_map]
    omega
inductive Reach (g : Nat → List Val) (vs : List Val) : Nat → Prop
  | base {k : Nat} : Val.thing k ∈ vs → Reach g vs k
  | step {j k : Nat} : Reach g vs j → Val.thing k ∈ g j → Reach g vs k
theorem Reach.congr {g g' : Nat → List Val} {vs : List Val} (h : ∀ j k, Val.thing k ∈ g j → Val.thing k ∈ g' j) {k : Nat} (r : Reach g vs k) : Reach g' vs k := by
  induction r with
  | base h0 => exact .base h0
  | step _ h1 ih => exact .step ih (h _ _ h1)
open Classical in
/-- the numbers below n that are reached, rising -/
noncomputable def reachL (g : Nat → List Val) (vs : List Val) (n : Nat) : List Nat := (List.range n).filter fun k => decide (Reach g vs k)
open Classical in
theorem mem_reachL {g : Nat → List Val} {vs : List Val} {n k : Nat} : k ∈ reachL g vs n ↔ k < n ∧ Reach g vs k := by
  unfold reachL
  rw [List.mem_filter, List.mem_range, decide_eq_true_iff]
open Classical in
theorem reachL_congr {g g' : Nat → List Val} {vs : List Val} {n : Nat} (h : ∀ j k, Val.thing k ∈ g j ↔ Val.thing k ∈ g' j) : reachL g vs n = reachL g' vs n := by
  unfold reachL
  refine List.filter_congr fun k _ => ?_
  have e : Reach g vs k ↔ Reach g' vs k := ⟨fun r => r.congr fun j k z => (h j k).mp z, fun r => r.congr fun j k z => (h j k).mpr z⟩
  simp only [e]
/-- everything named is below n -/
structure Wf (g : Nat → List Val) (vs : List Val) (n : Nat) : Prop where
  v : ∀ k, Val.thing k ∈ vs → k < n
  g : ∀ j, j < n → ∀ k, Val.thing k ∈ g j → k < n
theorem Wf.lt {g : Nat → List Val} {vs : List Val} {n k : Nat} (w : Wf g vs n) (r : Reach g vs k) : k < n := by
  induction r with
  | base h => exact w.v _ h
  | step _ h ih => exact w.g _ ih _ h

/-! ### a search, whatever the order -/
structure DInv (g : Nat → List Val) (vs : List Val) (seen : List Nat) (todo : List Val) : Prop where
  nd : seen.Nodup
  sr : ∀ k ∈ seen, Reach g vs k
  tr : ∀ k, Val.thing k ∈ todo → Reach g vs k
  vs : ∀ k, Val.thing k ∈ vs → k ∈ seen ∨ Val.thing k ∈ todo
  cl : ∀ j ∈ seen, ∀ k, Val.thing k ∈ g j → k ∈ seen ∨ Val.thing k ∈ todo
theorem DInv.start {g : Nat → List Val} {vs : List Val} : DInv g vs [] vs :=
  ⟨List.nodup_nil, fun _ h => absurd h (by simp), fun _ h => .base h, fun _ h => .inr h, fun _ h => absurd h (by simp)⟩
section
variable {g : Nat → List Val} {vs : List Val} {seen : List Nat} {todo rest new : List Val} {v : Val} {k : Nat}
/-- what isn't a thing, or was met, is left away -/
theorem DInv.skip (I : DInv g vs seen todo) (ht : ∀ x, x ∈ todo ↔ x = v ∨ x ∈ rest) (hv : ∀ k, v = .thing k → k ∈ seen) : DInv g vs seen rest := by
  refine ⟨I.nd, I.sr, fun k h => I.tr k ((ht _).mpr (.inr h)), fun k h => ?_, fun j hj k h => ?_⟩
  · rcases I.vs k h with h | h
    · exact .inl h
    · rcases (ht _).mp h with h | h
      · exact .inl (hv k h.symm)
      · exact .inr h
  · rcases I.cl j hj k h with h | h
    · exact .inl h
    · rcases (ht _).mp h with h | h
      · exact .inl (hv k h.symm)
      · exact .inr h
theorem nodup_snoc {l : List Nat} {k : Nat} (h : l.Nodup) (hk : ¬ k ∈ l) : (l ++ [k]).Nodup := by
  rw [List.nodup_append]
  refine ⟨h, by simp, fun a ha b hb => ?_⟩
  rw [List.mem_singleton] at hb
  subst hb
  intro e
  subst e
  exact hk ha
/-- a new thing is met -/
theorem DInv.visit (I : DInv g vs seen todo) (ht : ∀ x, x ∈ todo ↔ x = .thing k ∨ x ∈ rest) (hk : ¬ k ∈ seen) (hn : ∀ x, x ∈ new ↔ x ∈ rest ∨ x ∈ g k) : DInv g vs (seen ++ [k]) new := by
  have hr : Reach g vs k := I.tr k ((ht _).mpr (.inl rfl))
  have keep : ∀ j, j ∈ seen ∨ Val.thing j ∈ todo → j ∈ seen ++ [k] ∨ Val.thing j ∈ new := fun j h => by
    rcases h with h | h
    · exact .inl (List.mem_append.mpr (.inl h))
    · rcases (ht _).mp h with h | h
      · injection h with h
        subst h
        exact .inl (by simp)
      · exact .inr ((hn _).mpr (.inl h))
  refine ⟨nodup_snoc I.nd hk, fun j hj => ?_, fun j hj => ?_, fun j hj => keep j (I.vs j hj), fun i hi j hj => ?_⟩
  · rcases List.mem_append.mp hj with h | h
    · exact I.sr j h
    · rw [List.mem_singleton] at h
      subst h
      exact hr
  · rcases (hn _).mp hj with h | h
    · exact I.tr j ((ht _).mpr (.inr h))
    · exact .step hr h
  · rcases List.mem_append.mp hi with h | h
    · exact keep j (I.cl i h j hj)
    · rw [List.mem_singleton] at h
      subst h
      exact .inr ((hn _).mpr (.inr hj))
theorem DInv.done (I : DInv g vs seen []) (k : Nat) : k ∈ seen ↔ Reach g vs k := by
  refine ⟨I.sr k, fun r => ?_⟩
  induction r with
  | base h =>
    rcases I.vs _ h with h | h
    · exact h
    · simp at h
  | step _ h ih =>
    rcases I.cl _ ih _ h with h | h
    · exact h
    · simp at h
end
/-! ### what is left to do -/
def leftW (g : Nat → List Val) (seen : List Nat) : Nat → Nat
  | 0 => 0
  | n + 1 => leftW g seen n + (if n ∈ seen then 0 else (g n).length)
theorem leftW_out {g : Nat → List Val} {seen : List Nat} {k : Nat} : ∀ {n : Nat}, n ≤ k → leftW g (seen ++ [k]) n = leftW g seen n
  | 0, _ => rfl
  | n + 1, h => by
    have e : n ≠ k := by omega
    show leftW g (seen ++ [k]) n + _ = leftW g seen n + _
    rw [leftW_out (by omega)]
    congr 1
    simp [e]
theorem leftW_in {g : Nat → List Val} {seen : List Nat} {k : Nat} (hk : ¬ k ∈ seen) : ∀ {n : Nat}, k < n → leftW g (seen ++ [k]) n + (g k).length = leftW g seen n
  | 0, h => by omega
  | n + 1, h => by
    show (leftW g (seen ++ [k]) n + _) + _ = leftW g seen n + _
    by_cases e : n = k
    · subst e
      rw [leftW_out (Nat.le_refl _)]
      simp [hk]
    · have ih := leftW_in hk (g := g) (n := n) (by omega)
      have e2 : (if n ∈ seen ++ [k] then 0 else (g n).length) = (if n ∈ seen then 0 else (g n).length) := by simp [e]
      rw [e2]
      omega
theorem leftW_le {g : Nat → List Val} {b : Nat} (h : ∀ k, (g k).length ≤ b) : ∀ n, leftW g [] n ≤ n * b
  | 0 => by simp [leftW]
  | n + 1 => by
    have := leftW_le h n
    have := h n
    show leftW g [] n + (if n ∈ [] then 0 else (g n).length) ≤ _
    simp only [List.not_mem_nil, if_false]
    rw [Nat.add_mul]
    omega
def mu (g : Nat → List Val) (n : Nat) (seen : List Nat) (todo : List Val) : Nat := todo.length + leftW g seen n
theorem mu_skip {g : Nat → List Val} {n : Nat} {seen : List Nat} {todo rest : List Val} (hl : todo.length = rest.length + 1) : mu g n seen rest < mu g n seen todo := by
  unfold mu; omega
theorem mu_visit {g : Nat → List Val} {n k : Nat} {seen : List Nat} {todo rest new : List Val} (hl : todo.length = rest.length + 1) (hk : ¬ k ∈ seen) (hn : k < n) (hw : new.length = rest.length + (g k).length) : mu g n (seen ++ [k]) new < mu g n seen todo := by
  have := leftW_in hk (g := g) hn
  unfold mu; omega
theorem nodup_len : ∀ {n : Nat} {l : List Nat}, l.Nodup → (∀ k ∈ l, k < n) → l.length ≤ n
  | 0, [], _, _ => Nat.le_refl _
  | 0, a :: r, _, h => absurd (h a (by simp)) (by omega)
  | n + 1, l, nd, h => by
    have h1 : (l.erase n).Nodup := nd.erase n
    have h2 : ∀ k ∈ l.erase n, k < n := fun k hk => by
      have := (nd.mem_erase_iff).mp hk
      have := h k this.2
      omega
    have ih := nodup_len h1 h2
    by_cases hm : n ∈ l
    · rw [List.length_erase_of_mem hm] at ih
      omega
    · rw [List.erase_of_not_mem hm] at ih
      omega
theorem DInv.seen_len {g : Nat → List Val} {vs : List Val} {seen : List Nat} {todo : List Val} {n : Nat} (I : DInv g vs seen todo) (w : Wf g vs n) : seen.length ≤ n :=
  nodup_len I.nd fun k hk => w.lt (I.sr k hk)
/-! ### sorted -/
theorem count_nd {l : List Int} (nd : l.Nodup) (a : Int) : l.count a = if a ∈ l then 1 else 0 := by
  by_cases h : a ∈ l
  · rw [if_pos h]
    have h1 : l.count a ≤ 1 := List.nodup_iff_count.mp nd a
    have h2 : 0 < l.count a := List.count_pos_iff.mpr h
    omega
  · rw [if_neg h, List.count_eq_zero_of_not_mem h]
theorem perm_of_mem {l₁ l₂ : List Int} (h1 : l₁.Nodup) (h2 : l₂.Nodup) (h : ∀ a, a ∈ l₁ ↔ a ∈ l₂) : l₁.Perm l₂ := by
  refine List.perm_iff_count.mpr fun a => ?_
  rw [count_nd h1, count_nd h2]
  simp [h a]
theorem sorted_eq : ∀ {l₁ l₂ : List Int}, l₁.Perm l₂ → l₁.Pairwise (· ≤ ·) → l₂.Pairwise (· ≤ ·) → l₁ = l₂
  | [], l₂, p, _, _ => by
    have := p.length_eq
    cases l₂ with
    | nil => rfl
    | cons a r => simp at this
  | a :: r, [], p, _, _ => by
    have := p.length_eq
    simp at this
  | a :: r, b :: t, p, h1, h2 => by
    obtain ⟨h1a, h1r⟩ := List.pairwise_cons.mp h1
    obtain ⟨h2b, h2t⟩ := List.pairwise_cons.mp h2
    have e : a = b := by
      have ha : a ∈ b :: t := p.mem_iff.mp (by simp)
      have hb : b ∈ a :: r := p.mem_iff.mpr (by simp)
      rcases List.mem_cons.mp ha with e | ha
      · exact e
      · rcases List.mem_cons.mp hb with e | hb
        · exact e.symm
        · have := h1a b hb
          have := h2b a ha
          omega
    subst e
    rw [sorted_eq ((List.perm_cons a).mp p) h1r h2t]
theorem range_sorted (n : Nat) : (List.range n).Pairwise (· < ·) := List.pairwise_lt_range
def natI (l : List Nat) : List Int := l.map (fun k : Nat => (k : Int))
theorem mem_natI {l : List Nat} {a : Int} : a ∈ natI l ↔ ∃ k ∈ l, (k : Int) = a := by unfold natI; exact List.mem_map
theorem reachL_sorted (g : Nat → List Val) (vs : List Val) (n : Nat) : (natI (reachL g vs n)).Pairwise (· < ·) := by
  unfold natI reachL
  rw [List.pairwise_map]
  refine List.Pairwise.imp (fun {a b} h => ?_) (List.Pairwise.filter _ (range_sorted n))
  omega
theorem natI_nodup {l : List Nat} (h : l.Nodup) : (natI l).Nodup := by
  unfold natI List.Nodup
  rw [List.pairwise_map]
  exact List.Pairwise.imp (fun {a b} h e => h (by omega)) h
theorem lt_nodup {l : List Int} (h : l.Pairwise (· < ·)) : l.Nodup := List.Pairwise.imp (fun {a b} h e => by omega) h
theorem lt_le {l : List Int} (h : l.Pairwise (· < ·)) : l.Pairwise (· ≤ ·) := List.Pairwise.imp (fun {a b} h => by omega) h
/-- the end of a search, sorted -/
theorem DInv.sorted {g : Nat → List Val} {vs : List Val} {seen : List Nat} {n : Nat} {out : List Int} (I : DInv g vs seen []) (w : Wf g vs n) (p : out.Perm (natI seen)) (h : out.Pairwise (· ≤ ·)) : out = natI (reachL g vs n) := by
  have hs := reachL_sorted g vs n
  refine sorted_eq (p.trans (perm_of_mem (natI_nodup I.nd) (lt_nodup hs) fun a => ?_)) h (lt_le hs)
  rw [mem_natI, mem_natI]
  constructor
  · rintro ⟨k, hk, e⟩
    have r := (I.done k).mp hk
    exact ⟨k, mem_reachL.mpr ⟨w.lt r, r⟩, e⟩
  · rintro ⟨k, hk, e⟩
    exact ⟨k, (I.done k).mpr (mem_reachL.mp hk).2, e⟩
/-! ### a chain -/
def chainT : Nat → Thing
  | 0 => .box .nil
  | k + 1 => .box (.thing k)
theorem chain_reach {m k : Nat} : Reach (fun j => holds (chainT j)) [.thing m] k ↔ k ≤ m := by
  constructor
  · intro r
    induction r with
    | base h =>
      rw [List.mem_singleton] at h
      injection h with h
      omega
    | @step j k _ h ih =>
      cases j with
      | zero => simp [chainT, holds] at h
      | succ j =>
        simp [chainT, holds] at h
        omega
  · intro h
    obtain ⟨d, rfl⟩ : ∃ d, m = k + d := ⟨m - k, by omega⟩
    clear h
    induction d generalizing k with
    | zero => exact .base (by simp)
    | succ d ih =>
      have e : k + (d + 1) = (k + 1) + d := by omega
      rw [e]
      refine .step (ih (k := k + 1)) ?_
      simp [chainT, holds]
theorem sorted_ext : ∀ {l₁ l₂ : List Nat}, l₁.Pairwise (· < ·) → l₂.Pairwise (· < ·) → (∀ a, a ∈ l₁ ↔ a ∈ l₂) → l₁ = l₂
  | [], [], _, _, _ => rfl
  | [], b :: t, _, _, h => absurd ((h b).mpr (by simp)) (by simp)
  | a :: r, [], _, _, h => absurd ((h a).mp (by simp)) (by simp)
  | a :: r, b :: t, h1, h2, h => by
    obtain ⟨h1a, h1r⟩ := List.pairwise_cons.mp h1
    obtain ⟨h2b, h2t⟩ := List.pairwise_cons.mp h2
    have e : a = b := by
      rcases List.mem_cons.mp ((h a).mp (by simp)) with e | ha
      · exact e
      · rcases List.mem_cons.mp ((h b).mpr (by simp)) with e | hb
        · exact e.symm
        · have := h1a b hb
          have := h2b a ha
          omega
    subst e
    rw [sorted_ext h1r h2t fun x => ?_]
    constructor
    · intro hx
      rcases List.mem_cons.mp ((h x).mp (by simp [hx])) with e | e
      · have := h1a x hx
        omega
      · exact e
    · intro hx
      rcases List.mem_cons.mp ((h x).mpr (by simp [hx])) with e | e
      · have := h2b x hx
        omega
      · exact e
theorem reachL_lt (g : Nat → List Val) (vs : List Val) (n : Nat) : (reachL g vs n).Pairwise (· < ·) := by
  unfold reachL
  exact List.Pairwise.filter _ (range_sorted n)
theorem chain_all {vs : List Val} {m n : Nat} (hv : ∀ k, Val.thing k ∈ vs ↔ k = m) (hm : m < n) : reachL (fun j => holds (chainT j)) vs n = List.range (m + 1) := by
  refine sorted_ext (reachL_lt _ _ _) (range_sorted _) fun a => ?_
  rw [mem_reachL, List.mem_range]
  have e : Reach (fun j => holds (chainT j)) vs a ↔ Reach (fun j => holds (chainT j)) [.thing m] a := by
    constructor
    · intro r
      induction r with
      | base h =>
        have e := (hv _).mp h
        subst e
        exact .base (by simp)
      | step _ h ih => exact .step ih h
    · intro r
      induction r with
      | base h =>
        rw [List.mem_singleton] at h
        exact .base (h ▸ (hv m).mpr rfl)
      | step _ h ih => exact .step ih h
  rw [e, chain_reach]
  omega
end Wl

namespace Wl
open PySem L2
/-! ### the text by places -/
def top (i : Nat) : Stmt := PySem.Challenge.pw_waitloom_k24_what_is_reached.main.body.getD i (.Pass ⟨0, 0, 0, 0⟩)
abbrev sBoxI : Stmt := inClass (top 6) 0
abbrev sBoxH : Stmt := inClass (top 6) 2
abbrev sMakI : Stmt := inClass (top 7) 0
abbrev sMakH : Stmt := inClass (top 7) 3
abbrev sWaiI : Stmt := inClass (top 9) 0
abbrev sWaiH : Stmt := inClass (top 9) 3
abbrev sBav : Stmt := top 10
abbrev sThingOf : Stmt := top 11
abbrev sHeapI : Stmt := inClass (top 13) 0
abbrev sPut : Stmt := inClass (top 13) 1
abbrev sNeed : Stmt := inClass (top 13) 2
abbrev sChange : Stmt := inClass (top 13) 3
abbrev sNumbers : Stmt := inClass (top 13) 5
abbrev sReached : Stmt := inClass (top 13) 6
abbrev sDraw : Stmt := top 15
abbrev sSpread : Stmt := top 16
abbrev sValue : Stmt := top 17
abbrev sBoxes : Stmt := top 18
abbrev sThing : Stmt := top 19
abbrev sValues : Stmt := top 20
abbrev sLReached : Stmt := top 21
abbrev sRight : Stmt := top 22
abbrev sChain : Stmt := top 23
abbrev sLaw : Stmt := top 24
/-! ### heaps: what never changes -/
def imm : HO → Prop
  | .tup _ => True
  | .ins _ _ fs => fs.lookup ("there" : Str) = none
  | _ => False
/-- all that never changes is as it was -/
def Im (H H' : Hp) : Prop := ∀ b o, H b = some o → imm o → H' b = some o
theorem Im.refl (H : Hp) : Im H H := fun _ _ h _ => h
theorem Im.trans {H H1 H2 : Hp} (a : Im H H1) (b : Im H1 H2) : Im H H2 := fun c o h i => b c o (a c o h i) i
theorem im_same {H H' : Hp} (a : Same H H') : Im H H' := fun c o h _ => a c o h
theorem im_mut {H : Hp} {p : Addr} {o u : HO} (h : H p = some o) (n : ¬ imm o) : Im H (upd H p u) := fun b x e i => by
  have nb : b ≠ p := fun z => by
    subst z
    rw [h] at e
    cases e
    exact n i
  rw [upd_ne nb]
  exact e
theorem same_upd {H : Hp} {p : Addr} {o : HO} (h : H p = Option.none) : Same H (upd H p o) := fun b x e => by
  rw [upd_ne (ne_of_none e h)]
  exact e
/-- all but what is new at the start -/
theorem same_over {H H1 : Hp} {p : Addr} {o : HO} (s : Same H H1) (h : H p = Option.none) : Same H (upd H1 p o) := fun b x e => by
  rw [upd_ne (ne_of_none e h)]
  exact s _ _ e
/-! ### values in the heap -/
def VAt (H : Hp) (u : V) : Val → Prop
  | .thing k => ∃ p, u = .ref p ∧ H p = some (.tup [.str "thing", .int (k : Int)])
  | .nil => u = .non
  | .num n => ∃ p, u = .ref p ∧ H p = some (.tup [.str "number", .int n])
theorem VAt.im {H H' : Hp} {u : V} {x : Val} (i : Im H H') (h : VAt H u x) : VAt H' u x := by
  cases x with
  | thing k =>
    obtain ⟨p, e, h⟩ := h
    exact ⟨p, e, i _ _ h True.intro⟩
  | nil => exact h
  | num n =>
    obtain ⟨p, e, h⟩ := h
    exact ⟨p, e, i _ _ h True.intro⟩
abbrev VsAt (H : Hp) : List V → List Val → Prop := Paired (VAt H)
theorem VsAt.im {H H' : Hp} {us : List V} {xs : List Val} (i : Im H H') (h : VsAt H us xs) : VsAt H' us xs := Paired.mono (fun _ _ q => VAt.im i q) h
section
variable {α β : Type} {F : α → β → Prop}
theorem pr_append : ∀ {a b : List α} {c d : List β}, Paired F a c → Paired F b d → Paired F (a ++ b) (c ++ d)
  | _, _, _, _, .nil, h => h
  | _, _, _, _, .cons h t, h2 => .cons h (pr_append t h2)
theorem pr_last : ∀ {a : List α} {x : α} {c : List β}, Paired F (a ++ [x]) c → ∃ d y, c = d ++ [y] ∧ Paired F a d ∧ F x y
  | [], x, _, .cons h .nil => ⟨[], _, rfl, .nil, h⟩
  | z :: a, x, _, .cons h t => by
    obtain ⟨d, y, e, p, q⟩ := pr_last t
    subst e
    exact ⟨_ :: d, y, rfl, .cons h p, q⟩
theorem pr_get : ∀ {a : List α} {c : List β} {i : Nat} {y : β}, Paired F a c → c[i]? = some y → ∃ x, a[i]? = some x ∧ F x y
  | _, _, _, _, .nil, e => by simp at e
  | _, _, 0, y, .cons h t, e => by
    have e : _ = y := Option.some.inj e
    subst e
    exact ⟨_, rfl, h⟩
  | _, _, i + 1, y, .cons h t, e => pr_get (i := i) t e
theorem pr_getL : ∀ {a : List α} {c : List β} {i : Nat} {x : α}, Paired F a c → a[i]? = some x → ∃ y, c[i]? = some y ∧ F x y
  | _, _, _, _, .nil, e => by simp at e
  | _, _, 0, x, .cons h t, e => by
    have e : _ = x := Option.some.inj e
    subst e
    exact ⟨_, rfl, h⟩
  | _, _, i + 1, x, .cons h t, e => pr_getL (i := i) t e
theorem pr_set : ∀ {a : List α} {c : List β} {i : Nat} {x : α} {y : β}, Paired F a c → F x y → Paired F (a.set i x) (c.set i y)
  | _, _, _, _, _, .nil, _ => .nil
  | _, _, 0, _, _, .cons _ t, h => .cons h t
  | _, _, _ + 1, _, _, .cons q t, h => .cons q (pr_set t h)
end
theorem vs_things {H : Hp} : ∀ {us : List V} {ks : List Nat}, us.length = ks.length → (∀ (i : Nat) (u : V) (k : Nat), us[i]? = some u → ks[i]? = some k → VAt H u (.thing k)) → VsAt H us (ks.map Val.thing)
  | [], [], _, _ => .nil
  | [], _ :: _, h, _ => by simp at h
  | _ :: _, [], h, _ => by simp at h
  | u :: us, k :: ks, h, q => .cons (q 0 u k rfl rfl) (vs_things (by simpa using h) fun i u k h1 h2 => q (i + 1) u k h1 h2)
/-- numbers of boxes as they stand in a tuple -/
def intsV (l : List Nat) : List V := (natI l).map V.int
theorem intsV_length (l : List Nat) : (intsV l).length = l.length := by
  unfold intsV natI
  rw [List.length_map, List.length_map]
theorem intsV_get {l : List Nat} {i : Nat} {x : V} (h : (intsV l)[i]? = some x) : ∃ k, l[i]? = some k ∧ x = .int (k : Int) := by
  unfold intsV natI at h
  rw [List.getElem?_map, List.getElem?_map] at h
  cases e : l[i]? with
  | none => rw [e] at h; cases h
  | some k => rw [e] at h; exact ⟨k, rfl, (Option.some.inj h).symm⟩
theorem intsV_at {l : List Nat} {i k : Nat} (h : l[i]? = some k) : (intsV l)[i]? = some (.int (k : Int)) := by
  unfold intsV natI
  rw [List.getElem?_map, List.getElem?_map, h]
  rfl
theorem intsV_snoc (l : List Nat) (k : Nat) : intsV (l ++ [k]) = intsV l ++ [V.int (k : Int)] := by
  unfold intsV natI
  rw [List.map_append, List.map_append]
  rfl
def atOk (x : V) : Prop := (∃ n, x = .int n) ∨ ∃ z, x = .str z
/-- a told thing: the tuple at p -/
def TAt (H : Hp) (p : Addr) : Thing → Prop
  | .box v => ∃ u, H p = some (.tup [.str "box", u]) ∧ VAt H u v
  | .maker t => ∃ (w : Str) (n : Int) (q : Addr), (w = "fun" ∨ w = "loop") ∧ H p = some (.tup [.str w, .int n, .ref q]) ∧ H q = some (.tup (intsV t))
  | .wait s b t => ∃ (n : Int) (a : V) (qs qb qt : Addr) (us : List V), atOk a ∧ H p = some (.tup [.str "waiting", .int n, a, .ref qs, .ref qb, .ref qt]) ∧ H qs = some (.tup us) ∧ VsAt H us s ∧ H qb = some (.tup (intsV b)) ∧ H qt = some (.tup (intsV t))
theorem TAt.im {H H' : Hp} {p : Addr} {x : Thing} (i : Im H H') (h : TAt H p x) : TAt H' p x := by
  cases x with
  | box v =>
    obtain ⟨u, e, h⟩ := h
    exact ⟨u, i _ _ e True.intro, h.im i⟩
  | maker t =>
    obtain ⟨w, n, q, hw, e, h⟩ := h
    exact ⟨w, n, q, hw, i _ _ e True.intro, i _ _ h True.intro⟩
  | wait s b t =>
    obtain ⟨n, a, qs, qb, qt, us, ha, e, h1, h2, h3, h4⟩ := h
    exact ⟨n, a, qs, qb, qt, us, ha, i _ _ e True.intro, i _ _ h1 True.intro, h2.im i, i _ _ h3 True.intro, i _ _ h4 True.intro⟩
/-- the classes -/
structure Cs where
  box : Addr
  maker : Addr
  looper : Addr
  waiting : Addr
  heap : Addr
/-- an instance at i that is the thing -/
def IAt (C : Cs) (H : Hp) (i : Addr) : Thing → Prop
  | .box v => ∃ dx fs u, H i = some (.ins C.box dx fs) ∧ fs.lookup ("there" : Str) = none ∧ fs.lookup ("holds" : Str) = none ∧ fs.lookup ("value" : Str) = some u ∧ VAt H u v
  | .maker t => ∃ D dx fs q, (D = C.maker ∨ D = C.looper) ∧ H i = some (.ins D dx fs) ∧ fs.lookup ("there" : Str) = none ∧ fs.lookup ("holds" : Str) = none ∧ fs.lookup ("taken" : Str) = some (.ref q) ∧ H q = some (.tup (intsV t))
  | .wait s b t => ∃ dx fs qs qb qt us, H i = some (.ins C.waiting dx fs) ∧ fs.lookup ("there" : Str) = none ∧ fs.lookup ("holds" : Str) = none ∧ fs.lookup ("slots" : Str) = some (.ref qs) ∧ fs.lookup ("boxes" : Str) = some (.ref qb) ∧ fs.lookup ("taken" : Str) = some (.ref qt) ∧
      H qs = some (.tup us) ∧ VsAt H us s ∧ H qb = some (.tup (intsV b)) ∧ H qt = some (.tup (intsV t))
theorem IAt.im {C : Cs} {H H' : Hp} {p : Addr} {x : Thing} (i : Im H H') (h : IAt C H p x) : IAt C H' p x := by
  cases x with
  | box v =>
    obtain ⟨dx, fs, u, e, n, m, l, h⟩ := h
    exact ⟨dx, fs, u, i _ _ e n, n, m, l, h.im i⟩
  | maker t =>
    obtain ⟨D, dx, fs, q, hD, e, n, m, l, h⟩ := h
    exact ⟨D, dx, fs, q, hD, i _ _ e n, n, m, l, i _ _ h True.intro⟩
  | wait s b t =>
    obtain ⟨dx, fs, qs, qb, qt, us, e, n, m, l1, l2, l3, h1, h2, h3, h4⟩ := h
    exact ⟨dx, fs, qs, qb, qt, us, i _ _ e n, n, m, l1, l2, l3, i _ _ h1 True.intro, h2.im i, i _ _ h3 True.intro, i _ _ h4 True.intro⟩
/-! ### the heap's dict -/
def dkvF : Nat → List Addr → List (Key × V)
  | _, [] => []
  | j, i :: r => (Sum.inl (j : Int), .ref i) :: dkvF (j + 1) r
def dkv (is : List Addr) : List (Key × V) := dkvF 0 is
theorem dkvF_length : ∀ (j : Nat) (is : List Addr), (dkvF j is).length = is.length
  | _, [] => rfl
  | j, i :: r => by
    show (dkvF (j + 1) r).length + 1 = r.length + 1
    rw [dkvF_length]
theorem dkv_length (is : List Addr) : (dkv is).length = is.length := dkvF_length 0 is
theorem dkvF_val : ∀ (j : Nat) (is : List Addr) (k : Nat), valV (dkvF j is) (Sum.inl ((j + k : Nat) : Int) : Key) = is[k]?.map V.ref
  | j, [], k => by simp [dkvF, valV_nil]
  | j, i :: r, 0 => by
    show valV ((Sum.inl (j : Int), V.ref i) :: dkvF (j + 1) r) _ = _
    rw [valV_pos (by simp)]
    rfl
  | j, i :: r, k + 1 => by
    show valV ((Sum.inl (j : Int), V.ref i) :: dkvF (j + 1) r) _ = _
    rw [valV_neg (by intro z; have z := Sum.inl.inj z; omega), show j + (k + 1) = (j + 1) + k by omega, dkvF_val (j + 1) r k]
    rfl
theorem dkv_val (is : List Addr) (k : Nat) : valV (dkv is) (Sum.inl (k : Int) : Key) = is[k]?.map V.ref := by
  have h := dkvF_val 0 is k
  rw [Nat.zero_add] at h
  exact h
theorem dkvF_snoc : ∀ (j : Nat) (is : List Addr) (i : Addr), dkvF j (is ++ [i]) = dkvF j is ++ [(Sum.inl ((j + is.length : Nat) : Int), V.ref i)]
  | j, [], i => by simp [dkvF]
  | j, a :: r, i => by
    show (Sum.inl (j : Int), V.ref a) :: dkvF (j + 1) (r ++ [i]) = ((Sum.inl (j : Int), V.ref a) :: dkvF (j + 1) r) ++ _
    rw [dkvF_snoc (j + 1) r i, List.cons_append]
    have e : j + 1 + r.length = j + (a :: r).length := by rw [List.length_cons]; omega
    rw [e]
theorem dkv_put (is : List Addr) (i : Addr) : putK (dkv is) (Sum.inl (is.length : Int) : Key) (.ref i) = dkv (is ++ [i]) := by
  have hn : valV (dkv is) (Sum.inl (is.length : Int) : Key) = none := by
    rw [dkv_val, List.getElem?_eq_none (Nat.le_refl _)]
    rfl
  rw [putK_new _ hn]
  have h := dkvF_snoc 0 is i
  rw [Nat.zero_add] at h
  exact h.symm
theorem dkvF_set : ∀ (j : Nat) (is : List Addr) (k : Nat) (i : Addr), ((dkvF j is).map fun kv => if kv.1 = (Sum.inl ((j + k : Nat) : Int) : Key) then (kv.1, V.ref i) else kv) = dkvF j (is.set k i)
  | j, [], k, i => rfl
  | j, a :: r, 0, i => by
    show (if (Sum.inl (j : Int) : Key) = Sum.inl ((j + 0 : Nat) : Int) then _ else _) :: (dkvF (j + 1) r).map _ = (Sum.inl (j : Int), V.ref i) :: dkvF (j + 1) r
    rw [if_pos (by simp)]
    congr 1
    have hk : ∀ (m : Nat) (l : List Addr), j < m → ((dkvF m l).map fun kv => if kv.1 = (Sum.inl ((j + 0 : Nat) : Int) : Key) then (kv.1, V.ref i) else kv) = dkvF m l := by
      intro m l
      induction l generalizing m with
      | nil => intro _; rfl
      | cons x l ih =>
        intro hm
        show (if (Sum.inl (m : Int) : Key) = Sum.inl ((j + 0 : Nat) : Int) then _ else _) :: (dkvF (m + 1) l).map _ = (Sum.inl (m : Int), V.ref x) :: dkvF (m + 1) l
        rw [if_neg (by intro z; have z := Sum.inl.inj z; omega), ih (m + 1) (by omega)]
    exact hk (j + 1) r (by omega)
  | j, a :: r, k + 1, i => by
    show (if (Sum.inl (j : Int) : Key) = Sum.inl ((j + (k + 1) : Nat) : Int) then _ else _) :: (dkvF (j + 1) r).map _ = (Sum.inl (j : Int), V.ref a) :: dkvF (j + 1) (r.set k i)
    rw [if_neg (by intro z; have z := Sum.inl.inj z; omega), show j + (k + 1) = (j + 1) + k by omega, dkvF_set (j + 1) r k i]
theorem dkv_set (is : List Addr) (k : Nat) (i : Addr) (h : k < is.length) : putK (dkv is) (Sum.inl (k : Int) : Key) (.ref i) = dkv (is.set k i) := by
  have hs : ((dkv is).any fun kv => decide (kv.1 = (Sum.inl (k : Int) : Key))) = true := by
    rw [valV_any, dkv_val, List.getElem?_eq_getElem h]
    rfl
  unfold putK
  rw [if_pos hs]
  have h := dkvF_set 0 is k i
  rw [Nat.zero_add] at h
  exact h
theorem dkvF_keys : ∀ (j : Nat) (is : List Addr), ((dkvF j is).map fun kv => kV kv.1) = (List.range' j is.length).map (fun k : Nat => V.int (k : Int))
  | _, [] => rfl
  | j, a :: r => by
    show V.int (j : Int) :: (dkvF (j + 1) r).map _ = _
    rw [dkvF_keys (j + 1) r, List.length_cons, List.range'_succ]
    rfl
theorem dkv_keys (is : List Addr) : ((dkv is).map fun kv => kV kv.1) = intsV (List.range is.length) := by
  unfold dkv intsV natI
  rw [dkvF_keys, List.range_eq_range', List.map_map]
  rfl
/-! ### the Heap object -/
theorem ct : ¬ (("there" : Str) = "count") := by decide +kernel
def hf (d : Addr) (n : Int) : List (Str × V) := putF "count" (.int n) (putF "there" (.ref d) [])
theorem hf_eq (d : Addr) (n : Int) : hf d n = ([("there", V.ref d), ("count", V.int n)] : List (Str × V)) := by
  show (if ("there" : Str) = "count" then [(("there" : Str), V.int n)] else (("there" : Str), V.ref d) :: putF "count" (V.int n) []) = _
  rw [if_neg ct]
  all_goals rfl
theorem hf_there (d : Addr) (n : Int) : (hf d n).lookup ("there" : Str) = some (.ref d) := by
  unfold hf
  rw [lookup_putF, if_neg ct, lookup_putF, if_pos rfl]
theorem hf_count (d : Addr) (n : Int) : (hf d n).lookup ("count" : Str) = some (.int n) := by
  unfold hf
  rw [lookup_putF, if_pos rfl]
theorem hf_no (d : Addr) (n : Int) {m : Str} (h1 : ¬ m = "count") (h2 : ¬ m = "there") : (hf d n).lookup m = none := by
  unfold hf
  rw [lookup_putF, if_neg h1, lookup_putF, if_neg h2]
  all_goals rfl
theorem hf_put (d : Addr) (n m : Int) : putF "count" (.int m) (hf d n) = hf d m := by
  rw [hf_eq, hf_eq]
  show (if ("there" : Str) = "count" then _ else (("there" : Str), V.ref d) :: (if ("count" : Str) = "count" then [(("count" : Str), V.int m)] else _)) = _
  rw [if_neg ct, if_pos rfl]
/-- a Heap stands at h, its dict at d, the things are ths -/
structure HeapAt (C : Cs) (H : Hp) (h d : Addr) (ths : List Thing) : Prop where
  ob : ∃ dx, H h = some (.ins C.heap dx (hf d (ths.length : Int)))
  dc : ∃ is, H d = some (.dK (dkv is)) ∧ Paired (IAt C H) is ths
theorem HeapAt.mono {C : Cs} {H H' : Hp} {h d : Addr} {ths : List Thing} (x : HeapAt C H h d ths) (i : Im H H') (h1 : ∀ o, H h = some o → H' h = some o) (h2 : ∀ o, H d = some o → H' d = some o) : HeapAt C H' h d ths := by
  obtain ⟨⟨dx, e⟩, is, e2, p⟩ := x
  exact ⟨⟨dx, h1 _ e⟩, is, h2 _ e2, Paired.mono (fun _ _ q => q.im i) p⟩
theorem HeapAt.same {C : Cs} {H H' : Hp} {h d : Addr} {ths : List Thing} (x : HeapAt C H h d ths) (s : Same H H') : HeapAt C H' h d ths := x.mono (im_same s) (s h) (s d)
theorem HeapAt.ne {C : Cs} {H : Hp} {h d : Addr} {ths : List Thing} (x : HeapAt C H h d ths) : h ≠ d := by
  obtain ⟨⟨dx, e⟩, is, e2, p⟩ := x
  exact ne_of e e2 (by intro z; cases z)
theorem hf_nimm {C : Addr} {dx d : Addr} {n : Int} : ¬ imm (.ins C dx (hf d n)) := fun z => by
  have z : (hf d n).lookup ("there" : Str) = none := z
  rw [hf_there] at z
  cases z
/-! ### data -/
def toD : Val → PyData
  | .thing k => .tuple [.str "thing", .int (k : Int)]
  | .nil => .none
  | .num n => .tuple [.str "number", .int n]
theorem VAt.dp {K : PySem.W.Frag} {H : Hp} {u : V} {x : Val} (h : VAt H u x) : Dp K H u (toD x) := by
  cases x with
  | thing k =>
    obtain ⟨p, e, h⟩ := h
    subst e
    exact .tup (SqT.of h) (.cons (.str _) (.cons (.int _) .nil))
  | nil =>
    have h : u = .non := h
    subst h
    exact .non
  | num n =>
    obtain ⟨p, e, h⟩ := h
    subst e
    exact .tup (SqT.of h) (.cons (.str _) (.cons (.int _) .nil))
theorem VsAt.dp {K : PySem.W.Frag} {H : Hp} : ∀ {us : List V} {xs : List Val}, VsAt H us xs → DpAll K H us (xs.map toD)
  | _, _, .nil => .nil
  | _, _, .cons h t => .cons h.dp (VsAt.dp t)
theorem toD_lay (x : Val) : (toD x).canLay0 = true ∧ (toD x).depth ≤ 1 := by
  cases x with
  | thing k => exact ⟨by show (PyData.tuple [.str "thing", .int (k : Int)]).canLay0 = true; simp only [PyData.canLay0, PyData.canLayAll0]; decide +kernel, by show (PyData.tuple [.str "thing", .int (k : Int)]).depth ≤ 1; simp [PyData.depth, PyData.depthAll]⟩
  | nil => exact ⟨rfl, by show PyData.none.depth ≤ 1; simp [PyData.depth]⟩
  | num n => exact ⟨by show (PyData.tuple [.str "number", .int n]).canLay0 = true; simp only [PyData.canLay0, PyData.canLayAll0]; decide +kernel, by show (PyData.tuple [.str "number", .int n]).depth ≤ 1; simp [PyData.depth, PyData.depthAll]⟩
theorem toDs_lay : ∀ xs : List Val, PyData.canLayAll0 (xs.map toD) = true ∧ PyData.depthAll (xs.map toD) ≤ 1
  | [] => ⟨rfl, by simp [PyData.depthAll]⟩
  | x :: xs => by
    obtain ⟨h1, h2⟩ := toD_lay x
    obtain ⟨h3, h4⟩ := toDs_lay xs
    rw [List.map_cons]
    refine ⟨?_, ?_⟩
    · simp only [PyData.canLayAll0, h1, h3, Bool.and_self]
    · simp only [PyData.depthAll]
      omega
theorem shaped_vals (xs : List Val) : SeqAt.shaped (.list (xs.map toD)) = true := by
  obtain ⟨h3, h4⟩ := toDs_lay xs
  unfold SeqAt.shaped
  rw [Bool.and_eq_true]
  refine ⟨by simp only [PyData.canLay0]; exact h3, decide_eq_true ?_⟩
  simp only [PyData.depth]
  omega
theorem ints_dp {K : PySem.W.Frag} {H : Hp} : ∀ ns : List Int, DpAll K H (ns.map V.int) (ns.map PyData.int)
  | [] => .nil
  | n :: ns => .cons (.int n) (ints_dp ns)
theorem ints_lay : ∀ ns : List Int, PyData.canLayAll0 (ns.map PyData.int) = true ∧ PyData.depthAll (ns.map PyData.int) ≤ 1
  | [] => ⟨rfl, by simp [PyData.depthAll]⟩
  | n :: ns => by
    obtain ⟨h3, h4⟩ := ints_lay ns
    rw [List.map_cons]
    refine ⟨?_, ?_⟩
    · simp only [PyData.canLayAll0, PyData.canLay0, h3, Bool.and_self]
    · simp only [PyData.depthAll, PyData.depth]
      omega
theorem shaped_ints (ns : List Int) : SeqAt.shaped (.list (ns.map PyData.int)) = true := by
  obtain ⟨h3, h4⟩ := ints_lay ns
  unfold SeqAt.shaped
  rw [Bool.and_eq_true]
  refine ⟨by simp only [PyData.canLay0]; exact h3, decide_eq_true ?_⟩
  simp only [PyData.depth]
  omega
theorem eqv_shaped {d : PyData} (h : SeqAt.shaped d = true) : PyData.eqv d d = true := SeqAt.eqv_refl d (SeqAt.canLay_of_shaped h)
theorem eqv_nil {ds : List PyData} : PyData.eqv (.list ds) (.list []) = ds.isEmpty := by
  cases ds with
  | nil => simp [PyData.eqv, PyData.eqvAll]
  | cons d r => simp [PyData.eqv, PyData.eqvAll]
/-! ### one of two readings -/
theorem pe_either {X : Cx} {e : Expr} {t1 t2 : TE} (h1 : PE X e t1) (h2 : PE X e t2) : PE X e (fun σ H Q => t1 σ H Q ∨ t2 σ H Q) :=
  ⟨fun pins s σ H Q I h => h.elim (h1.run pins s σ H Q I) (h2.run pins s σ H Q I)⟩
end Wl

namespace Wl
open PySem L2
/-- what the walk asks of the text -/
structure Txt (K : PySem.W.Frag) (mg : Str → Option Value) (C : Cs) : Prop where
  clB : Cls K C.box
  clM : Cls K C.maker
  clL : Cls K C.looper
  clW : Cls K C.waiting
  clH : Cls K C.heap
  nBv : NoAttr K C.box "value"
  nMo : NoAttr K C.maker "own"
  nMt : NoAttr K C.maker "taken"
  nLo : NoAttr K C.looper "own"
  nLt : NoAttr K C.looper "taken"
  nWo : NoAttr K C.waiting "own"
  nWa : NoAttr K C.waiting "at"
  nWs : NoAttr K C.waiting "slots"
  nWb : NoAttr K C.waiting "boxes"
  nWt : NoAttr K C.waiting "taken"
  nHt : NoAttr K C.heap "there"
  nHc : NoAttr K C.heap "count"
  mgB : mg "Box" = some (.ref C.box)
  mgM : mg "Maker" = some (.ref C.maker)
  mgL : mg "Looper" = some (.ref C.looper)
  mgW : mg "Waiting" = some (.ref C.waiting)
  mgH : mg "Heap" = some (.ref C.heap)
  len : mg "len" = none
  range : mg "range" = none
  list : mg "list" = none
  sorted : mg "sorted" = none
  isinstance : mg "isinstance" = none
  int : mg "int" = none
  bool : mg "bool" = none
  tuple : mg "tuple" = none
  all : mg "all" = none
theorem iteY {c A B : Prop} [Decidable c] (h : c) (a : A) : if decide c = true then A else B := by
  rw [decide_eq_true h]
  exact iteT a
theorem iteN {c A B : Prop} [Decidable c] (h : ¬ c) (b : B) : if decide c = true then A else B := by
  rw [decide_eq_false h]
  exact iteF b
/-- a def of the top, ready to be called -/
structure Df (P : Program) (w : World) (K : PySem.W.Frag) (mg : Str → Option Value) (base : Heap) (k : Nat) (x : Str) (f : Addr) (fd : FuncData) (ps : List Str) (sp : Sp) : Prop where
  ok : FnOk P w K mg base CX0 k f fd ps sp
  mg : mg x = some (.ref f)
  kp : PySem.W.keepIn K (.ref f) = true
  b : Binds K fd ps []
/-- a method, ready to be called -/
structure Mf (P : Program) (w : World) (K : PySem.W.Frag) (mg : Str → Option Value) (base : Heap) (k : Nat) (D : Addr) (m : Str) (f : Addr) (fd : FuncData) (ps : List Str) (sp : Sp) : Prop where
  ok : FnOk P w K mg base CX0 k f fd ps sp
  cl : Cls K D
  me : Meth K D m f
  b : Binds K fd ps []
/-- a class, ready to be made -/
structure Kf (P : Program) (w : World) (K : PySem.W.Frag) (mg : Str → Option Value) (base : Heap) (x : Str) (D : Addr) (f : Addr) (fd : FuncData) (ps : List Str) (sp : Sp) : Prop where
  ok : FnOk P w K mg base CX0 1 f fd ps sp
  mkd : Mk K D f
  mg : mg x = some (.ref D)
  b : Binds K fd ps []
section
variable {P : Program} {w : World} {K : PySem.W.Frag} {mg : Str → Option Value} {base : Heap} {C : Cs}
/-! ### Box, Maker, Waiting: __init__ -/
def spBoxI (C : Cs) : Sp := fun vs H Q _ => ∃ (p dx : Addr) (u : V), vs = [.ref p, u] ∧ H p = some (.ins C.box dx []) ∧ Q .non (upd H p (.ins C.box dx (putF "value" u [])))
theorem scBoxI : FnScope ["self", "value"] ["self", "value"] (defScope sBoxI) := ⟨rfl, rfl, rfl, by decide +kernel, rfl, by decide +kernel, by decide +kernel⟩
theorem ok_boxI {f : Addr} {fd : FuncData} (F : Fun K "__init__" "Box.__init__" sBoxI f fd) (T : Txt K mg C) : FnOk P w K mg base CX0 1 f fd ["self", "value"] (spBoxI C) := by
  refine F.ok scBoxI (fun vs H Q E h => ?_) (fun cdv A outer s H vs Q E hr h => ?_)
  · obtain ⟨p, dx, u, rfl, _⟩ := h
    rfl
  · obtain ⟨p, dx, u, rfl, hp, k⟩ := h
    refine ⟨_, pss_one (ps_fld (pv 0) (pv 1) rfl), ?_⟩
    exact ⟨_, rfl, _, rfl, p, C.box, dx, [], rfl, hp, T.clB, T.nBv, (by show 0 < 1000; decide), k⟩
def mf (o t : V) : List (Str × V) := putF "taken" t (putF "own" o [])
def spMakI (D : Addr) : Sp := fun vs H Q _ => ∃ (p dx : Addr) (o t : V), vs = [.ref p, o, t] ∧ H p = some (.ins D dx []) ∧ Q .non (upd H p (.ins D dx (mf o t)))
theorem scMakI : FnScope ["self", "own", "taken"] ["self", "own", "taken"] (defScope sMakI) := ⟨rfl, rfl, rfl, by decide +kernel, rfl, by decide +kernel, by decide +kernel⟩
theorem ok_makI {f D : Addr} {fd : FuncData} (F : Fun K "__init__" "Maker.__init__" sMakI f fd) (cl : Cls K D) (no : NoAttr K D "own") (nt : NoAttr K D "taken") : FnOk P w K mg base CX0 1 f fd ["self", "own", "taken"] (spMakI D) := by
  refine F.ok scMakI (fun vs H Q E h => ?_) (fun cdv A outer s H vs Q E hr h => ?_)
  · obtain ⟨p, dx, o, t, rfl, _⟩ := h
    rfl
  · obtain ⟨p, dx, o, t, rfl, hp, k⟩ := h
    refine ⟨_, pss_cons (ps_fld (pv 0) (pv 1) rfl) (pss_one (ps_fld (pv 0) (pv 2) rfl)), ?_⟩
    refine ⟨_, rfl, _, rfl, p, D, dx, [], rfl, hp, cl, no, (by show 0 < 1000; decide), _, rfl, _, rfl, p, D, dx, _, rfl, upd_same, cl, nt, (by show 1 < 1000; decide), ?_⟩
    rw [upd_upd]
    exact k
def wf (o a s b t : V) : List (Str × V) := putF "taken" t (putF "boxes" b (putF "slots" s (putF "at" a (putF "own" o []))))
def spWaiI (C : Cs) : Sp := fun vs H Q _ => ∃ (p dx : Addr) (o a s b t : V), vs = [.ref p, o, a, s, b, t] ∧ H p = some (.ins C.waiting dx []) ∧ Q .non (upd H p (.ins C.waiting dx (wf o a s b t)))
theorem scWaiI : FnScope ["self", "own", "at", "slots", "boxes", "taken"] ["self", "own", "at", "slots", "boxes", "taken"] (defScope sWaiI) := ⟨rfl, rfl, rfl, by decide +kernel, rfl, by decide +kernel, by decide +kernel⟩
theorem ok_waiI {f : Addr} {fd : FuncData} (F : Fun K "__init__" "Waiting.__init__" sWaiI f fd) (T : Txt K mg C) : FnOk P w K mg base CX0 1 f fd ["self", "own", "at", "slots", "boxes", "taken"] (spWaiI C) := by
  refine F.ok scWaiI (fun vs H Q E h => ?_) (fun cdv A outer s H vs Q E hr h => ?_)
  · obtain ⟨p, dx, o, a, z, b, t, rfl, _⟩ := h
    rfl
  · obtain ⟨p, dx, o, a, z, b, t, rfl, hp, k⟩ := h
    refine ⟨_, pss_cons (ps_fld (pv 0) (pv 1) rfl) (pss_cons (ps_fld (pv 0) (pv 2) rfl) (pss_cons (ps_fld (pv 0) (pv 3) rfl) (pss_cons (ps_fld (pv 0) (pv 4) rfl) (pss_one (ps_fld (pv 0) (pv 5) rfl))))), ?_⟩
    have l1 := length_putF "own" o []
    have l2 := length_putF "at" a (putF "own" o [])
    have l3 := length_putF "slots" z (putF "at" a (putF "own" o []))
    have l4 := length_putF "boxes" b (putF "slots" z (putF "at" a (putF "own" o [])))
    simp only [List.length_nil] at l1
    refine ⟨_, rfl, _, rfl, p, C.waiting, dx, [], rfl, hp, T.clW, T.nWo, (by show 0 < 1000; decide), ?_⟩
    refine ⟨_, rfl, _, rfl, p, C.waiting, dx, _, rfl, upd_same, T.clW, T.nWa, (by omega), ?_⟩
    refine ⟨_, rfl, _, rfl, p, C.waiting, dx, _, rfl, upd_same, T.clW, T.nWs, (by omega), ?_⟩
    refine ⟨_, rfl, _, rfl, p, C.waiting, dx, _, rfl, upd_same, T.clW, T.nWb, (by omega), ?_⟩
    refine ⟨_, rfl, _, rfl, p, C.waiting, dx, _, rfl, upd_same, T.clW, T.nWt, (by omega), ?_⟩
    rw [upd_upd, upd_upd, upd_upd, upd_upd]
    exact k
/-! ### boxes_as_values -/
def spBav : Sp := fun vs H Q _ => ∃ (q : Addr) (ks : List Nat), vs = [.ref q] ∧ H q = some (.tup (intsV ks)) ∧ ks.length ≤ 1000 ∧
  ∀ (l : Addr) (us : List V) (H' : Hp), Same H H' → H l = none → H' l = some (.lst us) → VsAt H' us (ks.map Val.thing) → Q (.ref l) H'
theorem scBav : FnScope ["numbers", "number"] ["numbers"] (defScope sBav) := ⟨rfl, rfl, rfl, by decide +kernel, rfl, by decide +kernel, by decide +kernel⟩
theorem ok_bav {f : Addr} {fd : FuncData} (F : Fun K "boxes_as_values" "boxes_as_values" sBav f fd) : FnOk P w K mg base CX0 1 f fd ["numbers"] spBav := by
  refine F.ok scBav (fun vs H Q E h => ?_) (fun cdv A outer s H vs Q E hr h => ?_)
  · obtain ⟨q, ks, rfl, _⟩ := h
    rfl
  · obtain ⟨q, ks, rfl, hq, hl, k⟩ := h
    refine ⟨_, pss_one (ps_ret (pe_lc (own := [("number", 1)]) (g := gName 1) (tt := tYes) rfl scBav.nd (pi_tup (pv 0)) (blkOk_by (N := ["numbers", "number"]) (sc := defScope sBav) (by decide +kernel))
      (fun _ _ _ _ _ => pg_name (i := 1) scBav.nd rfl (Or.inl rfl)) (fun _ _ _ _ _ => pts_nil) (fun _ _ _ _ _ => pe_tup (pa_cons pe_str (pa_cons (pv 1) pa_nil))))), ?_⟩
    refine ⟨_, rfl, q, rfl, ⟨_, SqT.of hq⟩, fun D hD => ?_⟩
    refine lc_tup (K := K) (a := q) (xs := intsV ks) (fun i H' => ∃ us, Same H H' ∧ H' D = some (.lst us) ∧ VsAt H' us ((ks.take i).map Val.thing)) ⟨[], same_upd hD, upd_same, .nil⟩ (fun i H' _ ⟨us, s1, _, _⟩ => SqT.of (s1 _ _ hq)) ?_ ?_
    · rintro i x H' hx ⟨us, s1, hd, hv⟩
      obtain ⟨n, hn, rfl⟩ := intsV_get hx
      refine ⟨rfl, ?_⟩
      refine ⟨_, rfl, (by show 2 ≤ sizeLine; decide), fun p hp => ?_⟩
      have nDp : D ≠ p := ne_of_none hd hp
      have i1 : Im H' (upd H' p (.tup [.str "thing", .int (n : Int)])) := im_same (same_upd hp)
      have hlt : i < ks.length := (List.getElem?_eq_some_iff.mp hn).1
      have hus : us.length = ((ks.take i).map Val.thing).length := hv.length
      rw [List.length_map, List.length_take] at hus
      have i2 : Im (upd H' p (.tup [.str "thing", .int (n : Int)])) (upd (upd H' p (.tup [.str "thing", .int (n : Int)])) D (.lst (us ++ [.ref p]))) := im_mut (o := .lst us) (by rw [upd_ne nDp]; exact hd) (fun z => z)
      refine ⟨us, (by rw [upd_ne nDp]; exact hd), small1000 (by omega), us ++ [.ref p], same_over (s1.trans (same_upd hp)) hD, upd_same, ?_⟩
      have e : ((ks.take (i + 1)).map Val.thing) = (ks.take i).map Val.thing ++ [Val.thing n] := by
        rw [List.take_add_one, hn, List.map_append]
        rfl
      rw [e]
      exact Paired.snoc (hv.im (i1.trans i2)) ⟨p, rfl, i2 _ _ upd_same True.intro⟩
    · rintro H' ⟨us, s1, hd, hv⟩
      rw [intsV_length, List.take_of_length_le (Nat.le_refl _)] at hv
      exact k D us H' s1 hD hd hv
/-! ### holds -/
def isBox : Thing → Prop
  | .box _ => True
  | _ => False
def isMak : Thing → Prop
  | .maker _ => True
  | _ => False
def isWai : Thing → Prop
  | .wait _ _ _ => True
  | _ => False
def tsize : Thing → Nat
  | .box _ => 1
  | .maker t => t.length
  | .wait s b t => s.length + b.length + t.length
def spHolds (H : Hp) (th : Thing) (Q : VK) : Prop := tsize th ≤ 1000 ∧ ∀ (l : Addr) (us : List V) (H' : Hp), Same H H' → H l = none → H' l = some (.lst us) → VsAt H' us (holds th) → Q (.ref l) H'
def spBoxH (C : Cs) : Sp := fun vs H Q _ => ∃ (i : Addr) (v : Val), vs = [.ref i] ∧ IAt C H i (.box v) ∧ spHolds H (.box v) Q
theorem scBoxH : FnScope ["self"] ["self"] (defScope sBoxH) := ⟨rfl, rfl, rfl, by decide +kernel, rfl, by decide +kernel, by decide +kernel⟩
theorem ok_boxH {f : Addr} {fd : FuncData} (F : Fun K "holds" "Box.holds" sBoxH f fd) (T : Txt K mg C) : FnOk P w K mg base CX0 1 f fd ["self"] (spBoxH C) := by
  refine F.ok scBoxH (fun vs H Q E h => ?_) (fun cdv A outer s H vs Q E hr h => ?_)
  · obtain ⟨i, v, rfl, _⟩ := h
    rfl
  · obtain ⟨i, v, rfl, ⟨dx, fs, u, h1, h2, h3, h4, h5⟩, _, k⟩ := h
    refine ⟨_, pss_one (ps_ret (pe_ifExp (pt_cmp (pc_isN (pe_fld (pv 0) rfl))) (pe_lst pa_nil) (pe_lst (pa_cons (pe_fld (pv 0) rfl) pa_nil)))), ?_⟩
    refine ⟨_, rfl, i, C.box, dx, fs, u, rfl, h1, T.clB, T.nBv, h4, _, rfl, ?_⟩
    cases v with
    | nil =>
      have e : u = .non := h5
      subst e
      refine iteY rfl ⟨Nat.zero_le _, fun p hp => ?_⟩
      exact k p [] _ (same_upd hp) hp upd_same .nil
    | thing n =>
      obtain ⟨z, rfl, hz⟩ := id h5
      refine iteN (by intro e; cases e) ⟨_, rfl, i, C.box, dx, fs, _, rfl, h1, T.clB, T.nBv, h4, (by show 1 ≤ sizeLine; decide), fun p hp => ?_⟩
      exact k p [.ref z] _ (same_upd hp) hp upd_same (.cons (h5.im (im_same (same_upd hp))) .nil)
    | num n =>
      obtain ⟨z, rfl, hz⟩ := id h5
      refine iteN (by intro e; cases e) ⟨_, rfl, i, C.box, dx, fs, _, rfl, h1, T.clB, T.nBv, h4, (by show 1 ≤ sizeLine; decide), fun p hp => ?_⟩
      exact k p [.ref z] _ (same_upd hp) hp upd_same (.cons (h5.im (im_same (same_upd hp))) .nil)
def spMakH (D : Addr) : Sp := fun vs H Q _ => ∃ (i dx q : Addr) (fs : List (Str × V)) (t : List Nat), vs = [.ref i] ∧ H i = some (.ins D dx fs) ∧ fs.lookup ("taken" : Str) = some (.ref q) ∧ H q = some (.tup (intsV t)) ∧ spHolds H (.maker t) Q
theorem scMakH : FnScope ["self"] ["self"] (defScope sMakH) := ⟨rfl, rfl, rfl, by decide +kernel, rfl, by decide +kernel, by decide +kernel⟩
theorem ok_makH {f fb D : Addr} {fd fdb : FuncData} (F : Fun K "holds" "Maker.holds" sMakH f fd) (cl : Cls K D) (nt : NoAttr K D "taken") (B : Df P w K mg base 1 "boxes_as_values" fb fdb ["numbers"] spBav) : FnOk P w K mg base CX0 2 f fd ["self"] (spMakH D) := by
  refine F.ok scMakH (fun vs H Q E h => ?_) (fun cdv A outer s H vs Q E hr h => ?_)
  · obtain ⟨i, dx, q, fs, t, rfl, _⟩ := h
    rfl
  · obtain ⟨i, dx, q, fs, t, rfl, h1, h2, h3, hz, k⟩ := h
    refine ⟨_, pss_one (ps_ret (pe_call B.ok hr rfl B.mg B.kp B.b .nil pass0 (pa_cons (pe_fld (pv 0) rfl) pa_nil))), ?_⟩
    exact ⟨_, rfl, i, D, dx, fs, _, rfl, h1, cl, nt, h2, q, t, rfl, h3, hz, k⟩
def spWaiH (C : Cs) : Sp := fun vs H Q _ => ∃ (i : Addr) (z : List Val) (b t : List Nat), vs = [.ref i] ∧ IAt C H i (.wait z b t) ∧ spHolds H (.wait z b t) Q
theorem scWaiH : FnScope ["self", "found", "value"] ["self"] (defScope sWaiH) := ⟨rfl, rfl, rfl, by decide +kernel, rfl, by decide +kernel, by decide +kernel⟩
theorem ok_waiH {f fb : Addr} {fd fdb : FuncData} (F : Fun K "holds" "Waiting.holds" sWaiH f fd) (T : Txt K mg C) (B : Df P w K mg base 1 "boxes_as_values" fb fdb ["numbers"] spBav) : FnOk P w K mg base CX0 2 f fd ["self"] (spWaiH C) := by
  refine F.ok scWaiH (fun vs H Q E h => ?_) (fun cdv A outer s H vs Q E hr h => ?_)
  · obtain ⟨i, z, b, t, rfl, _⟩ := h
    rfl
  · obtain ⟨i, z, b, t, rfl, ⟨dx, fs, qs, qb, qt, us, h1, h2, h3, l1, l2, l3, m1, m2, m3, m4⟩, hz, k⟩ := h
    have hz : z.length + b.length + t.length ≤ 1000 := hz
    refine ⟨_, pss_cons (ps_setLc (i := 1) (own := [("value", 2)]) (g := gName 2) rfl scWaiH.nd rfl rfl (sw_true rfl rfl rfl (by decide +kernel)) (pi_tup (pe_fld (pv 0) rfl))
        (blkOk_by (N := ["self", "found", "value"]) (sc := defScope sWaiH) (by decide +kernel)) (fun _ _ _ _ _ => pg_name (i := 2) scWaiH.nd rfl (Or.inl rfl)) (fun _ _ _ _ _ => pts_one (pt_cmp (pc_notN (pv 2)))) (fun _ _ _ _ _ => pv 2))
      (pss_one (ps_ret (pe_op op_cat (pe_op op_cat (pv 1) (pe_call B.ok hr rfl B.mg B.kp B.b .nil pass0 (pa_cons (pe_fld (pv 0) rfl) pa_nil))) (pe_call B.ok hr rfl B.mg B.kp B.b .nil pass0 (pa_cons (pe_fld (pv 0) rfl) pa_nil))))), ?_⟩
    refine ⟨_, rfl, i, C.waiting, dx, fs, _, rfl, h1, T.clW, T.nWs, l1, qs, rfl, ⟨_, SqT.of m1⟩, fun D hD => ?_⟩
    refine lc_tup (K := K) (a := qs) (xs := us) (fun j H' => ∃ ws, Same H H' ∧ H' D = some (.lst ws) ∧ VsAt H' ws ((z.take j).filter isVal)) ⟨[], same_upd hD, upd_same, .nil⟩ (fun j H' _ ⟨ws, s1, _, _⟩ => SqT.of (s1 _ _ m1)) ?_ ?_
    · rintro j x H' hx ⟨ws, s1, hd, hv⟩
      obtain ⟨y, hy, hxy⟩ := pr_getL m2 hx
      have hlt : j < z.length := (List.getElem?_eq_some_iff.mp hy).1
      have e : (z.take (j + 1)).filter isVal = (z.take j).filter isVal ++ (if isVal y then [y] else []) := by
        rw [List.take_add_one, hy, List.filter_append]
        cases hq : isVal y <;> simp [hq]
      have hws : ws.length = ((z.take j).filter isVal).length := hv.length
      have hle := List.length_filter_le isVal (z.take j)
      rw [List.length_take] at hle
      refine ⟨rfl, _, rfl, _, rfl, ?_⟩
      cases y with
      | nil =>
        have ex : x = .non := hxy
        subst ex
        exact ⟨ws, s1, hd, by rw [e]; simpa [isVal] using hv⟩
      | thing n =>
        obtain ⟨p, rfl, hp⟩ := id hxy
        refine ⟨_, rfl, ws, hd, small1000 (by omega), ws ++ [.ref p], same_over s1 hD, upd_same, ?_⟩
        have i2 : Im H' (upd H' D (.lst (ws ++ [.ref p]))) := im_mut hd (fun z => z)
        rw [e]
        exact Paired.snoc (hv.im i2) (VAt.im ((im_same s1).trans i2) hxy)
      | num n =>
        obtain ⟨p, rfl, hp⟩ := id hxy
        refine ⟨_, rfl, ws, hd, small1000 (by omega), ws ++ [.ref p], same_over s1 hD, upd_same, ?_⟩
        have i2 : Im H' (upd H' D (.lst (ws ++ [.ref p]))) := im_mut hd (fun z => z)
        rw [e]
        exact Paired.snoc (hv.im i2) (VAt.im ((im_same s1).trans i2) hxy)
    · rintro H' ⟨ws, s1, hd, hv⟩
      rw [m2.length, List.take_of_length_le (Nat.le_refl _)] at hv
      have hws := hv.length
      have hle := List.length_filter_le isVal z
      refine ⟨_, rfl, _, rfl, i, C.waiting, dx, fs, _, rfl, s1 _ _ h1, T.clW, T.nWb, l2, qb, b, rfl, s1 _ _ m3, by omega, fun l2' us2 H2 s2 n2 e2 v2 => ?_⟩
      have hb := v2.length
      rw [List.length_map] at hb
      refine ⟨D, l2', ws, us2, rfl, rfl, s2 _ _ hd, e2, Nat.le_of_lt (small1000 (by omega)), fun p3 n3 => ?_⟩
      have s3 : Same H2 (upd H2 p3 (.lst (ws ++ us2))) := same_upd n3
      have s13 : Same H (upd H2 p3 (.lst (ws ++ us2))) := (s1.trans s2).trans s3
      refine ⟨_, rfl, i, C.waiting, dx, fs, _, rfl, s13 _ _ h1, T.clW, T.nWt, l3, qt, t, rfl, s13 _ _ m4, by omega, fun l4 us4 H4 s4 n4 e4 v4 => ?_⟩
      have ht := v4.length
      rw [List.length_map] at ht
      refine ⟨p3, l4, ws ++ us2, us4, rfl, rfl, s4 _ _ upd_same, e4, Nat.le_of_lt (small1000 (by rw [List.length_append]; omega)), fun p5 n5 => ?_⟩
      have s5 : Same H4 (upd H4 p5 (.lst (ws ++ us2 ++ us4))) := same_upd n5
      have i5 := im_same s5
      have i4 := (im_same s4).trans i5
      have i3 := (im_same s3).trans i4
      have i2 := (im_same s2).trans i3
      refine k p5 _ _ ((s13.trans s4).trans s5) ((s13.trans s4).free n5) upd_same ?_
      exact pr_append (pr_append (hv.im i2) (v2.im i3)) (v4.im i5)
end
end Wl

namespace Wl
open PySem L2
theorem mf_taken (o t : V) : (mf o t).lookup ("taken" : Str) = some t := by
  unfold mf
  rw [lookup_putF, if_pos rfl]
theorem mf_no (o t : V) {m : Str} (h1 : ¬ m = "taken") (h2 : ¬ m = "own") : (mf o t).lookup m = none := by
  unfold mf
  rw [lookup_putF, if_neg h1, lookup_putF, if_neg h2]
  all_goals rfl
theorem wf_taken (o a s b t : V) : (wf o a s b t).lookup ("taken" : Str) = some t := by
  unfold wf
  rw [lookup_putF, if_pos rfl]
theorem wf_boxes (o a s b t : V) : (wf o a s b t).lookup ("boxes" : Str) = some b := by
  unfold wf
  rw [lookup_putF, if_neg (by decide +kernel), lookup_putF, if_pos rfl]
theorem wf_slots (o a s b t : V) : (wf o a s b t).lookup ("slots" : Str) = some s := by
  unfold wf
  rw [lookup_putF, if_neg (by decide +kernel), lookup_putF, if_neg (by decide +kernel), lookup_putF, if_pos rfl]
theorem wf_no (o a s b t : V) {m : Str} (h1 : ¬ m = "taken") (h2 : ¬ m = "boxes") (h3 : ¬ m = "slots") (h4 : ¬ m = "at") (h5 : ¬ m = "own") : (wf o a s b t).lookup m = none := by
  unfold wf
  rw [lookup_putF, if_neg h1, lookup_putF, if_neg h2, lookup_putF, if_neg h3, lookup_putF, if_neg h4, lookup_putF, if_neg h5]
  all_goals rfl
theorem bf_value (u : V) : (putF "value" u []).lookup ("value" : Str) = some u := by
  rw [lookup_putF, if_pos rfl]
theorem bf_no (u : V) {m : Str} (h1 : ¬ m = "value") : (putF "value" u []).lookup m = none := by
  rw [lookup_putF, if_neg h1]
  all_goals rfl
section
variable {P : Program} {w : World} {K : PySem.W.Frag} {mg : Str → Option Value} {base : Heap} {C : Cs}
/-- the four classes of things, ready to be made -/
structure Mks (P : Program) (w : World) (K : PySem.W.Frag) (mg : Str → Option Value) (base : Heap) (C : Cs) (fB fM fW : Addr) (dB dM dW : FuncData) : Prop where
  kB : Kf P w K mg base "Box" C.box fB dB ["self", "value"] (spBoxI C)
  kM : Kf P w K mg base "Maker" C.maker fM dM ["self", "own", "taken"] (spMakI C.maker)
  kL : Kf P w K mg base "Looper" C.looper fM dM ["self", "own", "taken"] (spMakI C.looper)
  kW : Kf P w K mg base "Waiting" C.waiting fW dW ["self", "own", "at", "slots", "boxes", "taken"] (spWaiI C)
theorem same_make {H : Hp} {x dx : Addr} {o u v : HO} (nx : H x = none) (nd : H dx = none) : Same H (upd (upd (upd H dx o) x u) x v) := fun b z e => by
  rw [upd_ne (ne_of_none e nx), upd_ne (ne_of_none e nx), upd_ne (ne_of_none e nd)]
  exact e
def spThingOf (C : Cs) : Sp := fun vs H Q _ => ∃ (a : Addr) (th : Thing), vs = [.ref a] ∧ TAt H a th ∧
  ∀ (i : Addr) (H' : Hp), Same H H' → H i = none → IAt C H' i th → Q (.ref i) H'
theorem scThingOf : FnScope ["told"] ["told"] (defScope sThingOf) := ⟨rfl, rfl, rfl, by decide +kernel, rfl, by decide +kernel, by decide +kernel⟩
theorem ok_thingOf {f fB fM fW : Addr} {fd dB dM dW : FuncData} (F : Fun K "thing_of" "thing_of" sThingOf f fd) (M : Mks P w K mg base C fB fM fW dB dM dW) : FnOk P w K mg base CX0 3 f fd ["told"] (spThingOf C) := by
  refine F.ok scThingOf (fun vs H Q E h => ?_) (fun cdv A outer s H vs Q E hr h => ?_)
  · obtain ⟨a, th, rfl, _⟩ := h
    rfl
  · obtain ⟨a, th, rfl, hT, k⟩ := h
    have kB := M.kB
    have kM := M.kM
    have kL := M.kL
    have kW := M.kW
    refine ⟨_, pss_cons (ps_if (pt_cmpR op_eq (pe_ix ix_tup (pv 0) pe_int (fun _ _ => rfl)) pe_str (nomark _)) (pss_one (ps_ret (pe_make kB.mkd kB.ok hr rfl kB.mg kB.b .nil pass0 (pa_cons (pe_ix ix_tup (pv 0) pe_int (fun _ _ => rfl)) pa_nil)))) pss_nil)
      (pss_cons (ps_if (pt_cmpR op_eq (pe_ix ix_tup (pv 0) pe_int (fun _ _ => rfl)) pe_str (nomark _)) (pss_one (ps_ret (pe_make kM.mkd kM.ok hr rfl kM.mg kM.b .nil pass0 (pa_cons (pe_ix ix_tup (pv 0) pe_int (fun _ _ => rfl)) (pa_cons (pe_ix ix_tup (pv 0) pe_int (fun _ _ => rfl)) pa_nil))))) pss_nil)
      (pss_cons (ps_if (pt_cmpR op_eq (pe_ix ix_tup (pv 0) pe_int (fun _ _ => rfl)) pe_str (nomark _)) (pss_one (ps_ret (pe_make kL.mkd kL.ok hr rfl kL.mg kL.b .nil pass0 (pa_cons (pe_ix ix_tup (pv 0) pe_int (fun _ _ => rfl)) (pa_cons (pe_ix ix_tup (pv 0) pe_int (fun _ _ => rfl)) pa_nil))))) pss_nil)
      (pss_one (ps_ret (pe_make kW.mkd kW.ok hr rfl kW.mg kW.b .nil pass0 (pa_cons (pe_ix ix_tup (pv 0) pe_int (fun _ _ => rfl)) (pa_cons (pe_ix ix_tup (pv 0) pe_int (fun _ _ => rfl)) (pa_cons (pe_ix ix_tup (pv 0) pe_int (fun _ _ => rfl))
        (pa_cons (pe_ix ix_tup (pv 0) pe_int (fun _ _ => rfl)) (pa_cons (pe_ix ix_tup (pv 0) pe_int (fun _ _ => rfl)) pa_nil)))))))))), ?_⟩
    cases th with
    | box v =>
      obtain ⟨u, h, hv⟩ := hT
      refine ⟨_, rfl, a, _, _, _, rfl, rfl, SqT.of h, rfl, rfl, _, rfl, iteY rfl ?_⟩
      refine ⟨_, rfl, a, _, _, _, rfl, rfl, SqT.of h, rfl, ?_⟩
      intro x dx nx nd ne
      refine ⟨x, dx, u, rfl, upd_same, rfl, ?_⟩
      have sm : Same H (upd (upd (upd H dx (.own x)) x (.ins C.box dx [])) x (.ins C.box dx (putF "value" u []))) := same_make nx nd
      refine k x _ sm nx ⟨dx, _, u, upd_same, bf_no u (by decide +kernel), bf_no u (by decide +kernel), bf_value u, hv.im (im_same sm)⟩
    | maker t =>
      obtain ⟨z, n, q, hz, h, hq⟩ := hT
      rcases hz with rfl | rfl
      · refine ⟨_, rfl, a, _, _, _, rfl, rfl, SqT.of h, rfl, rfl, _, rfl, iteN (by decide +kernel) ?_⟩
        refine ⟨_, rfl, a, _, _, _, rfl, rfl, SqT.of h, rfl, rfl, _, rfl, iteY rfl ?_⟩
        refine ⟨_, rfl, a, _, _, _, rfl, rfl, SqT.of h, rfl, _, rfl, a, _, _, _, rfl, rfl, SqT.of h, rfl, ?_⟩
        intro x dx nx nd ne
        refine ⟨x, dx, .int n, .ref q, rfl, upd_same, rfl, ?_⟩
        have sm : Same H (upd (upd (upd H dx (.own x)) x (.ins C.maker dx [])) x (.ins C.maker dx (mf (.int n) (.ref q)))) := same_make nx nd
        exact k x _ sm nx ⟨C.maker, dx, _, q, .inl rfl, upd_same, mf_no _ _ (by decide +kernel) (by decide +kernel), mf_no _ _ (by decide +kernel) (by decide +kernel), mf_taken _ _, sm _ _ hq⟩
      · refine ⟨_, rfl, a, _, _, _, rfl, rfl, SqT.of h, rfl, rfl, _, rfl, iteN (by decide +kernel) ?_⟩
        refine ⟨_, rfl, a, _, _, _, rfl, rfl, SqT.of h, rfl, rfl, _, rfl, iteN (by decide +kernel) ?_⟩
        refine ⟨_, rfl, a, _, _, _, rfl, rfl, SqT.of h, rfl, rfl, _, rfl, iteY rfl ?_⟩
        refine ⟨_, rfl, a, _, _, _, rfl, rfl, SqT.of h, rfl, _, rfl, a, _, _, _, rfl, rfl, SqT.of h, rfl, ?_⟩
        intro x dx nx nd ne
        refine ⟨x, dx, .int n, .ref q, rfl, upd_same, rfl, ?_⟩
        have sm : Same H (upd (upd (upd H dx (.own x)) x (.ins C.looper dx [])) x (.ins C.looper dx (mf (.int n) (.ref q)))) := same_make nx nd
        exact k x _ sm nx ⟨C.looper, dx, _, q, .inr rfl, upd_same, mf_no _ _ (by decide +kernel) (by decide +kernel), mf_no _ _ (by decide +kernel) (by decide +kernel), mf_taken _ _, sm _ _ hq⟩
    | wait z b t =>
      obtain ⟨n, at_, qs, qb, qt, us, ha, h, m1, m2, m3, m4⟩ := hT
      refine ⟨_, rfl, a, _, _, _, rfl, rfl, SqT.of h, rfl, rfl, _, rfl, iteN (by decide +kernel) ?_⟩
      refine ⟨_, rfl, a, _, _, _, rfl, rfl, SqT.of h, rfl, rfl, _, rfl, iteN (by decide +kernel) ?_⟩
      refine ⟨_, rfl, a, _, _, _, rfl, rfl, SqT.of h, rfl, rfl, _, rfl, iteN (by decide +kernel) ?_⟩
      refine ⟨_, rfl, a, _, _, _, rfl, rfl, SqT.of h, rfl, _, rfl, a, _, _, _, rfl, rfl, SqT.of h, rfl, _, rfl, a, _, _, _, rfl, rfl, SqT.of h, rfl, _, rfl, a, _, _, _, rfl, rfl, SqT.of h, rfl, _, rfl, a, _, _, _, rfl, rfl, SqT.of h, rfl, ?_⟩
      intro x dx nx nd ne
      refine ⟨x, dx, .int n, at_, .ref qs, .ref qb, .ref qt, rfl, upd_same, rfl, ?_⟩
      have sm : Same H (upd (upd (upd H dx (.own x)) x (.ins C.waiting dx [])) x (.ins C.waiting dx (wf (.int n) at_ (.ref qs) (.ref qb) (.ref qt)))) := same_make nx nd
      exact k x _ sm nx ⟨dx, _, qs, qb, qt, us, upd_same, wf_no _ _ _ _ _ (by decide +kernel) (by decide +kernel) (by decide +kernel) (by decide +kernel) (by decide +kernel), wf_no _ _ _ _ _ (by decide +kernel) (by decide +kernel) (by decide +kernel) (by decide +kernel) (by decide +kernel),
        wf_slots _ _ _ _ _, wf_boxes _ _ _ _ _, wf_taken _ _ _ _ _, sm _ _ m1, m2.im (im_same sm), sm _ _ m3, sm _ _ m4⟩
/-! ### Heap: __init__, put, need, change, numbers -/
def spHeapI (C : Cs) : Sp := fun vs H Q _ => ∃ (p dx : Addr), vs = [.ref p] ∧ H p = some (.ins C.heap dx []) ∧ ∀ (d : Addr) (H' : Hp), H d = none → HeapAt C H' p d [] → (∀ b o, H b = some o → b ≠ p → H' b = some o) → Q .non H'
theorem scHeapI : FnScope ["self"] ["self"] (defScope sHeapI) := ⟨rfl, rfl, rfl, by decide +kernel, rfl, by decide +kernel, by decide +kernel⟩
theorem ok_heapI {f : Addr} {fd : FuncData} (F : Fun K "__init__" "Heap.__init__" sHeapI f fd) (T : Txt K mg C) : FnOk P w K mg base CX0 1 f fd ["self"] (spHeapI C) := by
  refine F.ok scHeapI (fun vs H Q E h => ?_) (fun cdv A outer s H vs Q E hr h => ?_)
  · obtain ⟨p, dx, rfl, _⟩ := h
    rfl
  · obtain ⟨p, dx, rfl, hp, k⟩ := h
    refine ⟨_, pss_cons (ps_fld (pv 0) pe_dnewK rfl) (pss_one (ps_fld (pv 0) pe_int rfl)), ?_⟩
    intro d hd
    have npd : p ≠ d := ne_of_none hp hd
    refine ⟨_, rfl, p, C.heap, dx, [], rfl, (by rw [upd_ne npd]; exact hp), T.clH, T.nHt, (by show 0 < 1000; decide), _, rfl, p, C.heap, dx, _, rfl, upd_same, T.clH, T.nHc, (by show 1 < 1000; decide), ?_⟩
    refine k d _ hd ⟨⟨dx, upd_same⟩, [], by rw [upd_ne npd.symm, upd_ne npd.symm, upd_same]; rfl, .nil⟩ fun b o e hb => ?_
    rw [upd_ne hb, upd_ne hb, upd_ne (ne_of_none e hd)]
    exact e
theorem pr_map_len {α β : Type} {F : α → β → Prop} {a : List α} {b : List β} (h : Paired F a b) : a.length = b.length := h.length
def spPut (C : Cs) : Sp := fun vs H Q _ => ∃ (h d a : Addr) (ths : List Thing) (th : Thing), vs = [.ref h, .ref a] ∧ HeapAt C H h d ths ∧ TAt H a th ∧ ths.length < 2000 ∧
  ∀ (n : Int) (H' : Hp), HeapAt C H' h d (ths ++ [th]) → (∀ b o, H b = some o → b ≠ h → b ≠ d → H' b = some o) → Q (.int n) H'
theorem scPut : FnScope ["self", "thing"] ["self", "thing"] (defScope sPut) := ⟨rfl, rfl, rfl, by decide +kernel, rfl, by decide +kernel, by decide +kernel⟩
theorem ok_put {f ft : Addr} {fd dt : FuncData} (F : Fun K "put" "Heap.put" sPut f fd) (T : Txt K mg C) (D : Df P w K mg base 3 "thing_of" ft dt ["told"] (spThingOf C)) : FnOk P w K mg base CX0 4 f fd ["self", "thing"] (spPut C) := by
  refine F.ok scPut (fun vs H Q E h => ?_) (fun cdv A outer s H vs Q E hr h => ?_)
  · obtain ⟨h, d, a, ths, th, rfl, _⟩ := h
    rfl
  · obtain ⟨h, d, a, ths, th, rfl, hH, hT, hl, k⟩ := h
    have hu := hu_of hr
    refine ⟨_, pss_cons (ps_dput hu (pe_fld (pv 0) rfl) (pe_fld (pv 0) rfl) (pe_call D.ok hr rfl D.mg D.kp D.b .nil pass0 (pa_cons (pv 1) pa_nil)) rfl)
      (pss_cons (ps_fld (pv 0) (pe_op op_add (pe_fld (pv 0) rfl) pe_int) rfl) (pss_one (ps_ret (pe_op op_sub (pe_fld (pv 0) rfl) pe_int)))), ?_⟩
    refine ⟨_, rfl, a, th, rfl, hT, fun i H1 s1 ni iat => ?_⟩
    have nhd := hH.ne
    obtain ⟨⟨dx, h1⟩, is, h2, pp⟩ := hH.same s1
    have hlen := pr_map_len pp
    refine ⟨_, rfl, h, C.heap, dx, _, _, rfl, h1, T.clH, T.nHt, hf_there _ _, _, rfl, h, C.heap, dx, _, _, rfl, h1, T.clH, T.nHc, hf_count _ _, d, _, rfl, DPut.k (k := Sum.inl (ths.length : Int)) h2 (by rw [dkv_length]; exact Nat.lt_of_lt_of_le (m := 2000) (by omega) (by decide)), ?_⟩
    have e1 : (upd H1 d (.dK (putK (dkv is) (Sum.inl (ths.length : Int)) (.ref i)))) h = some (.ins C.heap dx (hf d (ths.length : Int))) := by
      rw [upd_ne nhd]
      exact h1
    refine ⟨_, rfl, h, C.heap, dx, _, _, rfl, e1, T.clH, T.nHc, hf_count _ _, _, _, rfl, rfl, _, rfl, h, C.heap, dx, _, rfl, e1, T.clH, T.nHc, (by rw [hf_eq]; show 2 < 1000; decide), ?_⟩
    rw [hf_put]
    refine ⟨_, rfl, h, C.heap, dx, _, _, rfl, upd_same, T.clH, T.nHc, hf_count _ _, _, _, rfl, rfl, ?_⟩
    have i1 : Im H1 (upd H1 d (.dK (putK (dkv is) (Sum.inl (ths.length : Int)) (.ref i)))) := im_mut h2 (fun z => z)
    have i2 := i1.trans (im_mut (u := .ins C.heap dx (hf d ((ths.length : Int) + 1))) e1 hf_nimm)
    refine k _ _ ⟨⟨dx, by rw [upd_same, List.length_append]; rfl⟩, is ++ [i], ?_, ?_⟩ fun b o e nb nd => ?_
    · rw [upd_ne nhd.symm, upd_same, ← hlen, dkv_put]
    · exact Paired.snoc (Paired.mono (fun _ _ q => q.im i2) pp) (iat.im i2)
    · rw [upd_ne nb, upd_ne nd]
      exact s1 _ _ e
theorem bi_isinstance : bootBuiltins "isinstance" = some (.builtin "isinstance") := by decide +kernel
theorem bi_int : bootBuiltins "int" = some (.type "int") := by decide +kernel
theorem bi_bool : bootBuiltins "bool" = some (.type "bool") := by decide +kernel
theorem bi_tuple : bootBuiltins "tuple" = some (.type "tuple") := by decide +kernel
theorem bi_list : bootBuiltins "list" = some (.type "list") := by decide +kernel
theorem bi_sorted : bootBuiltins "sorted" = some (.builtin "sorted") := by decide +kernel
theorem bi_all : bootBuiltins "all" = some (.builtin "all") := by decide +kernel
def spNeed (C : Cs) : Sp := fun vs H Q _ => ∃ (h d : Addr) (ths : List Thing) (k : Nat), vs = [.ref h, .int (k : Int)] ∧ HeapAt C H h d ths ∧ k < ths.length ∧ Q .non H
theorem scNeed : FnScope ["self", "k"] ["self", "k"] (defScope sNeed) := ⟨rfl, rfl, rfl, by decide +kernel, rfl, by decide +kernel, by decide +kernel⟩
theorem ok_need {f : Addr} {fd : FuncData} (F : Fun K "need" "Heap.need" sNeed f fd) (T : Txt K mg C) : FnOk P w K mg base CX0 1 f fd ["self", "k"] (spNeed C) := by
  refine F.ok scNeed (fun vs H Q E h => ?_) (fun cdv A outer s H vs Q E hr h => ?_)
  · obtain ⟨h, d, ths, n, rfl, _⟩ := h
    rfl
  · obtain ⟨h, d, ths, n, rfl, ⟨⟨dx, h1⟩, is, h2, pp⟩, hn, k⟩ := h
    have hu := hu_of hr
    refine ⟨_, pss_one (ps_if (PW.pt (pw_or (pt_not (pt_val (pe_callB call_isi (by rfl) T.isinstance bi_isinstance (pa_cons (pv 1) (pa_cons (pe_bltn (v := .ty "int") (by rfl) T.int bi_int rfl) pa_nil)))))
      (pw_or (pt_val (pe_callB call_isi (by rfl) T.isinstance bi_isinstance (pa_cons (pv 1) (pa_cons (pe_bltn (v := .ty "bool") (by rfl) T.bool bi_bool rfl) pa_nil))))
      (pw_or1 (pt_cmp (pc_dnotin hu (pv 1) (pe_fld (pv 0) rfl))))))) pss_never pss_nil), ?_⟩
    refine ⟨_, rfl, .int (n : Int), .ty "int", .type "int", .type "int", true, rfl, .ty _, .base (.int _), kit_ty (by decide +kernel), _, rfl, ?_⟩
    refine iteF ?_
    refine ⟨_, rfl, .int (n : Int), .ty "bool", .type "int", .type "bool", false, rfl, .ty _, .base (.int _), kit_ty (by decide +kernel), _, rfl, ?_⟩
    refine iteF ?_
    have hlen := pr_map_len pp
    have hv : valV (dkv is) (Sum.inl (n : Int) : Key) = some (.ref (is[n]'(by omega))) := by
      rw [dkv_val, List.getElem?_eq_getElem (by omega)]
      rfl
    have g := DGet.k (k := Sum.inl (n : Int)) h2
    rw [hv] at g
    refine ⟨_, rfl, _, rfl, h, C.heap, dx, _, _, rfl, h1, T.clH, T.nHt, hf_there _ _, d, _, rfl, g, _, rfl, ?_⟩
    exact iteF k
def spChange (C : Cs) : Sp := fun vs H Q _ => ∃ (h d a : Addr) (ths : List Thing) (th : Thing) (k : Nat), vs = [.ref h, .int (k : Int), .ref a] ∧ HeapAt C H h d ths ∧ k < ths.length ∧ ths.length < 2000 ∧ TAt H a th ∧
  ∀ (H' : Hp), HeapAt C H' h d (ths.set k th) → (∀ b o, H b = some o → b ≠ d → H' b = some o) → Q .non H'
theorem scChange : FnScope ["self", "k", "thing"] ["self", "k", "thing"] (defScope sChange) := ⟨rfl, rfl, rfl, by decide +kernel, rfl, by decide +kernel, by decide +kernel⟩
theorem ok_change {f ft fn : Addr} {fd dt dn : FuncData} (F : Fun K "change" "Heap.change" sChange f fd) (T : Txt K mg C) (D : Df P w K mg base 3 "thing_of" ft dt ["told"] (spThingOf C))
    (N : Mf P w K mg base 1 C.heap "need" fn dn ["self", "k"] (spNeed C)) : FnOk P w K mg base CX0 4 f fd ["self", "k", "thing"] (spChange C) := by
  refine F.ok scChange (fun vs H Q E h => ?_) (fun cdv A outer s H vs Q E hr h => ?_)
  · obtain ⟨h, d, a, ths, th, n, rfl, _⟩ := h
    rfl
  · obtain ⟨h, d, a, ths, th, n, rfl, hH, hn, hl, hT, k⟩ := h
    have hu := hu_of hr
    refine ⟨_, pss_cons (ps_expr (pe_meth (pv 0) N.cl N.me N.ok (hr.mono (by decide)) N.b .nil pass0 (pa_cons (pv 1) pa_nil)))
      (pss_one (ps_dput hu (pe_fld (pv 0) rfl) (pv 1) (pe_call D.ok hr rfl D.mg D.kp D.b .nil pass0 (pa_cons (pv 2) pa_nil)) rfl)), ?_⟩
    obtain ⟨⟨dx, h1⟩, _⟩ := id hH
    refine ⟨_, rfl, h, dx, _, rfl, h1, hf_no _ _ (by decide +kernel) (by decide +kernel), _, rfl, h, d, ths, n, rfl, hH, hn, ?_⟩
    refine ⟨_, rfl, a, th, rfl, hT, fun i H1 s1 ni iat => ?_⟩
    have nhd := hH.ne
    obtain ⟨⟨dy, g1⟩, is, g2, pp⟩ := hH.same s1
    have hlen := pr_map_len pp
    refine ⟨_, rfl, h, C.heap, dy, _, _, rfl, g1, T.clH, T.nHt, hf_there _ _, _, rfl, d, _, rfl, DPut.k (k := Sum.inl (n : Int)) g2 (by rw [dkv_length]; exact Nat.lt_of_lt_of_le (m := 2000) (by omega) (by decide)), ?_⟩
    have i1 : Im H1 (upd H1 d (.dK (putK (dkv is) (Sum.inl (n : Int)) (.ref i)))) := im_mut g2 (fun z => z)
    refine k _ ⟨⟨dy, by rw [upd_ne nhd, List.length_set]; exact g1⟩, is.set n i, ?_, ?_⟩ fun b o e nd => ?_
    · rw [upd_same, dkv_set _ _ _ (by omega)]
    · exact pr_set (Paired.mono (fun _ _ q => q.im i1) pp) (iat.im i1)
    · rw [upd_ne nd]
      exact s1 _ _ e
def spNumbers (C : Cs) : Sp := fun vs H Q _ => ∃ (h d : Addr) (ths : List Thing), vs = [.ref h] ∧ HeapAt C H h d ths ∧ ∀ (p : Addr) (H' : Hp), Same H H' → H p = none → H' p = some (.lst (intsV (List.range ths.length))) → Q (.ref p) H'
theorem scNumbers : FnScope ["self"] ["self"] (defScope sNumbers) := ⟨rfl, rfl, rfl, by decide +kernel, rfl, by decide +kernel, by decide +kernel⟩
theorem natI_range_sorted (n : Nat) : (natI (List.range n)).Pairwise (· ≤ ·) := by
  unfold natI
  rw [List.pairwise_map]
  exact List.Pairwise.imp (fun {a b} h => by omega) (range_sorted n)
theorem ok_numbers {f : Addr} {fd : FuncData} (F : Fun K "numbers" "Heap.numbers" sNumbers f fd) (T : Txt K mg C) : FnOk P w K mg base CX0 1 f fd ["self"] (spNumbers C) := by
  refine F.ok scNumbers (fun vs H Q E h => ?_) (fun cdv A outer s H vs Q E hr h => ?_)
  · obtain ⟨h, d, ths, rfl, _⟩ := h
    rfl
  · obtain ⟨h, d, ths, rfl, ⟨⟨dx, h1⟩, is, h2, pp⟩, k⟩ := h
    refine ⟨_, pss_one (ps_ret (pe_callB cr_sortedI (by rfl) T.sorted bi_sorted (pa_cons (pe_callTy (call_list_dK rfl) (by rfl) T.list bi_list (pa_cons (pe_fld (pv 0) rfl) pa_nil)) pa_nil))), ?_⟩
    refine ⟨_, rfl, h, C.heap, dx, _, _, rfl, h1, T.clH, T.nHt, hf_there _ _, d, _, rfl, h2, fun q hq => ?_⟩
    have hlen := pr_map_len pp
    rw [dkv_keys]
    refine ⟨q, natI (List.range is.length), rfl, SqL.of upd_same, fun ns' p perm srt hp => ?_⟩
    have e : ns' = natI (List.range is.length) := sorted_eq perm srt (natI_range_sorted _)
    subst e
    refine k p _ ((same_upd hq).trans (same_upd hp)) ((same_upd hq).free hp) ?_
    rw [upd_same, hlen]
    rfl
end
end Wl

namespace Wl
open PySem L2
/-! ### the dict of what was met -/
def skv (l : List Nat) : List (Key × V) := l.map (fun k : Nat => ((Sum.inl (k : Int) : Key), V.bl true))
theorem skv_length (l : List Nat) : (skv l).length = l.length := by unfold skv; rw [List.length_map]
theorem skv_val : ∀ (l : List Nat) (k : Nat), valV (skv l) (Sum.inl (k : Int) : Key) = if k ∈ l then some (.bl true) else none
  | [], k => by simp [skv, valV_nil]
  | a :: r, k => by
    show valV ((Sum.inl (a : Int), V.bl true) :: skv r) _ = _
    by_cases e : a = k
    · subst e
      rw [valV_pos rfl]
      simp
    · rw [valV_neg (by intro z; have z := Sum.inl.inj z; omega), skv_val r k]
      have : k ≠ a := fun z => e z.symm
      simp [this]
theorem skv_put {l : List Nat} {k : Nat} (h : ¬ k ∈ l) : putK (skv l) (Sum.inl (k : Int) : Key) (.bl true) = skv (l ++ [k]) := by
  rw [putK_new _ (by rw [skv_val, if_neg h])]
  unfold skv
  rw [List.map_append]
  rfl
theorem skv_keys (l : List Nat) : ((skv l).map fun kv => kV kv.1) = (natI l).map V.int := by
  unfold skv natI
  rw [List.map_map, List.map_map]
  rfl
/-! ### what stands in things -/
def gH (ths : List Thing) (j : Nat) : List Val := (ths[j]?.map holds).getD []
def gL (ths : List Thing) (j : Nat) : List Val := (ths[j]?.map lvals).getD []
theorem gH_at {ths : List Thing} {j : Nat} {th : Thing} (h : ths[j]? = some th) : gH ths j = holds th := by
  unfold gH
  rw [h]
  rfl
theorem gL_at {ths : List Thing} {j : Nat} {th : Thing} (h : ths[j]? = some th) : gL ths j = lvals th := by
  unfold gL
  rw [h]
  rfl
theorem gHL (ths : List Thing) (j k : Nat) : Val.thing k ∈ gH ths j ↔ Val.thing k ∈ gL ths j := by
  cases h : ths[j]? with
  | none =>
    unfold gH gL
    rw [h]
    rfl
  | some th => rw [gH_at h, gL_at h, holds_iff]
theorem tsize_holds (th : Thing) : (holds th).length ≤ tsize th := by
  cases th with
  | box v =>
    show (if v = .nil then [] else [v]).length ≤ 1
    split <;> simp
  | maker t => exact Nat.le_of_eq (List.length_map ..)
  | wait z b t =>
    have := List.length_filter_le isVal z
    show ((z.filter isVal ++ b.map Val.thing) ++ t.map Val.thing).length ≤ z.length + b.length + t.length
    rw [List.length_append, List.length_append, List.length_map, List.length_map]
    omega
theorem tsize_lvals (th : Thing) : (lvals th).length = tsize th := by
  cases th with
  | box v => rfl
  | maker t => exact List.length_map ..
  | wait z b t =>
    show ((z ++ b.map Val.thing) ++ t.map Val.thing).length = z.length + b.length + t.length
    rw [List.length_append, List.length_append, List.length_map, List.length_map]
/-- what a search asks of the things and the values -/
structure Ok (ths : List Thing) (vs : List Val) : Prop where
  v : ∀ k : Nat, Val.thing k ∈ vs → k < ths.length
  g : ∀ (j : Nat) (th : Thing), ths[j]? = some th → ∀ k : Nat, Val.thing k ∈ lvals th → k < ths.length
  sz : ∀ (j : Nat) (th : Thing), ths[j]? = some th → tsize th ≤ 20
  n : ths.length ≤ 2000
  m : vs.length ≤ 20
theorem Ok.wfL {ths : List Thing} {vs : List Val} (o : Ok ths vs) : Wf (gL ths) vs ths.length := by
  refine ⟨o.v, fun j hj k hk => ?_⟩
  have e := List.getElem?_eq_getElem hj
  rw [gL_at e] at hk
  exact o.g j _ e k hk
theorem Ok.wfH {ths : List Thing} {vs : List Val} (o : Ok ths vs) : Wf (gH ths) vs ths.length :=
  ⟨o.v, fun j hj k hk => o.wfL.g j hj k ((gHL ths j k).mp hk)⟩
theorem Ok.muH {ths : List Thing} {vs : List Val} (o : Ok ths vs) : mu (gH ths) ths.length [] vs ≤ 50000 := by
  have h : ∀ k, (gH ths k).length ≤ 20 := fun k => by
    cases e : ths[k]? with
    | none =>
      unfold gH
      rw [e]
      exact Nat.zero_le _
    | some th =>
      rw [gH_at e]
      exact Nat.le_trans (tsize_holds th) (o.sz k th e)
  have := leftW_le h ths.length
  have := o.n
  have := o.m
  unfold mu
  omega
theorem Ok.muL {ths : List Thing} {vs : List Val} (o : Ok ths vs) : mu (gL ths) ths.length [] vs ≤ 50000 := by
  have h : ∀ k, (gL ths k).length ≤ 20 := fun k => by
    cases e : ths[k]? with
    | none =>
      unfold gL
      rw [e]
      exact Nat.zero_le _
    | some th =>
      rw [gL_at e, tsize_lvals]
      exact o.sz k th e
  have := leftW_le h ths.length
  have := o.n
  have := o.m
  unfold mu
  omega
theorem small50k {n : Nat} (h : n ≤ 100000) : n < sizeLine := Nat.lt_of_le_of_lt h (by decide)
/-- the rising list of what is reached -/
noncomputable def dueL (ths : List Thing) (vs : List Val) : List V := intsV (reachL (gH ths) vs ths.length)
section
variable {P : Program} {w : World} {K : PySem.W.Frag} {mg : Str → Option Value} {base : Heap} {C : Cs}
/-- the methods holds of the four classes -/
structure Hs (P : Program) (w : World) (K : PySem.W.Frag) (mg : Str → Option Value) (base : Heap) (C : Cs) (fB fM fW : Addr) (dB dM dW : FuncData) : Prop where
  hB : Mf P w K mg base 1 C.box "holds" fB dB ["self"] (spBoxH C)
  hM : Mf P w K mg base 2 C.maker "holds" fM dM ["self"] (spMakH C.maker)
  hL : Mf P w K mg base 2 C.looper "holds" fM dM ["self"] (spMakH C.looper)
  hW : Mf P w K mg base 2 C.waiting "holds" fW dW ["self"] (spWaiH C)
def spReached (C : Cs) (K : PySem.W.Frag) : Sp := fun vs H Q _ => ∃ (h d a : Addr) (ths : List Thing) (us : List V) (xs : List Val), vs = [.ref h, .ref a] ∧ HeapAt C H h d ths ∧ H a = some (.lst us) ∧ VsAt H us xs ∧ Ok ths xs ∧
  ∀ (p : Addr) (H' : Hp), Same H H' → H p = none → H' p = some (.lst (dueL ths xs)) → Q (.ref p) H'
theorem scReached : FnScope ["self", "values", "seen", "todo", "value"] ["self", "values"] (defScope sReached) := ⟨rfl, rfl, rfl, by decide +kernel, rfl, by decide +kernel, by decide +kernel⟩
theorem ok_reached {f fB fM fW : Addr} {fd dB dM dW : FuncData} (F : Fun K "reached" "Heap.reached" sReached f fd) (T : Txt K mg C) (S : Hs P w K mg base C fB fM fW dB dM dW) : FnOk P w K mg base CX0 3 f fd ["self", "values"] (spReached C K) := by
  refine F.ok scReached (fun vs H Q E h => ?_) (fun cdv A outer s H vs Q E hr h => ?_)
  · obtain ⟨h, d, a, ths, us, xs, rfl, _⟩ := h
    rfl
  · obtain ⟨h, d, a, ths, us0, xs, rfl, hH, ha, hv, o, k⟩ := h
    have hu := hu_of hr
    have hr1 : Room 1 _ := hr.mono (by decide)
    have mB := S.hB
    have mM := S.hM
    have mL := S.hL
    have mW := S.hW
    refine ⟨_, pss_cons (ps_set (i := 2) scReached.nd rfl (.inl rfl) pe_dnewK)
      (pss_cons (ps_set (i := 3) scReached.nd rfl (.inl rfl) (pe_callTy call_list_of (by rfl) T.list bi_list (pa_cons (pv 1) pa_nil)))
      (pss_cons (ps_while PassesOwn.never (pt_cmpR (op_neD hr.units) (pv 3) (pe_lst pa_nil) (nomark _))
        (pss_cons (ps_set (i := 4) scReached.nd rfl (.inl rfl) (pe_bm0 PySem.F.plainAttrs_list PySem.F.slot_list_pop PySem.F.type_list_pop mt_pop (pv 3)))
        (pss_one (ps_if (PW.pt (pw_and (pt_cmp (pc_notN (pv 4))) (pw_and (pt_cmpR op_eq (pe_ix ix_tup (pv 4) pe_int (fun _ _ => rfl)) pe_str (nomark _)) (pw_and1 (pt_cmp (pc_dnotin hu (pe_ix ix_tup (pv 4) pe_int (fun _ _ => rfl)) (pv 2)))))))
          (pss_cons (ps_dput hu (pv 2) (pe_ix ix_tup (pv 4) pe_int (fun _ _ => rfl)) pe_bl rfl)
          (pss_one (ps_expr (pe_bm PySem.F.plainAttrs_list PySem.F.slot_list_extend PySem.F.type_list_extend mt_extend (pv 3) (pa_cons
            (pe_either (pe_either (pe_meth0 (pe_dget hu (pe_fld (pv 0) rfl) (pe_ix ix_tup (pv 4) pe_int (fun _ _ => rfl)) (fun _ _ => rfl)) mB.cl mB.me mB.ok hr1 mB.b .nil pass0)
                (pe_meth0 (pe_dget hu (pe_fld (pv 0) rfl) (pe_ix ix_tup (pv 4) pe_int (fun _ _ => rfl)) (fun _ _ => rfl)) mM.cl mM.me mM.ok hr mM.b .nil pass0))
              (pe_either (pe_meth0 (pe_dget hu (pe_fld (pv 0) rfl) (pe_ix ix_tup (pv 4) pe_int (fun _ _ => rfl)) (fun _ _ => rfl)) mL.cl mL.me mL.ok hr mL.b .nil pass0)
                (pe_meth0 (pe_dget hu (pe_fld (pv 0) rfl) (pe_ix ix_tup (pv 4) pe_int (fun _ _ => rfl)) (fun _ _ => rfl)) mW.cl mW.me mW.ok hr mW.b .nil pass0))) pa_nil)))))
          pss_nil))))
      (pss_one (ps_ret (pe_callB cr_sortedI (by rfl) T.sorted bi_sorted (pa_cons (pe_callTy (call_list_dK rfl) (by rfl) T.list bi_list (pa_cons (pv 2) pa_nil)) pa_nil)))))), ?_⟩
    intro sd nsd
    have s1 : Same H (upd H sd (.dK [])) := same_upd nsd
    refine ⟨_, rfl, a, us0, rfl, .inl (SqL.of (s1 _ _ ha)), fun tl ntl => ?_⟩
    have s2 : Same (upd H sd (.dK [])) (upd (upd H sd (.dK [])) tl (.lst us0)) := same_upd ntl
    have ntlH : H tl = none := s1.free ntl
    have nst : sd ≠ tl := ne_of_none upd_same ntl
    refine ⟨fun m σ H2 => ∃ (us : List V) (todo : List Val) (seen : List Nat) (v4 : Option V), σ = [some (.ref h), some (.ref a), some (.ref sd), some (.ref tl), v4] ∧ Same H H2 ∧ H2 sd = some (.dK (skv seen)) ∧ H2 tl = some (.lst us) ∧
        VsAt H2 us todo ∧ DInv (gH ths) xs seen todo ∧ mu (gH ths) ths.length seen todo = m ∧ m ≤ 50000,
      ⟨_, us0, xs, [], none, rfl, s1.trans s2, by rw [upd_ne nst, upd_same]; rfl, upd_same, hv.im (im_same (s1.trans s2)), DInv.start, rfl, o.muH⟩, ?_⟩
    rintro m σ H2 ⟨us, todo, seen, v4, rfl, sm, esd, etl, hvs, I, em, hm⟩
    have htl : todo.length ≤ 50000 := by
      unfold mu at em
      omega
    refine ⟨_, rfl, Nat.zero_le _, fun p hp => ?_⟩
    have sp : Same H2 (upd H2 p (.lst [])) := same_upd hp
    have hvp : VsAt (upd H2 p (.lst [])) us todo := hvs.im (im_same sp)
    refine ⟨.list (todo.map toD), .list [], .lst (SqL.of (sp _ _ etl)) hvp.dp, .lst (SqL.of upd_same) .nil, shaped_vals _, shaped_vals [], _, rfl, ?_⟩
    rw [eqv_nil]
    have npsd : sd ≠ p := ne_of_none esd hp
    have nptl : tl ≠ p := ne_of_none etl hp
    rcases List.eq_nil_or_concat us with e | ⟨us', u, e⟩
    · -- todo is empty: the end
      subst e
      cases hvs
      refine iteF ?_
      refine ⟨_, rfl, sd, skv seen, rfl, sp _ _ esd, fun q hq => ?_⟩
      rw [skv_keys]
      have sq : Same (upd H2 p (.lst [])) (upd (upd H2 p (.lst [])) q (.lst ((natI seen).map V.int))) := same_upd hq
      refine ⟨q, natI seen, rfl, SqL.of upd_same, fun ns' z perm srt hz => ?_⟩
      have e := I.sorted o.wfH perm srt
      subst e
      refine k z _ (((sm.trans sp).trans sq).trans (same_upd hz)) (((sm.trans sp).trans sq).free hz) upd_same
    · -- one more
      have e : us = us' ++ [u] := by rw [e, List.concat_eq_append]
      subst e
      obtain ⟨todo', x, e, hvs', hx⟩ := pr_last hvs
      subst e
      have hne : (!((todo' ++ [x]).map toD).isEmpty) = true := by simp
      rw [hne]
      have hlen := hvs'.length
      rw [List.length_append, List.length_singleton] at htl
      refine iteT ⟨fun σ' H' => ∃ m', m' < m ∧ ∃ (us : List V) (todo : List Val) (seen : List Nat) (v4 : Option V), σ' = [some (.ref h), some (.ref a), some (.ref sd), some (.ref tl), v4] ∧ Same H H' ∧ H' sd = some (.dK (skv seen)) ∧ H' tl = some (.lst us) ∧
        VsAt H' us todo ∧ DInv (gH ths) xs seen todo ∧ mu (gH ths) ths.length seen todo = m' ∧ m' ≤ 50000, fun σ' H' z => z, ?_⟩
      refine ⟨_, rfl, .inl ⟨rfl, _, SqL.of (sp _ _ etl)⟩, tl, _, u, rfl, rfl, sp _ _ etl, by simp, ?_⟩
      have edl : (us' ++ [u]).dropLast = us' := List.dropLast_concat
      rw [edl]
      have hmem : ∀ y, y ∈ todo' ++ [x] ↔ y = x ∨ y ∈ todo' := fun y => by
        rw [List.mem_append, List.mem_singleton]
        exact ⟨fun z => z.elim .inr .inl, fun z => z.elim .inr .inl⟩
      have hll : (todo' ++ [x]).length = todo'.length + 1 := by rw [List.length_append, List.length_singleton]
      have ntl3 : Im (upd H2 p (.lst [])) (upd (upd H2 p (.lst [])) tl (.lst us')) := im_mut (sp _ _ etl) (fun z => z)
      have i3 : Im H2 (upd (upd H2 p (.lst [])) tl (.lst us')) := (im_same sp).trans ntl3
      have sm3 : Same H (upd (upd H2 p (.lst [])) tl (.lst us')) := same_over (sm.trans sp) ntlH
      have esd3 : (upd (upd H2 p (.lst [])) tl (.lst us')) sd = some (.dK (skv seen)) := by
        rw [upd_ne nst]
        exact sp _ _ esd
      have hx3 : VAt (upd (upd H2 p (.lst [])) tl (.lst us')) u x := hx.im i3
      have skip : (∀ k, x = .thing k → k ∈ seen) → ∃ m', m' < m ∧ ∃ (us : List V) (todo : List Val) (sn : List Nat) (v4' : Option V), ([some (.ref h), some (.ref a), some (.ref sd), some (.ref tl), some u] : St) = [some (.ref h), some (.ref a), some (.ref sd), some (.ref tl), v4'] ∧ Same H (upd (upd H2 p (.lst [])) tl (.lst us')) ∧
          (upd (upd H2 p (.lst [])) tl (.lst us')) sd = some (.dK (skv sn)) ∧ (upd (upd H2 p (.lst [])) tl (.lst us')) tl = some (.lst us) ∧ VsAt (upd (upd H2 p (.lst [])) tl (.lst us')) us todo ∧ DInv (gH ths) xs sn todo ∧ mu (gH ths) ths.length sn todo = m' ∧ m' ≤ 50000 := fun hs => by
        have hlt := mu_skip (g := gH ths) (n := ths.length) (seen := seen) hll
        exact ⟨mu (gH ths) ths.length seen todo', by omega, us', todo', seen, some u, rfl, sm3, esd3, upd_same, VsAt.im i3 hvs', I.skip hmem hs, rfl, by omega⟩
      refine ⟨_, rfl, _, rfl, ?_⟩
      cases x with
      | nil =>
        have eu : u = .non := hx
        subst eu
        exact skip (fun k z => nomatch z)
      | num n =>
        obtain ⟨q, rfl, hq⟩ := id hx3
        refine ⟨_, rfl, q, _, _, _, rfl, rfl, SqT.of hq, rfl, rfl, _, rfl, iteN (by decide +kernel) ?_⟩
        exact skip (fun k z => nomatch z)
      | thing n =>
        obtain ⟨q, rfl, hq⟩ := id hx3
        refine ⟨_, rfl, q, _, _, _, rfl, rfl, SqT.of hq, rfl, rfl, _, rfl, iteY rfl ?_⟩
        refine ⟨_, rfl, q, _, _, _, rfl, rfl, SqT.of hq, rfl, _, rfl, sd, _, rfl, DGet.k (k := Sum.inl (n : Int)) esd3, _, rfl, ?_⟩
        rw [skv_val]
        by_cases hn : n ∈ seen
        · rw [if_pos hn]
          exact skip (fun k z => by injection z with z; subst z; exact hn)
        · rw [if_neg hn]
          refine iteT ?_
          have hnl : n < ths.length := o.wfH.lt (I.tr n ((hmem _).mpr (.inl rfl)))
          obtain ⟨th, hth⟩ : ∃ th, ths[n]? = some th := ⟨ths[n], List.getElem?_eq_getElem hnl⟩
          have eg : gH ths n = holds th := gH_at hth
          have hsl := I.seen_len o.wfH
          have hon := o.n
          refine ⟨_, rfl, _, rfl, q, _, _, _, rfl, rfl, SqT.of hq, rfl, sd, _, rfl, DPut.k (k := Sum.inl (n : Int)) esd3 (by rw [skv_length]; exact small50k (by omega)), ?_⟩
          rw [skv_put hn]
          have nsdH : H sd = none := nsd
          generalize eH4 : upd (upd (upd H2 p (.lst [])) tl (.lst us')) sd (.dK (skv (seen ++ [n]))) = H4
          have i4 : Im (upd (upd H2 p (.lst [])) tl (.lst us')) H4 := by rw [← eH4]; exact im_mut esd3 (fun z => z)
          have sm4 : Same H H4 := by rw [← eH4]; exact same_over sm3 nsdH
          have etl4 : H4 tl = some (.lst us') := by rw [← eH4, upd_ne nst.symm, upd_same]
          have esd4 : H4 sd = some (.dK (skv (seen ++ [n]))) := by rw [← eH4, upd_same]
          have hq4 : H4 q = some (.tup [.str "thing", .int (n : Int)]) := i4 _ _ hq True.intro
          have hv4 : VsAt H4 us' todo' := VsAt.im (i3.trans i4) hvs'
          obtain ⟨⟨dx, e1⟩, is, e2, pp⟩ := hH.same sm4
          obtain ⟨i, hi, hit⟩ := pr_get pp hth
          have gd : DGet H4 d (kV (Sum.inl (n : Int))) (some (.ref i)) := by
            have g := DGet.k (k := Sum.inl (n : Int)) e2
            rw [dkv_val, hi] at g
            exact g
          have hts := o.sz n th hth
          have hhl := tsize_holds th
          have fin : ∀ (l : Addr) (us2 : List V) (H5 : Hp), Same H4 H5 → H4 l = none → H5 l = some (.lst us2) → VsAt H5 us2 (holds th) → rExtend (.ref tl) [.ref l] H5 (fun _ H' => ∃ m', m' < m ∧ ∃ (us : List V) (todo : List Val) (sn : List Nat) (v4' : Option V), ([some (.ref h), some (.ref a), some (.ref sd), some (.ref tl), some (.ref q)] : St) = [some (.ref h), some (.ref a), some (.ref sd), some (.ref tl), v4'] ∧ Same H H' ∧
              H' sd = some (.dK (skv sn)) ∧ H' tl = some (.lst us) ∧ VsAt H' us todo ∧ DInv (gH ths) xs sn todo ∧ mu (gH ths) ths.length sn todo = m' ∧ m' ≤ 50000) := fun l us2 H5 s5 n5 e5 v5 => by
            have h2l := v5.length
            refine ⟨tl, l, us', us2, rfl, rfl, s5 _ _ etl4, e5, Nat.le_of_lt (small50k (by omega)), ?_⟩
            have i6 : Im H5 (upd H5 tl (.lst (us' ++ us2))) := im_mut (s5 _ _ etl4) (fun z => z)
            have hlt := mu_visit (g := gH ths) (n := ths.length) (seen := seen) (new := todo' ++ holds th) hll hn hnl (by rw [List.length_append, eg])
            refine ⟨mu (gH ths) ths.length (seen ++ [n]) (todo' ++ holds th), by omega, us' ++ us2, todo' ++ holds th, seen ++ [n], some (.ref q), rfl, same_over (sm4.trans s5) ntlH, ?_, upd_same, ?_, ?_, rfl, by omega⟩
            · rw [upd_ne nst]
              exact s5 _ _ esd4
            · exact pr_append (VsAt.im ((im_same s5).trans i6) hv4) (VsAt.im i6 v5)
            · exact I.visit hmem hn fun y => by rw [List.mem_append, eg]
          refine ⟨_, rfl, .inl ⟨rfl, _, SqL.of etl4⟩, ?_⟩
          cases th with
          | box v =>
            obtain ⟨dy, fs, u, g1, g2, g3, g4, g5⟩ := id hit
            exact .inl (.inl ⟨_, rfl, h, C.heap, dx, _, _, rfl, e1, T.clH, T.nHt, hf_there _ _, _, rfl, q, _, _, _, rfl, rfl, SqT.of hq4, rfl, d, _, rfl, gd, i, dy, fs, rfl, g1, g3, i, v, rfl, hit, by omega, fin⟩)
          | maker t =>
            obtain ⟨D, dy, fs, qt, hD, g1, g2, g3, g4, g5⟩ := id hit
            rcases hD with rfl | rfl
            · exact .inl (.inr ⟨_, rfl, h, C.heap, dx, _, _, rfl, e1, T.clH, T.nHt, hf_there _ _, _, rfl, q, _, _, _, rfl, rfl, SqT.of hq4, rfl, d, _, rfl, gd, i, dy, fs, rfl, g1, g3, i, dy, qt, fs, t, rfl, g1, g4, g5, by omega, fin⟩)
            · exact .inr (.inl ⟨_, rfl, h, C.heap, dx, _, _, rfl, e1, T.clH, T.nHt, hf_there _ _, _, rfl, q, _, _, _, rfl, rfl, SqT.of hq4, rfl, d, _, rfl, gd, i, dy, fs, rfl, g1, g3, i, dy, qt, fs, t, rfl, g1, g4, g5, by omega, fin⟩)
          | wait z b t =>
            obtain ⟨dy, fs, qs, qb, qt, us2, g1, g2, g3, g4⟩ := id hit
            exact .inr (.inr ⟨_, rfl, h, C.heap, dx, _, _, rfl, e1, T.clH, T.nHt, hf_there _ _, _, rfl, q, _, _, _, rfl, rfl, SqT.of hq4, rfl, d, _, rfl, gd, i, dy, fs, rfl, g1, g3, i, z, b, t, rfl, hit, by omega, fin⟩)
end
end Wl

namespace Wl
open PySem L2
section
variable {P : Program} {w : World} {K : PySem.W.Frag} {mg : Str → Option Value} {base : Heap} {C : Cs}
def spDraw (K : PySem.W.Frag) : Sp := fun vs H Q _ => ∃ (a : Addr) (ns : List Int) (k : Int), vs = [.ref a, .int k] ∧ 0 ≤ k ∧ SqL K H a (ns.map V.int) ∧ ∀ n : Int, Q (.int n) H
theorem scDraw : FnScope ["_law_script", "_law_k"] ["_law_script", "_law_k"] (defScope sDraw) := ⟨rfl, rfl, rfl, by decide +kernel, rfl, by decide +kernel, by decide +kernel⟩
theorem ok_draw {f : Addr} {fd : FuncData} (F : Fun K "_law_draw" "_law_draw" sDraw f fd) (T : Txt K mg C) : FnOk P w K mg base CX0 1 f fd ["_law_script", "_law_k"] (spDraw K) := by
  refine F.ok scDraw (fun vs H Q E h => ?_) (fun cdv A outer s H vs Q E hr h => ?_)
  · obtain ⟨a, ns, n, rfl, _⟩ := h
    rfl
  · obtain ⟨a, ns, z, rfl, hz, hS, k⟩ := h
    obtain ⟨n, rfl⟩ : ∃ n : Nat, z = (n : Int) := ⟨z.toNat, by omega⟩
    refine ⟨_, pss_one (ps_ret (pe_ifExp (pt_cmpR op_gt (pe_callB call_len_seq (by rfl) T.len PySem.boot_len (pa_cons (pv 0) pa_nil)) (pv 1) (nomark _)) (pe_ix ix_list (pv 0) (pv 1) (fun _ _ => rfl)) pe_int)), ?_⟩
    refine ⟨_, rfl, a, _, rfl, .inl hS, _, rfl, _, _, rfl, rfl, _, rfl, ?_⟩
    refine ite2 (fun h => ?_) (fun h => ?_)
    · have h := of_decide_eq_true h
      rw [List.length_map] at h
      have h : n < ns.length := by omega
      refine ⟨_, rfl, _, rfl, a, _, _, .int ns[n], rfl, rfl, hS, at_of (j := n) rfl (by rw [List.getElem?_map, List.getElem?_eq_getElem h]; rfl), ?_⟩
      exact k _
    · exact k _
def spSpread : Sp := fun vs H Q _ => ∃ (c k : Int), vs = [.int c, .int k] ∧ 0 ≤ k ∧ k ≤ 1000 ∧ ∀ n : Int, Q (.int n) H
theorem scSpread : FnScope ["_law_cell", "_law_k"] ["_law_cell", "_law_k"] (defScope sSpread) := ⟨rfl, rfl, rfl, by decide +kernel, rfl, by decide +kernel, by decide +kernel⟩
theorem ok_spread {f : Addr} {fd : FuncData} (F : Fun K "_law_spread" "_law_spread" sSpread f fd) : FnOk P w K mg base CX0 1 f fd ["_law_cell", "_law_k"] spSpread := by
  refine F.ok scSpread (fun vs H Q E h => ?_) (fun cdv A outer s H vs Q E hr h => ?_)
  · obtain ⟨c, n, rfl, _⟩ := h
    rfl
  · obtain ⟨c, n, rfl, h0, h1, k⟩ := h
    refine ⟨_, pss_one (ps_ret (pe_op op_mod (pe_op op_mul (pe_op op_add (pv 0) pe_int) (pe_op op_add pe_int (pe_op op_mul (pe_op op_mul pe_int (pv 1)) (pv 1)))) pe_int)), ?_⟩
    have hb : 2 * n * n ≤ 2 * n * 1000 := Int.mul_le_mul_of_nonneg_left h1 (by omega)
    have hc : 0 ≤ 2 * n * n := Int.mul_nonneg (by omega) h0
    refine ⟨_, rfl, _, _, rfl, rfl, _, rfl, _, _, rfl, rfl, .inl ⟨by decide, by decide⟩, _, rfl, _, _, rfl, rfl, .inr ⟨by omega, by omega⟩, _, _, rfl, rfl, _, _, rfl, rfl, .inr ⟨by omega, by omega⟩, _, _, rfl, rfl, (by show (0 : Int) < 2147483647; decide), ?_⟩
    exact k _
def vOk (m : Nat) (x : Val) : Prop := ∀ k, x = .thing k → k < m
def spValue : Sp := fun vs H Q _ => ∃ (c : Int) (m : Nat), vs = [.int c, .int (m : Int)] ∧ 0 < m ∧ m ≤ 1000 ∧ ∀ (u : V) (x : Val) (H' : Hp), Same H H' → VAt H' u x → vOk m x → Q u H'
theorem scValue : FnScope ["_law_cell", "_law_many"] ["_law_cell", "_law_many"] (defScope sValue) := ⟨rfl, rfl, rfl, by decide +kernel, rfl, by decide +kernel, by decide +kernel⟩
theorem ok_value {f : Addr} {fd : FuncData} (F : Fun K "_law_value" "_law_value" sValue f fd) : FnOk P w K mg base CX0 1 f fd ["_law_cell", "_law_many"] spValue := by
  refine F.ok scValue (fun vs H Q E h => ?_) (fun cdv A outer s H vs Q E hr h => ?_)
  · obtain ⟨c, m, rfl, _⟩ := h
    rfl
  · obtain ⟨c, m, rfl, h0, h1, k⟩ := h
    refine ⟨_, pss_cons (ps_if (pt_cmpR op_lt (pe_op op_mod (pv 0) pe_int) pe_int (nomark _)) (pss_one (ps_ret (pe_tup (pa_cons pe_str (pa_cons (pe_op op_mod (pe_op op_fdiv (pv 0) pe_int) (pv 1)) pa_nil))))) pss_nil)
      (pss_cons (ps_if (pt_cmpR op_eq (pe_op op_mod (pv 0) pe_int) pe_int (nomark _)) (pss_one (ps_ret pe_non)) pss_nil)
      (pss_one (ps_ret (pe_tup (pa_cons pe_str (pa_cons (pe_op op_mod (pe_op op_fdiv (pv 0) pe_int) (pe_op op_mul pe_int (pv 1))) pa_nil)))))), ?_⟩
    refine ⟨_, rfl, _, _, rfl, rfl, (by show (0 : Int) < 5; decide), _, _, rfl, rfl, _, rfl, ?_⟩
    refine ite2 (fun _ => ?_) (fun _ => ?_)
    · refine ⟨_, rfl, _, _, rfl, rfl, ⟨by decide, by decide⟩, _, rfl, _, _, rfl, rfl, (by show (0 : Int) < (m : Int); omega), (by show 2 ≤ sizeLine; decide), fun p hp => ?_⟩
      have g0 : 0 ≤ c / 5 % (m : Int) := Int.emod_nonneg _ (by omega)
      have g1 : c / 5 % (m : Int) < (m : Int) := Int.emod_lt_of_pos _ (by omega)
      refine k _ (.thing (c / 5 % (m : Int)).toNat) _ (same_upd hp) ⟨p, rfl, ?_⟩ (fun j hj => ?_)
      · rw [upd_same, Int.toNat_of_nonneg g0]
      · injection hj with hj
        omega
    · refine ⟨_, rfl, _, _, rfl, rfl, (by show (0 : Int) < 5; decide), rfl, _, rfl, ?_⟩
      refine ite2 (fun _ => ?_) (fun _ => ?_)
      · exact k _ .nil _ (Same.refl _) rfl (fun j hj => nomatch hj)
      · refine ⟨_, rfl, _, _, rfl, rfl, ⟨by decide, by decide⟩, _, rfl, _, _, rfl, rfl, .inl ⟨by decide, by decide⟩, _, _, rfl, rfl, (by show (0 : Int) < 2 * (m : Int); omega), (by show 2 ≤ sizeLine; decide), fun p hp => ?_⟩
        exact k _ (.num (c / 5 % (2 * (m : Int)))) _ (same_upd hp) ⟨p, rfl, upd_same⟩ (fun j hj => nomatch hj)
def spBoxes : Sp := fun vs H Q _ => ∃ (c : Int) (m : Nat), vs = [.int c, .int (m : Int)] ∧ 0 < m ∧ m ≤ 1000 ∧ ∀ (p : Addr) (ks : List Nat) (H' : Hp), Same H H' → H' p = some (.tup (intsV ks)) → (∀ k ∈ ks, k < m) → ks.length ≤ 2 → Q (.ref p) H'
theorem scBoxes : FnScope ["_law_cell", "_law_many", "_law_k"] ["_law_cell", "_law_many"] (defScope sBoxes) := ⟨rfl, rfl, rfl, by decide +kernel, rfl, by decide +kernel, by decide +kernel⟩
theorem ok_boxes {f : Addr} {fd : FuncData} (F : Fun K "_law_boxes" "_law_boxes" sBoxes f fd) (T : Txt K mg C) : FnOk P w K mg base CX0 1 f fd ["_law_cell", "_law_many"] spBoxes := by
  refine F.ok scBoxes (fun vs H Q E h => ?_) (fun cdv A outer s H vs Q E hr h => ?_)
  · obtain ⟨c, m, rfl, _⟩ := h
    rfl
  · obtain ⟨c, m, rfl, h0, h1, k⟩ := h
    refine ⟨_, pss_one (ps_ret (pe_callTy call_tuple_of (by rfl) T.tuple bi_tuple (pa_cons
      (pe_lc (own := [("_law_k", 2)]) (g := gName 2) (tt := tYes) rfl scBoxes.nd (pi_range1 (by rfl) T.range (pa_cons (pe_op op_mod (pv 0) pe_int) pa_nil)) (blkOk_by (N := ["_law_cell", "_law_many", "_law_k"]) (sc := defScope sBoxes) (by decide +kernel))
        (fun _ _ _ _ _ => pg_name (i := 2) scBoxes.nd rfl (Or.inl rfl)) (fun _ _ _ _ _ => pts_nil)
        (fun _ _ _ _ _ => pe_op op_mod (pe_op op_fdiv (pe_op op_fdiv (pv 0) pe_int) (pe_op op_add pe_int (pe_op op_mul pe_int (pv 2)))) (pv 1))) pa_nil))), ?_⟩
    have b0 : 0 ≤ c % 3 := Int.emod_nonneg _ (by decide)
    have b1 : c % 3 < 3 := Int.emod_lt_of_pos _ (by decide)
    refine ⟨_, rfl, _, _, rfl, rfl, (by show (0 : Int) < 3; decide), c % 3, rfl, by omega, by omega, fun D hD => ?_⟩
    refine lc_range (lo := 0) (n := (c % 3).toNat) (fun i H' => ∃ ks : List Nat, Same H H' ∧ H' D = some (.lst (intsV ks)) ∧ (∀ j ∈ ks, j < m) ∧ ks.length = i) ⟨[], same_upd hD, upd_same, fun j hj => absurd hj (by simp), rfl⟩ ?_ ?_
    · rintro i H' hi ⟨ks, s1, hd, hk, hl⟩
      refine ⟨rfl, ?_⟩
      refine ⟨_, rfl, _, _, rfl, rfl, ⟨by decide, by decide⟩, _, rfl, _, _, rfl, rfl, .inl ⟨by decide, by decide⟩, _, _, rfl, rfl, _, _, rfl, rfl, ⟨by omega, by omega⟩, _, rfl, _, _, rfl, rfl, (by show (0 : Int) < (m : Int); omega), ?_⟩
      generalize c / 7 / (1 + 5 * (0 + (i : Int))) = z
      have g0 : 0 ≤ z % (m : Int) := Int.emod_nonneg _ (by omega)
      have g1 : z % (m : Int) < (m : Int) := Int.emod_lt_of_pos _ (by omega)
      refine ⟨_, hd, (by rw [intsV_length]; exact small1000 (by omega)), ks ++ [(z % (m : Int)).toNat], same_over s1 hD, ?_, ?_, by rw [List.length_append, List.length_singleton, hl]⟩
      · rw [upd_same, intsV_snoc, Int.toNat_of_nonneg g0]
      · intro j hj
        rcases List.mem_append.mp hj with hj | hj
        · exact hk j hj
        · rw [List.mem_singleton] at hj
          omega
    · rintro H' ⟨ks, s1, hd, hk, hl⟩
      refine ⟨D, _, rfl, .inl ⟨SqL.of hd, fun q hq => ?_⟩⟩
      exact k q ks _ (s1.trans (same_upd hq)) upd_same hk (by omega)
def tOk (m : Nat) (th : Thing) : Prop := (∀ k, Val.thing k ∈ lvals th → k < m) ∧ tsize th ≤ 20
def spThing : Sp := fun vs H Q _ => ∃ (c : Int) (m : Nat), vs = [.int c, .int (m : Int)] ∧ 0 < m ∧ m ≤ 1000 ∧ ∀ (p : Addr) (th : Thing) (H' : Hp), Same H H' → TAt H' p th → tOk m th → Q (.ref p) H'
abbrev nmThing : List Str := ["_law_cell", "_law_many", "_law_more", "_law_at", "_law_slots", "_law_k"]
theorem scThing : FnScope nmThing ["_law_cell", "_law_many"] (defScope sThing) := ⟨rfl, rfl, rfl, by decide +kernel, rfl, by decide +kernel, by decide +kernel⟩
theorem tOk_maker {m : Nat} {ks : List Nat} (h : ∀ k ∈ ks, k < m) (hl : ks.length ≤ 2) : tOk m (.maker ks) := by
  refine ⟨fun k hk => ?_, Nat.le_trans hl (by decide)⟩
  obtain ⟨j, hj, e⟩ := List.mem_map.mp (show Val.thing k ∈ ks.map Val.thing from hk)
  injection e with e
  subst e
  exact h j hj
theorem tOk_wait {m : Nat} {xs : List Val} {bs ts : List Nat} (h1 : ∀ x ∈ xs, vOk m x) (h2 : ∀ k ∈ bs, k < m) (h3 : ∀ k ∈ ts, k < m) (l1 : xs.length ≤ 3) (l2 : bs.length ≤ 2) (l3 : ts.length ≤ 2) : tOk m (.wait xs bs ts) := by
  refine ⟨fun k hk => ?_, ?_⟩
  · rcases List.mem_append.mp (show Val.thing k ∈ (xs ++ bs.map Val.thing) ++ ts.map Val.thing from hk) with hk | hk
    · rcases List.mem_append.mp hk with hk | hk
      · exact h1 _ hk k rfl
      · obtain ⟨j, hj, e⟩ := List.mem_map.mp hk
        injection e with e
        subst e
        exact h2 j hj
    · obtain ⟨j, hj, e⟩ := List.mem_map.mp hk
      injection e with e
      subst e
      exact h3 j hj
  · show xs.length + bs.length + ts.length ≤ 20
    omega
theorem ok_thing {f fs fv fb : Addr} {fd ds dv db : FuncData} (F : Fun K "_law_thing" "_law_thing" sThing f fd) (T : Txt K mg C) (S : Df P w K mg base 1 "_law_spread" fs ds ["_law_cell", "_law_k"] spSpread)
    (Va : Df P w K mg base 1 "_law_value" fv dv ["_law_cell", "_law_many"] spValue) (B : Df P w K mg base 1 "_law_boxes" fb db ["_law_cell", "_law_many"] spBoxes) : FnOk P w K mg base CX0 2 f fd ["_law_cell", "_law_many"] spThing := by
  refine F.ok scThing (fun vs H Q E h => ?_) (fun cdv A outer s H vs Q E hr h => ?_)
  · obtain ⟨c, m, rfl, _⟩ := h
    rfl
  · obtain ⟨c, m, rfl, h0, h1, k⟩ := h
    refine ⟨_, pss_cons (ps_set (i := 2) scThing.nd rfl (.inr rfl) (pe_call S.ok hr rfl S.mg S.kp S.b .nil pass0 (pa_cons (pv 0) (pa_cons pe_int pa_nil))))
      (pss_cons (ps_if (pt_cmpR op_lt (pe_op op_mod (pv 0) pe_int) pe_int (nomark _)) (pss_one (ps_ret (pe_tup (pa_cons pe_str (pa_cons (pe_call Va.ok hr rfl Va.mg Va.kp Va.b .nil pass0 (pa_cons (pv 2) (pa_cons (pv 1) pa_nil))) pa_nil))))) pss_nil)
      (pss_cons (ps_if (pt_cmpR op_eq (pe_op op_mod (pv 0) pe_int) pe_int (nomark _)) (pss_one (ps_ret (pe_tup (pa_cons pe_str (pa_cons (pe_op op_mod (pv 2) pe_int) (pa_cons (pe_call B.ok hr rfl B.mg B.kp B.b .nil pass0 (pa_cons (pe_op op_fdiv (pv 2) pe_int) (pa_cons (pv 1) pa_nil))) pa_nil)))))) pss_nil)
      (pss_cons (ps_if (PW.pt (pw_and (pt_cmpR op_eq (pe_op op_mod (pv 0) pe_int) pe_int (nomark _)) (pw_and1 (pt_cmpR op_eq (pe_op op_mod (pv 2) pe_int) pe_int (nomark _)))))
        (pss_cons (ps_set (i := 3) scThing.nd rfl (.inl rfl) (pe_ix ix_list (pe_lst (pa_cons pe_str (pa_cons pe_str (pa_cons pe_str pa_nil)))) (pe_op op_mod (pe_op op_fdiv (pv 2) pe_int) pe_int) (fun _ _ => rfl)))
        (pss_one (ps_ret (pe_tup (pa_cons pe_str (pa_cons (pe_op op_mod (pe_op op_fdiv (pv 2) pe_int) pe_int) (pa_cons (pv 3) (pa_cons (pe_tup pa_nil) (pa_cons (pe_tup pa_nil)
          (pa_cons (pe_call B.ok hr rfl B.mg B.kp B.b .nil pass0 (pa_cons (pe_op op_mul (pe_op op_fdiv (pv 2) pe_int) (pe_callTy call_int1 (by rfl) T.int bi_int (pa_cons (pe_cmpR op_eq (pv 3) pe_str (nomark _)) pa_nil))) (pa_cons (pv 1) pa_nil))) pa_nil)))))))))) pss_nil)
      (pss_cons (ps_if (pt_cmpR op_eq (pe_op op_mod (pv 0) pe_int) pe_int (nomark _))
        (pss_cons (ps_set (i := 4) scThing.nd rfl (.inl rfl) (pe_callTy call_tuple_of (by rfl) T.tuple bi_tuple (pa_cons
          (pe_lc (own := [("_law_k", 5)]) (g := gName 5) (tt := tYes) rfl scThing.nd (pi_range1 (by rfl) T.range (pa_cons (pe_op op_mod (pv 2) pe_int) pa_nil)) (blkOk_by (N := nmThing) (sc := defScope sThing) (by decide +kernel))
            (fun _ _ _ _ _ => pg_name (i := 5) scThing.nd rfl (Or.inl rfl)) (fun _ _ _ _ _ => pts_nil)
            (fun _ _ _ _ _ => pe_call Va.ok hr rfl Va.mg Va.kp Va.b .nil pass0 (pa_cons (pe_call S.ok hr rfl S.mg S.kp S.b .nil pass0 (pa_cons (pv 2) (pa_cons (pv 5) pa_nil))) (pa_cons (pv 1) pa_nil)))) pa_nil)))
        (pss_one (ps_ret (pe_tup (pa_cons pe_str (pa_cons (pe_op op_mod (pe_op op_fdiv (pv 2) pe_int) pe_int) (pa_cons pe_int (pa_cons (pv 4)
          (pa_cons (pe_call B.ok hr rfl B.mg B.kp B.b .nil pass0 (pa_cons (pe_op op_fdiv (pv 2) pe_int) (pa_cons (pv 1) pa_nil))) (pa_cons (pe_call B.ok hr rfl B.mg B.kp B.b .nil pass0 (pa_cons (pe_op op_fdiv (pv 2) pe_int) (pa_cons (pv 1) pa_nil))) pa_nil)))))))))) pss_nil)
      (pss_one (ps_ret (pe_tup (pa_cons pe_str (pa_cons (pe_op op_mod (pv 2) pe_int) (pa_cons (pe_call B.ok hr rfl B.mg B.kp B.b .nil pass0 (pa_cons (pe_op op_fdiv (pv 2) pe_int) (pa_cons (pv 1) pa_nil))) pa_nil)))))))))), ?_⟩
    refine ⟨_, rfl, c, 1, rfl, by decide, by decide, fun e => ?_⟩
    refine ⟨_, rfl, _, _, rfl, rfl, (by show (0 : Int) < 6; decide), _, _, rfl, rfl, _, rfl, ?_⟩
    refine ite2 (fun _ => ?_) (fun _ => ?_)
    · refine ⟨_, rfl, _, rfl, e, m, rfl, h0, h1, fun u x H1 s1 hv ho => ⟨(by show 2 ≤ sizeLine; decide), fun p hp => ?_⟩⟩
      refine k p (.box x) _ (s1.trans (same_upd hp)) ⟨u, upd_same, hv.im (im_same (same_upd hp))⟩ ⟨fun j hj => ?_, (by show 1 ≤ 20; decide)⟩
      have hj : Val.thing j = x := List.mem_singleton.mp hj
      exact ho j hj.symm
    refine ⟨_, rfl, _, _, rfl, rfl, (by show (0 : Int) < 6; decide), rfl, _, rfl, ?_⟩
    refine ite2 (fun _ => ?_) (fun _ => ?_)
    · refine ⟨_, rfl, _, _, rfl, rfl, (by show (0 : Int) < 300; decide), _, rfl, _, _, rfl, rfl, ⟨by decide, by decide⟩, _, rfl, _, m, rfl, h0, h1, fun q ks H1 s1 hq hk hl => ⟨(by show 3 ≤ sizeLine; decide), fun p hp => ?_⟩⟩
      exact k p (.maker ks) _ (s1.trans (same_upd hp)) ⟨_, _, q, .inl rfl, upd_same, same_upd hp _ _ hq⟩ (tOk_maker hk hl)
    by_cases h4 : c % 6 = 4
    · by_cases h3 : e % 4 = 3
      · refine ⟨_, rfl, _, _, rfl, rfl, (by show (0 : Int) < 6; decide), rfl, _, rfl, ?_⟩
        refine iteY (show V.int (c % 6) = V.int 4 by rw [h4]) ?_
        refine ⟨_, rfl, _, _, rfl, rfl, (by show (0 : Int) < 4; decide), rfl, _, rfl, ?_⟩
        refine iteY (show V.int (e % 4) = V.int 3 by rw [h3]) ?_
        have hz : ∃ z : Str, atI [V.str "open", V.str "open", V.str "ended"] (e / 4 % 3) = some (V.str z) := by
          have b0 : 0 ≤ e / 4 % 3 := Int.emod_nonneg _ (by decide)
          have b1 : e / 4 % 3 < 3 := Int.emod_lt_of_pos _ (by decide)
          rcases (by omega : e / 4 % 3 = 0 ∨ e / 4 % 3 = 1 ∨ e / 4 % 3 = 2) with b | b | b
          · rw [b]; exact ⟨_, rfl⟩
          · rw [b]; exact ⟨_, rfl⟩
          · rw [b]; exact ⟨_, rfl⟩
        obtain ⟨z, hz⟩ := hz
        refine ⟨(by show 3 ≤ sizeLine; decide), fun l hl => ?_⟩
        have sl := same_upd (o := .lst [V.str "open", V.str "open", V.str "ended"]) hl
        refine ⟨_, rfl, _, _, rfl, rfl, ⟨by decide, by decide⟩, _, _, rfl, rfl, (by show (0 : Int) < 3; decide), l, _, _, _, rfl, rfl, SqL.of upd_same, hz, ?_⟩
        refine ⟨_, rfl, _, _, rfl, rfl, ⟨by decide, by decide⟩, _, _, rfl, rfl, (by show (0 : Int) < 300; decide), _, rfl, Nat.zero_le _, fun q1 n1 => ⟨Nat.zero_le _, fun q2 n2 => ?_⟩⟩
        have t1 := same_upd (o := .tup []) n1
        have t2 := same_upd (o := .tup []) n2
        refine ⟨_, rfl, _, _, rfl, rfl, ⟨by decide, by decide⟩, _, rfl, rfl, .inr ⟨_, rfl, _, _, rfl, rfl, .inr (by split <;> exact ⟨by decide, by decide⟩), _, rfl, _, m, rfl, h0, h1, fun q ks H1 s1 hq hk hl => ⟨(by show 6 ≤ sizeLine; decide), fun p hp => ?_⟩⟩⟩
        have s2 := s1.trans (same_upd (o := .tup [.str "waiting", .int (e / 5 % 300), .str z, .ref q1, .ref q2, .ref q]) hp)
        exact k p (.wait [] [] ks) _ (((sl.trans t1).trans t2).trans s2) ⟨_, _, q1, q2, q, [], .inr ⟨z, rfl⟩, upd_same, s2 _ _ (t2 _ _ upd_same), .nil, s2 _ _ upd_same, same_upd hp _ _ hq⟩
          (tOk_wait (fun x hx => absurd hx (by simp)) (fun x hx => absurd hx (by simp)) hk (by decide) (by decide) hl)
      · refine ⟨_, rfl, _, _, rfl, rfl, (by show (0 : Int) < 6; decide), rfl, _, rfl, ?_⟩
        refine iteY (show V.int (c % 6) = V.int 4 by rw [h4]) ?_
        refine ⟨_, rfl, _, _, rfl, rfl, (by show (0 : Int) < 4; decide), rfl, _, rfl, ?_⟩
        refine iteN (by intro z; injection z with z; exact h3 z) ?_
        refine ⟨_, rfl, _, _, rfl, rfl, (by show (0 : Int) < 6; decide), rfl, _, rfl, ?_⟩
        refine iteY (show V.int (c % 6) = V.int 4 by rw [h4]) ?_
        have b0 : 0 ≤ e % 4 := Int.emod_nonneg _ (by decide)
        have b1 : e % 4 < 4 := Int.emod_lt_of_pos _ (by decide)
        refine ⟨_, rfl, _, _, rfl, rfl, (by show (0 : Int) < 4; decide), e % 4, rfl, by omega, by omega, fun D hD => ?_⟩
        refine lc_range (lo := 0) (n := (e % 4).toNat) (fun i H' => ∃ (us : List V) (xs : List Val), Same H H' ∧ H' D = some (.lst us) ∧ VsAt H' us xs ∧ (∀ x ∈ xs, vOk m x) ∧ xs.length = i) ⟨[], [], same_upd hD, upd_same, .nil, fun x hx => absurd hx (by simp), rfl⟩ ?_ ?_
        · rintro i H' hi ⟨us, xs, s1, hd, hv, ho, hl⟩
          refine ⟨rfl, ?_⟩
          refine ⟨_, rfl, _, rfl, e, 0 + (i : Int), rfl, by omega, by omega, fun e2 => ⟨_, rfl, e2, m, rfl, h0, h1, fun u x H1 s2 hu hx => ?_⟩⟩
          have h2l := hv.length
          have i2 : Im H1 (upd H1 D (.lst (us ++ [u]))) := im_mut (s2 _ _ hd) (fun z => z)
          refine ⟨us, s2 _ _ hd, small1000 (by omega), us ++ [u], xs ++ [x], same_over (s1.trans s2) hD, upd_same, ?_, ?_, by rw [List.length_append, List.length_singleton, hl]⟩
          · exact Paired.snoc (VsAt.im ((im_same s2).trans i2) hv) (hu.im i2)
          · intro y hy
            rcases List.mem_append.mp hy with hy | hy
            · exact ho y hy
            · rw [List.mem_singleton] at hy
              subst hy
              exact hx
        · rintro H' ⟨us, xs, s1, hd, hv, ho, hl⟩
          refine ⟨D, us, rfl, .inl ⟨SqL.of hd, fun q1 n1 => ?_⟩⟩
          have t1 := same_upd (o := .tup us) n1
          refine ⟨_, rfl, _, _, rfl, rfl, ⟨by decide, by decide⟩, _, _, rfl, rfl, (by show (0 : Int) < 300; decide), _, rfl, ?_⟩
          refine ⟨_, rfl, _, _, rfl, rfl, ⟨by decide, by decide⟩, _, rfl, _, m, rfl, h0, h1, fun q2 bs H2 s2 hq2 hk2 hl2 => ?_⟩
          refine ⟨_, rfl, _, _, rfl, rfl, ⟨by decide, by decide⟩, _, rfl, _, m, rfl, h0, h1, fun q3 ts H3 s3 hq3 hk3 hl3 => ?_⟩
          refine ⟨(by show 6 ≤ sizeLine; decide), fun p hp => ?_⟩
          have s4 := s3.trans (same_upd (o := .tup [.str "waiting", .int (e / 5 % 300), .int 7, .ref q1, .ref q2, .ref q3]) hp)
          have s5 := s2.trans s4
          exact k p (.wait xs bs ts) _ ((s1.trans t1).trans s5) ⟨_, _, q1, q2, q3, us, .inl ⟨7, rfl⟩, upd_same, s5 _ _ upd_same, VsAt.im (im_same (t1.trans s5)) hv, s4 _ _ hq2, same_upd hp _ _ hq3⟩
            (tOk_wait ho hk2 hk3 (by omega) hl2 hl3)
    · refine ⟨_, rfl, _, _, rfl, rfl, (by show (0 : Int) < 6; decide), rfl, _, rfl, ?_⟩
      refine iteN (by intro z; injection z with z; exact h4 z) ?_
      refine ⟨_, rfl, _, _, rfl, rfl, (by show (0 : Int) < 6; decide), rfl, _, rfl, ?_⟩
      refine iteN (by intro z; injection z with z; exact h4 z) ?_
      refine ⟨_, rfl, _, _, rfl, rfl, (by show (0 : Int) < 300; decide), _, rfl, _, _, rfl, rfl, ⟨by decide, by decide⟩, _, rfl, _, m, rfl, h0, h1, fun q ks H1 s1 hq hk hl => ⟨(by show 3 ≤ sizeLine; decide), fun p hp => ?_⟩⟩
      exact k p (.maker ks) _ (s1.trans (same_upd hp)) ⟨_, _, q, .inr rfl, upd_same, same_upd hp _ _ hq⟩ (tOk_maker hk hl)
end
end Wl

namespace Wl
open PySem L2
/-! ### the values in a told thing, as the law reads them -/
/-- an item of a part: a number of a thing, or a value -/
def PAt (H : Hp) (u : V) (x : Val) : Prop := (∃ k : Nat, u = .int (k : Int) ∧ x = .thing k) ∨ VAt H u x
/-- a part: no tuple, or a tuple of items -/
def GAt (H : Hp) (u : V) (xs : List Val) : Prop := (atOk u ∧ xs = []) ∨ ∃ q us, u = .ref q ∧ H q = some (.tup us) ∧ Paired (PAt H) us xs
theorem PAt.im {H H' : Hp} {u : V} {x : Val} (i : Im H H') (h : PAt H u x) : PAt H' u x := h.elim .inl fun h => .inr (h.im i)
theorem GAt.im {H H' : Hp} {u : V} {xs : List Val} (i : Im H H') (h : GAt H u xs) : GAt H' u xs := by
  rcases h with h | ⟨q, us, e, h1, h2⟩
  · exact .inl h
  · exact .inr ⟨q, us, e, i _ _ h1 True.intro, Paired.mono (fun _ _ z => z.im i) h2⟩
theorem pat_vals {H : Hp} {us : List V} {xs : List Val} (h : VsAt H us xs) : Paired (PAt H) us xs := Paired.mono (fun _ _ z => .inr z) h
theorem pat_ints {H : Hp} : ∀ ks : List Nat, Paired (PAt H) (intsV ks) (ks.map Val.thing)
  | [] => .nil
  | k :: ks => .cons (.inl ⟨k, rfl, rfl⟩) (pat_ints ks)
theorem inV_ints (k : Nat) : ∀ l : List Nat, inV (.int (k : Int)) (intsV l) = decide (k ∈ l)
  | [] => by simp [inV, intsV, natI]
  | a :: r => by
    have ih := inV_ints k r
    show (eqV (.int (a : Int)) (.int (k : Int)) || inV (.int (k : Int)) (intsV r)) = decide (k ∈ a :: r)
    rw [ih]
    show (((a : Int) == (k : Int)) || decide (k ∈ r)) = _
    by_cases e : a = k
    · subst e
      simp
    · have e1 : ((a : Int) == (k : Int)) = false := by
        rw [beq_eq_false_iff_ne]
        omega
      have e2 : k ≠ a := fun z => e z.symm
      rw [e1]
      simp [e2]
theorem flat_ints : ∀ l : List Nat, (intsV l).all flatV = true
  | [] => rfl
  | a :: r => by
    show (true && (intsV r).all flatV) = true
    rw [flat_ints r]
    rfl
theorem sx0 (n d : Nat) : HT.sIx n d (some 2) = min 2 n := HT.sIx_nat n d 2
theorem cut_3 (a b c : V) : cutV [a, b, c] (some 2) none = [c] := by
  unfold cutV
  rw [sx0, HT.sIx_none]
  rfl
theorem cut_6 (a b c d e f : V) : cutV [a, b, c, d, e, f] (some 2) none = [c, d, e, f] := by
  unfold cutV
  rw [sx0, HT.sIx_none]
  rfl
section
variable {P : Program} {w : World} {K : PySem.W.Frag} {mg : Str → Option Value} {base : Heap} {C : Cs}
def spValues : Sp := fun vs H Q _ => ∃ (a : Addr) (th : Thing), vs = [.ref a] ∧ TAt H a th ∧ tsize th ≤ 1000 ∧ ∀ (l : Addr) (us : List V) (H' : Hp), Same H H' → H l = none → H' l = some (.lst us) → VsAt H' us (lvals th) → Q (.ref l) H'
abbrev nmValues : List Str := ["_law_thing_here", "_law_found", "_law_part", "_law_one"]
theorem scValues : FnScope nmValues ["_law_thing_here"] (defScope sValues) := ⟨rfl, rfl, rfl, by decide +kernel, rfl, by decide +kernel, by decide +kernel⟩
theorem ok_values {f : Addr} {fd : FuncData} (F : Fun K "_law_values" "_law_values" sValues f fd) (T : Txt K mg C) : FnOk P w K mg base CX0 1 f fd ["_law_thing_here"] spValues := by
  refine F.ok scValues (fun vs H Q E h => ?_) (fun cdv A outer s H vs Q E hr h => ?_)
  · obtain ⟨a, th, rfl, _⟩ := h
    rfl
  · obtain ⟨a, th, rfl, hT, hz, k⟩ := h
    refine ⟨_, pss_cons (ps_if (pt_cmpR op_eq (pe_ix ix_tup (pv 0) pe_int (fun _ _ => rfl)) pe_str (nomark _)) (pss_one (ps_ret (pe_lst (pa_cons (pe_ix ix_tup (pv 0) pe_int (fun _ _ => rfl)) pa_nil)))) pss_nil)
      (pss_cons (ps_set (i := 1) scValues.nd rfl (.inl rfl) (pe_lst pa_nil))
      (pss_cons (ps_for PassesOwn.never rfl (pi_tup (pe_slice sl_tup (pv 0) (po_some pe_int) po_none)) (pg_name (i := 2) scValues.nd rfl (.inl rfl))
        (pss_one (ps_if (pt_val (pe_callB call_isi (by rfl) T.isinstance bi_isinstance (pa_cons (pv 2) (pa_cons (pe_bltn (v := .ty "tuple") (by rfl) T.tuple bi_tuple rfl) pa_nil))))
          (pss_one (ps_for PassesOwn.never rfl (pi_tup (pv 2)) (pg_name (i := 3) scValues.nd rfl (.inl rfl))
            (pss_one (ps_expr (pe_bm PySem.F.plainAttrs_list PySem.F.slot_list_append PySem.F.type_list_append mt_append (pv 1) (pa_cons
              (pe_ifExp (pt_val (pe_callB call_isi (by rfl) T.isinstance bi_isinstance (pa_cons (pv 3) (pa_cons (pe_bltn (v := .ty "int") (by rfl) T.int bi_int rfl) pa_nil)))) (pe_tup (pa_cons pe_str (pa_cons (pv 3) pa_nil))) (pv 3)) pa_nil))))))
          pss_nil)))
      (pss_one (ps_ret (pv 1))))), ?_⟩
    have main : ∀ (parts : List V) (xss : List (List Val)) (H0 : Hp) (l pt : Addr), lvals th = xss.flatten → H l = none → H pt = none → pt ≠ l → Same H H0 → H0 l = some (.lst []) → H0 pt = some (.tup parts) → Paired (GAt H) parts xss →
        ∃ W : Nat → Nat → St → Hp → Prop, (∃ m, W 0 m [some (.ref a), some (.ref l), none, none] H0) ∧ ∀ i m σ H, W i m σ H → ((Itt K pt).stop i H ∧ (tRet (tVar 1)) { nx := fun _ H' => Q .non H', rt := Q } σ H) ∨ ((Itt K pt).go i H ∧ ∃ N : St → Hp → Prop, (∀ σ' H', N σ' H' → ∃ m', m' < m ∧ W (i + 1) m' σ' H') ∧
          ∀ x H', (Itt K pt).yld i H x H' → gName 2 x σ H' fun σ2 H2 => (tIfS (tB (tCB (rIsi K) (tCons (tVar 2) (tCons (tC (.ty "tuple")) tNil))))
            (tFor (iTup K (tVar 2)) (gName 3) (tDrop (tBM K "list" rAppend (tVar 1) (tCons (tIf (tB (tCB (rIsi K) (tCons (tVar 3) (tCons (tC (.ty "int")) tNil)))) (tTup (tCons (tC (.str "thing")) (tCons (tVar 3) tNil))) (tVar 3)) tNil))))
            tNext) { nx := N, rt := Q, bk := (tRet (tVar 1)) { nx := fun _ H' => Q .non H', rt := Q }, ct := N } σ2 H2) := by
      intro parts xss H0 l pt el nl npt ne s0 e0 ept pg
      have htot : (xss.flatten).length ≤ 1000 := by
        rw [← el, tsize_lvals]
        exact hz
      refine for_tup (K := K) (a := pt) (xs := parts) (D := { nx := (tRet (tVar 1)) { nx := fun _ H' => Q .non H', rt := Q }, rt := Q }) (fun i σ H' => ∃ (us : List V) (v2 v3 : Option V), σ = [some (.ref a), some (.ref l), v2, v3] ∧ Same H H' ∧ H' pt = some (.tup parts) ∧ H' l = some (.lst us) ∧ VsAt H' us ((xss.take i).flatten))
        ⟨[], none, none, rfl, s0, ept, e0, .nil⟩ (fun i σ H' _ ⟨_, _, _, _, _, e, _⟩ => SqT.of e) ?_ ?_
      · rintro i x σ H' hx ⟨us, v2, v3, rfl, sm, e1, e2, hv⟩
        obtain ⟨xs, hxs, hg⟩ := pr_getL pg hx
        have hgH : GAt H' x xs := hg.im (im_same sm)
        have hlt : i < xss.length := (List.getElem?_eq_some_iff.mp hxs).1
        have efl : (xss.take (i + 1)).flatten = (xss.take i).flatten ++ xs := by
          rw [List.take_add_one, hxs, List.flatten_append]
          simp
        have hle : ((xss.take i).flatten).length + xs.length ≤ 1000 := by
          have h1 : ((xss.take (i + 1)).flatten ++ (xss.drop (i + 1)).flatten).length = xss.flatten.length := by rw [← List.flatten_append, List.take_append_drop]
          rw [List.length_append, efl, List.length_append] at h1
          omega
        rcases hgH with ⟨ha, rfl⟩ | ⟨q, ws, rfl, hq, hp⟩
        · rcases ha with ⟨n, rfl⟩ | ⟨z, rfl⟩
          · refine ⟨_, rfl, .int n, .ty "tuple", .type "int", .type "tuple", false, rfl, .ty _, .base (.int _), kit_ty (by decide +kernel), _, rfl, ?_⟩
            refine iteF ?_
            exact ⟨us, _, _, rfl, sm, e1, e2, by rw [efl, List.append_nil]; exact hv⟩
          · refine ⟨_, rfl, .str z, .ty "tuple", .type "str", .type "tuple", false, rfl, .ty _, .base (.str _), kit_ty (by decide +kernel), _, rfl, ?_⟩
            refine iteF ?_
            exact ⟨us, _, _, rfl, sm, e1, e2, by rw [efl, List.append_nil]; exact hv⟩
        · refine ⟨_, rfl, .ref q, .ty "tuple", .type "tuple", .type "tuple", true, rfl, .ty _, .base (.tup hq), kit_ty (by decide +kernel), _, rfl, ?_⟩
          refine iteT ?_
          have hqH : ∀ H2, Same H H2 → ∃ us2, H2 q = some (.tup us2) := fun H2 s2 => by
            rcases hg with ⟨z, _⟩ | ⟨q', us', e, h1, _⟩
            · rcases z with ⟨_, z⟩ | ⟨_, z⟩ <;> cases z
            · cases e
              exact ⟨us', s2 _ _ h1⟩
          obtain ⟨ws0, hq0, hp0⟩ : ∃ ws0, H q = some (.tup ws0) ∧ Paired (PAt H) ws0 xs := by
            rcases hg with ⟨z, _⟩ | ⟨q', us', e, h1, h2⟩
            · rcases z with ⟨_, z⟩ | ⟨_, z⟩ <;> cases z
            · cases e
              exact ⟨us', h1, h2⟩
          refine ⟨_, rfl, q, rfl, ⟨ws, SqT.of hq⟩, for_tup (K := K) (a := q) (xs := ws0) (fun j σ H2 => ∃ (us : List V) (v3 : Option V), σ = [some (.ref a), some (.ref l), some (.ref q), v3] ∧ Same H H2 ∧ H2 pt = some (.tup parts) ∧ H2 l = some (.lst us) ∧ VsAt H2 us ((xss.take i).flatten ++ xs.take j))
            ⟨us, _, rfl, sm, e1, e2, by rw [List.take_zero, List.append_nil]; exact hv⟩ (fun j σ H2 _ ⟨_, _, _, s2, _⟩ => SqT.of (s2 _ _ hq0)) ?_ ?_⟩
          · rintro j u σ H2 hu ⟨us2, v3', rfl, s2, f1, f2, hv2⟩
            obtain ⟨x, hx2, hux⟩ := pr_getL hp0 hu
            have hjl : j < xs.length := (List.getElem?_eq_some_iff.mp hx2).1
            have etk : xs.take (j + 1) = xs.take j ++ [x] := by
              rw [List.take_add_one, hx2]
              rfl
            have hl2 := hv2.length
            rw [List.length_append, List.length_take] at hl2
            refine ⟨_, rfl, .inl ⟨rfl, _, SqL.of f2⟩, ?_⟩
            rcases hux with ⟨n, rfl, rfl⟩ | hux
            · refine ⟨_, rfl, .int (n : Int), .ty "int", .type "int", .type "int", true, rfl, .ty _, .base (.int _), kit_ty (by decide +kernel), _, rfl, ?_⟩
              refine iteT ⟨_, rfl, (by show 2 ≤ sizeLine; decide), fun p hp => ?_⟩
              have nlp : l ≠ p := ne_of_none f2 hp
              have nptp : pt ≠ p := ne_of_none f1 hp
              have e3 : (upd H2 p (.tup [.str "thing", .int (n : Int)])) l = some (.lst us2) := by rw [upd_ne nlp]; exact f2
              have i1 := im_same (same_upd (o := .tup [.str "thing", .int (n : Int)]) hp)
              have i2 : Im (upd H2 p (.tup [.str "thing", .int (n : Int)])) (upd (upd H2 p (.tup [.str "thing", .int (n : Int)])) l (.lst (us2 ++ [.ref p]))) := im_mut e3 (fun z => z)
              refine ⟨l, us2, _, rfl, rfl, e3, small1000 (by omega), us2 ++ [.ref p], _, rfl, same_over (s2.trans (same_upd hp)) nl, ?_, upd_same, ?_⟩
              · rw [upd_ne ne, upd_ne nptp]
                exact f1
              · rw [etk, ← List.append_assoc]
                exact Paired.snoc (VsAt.im (i1.trans i2) hv2) ⟨p, rfl, i2 _ _ upd_same True.intro⟩
            · have push : VAt H2 u x → rAppend (.ref l) [u] H2 (fun _ H' => ∃ (us3 : List V) (v4 : Option V), ([some (.ref a), some (.ref l), some (.ref q), some u] : St) = [some (.ref a), some (.ref l), some (.ref q), v4] ∧ Same H H' ∧ H' pt = some (.tup parts) ∧ H' l = some (.lst us3) ∧ VsAt H' us3 ((xss.take i).flatten ++ xs.take (j + 1))) := fun h2 => by
                have i2 : Im H2 (upd H2 l (.lst (us2 ++ [u]))) := im_mut f2 (fun z => z)
                refine ⟨l, us2, u, rfl, rfl, f2, small1000 (by omega), us2 ++ [u], _, rfl, same_over s2 nl, ?_, upd_same, ?_⟩
                · rw [upd_ne ne]
                  exact f1
                · rw [etk, ← List.append_assoc]
                  exact Paired.snoc (VsAt.im i2 hv2) (h2.im i2)
              have hux2 := hux.im (im_same s2)
              cases x with
              | nil =>
                have eu : u = .non := hux
                subst eu
                refine ⟨_, rfl, .non, .ty "int", .type "NoneType", .type "int", false, rfl, .ty _, .base .non, kit_ty (by decide +kernel), _, rfl, ?_⟩
                exact iteF ⟨_, rfl, push hux2⟩
              | thing n =>
                obtain ⟨p, rfl, hp⟩ := id hux2
                refine ⟨_, rfl, .ref p, .ty "int", .type "tuple", .type "int", false, rfl, .ty _, .base (.tup hp), kit_ty (by decide +kernel), _, rfl, ?_⟩
                exact iteF ⟨_, rfl, push hux2⟩
              | num n =>
                obtain ⟨p, rfl, hp⟩ := id hux2
                refine ⟨_, rfl, .ref p, .ty "int", .type "tuple", .type "int", false, rfl, .ty _, .base (.tup hp), kit_ty (by decide +kernel), _, rfl, ?_⟩
                exact iteF ⟨_, rfl, push hux2⟩
          · rintro σ H2 ⟨us2, v3', rfl, s2, f1, f2, hv2⟩
            rw [hp0.length, List.take_of_length_le (Nat.le_refl _), ← efl] at hv2
            exact ⟨us2, _, _, rfl, s2, f1, f2, hv2⟩
      · rintro σ H' ⟨us, v2, v3, rfl, sm, e1, e2, hv⟩
        rw [pg.length, List.take_of_length_le (Nat.le_refl _), ← el] at hv
        exact ⟨_, rfl, k l us H' sm nl e2 hv⟩
    cases th with
    | box v =>
      obtain ⟨u, h, hv⟩ := hT
      refine ⟨_, rfl, a, _, _, _, rfl, rfl, SqT.of h, rfl, rfl, _, rfl, iteY rfl ?_⟩
      refine ⟨_, rfl, a, _, _, _, rfl, rfl, SqT.of h, rfl, (by show 1 ≤ sizeLine; decide), fun p hp => ?_⟩
      exact k p [u] _ (same_upd hp) hp upd_same (.cons (hv.im (im_same (same_upd hp))) .nil)
    | maker t =>
      obtain ⟨z, n, q, hz', h, hq⟩ := hT
      have hne : ¬ V.str z = V.str "box" := by
        rcases hz' with rfl | rfl
        · decide +kernel
        · decide +kernel
      refine ⟨_, rfl, a, _, _, _, rfl, rfl, SqT.of h, rfl, rfl, _, rfl, iteN hne ?_⟩
      refine ⟨Nat.zero_le _, fun l hl => ?_⟩
      have s1 := same_upd (o := .lst []) hl
      refine ⟨_, rfl, _, rfl, a, _, rfl, SqT.of (s1 _ _ h), ?_, fun pt hpt => ?_⟩
      · rw [sx0, HT.sIx_none]
        intro z
        exact absurd (show (2 : Nat) = 0 from z.1) (by decide)
      have s2 := same_upd (o := .tup (cutV [.str z, .int n, .ref q] (some 2) none)) hpt
      refine ⟨pt, rfl, ⟨_, SqT.of upd_same⟩, ?_⟩
      refine main [.ref q] [t.map Val.thing] _ l pt (by simp [lvals]) hl (s1.free hpt) (fun e => by rw [e, upd_same] at hpt; cases hpt) (s1.trans s2) (s2 _ _ upd_same) (by rw [upd_same, cut_3]) (.cons (.inr ⟨q, _, rfl, hq, pat_ints t⟩) .nil)
    | wait zs b t =>
      obtain ⟨n, at_, qs, qb, qt, us, ha, h, m1, m2, m3, m4⟩ := hT
      refine ⟨_, rfl, a, _, _, _, rfl, rfl, SqT.of h, rfl, rfl, _, rfl, iteN (by decide +kernel) ?_⟩
      refine ⟨Nat.zero_le _, fun l hl => ?_⟩
      have s1 := same_upd (o := .lst []) hl
      refine ⟨_, rfl, _, rfl, a, _, rfl, SqT.of (s1 _ _ h), ?_, fun pt hpt => ?_⟩
      · rw [sx0, HT.sIx_none]
        intro z
        exact absurd (show (2 : Nat) = 0 from z.1) (by decide)
      have s2 := same_upd (o := .tup (cutV [.str "waiting", .int n, at_, .ref qs, .ref qb, .ref qt] (some 2) none)) hpt
      refine ⟨pt, rfl, ⟨_, SqT.of upd_same⟩, ?_⟩
      refine main [at_, .ref qs, .ref qb, .ref qt] [[], zs, b.map Val.thing, t.map Val.thing] _ l pt (by simp [lvals]) hl (s1.free hpt) (fun e => by rw [e, upd_same] at hpt; cases hpt) (s1.trans s2) (s2 _ _ upd_same) (by rw [upd_same, cut_6])
        (.cons (.inl ⟨ha, rfl⟩) (.cons (.inr ⟨qs, _, rfl, m1, pat_vals m2⟩) (.cons (.inr ⟨qb, _, rfl, m3, pat_ints b⟩) (.cons (.inr ⟨qt, _, rfl, m4, pat_ints t⟩) .nil))))
end
end Wl

namespace Wl
open PySem L2
abbrev refsV (ps : List Addr) : List V := ps.map V.ref
theorem refsV_at {ps : List Addr} {k : Nat} {p : Addr} (h : ps[k]? = some p) : atI (refsV ps) (k : Int) = some (.ref p) :=
  at_of rfl (by rw [List.getElem?_map, h]; rfl)
/-- the law's list of things -/
def ThingsAt (H : Hp) (L : Addr) (ths : List Thing) : Prop := ∃ ps, H L = some (.lst (refsV ps)) ∧ Paired (TAt H) ps ths
theorem ThingsAt.mono {H H' : Hp} {L : Addr} {ths : List Thing} (x : ThingsAt H L ths) (i : Im H H') (h1 : ∀ o, H L = some o → H' L = some o) : ThingsAt H' L ths := by
  obtain ⟨ps, e, p⟩ := x
  exact ⟨ps, h1 _ e, Paired.mono (fun _ _ q => q.im i) p⟩
theorem ThingsAt.same {H H' : Hp} {L : Addr} {ths : List Thing} (x : ThingsAt H L ths) (s : Same H H') : ThingsAt H' L ths := x.mono (im_same s) (s L)
theorem dueL_eq (ths : List Thing) (xs : List Val) : dueL ths xs = (natI (reachL (gL ths) xs ths.length)).map V.int := by
  unfold dueL intsV
  rw [reachL_congr (gHL ths)]
section
variable {P : Program} {w : World} {K : PySem.W.Frag} {mg : Str → Option Value} {base : Heap} {C : Cs}
def spLReached : Sp := fun vs H Q _ => ∃ (L a : Addr) (ths : List Thing) (us : List V) (xs : List Val), vs = [.ref L, .ref a] ∧ ThingsAt H L ths ∧ H a = some (.lst us) ∧ VsAt H us xs ∧ Ok ths xs ∧
  ∀ (p : Addr) (H' : Hp), Same H H' → H p = none → H' p = some (.lst (dueL ths xs)) → Q (.ref p) H'
abbrev nmLReached : List Str := ["_law_things", "_law_values_here", "_law_found", "_law_todo", "_law_value_here"]
theorem scLReached : FnScope nmLReached ["_law_things", "_law_values_here"] (defScope sLReached) := ⟨rfl, rfl, rfl, by decide +kernel, rfl, by decide +kernel, by decide +kernel⟩
theorem ok_lreached {f fv : Addr} {fd dv : FuncData} (F : Fun K "_law_reached" "_law_reached" sLReached f fd) (T : Txt K mg C) (Vs : Df P w K mg base 1 "_law_values" fv dv ["_law_thing_here"] spValues) : FnOk P w K mg base CX0 2 f fd ["_law_things", "_law_values_here"] spLReached := by
  refine F.ok scLReached (fun vs H Q E h => ?_) (fun cdv A outer s H vs Q E hr h => ?_)
  · obtain ⟨L, a, ths, us, xs, rfl, _⟩ := h
    rfl
  · obtain ⟨L, a, ths, us0, xs, rfl, hL, ha, hv, o, k⟩ := h
    have hu := hu_of hr
    refine ⟨_, pss_cons (ps_set (i := 2) scLReached.nd rfl (.inl rfl) (pe_lst pa_nil))
      (pss_cons (ps_set (i := 3) scLReached.nd rfl (.inl rfl) (pe_callTy call_list_of (by rfl) T.list bi_list (pa_cons (pv 1) pa_nil)))
      (pss_cons (ps_while PassesOwn.never (pt_cmpR (op_neD hr.units) (pv 3) (pe_lst pa_nil) (nomark _))
        (pss_cons (ps_set (i := 4) scLReached.nd rfl (.inl rfl) (pe_bm PySem.F.plainAttrs_list PySem.F.slot_list_pop PySem.F.type_list_pop mt_popAt (pv 3) (pa_cons pe_int pa_nil)))
        (pss_one (ps_if (PW.pt (pw_and (pt_cmp (pc_notN (pv 4))) (pw_and (pt_cmpR op_eq (pe_ix ix_tup (pv 4) pe_int (fun _ _ => rfl)) pe_str (nomark _)) (pw_and1 (pt_cmpR op_notIn_seq (pe_ix ix_tup (pv 4) pe_int (fun _ _ => rfl)) (pv 2) (by rfl))))))
          (pss_cons (ps_expr (pe_bm PySem.F.plainAttrs_list PySem.F.slot_list_append PySem.F.type_list_append mt_append (pv 2) (pa_cons (pe_ix ix_tup (pv 4) pe_int (fun _ _ => rfl)) pa_nil)))
          (pss_one (ps_set (i := 3) scLReached.nd rfl (.inl rfl) (pe_op op_cat (pv 3) (pe_call Vs.ok hr rfl Vs.mg Vs.kp Vs.b .nil pass0 (pa_cons (pe_ix ix_list (pv 0) (pe_ix ix_tup (pv 4) pe_int (fun _ _ => rfl)) (fun _ _ => rfl)) pa_nil))))))
          pss_nil))))
      (pss_one (ps_ret (pe_callB cr_sortedI (by rfl) T.sorted bi_sorted (pa_cons (pv 2) pa_nil)))))), ?_⟩
    refine ⟨Nat.zero_le _, fun sd nsd => ?_⟩
    have s1 : Same H (upd H sd (.lst [])) := same_upd nsd
    refine ⟨_, rfl, a, us0, rfl, .inl (SqL.of (s1 _ _ ha)), fun tl0 ntl0 => ?_⟩
    have s2 : Same (upd H sd (.lst [])) (upd (upd H sd (.lst [])) tl0 (.lst us0)) := same_upd ntl0
    have ntlH0 : H tl0 = none := s1.free ntl0
    have nst0 : sd ≠ tl0 := ne_of_none upd_same ntl0
    refine ⟨fun m σ H2 => ∃ (tl : Addr) (us : List V) (todo : List Val) (seen : List Nat) (v4 : Option V), σ = [some (.ref L), some (.ref a), some (.ref sd), some (.ref tl), v4] ∧ H tl = none ∧ sd ≠ tl ∧ Same H H2 ∧ H2 sd = some (.lst (intsV seen)) ∧ H2 tl = some (.lst us) ∧
        VsAt H2 us todo ∧ DInv (gL ths) xs seen todo ∧ mu (gL ths) ths.length seen todo = m ∧ m ≤ 50000,
      ⟨_, tl0, us0, xs, [], none, rfl, ntlH0, nst0, s1.trans s2, by rw [upd_ne nst0, upd_same]; rfl, upd_same, hv.im (im_same (s1.trans s2)), DInv.start, rfl, o.muL⟩, ?_⟩
    rintro m σ H2 ⟨tl, us, todo, seen, v4, rfl, ntlH, nst, sm, esd, etl, hvs, I, em, hm⟩
    have htl : todo.length ≤ 50000 := by
      unfold mu at em
      omega
    refine ⟨_, rfl, Nat.zero_le _, fun p hp => ?_⟩
    have sp : Same H2 (upd H2 p (.lst [])) := same_upd hp
    have hvp : VsAt (upd H2 p (.lst [])) us todo := hvs.im (im_same sp)
    refine ⟨.list (todo.map toD), .list [], .lst (SqL.of (sp _ _ etl)) hvp.dp, .lst (SqL.of upd_same) .nil, shaped_vals _, shaped_vals [], _, rfl, ?_⟩
    rw [eqv_nil]
    have npsd : sd ≠ p := ne_of_none esd hp
    have nptl : tl ≠ p := ne_of_none etl hp
    cases hvs with
    | nil =>
      refine iteF ?_
      refine ⟨_, rfl, sd, natI seen, rfl, SqL.of (sp _ _ esd), fun ns' z perm srt hz => ?_⟩
      have e := I.sorted o.wfL perm srt
      subst e
      refine k z _ ((sm.trans sp).trans (same_upd hz)) ((sm.trans sp).free hz) ?_
      rw [upd_same, dueL_eq]
    | @cons u x us' todo' hx hvs' =>
      have hne : (!((x :: todo').map toD).isEmpty) = true := by simp
      rw [hne]
      have hlen := hvs'.length
      have hll : (x :: todo').length = todo'.length + 1 := rfl
      refine iteT ⟨fun σ' H' => ∃ m', m' < m ∧ ∃ (tl : Addr) (us : List V) (todo : List Val) (seen : List Nat) (v4 : Option V), σ' = [some (.ref L), some (.ref a), some (.ref sd), some (.ref tl), v4] ∧ H tl = none ∧ sd ≠ tl ∧ Same H H' ∧ H' sd = some (.lst (intsV seen)) ∧ H' tl = some (.lst us) ∧
        VsAt H' us todo ∧ DInv (gL ths) xs seen todo ∧ mu (gL ths) ths.length seen todo = m' ∧ m' ≤ 50000, fun σ' H' z => z, ?_⟩
      refine ⟨_, rfl, .inl ⟨rfl, _, SqL.of (sp _ _ etl)⟩, tl, u :: us', 0, 0, u, rfl, rfl, sp _ _ etl, by decide, by decide, ?_, rfl, ?_⟩
      · show (if (decide ((0 : Int) ≤ (if (0 : Int) < 0 then (0 : Int) + ((u :: us').length : Nat) else 0)) && decide ((if (0 : Int) < 0 then (0 : Int) + ((u :: us').length : Nat) else 0) < ((u :: us').length : Nat))) = true then some ((if (0 : Int) < 0 then (0 : Int) + ((u :: us').length : Nat) else 0)).toNat else none) = some 0
        simp
      have edl : (u :: us').eraseIdx 0 = us' := rfl
      rw [edl]
      have hmem : ∀ y, y ∈ x :: todo' ↔ y = x ∨ y ∈ todo' := fun y => List.mem_cons
      have ntl3 : Im (upd H2 p (.lst [])) (upd (upd H2 p (.lst [])) tl (.lst us')) := im_mut (sp _ _ etl) (fun z => z)
      have i3 : Im H2 (upd (upd H2 p (.lst [])) tl (.lst us')) := (im_same sp).trans ntl3
      have sm3 : Same H (upd (upd H2 p (.lst [])) tl (.lst us')) := same_over (sm.trans sp) ntlH
      have esd3 : (upd (upd H2 p (.lst [])) tl (.lst us')) sd = some (.lst (intsV seen)) := by
        rw [upd_ne nst]
        exact sp _ _ esd
      have hx3 : VAt (upd (upd H2 p (.lst [])) tl (.lst us')) u x := hx.im i3
      have skip : (∀ k, x = .thing k → k ∈ seen) → ∃ m', m' < m ∧ ∃ (tl' : Addr) (us : List V) (todo : List Val) (sn : List Nat) (v4' : Option V), ([some (.ref L), some (.ref a), some (.ref sd), some (.ref tl), some u] : St) = [some (.ref L), some (.ref a), some (.ref sd), some (.ref tl'), v4'] ∧ H tl' = none ∧ sd ≠ tl' ∧ Same H (upd (upd H2 p (.lst [])) tl (.lst us')) ∧
          (upd (upd H2 p (.lst [])) tl (.lst us')) sd = some (.lst (intsV sn)) ∧ (upd (upd H2 p (.lst [])) tl (.lst us')) tl' = some (.lst us) ∧ VsAt (upd (upd H2 p (.lst [])) tl (.lst us')) us todo ∧ DInv (gL ths) xs sn todo ∧ mu (gL ths) ths.length sn todo = m' ∧ m' ≤ 50000 := fun hs => by
        have hlt := mu_skip (g := gL ths) (n := ths.length) (seen := seen) hll
        exact ⟨mu (gL ths) ths.length seen todo', by omega, tl, us', todo', seen, some u, rfl, ntlH, nst, sm3, esd3, upd_same, VsAt.im i3 hvs', I.skip hmem hs, rfl, by omega⟩
      refine ⟨_, rfl, _, rfl, ?_⟩
      cases x with
      | nil =>
        have eu : u = .non := hx
        subst eu
        exact skip (fun k z => nomatch z)
      | num n =>
        obtain ⟨q, rfl, hq⟩ := id hx3
        refine ⟨_, rfl, q, _, _, _, rfl, rfl, SqT.of hq, rfl, rfl, _, rfl, iteN (by decide +kernel) ?_⟩
        exact skip (fun k z => nomatch z)
      | thing n =>
        obtain ⟨q, rfl, hq⟩ := id hx3
        refine ⟨_, rfl, q, _, _, _, rfl, rfl, SqT.of hq, rfl, rfl, _, rfl, iteY rfl ?_⟩
        refine ⟨_, rfl, q, _, _, _, rfl, rfl, SqT.of hq, rfl, _, rfl, sd, _, rfl, .inl (SqL.of esd3), rfl, flat_ints _, _, rfl, ?_⟩
        rw [inV_ints]
        by_cases hn : n ∈ seen
        · rw [decide_eq_true hn]
          exact skip (fun k z => by injection z with z; subst z; exact hn)
        · rw [decide_eq_false hn]
          refine iteT ?_
          have hnl : n < ths.length := o.wfL.lt (I.tr n ((hmem _).mpr (.inl rfl)))
          obtain ⟨th, hth⟩ : ∃ th, ths[n]? = some th := ⟨ths[n], List.getElem?_eq_getElem hnl⟩
          have eg : gL ths n = lvals th := gL_at hth
          have hsl := I.seen_len o.wfL
          have hon := o.n
          refine ⟨_, rfl, .inl ⟨rfl, _, SqL.of esd3⟩, _, rfl, q, _, _, _, rfl, rfl, SqT.of hq, rfl, sd, _, _, rfl, rfl, esd3, (by rw [intsV_length]; exact small50k (by omega)), ?_⟩
          rw [← intsV_snoc]
          generalize eH4 : upd (upd (upd H2 p (.lst [])) tl (.lst us')) sd (.lst (intsV (seen ++ [n]))) = H4
          have i4 : Im (upd (upd H2 p (.lst [])) tl (.lst us')) H4 := by rw [← eH4]; exact im_mut esd3 (fun z => z)
          have sm4 : Same H H4 := by rw [← eH4]; exact same_over sm3 nsd
          have etl4 : H4 tl = some (.lst us') := by rw [← eH4, upd_ne nst.symm, upd_same]
          have esd4 : H4 sd = some (.lst (intsV (seen ++ [n]))) := by rw [← eH4, upd_same]
          have hq4 : H4 q = some (.tup [.str "thing", .int (n : Int)]) := i4 _ _ hq True.intro
          have hv4 : VsAt H4 us' todo' := VsAt.im (i3.trans i4) hvs'
          obtain ⟨ps, e1, pp⟩ := hL.same sm4
          obtain ⟨i, hi, hit⟩ := pr_get pp hth
          have hts := o.sz n th hth
          have hhl := tsize_lvals th
          refine ⟨_, rfl, _, rfl, _, rfl, q, _, _, _, rfl, rfl, SqT.of hq4, rfl, L, _, _, _, rfl, rfl, SqL.of e1, refsV_at hi, i, th, rfl, hit, by omega, fun l us2 H5 s5 n5 e5 v5 => ?_⟩
          have h2l := v5.length
          refine ⟨tl, l, us', us2, rfl, rfl, s5 _ _ etl4, e5, Nat.le_of_lt (small50k (by rw [hll] at htl; omega)), fun z hz => ?_⟩
          have s6 : Same H5 (upd H5 z (.lst (us' ++ us2))) := same_upd hz
          have hlt := mu_visit (g := gL ths) (n := ths.length) (seen := seen) (new := todo' ++ lvals th) hll hn hnl (by rw [List.length_append, eg])
          refine ⟨mu (gL ths) ths.length (seen ++ [n]) (todo' ++ lvals th), by omega, z, us' ++ us2, todo' ++ lvals th, seen ++ [n], some (.ref q), rfl, (sm4.trans s5).free hz, ?_, (sm4.trans s5).trans s6, s6 _ _ (s5 _ _ esd4), upd_same, ?_, ?_, rfl, by omega⟩
          · exact ne_of_none (s5 _ _ esd4) hz
          · exact pr_append (VsAt.im ((im_same s5).trans (im_same s6)) hv4) (VsAt.im (im_same s6) v5)
          · exact I.visit hmem hn fun y => by rw [List.mem_append, eg]
end
end Wl

namespace Wl
open PySem L2
theorem HeapAt.mut {C : Cs} {H : Hp} {h d p : Addr} {ths : List Thing} {xs : List V} {o : HO} (x : HeapAt C H h d ths) (e : H p = some (.lst xs)) : HeapAt C (upd H p o) h d ths := by
  obtain ⟨⟨dx, e1⟩, is, e2, _⟩ := id x
  refine x.mono (im_mut e (fun z => z)) (fun u hu => ?_) (fun u hu => ?_)
  · rw [upd_ne (ne_of e1 e (by intro z; cases z))]
    exact hu
  · rw [upd_ne (ne_of e2 e (by intro z; cases z))]
    exact hu
theorem ThingsAt.mut {H : Hp} {L p : Addr} {ths : List Thing} {xs : List V} {o : HO} (x : ThingsAt H L ths) (e : H p = some (.lst xs)) (n : L ≠ p) : ThingsAt (upd H p o) L ths :=
  x.mono (im_mut e (fun z => z)) (fun u hu => by rw [upd_ne n]; exact hu)
/-- what was held: two lists of the same numbers in a tuple -/
structure Ent where
  t : Addr
  r : Addr
  q : Addr
  ns : List Int
structure EntAt (H : Hp) (G L : Addr) (e : Ent) : Prop where
  tG : e.t ≠ G
  t : H e.t = some (.tup [.ref e.r, .ref e.q])
  r : H e.r = some (.lst (e.ns.map V.int))
  q : H e.q = some (.lst (e.ns.map V.int))
  rG : e.r ≠ G
  qG : e.q ≠ G
  rL : e.r ≠ L
  qL : e.q ≠ L
structure HeldAt (H : Hp) (G L : Addr) (es : List Ent) : Prop where
  l : H G = some (.lst (es.map fun e => V.ref e.t))
  a : ∀ e ∈ es, EntAt H G L e
/-- all but what stands at G is as it was -/
def Keep (G : Addr) (H H' : Hp) : Prop := ∀ b o, H b = some o → b ≠ G → H' b = some o
theorem EntAt.keep {H H' : Hp} {G L : Addr} {e : Ent} (x : EntAt H G L e) (k : ∀ b o, H b = some o → b ≠ G → H' b = some o) : EntAt H' G L e := by
  obtain ⟨h0, h1, h2, h3, h4, h5, h6, h7⟩ := x
  exact ⟨h0, k _ _ h1 h0, k _ _ h2 h4, k _ _ h3 h5, h4, h5, h6, h7⟩
theorem rg_range (n : Nat) : rgV 0 (n : Int) = intsV (List.range n) := by
  unfold rgV intsV natI
  rw [List.map_map]
  have e : ((n : Int) - 0).toNat = n := by omega
  rw [e]
  refine List.map_congr_left fun i _ => ?_
  show V.int (0 + (i : Int)) = V.int (i : Int)
  rw [Int.zero_add]
theorem dueL_len (ths : List Thing) (xs : List Val) : (dueL ths xs).length ≤ ths.length := by
  unfold dueL reachL
  rw [intsV_length]
  refine Nat.le_trans (List.length_filter_le _ _) ?_
  rw [List.length_range]
  exact Nat.le_refl _
theorem Ok.more {ths : List Thing} {xs : List Val} (o : Ok ths xs) (h0 : 0 < ths.length) (h1 : xs.length ≤ 10) : Ok ths (xs ++ [.thing (ths.length - 1)]) := by
  refine ⟨fun k hk => ?_, o.g, o.sz, o.n, by rw [List.length_append, List.length_singleton]; omega⟩
  rcases List.mem_append.mp hk with hk | hk
  · exact o.v k hk
  · have hk := List.mem_singleton.mp hk
    injection hk with hk
    omega
section
variable {P : Program} {w : World} {K : PySem.W.Frag} {mg : Str → Option Value} {base : Heap} {C : Cs}
def spRight (C : Cs) : Sp := fun vs H Q _ => ∃ (h d L a G : Addr) (ths : List Thing) (us : List V) (xs : List Val) (es : List Ent), vs = [.ref h, .ref L, .ref a, .ref G] ∧ HeapAt C H h d ths ∧ ThingsAt H L ths ∧ H a = some (.lst us) ∧ VsAt H us xs ∧ Ok ths xs ∧
  0 < ths.length ∧ xs.length ≤ 10 ∧ HeldAt H G L es ∧ es.length ≤ 900 ∧ a ≠ G ∧ L ≠ G ∧
  ∀ (H' : Hp) (es' : List Ent), HeldAt H' G L es' → es'.length = es.length + 1 → (∀ b o, H b = some o → b ≠ G → H' b = some o) → Q (.bl true) H'
abbrev nmRight : List Str := ["_law_heap", "_law_things", "_law_values_here", "_law_held", "_law_handed", "_law_due", "_law_found", "_law_more", "_law_one"]
theorem scRight : FnScope nmRight ["_law_heap", "_law_things", "_law_values_here", "_law_held"] (defScope sRight) := ⟨rfl, rfl, rfl, by decide +kernel, rfl, by decide +kernel, by decide +kernel⟩
theorem ok_right {f fl fr fn : Addr} {fd dl dr dn : FuncData} (F : Fun K "_law_right" "_law_right" sRight f fd) (T : Txt K mg C) (R : Df P w K mg base 2 "_law_reached" fl dl ["_law_things", "_law_values_here"] spLReached)
    (M : Mf P w K mg base 3 C.heap "reached" fr dr ["self", "values"] (spReached C K)) (N : Mf P w K mg base 1 C.heap "numbers" fn dn ["self"] (spNumbers C)) :
    FnOk P w K mg base CX0 4 f fd ["_law_heap", "_law_things", "_law_values_here", "_law_held"] (spRight C) := by
  refine F.ok scRight (fun vs H Q E h => ?_) (fun cdv A outer s H vs Q E hr h => ?_)
  · obtain ⟨h, d, L, a, G, ths, us, xs, es, rfl, _⟩ := h
    rfl
  · obtain ⟨h, d, L, a, G, ths, us, xs, es, rfl, hH, hL, ha, hv, o, h0, h1, hE, he, naG, nLG, k⟩ := h
    have hu := hu_of hr
    have hr2 : Room 2 _ := hr.mono (by decide)
    have hr1 : Room 1 _ := hr.mono (by decide)
    refine ⟨_, pss_cons (ps_set (i := 4) scRight.nd rfl (.inl rfl) (pe_callTy call_list_of (by rfl) T.list bi_list (pa_cons (pv 2) pa_nil)))
      (pss_cons (ps_set (i := 5) scRight.nd rfl (.inl rfl) (pe_call R.ok hr2 rfl R.mg R.kp R.b .nil pass0 (pa_cons (pv 1) (pa_cons (pv 2) pa_nil))))
      (pss_cons (ps_expr (pe_bm PySem.F.plainAttrs_list PySem.F.slot_list_append PySem.F.type_list_append mt_append (pv 3) (pa_cons (pe_tup (pa_cons (pe_meth (pv 0) M.cl M.me M.ok hr M.b .nil pass0 (pa_cons (pv 4) pa_nil)) (pa_cons (pv 5) pa_nil))) pa_nil)))
      (pss_cons (ps_set (i := 6) scRight.nd rfl (.inl rfl) (pe_meth (pv 0) M.cl M.me M.ok hr M.b .nil pass0 (pa_cons (pv 4) pa_nil)))
      (pss_cons (ps_if (PW.pt (pw_or (pt_not (pt_val (pe_callB call_isi (by rfl) T.isinstance bi_isinstance (pa_cons (pv 6) (pa_cons (pe_bltn (v := .ty "list") (by rfl) T.list bi_list rfl) pa_nil)))))
          (pw_or (pt_cmpR (op_neD hr.units) (pv 6) (pv 5) (nomark _)) (pw_or (pt_cmpR (op_neD hr.units) (pv 4) (pv 2) (nomark _))
          (pw_or1 (pt_cmpR (op_neD hr.units) (pe_ix ix_tup (pe_ix ix_list (pv 3) (pe_un un_neg pe_int) (fun _ _ => rfl)) pe_int (fun _ _ => rfl)) (pv 5) (nomark _))))))) (pss_one (ps_ret pe_bl)) pss_nil)
      (pss_cons (ps_if (pt_cmpR (op_neD hr.units) (pe_lc (own := [("_law_one", 8)]) (g := gName 8) rfl scRight.nd (pi_list (pv 6)) (blkOk_by (N := nmRight) (sc := defScope sRight) (by decide +kernel)) (fun _ _ _ _ _ => pg_name (i := 8) scRight.nd rfl (Or.inl rfl))
          (fun _ _ _ _ _ => pts_one (PW.pt (pw_or (pt_val (pe_callB (r := rIsi K) call_isi (by rfl) T.isinstance bi_isinstance (pa_cons (pv 8) (pa_cons (pe_bltn (v := .ty "bool") (by rfl) T.bool bi_bool rfl) pa_nil))))
            (pw_or1 (pt_not (pt_val (pe_callB (r := rIsi K) call_isi (by rfl) T.isinstance bi_isinstance (pa_cons (pv 8) (pa_cons (pe_bltn (v := .ty "int") (by rfl) T.int bi_int rfl) pa_nil))))))))) (fun _ _ _ _ _ => pv 8)) (pe_lst pa_nil) (nomark _)) (pss_one (ps_ret pe_bl)) pss_nil)
      (pss_cons (ps_expr (pe_bm PySem.F.plainAttrs_list PySem.F.slot_list_append PySem.F.type_list_append mt_append (pv 6) (pa_cons pe_int pa_nil)))
      (pss_cons (ps_set (i := 7) scRight.nd rfl (.inl rfl) (pe_tup (pa_cons pe_str (pa_cons (pe_op op_sub (pe_callB call_len_seq (by rfl) T.len PySem.boot_len (pa_cons (pv 1) pa_nil)) pe_int) pa_nil))))
      (pss_cons (ps_expr (pe_bm PySem.F.plainAttrs_list PySem.F.slot_list_append PySem.F.type_list_append mt_append (pv 4) (pa_cons (pv 7) pa_nil)))
      (pss_one (ps_ret (pe_and (pe_cmpR (op_eqD hr.units) (pe_meth (pv 0) M.cl M.me M.ok hr M.b .nil pass0 (pa_cons (pv 4) pa_nil)) (pe_call R.ok hr2 rfl R.mg R.kp R.b .nil pass0 (pa_cons (pv 1) (pa_cons (pe_op op_cat (pv 2) (pe_lst (pa_cons (pv 7) pa_nil))) pa_nil))) (nomark _))
        (pe_one (pe_cmpR (op_eqD hr.units) (pe_meth0 (pv 0) N.cl N.me N.ok hr1 N.b .nil pass0) (pe_listRg rfl (by rfl) T.list (prg_1 (by rfl) T.range (pe_callB call_len_seq (by rfl) T.len PySem.boot_len (pa_cons (pv 1) pa_nil)))) (nomark _)))))))))))))), ?_⟩
    generalize ens : natI (reachL (gH ths) xs ths.length) = ns
    have edue : dueL ths xs = ns.map V.int := by
      unfold dueL intsV
      rw [ens]
    have hon := o.n
    -- handed = list(values_here)
    refine ⟨_, rfl, a, us, rfl, .inl (SqL.of ha), fun hd nhd => ?_⟩
    have s1 : Same H (upd H hd (.lst us)) := same_upd nhd
    have ehd1 : (upd H hd (.lst us)) hd = some (.lst us) := upd_same
    generalize upd H hd (.lst us) = H1 at s1 ehd1 ⊢
    -- due
    refine ⟨_, rfl, _, rfl, L, a, ths, us, xs, rfl, hL.same s1, s1 _ _ ha, hv.im (im_same s1), o, fun dq H2 s2 ndq edq => ?_⟩
    have s12 := s1.trans s2
    have e2hd := s2 _ _ ehd1
    obtain ⟨⟨dx, e1h⟩, _⟩ := id (hH.same s12)
    -- held.append((heap.reached(handed), due))
    refine ⟨_, rfl, .inl ⟨rfl, _, SqL.of (s12 _ _ hE.l)⟩, ?_⟩
    refine ⟨_, rfl, h, dx, _, rfl, e1h, hf_no _ _ (by decide +kernel) (by decide +kernel), _, rfl, h, d, hd, ths, us, xs, rfl, hH.same s12, e2hd, hv.im (im_same s12), o, fun r H3 s3 nr er => ?_⟩
    refine ⟨_, rfl, (by show 2 ≤ sizeLine; decide), fun t nt => ?_⟩
    have s13 := s12.trans s3
    have st : Same H3 (upd H3 t (.tup [.ref r, .ref dq])) := same_upd nt
    have et : (upd H3 t (.tup [.ref r, .ref dq])) t = some (.tup [.ref r, .ref dq]) := upd_same
    generalize upd H3 t (.tup [.ref r, .ref dq]) = H3' at st et ⊢
    have s14 := s13.trans st
    have eG3 := s14 _ _ hE.l
    refine ⟨G, _, _, rfl, rfl, eG3, small1000 (by rw [List.length_map]; omega), ?_⟩
    have ntG : t ≠ G := (ne_of_none (s13 _ _ hE.l) nt).symm
    have nrG : r ≠ G := (ne_of_none (s12 _ _ hE.l) nr).symm
    have ndG : dq ≠ G := (ne_of_none (s1 _ _ hE.l) ndq).symm
    have nhG : hd ≠ G := (ne_of_none hE.l nhd).symm
    have heap4 := (hH.same s14).mut (o := .lst ((es.map fun e => V.ref e.t) ++ [.ref t])) eG3
    have things4 := (hL.same s14).mut (o := .lst ((es.map fun e => V.ref e.t) ++ [.ref t])) eG3 nLG
    have i4 : Im H3' (upd H3' G (.lst ((es.map fun e => V.ref e.t) ++ [.ref t]))) := im_mut eG3 (fun z => z)
    have hv4 : VsAt (upd H3' G (.lst ((es.map fun e => V.ref e.t) ++ [.ref t]))) us xs := hv.im ((im_same s14).trans i4)
    have keep4 : ∀ b o, H b = some o → b ≠ G → (upd H3' G (.lst ((es.map fun e => V.ref e.t) ++ [.ref t]))) b = some o := fun b u e nb => by
      rw [upd_ne nb]
      exact s14 _ _ e
    have G4 : (upd H3' G (.lst ((es.map fun e => V.ref e.t) ++ [.ref t]))) G = some (.lst ((es.map fun e => V.ref e.t) ++ [.ref t])) := upd_same
    have hd4 : (upd H3' G (.lst ((es.map fun e => V.ref e.t) ++ [.ref t]))) hd = some (.lst us) := by
      rw [upd_ne nhG]
      exact st _ _ (s3 _ _ e2hd)
    have dq4 : (upd H3' G (.lst ((es.map fun e => V.ref e.t) ++ [.ref t]))) dq = some (.lst (ns.map V.int)) := by
      rw [upd_ne ndG, ← edue]
      exact st _ _ (s3 _ _ edq)
    have r4 : (upd H3' G (.lst ((es.map fun e => V.ref e.t) ++ [.ref t]))) r = some (.lst (ns.map V.int)) := by
      rw [upd_ne nrG, ← edue]
      exact st _ _ er
    have t4 : (upd H3' G (.lst ((es.map fun e => V.ref e.t) ++ [.ref t]))) t = some (.tup [.ref r, .ref dq]) := by
      rw [upd_ne ntG]
      exact et
    generalize upd H3' G (.lst ((es.map fun e => V.ref e.t) ++ [.ref t])) = H4 at heap4 things4 i4 hv4 keep4 G4 hd4 dq4 r4 t4 ⊢
    have a4 := keep4 _ _ ha naG
    -- found = heap.reached(handed)
    obtain ⟨⟨dx4, e4h⟩, _⟩ := id heap4
    refine ⟨_, rfl, h, dx4, _, rfl, e4h, hf_no _ _ (by decide +kernel) (by decide +kernel), _, rfl, h, d, hd, ths, us, xs, rfl, heap4, hd4, hv4, o, fun fq H5 s5 nfq efq => ?_⟩
    rw [edue] at efq
    have hv5 : VsAt H5 us xs := hv4.im (im_same s5)
    -- the test
    refine ⟨_, rfl, .ref fq, .ty "list", .type "list", .type "list", true, rfl, .ty _, .base (.lst efq), kit_ty (by decide +kernel), _, rfl, ?_⟩
    refine iteF ?_
    refine ⟨_, rfl, _, rfl, .list (ns.map PyData.int), .list (ns.map PyData.int), .lst (SqL.of efq) (ints_dp ns), .lst (SqL.of (s5 _ _ dq4)) (ints_dp ns), shaped_ints ns, shaped_ints ns, _, rfl, ?_⟩
    rw [eqv_shaped (shaped_ints ns)]
    refine iteF ?_
    refine ⟨_, rfl, _, rfl, .list (xs.map toD), .list (xs.map toD), .lst (SqL.of (s5 _ _ hd4)) hv5.dp, .lst (SqL.of (s5 _ _ a4)) hv5.dp, shaped_vals xs, shaped_vals xs, _, rfl, ?_⟩
    rw [eqv_shaped (shaped_vals xs)]
    refine iteF ?_
    refine ⟨_, rfl, _, rfl, G, _, _, .ref t, rfl, rfl, SqL.of (s5 _ _ G4), atI_last _ _, t, _, _, .ref r, rfl, rfl, SqT.of (s5 _ _ t4), rfl, _, rfl, .list (ns.map PyData.int), .list (ns.map PyData.int), .lst (SqL.of (s5 _ _ r4)) (ints_dp ns), .lst (SqL.of (s5 _ _ dq4)) (ints_dp ns), shaped_ints ns, shaped_ints ns, _, rfl, ?_⟩
    rw [eqv_shaped (shaped_ints ns)]
    refine iteF ?_
    -- the comprehension
    refine ⟨_, rfl, fq, rfl, ⟨_, SqL.of efq⟩, fun D nD => ?_⟩
    refine lc_list (K := K) (a := fq) (xs := ns.map V.int) (fun i H' => Same H5 H' ∧ H' D = some (.lst [])) ⟨same_upd nD, upd_same⟩ (fun i H' _ ⟨z, _⟩ => SqL.of (z _ _ efq)) ?_ ?_
    · rintro i x H' hx ⟨s6, e6⟩
      obtain ⟨n, rfl⟩ : ∃ n, x = V.int n := by
        rw [List.getElem?_map] at hx
        cases e : ns[i]? with
        | none => rw [e] at hx; cases hx
        | some n => rw [e] at hx; exact ⟨n, (Option.some.inj hx).symm⟩
      refine ⟨rfl, ?_⟩
      refine ⟨_, rfl, .int n, .ty "bool", .type "int", .type "bool", false, rfl, .ty _, .base (.int _), kit_ty (by decide +kernel), _, rfl, ?_⟩
      refine iteF ?_
      refine ⟨_, rfl, .int n, .ty "int", .type "int", .type "int", true, rfl, .ty _, .base (.int _), kit_ty (by decide +kernel), _, rfl, ?_⟩
      exact iteF ⟨s6, e6⟩
    · rintro H6 ⟨s6, e6⟩
      refine ⟨Nat.zero_le _, fun z nz => ?_⟩
      have sz : Same H6 (upd H6 z (.lst [])) := same_upd nz
      refine ⟨.list [], .list [], .lst (SqL.of (sz _ _ e6)) .nil, .lst (SqL.of upd_same) .nil, shaped_vals [], shaped_vals [], _, rfl, ?_⟩
      rw [eqv_nil]
      refine iteF ?_
      have s56 := s6.trans sz
      generalize upd H6 z (.lst []) = H6' at s56 ⊢
      -- found.append(0)
      have efq6 := s56 _ _ efq
      have hdl := dueL_len ths xs
      rw [edue] at hdl
      refine ⟨_, rfl, .inl ⟨rfl, _, SqL.of efq6⟩, fq, _, _, rfl, rfl, efq6, small50k (by omega), ?_⟩
      have s47 : Same H4 (upd H6' fq (.lst (ns.map V.int ++ [.int 0]))) := same_over (s5.trans s56) nfq
      generalize upd H6' fq (.lst (ns.map V.int ++ [.int 0])) = H7 at s47 ⊢
      -- more = ('thing', len(things) - 1)
      obtain ⟨ps, eL7, pp⟩ := things4.same s47
      have hlen := pr_map_len pp
      have elen : ((refsV ps).length : Int) = (ths.length : Int) := by rw [List.length_map, hlen]
      refine ⟨_, rfl, L, _, rfl, .inl (SqL.of eL7), _, _, rfl, rfl, (by show 2 ≤ sizeLine; decide), fun mq nmq => ?_⟩
      have emore : ((refsV ps).length : Int) - 1 = ((ths.length - 1 : Nat) : Int) := by omega
      rw [show (fun i j : Int => V.int (i - j)) ((refsV ps).length : Int) 1 = V.int ((ths.length - 1 : Nat) : Int) from congrArg V.int emore]
      have s78 : Same H7 (upd H7 mq (.tup [.str "thing", .int ((ths.length - 1 : Nat) : Int)])) := same_upd nmq
      have hm8 : VAt (upd H7 mq (.tup [.str "thing", .int ((ths.length - 1 : Nat) : Int)])) (.ref mq) (.thing (ths.length - 1)) := ⟨mq, rfl, upd_same⟩
      generalize upd H7 mq (.tup [.str "thing", .int ((ths.length - 1 : Nat) : Int)]) = H8 at s78 hm8 ⊢
      have s48 := s47.trans s78
      have hd8 := s48 _ _ hd4
      -- handed.append(more)
      have hvl := hv.length
      refine ⟨_, rfl, .inl ⟨rfl, _, SqL.of hd8⟩, _, rfl, hd, us, _, rfl, rfl, hd8, small1000 (by omega), ?_⟩
      have nLh : L ≠ hd := by
        obtain ⟨_, e, _⟩ := hL
        exact ne_of_none e nhd
      have nah : a ≠ hd := ne_of_none ha nhd
      have heap9 := (heap4.same s48).mut (o := .lst (us ++ [.ref mq])) hd8
      have things9 := (things4.same s48).mut (o := .lst (us ++ [.ref mq])) hd8 nLh
      have i9 : Im H8 (upd H8 hd (.lst (us ++ [.ref mq]))) := im_mut hd8 (fun z => z)
      have hm9 := hm8.im i9
      have hv9 : VsAt (upd H8 hd (.lst (us ++ [.ref mq]))) us xs := hv4.im ((im_same s48).trans i9)
      have hd9 : (upd H8 hd (.lst (us ++ [.ref mq]))) hd = some (.lst (us ++ [.ref mq])) := upd_same
      have keep9 : ∀ b o, H4 b = some o → b ≠ hd → (upd H8 hd (.lst (us ++ [.ref mq]))) b = some o := fun b u e nb => by
        rw [upd_ne nb]
        exact s48 _ _ e
      generalize upd H8 hd (.lst (us ++ [.ref mq])) = H9 at heap9 things9 i9 hm9 hv9 hd9 keep9 ⊢
      have a9 := keep9 _ _ a4 nah
      have hv9' : VsAt H9 (us ++ [.ref mq]) (xs ++ [.thing (ths.length - 1)]) := Paired.snoc hv9 hm9
      have o' := o.more h0 h1
      -- the end
      obtain ⟨⟨dx9, e9h⟩, _⟩ := id heap9
      refine ⟨_, rfl, h, dx9, _, rfl, e9h, hf_no _ _ (by decide +kernel) (by decide +kernel), _, rfl, h, d, hd, ths, us ++ [.ref mq], xs ++ [.thing (ths.length - 1)], rfl, heap9, hd9, hv9', o', fun p1 H10 s10 n10 e10 => ?_⟩
      refine ⟨_, rfl, _, rfl, _, rfl, (by show 1 ≤ sizeLine; decide), fun z1 nz1 => ?_⟩
      have t1 : Same H10 (upd H10 z1 (.lst [.ref mq])) := same_upd nz1
      refine ⟨a, z1, us, [.ref mq], rfl, rfl, t1 _ _ (s10 _ _ a9), upd_same, Nat.le_of_lt (small1000 (by rw [List.length_singleton]; omega)), fun z2 nz2 => ?_⟩
      have t2 : Same (upd H10 z1 (.lst [.ref mq])) (upd (upd H10 z1 (.lst [.ref mq])) z2 (.lst (us ++ [.ref mq]))) := same_upd nz2
      have s912 := (s10.trans t1).trans t2
      refine ⟨L, z2, ths, us ++ [.ref mq], xs ++ [.thing (ths.length - 1)], rfl, things9.same s912, upd_same, VsAt.im (im_same s912) hv9', o', fun p2 H12 s12' n12 e12 => ?_⟩
      generalize ens2 : natI (reachL (gH ths) (xs ++ [.thing (ths.length - 1)]) ths.length) = ns2
      have edue2 : dueL ths (xs ++ [.thing (ths.length - 1)]) = ns2.map V.int := by
        unfold dueL intsV
        rw [ens2]
      rw [edue2] at e10 e12
      refine ⟨.list (ns2.map PyData.int), .list (ns2.map PyData.int), .lst (SqL.of (s12' _ _ (t2 _ _ (t1 _ _ e10)))) (ints_dp ns2), .lst (SqL.of e12) (ints_dp ns2), shaped_ints ns2, shaped_ints ns2, _, rfl, ?_⟩
      rw [eqv_shaped (shaped_ints ns2)]
      refine iteT ?_
      have s9b := s912.trans s12'
      obtain ⟨⟨dxb, ebh⟩, _⟩ := id (heap9.same s9b)
      refine ⟨_, rfl, h, dxb, _, rfl, ebh, hf_no _ _ (by decide +kernel) (by decide +kernel), h, d, ths, rfl, heap9.same s9b, fun p3 H13 s13' n13 e13 => ?_⟩
      have s9c := s9b.trans s13'
      obtain ⟨ps2, eL13, pp2⟩ := things9.same s9c
      have hlen2 := pr_map_len pp2
      refine ⟨_, rfl, L, _, rfl, .inl (SqL.of eL13), _, rfl, RgOk.of_le (by decide) (by rw [List.length_map]; omega) (by decide) (by omega), fun p4 n4 => ?_⟩
      have erg : rgV 0 ((refsV ps2).length : Int) = (natI (List.range ths.length)).map V.int := by
        rw [List.length_map, hlen2, rg_range]
        rfl
      rw [erg]
      have s14' : Same H13 (upd H13 p4 (.lst ((natI (List.range ths.length)).map V.int))) := same_upd n4
      refine ⟨.list ((natI (List.range ths.length)).map PyData.int), .list ((natI (List.range ths.length)).map PyData.int), .lst (SqL.of (s14' _ _ e13)) (ints_dp _), .lst (SqL.of upd_same) (ints_dp _), shaped_ints _, shaped_ints _, ?_⟩
      rw [eqv_shaped (shaped_ints _)]
      have s9d := s9c.trans s14'
      have keepF : ∀ b o, H4 b = some o → b ≠ hd → (upd H13 p4 (.lst ((natI (List.range ths.length)).map V.int))) b = some o := fun b u e nb => s9d _ _ (keep9 _ _ e nb)
      have keepHF : ∀ b o, H b = some o → b ≠ G → (upd H13 p4 (.lst ((natI (List.range ths.length)).map V.int))) b = some o := fun b u e nb => keepF _ _ (keep4 _ _ e nb) (ne_of_none e nhd)
      refine k _ (es ++ [⟨t, r, dq, ns⟩]) ⟨?_, ?_⟩ (by rw [List.length_append, List.length_singleton]) keepHF
      · rw [List.map_append]
        exact keepF _ _ G4 nhG.symm
      · intro e hmem
        rcases List.mem_append.mp hmem with hmem | hmem
        · exact (hE.a e hmem).keep keepHF
        · rw [List.mem_singleton] at hmem
          subst hmem
          have hLt : ∃ o, H L = some o := by
            obtain ⟨_, e, _⟩ := hL
            exact ⟨_, e⟩
          obtain ⟨oL, eL⟩ := hLt
          exact ⟨ntG, keepF _ _ t4 (ne_of_none (s3 _ _ e2hd) nt).symm, keepF _ _ r4 (ne_of_none e2hd nr).symm, keepF _ _ dq4 (ne_of_none ehd1 ndq).symm, nrG, ndG, (ne_of_none (s12 _ _ eL) nr).symm, (ne_of_none (s1 _ _ eL) ndq).symm⟩
end
end Wl

namespace Wl
open PySem L2
/-! ### a chain of boxes -/
theorem Reach.within {g g' : Nat → List Val} {vs : List Val} {n : Nat} (w : Wf g vs n) (h : ∀ j, j < n → ∀ k, Val.thing k ∈ g j → Val.thing k ∈ g' j) {k : Nat} (r : Reach g vs k) : Reach g' vs k := by
  induction r with
  | base h0 => exact .base h0
  | step r0 h1 ih => exact .step ih (h _ (w.lt r0) _ h1)
open Classical in
theorem reachL_local {g g' : Nat → List Val} {vs : List Val} {n : Nat} (w : Wf g vs n) (h : ∀ j, j < n → g j = g' j) : reachL g vs n = reachL g' vs n := by
  have w' : Wf g' vs n := ⟨w.v, fun j hj k hk => w.g j hj k (by rw [h j hj]; exact hk)⟩
  unfold reachL
  refine List.filter_congr fun k _ => ?_
  have e : Reach g vs k ↔ Reach g' vs k := ⟨fun r => r.within w fun j hj k z => by rw [← h j hj]; exact z, fun r => r.within w' fun j hj k z => by rw [h j hj]; exact z⟩
  simp only [e]
def chainL (n : Nat) : List Thing := (List.range n).map chainT
theorem chainL_length (n : Nat) : (chainL n).length = n := by
  unfold chainL
  rw [List.length_map, List.length_range]
theorem chainL_at {n j : Nat} (h : j < n) : (chainL n)[j]? = some (chainT j) := by
  unfold chainL
  rw [List.getElem?_map, List.getElem?_range h]
  rfl
theorem chainL_snoc (n : Nat) : chainL (n + 1) = chainL n ++ [chainT n] := by
  unfold chainL
  rw [List.range_succ, List.map_append]
  rfl
theorem chainL_some {n j : Nat} {th : Thing} (h : (chainL n)[j]? = some th) : j < n ∧ th = chainT j := by
  have hj : j < n := by
    have := (List.getElem?_eq_some_iff.mp h).1
    rw [chainL_length] at this
    exact this
  rw [chainL_at hj] at h
  exact ⟨hj, (Option.some.inj h).symm⟩
theorem chainL_ok {n : Nat} {vs : List Val} (hv : ∀ k, Val.thing k ∈ vs → k < n) (hn : n ≤ 2000) (hl : vs.length ≤ 20) : Ok (chainL n) vs := by
  refine ⟨fun k hk => by rw [chainL_length]; exact hv k hk, fun j th h k hk => ?_, fun j th h => ?_, by rw [chainL_length]; exact hn, hl⟩
  · obtain ⟨hj, rfl⟩ := chainL_some h
    rw [chainL_length]
    cases j with
    | zero => simp [chainT, lvals] at hk
    | succ j =>
      simp [chainT, lvals] at hk
      omega
  · obtain ⟨hj, rfl⟩ := chainL_some h
    cases j with
    | zero => decide
    | succ j => show 1 ≤ 20; decide
theorem chainL_due {n m : Nat} {vs : List Val} (hv : ∀ k, Val.thing k ∈ vs ↔ k = m) (hm : m < n) (hn : n ≤ 2000) (hl : vs.length ≤ 20) : dueL (chainL n) vs = intsV (List.range (m + 1)) := by
  have o : Ok (chainL n) vs := chainL_ok (fun k hk => by have := (hv k).mp hk; omega) hn hl
  have w := o.wfH
  rw [chainL_length] at w
  unfold dueL
  rw [chainL_length, reachL_local (g' := fun j => holds (chainT j)) w fun j hj => gH_at (chainL_at hj), chain_all hv hm]
section
variable {P : Program} {w : World} {K : PySem.W.Frag} {mg : Str → Option Value} {base : Heap} {C : Cs}
def spChain : Sp := fun vs H Q _ => ∃ c : Int, vs = [.int c] ∧ ∀ H', Q (.bl true) H'
abbrev nmChain : List Str := ["_law_cell", "_law_heap", "_law_many", "_law_k", "_law_at"]
theorem scChain : FnScope nmChain ["_law_cell"] (defScope sChain) := ⟨rfl, rfl, rfl, by decide +kernel, rfl, by decide +kernel, by decide +kernel⟩
theorem ok_chain {f fi fp fr fn : Addr} {fd di dp dr dn : FuncData} (F : Fun K "_law_chain" "_law_chain" sChain f fd) (T : Txt K mg C) (Hk : Kf P w K mg base "Heap" C.heap fi di ["self"] (spHeapI C))
    (Pt : Mf P w K mg base 4 C.heap "put" fp dp ["self", "thing"] (spPut C)) (M : Mf P w K mg base 3 C.heap "reached" fr dr ["self", "values"] (spReached C K)) (N : Mf P w K mg base 1 C.heap "numbers" fn dn ["self"] (spNumbers C)) :
    FnOk P w K mg base CX0 5 f fd ["_law_cell"] spChain := by
  refine F.ok scChain (fun vs H Q E h => ?_) (fun cdv A outer s H vs Q E hr h => ?_)
  · obtain ⟨c, rfl, _⟩ := h
    rfl
  · obtain ⟨c, rfl, k⟩ := h
    have hu := hu_of hr
    have hr3 : Room 3 _ := hr.mono (by decide)
    have hr2 : Room 2 _ := hr.mono (by decide)
    have hr1 : Room 1 _ := hr.mono (by decide)
    refine ⟨_, pss_cons (ps_set (i := 1) scChain.nd rfl (.inl rfl) (pe_make0 Hk.mkd Hk.ok hr2 rfl Hk.mg Hk.b .nil pass0))
      (pss_cons (ps_set (i := 2) scChain.nd rfl (.inl rfl) (pe_op op_add pe_int (pe_op op_mod (pv 0) pe_int)))
      (pss_cons (ps_expr (pe_meth (pv 1) Pt.cl Pt.me Pt.ok hr Pt.b .nil pass0 (pa_cons (pe_tup (pa_cons pe_str (pa_cons pe_non pa_nil))) pa_nil)))
      (pss_cons (ps_for PassesOwn.never rfl (pi_range2 (by rfl) T.range (pa_cons pe_int (pa_cons (pv 2) pa_nil))) (pg_name (i := 3) scChain.nd rfl (.inl rfl))
        (pss_one (ps_expr (pe_meth (pv 1) Pt.cl Pt.me Pt.ok hr Pt.b .nil pass0 (pa_cons (pe_tup (pa_cons pe_str (pa_cons (pe_tup (pa_cons pe_str (pa_cons (pe_op op_sub (pv 3) pe_int) pa_nil))) pa_nil))) pa_nil)))))
      (pss_cons (ps_set (i := 4) scChain.nd rfl (.inl rfl) (pe_op op_mod (pe_op op_fdiv (pv 0) pe_int) (pv 2)))
      (pss_cons (ps_if (pt_cmpR (op_neD hr.units) (pe_meth (pv 1) M.cl M.me M.ok hr3 M.b .nil pass0 (pa_cons (pe_lst (pa_cons (pe_tup (pa_cons pe_str (pa_cons (pe_op op_sub (pv 2) pe_int) pa_nil))) pa_nil)) pa_nil))
          (pe_listRg rfl (by rfl) T.list (prg_1 (by rfl) T.range (pv 2))) (nomark _)) (pss_one (ps_ret pe_bl)) pss_nil)
      (pss_one (ps_ret (pe_and (pe_cmpR (op_eqD hr.units) (pe_meth (pv 1) M.cl M.me M.ok hr3 M.b .nil pass0 (pa_cons (pe_lst (pa_cons (pe_tup (pa_cons pe_str (pa_cons (pv 4) pa_nil))) (pa_cons pe_non pa_nil))) pa_nil))
          (pe_listRg rfl (by rfl) T.list (prg_1 (by rfl) T.range (pe_op op_add (pv 4) pe_int))) (nomark _))
        (pe_one (pe_cmpR op_eq (pe_callB call_len_seq (by rfl) T.len PySem.boot_len (pa_cons (pe_meth0 (pv 1) N.cl N.me N.ok hr1 N.b .nil pass0) pa_nil)) (pv 2) (nomark _))))))))))), ?_⟩
    have b0 : 0 ≤ c % 200 := Int.emod_nonneg _ (by decide)
    have b1 : c % 200 < 200 := Int.emod_lt_of_pos _ (by decide)
    obtain ⟨n, hn⟩ : ∃ n : Nat, 1000 + c % 200 = (n : Int) := ⟨(1000 + c % 200).toNat, by omega⟩
    have g0 : 0 ≤ c / 200 % (n : Int) := Int.emod_nonneg _ (by omega)
    have g1 : c / 200 % (n : Int) < (n : Int) := Int.emod_lt_of_pos _ (by omega)
    obtain ⟨m, hm⟩ : ∃ m : Nat, c / 200 % (n : Int) = (m : Int) := ⟨(c / 200 % (n : Int)).toNat, by omega⟩
    -- heap = Heap()
    intro h dx nh ndx nex
    refine ⟨h, dx, rfl, upd_same, fun d H1 nd1 hH1 kp1 => ⟨rfl, ?_⟩⟩
    have s0 : Same H (upd (upd H dx (.own h)) h (.ins C.heap dx [])) := fun b u e => by
      rw [upd_ne (ne_of_none e nh), upd_ne (ne_of_none e ndx)]
      exact e
    have nd : H d = none := s0.free nd1
    have s1 : Same H H1 := fun b u e => kp1 b u (s0 b u e) (ne_of_none e nh)
    -- many
    refine ⟨_, rfl, _, _, rfl, rfl, (by show (0 : Int) < 200; decide), _, _, rfl, rfl, ?_⟩
    rw [show (fun i j : Int => V.int (i + j)) 1000 (c % 200) = V.int (n : Int) from congrArg V.int hn]
    -- heap.put(('box', None))
    obtain ⟨⟨dy, e1⟩, _⟩ := id hH1
    refine ⟨_, rfl, h, dy, _, rfl, e1, hf_no _ _ (by decide +kernel) (by decide +kernel), (by show 2 ≤ sizeLine; decide), fun p hp => ?_⟩
    have sp := same_upd (o := .tup [.str "box", .non]) hp
    refine ⟨h, d, p, [], .box .nil, rfl, hH1.same sp, ⟨.non, upd_same, rfl⟩, by decide, fun _ H2 hH2 kp2 => ?_⟩
    have s2 : Same H H2 := fun b u e => kp2 b u (sp b u (s1 b u e)) (ne_of_none e nh) (ne_of_none e nd)
    -- the loop
    refine ⟨_, rfl, 1, (n : Int), rfl, ⟨by decide, by decide, by omega, by omega⟩, for_range (lo := 1) (n := ((n : Int) - 1).toNat) (fun i σ H' => ∃ v3 : Option V, σ = [some (.int c), some (.ref h), some (.int (n : Int)), v3, none] ∧ Same H H' ∧ HeapAt C H' h d (chainL (i + 1)))
      ⟨none, rfl, s2, hH2⟩ ?_ ?_⟩
    · rintro i σ H' hi ⟨v3, rfl, s3, hH3⟩
      obtain ⟨⟨dz, e3⟩, _⟩ := id hH3
      refine ⟨_, rfl, h, dz, _, rfl, e3, hf_no _ _ (by decide +kernel) (by decide +kernel), _, rfl, _, _, rfl, rfl, (by show 2 ≤ sizeLine; decide), fun p hp => ⟨(by show 2 ≤ sizeLine; decide), fun q hq => ?_⟩⟩
      have ei : (1 : Int) + (i : Int) - 1 = (i : Int) := by omega
      rw [show (fun i j : Int => V.int (i - j)) (1 + (i : Int)) 1 = V.int (i : Int) from congrArg V.int ei] at hq ⊢
      have t1 := same_upd (o := .tup [.str "thing", .int (i : Int)]) hp
      have t2 := same_upd (o := .tup [.str "box", .ref p]) hq
      have t12 := t1.trans t2
      refine ⟨h, d, q, chainL (i + 1), .box (.thing i), rfl, hH3.same t12, ⟨.ref p, upd_same, p, rfl, t2 _ _ upd_same⟩, by rw [chainL_length]; omega, fun _ H4 hH4 kp4 => ?_⟩
      refine ⟨_, rfl, fun b u e => kp4 b u (t12 b u (s3 b u e)) (ne_of_none e nh) (ne_of_none e nd), ?_⟩
      rw [chainL_snoc]
      exact hH4
    · rintro σ H3 ⟨v3, rfl, s3, hH3⟩
      have en : ((n : Int) - 1).toNat + 1 = n := by omega
      rw [en] at hH3
      -- at
      refine ⟨_, rfl, _, _, rfl, rfl, ⟨by decide, by decide⟩, _, rfl, _, _, rfl, rfl, (by show (0 : Int) < (n : Int); omega), ?_⟩
      rw [show (fun i j : Int => V.int (i % j)) (c / 200) (n : Int) = V.int (m : Int) from congrArg V.int hm]
      -- reached
      obtain ⟨⟨dz, e3⟩, _⟩ := id hH3
      refine ⟨_, rfl, h, dz, _, rfl, e3, hf_no _ _ (by decide +kernel) (by decide +kernel), _, rfl, _, _, rfl, rfl, (by show 2 ≤ sizeLine; decide), fun p hp => ⟨(by show 1 ≤ sizeLine; decide), fun q hq => ?_⟩⟩
      have ei : (n : Int) - 1 = ((n - 1 : Nat) : Int) := by omega
      rw [show (fun i j : Int => V.int (i - j)) (n : Int) 1 = V.int ((n - 1 : Nat) : Int) from congrArg V.int ei] at hq ⊢
      have t1 := same_upd (o := .tup [.str "thing", .int ((n - 1 : Nat) : Int)]) hp
      have t2 := same_upd (o := .lst [.ref p]) hq
      have t12 := t1.trans t2
      have ok1 : Ok (chainL n) [.thing (n - 1)] := chainL_ok (fun k hk => by have := List.mem_singleton.mp hk; injection this with this; omega) (by omega) (by simp)
      refine ⟨h, d, q, chainL n, [.ref p], [.thing (n - 1)], rfl, hH3.same t12, upd_same, .cons ⟨p, rfl, t2 _ _ upd_same⟩ .nil, ok1, fun r H4 s4 nr er => ?_⟩
      have edu : dueL (chainL n) [.thing (n - 1)] = (natI (List.range n)).map V.int := by
        rw [chainL_due (m := n - 1) (fun k => by simp) (by omega) (by omega) (by simp), show n - 1 + 1 = n by omega]
        rfl
      rw [edu] at er
      refine ⟨_, rfl, (n : Int), rfl, RgOk.of_le (by decide) (by omega) (by decide) (by omega), fun q2 hq2 => ?_⟩
      have erg : rgV 0 (n : Int) = (natI (List.range n)).map V.int := by
        rw [rg_range]
        rfl
      rw [erg]
      have t3 : Same H4 (upd H4 q2 (.lst ((natI (List.range n)).map V.int))) := same_upd hq2
      refine ⟨.list ((natI (List.range n)).map PyData.int), .list ((natI (List.range n)).map PyData.int), .lst (SqL.of (t3 _ _ er)) (ints_dp _), .lst (SqL.of upd_same) (ints_dp _), shaped_ints _, shaped_ints _, _, rfl, ?_⟩
      rw [eqv_shaped (shaped_ints _)]
      refine iteF ?_
      have s35 := (t12.trans s4).trans t3
      have hH5 := hH3.same s35
      generalize upd H4 q2 (.lst ((natI (List.range n)).map V.int)) = H5 at hH5 ⊢
      -- the end
      obtain ⟨⟨dz5, e5⟩, _⟩ := id hH5
      refine ⟨_, rfl, h, dz5, _, rfl, e5, hf_no _ _ (by decide +kernel) (by decide +kernel), _, rfl, (by show 2 ≤ sizeLine; decide), fun p2 hp2 => ⟨(by show 2 ≤ sizeLine; decide), fun q3 hq3 => ?_⟩⟩
      have u1 := same_upd (o := .tup [.str "thing", .int (m : Int)]) hp2
      have u2 := same_upd (o := .lst [.ref p2, .non]) hq3
      have u12 := u1.trans u2
      have hmn : m < n := by omega
      have ok2 : Ok (chainL n) [.thing m, .nil] := chainL_ok (fun k hk => by simp at hk; omega) (by omega) (by simp)
      refine ⟨h, d, q3, chainL n, [.ref p2, .non], [.thing m, .nil], rfl, hH5.same u12, upd_same, .cons ⟨p2, rfl, u2 _ _ upd_same⟩ (.cons rfl .nil), ok2, fun r2 H6 s6 nr2 er2 => ?_⟩
      have edu2 : dueL (chainL n) [.thing m, .nil] = (natI (List.range (m + 1))).map V.int := by
        rw [chainL_due (m := m) (fun k => by simp) hmn (by omega) (by simp)]
        rfl
      rw [edu2] at er2
      refine ⟨_, rfl, _, _, rfl, rfl, _, rfl, RgOk.of_le (by decide) (by omega) (by decide) (by omega), fun q4 hq4 => ?_⟩
      have erg2 : rgV 0 ((m : Int) + 1) = (natI (List.range (m + 1))).map V.int := by
        rw [show (m : Int) + 1 = ((m + 1 : Nat) : Int) by omega, rg_range]
        rfl
      rw [erg2]
      have u3 : Same H6 (upd H6 q4 (.lst ((natI (List.range (m + 1))).map V.int))) := same_upd hq4
      refine ⟨.list ((natI (List.range (m + 1))).map PyData.int), .list ((natI (List.range (m + 1))).map PyData.int), .lst (SqL.of (u3 _ _ er2)) (ints_dp _), .lst (SqL.of upd_same) (ints_dp _), shaped_ints _, shaped_ints _, _, rfl, ?_⟩
      rw [eqv_shaped (shaped_ints _)]
      refine iteT ?_
      have hH7 := hH5.same ((u12.trans s6).trans u3)
      obtain ⟨⟨dz7, e7⟩, _⟩ := id hH7
      refine ⟨_, rfl, h, dz7, _, rfl, e7, hf_no _ _ (by decide +kernel) (by decide +kernel), h, d, chainL n, rfl, hH7, fun p8 H8 s8 n8 e8 => ?_⟩
      refine ⟨p8, _, rfl, .inl (SqL.of e8), _, rfl, rfl, ?_⟩
      have el : decide (V.int ((intsV (List.range (chainL n).length)).length : Int) = V.int (n : Int)) = true := by
        rw [intsV_length, List.length_range, chainL_length]
        exact decide_eq_true rfl
      show Q (V.bl (decide (V.int ((intsV (List.range (chainL n).length)).length : Int) = V.int (n : Int)))) _
      rw [el]
      exact k _
end
end Wl

namespace Wl
open PySem L2
theorem keepG_im {H H' : Hp} {G : Addr} {xs : List V} (e : H G = some (.lst xs)) (k : ∀ b o, H b = some o → b ≠ G → H' b = some o) : Im H H' := fun b o h i => k b o h fun z => by
  subst z
  rw [e] at h
  cases h
  exact i
theorem keepD_im {H H' : Hp} {d : Addr} {kvs : List (Key × V)} (e : H d = some (.dK kvs)) (k : ∀ b o, H b = some o → b ≠ d → H' b = some o) : Im H H' := fun b o h i => k b o h fun z => by
  subst z
  rw [e] at h
  cases h
  exact i
theorem keep2_im {C : Cs} {H H' : Hp} {h d : Addr} {ths : List Thing} (x : HeapAt C H h d ths) (k : ∀ b o, H b = some o → b ≠ h → b ≠ d → H' b = some o) : Im H H' := fun b o e i => by
  obtain ⟨⟨dx, e1⟩, is, e2, _⟩ := x
  refine k b o e (fun z => ?_) fun z => ?_
  · subst z
    rw [e1] at e
    cases e
    exact hf_nimm i
  · subst z
    rw [e2] at e
    cases e
    exact i
theorem HeapAt.keepG {C : Cs} {H H' : Hp} {h d G : Addr} {ths : List Thing} {xs : List V} (x : HeapAt C H h d ths) (e : H G = some (.lst xs)) (k : ∀ b o, H b = some o → b ≠ G → H' b = some o) : HeapAt C H' h d ths := by
  obtain ⟨⟨dx, e1⟩, is, e2, _⟩ := id x
  exact x.mono (keepG_im e k) (fun u hu => k _ _ hu (ne_of e1 e (by intro z; cases z))) (fun u hu => k _ _ hu (ne_of e2 e (by intro z; cases z)))
theorem ThingsAt.ne_heap {C : Cs} {H : Hp} {h d L : Addr} {ths bs : List Thing} (x : ThingsAt H L ths) (y : HeapAt C H h d bs) : L ≠ h ∧ L ≠ d := by
  obtain ⟨ps, e, _⟩ := x
  obtain ⟨⟨dx, e1⟩, is, e2, _⟩ := y
  exact ⟨ne_of e e1 (by intro z; cases z), ne_of e e2 (by intro z; cases z)⟩
theorem reach_nil {g : Nat → List Val} {k : Nat} (r : Reach g [] k) : False := by
  induction r with
  | base h => simp at h
  | step _ _ ih => exact ih
theorem dueL_nil (ths : List Thing) : dueL ths [] = [] := by
  have e : reachL (gH ths) [] ths.length = [] := List.eq_nil_iff_forall_not_mem.mpr fun k hk => reach_nil (mem_reachL.mp hk).2
  unfold dueL
  rw [e]
  rfl
theorem ok_of {ths : List Thing} {xs : List Val} {n : Nat} (hl : ths.length = n) (h : ∀ th ∈ ths, tOk n th) (hx : ∀ x ∈ xs, vOk n x) (hn : n ≤ 2000) (hm : xs.length ≤ 20) : Ok ths xs := by
  refine ⟨fun k hk => by rw [hl]; exact hx _ hk k rfl, fun j th e k hk => ?_, fun j th e => ?_, by rw [hl]; exact hn, hm⟩
  · rw [hl]
    exact (h th (List.mem_of_getElem? e)).1 k hk
  · exact (h th (List.mem_of_getElem? e)).2
theorem cutV_ints {ns : List Int} {lo hi : Option Int} {i : Nat} {x : V} (h : (cutV (ns.map V.int) lo hi)[i]? = some x) : ∃ n, x = .int n := by
  have hm := List.mem_of_getElem? h
  unfold cutV at hm
  have hm := List.mem_of_mem_drop (List.mem_of_mem_take hm)
  obtain ⟨n, _, e⟩ := List.mem_map.mp hm
  exact ⟨n, e.symm⟩
theorem HeldAt.mono {H H' : Hp} {G L : Addr} {es : List Ent} (x : HeldAt H G L es) (nGL : G ≠ L) (k1 : ∀ b ys, H b = some (.tup ys) → H' b = some (.tup ys)) (k2 : ∀ b ys, b ≠ L → H b = some (.lst ys) → H' b = some (.lst ys)) : HeldAt H' G L es := by
  refine ⟨k2 _ _ nGL x.l, fun e he => ?_⟩
  obtain ⟨h0, h1, h2, h3, h4, h5, h6, h7⟩ := x.a e he
  exact ⟨h0, k1 _ _ h1, k2 _ _ h6 h2, k2 _ _ h7 h3, h4, h5, h6, h7⟩
theorem ixN_nat {n m : Nat} (h : m < n) : ixN n (m : Int) = some m := by
  unfold ixN
  rw [if_pos (by omega), if_pos (by omega)]
  simp
section
variable {P : Program} {w : World} {K : PySem.W.Frag} {mg : Str → Option Value} {base : Heap} {C : Cs}
def spLaw (K : PySem.W.Frag) : Sp := fun vs H Q _ => ∃ (a : Addr) (ns : List Int), vs = [.ref a] ∧ SqL K H a (ns.map V.int) ∧ ns.length ≤ 63 ∧ ∀ H', Q (.bl true) H'
abbrev nmLaw : List Str := ["_law_script", "_law_heap", "_law_things", "_law_held", "_law_many", "_law_k", "_law_order", "_law_cell", "_law_values_here", "_law_at", "_law_found", "_law_due"]
theorem scLaw : FnScope nmLaw ["_law_script"] (defScope sLaw) := ⟨rfl, rfl, rfl, by decide +kernel, rfl, by decide +kernel, by decide +kernel⟩
theorem ok_law {f f1 f2 f3 f4 f5 f6 f7 f8 f9 f10 : Addr} {fd d1 d2 d3 d4 d5 d6 d7 d8 d9 d10 : FuncData} (F : Fun K "law" "law" sLaw f fd) (T : Txt K mg C)
    (Dr : Df P w K mg base 1 "_law_draw" f1 d1 ["_law_script", "_law_k"] (spDraw K)) (Sp : Df P w K mg base 1 "_law_spread" f2 d2 ["_law_cell", "_law_k"] spSpread) (Va : Df P w K mg base 1 "_law_value" f3 d3 ["_law_cell", "_law_many"] spValue)
    (Th : Df P w K mg base 2 "_law_thing" f4 d4 ["_law_cell", "_law_many"] spThing) (Ri : Df P w K mg base 4 "_law_right" f5 d5 ["_law_heap", "_law_things", "_law_values_here", "_law_held"] (spRight C)) (Ch : Df P w K mg base 5 "_law_chain" f6 d6 ["_law_cell"] spChain)
    (Hk : Kf P w K mg base "Heap" C.heap f7 d7 ["self"] (spHeapI C)) (Pt : Mf P w K mg base 4 C.heap "put" f8 d8 ["self", "thing"] (spPut C)) (Cg : Mf P w K mg base 4 C.heap "change" f9 d9 ["self", "k", "thing"] (spChange C)) (M : Mf P w K mg base 3 C.heap "reached" f10 d10 ["self", "values"] (spReached C K)) :
    FnOk P w K mg base CX0 6 f fd ["_law_script"] (spLaw K) := by
  refine F.ok scLaw (fun vs H Q E h => ?_) (fun cdv A outer s H vs Q E hr h => ?_)
  · obtain ⟨a, ns, rfl, _⟩ := h
    rfl
  · obtain ⟨a, ns, rfl, hS, hlen, k⟩ := h
    have hr4 : Room 4 _ := hr.mono (by decide)
    have hr3 : Room 3 _ := hr.mono (by decide)
    have hr2 : Room 2 _ := hr.mono (by decide)
    have hr1 : Room 1 _ := hr.mono (by decide)
    refine ⟨_, pss_cons (ps_if (pt_cmpR op_eq (pe_op op_mod (pe_op op_fdiv (pe_call Dr.ok hr1 rfl Dr.mg Dr.kp Dr.b .nil pass0 (pa_cons (pv 0) (pa_cons pe_int pa_nil))) pe_int) pe_int) pe_int (nomark _))
        (pss_one (ps_ret (pe_call Ch.ok hr rfl Ch.mg Ch.kp Ch.b .nil pass0 (pa_cons (pe_call Sp.ok hr1 rfl Sp.mg Sp.kp Sp.b .nil pass0 (pa_cons (pe_call Dr.ok hr1 rfl Dr.mg Dr.kp Dr.b .nil pass0 (pa_cons (pv 0) (pa_cons pe_int pa_nil))) (pa_cons pe_int pa_nil))) pa_nil)))) pss_nil)
      (pss_cons (ps_set (i := 1) scLaw.nd rfl (.inl rfl) (pe_make0 Hk.mkd Hk.ok hr2 rfl Hk.mg Hk.b .nil pass0))
      (pss_cons (ps_set (i := 2) scLaw.nd rfl (.inl rfl) (pe_lst pa_nil))
      (pss_cons (ps_set (i := 3) scLaw.nd rfl (.inl rfl) (pe_lst pa_nil))
      (pss_cons (ps_set (i := 4) scLaw.nd rfl (.inr rfl) (pe_op op_add pe_int (pe_op op_mod (pe_call Dr.ok hr1 rfl Dr.mg Dr.kp Dr.b .nil pass0 (pa_cons (pv 0) (pa_cons pe_int pa_nil))) pe_int)))
      (pss_cons (ps_for PassesOwn.never rfl (pi_range1 (by rfl) T.range (pa_cons (pv 4) pa_nil)) (pg_name (i := 5) scLaw.nd rfl (.inl rfl))
        (pss_cons (ps_expr (pe_meth (pv 1) Pt.cl Pt.me Pt.ok hr4 Pt.b .nil pass0 (pa_cons (pe_tup (pa_cons pe_str (pa_cons pe_non pa_nil))) pa_nil)))
        (pss_one (ps_expr (pe_bm PySem.F.plainAttrs_list PySem.F.slot_list_append PySem.F.type_list_append mt_append (pv 2) (pa_cons (pe_call Th.ok hr2 rfl Th.mg Th.kp Th.b .nil pass0
          (pa_cons (pe_call Sp.ok hr1 rfl Sp.mg Sp.kp Sp.b .nil pass0 (pa_cons (pe_call Dr.ok hr1 rfl Dr.mg Dr.kp Dr.b .nil pass0 (pa_cons (pv 0) (pa_cons (pe_op op_add pe_int (pv 5)) pa_nil))) (pa_cons (pv 5) pa_nil))) (pa_cons (pv 4) pa_nil))) pa_nil))))))
      (pss_cons (ps_set (i := 6) scLaw.nd rfl (.inl rfl) (pe_listRg rfl (by rfl) T.list (prg_1 (by rfl) T.range (pv 4))))
      (C8.pss_cut (ps_if (pt_cmpR op_eq (pe_op op_mod (pe_op op_fdiv (pe_call Dr.ok hr1 rfl Dr.mg Dr.kp Dr.b .nil pass0 (pa_cons (pv 0) (pa_cons pe_int pa_nil))) pe_int) pe_int) pe_int (nomark _))
        (pss_one (ps_expr (pe_bm0 PySem.F.plainAttrs_list PySem.F.slot_list_reverse PySem.F.type_list_reverse mt_reverse (pv 6)))) pss_nil)
      (pss_cons (ps_for PassesOwn.never rfl (pi_list (pv 6)) (pg_name (i := 5) scLaw.nd rfl (.inl rfl))
        (pss_one (ps_expr (pe_meth (pv 1) Cg.cl Cg.me Cg.ok hr4 Cg.b .nil pass0 (pa_cons (pv 5) (pa_cons (pe_ix ix_list (pv 2) (pv 5) (fun _ _ => rfl)) pa_nil))))))
      (pss_cons (ps_if (pt_cmpR (op_neD hr.units) (pe_meth (pv 1) M.cl M.me M.ok hr3 M.b .nil pass0 (pa_cons (pe_lst pa_nil) pa_nil)) (pe_lst pa_nil) (nomark _)) (pss_one (ps_ret pe_bl)) pss_nil)
      (pss_cons (ps_for PassesOwn.never rfl (pi_list (pe_slice sl_list (pv 0) (po_some pe_int) (po_some pe_int))) (pg_name (i := 7) scLaw.nd rfl (.inr rfl))
        (pss_cons (ps_set (i := 7) scLaw.nd rfl (.inr rfl) (pe_call Sp.ok hr1 rfl Sp.mg Sp.kp Sp.b .nil pass0 (pa_cons (pv 7) (pa_cons pe_int pa_nil))))
        (pss_cons (ps_setLc (i := 8) (own := [("_law_k", 5)]) (g := gName 5) (tt := tYes) rfl scLaw.nd rfl rfl (sw_true rfl rfl rfl (by decide +kernel)) (pi_range1 (by rfl) T.range (pa_cons (pe_op op_mod (pv 7) pe_int) pa_nil))
          (blkOk_by (N := nmLaw) (sc := defScope sLaw) (by decide +kernel)) (fun _ _ _ _ _ => pg_name (i := 5) scLaw.nd rfl (Or.inl rfl)) (fun _ _ _ _ _ => pts_nil)
          (fun _ _ _ _ _ => pe_call Va.ok hr1 rfl Va.mg Va.kp Va.b .nil pass0 (pa_cons (pe_call Sp.ok hr1 rfl Sp.mg Sp.kp Sp.b .nil pass0 (pa_cons (pv 7) (pa_cons (pv 5) pa_nil))) (pa_cons (pv 4) pa_nil))))
        (pss_cons (ps_if (pt_not (pt_val (pe_call Ri.ok hr4 rfl Ri.mg Ri.kp Ri.b .nil pass0 (pa_cons (pv 1) (pa_cons (pv 2) (pa_cons (pv 8) (pa_cons (pv 3) pa_nil))))))) (pss_one (ps_ret pe_bl)) pss_nil)
        (pss_cons (ps_set (i := 9) scLaw.nd rfl (.inl rfl) (pe_op op_mod (pe_op op_fdiv (pv 7) pe_int) (pv 4)))
        (pss_cons (ps_asg (pe_call Th.ok hr2 rfl Th.mg Th.kp Th.b .nil pass0 (pa_cons (pe_op op_fdiv (pv 7) pe_int) (pa_cons (pv 4) pa_nil))) (pg_sub (pv 2) (pv 9) set_list))
        (pss_cons (ps_expr (pe_meth (pv 1) Cg.cl Cg.me Cg.ok hr4 Cg.b .nil pass0 (pa_cons (pv 9) (pa_cons (pe_ix ix_list (pv 2) (pv 9) (fun _ _ => rfl)) pa_nil))))
        (pss_one (ps_if (pt_not (pt_val (pe_call Ri.ok hr4 rfl Ri.mg Ri.kp Ri.b .nil pass0 (pa_cons (pv 1) (pa_cons (pv 2) (pa_cons (pv 8) (pa_cons (pv 3) pa_nil))))))) (pss_one (ps_ret pe_bl)) pss_nil)))))))))
      (pss_one (ps_ret (pe_callB (cr_all rfl) (by rfl) T.all bi_all (pa_cons
        (pe_lc (own := [("_law_found", 10), ("_law_due", 11)]) (g := gTup K 2 (gCons (gName 10) (gCons (gName 11) gNil))) (tt := tYes) (te := tOp (rEqD K) (tVar 10) (tVar 11)) rfl scLaw.nd (pi_list (pv 3)) (blkOk_by (N := nmLaw) (sc := defScope sLaw) (by decide +kernel))
          (fun _ _ _ _ _ => pg_tup (by rfl) (pgs_cons (pg_name (i := 10) scLaw.nd rfl (Or.inl rfl)) (pgs_cons (pg_name (i := 11) scLaw.nd rfl (Or.inl rfl)) pgs_nil))) (fun _ _ _ _ _ => pts_nil)
          (fun _ _ _ _ _ => pe_cmpR (op_eqD hr.units) (pv 10) (pv 11) (nomark _))) pa_nil)))))))))))))), ?_⟩
    refine ⟨_, rfl, a, ns, 0, rfl, by decide, hS, fun z => ?_⟩
    refine ⟨_, _, rfl, rfl, ⟨by decide, by decide⟩, _, _, rfl, rfl, (by show (0 : Int) < 16; decide), rfl, _, rfl, ?_⟩
    refine ite2 (fun _ => ?_) (fun _ => ?_)
    · exact ⟨_, rfl, a, ns, 1, rfl, by decide, hS, fun z2 => ⟨z2, 3, rfl, by decide, by decide, fun c => ⟨c, rfl, k⟩⟩⟩
    -- heap = Heap()
    intro h dx nh ndx nex
    refine ⟨h, dx, rfl, upd_same, fun d H1 nd1 hH1 kp1 => ⟨rfl, ?_⟩⟩
    have s0 : Same H (upd (upd H dx (.own h)) h (.ins C.heap dx [])) := fun b u e => by
      rw [upd_ne (ne_of_none e nh), upd_ne (ne_of_none e ndx)]
      exact e
    have nd : H d = none := s0.free nd1
    have s1 : Same H H1 := fun b u e => kp1 b u (s0 b u e) (ne_of_none e nh)
    -- things = []; held = []
    refine ⟨Nat.zero_le _, fun L nL => ⟨Nat.zero_le _, fun G nG => ?_⟩⟩
    have sL := same_upd (o := .lst []) nL
    have sG := same_upd (o := .lst []) nG
    have s3 := (s1.trans sL).trans sG
    have nLH : H L = none := s1.free nL
    have nGH : H G = none := (s1.trans sL).free nG
    have nLG : L ≠ G := ne_of_none upd_same nG
    have hH3 := hH1.same (sL.trans sG)
    have hL3 : ThingsAt (upd (upd H1 L (.lst [])) G (.lst [])) L [] := ⟨[], sG _ _ upd_same, .nil⟩
    have hG3 : (upd (upd H1 L (.lst [])) G (.lst [])) G = some (.lst []) := upd_same
    generalize upd (upd H1 L (.lst [])) G (.lst []) = H3 at s3 hH3 hL3 hG3 ⊢
    -- many
    refine ⟨_, rfl, a, ns, 0, rfl, by decide, s3.seq hS, fun z3 => ⟨_, _, rfl, rfl, (by show (0 : Int) < 20; decide), _, _, rfl, rfl, ?_⟩⟩
    have b0 : 0 ≤ z3 % 20 := Int.emod_nonneg _ (by decide)
    have b1 : z3 % 20 < 20 := Int.emod_lt_of_pos _ (by decide)
    obtain ⟨n, hn⟩ : ∃ n : Nat, 1 + z3 % 20 = (n : Int) := ⟨(1 + z3 % 20).toNat, by omega⟩
    rw [show (fun i j : Int => V.int (i + j)) 1 (z3 % 20) = V.int (n : Int) from congrArg V.int hn]
    have hn0 : 0 < n := by omega
    have hn1 : n ≤ 1000 := by omega
    have hn2 : n ≤ 20 := by omega
    clear hn b0 b1
    -- the first loop
    refine ⟨_, rfl, (n : Int), rfl, by omega, by omega, for_range (lo := 0) (n := (n : Int).toNat) (fun i σ H' => ∃ (v5 : Option V) (ths : List Thing), σ = [some (.ref a), some (.ref h), some (.ref L), some (.ref G), some (.int (n : Int)), v5, none, none, none, none, none, none] ∧ Same H H' ∧
        HeapAt C H' h d (List.replicate i (.box .nil)) ∧ ThingsAt H' L ths ∧ ths.length = i ∧ (∀ th ∈ ths, tOk n th) ∧ H' G = some (.lst []))
      ⟨none, [], rfl, s3, hH3, hL3, rfl, fun th hth => absurd hth (by simp), hG3⟩ ?_ ?_⟩
    · rintro i σ H' hi ⟨v5, ths, rfl, sm, hH, hL, hl, hok, hG⟩
      have hi : i < n := by omega
      obtain ⟨⟨dz, e⟩, is, e2, _⟩ := id hH
      obtain ⟨ps, eL, pp⟩ := id hL
      refine ⟨_, rfl, h, dz, _, rfl, e, hf_no _ _ (by decide +kernel) (by decide +kernel), (by show 2 ≤ sizeLine; decide), fun p hp => ?_⟩
      have sp := same_upd (o := .tup [.str "box", .non]) hp
      refine ⟨h, d, p, List.replicate i (.box .nil), .box .nil, rfl, hH.same sp, ⟨.non, upd_same, rfl⟩, by rw [List.length_replicate]; omega, fun _ H4 hH4 kp4 => ?_⟩
      have i4 : Im H' H4 := (im_same sp).trans (keep2_im (hH.same sp) kp4)
      have sm4 : Same H H4 := fun b u e => kp4 b u (sp b u (sm b u e)) (ne_of_none e nh) (ne_of_none e nd)
      have eL4 : H4 L = some (.lst (refsV ps)) := kp4 _ _ (sp _ _ eL) (ne_of eL e (by intro z; cases z)) (ne_of eL e2 (by intro z; cases z))
      have eG4 : H4 G = some (.lst []) := kp4 _ _ (sp _ _ hG) (ne_of hG e (by intro z; cases z)) (ne_of hG e2 (by intro z; cases z))
      rw [← List.replicate_succ'] at hH4
      -- things.append(..)
      refine ⟨_, rfl, .inl ⟨rfl, _, SqL.of eL4⟩, _, rfl, _, rfl, _, _, rfl, rfl, a, ns, 1 + (0 + (i : Int)), rfl, by omega, sm4.seq hS, fun z => ⟨_, rfl, z, 0 + (i : Int), rfl, by omega, by omega, fun c => ⟨_, rfl, c, n, rfl, hn0, hn1, fun q th H5 s5 hq htk => ?_⟩⟩⟩
      have hpl := pr_map_len pp
      refine ⟨L, refsV ps, .ref q, rfl, rfl, s5 _ _ eL4, small1000 (by rw [List.length_map]; omega), ?_⟩
      have i6 : Im H5 (upd H5 L (.lst (refsV ps ++ [.ref q]))) := im_mut (s5 _ _ eL4) (fun z => z)
      refine ⟨_, ths ++ [th], rfl, same_over (sm4.trans s5) nLH, (hH4.same s5).mut (s5 _ _ eL4), ⟨ps ++ [q], ?_, ?_⟩, by rw [List.length_append, List.length_singleton, hl], ?_, ?_⟩
      · rw [upd_same, show refsV (ps ++ [q]) = refsV ps ++ [V.ref q] from List.map_append]
      · exact Paired.snoc (Paired.mono (fun _ _ q => q.im ((i4.trans (im_same s5)).trans i6)) pp) (hq.im i6)
      · intro t ht
        rcases List.mem_append.mp ht with ht | ht
        · exact hok t ht
        · rw [List.mem_singleton] at ht
          subst ht
          exact htk
      · rw [upd_ne nLG.symm]
        exact s5 _ _ eG4
    rintro σ H6 ⟨v5, ths, rfl, sm6, hH6, hL6, hl, hok, hG6⟩
    rw [show (n : Int).toNat = n by omega] at hH6 hl
    -- order = list(range(many))
    refine ⟨_, rfl, (n : Int), rfl, RgOk.of_le (by decide) (by omega) (by decide) (by omega), fun od nod => ?_⟩
    rw [rg_range]
    have so := same_upd (o := .lst (intsV (List.range n))) nod
    have nodH : H od = none := sm6.free nod
    have nodL : od ≠ L := by
      obtain ⟨_, e, _⟩ := hL6
      exact (ne_of_none e nod).symm
    have nodG : od ≠ G := (ne_of_none hG6 nod).symm
    have hH7 := hH6.same so
    have hL7 := hL6.same so
    have hG7 := so _ _ hG6
    have ho7 : (upd H6 od (.lst (intsV (List.range n)))) od = some (.lst (intsV (List.range n))) := upd_same
    have sm7 := sm6.trans so
    generalize upd H6 od (.lst (intsV (List.range n))) = H7 at hH7 hL7 hG7 ho7 sm7 ⊢
    refine ⟨fun σ H' => ∃ (v5 : Option V) (ks : List Nat), σ = [some (.ref a), some (.ref h), some (.ref L), some (.ref G), some (.int (n : Int)), v5, some (.ref od), none, none, none, none, none] ∧ Same H H' ∧ HeapAt C H' h d (List.replicate n (.box .nil)) ∧ ThingsAt H' L ths ∧ H' G = some (.lst []) ∧
      H' od = some (.lst (intsV ks)) ∧ ∀ j, j ∈ ks ↔ j < n, ?_, ?_⟩
    · refine ⟨_, rfl, a, ns, 0, rfl, by decide, sm7.seq hS, fun z4 => ?_⟩
      refine ⟨_, _, rfl, rfl, ⟨by decide, by decide⟩, _, _, rfl, rfl, (by show (0 : Int) < 2; decide), rfl, _, rfl, ?_⟩
      refine ite2 (fun _ => ?_) (fun _ => ?_)
      · refine ⟨_, rfl, .inl ⟨rfl, _, SqL.of ho7⟩, od, _, rfl, rfl, ho7, ?_⟩
        refine ⟨_, (List.range n).reverse, rfl, same_over sm7 nodH, hH7.mut ho7, hL7.mut ho7 nodL.symm, ?_, ?_, fun j => by rw [List.mem_reverse, List.mem_range]⟩
        · rw [upd_ne nodG.symm]
          exact hG7
        · rw [upd_same]
          unfold intsV natI
          rw [List.map_reverse, List.map_reverse]
      · exact ⟨_, List.range n, rfl, sm7, hH7, hL7, hG7, ho7, fun j => List.mem_range⟩
    clear hH7 hL7 hG7 ho7 sm7 hH6 hL6 hG6 sm6 nod so
    rintro σ H8 ⟨v5, ks, rfl, sm8, hH8, hL8, hG8, ho8, hks⟩
    -- the second loop
    refine ⟨_, rfl, od, rfl, ⟨_, SqL.of ho8⟩, for_list (K := K) (a := od) (xs := intsV ks) (fun i σ H' => ∃ (v5 : Option V) (bs : List Thing), σ = [some (.ref a), some (.ref h), some (.ref L), some (.ref G), some (.int (n : Int)), v5, some (.ref od), none, none, none, none, none] ∧ Same H H' ∧
        HeapAt C H' h d bs ∧ bs.length = n ∧ (∀ j, j ∈ ks.take i → bs[j]? = ths[j]?) ∧ ThingsAt H' L ths ∧ H' G = some (.lst []) ∧ H' od = some (.lst (intsV ks)))
      ⟨_, _, rfl, sm8, hH8, List.length_replicate, fun j hj => absurd hj (by simp), hL8, hG8, ho8⟩ (fun i σ H' _ ⟨_, _, _, _, _, _, _, _, _, e⟩ => SqL.of e) ?_ ?_⟩
    · rintro i x σ H' hx ⟨v5', bs, rfl, sm, hH, hbl, hbs, hL, hG, ho⟩
      obtain ⟨j, hj, rfl⟩ := intsV_get hx
      have hjn : j < n := (hks j).mp (List.mem_of_getElem? hj)
      obtain ⟨th, hth⟩ : ∃ th, ths[j]? = some th := ⟨ths[j]'(by omega), List.getElem?_eq_getElem (by omega)⟩
      obtain ⟨⟨dz, e⟩, is, e2, _⟩ := id hH
      obtain ⟨ps, eL, pp⟩ := id hL
      obtain ⟨p, hp, hpt⟩ := pr_get pp hth
      refine ⟨_, rfl, h, dz, _, rfl, e, hf_no _ _ (by decide +kernel) (by decide +kernel), _, rfl, _, rfl, _, rfl, L, _, _, _, rfl, rfl, SqL.of eL, refsV_at hp, h, d, p, bs, th, j, rfl, hH, by omega, by omega, hpt, fun H9 hH9 kp9 => ?_⟩
      refine ⟨_, bs.set j th, rfl, fun b u e => kp9 b u (sm b u e) (ne_of_none e nd), hH9, by rw [List.length_set]; exact hbl, ?_, ?_, kp9 _ _ hG (ne_of hG e2 (by intro z; cases z)), kp9 _ _ ho (ne_of ho e2 (by intro z; cases z))⟩
      · intro j' hj'
        by_cases ej : j' = j
        · subst ej
          rw [List.getElem?_set_self (by omega), hth]
        · rw [List.getElem?_set_ne (fun q => ej q.symm)]
          rw [List.take_add_one, hj] at hj'
          rcases List.mem_append.mp hj' with hj' | hj'
          · exact hbs j' hj'
          · exact absurd (by simpa using hj') ej
      · exact hL.mono (keepD_im e2 kp9) fun u hu => kp9 _ _ hu (ne_of eL e2 (by intro z; cases z))
    rintro σ H9 ⟨v5', bs, rfl, sm9, hH9, hbl, hbs, hL9, hG9, ho9⟩
    rw [intsV_length, List.take_of_length_le (Nat.le_refl _)] at hbs
    have ebs : bs = ths := by
      refine List.ext_getElem? fun j => ?_
      by_cases hj : j < n
      · exact hbs j ((hks j).mpr hj)
      · rw [List.getElem?_eq_none (by omega), List.getElem?_eq_none (by omega)]
    subst ebs
    -- reached([])
    obtain ⟨⟨dz, e9⟩, _⟩ := id hH9
    refine ⟨_, rfl, h, dz, _, rfl, e9, hf_no _ _ (by decide +kernel) (by decide +kernel), Nat.zero_le _, fun q hq => ?_⟩
    have sq := same_upd (o := .lst []) hq
    refine ⟨h, d, q, bs, [], [], rfl, hH9.same sq, upd_same, .nil, ok_of hl hok (fun x hx => absurd hx (by simp)) (by omega) (by simp), fun r H10 s10 nr er => ?_⟩
    rw [dueL_nil] at er
    refine ⟨Nat.zero_le _, fun q2 hq2 => ?_⟩
    have sq2 := same_upd (o := .lst []) hq2
    refine ⟨.list [], .list [], .lst (SqL.of (sq2 _ _ er)) .nil, .lst (SqL.of upd_same) .nil, shaped_vals [], shaped_vals [], _, rfl, ?_⟩
    rw [eqv_nil]
    refine iteF ?_
    have s911 := (sq.trans s10).trans sq2
    have sm11 := sm9.trans s911
    have hH11 := hH9.same s911
    have hL11 := hL9.same s911
    have hG11 := s911 _ _ hG9
    generalize upd H10 q2 (.lst []) = H11 at sm11 hH11 hL11 hG11 ⊢
    -- the third loop
    refine ⟨_, rfl, _, rfl, _, rfl, a, _, rfl, sm11.seq hS, fun cl ncl => ⟨cl, rfl, ⟨_, SqL.of upd_same⟩, ?_⟩⟩
    have hitem : ∀ (i : Nat) (x : V), (cutV (ns.map V.int) (some 21) (some 27))[i]? = some x → ∃ z : Int, x = V.int z := fun i x e => cutV_ints e
    have hitl : (cutV (ns.map V.int) (some 21) (some 27)).length ≤ 63 := Nat.le_trans (cutV_length _ _ _) (by rw [List.length_map]; exact hlen)
    generalize cutV (ns.map V.int) (some 21) (some 27) = items at hitem hitl ⊢
    have sc := same_upd (o := .lst items) ncl
    have nclL : cl ≠ L := by
      obtain ⟨_, e, _⟩ := hL11
      exact (ne_of_none e ncl).symm
    have nclG : cl ≠ G := (ne_of_none hG11 ncl).symm
    have hG12 := sc _ _ hG11
    refine for_list (K := K) (a := cl) (xs := items) (fun i σ H' => ∃ (v5 v7 v8 v9 : Option V) (ths : List Thing) (es : List Ent), σ = [some (.ref a), some (.ref h), some (.ref L), some (.ref G), some (.int (n : Int)), v5, some (.ref od), v7, v8, v9, none, none] ∧
        HeapAt C H' h d ths ∧ ThingsAt H' L ths ∧ ths.length = n ∧ (∀ th ∈ ths, tOk n th) ∧ HeldAt H' G L es ∧ es.length ≤ 2 * i ∧ H' cl = some (.lst items))
      ⟨_, _, _, _, bs, [], rfl, hH11.same sc, hL11.same sc, hl, hok, ⟨hG12, fun e he => absurd he (by simp)⟩, Nat.le_refl _, upd_same⟩ (fun i σ H' _ ⟨_, _, _, _, _, _, _, _, _, _, _, _, _, e⟩ => SqL.of e) ?_ ?_
    · rintro i x σ H' hx ⟨w5, w7, w8, w9, ths, es, rfl, hH, hL, hl, hok, hE, hel, hcl⟩
      have hi : i < items.length := (List.getElem?_eq_some_iff.mp hx).1
      obtain ⟨z, rfl⟩ := hitem _ _ hx
      -- cell = spread(cell, 2)
      refine ⟨_, rfl, z, 2, rfl, by decide, by decide, fun c => ?_⟩
      -- values_here
      have b0 : 0 ≤ c % 4 := Int.emod_nonneg _ (by decide)
      have b1 : c % 4 < 4 := Int.emod_lt_of_pos _ (by decide)
      refine ⟨_, rfl, _, _, rfl, rfl, (by show (0 : Int) < 4; decide), c % 4, rfl, by omega, by omega, fun va nva => ?_⟩
      refine lc_range (lo := 0) (n := (c % 4).toNat) (fun j H2 => ∃ (us : List V) (xs : List Val), Same H' H2 ∧ H2 va = some (.lst us) ∧ VsAt H2 us xs ∧ (∀ x ∈ xs, vOk n x) ∧ xs.length = j) ⟨[], [], same_upd nva, upd_same, .nil, fun x hx => absurd hx (by simp), rfl⟩ ?_ ?_
      · rintro j H2 hj ⟨us, xs, s2, eva, hv, ho, hxl⟩
        refine ⟨rfl, ?_⟩
        refine ⟨_, rfl, _, rfl, c, 0 + (j : Int), rfl, by omega, by omega, fun e => ⟨_, rfl, e, n, rfl, hn0, hn1, fun u x H3 s3 hu hx => ?_⟩⟩
        have h2l := hv.length
        have i2 : Im H3 (upd H3 va (.lst (us ++ [u]))) := im_mut (s3 _ _ eva) (fun z => z)
        refine ⟨us, s3 _ _ eva, small1000 (by omega), us ++ [u], xs ++ [x], same_over (s2.trans s3) nva, upd_same, ?_, ?_, by rw [List.length_append, List.length_singleton, hxl]⟩
        · exact Paired.snoc (VsAt.im ((im_same s3).trans i2) hv) (hu.im i2)
        · intro y hy
          rcases List.mem_append.mp hy with hy | hy
          · exact ho y hy
          · rw [List.mem_singleton] at hy
            subst hy
            exact hx
      rintro H2 ⟨us, xs, s2, eva, hv, ho, hxl⟩
      have hE2 : HeldAt H2 G L es := hE.mono nLG.symm (fun b ys e => s2 _ _ e) fun b ys _ e => s2 _ _ e
      have nvaG : va ≠ G := (ne_of_none hE.l nva).symm
      have nvaL : va ≠ L := by
        obtain ⟨_, e, _⟩ := hL
        exact (ne_of_none e nva).symm
      have hcl2 := s2 _ _ hcl
      -- right
      refine ⟨_, rfl, _, rfl, _, rfl, _, rfl, h, d, L, va, G, ths, us, xs, es, rfl, hH.same s2, hL.same s2, eva, hv, ok_of hl hok ho (by omega) (by omega), by omega, by omega, hE2, by omega, nvaG, nLG, fun H3 es3 hE3 hl3 kp3 => ?_⟩
      refine ⟨_, rfl, iteF ?_⟩
      have i3 : Im H2 H3 := keepG_im hE2.l kp3
      have hH3 := (hH.same s2).keepG hE2.l kp3
      have hL3 : ThingsAt H3 L ths := (hL.same s2).mono i3 fun u hu => kp3 _ _ hu nLG
      have eva3 := kp3 _ _ eva nvaG
      have hcl3 := kp3 _ _ hcl2 nclG
      have hv3 := VsAt.im i3 hv
      -- at
      refine ⟨_, rfl, _, _, rfl, rfl, ⟨by decide, by decide⟩, _, rfl, _, _, rfl, rfl, (by show (0 : Int) < (n : Int); omega), ?_⟩
      have g0 : 0 ≤ c / 4 % (n : Int) := Int.emod_nonneg _ (by omega)
      have g1 : c / 4 % (n : Int) < (n : Int) := Int.emod_lt_of_pos _ (by omega)
      obtain ⟨m, hm⟩ : ∃ m : Nat, c / 4 % (n : Int) = (m : Int) := ⟨(c / 4 % (n : Int)).toNat, by omega⟩
      rw [show (fun i j : Int => V.int (i % j)) (c / 4) (n : Int) = V.int (m : Int) from congrArg V.int hm]
      have hmn : m < n := by omega
      clear hm g0 g1
      -- things[at] = thing(..)
      refine ⟨_, rfl, _, _, rfl, rfl, ⟨by decide, by decide⟩, _, rfl, _, n, rfl, hn0, hn1, fun q th H4 s4 hq htk => ?_⟩
      obtain ⟨ps, eL4, pp⟩ := hL3.same s4
      have hpl := pr_map_len pp
      refine ⟨_, rfl, _, rfl, L, refsV ps, (m : Int), m, rfl, rfl, eL4, ixN_nat (by rw [List.length_map]; omega), ?_⟩
      have i5 : Im H4 (upd H4 L (.lst ((refsV ps).set m (.ref q)))) := im_mut eL4 (fun z => z)
      have hH5 := (hH3.same s4).mut (o := .lst ((refsV ps).set m (.ref q))) eL4
      have eps : (refsV ps).set m (.ref q) = refsV (ps.set m q) := List.map_set.symm
      have hL5 : ThingsAt (upd H4 L (.lst ((refsV ps).set m (.ref q)))) L (ths.set m th) := ⟨ps.set m q, by rw [upd_same, eps], pr_set (Paired.mono (fun _ _ q => q.im i5) pp) (hq.im i5)⟩
      have eL5 : (upd H4 L (.lst ((refsV ps).set m (.ref q)))) L = some (.lst (refsV (ps.set m q))) := by rw [upd_same, eps]
      have hq5 := hq.im i5
      have hE5 : HeldAt (upd H4 L (.lst ((refsV ps).set m (.ref q)))) G L es3 := hE3.mono nLG.symm (fun b ys e => by
          rw [upd_ne (ne_of (s4 _ _ e) eL4 (by intro z; cases z))]
          exact s4 _ _ e) fun b ys nb e => by
          rw [upd_ne nb]
          exact s4 _ _ e
      have eva5 : (upd H4 L (.lst ((refsV ps).set m (.ref q)))) va = some (.lst us) := by
        rw [upd_ne nvaL]
        exact s4 _ _ eva3
      have hcl5 : (upd H4 L (.lst ((refsV ps).set m (.ref q)))) cl = some (.lst items) := by
        rw [upd_ne nclL]
        exact s4 _ _ hcl3
      have hv5 := VsAt.im ((im_same s4).trans i5) hv3
      generalize upd H4 L (.lst ((refsV ps).set m (.ref q))) = H5 at i5 hH5 hL5 eL5 hq5 hE5 eva5 hcl5 hv5 ⊢
      -- heap.change(at, things[at])
      obtain ⟨⟨dz5, e5⟩, is5, e25, _⟩ := id hH5
      have hat : (ps.set m q)[m]? = some q := List.getElem?_set_self (by omega)
      refine ⟨_, rfl, h, dz5, _, rfl, e5, hf_no _ _ (by decide +kernel) (by decide +kernel), _, rfl, _, rfl, _, rfl, L, _, _, _, rfl, rfl, SqL.of eL5, refsV_at hat, h, d, q, ths, th, m, rfl, hH5, by omega, by omega, hq5, fun H6 hH6 kp6 => ?_⟩
      have i6 : Im H5 H6 := keepD_im e25 kp6
      have lst6 : ∀ b ys, H5 b = some (.lst ys) → H6 b = some (.lst ys) := fun b ys e => kp6 _ _ e (ne_of e e25 (by intro z; cases z))
      have tup6 : ∀ b ys, H5 b = some (.tup ys) → H6 b = some (.tup ys) := fun b ys e => kp6 _ _ e (ne_of e e25 (by intro z; cases z))
      have hL6 : ThingsAt H6 L (ths.set m th) := hL5.mono i6 fun u hu => kp6 _ _ hu (ne_of eL5 e25 (by intro z; cases z))
      have hE6 : HeldAt H6 G L es3 := hE5.mono nLG.symm tup6 fun b ys _ e => lst6 b ys e
      have eva6 := lst6 _ _ eva5
      have hcl6 := lst6 _ _ hcl5
      have hv6 := VsAt.im i6 hv5
      have hl6 : (ths.set m th).length = n := by rw [List.length_set]; exact hl
      have hok6 : ∀ t ∈ ths.set m th, tOk n t := fun t ht => by
        rcases List.mem_or_eq_of_mem_set ht with ht | ht
        · exact hok t ht
        · rw [ht]
          exact htk
      -- right
      refine ⟨_, rfl, _, rfl, _, rfl, _, rfl, h, d, L, va, G, ths.set m th, us, xs, es3, rfl, hH6, hL6, eva6, hv6, ok_of hl6 hok6 ho (by omega) (by omega), by omega, by omega, hE6, by omega, nvaG, nLG, fun H7 es7 hE7 hl7 kp7 => ?_⟩
      refine ⟨_, rfl, iteF ?_⟩
      have i7 : Im H6 H7 := keepG_im hE6.l kp7
      exact ⟨_, _, _, _, ths.set m th, es7, rfl, hH6.keepG hE6.l kp7, hL6.mono i7 fun u hu => kp7 _ _ hu nLG, hl6, hok6, hE7, by omega, kp7 _ _ hcl6 nclG⟩
    -- all(..)
    rintro σ H' ⟨w5, w7, w8, w9, ths, es, rfl, hH, hL, hl, hok, hE, hel, hcl⟩
    refine ⟨_, rfl, G, rfl, ⟨_, SqL.of hE.l⟩, fun D nD => ?_⟩
    refine lc_list (K := K) (a := G) (xs := es.map fun e => V.ref e.t) (fun i H2 => Same H' H2 ∧ H2 D = some (.lst ((List.replicate i true).map V.bl))) ⟨same_upd nD, upd_same⟩ (fun i H2 _ ⟨s2, _⟩ => SqL.of (s2 _ _ hE.l)) ?_ ?_
    · rintro i x H2 hx ⟨s2, e2⟩
      rw [List.getElem?_map] at hx
      cases he : es[i]? with
      | none => rw [he] at hx; cases hx
      | some e =>
        rw [he] at hx
        have hx : V.ref e.t = x := Option.some.inj hx
        subst hx
        have hm := List.mem_of_getElem? he
        have hil : i < es.length := (List.getElem?_eq_some_iff.mp he).1
        obtain ⟨h0, h1, h2, h3, h4, h5, h6, h7⟩ := hE.a e hm
        refine ⟨e.t, _, rfl, SqT.of (s2 _ _ h1), rfl, _, _, rfl, _, _, rfl, rfl, rfl, ?_⟩
        refine ⟨_, rfl, _, rfl, .list (e.ns.map PyData.int), .list (e.ns.map PyData.int), .lst (SqL.of (s2 _ _ h2)) (ints_dp _), .lst (SqL.of (s2 _ _ h3)) (ints_dp _), shaped_ints _, shaped_ints _, ?_⟩
        rw [eqv_shaped (shaped_ints _)]
        refine ⟨_, e2, small1000 (by rw [List.length_map, List.length_replicate]; omega), same_over s2 nD, ?_⟩
        rw [upd_same, List.replicate_succ', List.map_append]
        rfl
    · rintro H2 ⟨s2, e2⟩
      refine ⟨D, List.replicate _ true, rfl, SqL.of e2, ?_⟩
      have ea : (List.replicate (es.map fun e => V.ref e.t).length true).all id = true := by simp
      rw [ea]
      exact k _
end
end Wl

/-! ### what the top has written (each a fact that k_is finds) -/
namespace Wl
open PySem L2
theorem all_mk {l : PySem.W.OpenLaw} {w : World} {K : PySem.W.Frag} {h : Heap} {mg : Str → Option Value} {fa CB CM CL CW CH f1 f2 f3 f4 f5 f6 f7 f8 f9 f10 f11 f12 f13 f14 f15 f16 f17 f18 f19 f20 f21 f22 f23 f24 : Addr} (X : K.In h) (G : h.Ns mainGlobals mg) (hfa : mg "law" = some (.ref fa))
    {od1 an1 od2 an2 od3 an3 od4 an4 od5 an5 od6 an6 od7 an7 od8 an8 od9 an9 od10 an10 od11 an11 od12 an12 od13 an13 od14 an14 od15 an15 od16 an16 od17 an17 od18 an18 od19 an19 od20 an20 od21 an21 od22 an22 od23 an23 od24 an24 : Option Addr} {sl1 sl2 sl3 sl4 sl5 sl6 sl7 sl8 sl9 sl10 sl11 sl12 sl13 sl14 sl15 sl16 sl17 sl18 sl19 sl20 sl21 sl22 sl23 sl24 : Array (Option Value)}
    {oc1 kV1 dc1 pm1 cd1 ct1 oc2 kV2 dc2 pm2 cd2 ct2 oc3 kV3 dc3 pm3 cd3 ct3 oc4 kV4 dc4 pm4 cd4 ct4 oc5 kV5 dc5 pm5 cd5 ct5 oc6 kV6 dc6 pm6 cd6 ct6 oc7 kV7 dc7 pm7 cd7 ct7 oc8 kV8 dc8 pm8 cd8 ct8 oc9 kV9 dc9 pm9 cd9 ct9 oc10 kV10 dc10 pm10 cd10 ct10 oc11 kV11 dc11 pm11 cd11 ct11 oc12 kV12 dc12 pm12 cd12 ct12 oc13 kV13 dc13 pm13 cd13 ct13 oc14 kV14 dc14 pm14 cd14 ct14 oc15 kV15 dc15 pm15 cd15 ct15 oc16 kV16 dc16 pm16 cd16 ct16 oc17 kV17 dc17 pm17 cd17 ct17 oc18 kV18 dc18 pm18 cd18 ct18 oc19 kV19 dc19 pm19 cd19 ct19 oc20 kV20 dc20 pm20 cd20 ct20 oc21 kV21 dc21 pm21 cd21 ct21 oc22 kV22 dc22 pm22 cd22 ct22 oc23 kV23 dc23 pm23 cd23 ct23 oc24 kV24 dc24 pm24 cd24 ct24 : Value}
    (aB : PySem.W.nsIn K mainGlobals "Box" = some (some (.ref CB)))
    (aM : PySem.W.nsIn K mainGlobals "Maker" = some (some (.ref CM)))
    (aL : PySem.W.nsIn K mainGlobals "Looper" = some (some (.ref CL)))
    (aW : PySem.W.nsIn K mainGlobals "Waiting" = some (some (.ref CW)))
    (aH : PySem.W.nsIn K mainGlobals "Heap" = some (some (.ref CH)))
    (a1 : PySem.W.findIn K (.ref CB) "__init__" = some (some (.ref f1)))
    (i1 : PySem.W.isFn K (.ref f1) = true)
    (l1 : K.lookup f1 = some ⟨oc1, od1, .func (PySem.W.fnOf "__init__" "Box.__init__" (defArgs sBoxI) (defBody sBoxI) (defScope sBoxI) .none kV1 dc1 pm1 an1 cd1 ct1), sl1⟩)
    (c1 : PySem.W.codeIn K cd1 "Box.__init__" = true)
    (k1 : PySem.W.keepIn K (.ref f1) = true)
    (a2 : PySem.W.findIn K (.ref CM) "__init__" = some (some (.ref f2)))
    (i2 : PySem.W.isFn K (.ref f2) = true)
    (l2 : K.lookup f2 = some ⟨oc2, od2, .func (PySem.W.fnOf "__init__" "Maker.__init__" (defArgs sMakI) (defBody sMakI) (defScope sMakI) .none kV2 dc2 pm2 an2 cd2 ct2), sl2⟩)
    (c2 : PySem.W.codeIn K cd2 "Maker.__init__" = true)
    (k2 : PySem.W.keepIn K (.ref f2) = true)
    (a3 : PySem.W.findIn K (.ref CW) "__init__" = some (some (.ref f3)))
    (i3 : PySem.W.isFn K (.ref f3) = true)
    (l3 : K.lookup f3 = some ⟨oc3, od3, .func (PySem.W.fnOf "__init__" "Waiting.__init__" (defArgs sWaiI) (defBody sWaiI) (defScope sWaiI) .none kV3 dc3 pm3 an3 cd3 ct3), sl3⟩)
    (c3 : PySem.W.codeIn K cd3 "Waiting.__init__" = true)
    (k3 : PySem.W.keepIn K (.ref f3) = true)
    (a4 : PySem.W.findIn K (.ref CB) "holds" = some (some (.ref f4)))
    (i4 : PySem.W.isFn K (.ref f4) = true)
    (l4 : K.lookup f4 = some ⟨oc4, od4, .func (PySem.W.fnOf "holds" "Box.holds" (defArgs sBoxH) (defBody sBoxH) (defScope sBoxH) .none kV4 dc4 pm4 an4 cd4 ct4), sl4⟩)
    (c4 : PySem.W.codeIn K cd4 "Box.holds" = true)
    (k4 : PySem.W.keepIn K (.ref f4) = true)
    (a5 : PySem.W.findIn K (.ref CM) "holds" = some (some (.ref f5)))
    (i5 : PySem.W.isFn K (.ref f5) = true)
    (l5 : K.lookup f5 = some ⟨oc5, od5, .func (PySem.W.fnOf "holds" "Maker.holds" (defArgs sMakH) (defBody sMakH) (defScope sMakH) .none kV5 dc5 pm5 an5 cd5 ct5), sl5⟩)
    (c5 : PySem.W.codeIn K cd5 "Maker.holds" = true)
    (k5 : PySem.W.keepIn K (.ref f5) = true)
    (a6 : PySem.W.findIn K (.ref CW) "holds" = some (some (.ref f6)))
    (i6 : PySem.W.isFn K (.ref f6) = true)
    (l6 : K.lookup f6 = some ⟨oc6, od6, .func (PySem.W.fnOf "holds" "Waiting.holds" (defArgs sWaiH) (defBody sWaiH) (defScope sWaiH) .none kV6 dc6 pm6 an6 cd6 ct6), sl6⟩)
    (c6 : PySem.W.codeIn K cd6 "Waiting.holds" = true)
    (k6 : PySem.W.keepIn K (.ref f6) = true)
    (a7 : PySem.W.findIn K (.ref CH) "__init__" = some (some (.ref f7)))
    (i7 : PySem.W.isFn K (.ref f7) = true)
    (l7 : K.lookup f7 = some ⟨oc7, od7, .func (PySem.W.fnOf "__init__" "Heap.__init__" (defArgs sHeapI) (defBody sHeapI) (defScope sHeapI) .none kV7 dc7 pm7 an7 cd7 ct7), sl7⟩)
    (c7 : PySem.W.codeIn K cd7 "Heap.__init__" = true)
    (k7 : PySem.W.keepIn K (.ref f7) = true)
    (a8 : PySem.W.findIn K (.ref CH) "put" = some (some (.ref f8)))
    (i8 : PySem.W.isFn K (.ref f8) = true)
    (l8 : K.lookup f8 = some ⟨oc8, od8, .func (PySem.W.fnOf "put" "Heap.put" (defArgs sPut) (defBody sPut) (defScope sPut) .none kV8 dc8 pm8 an8 cd8 ct8), sl8⟩)
    (c8 : PySem.W.codeIn K cd8 "Heap.put" = true)
    (k8 : PySem.W.keepIn K (.ref f8) = true)
    (a9 : PySem.W.findIn K (.ref CH) "need" = some (some (.ref f9)))
    (i9 : PySem.W.isFn K (.ref f9) = true)
    (l9 : K.lookup f9 = some ⟨oc9, od9, .func (PySem.W.fnOf "need" "Heap.need" (defArgs sNeed) (defBody sNeed) (defScope sNeed) .none kV9 dc9 pm9 an9 cd9 ct9), sl9⟩)
    (c9 : PySem.W.codeIn K cd9 "Heap.need" = true)
    (k9 : PySem.W.keepIn K (.ref f9) = true)
    (a10 : PySem.W.findIn K (.ref CH) "change" = some (some (.ref f10)))
    (i10 : PySem.W.isFn K (.ref f10) = true)
    (l10 : K.lookup f10 = some ⟨oc10, od10, .func (PySem.W.fnOf "change" "Heap.change" (defArgs sChange) (defBody sChange) (defScope sChange) .none kV10 dc10 pm10 an10 cd10 ct10), sl10⟩)
    (c10 : PySem.W.codeIn K cd10 "Heap.change" = true)
    (k10 : PySem.W.keepIn K (.ref f10) = true)
    (a11 : PySem.W.findIn K (.ref CH) "numbers" = some (some (.ref f11)))
    (i11 : PySem.W.isFn K (.ref f11) = true)
    (l11 : K.lookup f11 = some ⟨oc11, od11, .func (PySem.W.fnOf "numbers" "Heap.numbers" (defArgs sNumbers) (defBody sNumbers) (defScope sNumbers) .none kV11 dc11 pm11 an11 cd11 ct11), sl11⟩)
    (c11 : PySem.W.codeIn K cd11 "Heap.numbers" = true)
    (k11 : PySem.W.keepIn K (.ref f11) = true)
    (a12 : PySem.W.findIn K (.ref CH) "reached" = some (some (.ref f12)))
    (i12 : PySem.W.isFn K (.ref f12) = true)
    (l12 : K.lookup f12 = some ⟨oc12, od12, .func (PySem.W.fnOf "reached" "Heap.reached" (defArgs sReached) (defBody sReached) (defScope sReached) .none kV12 dc12 pm12 an12 cd12 ct12), sl12⟩)
    (c12 : PySem.W.codeIn K cd12 "Heap.reached" = true)
    (k12 : PySem.W.keepIn K (.ref f12) = true)
    (a13 : PySem.W.nsIn K mainGlobals "boxes_as_values" = some (some (.ref f13)))
    (l13 : K.lookup f13 = some ⟨oc13, od13, .func (PySem.W.fnOf "boxes_as_values" "boxes_as_values" (defArgs sBav) (defBody sBav) (defScope sBav) .none kV13 dc13 pm13 an13 cd13 ct13), sl13⟩)
    (c13 : PySem.W.codeIn K cd13 "boxes_as_values" = true)
    (k13 : PySem.W.keepIn K (.ref f13) = true)
    (a14 : PySem.W.nsIn K mainGlobals "thing_of" = some (some (.ref f14)))
    (l14 : K.lookup f14 = some ⟨oc14, od14, .func (PySem.W.fnOf "thing_of" "thing_of" (defArgs sThingOf) (defBody sThingOf) (defScope sThingOf) .none kV14 dc14 pm14 an14 cd14 ct14), sl14⟩)
    (c14 : PySem.W.codeIn K cd14 "thing_of" = true)
    (k14 : PySem.W.keepIn K (.ref f14) = true)
    (a15 : PySem.W.nsIn K mainGlobals "_law_draw" = some (some (.ref f15)))
    (l15 : K.lookup f15 = some ⟨oc15, od15, .func (PySem.W.fnOf "_law_draw" "_law_draw" (defArgs sDraw) (defBody sDraw) (defScope sDraw) .none kV15 dc15 pm15 an15 cd15 ct15), sl15⟩)
    (c15 : PySem.W.codeIn K cd15 "_law_draw" = true)
    (k15 : PySem.W.keepIn K (.ref f15) = true)
    (a16 : PySem.W.nsIn K mainGlobals "_law_spread" = some (some (.ref f16)))
    (l16 : K.lookup f16 = some ⟨oc16, od16, .func (PySem.W.fnOf "_law_spread" "_law_spread" (defArgs sSpread) (defBody sSpread) (defScope sSpread) .none kV16 dc16 pm16 an16 cd16 ct16), sl16⟩)
    (c16 : PySem.W.codeIn K cd16 "_law_spread" = true)
    (k16 : PySem.W.keepIn K (.ref f16) = true)
    (a17 : PySem.W.nsIn K mainGlobals "_law_value" = some (some (.ref f17)))
    (l17 : K.lookup f17 = some ⟨oc17, od17, .func (PySem.W.fnOf "_law_value" "_law_value" (defArgs sValue) (defBody sValue) (defScope sValue) .none kV17 dc17 pm17 an17 cd17 ct17), sl17⟩)
    (c17 : PySem.W.codeIn K cd17 "_law_value" = true)
    (k17 : PySem.W.keepIn K (.ref f17) = true)
    (a18 : PySem.W.nsIn K mainGlobals "_law_boxes" = some (some (.ref f18)))
    (l18 : K.lookup f18 = some ⟨oc18, od18, .func (PySem.W.fnOf "_law_boxes" "_law_boxes" (defArgs sBoxes) (defBody sBoxes) (defScope sBoxes) .none kV18 dc18 pm18 an18 cd18 ct18), sl18⟩)
    (c18 : PySem.W.codeIn K cd18 "_law_boxes" = true)
    (k18 : PySem.W.keepIn K (.ref f18) = true)
    (a19 : PySem.W.nsIn K mainGlobals "_law_thing" = some (some (.ref f19)))
    (l19 : K.lookup f19 = some ⟨oc19, od19, .func (PySem.W.fnOf "_law_thing" "_law_thing" (defArgs sThing) (defBody sThing) (defScope sThing) .none kV19 dc19 pm19 an19 cd19 ct19), sl19⟩)
    (c19 : PySem.W.codeIn K cd19 "_law_thing" = true)
    (k19 : PySem.W.keepIn K (.ref f19) = true)
    (a20 : PySem.W.nsIn K mainGlobals "_law_values" = some (some (.ref f20)))
    (l20 : K.lookup f20 = some ⟨oc20, od20, .func (PySem.W.fnOf "_law_values" "_law_values" (defArgs sValues) (defBody sValues) (defScope sValues) .none kV20 dc20 pm20 an20 cd20 ct20), sl20⟩)
    (c20 : PySem.W.codeIn K cd20 "_law_values" = true)
    (k20 : PySem.W.keepIn K (.ref f20) = true)
    (a21 : PySem.W.nsIn K mainGlobals "_law_reached" = some (some (.ref f21)))
    (l21 : K.lookup f21 = some ⟨oc21, od21, .func (PySem.W.fnOf "_law_reached" "_law_reached" (defArgs sLReached) (defBody sLReached) (defScope sLReached) .none kV21 dc21 pm21 an21 cd21 ct21), sl21⟩)
    (c21 : PySem.W.codeIn K cd21 "_law_reached" = true)
    (k21 : PySem.W.keepIn K (.ref f21) = true)
    (a22 : PySem.W.nsIn K mainGlobals "_law_right" = some (some (.ref f22)))
    (l22 : K.lookup f22 = some ⟨oc22, od22, .func (PySem.W.fnOf "_law_right" "_law_right" (defArgs sRight) (defBody sRight) (defScope sRight) .none kV22 dc22 pm22 an22 cd22 ct22), sl22⟩)
    (c22 : PySem.W.codeIn K cd22 "_law_right" = true)
    (k22 : PySem.W.keepIn K (.ref f22) = true)
    (a23 : PySem.W.nsIn K mainGlobals "_law_chain" = some (some (.ref f23)))
    (l23 : K.lookup f23 = some ⟨oc23, od23, .func (PySem.W.fnOf "_law_chain" "_law_chain" (defArgs sChain) (defBody sChain) (defScope sChain) .none kV23 dc23 pm23 an23 cd23 ct23), sl23⟩)
    (c23 : PySem.W.codeIn K cd23 "_law_chain" = true)
    (k23 : PySem.W.keepIn K (.ref f23) = true)
    (a24 : PySem.W.nsIn K mainGlobals "law" = some (some (.ref f24)))
    (l24 : K.lookup f24 = some ⟨oc24, od24, .func (PySem.W.fnOf "law" "law" (defArgs sLaw) (defBody sLaw) (defScope sLaw) .none kV24 dc24 pm24 an24 cd24 ct24), sl24⟩)
    (c24 : PySem.W.codeIn K cd24 "law" = true)
    (k24 : PySem.W.keepIn K (.ref f24) = true)
    (aLi : PySem.W.findIn K (.ref CL) "__init__" = some (some (.ref f2)))
    (aLh : PySem.W.findIn K (.ref CL) "holds" = some (some (.ref f5)))
    (pgB : PySem.W.plainGet K CB Str.empty = true)
    (hdB : PySem.W.hasDictIn K CB = true)
    (poB : PySem.W.plainOver K CB = true)
    (saB : PySem.W.findIn K (.ref CB) "__setattr__" = some (some (.builtin "object.__setattr__")))
    (mkB : PySem.W.makesIn K CB = true)
    (kcB : PySem.W.keepIn K (.ref CB) = true)
    (pgM : PySem.W.plainGet K CM Str.empty = true)
    (hdM : PySem.W.hasDictIn K CM = true)
    (poM : PySem.W.plainOver K CM = true)
    (saM : PySem.W.findIn K (.ref CM) "__setattr__" = some (some (.builtin "object.__setattr__")))
    (mkM : PySem.W.makesIn K CM = true)
    (kcM : PySem.W.keepIn K (.ref CM) = true)
    (pgL : PySem.W.plainGet K CL Str.empty = true)
    (hdL : PySem.W.hasDictIn K CL = true)
    (poL : PySem.W.plainOver K CL = true)
    (saL : PySem.W.findIn K (.ref CL) "__setattr__" = some (some (.builtin "object.__setattr__")))
    (mkL : PySem.W.makesIn K CL = true)
    (kcL : PySem.W.keepIn K (.ref CL) = true)
    (pgW : PySem.W.plainGet K CW Str.empty = true)
    (hdW : PySem.W.hasDictIn K CW = true)
    (poW : PySem.W.plainOver K CW = true)
    (saW : PySem.W.findIn K (.ref CW) "__setattr__" = some (some (.builtin "object.__setattr__")))
    (mkW : PySem.W.makesIn K CW = true)
    (kcW : PySem.W.keepIn K (.ref CW) = true)
    (pgH : PySem.W.plainGet K CH Str.empty = true)
    (hdH : PySem.W.hasDictIn K CH = true)
    (poH : PySem.W.plainOver K CH = true)
    (saH : PySem.W.findIn K (.ref CH) "__setattr__" = some (some (.builtin "object.__setattr__")))
    (mkH : PySem.W.makesIn K CH = true)
    (kcH : PySem.W.keepIn K (.ref CH) = true)
    (nB_value : PySem.W.findIn K (.ref CB) "value" = some none)
    (nM_own : PySem.W.findIn K (.ref CM) "own" = some none)
    (nM_taken : PySem.W.findIn K (.ref CM) "taken" = some none)
    (nL_own : PySem.W.findIn K (.ref CL) "own" = some none)
    (nL_taken : PySem.W.findIn K (.ref CL) "taken" = some none)
    (nW_own : PySem.W.findIn K (.ref CW) "own" = some none)
    (nW_at : PySem.W.findIn K (.ref CW) "at" = some none)
    (nW_slots : PySem.W.findIn K (.ref CW) "slots" = some none)
    (nW_boxes : PySem.W.findIn K (.ref CW) "boxes" = some none)
    (nW_taken : PySem.W.findIn K (.ref CW) "taken" = some none)
    (nH_there : PySem.W.findIn K (.ref CH) "there" = some none)
    (nH_count : PySem.W.findIn K (.ref CH) "count" = some none)
    (z_len : PySem.W.nsIn K mainGlobals "len" = some none)
    (z_range : PySem.W.nsIn K mainGlobals "range" = some none)
    (z_list : PySem.W.nsIn K mainGlobals "list" = some none)
    (z_sorted : PySem.W.nsIn K mainGlobals "sorted" = some none)
    (z_isinstance : PySem.W.nsIn K mainGlobals "isinstance" = some none)
    (z_int : PySem.W.nsIn K mainGlobals "int" = some none)
    (z_bool : PySem.W.nsIn K mainGlobals "bool" = some none)
    (z_tuple : PySem.W.nsIn K mainGlobals "tuple" = some none)
    (z_all : PySem.W.nsIn K mainGlobals "all" = some none)
    : ∃ fd : FuncData, (∀ (s : Shared) (v : Value), BindsTo s fd ⟨[v], []⟩ [("_law_script", v)]) ∧ ∀ base : Heap, K.In base → base.Ns mainGlobals mg → FnOk l.prog w K mg base CX0 6 fa fd ["_law_script"] (spLaw K) := by
  have e := hfa.symm.trans (PySem.W.mg_of X G a24)
  cases e
  have clB : Cls K CB := ⟨pgB, hdB, poB, saB⟩
  have clM : Cls K CM := ⟨pgM, hdM, poM, saM⟩
  have clL : Cls K CL := ⟨pgL, hdL, poL, saL⟩
  have clW : Cls K CW := ⟨pgW, hdW, poW, saW⟩
  have clH : Cls K CH := ⟨pgH, hdH, poH, saH⟩
  have T : Txt K mg ⟨CB, CM, CL, CW, CH⟩ := ⟨clB, clM, clL, clW, clH, nB_value, nM_own, nM_taken, nL_own, nL_taken, nW_own, nW_at, nW_slots, nW_boxes, nW_taken, nH_there, nH_count, PySem.W.mg_of X G aB, PySem.W.mg_of X G aM, PySem.W.mg_of X G aL, PySem.W.mg_of X G aW, PySem.W.mg_of X G aH, PySem.W.mg_none_of X G z_len, PySem.W.mg_none_of X G z_range, PySem.W.mg_none_of X G z_list, PySem.W.mg_none_of X G z_sorted, PySem.W.mg_none_of X G z_isinstance, PySem.W.mg_none_of X G z_int, PySem.W.mg_none_of X G z_bool, PySem.W.mg_none_of X G z_tuple, PySem.W.mg_none_of X G z_all⟩
  have F1 := fun_mk (st := sBoxI) l1 c1 k1
  have F2 := fun_mk (st := sMakI) l2 c2 k2
  have F3 := fun_mk (st := sWaiI) l3 c3 k3
  have F4 := fun_mk (st := sBoxH) l4 c4 k4
  have F5 := fun_mk (st := sMakH) l5 c5 k5
  have F6 := fun_mk (st := sWaiH) l6 c6 k6
  have F7 := fun_mk (st := sHeapI) l7 c7 k7
  have F8 := fun_mk (st := sPut) l8 c8 k8
  have F9 := fun_mk (st := sNeed) l9 c9 k9
  have F10 := fun_mk (st := sChange) l10 c10 k10
  have F11 := fun_mk (st := sNumbers) l11 c11 k11
  have F12 := fun_mk (st := sReached) l12 c12 k12
  have F13 := fun_mk (st := sBav) l13 c13 k13
  have F14 := fun_mk (st := sThingOf) l14 c14 k14
  have F15 := fun_mk (st := sDraw) l15 c15 k15
  have F16 := fun_mk (st := sSpread) l16 c16 k16
  have F17 := fun_mk (st := sValue) l17 c17 k17
  have F18 := fun_mk (st := sBoxes) l18 c18 k18
  have F19 := fun_mk (st := sThing) l19 c19 k19
  have F20 := fun_mk (st := sValues) l20 c20 k20
  have F21 := fun_mk (st := sLReached) l21 c21 k21
  have F22 := fun_mk (st := sRight) l22 c22 k22
  have F23 := fun_mk (st := sChain) l23 c23 k23
  have F24 := fun_mk (st := sLaw) l24 c24 k24
  have b1 := F1.binds (ps := ["self", "value"]) fun _ _ _ _ _ _ us hl => match us, hl with | [_, _], _ => rfl
  have b2 := F2.binds (ps := ["self", "own", "taken"]) fun _ _ _ _ _ _ us hl => match us, hl with | [_, _, _], _ => rfl
  have b3 := F3.binds (ps := ["self", "own", "at", "slots", "boxes", "taken"]) fun _ _ _ _ _ _ us hl => match us, hl with | [_, _, _, _, _, _], _ => rfl
  have b4 := F4.binds (ps := ["self"]) fun _ _ _ _ _ _ us hl => match us, hl with | [_], _ => rfl
  have b5 := F5.binds (ps := ["self"]) fun _ _ _ _ _ _ us hl => match us, hl with | [_], _ => rfl
  have b6 := F6.binds (ps := ["self"]) fun _ _ _ _ _ _ us hl => match us, hl with | [_], _ => rfl
  have b7 := F7.binds (ps := ["self"]) fun _ _ _ _ _ _ us hl => match us, hl with | [_], _ => rfl
  have b8 := F8.binds (ps := ["self", "thing"]) fun _ _ _ _ _ _ us hl => match us, hl with | [_, _], _ => rfl
  have b9 := F9.binds (ps := ["self", "k"]) fun _ _ _ _ _ _ us hl => match us, hl with | [_, _], _ => rfl
  have b10 := F10.binds (ps := ["self", "k", "thing"]) fun _ _ _ _ _ _ us hl => match us, hl with | [_, _, _], _ => rfl
  have b11 := F11.binds (ps := ["self"]) fun _ _ _ _ _ _ us hl => match us, hl with | [_], _ => rfl
  have b12 := F12.binds (ps := ["self", "values"]) fun _ _ _ _ _ _ us hl => match us, hl with | [_, _], _ => rfl
  have b13 := F13.binds (ps := ["numbers"]) fun _ _ _ _ _ _ us hl => match us, hl with | [_], _ => rfl
  have b14 := F14.binds (ps := ["told"]) fun _ _ _ _ _ _ us hl => match us, hl with | [_], _ => rfl
  have b15 := F15.binds (ps := ["_law_script", "_law_k"]) fun _ _ _ _ _ _ us hl => match us, hl with | [_, _], _ => rfl
  have b16 := F16.binds (ps := ["_law_cell", "_law_k"]) fun _ _ _ _ _ _ us hl => match us, hl with | [_, _], _ => rfl
  have b17 := F17.binds (ps := ["_law_cell", "_law_many"]) fun _ _ _ _ _ _ us hl => match us, hl with | [_, _], _ => rfl
  have b18 := F18.binds (ps := ["_law_cell", "_law_many"]) fun _ _ _ _ _ _ us hl => match us, hl with | [_, _], _ => rfl
  have b19 := F19.binds (ps := ["_law_cell", "_law_many"]) fun _ _ _ _ _ _ us hl => match us, hl with | [_, _], _ => rfl
  have b20 := F20.binds (ps := ["_law_thing_here"]) fun _ _ _ _ _ _ us hl => match us, hl with | [_], _ => rfl
  have b21 := F21.binds (ps := ["_law_things", "_law_values_here"]) fun _ _ _ _ _ _ us hl => match us, hl with | [_, _], _ => rfl
  have b22 := F22.binds (ps := ["_law_heap", "_law_things", "_law_values_here", "_law_held"]) fun _ _ _ _ _ _ us hl => match us, hl with | [_, _, _, _], _ => rfl
  have b23 := F23.binds (ps := ["_law_cell"]) fun _ _ _ _ _ _ us hl => match us, hl with | [_], _ => rfl
  refine ⟨PySem.W.fnOf "law" "law" (defArgs sLaw) (defBody sLaw) (defScope sLaw) .none kV24 dc24 pm24 an24 cd24 ct24, fun s v => .of_eq rfl, fun base _ _ => ?_⟩
  have kB : Kf l.prog w K mg base "Box" CB f1 _ ["self", "value"] (spBoxI ⟨CB, CM, CL, CW, CH⟩) := ⟨ok_boxI F1 T, ⟨mkB, a1, i1, kcB⟩, PySem.W.mg_of X G aB, b1⟩
  have kM : Kf l.prog w K mg base "Maker" CM f2 _ ["self", "own", "taken"] (spMakI CM) := ⟨ok_makI F2 clM nM_own nM_taken, ⟨mkM, a2, i2, kcM⟩, PySem.W.mg_of X G aM, b2⟩
  have kL : Kf l.prog w K mg base "Looper" CL f2 _ ["self", "own", "taken"] (spMakI CL) := ⟨ok_makI F2 clL nL_own nL_taken, ⟨mkL, aLi, i2, kcL⟩, PySem.W.mg_of X G aL, b2⟩
  have kW : Kf l.prog w K mg base "Waiting" CW f3 _ ["self", "own", "at", "slots", "boxes", "taken"] (spWaiI ⟨CB, CM, CL, CW, CH⟩) := ⟨ok_waiI F3 T, ⟨mkW, a3, i3, kcW⟩, PySem.W.mg_of X G aW, b3⟩
  have kH : Kf l.prog w K mg base "Heap" CH f7 _ ["self"] (spHeapI ⟨CB, CM, CL, CW, CH⟩) := ⟨ok_heapI F7 T, ⟨mkH, a7, i7, kcH⟩, PySem.W.mg_of X G aH, b7⟩
  have dBav : Df l.prog w K mg base 1 "boxes_as_values" f13 _ ["numbers"] spBav := ⟨ok_bav F13, PySem.W.mg_of X G a13, k13, b13⟩
  have hB : Mf l.prog w K mg base 1 CB "holds" f4 _ ["self"] (spBoxH ⟨CB, CM, CL, CW, CH⟩) := ⟨ok_boxH F4 T, clB, ⟨a4, i4, k4⟩, b4⟩
  have hM : Mf l.prog w K mg base 2 CM "holds" f5 _ ["self"] (spMakH CM) := ⟨ok_makH F5 clM nM_taken dBav, clM, ⟨a5, i5, k5⟩, b5⟩
  have hL : Mf l.prog w K mg base 2 CL "holds" f5 _ ["self"] (spMakH CL) := ⟨ok_makH F5 clL nL_taken dBav, clL, ⟨aLh, i5, k5⟩, b5⟩
  have hW : Mf l.prog w K mg base 2 CW "holds" f6 _ ["self"] (spWaiH ⟨CB, CM, CL, CW, CH⟩) := ⟨ok_waiH F6 T dBav, clW, ⟨a6, i6, k6⟩, b6⟩
  have dTo : Df l.prog w K mg base 3 "thing_of" f14 _ ["told"] (spThingOf ⟨CB, CM, CL, CW, CH⟩) := ⟨ok_thingOf F14 ⟨kB, kM, kL, kW⟩, PySem.W.mg_of X G a14, k14, b14⟩
  have mPut : Mf l.prog w K mg base 4 CH "put" f8 _ ["self", "thing"] (spPut ⟨CB, CM, CL, CW, CH⟩) := ⟨ok_put F8 T dTo, clH, ⟨a8, i8, k8⟩, b8⟩
  have mNeed : Mf l.prog w K mg base 1 CH "need" f9 _ ["self", "k"] (spNeed ⟨CB, CM, CL, CW, CH⟩) := ⟨ok_need F9 T, clH, ⟨a9, i9, k9⟩, b9⟩
  have mChg : Mf l.prog w K mg base 4 CH "change" f10 _ ["self", "k", "thing"] (spChange ⟨CB, CM, CL, CW, CH⟩) := ⟨ok_change F10 T dTo mNeed, clH, ⟨a10, i10, k10⟩, b10⟩
  have mNum : Mf l.prog w K mg base 1 CH "numbers" f11 _ ["self"] (spNumbers ⟨CB, CM, CL, CW, CH⟩) := ⟨ok_numbers F11 T, clH, ⟨a11, i11, k11⟩, b11⟩
  have mRch : Mf l.prog w K mg base 3 CH "reached" f12 _ ["self", "values"] (spReached ⟨CB, CM, CL, CW, CH⟩ K) := ⟨ok_reached F12 T ⟨hB, hM, hL, hW⟩, clH, ⟨a12, i12, k12⟩, b12⟩
  have dDr : Df l.prog w K mg base 1 "_law_draw" f15 _ ["_law_script", "_law_k"] (spDraw K) := ⟨ok_draw F15 T, PySem.W.mg_of X G a15, k15, b15⟩
  have dSp : Df l.prog w K mg base 1 "_law_spread" f16 _ ["_law_cell", "_law_k"] spSpread := ⟨ok_spread F16, PySem.W.mg_of X G a16, k16, b16⟩
  have dVa : Df l.prog w K mg base 1 "_law_value" f17 _ ["_law_cell", "_law_many"] spValue := ⟨ok_value F17, PySem.W.mg_of X G a17, k17, b17⟩
  have dBo : Df l.prog w K mg base 1 "_law_boxes" f18 _ ["_law_cell", "_law_many"] spBoxes := ⟨ok_boxes F18 T, PySem.W.mg_of X G a18, k18, b18⟩
  have dTh : Df l.prog w K mg base 2 "_law_thing" f19 _ ["_law_cell", "_law_many"] spThing := ⟨ok_thing F19 T dSp dVa dBo, PySem.W.mg_of X G a19, k19, b19⟩
  have dVs : Df l.prog w K mg base 1 "_law_values" f20 _ ["_law_thing_here"] spValues := ⟨ok_values F20 T, PySem.W.mg_of X G a20, k20, b20⟩
  have dLr : Df l.prog w K mg base 2 "_law_reached" f21 _ ["_law_things", "_law_values_here"] spLReached := ⟨ok_lreached F21 T dVs, PySem.W.mg_of X G a21, k21, b21⟩
  have dRi : Df l.prog w K mg base 4 "_law_right" f22 _ ["_law_heap", "_law_things", "_law_values_here", "_law_held"] (spRight ⟨CB, CM, CL, CW, CH⟩) := ⟨ok_right F22 T dLr mRch mNum, PySem.W.mg_of X G a22, k22, b22⟩
  have dCh : Df l.prog w K mg base 5 "_law_chain" f23 _ ["_law_cell"] spChain := ⟨ok_chain F23 T kH mPut mRch mNum, PySem.W.mg_of X G a23, k23, b23⟩
  exact ok_law F24 T dDr dSp dVa dTh dRi dCh kH mPut mChg mRch
theorem walk {l : PySem.W.OpenLaw} {q : Program} {loose : List Str} {XP : (Str → Option Value) → Heap → Prop} {YP : World → Heap → Prop} {d : DefRec} {K : Params → PySem.W.Frag} (hn : l.most = some 63) (hdf : d.params.defaults = [])
    (hY : ∀ (w : World) (h : Heap), YP w h → (K w.params).In h)
    (F : ∀ (w : World) (mg : Str → Option Value) (fa : Addr) (h : Heap), (K w.params).In h → h.Ns mainGlobals mg → mg d.name = some (.ref fa) →
      ∃ fd : FuncData, (∀ (s : Shared) (u : Value), BindsTo s fd ⟨[u], []⟩ [("_law_script", u)]) ∧ ∀ base : Heap, (K w.params).In base → base.Ns mainGlobals mg → FnOk l.prog w (K w.params) mg base CX0 6 fa fd ["_law_script"] (spLaw (K w.params))) :
    PySem.W.WalkO q loose XP YP l.row.toRowW d [] (fun f vs => PySem.call f vs) :=
  L2.walk_of (n := 63) (k := 6) (x := "_law_script") (CX := fun _ => CX0) (sp := fun w => spLaw (K w.params)) hn (by decide) hdf ⟨rfl, by decide, by decide⟩ hY F (fun _ _ a ns hl _ hS => ⟨a, ns, rfl, hS, hl, fun _ => rfl⟩) fun _ _ _ _ _ z => z
end Wl
open PySem PySem.W PyProof.Rows
set_option maxRecDepth 100000 in
set_option maxHeartbeats 0 in
theorem PySem.Challenge.cw_waitloom_k24_what_is_reached_holds : PySem.Challenge.rw_waitloom_k24_what_is_reached.Holds := by
  w_on; o_law; k_head; (case hw => w_witness2)
  k_fill
  refine Wl.walk (l := PySem.Challenge.rw_waitloom_k24_what_is_reached) rfl rfl (fun w h Y => PySem.W.kIn_of Y) ?F
  case F =>
    intro w mg fa h KX G hmg
    refine' Wl.all_mk KX G hmg ?aB ?aM ?aL ?aW ?aH ?a1 ?i1 ?l1 ?c1 ?k1 ?a2 ?i2 ?l2 ?c2 ?k2 ?a3 ?i3 ?l3 ?c3 ?k3 ?a4 ?i4 ?l4 ?c4 ?k4 ?a5 ?i5 ?l5 ?c5 ?k5 ?a6 ?i6 ?l6 ?c6 ?k6 ?a7 ?i7 ?l7 ?c7 ?k7 ?a8 ?i8 ?l8 ?c8 ?k8 ?a9 ?i9 ?l9 ?c9 ?k9 ?a10 ?i10 ?l10 ?c10 ?k10 ?a11 ?i11 ?l11 ?c11 ?k11 ?a12 ?i12 ?l12 ?c12 ?k12 ?a13 ?l13 ?c13 ?k13 ?a14 ?l14 ?c14 ?k14 ?a15 ?l15 ?c15 ?k15 ?a16 ?l16 ?c16 ?k16 ?a17 ?l17 ?c17 ?k17 ?a18 ?l18 ?c18 ?k18 ?a19 ?l19 ?c19 ?k19 ?a20 ?l20 ?c20 ?k20 ?a21 ?l21 ?c21 ?k21 ?a22 ?l22 ?c22 ?k22 ?a23 ?l23 ?c23 ?k23 ?a24 ?l24 ?c24 ?k24 ?aLi ?aLh ?pgB ?hdB ?poB ?saB ?mkB ?kcB ?pgM ?hdM ?poM ?saM ?mkM ?kcM ?pgL ?hdL ?poL ?saL ?mkL ?kcL ?pgW ?hdW ?poW ?saW ?mkW ?kcW ?pgH ?hdH ?poH ?saH ?mkH ?kcH ?nB_value ?nM_own ?nM_taken ?nL_own ?nL_taken ?nW_own ?nW_at ?nW_slots ?nW_boxes ?nW_taken ?nH_there ?nH_count ?z_len ?z_range ?z_list ?z_sorted ?z_isinstance ?z_int ?z_bool ?z_tuple ?z_all
    (case aB => k_is)
    (case aM => k_is)
    (case aL => k_is)
    (case aW => k_is)
    (case aH => k_is)
    (case a1 => k_is)
    (case i1 => k_is)
    (case l1 => k_is)
    (case c1 => k_is)
    (case k1 => k_is)
    (case a2 => k_is)
    (case i2 => k_is)
    (case l2 => k_is)
    (case c2 => k_is)
    (case k2 => k_is)
    (case a3 => k_is)
    (case i3 => k_is)
    (case l3 => k_is)
    (case c3 => k_is)
    (case k3 => k_is)
    (case a4 => k_is)
    (case i4 => k_is)
    (case l4 => k_is)
    (case c4 => k_is)
    (case k4 => k_is)
    (case a5 => k_is)
    (case i5 => k_is)
    (case l5 => k_is)
    (case c5 => k_is)
    (case k5 => k_is)
    (case a6 => k_is)
    (case i6 => k_is)
    (case l6 => k_is)
    (case c6 => k_is)
    (case k6 => k_is)
    (case a7 => k_is)
    (case i7 => k_is)
    (case l7 => k_is)
    (case c7 => k_is)
    (case k7 => k_is)
    (case a8 => k_is)
    (case i8 => k_is)
    (case l8 => k_is)
    (case c8 => k_is)
    (case k8 => k_is)
    (case a9 => k_is)
    (case i9 => k_is)
    (case l9 => k_is)
    (case c9 => k_is)
    (case k9 => k_is)
    (case a10 => k_is)
    (case i10 => k_is)
    (case l10 => k_is)
    (case c10 => k_is)
    (case k10 => k_is)
    (case a11 => k_is)
    (case i11 => k_is)
    (case l11 => k_is)
    (case c11 => k_is)
    (case k11 => k_is)
    (case a12 => k_is)
    (case i12 => k_is)
    (case l12 => k_is)
    (case c12 => k_is)
    (case k12 => k_is)
    (case a13 => k_is)
    (case l13 => k_is)
    (case c13 => k_is)
    (case k13 => k_is)
    (case a14 => k_is)
    (case l14 => k_is)
    (case c14 => k_is)
    (case k14 => k_is)
    (case a15 => k_is)
    (case l15 => k_is)
    (case c15 => k_is)
    (case k15 => k_is)
    (case a16 => k_is)
    (case l16 => k_is)
    (case c16 => k_is)
    (case k16 => k_is)
    (case a17 => k_is)
    (case l17 => k_is)
    (case c17 => k_is)
    (case k17 => k_is)
    (case a18 => k_is)
    (case l18 => k_is)
    (case c18 => k_is)
    (case k18 => k_is)
    (case a19 => k_is)
    (case l19 => k_is)
    (case c19 => k_is)
    (case k19 => k_is)
    (case a20 => k_is)
    (case l20 => k_is)
    (case c20 => k_is)
    (case k20 => k_is)
    (case a21 => k_is)
    (case l21 => k_is)
    (case c21 => k_is)
    (case k21 => k_is)
    (case a22 => k_is)
    (case l22 => k_is)
    (case c22 => k_is)
    (case k22 => k_is)
    (case a23 => k_is)
    (case l23 => k_is)
    (case c23 => k_is)
    (case k23 => k_is)
    (case a24 => k_is)
    (case l24 => k_is)
    (case c24 => k_is)
    (case k24 => k_is)
    (case aLi => k_is)
    (case aLh => k_is)
    (case pgB => k_is)
    (case hdB => k_is)
    (case poB => k_is)
    (case saB => k_is)
    (case mkB => k_is)
    (case kcB => k_is)
    (case pgM => k_is)
    (case hdM => k_is)
    (case poM => k_is)
    (case saM => k_is)
    (case mkM => k_is)
    (case kcM => k_is)
    (case pgL => k_is)
    (case hdL => k_is)
    (case poL => k_is)
    (case saL => k_is)
    (case mkL => k_is)
    (case kcL => k_is)
    (case pgW => k_is)
    (case hdW => k_is)
    (case poW => k_is)
    (case saW => k_is)
    (case mkW => k_is)
    (case kcW => k_is)
    (case pgH => k_is)
    (case hdH => k_is)
    (case poH => k_is)
    (case saH => k_is)
    (case mkH => k_is)
    (case kcH => k_is)
    (case nB_value => k_is)
    (case nM_own => k_is)
    (case nM_taken => k_is)
    (case nL_own => k_is)
    (case nL_taken => k_is)
    (case nW_own => k_is)
    (case nW_at => k_is)
    (case nW_slots => k_is)
    (case nW_boxes => k_is)
    (case nW_taken => k_is)
    (case nH_there => k_is)
    (case nH_count => k_is)
    (case z_len => k_is)
    (case z_range => k_is)
    (case z_list => k_is)
    (case z_sorted => k_is)
    (case z_isinstance => k_is)
    (case z_int => k_is)
    (case z_bool => k_is)
    (case z_tuple => k_is)
    (case z_all => k_is)

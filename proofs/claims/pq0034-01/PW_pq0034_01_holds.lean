import PyProof.Rows.All
import Wide.All
import OpenK.AllK
import Wide.FinOn
import OpenK.KMake
import KE.KSortTup
import PyProof.AttrMissHeap
import KE.KDictOf
import KE.KSuperObj
import KE.KSuper
import PySem.Challenge.RW_pq0034_01
set_option Elab.async false
set_option maxRecDepth 100000
set_option maxHeartbeats 8000000
set_option backward.defeqAttrib.useBackward true
set_option genInjectivity false
set_option genSizeOfSpec false
set_option linter.unusedVariables false
set_option linter.unusedSimpArgs false
section
local macro_rules | `(tactic| omega) => `(tactic| lia)
-- part So1
section
open PySem PySem.W PyProof.Rows
namespace Mine

noncomputable def gallop' : Bool → Keyed → Array Keyed → Nat → Nat → Nat → StateT SortSt Sem (Option Nat) := sortPriv% PySem.Builtin.gallop
noncomputable def setMin' : Nat → StateT SortSt Sem Unit := sortPriv% PySem.Builtin.setMinGallop
noncomputable def mergeLo' : Array Keyed → Array Keyed → StateT SortSt Sem (Array Keyed) := sortPriv% PySem.Builtin.mergeLo
noncomputable def mergeHi' : Array Keyed → Array Keyed → StateT SortSt Sem (Array Keyed) := sortPriv% PySem.Builtin.mergeHi

noncomputable def beyond (left : Bool) (key : Keyed) (arr : Array Keyed) (base i : Nat) : StateT SortSt Sem (Option Bool) := do
  let x ← elem' arr (base + i)
  if left then lt' x key else return (← lt' key x).map (!·)

noncomputable def gallopEnd (left : Bool) (key : Keyed) (arr : Array Keyed) (base n lo₀ hi₀ : Nat) : StateT SortSt Sem (Option Nat) := do
  let mut lo := lo₀
  let mut hi := hi₀
  for _ in [0:n] do
    if lo ≥ hi then break
    let m := lo + (hi - lo) / 2
    let some more ← beyond left key arr base m | return none
    if more then lo := m + 1 else hi := m
  return some hi
theorem gallop'_eq (left : Bool) (key : Keyed) (arr : Array Keyed) (base n hint : Nat) : gallop' left key arr base n hint = (do
  let mut lastofs := 0
  let mut ofs := 1
  let mut lo := 0
  let mut hi := 0
  let some right ← beyond left key arr base hint | return none
  if right then
    let maxofs := n - hint
    for _ in [0:n] do
      if ofs ≥ maxofs then break
      let some more ← beyond left key arr base (hint + ofs) | return none
      if !more then break
      lastofs := ofs
      ofs := 2 * ofs + 1
    lo := hint + lastofs + 1
    hi := hint + min ofs maxofs
  else
    let maxofs := hint + 1
    for _ in [0:n] do
      if ofs ≥ maxofs then break
      let some found ← beyond left key arr base (hint - ofs) | return none
      if found then break
      lastofs := ofs
      ofs := 2 * ofs + 1
    lo := hint + 1 - min ofs maxofs
    hi := hint - lastofs
  gallopEnd left key arr base n lo hi) := rfl

section
variable {M : Model} {A : Around} {E : Value → Shared → Prop} {s : Shared} {κ : SortKind} {S : Keyed → Prop}

/-- two of these may be compared, with whatever answer -/
noncomputable def LtOk (M : Model) (A : Around) (E : Value → Shared → Prop) (s : Shared) (κ : SortKind) (S : Keyed → Prop) : Prop :=
  ∀ x y, S x → S y → ∀ (Q : Option Bool → SortSt → Prop) (st : SortSt), kindOf st = κ → (∀ b, Q (some b) st) → wpS M A E s (lt' x y) Q st

theorem wpS_elem {arr : Array Keyed} {i : Nat} {x : Keyed} {Q : Keyed → SortSt → Prop} {st : SortSt} (hx : arr[i]? = some x) (h : Q x st) : wpS M A E s (elem' arr i) Q st := by
  rw [elem'_eq, hx]
  exact wpS_pure h
theorem wpS_beyond (H : LtOk M A E s κ S) {left : Bool} {key x : Keyed} {arr : Array Keyed} {base i : Nat} {Q : Option Bool → SortSt → Prop} {st : SortSt} (hk : kindOf st = κ) (hkey : S key) (hx : arr[base + i]? = some x) (hs : S x)
    (h : ∀ b, Q (some b) st) : wpS M A E s (beyond left key arr base i) Q st := by
  unfold beyond
  refine wpS_bind (wpS_elem hx ?_)
  cases left with
  | true => exact H _ _ hs hkey _ _ hk h
  | false => exact wpS_bind (H _ _ hkey hs _ _ hk fun b => wpS_pure (h _))

theorem wpS_gallop (H : LtOk M A E s κ S) {left : Bool} {key : Keyed} {arr : Array Keyed} {base n hint : Nat} {Q : Option Nat → SortSt → Prop} {st : SortSt} (hk : kindOf st = κ) (hkey : S key)
    (ha : ∀ i, i < n → ∃ x, arr[base + i]? = some x ∧ S x) (hh : hint < n) (h : ∀ k, k ≤ n → Q (some k) st) : wpS M A E s (gallop' left key arr base n hint) Q st := by
  have by_ : ∀ {i : Nat} {Q' : Option Bool → SortSt → Prop}, i < n → (∀ b, Q' (some b) st) → wpS M A E s (beyond left key arr base i) Q' st := fun hi hq => by
    obtain ⟨x, hx, hs⟩ := ha _ hi
    exact wpS_beyond H hk hkey hx hs hq
  have fin : ∀ lo hi : Nat, hi ≤ n → wpS M A E s (gallopEnd left key arr base n lo hi) Q st := fun lo hi hn => by
    unfold gallopEnd
    dsimp only
    refine wpS_bind (wpS_mono (wpS_forRange (I := fun _ c st' => st' = st ∧ ∃ a b, c = (none, a, b) ∧ b ≤ n) (Q := fun c st' => st' = st ∧ ∃ a b, c = (none, a, b) ∧ b ≤ n) ?_ (fun _ _ h => h) ⟨rfl, lo, hi, rfl, hn⟩) ?_)
    · rintro x c st' _ _ ⟨rfl, a, b, rfl, hb⟩
      dsimp only
      by_cases q : a ≥ b
      · rw [if_pos q]; exact wpS_pure ⟨rfl, a, b, rfl, hb⟩
      · rw [if_neg q]
        refine wpS_bind (by_ (by omega) fun c => ?_)
        dsimp only
        cases c with
        | true => exact wpS_pure ⟨rfl, _, b, rfl, hb⟩
        | false => exact wpS_pure ⟨rfl, a, _, rfl, by omega⟩
    · rintro c st' ⟨rfl, a, b, rfl, hb⟩
      exact wpS_pure (h b hb)
  rw [gallop'_eq]
  dsimp only
  refine wpS_bind (by_ hh fun b => ?_)
  dsimp only
  cases b with
  | true =>
    simp only [if_true]
    refine wpS_bind (wpS_mono (wpS_forRange (I := fun _ c st' => st' = st ∧ ∃ a b, c = (none, a, b)) (Q := fun c st' => st' = st ∧ ∃ a b, c = (none, a, b)) ?_ (fun _ _ h => h) ⟨rfl, 0, 1, rfl⟩) ?_)
    · rintro x c st' _ _ ⟨rfl, a, b, rfl⟩
      dsimp only
      by_cases q : b ≥ n - hint
      · rw [if_pos q]; exact wpS_pure ⟨rfl, a, b, rfl⟩
      · rw [if_neg q]
        refine wpS_bind (by_ (by omega) fun c => ?_)
        dsimp only
        cases c with
        | true => exact wpS_pure ⟨rfl, b, _, rfl⟩
        | false => exact wpS_pure ⟨rfl, a, b, rfl⟩
    · rintro c st' ⟨rfl, a, b, rfl⟩
      exact fin (hint + a + 1) (hint + min b (n - hint)) (by omega)
  | false =>
    simp only [Bool.false_eq_true, if_false]
    refine wpS_bind (wpS_mono (wpS_forRange (I := fun _ c st' => st' = st ∧ ∃ a b, c = (none, a, b)) (Q := fun c st' => st' = st ∧ ∃ a b, c = (none, a, b)) ?_ (fun _ _ h => h) ⟨rfl, 0, 1, rfl⟩) ?_)
    · rintro x c st' _ _ ⟨rfl, a, b, rfl⟩
      dsimp only
      by_cases q : b ≥ hint + 1
      · rw [if_pos q]; exact wpS_pure ⟨rfl, a, b, rfl⟩
      · rw [if_neg q]
        refine wpS_bind (by_ (by omega) fun c => ?_)
        dsimp only
        cases c with
        | true => exact wpS_pure ⟨rfl, a, b, rfl⟩
        | false => exact wpS_pure ⟨rfl, b, _, rfl⟩
    · rintro c st' ⟨rfl, a, b, rfl⟩
      exact fin (hint + 1 - min b (hint + 1)) (hint - a) (by omega)
end
end Mine
end
-- part N1
section
open PySem PySem.W PyProof.Rows
namespace Mine
abbrev KA := Array Keyed
abbrev SS' := StateT SortSt Sem
abbrev T3 (α β γ δ : Type) := Option KA × α × β × γ × δ
section
variable {α β γ : Type} {M : Model} {A : Around} {E : Value → Shared → Prop} {s : Shared}
/-- all but the gallop's bound -/
structure SameG (st st' : SortSt) : Prop where
  k : kindOf st' = kindOf st
  a : arrOf st' = arrOf st
  p : pendingOf st' = pendingOf st
  f : failedOf st' = failedOf st

theorem SameG.rfl' {st : SortSt} : SameG st st := ⟨rfl, rfl, rfl, rfl⟩
theorem wpS_setMin {M : Model} {n : Nat} {Q : Unit → SortSt → Prop} {st st₀ : SortSt} (g : SameG st₀ st) (h : ∀ st', SameG st₀ st' → Q () st') : wpS M A E s (setMin' n) Q st :=
  wpS_modify (h _ ⟨g.k, g.a, g.p, g.f⟩)

/-- as a do-block leaves a loop -/
noncomputable def brk {ρ β : Type} (r : Option ρ) (f : ρ → SS' β) (g : SS' β) : SS' β := Break.runK.match_1 (fun _ => SS' β) r f fun _ => g
noncomputable def mOut (tot : Nat) (inn : Nat → T3 α β γ (Nat × Nat) → SS' (ForInStep (T3 α β γ (Nat × Nat)))) (gal : T3 α β γ (Nat × Nat × Nat) → SS' (ForInStep (T3 α β γ (Nat × Nat × Nat)))) (c : T3 α β γ Nat) : SS' (ForInStep (T3 α β γ Nat)) :=
  (forIn [:tot] ((none, c.2.1, c.2.2.1, c.2.2.2.1, 0, 0) : T3 α β γ (Nat × Nat)) fun _ d => inn c.2.2.2.2 d) >>= fun d => brk d.1 (fun r => pure (.done (some r, d.2.1, d.2.2.1, d.2.2.2.1, c.2.2.2.2)))
  ((liftM (rule "list.sort.gallop") : SS' Unit) >>= fun _ => (forIn [:tot] ((none, d.2.1, d.2.2.1, d.2.2.2.1, c.2.2.2.2 + 1, d.2.2.2.2.1, d.2.2.2.2.2) : T3 α β γ (Nat × Nat × Nat)) fun _ e => gal e) >>= fun e => brk e.1 (fun r => pure (.done (some r, e.2.1, e.2.2.1, e.2.2.2.1, e.2.2.2.2.1)))
    (setMin' (e.2.2.2.2.1 + 1) >>= fun _ => pure (.yield (none, e.2.1, e.2.2.1, e.2.2.2.1, e.2.2.2.2.1 + 1))))
noncomputable def mLoops (tot : Nat) (inn : Nat → T3 α β γ (Nat × Nat) → SS' (ForInStep (T3 α β γ (Nat × Nat)))) (gal : T3 α β γ (Nat × Nat × Nat) → SS' (ForInStep (T3 α β γ (Nat × Nat × Nat)))) (x : α) (y : β) (z : γ) (mg : Nat) : SS' (T3 α β γ Nat) :=
  forIn [:tot] ((none, x, y, z, mg) : T3 α β γ Nat) fun _ c => mOut tot inn gal c
/-- a loop's turn: an end, or on -/
structure GQ {δ : Type} (X : KA → SortSt → Prop) (R P : α → β → γ → SortSt → Prop) (Q : ForInStep (T3 α β γ δ) → SortSt → Prop) : Prop where
  q1 : ∀ {r c st}, X r st → Q (.done (some r, c)) st
  q2 : ∀ {x y z c st}, R x y z st → Q (.done (none, x, y, z, c)) st
  q3 : ∀ {x y z c st}, P x y z st → Q (.yield (none, x, y, z, c)) st
noncomputable def LpO {δ : Type} (X : KA → SortSt → Prop) (P : α → β → γ → SortSt → Prop) : T3 α β γ δ → SortSt → Prop
  | (none, x, y, z, _), st => P x y z st
  | (some r, _), st => X r st
noncomputable def LpI {δ : Type} (P : α → β → γ → SortSt → Prop) (c : T3 α β γ δ) (st : SortSt) : Prop := LpO (fun _ _ => False) P c st
theorem wpS_lp {δ : Type} {X : KA → SortSt → Prop} {P : Nat → α → β → γ → SortSt → Prop} {R : α → β → γ → SortSt → Prop} {f : T3 α β γ δ → SS' (ForInStep (T3 α β γ δ))} {tot : Nat}
    (hf : ∀ {n x y z d st Q}, P n x y z st → GQ X R (P (n + 1)) Q → wpS M A E s (f (none, x, y, z, d)) Q st) (hR : ∀ {x y z st}, P tot x y z st → R x y z st) {x : α} {y : β} {z : γ} {d : δ} {st : SortSt} (h : P 0 x y z st) : wpS M A E s (forIn [:tot] ((none, x, y, z, d) : T3 α β γ δ) fun _ c => f c) (LpO X R) st := by
  refine wpS_forRange (I := fun i => LpI (P i)) (fun i c st _ _ h => ?_) (fun c st h => ?_) h
  · obtain ⟨_ | r, x, y, z, d⟩ := c
    · exact hf h ⟨fun h => h, fun h => h, fun h => h⟩
    · exact h.elim
  · rw [Nat.max_eq_right (Nat.zero_le _)] at h
    obtain ⟨_ | r, x, y, z, d⟩ := c
    · exact hR h
    · exact h.elim
theorem wpS_mLoops {tot : Nat} {inn : Nat → T3 α β γ (Nat × Nat) → SS' (ForInStep (T3 α β γ (Nat × Nat)))} {gal : T3 α β γ (Nat × Nat × Nat) → SS' (ForInStep (T3 α β γ (Nat × Nat × Nat)))} {P : Nat → α → β → γ → SortSt → Prop} {X : KA → SortSt → Prop}
    (h0 : ∀ {m n x y z st}, m ≤ n → P n x y z st → P m x y z st) (h1 : ∀ {x y z st}, ¬ P (tot + 1) x y z st) (hg : ∀ {n x y z st st'}, P n x y z st → SameG st st' → P n x y z st')
    (hi : ∀ {n mg x y z d st Q}, P n x y z st → GQ X (P (n + 1)) (P (n + 1)) Q → wpS M A E s (inn mg (none, x, y, z, d)) Q st)
    (hl : ∀ {n x y z d st Q}, P n x y z st → GQ X (P n) (P n) Q → wpS M A E s (gal (none, x, y, z, d)) Q st)
    {x : α} {y : β} {z : γ} {st : SortSt} {mg : Nat} (h : P 1 x y z st) : wpS M A E s (mLoops tot inn gal x y z mg) (LpO X fun _ _ _ _ => False) st := by
  unfold mLoops
  refine wpS_lp (X := X) (P := fun n => P (n + 1)) (R := fun _ _ _ _ => False) ?_ (fun h => h1 h) h
  intro n x y z mg st Q hp q
  unfold mOut
  have hp' : 0 < tot := Nat.pos_of_ne_zero fun e => h1 (h0 (by omega) hp)
  refine wpS_bind (wpS_mono (wpS_lp (X := X) (P := fun m => P (n + 1 + m)) (R := P (n + 2)) (fun hp q => hi hp ⟨q.q1, fun h => q.q2 (h0 (by omega) h), fun h => q.q3 h⟩) (h0 (by omega)) hp) ?_)
  rintro ⟨_ | r, x, y, z, d⟩ st h
  · refine wpS_bind (wpS_lift (wpAny_rule ⟨rfl, ?_⟩))
    refine wpS_bind (wpS_mono (wpS_lp (X := X) (P := fun _ => P (n + 2)) (R := P (n + 2)) (fun hp q => hl hp q) (fun h => h) h) ?_)
    rintro ⟨_ | r, x, y, z, d⟩ st h
    · exact wpS_bind (wpS_setMin .rfl' fun st' g => wpS_pure (q.q3 (hg h g)))
    · exact wpS_pure (q.q1 h)
  · exact wpS_pure (q.q1 h)
theorem wpS_ite2 {α : Type} {f : Array Keyed → Nat → StateT SortSt Sem α} {c c1 c2 : Prop} [Decidable c] [Decidable c1] [Decidable c2] {d1 d2 : StateT SortSt Sem α} {x1 y1 : Array Keyed} {x2 y2 : Nat} {Q : α → SortSt → Prop} {st : SortSt} (P : Array Keyed → Nat → Prop)
    (h1 : c → c1 → wpS M A E s d1 Q st) (h2 : c → ¬ c1 → c2 → wpS M A E s d2 Q st) (hx : c → ¬ c1 → ¬ c2 → P x1 x2) (hy : ¬ c → P y1 y2) (h : ∀ z1 z2, P z1 z2 → wpS M A E s (f z1 z2) Q st) :
    wpS M A E s (if c then if c1 then d1 else if c2 then d2 else f x1 x2 else f y1 y2) Q st := by
  by_cases q : c
  · rw [if_pos q]
    by_cases q1 : c1
    · rw [if_pos q1]; exact h1 q q1
    rw [if_neg q1]
    by_cases q2 : c2
    · rw [if_pos q2]; exact h2 q q1 q2
    rw [if_neg q2]; exact h _ _ (hx q q1 q2)
  · rw [if_neg q]; exact h _ _ (hy q)
theorem wpS_ite1 {α : Type} {f : Array Keyed → Nat → StateT SortSt Sem α} {c c1 : Prop} [Decidable c] [Decidable c1] {d1 : StateT SortSt Sem α} {x1 y1 : Array Keyed} {x2 y2 : Nat} {Q : α → SortSt → Prop} {st : SortSt} (P : Array Keyed → Nat → Prop)
    (h1 : c → c1 → wpS M A E s d1 Q st) (hx : c → ¬ c1 → P x1 x2) (hy : ¬ c → P y1 y2) (h : ∀ z1 z2, P z1 z2 → wpS M A E s (f z1 z2) Q st) :
    wpS M A E s (if c then if c1 then d1 else f x1 x2 else f y1 y2) Q st := by
  by_cases q : c
  · rw [if_pos q]
    by_cases q1 : c1
    · rw [if_pos q1]; exact h1 q q1
    rw [if_neg q1]; exact h _ _ (hx q q1)
  · rw [if_neg q]; exact h _ _ (hy q)
end
end Mine
end
-- part N2
section
open PySem PySem.W PyProof.Rows
namespace Mine
section
variable {α β γ δ : Type} {M : Model} {A : Around} {E : Value → Shared → Prop} {s : Shared}
/-- a turn's end -/
noncomputable def fin (c1 c2 : Prop) [Decidable c1] [Decidable c2] (r : KA) (x : α) (y : β) (z : γ) (d : δ) : SS' (ForInStep (T3 α β γ δ)) :=
  if c1 then pure (.done (some r, x, y, z, d)) else if c2 then pure (.done (none, x, y, z, d)) else pure (.yield (none, x, y, z, d))
theorem wpS_fin {c1 c2 : Prop} [Decidable c1] [Decidable c2] {r : KA} {x : α} {y : β} {z : γ} {d : δ} {X : KA → SortSt → Prop} {P : α → β → γ → SortSt → Prop} {Q : ForInStep (T3 α β γ δ) → SortSt → Prop} {st : SortSt} (q : GQ X P P Q) (h1 : c1 → X r st) (h2 : ¬ c1 → P x y z st) : wpS M A E s (fin c1 c2 r x y z d) Q st := by
  unfold fin
  by_cases c : c1
  · rw [if_pos c]; exact wpS_pure (q.q1 (h1 c))
  · rw [if_neg c]
    by_cases c' : c2
    · rw [if_pos c']; exact wpS_pure (q.q2 (h2 c))
    · rw [if_neg c']; exact wpS_pure (q.q3 (h2 c))
/-- a gallop's end: k have been taken at once, or none -/
noncomputable def gal (k : Nat) (c1 c2 : Prop) [Decidable c1] [Decidable c2] (r1 r2 : KA) (x : α) (y : β) (z : γ) (d : δ) (f g : SS' (ForInStep (T3 α β γ δ))) : SS' (ForInStep (T3 α β γ δ)) :=
  if k > 0 then if c1 then pure (.done (some r1, x, y, z, d)) else if c2 then pure (.done (some r2, x, y, z, d)) else f else g
theorem wpS_gal {k : Nat} {c1 c2 : Prop} [Decidable c1] [Decidable c2] {r1 r2 : KA} {x : α} {y : β} {z : γ} {d : δ} {f g : SS' (ForInStep (T3 α β γ δ))} {X : KA → SortSt → Prop} {P : α → β → γ → SortSt → Prop} {Q : ForInStep (T3 α β γ δ) → SortSt → Prop} {st : SortSt} (q : GQ X P P Q) (h1 : c1 → X r1 st) (h2 : c2 → X r2 st) (hf : k > 0 → ¬ c1 → ¬ c2 → wpS M A E s f Q st) (hg : ¬ k > 0 → wpS M A E s g Q st) : wpS M A E s (gal k c1 c2 r1 r2 x y z d f g) Q st := by
  unfold gal
  by_cases ck : k > 0
  · rw [if_pos ck]
    by_cases c : c1
    · rw [if_pos c]; exact wpS_pure (q.q1 (h1 c))
    · rw [if_neg c]
      by_cases c' : c2
      · rw [if_pos c']; exact wpS_pure (q.q1 (h2 c'))
      · rw [if_neg c']; exact hf ck c c'
  · rw [if_neg ck]; exact hg ck
/-- a merge's end -/
noncomputable def ME (a b : KA) (st₀ : SortSt) (r : KA) (st : SortSt) : Prop := r.Perm (a ++ b) ∧ SameG st₀ st
theorem beq_t {m n : Nat} : ((m == n) = true) = (m = n) := by rw [beq_iff_eq]
end
noncomputable def loDone (a b out : Array Keyed) (ia ib : Nat) : Array Keyed := out ++ a.extract ia a.size ++ b.extract ib b.size
noncomputable def loLast (a b out : Array Keyed) (ia ib : Nat) : Array Keyed := out ++ b.extract ib b.size ++ a.extract ia a.size
abbrev LoI := T3 KA Nat Nat (Nat × Nat)
abbrev LoG := T3 KA Nat Nat (Nat × Nat × Nat)
noncomputable def loIn (a b : KA) (mg : Nat) (c : LoI) : SS' (ForInStep LoI) := elem' b c.2.2.2.1 >>= fun y => elem' a c.2.2.1 >>= fun x => lt' y x >>= fun w => match w with
  | some w => if w = true then elem' b c.2.2.2.1 >>= fun y => fin ((c.2.2.2.1 + 1 == b.size) = true) (c.2.2.2.2.2 + 1 ≥ mg) (loDone a b (c.2.1.push y) c.2.2.1 (c.2.2.2.1 + 1)) (c.2.1.push y) c.2.2.1 (c.2.2.2.1 + 1) (0, c.2.2.2.2.2 + 1)
    else elem' a c.2.2.1 >>= fun x => fin ((c.2.2.1 + 1 + 1 == a.size) = true) (c.2.2.2.2.1 + 1 ≥ mg) (loLast a b (c.2.1.push x) (c.2.2.1 + 1) c.2.2.2.1) (c.2.1.push x) (c.2.2.1 + 1) c.2.2.2.1 (c.2.2.2.2.1 + 1, 0)
  | _ => pure (.done (some (loDone a b c.2.1 c.2.2.1 c.2.2.2.1), c.2.1, c.2.2.1, c.2.2.2.1, c.2.2.2.2.1, c.2.2.2.2.2))
noncomputable def loG3 (a b : KA) (mg : Nat) (out : KA) (ia ib k k1 : Nat) : SS' (ForInStep LoG) := elem' a ia >>= fun x =>
  fin ((ia + 1 + 1 == a.size) = true) ((decide (k < 7) && decide (k1 < 7)) = true) (loLast a b (out.push x) (ia + 1) ib) (out.push x) (ia + 1) ib (mg, k, k1)
noncomputable def loG2 (a b : KA) (mg : Nat) (out : KA) (ia ib bc k : Nat) : SS' (ForInStep LoG) := elem' b ib >>= fun y =>
  if (ib + 1 == b.size) = true then pure (.done (some (loDone a b (out.push y) ia (ib + 1)), out.push y, ia, ib + 1, mg, k, bc))
  else elem' a ia >>= fun x => gallop' true x b (ib + 1) (b.size - (ib + 1)) 0 >>= fun k1 => match k1 with
    | some k1 => if k1 > 0 then
        (if (ib + 1 + k1 == b.size) = true then pure (.done (some (loDone a b (out.push y ++ b.extract (ib + 1) (ib + 1 + k1)) ia (ib + 1 + k1)), out.push y ++ b.extract (ib + 1) (ib + 1 + k1), ia, ib + 1 + k1, mg, k, k1))
        else loG3 a b mg (out.push y ++ b.extract (ib + 1) (ib + 1 + k1)) ia (ib + 1 + k1) k k1)
      else loG3 a b mg (out.push y) ia (ib + 1) k k1
    | _ => pure (.done (some (loDone a b (out.push y) ia (ib + 1)), out.push y, ia, ib + 1, mg, k, bc))
noncomputable def loG1 (a b : KA) (mg : Nat) (out : KA) (ia ib ac bc : Nat) : SS' (ForInStep LoG) := setMin' mg >>= fun _ => elem' b ib >>= fun y => gallop' false y a ia (a.size - ia) 0 >>= fun k => match k with
  | some k => if k > 0 then
      (if (ia + k + 1 == a.size) = true then pure (.done (some (loLast a b (out ++ a.extract ia (ia + k)) (ia + k) ib), out ++ a.extract ia (ia + k), ia + k, ib, mg, k, bc))
      else if (ia + k == a.size) = true then pure (.done (some (loDone a b (out ++ a.extract ia (ia + k)) (ia + k) ib), out ++ a.extract ia (ia + k), ia + k, ib, mg, k, bc))
      else loG2 a b mg (out ++ a.extract ia (ia + k)) (ia + k) ib bc k)
    else loG2 a b mg out ia ib bc k
  | _ => pure (.done (some (loDone a b out ia ib), out, ia, ib, mg, ac, bc))
noncomputable def loGal (a b : KA) (e : LoG) : SS' (ForInStep LoG) :=
  if e.2.2.2.2.1 > 1 then loG1 a b (e.2.2.2.2.1 - 1) e.2.1 e.2.2.1 e.2.2.2.1 e.2.2.2.2.2.1 e.2.2.2.2.2.2 else loG1 a b e.2.2.2.2.1 e.2.1 e.2.2.1 e.2.2.2.1 e.2.2.2.2.2.1 e.2.2.2.2.2.2
theorem mergeLo'_eq (a b : KA) : mergeLo' a b = (do
  rule "list.sort.merge-lo"
  let y ← elem' b 0
  if 1 == b.size then return loDone a b #[y] 0 1
  if 0 + 1 == a.size then return loLast a b #[y] 0 1
  let g ← get
  let c ← mLoops (a.size + b.size) (loIn a b) (loGal a b) #[y] 0 1 (gallopOf g)
  brk c.1 pure (unsupported "internal:list.sort.merge-bound")) := rfl
section
variable {a b out : Array Keyed} {ia ib : Nat}
/-- what is out, and the rest of both, are the two -/
noncomputable def MP (a b out : Array Keyed) (ia ib : Nat) : Prop := (out.toList ++ (a.toList.drop ia ++ b.toList.drop ib)).Perm (a.toList ++ b.toList)
theorem MP.pushA (h : MP a b out ia ib) {x : Keyed} (hx : a[ia]? = some x) : MP a b (out.push x) (ia + 1) ib := by
  have e : a.toList.drop ia = x :: a.toList.drop (ia + 1) := by
    obtain ⟨h1, h2⟩ := Array.getElem?_eq_some_iff.mp hx
    rw [List.drop_eq_getElem_cons (by simpa using h1)]
    simp [h2]
  unfold MP at h ⊢
  rw [e] at h
  rw [Array.toList_push, List.append_assoc]
  exact h
theorem MP.pushB (h : MP a b out ia ib) {x : Keyed} (hx : b[ib]? = some x) : MP a b (out.push x) ia (ib + 1) := by
  have e : b.toList.drop ib = x :: b.toList.drop (ib + 1) := by
    obtain ⟨h1, h2⟩ := Array.getElem?_eq_some_iff.mp hx
    rw [List.drop_eq_getElem_cons (by simpa using h1)]
    simp [h2]
  unfold MP at h ⊢
  rw [e] at h
  rw [Array.toList_push, List.append_assoc]
  refine List.Perm.trans (List.Perm.append_left _ ?_) h
  exact (List.perm_middle (l₁ := a.toList.drop ia)).symm
theorem MP.moreA (h : MP a b out ia ib) (k : Nat) : MP a b (out ++ a.extract ia (ia + k)) (ia + k) ib := by
  have e : a.toList.drop ia = (a.toList.drop ia).take k ++ a.toList.drop (ia + k) := by
    rw [← List.drop_drop, List.take_append_drop]
  unfold MP at h ⊢
  rw [e] at h
  rw [Array.toList_append, Array.toList_extract, List.extract_eq_take_drop, Nat.add_sub_cancel_left, List.append_assoc]
  rw [List.append_assoc] at h
  exact h
theorem MP.moreB (h : MP a b out ia ib) (k : Nat) : MP a b (out ++ b.extract ib (ib + k)) ia (ib + k) := by
  have e : b.toList.drop ib = (b.toList.drop ib).take k ++ b.toList.drop (ib + k) := by
    rw [← List.drop_drop, List.take_append_drop]
  unfold MP at h ⊢
  rw [e] at h
  rw [Array.toList_append, Array.toList_extract, List.extract_eq_take_drop, Nat.add_sub_cancel_left, List.append_assoc]
  refine List.Perm.trans (List.Perm.append_left _ ?_) h
  rw [← List.append_assoc, ← List.append_assoc]
  exact List.Perm.append_right _ List.perm_append_comm
theorem MP.done (h : MP a b out ia ib) : (loDone a b out ia ib).Perm (a ++ b) := by
  rw [Array.perm_iff_toList_perm]
  unfold loDone
  rw [Array.toList_append, Array.toList_append, Array.toList_append, Array.toList_extract, Array.toList_extract, List.extract_eq_take_drop, List.extract_eq_take_drop, List.take_of_length_le (by simp), List.take_of_length_le (by simp), List.append_assoc]
  exact h
theorem MP.last (h : MP a b out ia ib) : (loLast a b out ia ib).Perm (a ++ b) := by
  rw [Array.perm_iff_toList_perm]
  unfold loLast
  rw [Array.toList_append, Array.toList_append, Array.toList_append, Array.toList_extract, Array.toList_extract, List.extract_eq_take_drop, List.extract_eq_take_drop, List.take_of_length_le (by simp), List.take_of_length_le (by simp), List.append_assoc]
  exact List.Perm.trans (List.Perm.append_left _ List.perm_append_comm) h
end

section
variable {prog : Program} {w : World} {A : Around} {E : Value → Shared → Prop} {s : Shared} {κ : SortKind} {S : Keyed → Prop} {a b : KA} {st₀ : SortSt}
theorem arr_at {c : KA} (hc : ∀ x ∈ c, S x) {i : Nat} (hi : i < c.size) : ∃ x, c[i]? = some x ∧ S x := ⟨_, getElem?_pos _ i hi, hc _ (Array.getElem_mem hi)⟩
/-- where a merge has come to -/
structure LI (a b : KA) (st₀ : SortSt) (n : Nat) (out : KA) (ia ib : Nat) (st : SortSt) : Prop where
  p : MP a b out ia ib
  h1 : ia + 1 < a.size
  h2 : ib < b.size
  h3 : n ≤ ia + ib
  g : SameG st₀ st
theorem wpS_loIn (H : LtOk (model prog w) A E s κ S) (hk : kindOf st₀ = κ) (ha : ∀ x ∈ a, S x) (hb : ∀ x ∈ b, S x) {mg n ia ib : Nat} {d : Nat × Nat} {out : KA} {st : SortSt} {Q : ForInStep LoI → SortSt → Prop} (l : LI a b st₀ n out ia ib st) (q : GQ (ME a b st₀) (LI a b st₀ (n + 1)) (LI a b st₀ (n + 1)) Q) :
    wpS (model prog w) A E s (loIn a b mg (none, out, ia, ib, d)) Q st := by
  obtain ⟨u, hu, su⟩ := arr_at hb l.h2
  obtain ⟨v, hv, sv⟩ := arr_at ha (Nat.lt_of_succ_lt l.h1)
  refine wpS_bind (wpS_elem hu (wpS_bind (wpS_elem hv (wpS_bind (H _ _ su sv _ _ (l.g.k.trans hk) fun c => ?_)))))
  cases c with
  | true => exact wpS_bind (wpS_elem hu (wpS_fin q (fun _ => ⟨(l.p.pushB hu).done, l.g⟩) fun c => ⟨l.p.pushB hu, l.h1, Nat.lt_of_le_of_ne l.h2 fun e => c (beq_t.mpr e), Nat.succ_le_succ l.h3, l.g⟩))
  | false => exact wpS_bind (wpS_elem hv (wpS_fin q (fun _ => ⟨(l.p.pushA hv).last, l.g⟩) fun c => ⟨l.p.pushA hv, Nat.lt_of_le_of_ne l.h1 fun e => c (beq_t.mpr e), l.h2, by have := l.h3; omega, l.g⟩))
theorem wpS_loG3 (ha : ∀ x ∈ a, S x) {mg n ia ib k k1 : Nat} {out : KA} {st : SortSt} {Q : ForInStep LoG → SortSt → Prop} (l : LI a b st₀ n out ia ib st) (q : GQ (ME a b st₀) (LI a b st₀ n) (LI a b st₀ n) Q) : wpS (model prog w) A E s (loG3 a b mg out ia ib k k1) Q st := by
  obtain ⟨v, hv, sv⟩ := arr_at ha (Nat.lt_of_succ_lt l.h1)
  exact wpS_bind (wpS_elem hv (wpS_fin q (fun _ => ⟨(l.p.pushA hv).last, l.g⟩) fun c => ⟨l.p.pushA hv, Nat.lt_of_le_of_ne l.h1 fun e => c (beq_t.mpr e), l.h2, by have := l.h3; omega, l.g⟩))
theorem wpS_loG2 (H : LtOk (model prog w) A E s κ S) (hk : kindOf st₀ = κ) (ha : ∀ x ∈ a, S x) (hb : ∀ x ∈ b, S x) {mg n ia ib bc k : Nat} {out : KA} {st : SortSt} {Q : ForInStep LoG → SortSt → Prop} (l : LI a b st₀ n out ia ib st) (q : GQ (ME a b st₀) (LI a b st₀ n) (LI a b st₀ n) Q) : wpS (model prog w) A E s (loG2 a b mg out ia ib bc k) Q st := by
  obtain ⟨u, hu, su⟩ := arr_at hb l.h2
  obtain ⟨v, hv, sv⟩ := arr_at ha (Nat.lt_of_succ_lt l.h1)
  have p1 := l.p.pushB hu
  refine wpS_bind (wpS_elem hu ?_)
  by_cases c : (ib + 1 == b.size) = true
  · rw [if_pos c]; exact wpS_pure (q.q1 ⟨p1.done, l.g⟩)
  rw [if_neg c]
  have h2 := Nat.lt_of_le_of_ne l.h2 fun e => c (beq_t.mpr e)
  refine wpS_bind (wpS_elem hv (wpS_bind (wpS_gallop H (l.g.k.trans hk) sv (fun i hi => arr_at hb (by omega)) (by omega) fun k1 hk1 => ?_)))
  refine wpS_ite1 (fun out ib => LI a b st₀ n out ia ib st) (fun _ _ => wpS_pure (q.q1 ⟨(p1.moreB k1).done, l.g⟩)) (fun _ c => ⟨p1.moreB k1, l.h1, by rw [beq_t] at c; omega, by have := l.h3; omega, l.g⟩) (fun _ => ⟨p1, l.h1, h2, Nat.le_succ_of_le l.h3, l.g⟩) fun out ib l => wpS_loG3 ha l q
theorem wpS_loG1 (H : LtOk (model prog w) A E s κ S) (hk : kindOf st₀ = κ) (ha : ∀ x ∈ a, S x) (hb : ∀ x ∈ b, S x) {mg n ia ib ac bc : Nat} {out : KA} {st : SortSt} {Q : ForInStep LoG → SortSt → Prop} (l : LI a b st₀ n out ia ib st) (q : GQ (ME a b st₀) (LI a b st₀ n) (LI a b st₀ n) Q) : wpS (model prog w) A E s (loG1 a b mg out ia ib ac bc) Q st := by
  refine wpS_bind (wpS_setMin l.g fun st' g => ?_)
  obtain ⟨u, hu, su⟩ := arr_at hb l.h2
  have h1 := l.h1
  refine wpS_bind (wpS_elem hu (wpS_bind (wpS_gallop H (g.k.trans hk) su (fun i hi => arr_at ha (by omega)) (by omega) fun k hk' => ?_)))
  have pa := l.p.moreA k
  refine wpS_ite2 (fun out ia => LI a b st₀ n out ia ib st') (fun _ _ => wpS_pure (q.q1 ⟨pa.last, g⟩)) (fun _ _ _ => wpS_pure (q.q1 ⟨pa.done, g⟩)) (fun _ c c' => ⟨pa, by rw [beq_t] at c c'; omega, l.h2, by have := l.h3; omega, g⟩) (fun _ => ⟨l.p, h1, l.h2, l.h3, g⟩) fun out ia l => wpS_loG2 H hk ha hb l q
theorem wpS_mergeLo (H : LtOk (model prog w) A E s κ S) {a b : KA} {Q : KA → SortSt → Prop} {st : SortSt} (hk : kindOf st = κ)
    (ha : ∀ x ∈ a, S x) (hb : ∀ x ∈ b, S x) (ha0 : 0 < a.size) (hb0 : 0 < b.size) (h : ∀ out st', out.Perm (a ++ b) → SameG st st' → Q out st') :
    wpS (model prog w) A E s (mergeLo' a b) Q st := by
  rw [mergeLo'_eq]
  obtain ⟨u, hu, _⟩ := arr_at hb hb0
  refine wpS_bind (wpS_lift (wpAny_rule ⟨rfl, wpS_bind (wpS_elem hu ?_)⟩))
  have p0 : MP a b #[u] 0 1 := MP.pushB (a := a) (b := b) (out := #[]) (ia := 0) (ib := 0) (List.Perm.refl (a.toList ++ b.toList)) hu
  by_cases q1 : (1 == b.size) = true
  · rw [if_pos q1]; exact wpS_pure (h _ _ p0.done .rfl')
  rw [if_neg q1]
  by_cases q2 : (0 + 1 == a.size) = true
  · rw [if_pos q2]; exact wpS_pure (h _ _ p0.last .rfl')
  rw [if_neg q2]
  rw [beq_t] at q1 q2
  refine wpS_bind (wpS_get (wpS_bind (wpS_mono (wpS_mLoops (P := LI a b st) (X := ME a b st) (fun hm l => ⟨l.p, l.h1, l.h2, Nat.le_trans hm l.h3, l.g⟩) (fun l => by have := l.h1; have := l.h2; have := l.h3; omega) (fun l g => ⟨l.p, l.h1, l.h2, l.h3, ⟨g.k.trans l.g.k, g.a.trans l.g.a, g.p.trans l.g.p, g.f.trans l.g.f⟩⟩) (fun l q => wpS_loIn H hk ha hb l q) (fun {n x y z d st Q} l q => ?_) ⟨p0, by omega, by omega, by omega, .rfl'⟩) ?_)))
  · unfold loGal
    split
    · exact wpS_loG1 H hk ha hb l q
    · exact wpS_loG1 H hk ha hb l q
  · rintro ⟨_ | r, c⟩ st m
    · exact m.elim
    · exact wpS_pure (h _ _ m.1 m.2)
end
end Mine
end
-- part N3
section
open PySem PySem.W PyProof.Rows
namespace Mine
noncomputable def hiDone (a b out : Array Keyed) (na nb : Nat) : Array Keyed := a.extract 0 na ++ b.extract 0 nb ++ out.reverse
noncomputable def hiFirst (a b out : Array Keyed) (na nb : Nat) : Array Keyed := b.extract 0 nb ++ a.extract 0 na ++ out.reverse
abbrev HiI := T3 Nat Nat KA (Nat × Nat)
abbrev HiG := T3 Nat Nat KA (Nat × Nat × Nat)
noncomputable def hiIn (a b : KA) (mg : Nat) (c : HiI) : SS' (ForInStep HiI) := elem' b (c.2.2.1 - 1) >>= fun y => elem' a (c.2.1 - 1) >>= fun x => lt' y x >>= fun w => match w with
  | some w => if w = true then elem' a (c.2.1 - 1) >>= fun x => fin ((c.2.1 - 1 == 0) = true) (c.2.2.2.2.1 + 1 ≥ mg) (hiDone a b (c.2.2.2.1.push x) (c.2.1 - 1) c.2.2.1) (c.2.1 - 1) c.2.2.1 (c.2.2.2.1.push x) (c.2.2.2.2.1 + 1, 0)
    else elem' b (c.2.2.1 - 1) >>= fun y => fin ((c.2.2.1 - 1 == 1) = true) (c.2.2.2.2.2 + 1 ≥ mg) (hiFirst a b (c.2.2.2.1.push y) c.2.1 (c.2.2.1 - 1)) c.2.1 (c.2.2.1 - 1) (c.2.2.2.1.push y) (0, c.2.2.2.2.2 + 1)
  | _ => pure (.done (some (hiDone a b c.2.2.2.1 c.2.1 c.2.2.1), c.2.1, c.2.2.1, c.2.2.2.1, c.2.2.2.2.1, c.2.2.2.2.2))
noncomputable def hiG3 (a b : KA) (mg : Nat) (out : KA) (na nb k k1 : Nat) : SS' (ForInStep HiG) := elem' a (na - 1) >>= fun x =>
  fin ((na - 1 == 0) = true) ((decide (k < 7) && decide (k1 < 7)) = true) (hiDone a b (out.push x) (na - 1) nb) (na - 1) nb (out.push x) (mg, k, k1)
noncomputable def hiG2 (a b : KA) (mg : Nat) (out : KA) (na nb bc k : Nat) : SS' (ForInStep HiG) := elem' b (nb - 1) >>= fun y =>
  if (nb - 1 == 1) = true then pure (.done (some (hiFirst a b (out.push y) na (nb - 1)), na, nb - 1, out.push y, mg, k, bc))
  else elem' a (na - 1) >>= fun x => gallop' true x b 0 (nb - 1) (nb - 1 - 1) >>= fun at_ => match at_ with
    | some at_ => if nb - 1 - at_ > 0 then
        (if (at_ == 1) = true then pure (.done (some (hiFirst a b (out.push y ++ (b.extract at_ (nb - 1)).reverse) na at_), na, at_, out.push y ++ (b.extract at_ (nb - 1)).reverse, mg, k, nb - 1 - at_))
        else if (at_ == 0) = true then pure (.done (some (hiDone a b (out.push y ++ (b.extract at_ (nb - 1)).reverse) na at_), na, at_, out.push y ++ (b.extract at_ (nb - 1)).reverse, mg, k, nb - 1 - at_))
        else hiG3 a b mg (out.push y ++ (b.extract at_ (nb - 1)).reverse) na at_ k (nb - 1 - at_))
      else hiG3 a b mg (out.push y) na (nb - 1) k (nb - 1 - at_)
    | _ => pure (.done (some (hiDone a b (out.push y) na (nb - 1)), na, nb - 1, out.push y, mg, k, bc))
noncomputable def hiG1 (a b : KA) (mg : Nat) (out : KA) (na nb ac bc : Nat) : SS' (ForInStep HiG) := setMin' mg >>= fun _ => elem' b (nb - 1) >>= fun y => gallop' false y a 0 na (na - 1) >>= fun at_ => match at_ with
  | some at_ => if na - at_ > 0 then
      (if (at_ == 0) = true then pure (.done (some (hiDone a b (out ++ (a.extract at_ na).reverse) at_ nb), at_, nb, out ++ (a.extract at_ na).reverse, mg, na - at_, bc))
      else hiG2 a b mg (out ++ (a.extract at_ na).reverse) at_ nb bc (na - at_))
    else hiG2 a b mg out na nb bc (na - at_)
  | _ => pure (.done (some (hiDone a b out na nb), na, nb, out, mg, ac, bc))
noncomputable def hiGal (a b : KA) (e : HiG) : SS' (ForInStep HiG) :=
  if e.2.2.2.2.1 > 1 then hiG1 a b (e.2.2.2.2.1 - 1) e.2.2.2.1 e.2.1 e.2.2.1 e.2.2.2.2.2.1 e.2.2.2.2.2.2 else hiG1 a b e.2.2.2.2.1 e.2.2.2.1 e.2.1 e.2.2.1 e.2.2.2.2.2.1 e.2.2.2.2.2.2
theorem mergeHi'_eq (a b : KA) : mergeHi' a b = (do
  rule "list.sort.merge-hi"
  let x ← elem' a (a.size - 1)
  if a.size - 1 == 0 then return hiDone a b #[x] (a.size - 1) b.size
  if b.size == 1 then return hiFirst a b #[x] (a.size - 1) b.size
  let g ← get
  let c ← mLoops (a.size + b.size) (hiIn a b) (hiGal a b) (a.size - 1) b.size #[x] (gallopOf g)
  brk c.1 pure (unsupported "internal:list.sort.merge-bound")) := rfl
section
variable {a b out : Array Keyed} {na nb : Nat}
noncomputable def MH (a b out : Array Keyed) (na nb : Nat) : Prop := ((a.toList.take na ++ b.toList.take nb) ++ out.toList.reverse).Perm (a.toList ++ b.toList)
theorem take_snoc {l : List Keyed} {n : Nat} {x : Keyed} (h : l[n]? = some x) : l.take (n + 1) = l.take n ++ [x] := by
  rw [List.take_add_one, h]; rfl
theorem MH.pushA (h : MH a b out (na + 1) nb) {x : Keyed} (hx : a[na]? = some x) : MH a b (out.push x) na nb := by
  unfold MH at h ⊢
  rw [take_snoc (l := a.toList) (by simpa using hx)] at h
  rw [Array.toList_push, List.reverse_append, List.reverse_singleton]
  refine List.Perm.trans ?_ h
  simp only [List.append_assoc]
  exact List.Perm.append_left _ (List.perm_append_comm_assoc _ _ _)
theorem MH.pushB (h : MH a b out na (nb + 1)) {x : Keyed} (hx : b[nb]? = some x) : MH a b (out.push x) na nb := by
  unfold MH at h ⊢
  rw [take_snoc (l := b.toList) (by simpa using hx)] at h
  rw [Array.toList_push, List.reverse_append, List.reverse_singleton]
  simp only [List.append_assoc] at h ⊢
  exact h
theorem take_cut {l : List Keyed} {n k : Nat} (h : k ≤ n) : l.take n = l.take k ++ (l.take n).drop k := by
  have := (List.take_append_drop k (l.take n)).symm
  rwa [List.take_take, Nat.min_eq_left h] at this
theorem ext_rev {a : Array Keyed} {k n : Nat} : (a.extract k n).toList = (a.toList.take n).drop k := by
  rw [Array.toList_extract, List.extract_eq_take_drop, List.drop_take]
theorem MH.moreA (h : MH a b out na nb) {k : Nat} (hk : k ≤ na) : MH a b (out ++ (a.extract k na).reverse) k nb := by
  unfold MH at h ⊢
  rw [take_cut hk] at h
  rw [Array.toList_append, List.reverse_append, Array.toList_reverse, List.reverse_reverse, ext_rev]
  refine List.Perm.trans ?_ h
  simp only [List.append_assoc]
  exact List.Perm.append_left _ (List.perm_append_comm_assoc _ _ _)
theorem MH.moreB (h : MH a b out na nb) {k : Nat} (hk : k ≤ nb) : MH a b (out ++ (b.extract k nb).reverse) na k := by
  unfold MH at h ⊢
  rw [take_cut hk] at h
  rw [Array.toList_append, List.reverse_append, Array.toList_reverse, List.reverse_reverse, ext_rev]
  simp only [List.append_assoc] at h ⊢
  exact h
theorem MH.done (h : MH a b out na nb) : (hiDone a b out na nb).Perm (a ++ b) := by
  rw [Array.perm_iff_toList_perm]
  unfold hiDone
  rw [Array.toList_append, Array.toList_append, Array.toList_append, ext_rev, ext_rev, Array.toList_reverse, List.drop_zero, List.drop_zero]
  exact h
theorem MH.first (h : MH a b out na nb) : (hiFirst a b out na nb).Perm (a ++ b) := by
  rw [Array.perm_iff_toList_perm]
  unfold hiFirst
  rw [Array.toList_append, Array.toList_append, Array.toList_append, ext_rev, ext_rev, Array.toList_reverse, List.drop_zero, List.drop_zero]
  exact List.Perm.trans (List.Perm.append_right _ List.perm_append_comm) h
theorem MH.pA (h : MH a b out na nb) (h0 : 1 ≤ na) {x : Keyed} (hx : a[na - 1]? = some x) : MH a b (out.push x) (na - 1) nb :=
  MH.pushA (na := na - 1) (by rw [Nat.sub_add_cancel h0]; exact h) hx
theorem MH.pB (h : MH a b out na nb) (h0 : 1 ≤ nb) {x : Keyed} (hx : b[nb - 1]? = some x) : MH a b (out.push x) na (nb - 1) :=
  MH.pushB (nb := nb - 1) (by rw [Nat.sub_add_cancel h0]; exact h) hx
end

section
variable {prog : Program} {w : World} {A : Around} {E : Value → Shared → Prop} {s : Shared} {κ : SortKind} {S : Keyed → Prop} {a b : KA} {st₀ : SortSt}
structure HI (a b : KA) (st₀ : SortSt) (n : Nat) (na nb : Nat) (out : KA) (st : SortSt) : Prop where
  p : MH a b out na nb
  h1 : 1 ≤ na
  k1 : na ≤ a.size
  h2 : 2 ≤ nb
  k2 : nb ≤ b.size
  h3 : na + nb + n ≤ a.size + b.size
  g : SameG st₀ st
theorem HI.pa {n n' na nb : Nat} {out : KA} {st : SortSt} {v : Keyed} (l : HI a b st₀ n na nb out st) (hv : a[na - 1]? = some v) (c : na - 1 ≠ 0) (hn : n' ≤ n + 1) : HI a b st₀ n' (na - 1) nb (out.push v) st :=
  ⟨l.p.pA l.h1 hv, Nat.pos_of_ne_zero c, Nat.le_trans (Nat.sub_le _ _) l.k1, l.h2, l.k2, by have := l.h3; have := l.h1; omega, l.g⟩
theorem wpS_hiIn (H : LtOk (model prog w) A E s κ S) (hk : kindOf st₀ = κ) (ha : ∀ x ∈ a, S x) (hb : ∀ x ∈ b, S x) {mg n na nb : Nat} {d : Nat × Nat} {out : KA} {st : SortSt} {Q : ForInStep HiI → SortSt → Prop} (l : HI a b st₀ n na nb out st) (q : GQ (ME a b st₀) (HI a b st₀ (n + 1)) (HI a b st₀ (n + 1)) Q) :
    wpS (model prog w) A E s (hiIn a b mg (none, na, nb, out, d)) Q st := by
  have h2 := l.h2
  obtain ⟨u, hu, su⟩ := arr_at hb (i := nb - 1) (Nat.lt_of_lt_of_le (Nat.sub_one_lt_of_lt h2) l.k2)
  obtain ⟨v, hv, sv⟩ := arr_at ha (Nat.lt_of_lt_of_le (Nat.sub_one_lt_of_lt l.h1) l.k1)
  refine wpS_bind (wpS_elem hu (wpS_bind (wpS_elem hv (wpS_bind (H _ _ su sv _ _ (l.g.k.trans hk) fun c => ?_)))))
  cases c with
  | true => exact wpS_bind (wpS_elem hv (wpS_fin q (fun _ => ⟨(l.p.pA l.h1 hv).done, l.g⟩) fun c => l.pa hv (fun e => c (beq_t.mpr e)) (Nat.le_refl _)))
  | false => exact wpS_bind (wpS_elem hu (wpS_fin q (fun _ => ⟨(l.p.pB (Nat.le_of_succ_le h2) hu).first, l.g⟩) fun c => ⟨l.p.pB (Nat.le_of_succ_le h2) hu, l.h1, l.k1, by rw [beq_t] at c; omega, Nat.le_trans (Nat.sub_le _ _) l.k2, by have := l.h3; omega, l.g⟩))
theorem wpS_hiG3 (ha : ∀ x ∈ a, S x) {mg n na nb k k1 : Nat} {out : KA} {st : SortSt} {Q : ForInStep HiG → SortSt → Prop} (l : HI a b st₀ n na nb out st) (q : GQ (ME a b st₀) (HI a b st₀ n) (HI a b st₀ n) Q) : wpS (model prog w) A E s (hiG3 a b mg out na nb k k1) Q st := by
  obtain ⟨v, hv, sv⟩ := arr_at ha (Nat.lt_of_lt_of_le (Nat.sub_one_lt_of_lt l.h1) l.k1)
  exact wpS_bind (wpS_elem hv (wpS_fin q (fun _ => ⟨(l.p.pA l.h1 hv).done, l.g⟩) fun c => l.pa hv (fun e => c (beq_t.mpr e)) (Nat.le_succ _)))
theorem wpS_hiG2 (H : LtOk (model prog w) A E s κ S) (hk : kindOf st₀ = κ) (ha : ∀ x ∈ a, S x) (hb : ∀ x ∈ b, S x) {mg n na nb bc k : Nat} {out : KA} {st : SortSt} {Q : ForInStep HiG → SortSt → Prop} (l : HI a b st₀ n na nb out st) (q : GQ (ME a b st₀) (HI a b st₀ n) (HI a b st₀ n) Q) : wpS (model prog w) A E s (hiG2 a b mg out na nb bc k) Q st := by
  have h2 := l.h2
  have k2 := l.k2
  obtain ⟨u, hu, su⟩ := arr_at hb (i := nb - 1) (Nat.lt_of_lt_of_le (Nat.sub_one_lt_of_lt h2) k2)
  obtain ⟨v, hv, sv⟩ := arr_at ha (Nat.lt_of_lt_of_le (Nat.sub_one_lt_of_lt l.h1) l.k1)
  have p1 := l.p.pB (Nat.le_of_succ_le h2) hu
  refine wpS_bind (wpS_elem hu ?_)
  by_cases c : (nb - 1 == 1) = true
  · rw [if_pos c]; exact wpS_pure (q.q1 ⟨p1.first, l.g⟩)
  rw [if_neg c]
  rw [beq_t] at c
  refine wpS_bind (wpS_elem hv (wpS_bind (wpS_gallop H (l.g.k.trans hk) sv (fun i hi => arr_at hb (by omega)) (by omega) fun k1 hk1 => ?_)))
  have h3 := l.h3
  have pb := p1.moreB hk1
  refine wpS_ite2 (fun out nb => HI a b st₀ n na nb out st) (fun _ _ => wpS_pure (q.q1 ⟨pb.first, l.g⟩)) (fun _ _ _ => wpS_pure (q.q1 ⟨pb.done, l.g⟩)) (fun _ c c' => ⟨pb, l.h1, l.k1, by rw [beq_t] at c c'; omega, by omega, by omega, l.g⟩) (fun _ => ⟨p1, l.h1, l.k1, by omega, by omega, by omega, l.g⟩) fun out nb l => wpS_hiG3 ha l q
theorem wpS_hiG1 (H : LtOk (model prog w) A E s κ S) (hk : kindOf st₀ = κ) (ha : ∀ x ∈ a, S x) (hb : ∀ x ∈ b, S x) {mg n na nb ac bc : Nat} {out : KA} {st : SortSt} {Q : ForInStep HiG → SortSt → Prop} (l : HI a b st₀ n na nb out st) (q : GQ (ME a b st₀) (HI a b st₀ n) (HI a b st₀ n) Q) : wpS (model prog w) A E s (hiG1 a b mg out na nb ac bc) Q st := by
  refine wpS_bind (wpS_setMin l.g fun st' g => ?_)
  have h1 := l.h1
  have k1 := l.k1
  obtain ⟨u, hu, su⟩ := arr_at hb (i := nb - 1) (Nat.lt_of_lt_of_le (Nat.sub_one_lt_of_lt l.h2) l.k2)
  refine wpS_bind (wpS_elem hu (wpS_bind (wpS_gallop H (g.k.trans hk) su (fun i hi => arr_at ha (by omega)) (Nat.sub_one_lt_of_lt h1) fun k hk' => ?_)))
  have pa := l.p.moreA hk'
  refine wpS_ite1 (fun out na => HI a b st₀ n na nb out st') (fun _ _ => wpS_pure (q.q1 ⟨pa.done, g⟩)) (fun _ c => ⟨pa, by rw [beq_t] at c; omega, by omega, l.h2, l.k2, by have := l.h3; omega, g⟩) (fun _ => ⟨l.p, h1, k1, l.h2, l.k2, l.h3, g⟩) fun out na l => wpS_hiG2 H hk ha hb l q
theorem wpS_mergeHi (H : LtOk (model prog w) A E s κ S) {a b : KA} {Q : KA → SortSt → Prop} {st : SortSt} (hk : kindOf st = κ)
    (ha : ∀ x ∈ a, S x) (hb : ∀ x ∈ b, S x) (ha0 : 0 < a.size) (hb0 : 0 < b.size) (h : ∀ out st', out.Perm (a ++ b) → SameG st st' → Q out st') :
    wpS (model prog w) A E s (mergeHi' a b) Q st := by
  rw [mergeHi'_eq]
  obtain ⟨u, hu, _⟩ := arr_at ha (Nat.sub_one_lt_of_lt ha0)
  refine wpS_bind (wpS_lift (wpAny_rule ⟨rfl, wpS_bind (wpS_elem hu ?_)⟩))
  have p0 : MH a b #[u] (a.size - 1) b.size := MH.pA (out := #[]) (by
    unfold MH
    rw [List.take_of_length_le (show a.toList.length ≤ a.size from Nat.le_refl _), List.take_of_length_le (show b.toList.length ≤ b.size from Nat.le_refl _)]
    exact .of_eq (List.append_nil _)) ha0 hu
  by_cases q1 : (a.size - 1 == 0) = true
  · rw [if_pos q1]; exact wpS_pure (h _ _ p0.done .rfl')
  rw [if_neg q1]
  by_cases q2 : (b.size == 1) = true
  · rw [if_pos q2]; exact wpS_pure (h _ _ p0.first .rfl')
  rw [if_neg q2]
  rw [beq_t] at q1 q2
  refine wpS_bind (wpS_get (wpS_bind (wpS_mono (wpS_mLoops (P := HI a b st) (X := ME a b st) (fun hm l => ⟨l.p, l.h1, l.k1, l.h2, l.k2, Nat.le_trans (Nat.add_le_add_left hm _) l.h3, l.g⟩) (fun l => by have := l.h1; have := l.h3; omega) (fun l g => ⟨l.p, l.h1, l.k1, l.h2, l.k2, l.h3, ⟨g.k.trans l.g.k, g.a.trans l.g.a, g.p.trans l.g.p, g.f.trans l.g.f⟩⟩) (fun l q => wpS_hiIn H hk ha hb l q) (fun {n x y z d st Q} l q => ?_) ⟨p0, by omega, by omega, by omega, by omega, by omega, .rfl'⟩) ?_)))
  · unfold hiGal
    split
    · exact wpS_hiG1 H hk ha hb l q
    · exact wpS_hiG1 H hk ha hb l q
  · rintro ⟨_ | r, c⟩ st m
    · exact m.elim
    · exact wpS_pure (h _ _ m.1 m.2)
end
end Mine
end
-- part So4
section
open PySem PySem.W PyProof.Rows
namespace Mine
noncomputable def cTail (lo n₀ nrem : Nat) : StateT SortSt Sem (Option Nat) := do
  let mut n := n₀
  reverseSlice' lo (lo + n)
  for _ in [n:nrem] do
    let some smaller ← ltAt' (lo + n) (lo + n - 1) | return none
    if smaller then break
    n := n + 1
  return some n
noncomputable def cDesc (lo n₀ nrem : Nat) : StateT SortSt Sem (Option Nat) := do
  rule "list.sort.descending-run"
  let mut n := n₀ + 1
  let mut neq := 0
  for _ in [n:nrem] do
    let some smaller ← ltAt' (lo + n) (lo + n - 1) | return none
    if smaller then
      if neq > 0 then reverseSlice' (lo + n - (neq + 1)) (lo + n)
      neq := 0
    else
      let some larger ← ltAt' (lo + n - 1) (lo + n) | return none
      if larger then break
      neq := neq + 1
    n := n + 1
  if neq > 0 then reverseSlice' (lo + n - (neq + 1)) (lo + n)
  cTail lo n nrem
theorem countRun_eq (lo nrem : Nat) : countRun' lo nrem = (do
  let mut n := 1
  for _ in [1:nrem] do
    let some smaller ← ltAt' (lo + n) (lo + n - 1) | return none
    if smaller then break
    n := n + 1
  if n == nrem then return some n
  if n > 1 then
    let some rose ← ltAt' lo (lo + n - 1) | return none
    if rose then return some n
    reverseSlice' lo (lo + n)
  cDesc lo n nrem) := rfl

/-- a sort's state under way: a permutation, nothing failed -/
structure SB (κ : SortKind) (a₀ : Array Keyed) (p : Array (Nat × Nat × Nat)) (st : SortSt) : Prop where
  k : kindOf st = κ
  a : (arrOf st).Perm a₀
  p : pendingOf st = p
  f : failedOf st = none

section
variable {prog : Program} {w : World} {A : Around} {E : Value → Shared → Prop} {s : Shared} {κ : SortKind} {S : Keyed → Prop} {a₀ : Array Keyed} {p : Array (Nat × Nat × Nat)} {st : SortSt}

theorem SB.size (h : SB κ a₀ p st) : (arrOf st).size = a₀.size := h.a.size_eq
theorem SB.at_ (h : SB κ a₀ p st) (hS : ∀ x ∈ a₀, S x) {i : Nat} (hi : i < a₀.size) : ∃ x, (arrOf st)[i]? = some x ∧ S x := by
  have hi' : i < (arrOf st).size := by rw [h.size]; exact hi
  have hm : (arrOf st)[i] ∈ a₀.toList := (Array.perm_iff_toList_perm.mp h.a).mem_iff.mp (by simp)
  exact ⟨_, getElem?_pos _ i hi', hS _ (by simpa using hm)⟩
theorem SB.set (h : SB κ a₀ p st) {xs : Array Keyed} (hp : xs.Perm (arrOf st)) : SB κ a₀ p (setArr st xs) := ⟨h.k, hp.trans h.a, h.p, h.f⟩
theorem wpS_ltAt_ (H : LtOk (model prog w) A E s κ S) (hS : ∀ x ∈ a₀, S x) (h : SB κ a₀ p st) {i j : Nat} {Q : Option Bool → SortSt → Prop} (hi : i < a₀.size) (hj : j < a₀.size) (q : ∀ b, Q (some b) st) :
    wpS (model prog w) A E s (ltAt' i j) Q st := by
  rw [ltAt'_eq]
  obtain ⟨x, hx, sx⟩ := h.at_ hS hi
  obtain ⟨y, hy, sy⟩ := h.at_ hS hj
  exact wpS_bind (wpS_get (wpS_bind (wpS_elem hx (wpS_bind (wpS_elem hy (H _ _ sx sy _ _ h.k q))))))
theorem wpS_rev (h : SB κ a₀ p st) {i j : Nat} {Q : Unit → SortSt → Prop} (q : ∀ st', SB κ a₀ p st' → Q () st') : wpS (model prog w) A E s (reverseSlice' i j) Q st :=
  wpS_reverse (q _ (h.set (mirror_perm _ _ _ _)))

theorem wpS_cTail (H : LtOk (model prog w) A E s κ S) (hS : ∀ x ∈ a₀, S x) (h : SB κ a₀ p st) {lo n nrem : Nat} {Q : Option Nat → SortSt → Prop} (h1 : 1 ≤ n) (hn : n ≤ nrem) (hz : lo + nrem ≤ a₀.size)
    (q : ∀ m st', SB κ a₀ p st' → 1 ≤ m → m ≤ nrem → Q (some m) st') : wpS (model prog w) A E s (cTail lo n nrem) Q st := by
  unfold cTail
  refine wpS_bind (wpS_rev h fun st' h => ?_)
  refine wpS_bind (wpS_mono (wpS_forRange (I := fun x c st' => c = (none, x) ∧ SB κ a₀ p st') (Q := fun c st' => ∃ m, c = (none, m) ∧ SB κ a₀ p st' ∧ 1 ≤ m ∧ m ≤ nrem) ?_ (fun c st' hh => ⟨max n nrem, hh.1, hh.2, by omega, by omega⟩) ⟨rfl, h⟩) ?_)
  · rintro x c st' hx1 hx2 ⟨rfl, h⟩
    dsimp only
    refine wpS_bind (wpS_ltAt_ H hS h (by omega) (by omega) fun b => ?_)
    cases b with
    | true => exact wpS_pure ⟨x, rfl, h, by omega, by omega⟩
    | false => exact wpS_pure ⟨rfl, h⟩
  · rintro c st' ⟨m, rfl, h, h1, h2⟩
    exact wpS_pure (q m st' h h1 h2)
theorem wpS_cDesc (H : LtOk (model prog w) A E s κ S) (hS : ∀ x ∈ a₀, S x) (h : SB κ a₀ p st) {lo n nrem : Nat} {Q : Option Nat → SortSt → Prop} (hn : n + 1 ≤ nrem) (hz : lo + nrem ≤ a₀.size)
    (q : ∀ m st', SB κ a₀ p st' → 1 ≤ m → m ≤ nrem → Q (some m) st') : wpS (model prog w) A E s (cDesc lo n nrem) Q st := by
  unfold cDesc
  refine wpS_bind (wpS_lift (wpAny_rule ⟨rfl, ?_⟩))
  dsimp only
  refine wpS_bind (wpS_mono (wpS_forRange (I := fun x c st' => ∃ e, c = (none, x, e) ∧ SB κ a₀ p st') (Q := fun c st' => ∃ m e, c = (none, m, e) ∧ SB κ a₀ p st' ∧ 1 ≤ m ∧ m ≤ nrem) ?_ (fun c st' hh => by obtain ⟨e, hc, h⟩ := hh; exact ⟨max (n + 1) nrem, e, hc, h, by omega, by omega⟩) ⟨0, rfl, h⟩) ?_)
  · rintro x c st' hx1 hx2 ⟨e, rfl, h⟩
    dsimp only
    refine wpS_bind (wpS_ltAt_ H hS h (by omega) (by omega) fun b => ?_)
    cases b with
    | true =>
      dsimp only
      rw [if_pos rfl]
      split
      · exact wpS_bind (wpS_rev h fun st' h => wpS_pure ⟨0, rfl, h⟩)
      · exact wpS_pure ⟨0, rfl, h⟩
    | false =>
      dsimp only
      rw [if_neg (by decide)]
      refine wpS_bind (wpS_ltAt_ H hS h (by omega) (by omega) fun b => ?_)
      cases b with
      | true => exact wpS_pure ⟨x, e, rfl, h, by omega, by omega⟩
      | false => exact wpS_pure ⟨_, rfl, h⟩
  · rintro c st' ⟨m, e, rfl, h, h1, h2⟩
    dsimp only
    split
    · exact wpS_bind (wpS_rev h fun st' h => wpS_cTail H hS h h1 h2 hz q)
    · exact wpS_cTail H hS h h1 h2 hz q
theorem wpS_countRun_ (H : LtOk (model prog w) A E s κ S) (hS : ∀ x ∈ a₀, S x) (h : SB κ a₀ p st) {lo nrem : Nat} {Q : Option Nat → SortSt → Prop} (h1 : 1 ≤ nrem) (hz : lo + nrem ≤ a₀.size)
    (q : ∀ m st', SB κ a₀ p st' → 1 ≤ m → m ≤ nrem → Q (some m) st') : wpS (model prog w) A E s (countRun' lo nrem) Q st := by
  rw [countRun_eq]
  dsimp only
  refine wpS_bind (wpS_mono (wpS_forRange (I := fun x c st' => c = (none, x) ∧ SB κ a₀ p st') (Q := fun c st' => ∃ m, c = (none, m) ∧ SB κ a₀ p st' ∧ 1 ≤ m ∧ m ≤ nrem) ?_ (fun c st' hh => ⟨max 1 nrem, hh.1, hh.2, by omega, by omega⟩) ⟨rfl, h⟩) ?_)
  · rintro x c st' hx1 hx2 ⟨rfl, h⟩
    dsimp only
    refine wpS_bind (wpS_ltAt_ H hS h (by omega) (by omega) fun b => ?_)
    cases b with
    | true => exact wpS_pure ⟨x, rfl, h, by omega, by omega⟩
    | false => exact wpS_pure ⟨rfl, h⟩
  · rintro c st' ⟨m, rfl, h, h1, h2⟩
    dsimp only
    by_cases e : m = nrem
    · rw [if_pos (by simpa using e)]; exact wpS_pure (q m st' h h1 h2)
    rw [if_neg (by simpa using e)]
    split
    · refine wpS_bind (wpS_ltAt_ H hS h (by omega) (by omega) fun b => ?_)
      cases b with
      | true => exact wpS_pure (q m st' h h1 h2)
      | false => exact wpS_bind (wpS_rev h fun st' h => wpS_cDesc H hS h (by omega) hz q)
    · exact wpS_cDesc H hS h (by omega) hz q
theorem wpS_binary_ (H : LtOk (model prog w) A E s κ S) (hS : ∀ x ∈ a₀, S x) (h : SB κ a₀ p st) {lo n ok : Nat} {Q : Bool → SortSt → Prop} (hz : lo + n ≤ a₀.size)
    (q : ∀ st', SB κ a₀ p st' → Q true st') : wpS (model prog w) A E s (binarySort' lo n ok) Q st := by
  rw [binarySort'_eq]
  refine wpS_bind (wpS_mono (wpS_forRange (I := fun k c st' => c = (none, ()) ∧ SB κ a₀ p st') (Q := fun c st' => c = (none, ()) ∧ SB κ a₀ p st') ?_ (fun _ _ hh => hh) ⟨rfl, h⟩) ?_)
  · rintro k c st' hk1 hk2 ⟨rfl, h⟩
    dsimp only
    refine wpS_bind (wpS_mono (wpS_forRange (I := fun x c st'' => st'' = st' ∧ ∃ l r, c = (none, l, r) ∧ r ≤ k) (Q := fun c st'' => st'' = st' ∧ ∃ l r, c = (none, l, r)) ?_ (fun _ _ hh => by obtain ⟨e, l, r, hc, _⟩ := hh; exact ⟨e, l, r, hc⟩) ⟨rfl, 0, k, rfl, Nat.le_refl _⟩) ?_)
    · rintro x c st'' _ _ ⟨rfl, l, r, rfl, hr⟩
      dsimp only
      by_cases hge : l ≥ r
      · rw [if_pos hge]; exact wpS_pure ⟨rfl, l, r, rfl⟩
      · rw [if_neg hge]
        refine wpS_bind (wpS_ltAt_ H hS h (by omega) (by omega) fun b => ?_)
        cases b with
        | true => exact wpS_pure ⟨rfl, l, _, rfl, by omega⟩
        | false => exact wpS_pure ⟨rfl, _, r, rfl, hr⟩
    · rintro c st'' ⟨rfl, l, r, rfl⟩
      show wpS _ _ _ _ (do moveDown' (lo + k) (lo + l); pure (ForInStep.yield (none, ()))) _ _
      rw [moveDown'_eq]
      exact wpS_bind (wpS_modify (wpS_pure ⟨rfl, h.set (bubble_perm _ _ _)⟩))
  · rintro c st' ⟨rfl, h⟩
    exact wpS_pure (q st' h)
end
end Mine
end
-- part So5
section
open PySem PySem.W PyProof.Rows
namespace Mine
/-- the runs stand side by side, from a to b -/
noncomputable def Cov : List (Nat × Nat × Nat) → Nat → Nat → Prop
  | [], a, b => a = b
  | (s, n, _) :: r, a, b => s = a ∧ 1 ≤ n ∧ Cov r (a + n) b
theorem Cov.le : ∀ {l : List (Nat × Nat × Nat)} {a b : Nat}, Cov l a b → a ≤ b
  | [], _, _, h => Nat.le_of_eq h
  | (_, _, _) :: _, _, _, h => Nat.le_trans (Nat.le_add_right _ _) h.2.2.le
theorem Cov.at_ : ∀ {l : List (Nat × Nat × Nat)} {a b i sa na pa sb nb pb : Nat}, Cov l a b → l[i]? = some (sa, na, pa) → l[i + 1]? = some (sb, nb, pb) → sb = sa + na ∧ 1 ≤ na ∧ 1 ≤ nb ∧ sb + nb ≤ b
  | (s, n, q) :: (s', n', q') :: r, a, b, 0, sa, na, pa, sb, nb, pb, h, e, e' => by
    cases e; cases e'
    obtain ⟨rfl, h1, rfl, h2, h3⟩ := h
    exact ⟨rfl, h1, h2, h3.le⟩
  | (s, n, q) :: r, a, b, i + 1, sa, na, pa, sb, nb, pb, h, e, e' => Cov.at_ (l := r) h.2.2 (i := i) e e'
  | [(s, n, q)], a, b, 0, sa, na, pa, sb, nb, pb, h, e, e' => nomatch e'
theorem Cov.merge : ∀ {l : List (Nat × Nat × Nat)} {a b i sa na pa sb nb pb : Nat}, Cov l a b → l[i]? = some (sa, na, pa) → l[i + 1]? = some (sb, nb, pb) → Cov ((l.set i (sa, na + nb, pa)).eraseIdx (i + 1)) a b
  | (s, n, q) :: (s', n', q') :: r, a, b, 0, sa, na, pa, sb, nb, pb, h, e, e' => by
    cases e; cases e'
    obtain ⟨rfl, h1, rfl, h2, h3⟩ := h
    exact ⟨rfl, by omega, by rw [← Nat.add_assoc]; exact h3⟩
  | (s, n, q) :: r, a, b, i + 1, sa, na, pa, sb, nb, pb, h, e, e' => ⟨h.1, h.2.1, Cov.merge (l := r) h.2.2 (i := i) e e'⟩
  | [(s, n, q)], a, b, 0, sa, na, pa, sb, nb, pb, h, e, e' => nomatch e'
theorem Cov.snoc : ∀ {l : List (Nat × Nat × Nat)} {a b n q : Nat}, Cov l a b → 1 ≤ n → Cov (l ++ [(b, n, q)]) a (b + n)
  | [], _, _, _, _, h, h1 => ⟨h.symm, h1, by rw [show _ = _ from h]; rfl⟩
  | (_, _, _) :: r, _, _, _, _, h, h1 => ⟨h.1, h.2.1, h.2.2.snoc h1⟩
theorem Cov.pow : ∀ {l : List (Nat × Nat × Nat)} {a b i q : Nat}, Cov l a b → Cov (l.modify i fun (s, n, _) => (s, n, q)) a b
  | [], _, _, i, _, h => by cases i <;> exact h
  | (s, n, w) :: r, _, _, 0, _, h => h
  | (s, n, w) :: r, _, _, i + 1, _, h => ⟨h.1, h.2.1, Cov.pow (l := r) h.2.2⟩

theorem sets_eq (sa : Nat) : ∀ (l : List Keyed) (j : Nat) (c : Array Keyed), sa + j + l.length ≤ c.size →
    ((l.zipIdx j).foldl (fun (a : Array Keyed) (q : Keyed × Nat) => a.setIfInBounds (sa + q.2) q.1) c).toList = c.toList.take (sa + j) ++ l ++ c.toList.drop (sa + j + l.length)
  | [], j, c, _ => by
    show c.toList = _
    rw [List.append_nil, List.length_nil, Nat.add_zero, List.take_append_drop]
  | x :: r, j, c, h => by
    rw [List.length_cons] at h
    rw [List.zipIdx_cons, List.foldl_cons, sets_eq sa r (j + 1) _ (by rw [Array.size_setIfInBounds]; omega)]
    dsimp only
    have e : (c.setIfInBounds (sa + j) x).toList = c.toList.take (sa + j) ++ x :: c.toList.drop (sa + j + 1) := by
      rw [Array.toList_setIfInBounds, List.set_eq_take_append_cons_drop, if_pos (by rw [Array.length_toList]; omega)]
    rw [e]
    have hl : (c.toList.take (sa + j)).length = sa + j := by rw [List.length_take, Array.length_toList]; omega
    have e1 : (c.toList.take (sa + j) ++ x :: c.toList.drop (sa + j + 1)).take (sa + (j + 1)) = c.toList.take (sa + j) ++ [x] := by
      rw [List.take_append, List.take_of_length_le (by omega), hl, show sa + (j + 1) - (sa + j) = 1 by omega]; rfl
    have e2 : (c.toList.take (sa + j) ++ x :: c.toList.drop (sa + j + 1)).drop (sa + (j + 1) + r.length) = c.toList.drop (sa + j + (r.length + 1)) := by
      rw [List.drop_append, List.drop_of_length_le (by omega), hl, show sa + (j + 1) + r.length - (sa + j) = r.length + 1 by omega, List.nil_append, List.drop_succ_cons, List.drop_drop]
      congr 1; omega
    rw [e1, e2, List.append_assoc, List.append_assoc, List.append_assoc, List.length_cons]
    rfl

theorem sets_perm {c m : Array Keyed} {sa sb nb : Nat} (h1 : sa ≤ sb) (h2 : sb + nb ≤ c.size) (hp : m.Perm (c.extract sa sb ++ c.extract sb (sb + nb))) :
    (m.toList.zipIdx.foldl (fun (a : Array Keyed) (q : Keyed × Nat) => a.setIfInBounds (sa + q.2) q.1) c).Perm c := by
  have hl : m.toList.length = sb - sa + nb := by
    rw [Array.length_toList, hp.size_eq, Array.size_append, Array.size_extract, Array.size_extract]; omega
  rw [Array.perm_iff_toList_perm, sets_eq sa m.toList 0 c (by omega), hl, show sa + 0 + (sb - sa + nb) = sb + nb by omega, Nat.add_zero]
  rw [Array.perm_iff_toList_perm, Array.toList_append, Array.toList_extract, Array.toList_extract, List.extract_eq_take_drop, List.extract_eq_take_drop, Nat.add_sub_cancel_left] at hp
  have e : c.toList = c.toList.take sa ++ ((c.toList.drop sa).take (sb - sa) ++ (c.toList.drop sb).take nb) ++ c.toList.drop (sb + nb) := by
    have x1 := (List.take_append_drop sa c.toList).symm
    have x2 := (List.take_append_drop (sb - sa) (c.toList.drop sa)).symm
    have x3 := (List.take_append_drop nb (c.toList.drop sb)).symm
    rw [List.drop_drop] at x2 x3
    rw [show sa + (sb - sa) = sb by omega] at x2
    rw [x3] at x2
    rw [x2] at x1
    simpa only [List.append_assoc] using x1
  have := List.Perm.append_right (c.toList.drop (sb + nb)) (List.Perm.append_left (c.toList.take sa) hp)
  rw [← e] at this
  exact this
end Mine
end
-- part So6
section
open PySem PySem.W PyProof.Rows
namespace Mine
theorem mergeAt_eq (i : Nat) : mergeAt' i = (do
  let s ← get
  let (some (sa, na, power), some (sb, nb, _)) := ((pendingOf s)[i]?, (pendingOf s)[i + 1]?) | unsupported "internal:list.sort.pending"
  set (setPending s (((pendingOf s).setIfInBounds i (sa, na + nb, power)).eraseIdxIfInBounds (i + 1)))
  let some k ← gallop' false (← elem' (arrOf s) sb) (arrOf s) sa na 0 | return false
  let (sa, na) := (sa + k, na - k)
  if na == 0 then return true
  let some nb ← gallop' true (← elem' (arrOf s) (sa + na - 1)) (arrOf s) sb nb (nb - 1) | return false
  if nb == 0 then return true
  let x := (arrOf s).extract sa sb
  let y := (arrOf s).extract sb (sb + nb)
  let merged ← if na ≤ nb then mergeLo' x y else mergeHi' x y
  modify fun s => setArr s (merged.toList.zipIdx.foldl (fun a (p, j) => a.setIfInBounds (sa + j) p) (arrOf s))
  return (failedOf (← get)).isNone) := rfl

section
variable {prog : Program} {w : World} {A : Around} {E : Value → Shared → Prop} {s : Shared} {κ : SortKind} {S : Keyed → Prop} {a₀ : Array Keyed} {p : Array (Nat × Nat × Nat)} {st : SortSt}

theorem wpS_set {M : Model} {σ : Type} {x : σ} {Q : PUnit → σ → Prop} {st : σ} (h : Q ⟨⟩ x) : wpS M A E s (set x : StateT σ Sem PUnit) Q st := by
  unfold wpS; rw [StateT.run_set]; exact wpAny_pure ⟨rfl, h⟩

theorem wpS_mergeAt (H : LtOk (model prog w) A E s κ S) (hS : ∀ x ∈ a₀, S x) (h : SB κ a₀ p st) {lo i : Nat} {Q : Bool → SortSt → Prop} (hc : Cov p.toList 0 lo) (hlo : lo ≤ a₀.size) (hi : i + 1 < p.size)
    (q : ∀ p' st', SB κ a₀ p' st' → Cov p'.toList 0 lo → Q true st') : wpS (model prog w) A E s (mergeAt' i) Q st := by
  rw [mergeAt_eq]
  refine wpS_bind (wpS_get ?_)
  obtain ⟨⟨sa, na, pa⟩, ea⟩ : ∃ x, p[i]? = some x := ⟨_, getElem?_pos p i (by omega)⟩
  obtain ⟨⟨sb, nb, pb⟩, eb⟩ : ∃ x, p[i + 1]? = some x := ⟨_, getElem?_pos p (i + 1) hi⟩
  rw [h.p, ea, eb]
  dsimp only
  obtain ⟨rfl, hna, hnb, hle⟩ := hc.at_ (by simpa using ea) (by simpa using eb)
  have hc' : Cov ((p.setIfInBounds i (sa, na + nb, pa)).eraseIdxIfInBounds (i + 1)).toList 0 lo := by
    rw [Array.toList_eraseIdxIfInBounds, Array.toList_setIfInBounds]
    exact hc.merge (by simpa using ea) (by simpa using eb)
  generalize (p.setIfInBounds i (sa, na + nb, pa)).eraseIdxIfInBounds (i + 1) = p' at hc'
  refine wpS_bind (wpS_set ?_)
  have h' : SB κ a₀ p' (setPending st p') := ⟨h.k, h.a, rfl, h.f⟩
  obtain ⟨u, hu, su⟩ := h.at_ hS (i := sa + na) (by omega)
  refine wpS_bind (wpS_elem hu (wpS_bind (wpS_gallop H h'.k su (fun j hj => h.at_ hS (by omega)) hna fun k hk => ?_)))
  dsimp only
  by_cases q1 : na - k = 0
  · rw [if_pos (by simpa using q1)]; exact wpS_pure (q _ _ h' hc')
  rw [if_neg (by simpa using q1)]
  obtain ⟨v, hv, sv⟩ := h.at_ hS (i := sa + k + (na - k) - 1) (by omega)
  refine wpS_bind (wpS_elem hv (wpS_bind (wpS_gallop H h'.k sv (fun j hj => h.at_ hS (by omega)) (by omega) fun nb' hnb' => ?_)))
  dsimp only
  by_cases q2 : nb' = 0
  · rw [if_pos (by simpa using q2)]; exact wpS_pure (q _ _ h' hc')
  rw [if_neg (by simpa using q2)]
  have sx : ∀ {a b : Nat}, ∀ x ∈ (arrOf st).extract a b, S x := fun {a b} x hx => by
    refine hS x ?_
    have hm : x ∈ (arrOf st).toList := by
      have : x ∈ ((arrOf st).extract a b).toList := Array.mem_toList_iff.mpr hx
      rw [Array.toList_extract, List.extract_eq_take_drop] at this
      exact List.mem_of_mem_drop (List.mem_of_mem_take this)
    simpa using (Array.perm_iff_toList_perm.mp h.a).mem_iff.mp hm
  have hx0 : 0 < ((arrOf st).extract (sa + k) (sa + na)).size := by rw [Array.size_extract, h.size]; omega
  have hy0 : 0 < ((arrOf st).extract (sa + na) (sa + na + nb')).size := by rw [Array.size_extract, h.size]; omega
  have fin : ∀ (out : Array Keyed) (st' : SortSt), out.Perm ((arrOf st).extract (sa + k) (sa + na) ++ (arrOf st).extract (sa + na) (sa + na + nb')) → SameG (setPending st p') st' →
      wpS (model prog w) A E s (do
        modify fun s => setArr s (out.toList.zipIdx.foldl (fun a (q : Keyed × Nat) => a.setIfInBounds (sa + k + q.2) q.1) (arrOf s))
        let s ← get
        pure (failedOf s).isNone) Q st' := fun out st' hp g => by
    refine wpS_bind (wpS_modify (wpS_bind (wpS_get (wpS_pure ?_))))
    have ea : arrOf st' = arrOf st := g.a
    have hset : SB κ a₀ p' (setArr st' (out.toList.zipIdx.foldl (fun a (q : Keyed × Nat) => a.setIfInBounds (sa + k + q.2) q.1) (arrOf st'))) := by
      refine ⟨g.k.trans h'.k, ?_, g.p.trans h'.p, g.f.trans h'.f⟩
      rw [ea]
      exact (sets_perm (by omega) (by rw [h.size]; omega) hp).trans h.a
    have e : failedOf (setArr st' (out.toList.zipIdx.foldl (fun a (q : Keyed × Nat) => a.setIfInBounds (sa + k + q.2) q.1) (arrOf st'))) = none := hset.f
    rw [e]
    exact q _ _ hset hc'
  split
  · exact wpS_bind (wpS_mergeLo H h'.k sx sx hx0 hy0 fin)
  · exact wpS_bind (wpS_mergeHi H h'.k sx sx hx0 hy0 fin)
end
end Mine
end
-- part So7
section
open PySem PySem.W PyProof.Rows
namespace Mine
section
variable {prog : Program} {w : World} {A : Around} {E : Value → Shared → Prop} {s : Shared} {κ : SortKind} {S : Keyed → Prop} {a₀ : Array Keyed} {p : Array (Nat × Nat × Nat)} {st : SortSt}

/-- a sort under way: the runs cover what has been read -/
inductive RU (κ : SortKind) (a₀ : Array Keyed) (lo : Nat) (st : SortSt) : Prop
  | mk (p : Array (Nat × Nat × Nat)) (h : SB κ a₀ p st) (c : Cov p.toList 0 lo) (l : lo ≤ a₀.size)

theorem minRun_pos : ∀ (f n r : Nat), 1 ≤ n → 1 ≤ minRun' f n r := by
  intro f
  induction f with
  | zero => intro n r h; show 1 ≤ n + r; omega
  | succ f ih =>
    intro n r h
    rw [minRun'_succ]
    split
    · omega
    · exact ih _ _ (by omega)

theorem wpS_force {α : Type} {f : Nat → StateT SortSt Sem α} {c : Prop} [Decidable c] {m n : Nat} {str : String} {pre : StateT SortSt Sem Bool} {d : StateT SortSt Sem α} {Q : α → SortSt → Prop} (P : Nat → SortSt → Prop)
    (h0 : ¬ c → P n st) (h1 : c → wpS (model prog w) A E s pre (fun b st' => b = true ∧ P m st') st) (h : ∀ k st', P k st' → wpS (model prog w) A E s (f k) Q st') :
    wpS (model prog w) A E s (if c then (do liftM (rule str); let b ← pre; if (!b) = true then d else f m) else f n) Q st := by
  split
  · refine wpS_bind (wpS_lift (wpAny_rule ⟨rfl, ?_⟩))
    refine wpS_bind (wpS_mono (h1 (by assumption)) fun b st' hb => ?_)
    obtain ⟨rfl, hp⟩ := hb
    exact h _ _ hp
  · exact h _ _ (h0 (by assumption))
theorem wpS_sortRuns_ (H : LtOk (model prog w) A E s κ S) (hS : ∀ x ∈ a₀, S x) (h : SB κ a₀ #[] st) {Q : Unit → SortSt → Prop}
    (q : ∀ st', (arrOf st').Perm a₀ → failedOf st' = none → Q () st') : wpS (model prog w) A E s sortRuns' Q st := by
  rw [sortRuns'_eq]
  refine wpS_bind (wpS_get ?_)
  dsimp only
  rw [h.size]
  generalize minRun' a₀.size a₀.size 0 = mr
  refine wpS_bind (wpS_mono (wpS_forRange (I := fun _ c st' => ∃ lo, c = (none, lo) ∧ RU κ a₀ lo st') (Q := fun c st' => ∃ lo, c = (none, lo) ∧ RU κ a₀ lo st') ?step (fun _ _ h => h) ⟨0, rfl, #[], h, rfl, Nat.zero_le _⟩) ?post)
  case post =>
    rintro c st' ⟨lo, rfl, hr⟩
    dsimp only
    refine wpS_bind (wpS_mono (wpS_forRange (I := fun _ c st' => c = (none, ()) ∧ RU κ a₀ lo st') (Q := fun c st' => c = (none, ()) ∧ RU κ a₀ lo st') ?_ (fun _ _ h => h) ⟨rfl, hr⟩) ?_)
    · rintro x c st' _ _ ⟨rfl, ⟨p, h, hc, hl⟩⟩
      refine wpS_bind (wpS_get ?_)
      rw [h.p]
      by_cases q1 : p.size ≤ 1
      · rw [if_pos q1]; exact wpS_pure ⟨rfl, p, h, hc, hl⟩
      rw [if_neg q1]
      refine wpS_bind (wpS_mergeAt H hS h hc hl (by split <;> omega) fun p' st' h' hc' => ?_)
      exact wpS_pure ⟨rfl, p', h', hc', hl⟩
    · rintro c st' ⟨rfl, ⟨p, h, hc, hl⟩⟩
      exact wpS_pure (q _ h.a h.f)
  case step =>
    rintro x c st' _ _ ⟨lo, rfl, ⟨p, h, hc, hl⟩⟩
    dsimp only
    by_cases q1 : lo ≥ a₀.size
    · rw [if_pos q1]; exact wpS_pure ⟨lo, rfl, p, h, hc, hl⟩
    rw [if_neg q1]
    refine wpS_bind (wpS_countRun_ H hS h (lo := lo) (nrem := a₀.size - lo) (by omega) (by omega) fun n st' h hn1 hn2 => ?_)
    dsimp only
    generalize hf : min (a₀.size - lo) mr = force
    apply wpS_force (m := force) (n := n) (fun n st' => 1 ≤ n ∧ lo + n ≤ a₀.size ∧ SB κ a₀ p st')
    · intro _; exact ⟨hn1, by omega, h⟩
    · intro hlt
      exact wpS_binary_ H hS h (by omega) fun st' h => ⟨rfl, by omega, by omega, h⟩
    clear hn1 hn2 h hf force st'
    rintro n st' ⟨hn1, hn2, h⟩
    refine wpS_bind (wpS_get ?_)
    have push : ∀ {p : Array (Nat × Nat × Nat)} {st' : SortSt}, SB κ a₀ p st' → Cov p.toList 0 lo → RU κ a₀ (lo + n) (setPending st' ((pendingOf st').push (lo, n, 0))) := fun {p st'} h hc =>
      ⟨p.push (lo, n, 0), ⟨h.k, h.a, by rw [← h.p], h.f⟩, by rw [Array.toList_push]; exact hc.snoc hn1, hn2⟩
    split
    · rename_i s1 n1 w1 hback
      refine wpS_bind (wpS_mono (wpS_forRange (I := fun _ c st' => c = (none, ()) ∧ RU κ a₀ lo st') (Q := fun c st' => c = (none, ()) ∧ RU κ a₀ lo st') ?_ (fun _ _ h => h) ⟨rfl, p, h, hc, hl⟩) ?_)
      · rintro x c st' _ _ ⟨rfl, ⟨p, h, hc, hl⟩⟩
        refine wpS_bind (wpS_get ?_)
        rw [h.p]
        split
        · rename_i f1 f2 older ho
          by_cases q2 : p.size > 1
          · split
            · exact wpS_pure ⟨rfl, p, h, hc, hl⟩
            · refine wpS_bind (wpS_mergeAt H hS h hc hl (by omega) fun p' st' h' hc' => ?_)
              exact wpS_pure ⟨rfl, p', h', hc', hl⟩
          · rw [if_neg q2] at ho; cases ho
        · exact wpS_pure ⟨rfl, p, h, hc, hl⟩
      · rintro c st' ⟨rfl, ⟨p, h, hc, hl⟩⟩
        dsimp only
        refine wpS_bind (wpS_modify ?_)
        refine wpS_bind (wpS_modify (wpS_pure ⟨lo + n, rfl, ?_⟩))
        refine push (p := p.modify (p.size - 1) fun (st, len, _) => (st, len, power' a₀.size (2 * s1 + n1) (2 * s1 + n1 + n1 + n) a₀.size)) ⟨h.k, h.a, by rw [← h.p], h.f⟩ ?_
        rw [Array.toList_modify]
        exact hc.pow
    · refine wpS_bind (wpS_modify (wpS_pure ⟨lo + n, rfl, push h hc⟩))
end
end Mine
end
-- part Q1
section
open PySem PySem.W PyProof.Rows
namespace Mine

/-- pure values -/
inductive PV where
  | none | bool (b : Bool) | int (i : Int) | str (s : Str) | tup (xs : List PV) | lst (xs : List PV) | cell (k : Nat) | rng (n : Nat)

/-- if the test holds -/
noncomputable def gd {α : Type} (c : Bool) (x : α) : Option α := match c with
  | true => some x
  | false => none
/-- a list of two -/
noncomputable def two (l : List PV) : Option (PV × PV) := match l with
  | a :: r => match r with
    | b :: r' => match r' with
      | [] => some (a, b)
      | _ :: _ => none
    | [] => none
  | [] => none
-- what a value is, if it is
noncomputable def asB (x : PV) : Option Bool := match x with | .bool b => some b | _ => none
noncomputable def asI (x : PV) : Option Int := match x with | .int i => some i | _ => none
noncomputable def asS (x : PV) : Option Str := match x with | .str s => some s | _ => none
noncomputable def asT (x : PV) : Option (List PV) := match x with | .tup l => some l | _ => none
noncomputable def asL (x : PV) : Option (List PV) := match x with | .lst l => some l | _ => none
noncomputable def asC (x : PV) : Option Nat := match x with | .cell k => some k | _ => none

mutual
noncomputable def PV.eqv : PV → PV → Bool
  | .bool a, y => (asB y).elim false fun b => a == b
  | .int a, y => (asI y).elim false fun b => a == b
  | .str a, y => (asS y).elim false fun b => a == b
  | .tup a, y => (asT y).elim false fun b => PV.eqvs a b
  | .lst a, y => (asL y).elim false fun b => PV.eqvs a b
  | _, _ => false
noncomputable def PV.eqvs : List PV → List PV → Bool
  | [], y => match y with | [] => true | _ :: _ => false
  | a :: r, y => match y with | b :: t => PV.eqv a b && PV.eqvs r t | [] => false
end
mutual
/-- may the two be compared -/
noncomputable def PV.cok : PV → PV → Bool
  | .bool _, y => (asB y).isSome
  | .int _, y => (asI y).isSome
  | .str _, y => (asS y).isSome
  | .tup a, y => (asT y).elim false fun b => PV.coks a b
  | .lst a, y => (asL y).elim false fun b => PV.coks a b
  | _, _ => false
noncomputable def PV.coks : List PV → List PV → Bool
  | [], _ => true
  | a :: r, y => match y with | b :: t => PV.cok a b && PV.coks r t | [] => true
end
mutual
noncomputable def PV.dep : PV → Nat
  | .tup xs => PV.deps xs + 1
  | .lst xs => PV.deps xs + 1
  | _ => 0
noncomputable def PV.deps : List PV → Nat
  | [] => 0
  | x :: r => max (PV.dep x) (PV.deps r)
end
noncomputable def PV.may (a b : PV) : Bool := PV.cok a b && decide (PV.dep a ≤ 1000)

/-- what is kept in the store: a list that turns; a dict by texts that turns; a dict by data -/
inductive SC where
  | lst (xs : List PV) | dct (kvs : List (Str × PV)) | dat (kvs : List (List Int × PV)) | tbl
abbrev St := List SC

inductive Res (α : Type) where
  | ok (a : α) (σ : St) | exc (σ : St) | bad
  /-- what the machine chooses -/
  | any (P : List PV → Prop) (f : List PV → Res α)

namespace Res
noncomputable def bind {α β : Type} : Res α → (α → St → Res β) → Res β
  | .ok a σ, f => f a σ
  | .exc σ, _ => .exc σ
  | .bad, _ => .bad
  | .any P g, f => .any P fun l => (g l).bind f
theorem bind_ok {α β : Type} (a : α) (σ : St) (f : α → St → Res β) : (Res.ok a σ).bind f = f a σ := rfl
theorem bind_exc {α β : Type} (σ : St) (f : α → St → Res β) : (Res.exc σ : Res α).bind f = .exc σ := rfl
theorem bind_bad {α β : Type} (f : α → St → Res β) : (Res.bad : Res α).bind f = .bad := rfl
theorem bind_any {α β : Type} (P : List PV → Prop) (g : List PV → Res α) (f : α → St → Res β) : (Res.any P g).bind f = .any P fun l => (g l).bind f := rfl
/-- what is raised is caught -/
noncomputable def caught {α β : Type} (r : Res α) (f g : St → Res β) : Res β := match r with
  | .ok _ σ => f σ
  | .exc σ => g σ
  | .bad => .bad
  | .any _ _ => .bad
/-- without a choice -/
noncomputable def det {α : Type} (r : Res α) : Res α := match r with
  | .any _ _ => .bad
  | r => r
end Res

abbrev Vars := List (Option PV)
noncomputable def vget (ρ : Vars) (i : Nat) : Option PV := (ρ[i]?).join

inductive Tgt where
  | name (i : Nat) (x : Str) (p : Pos)
  | pair (i : Nat) (x : Str) (p : Pos) (j : Nat) (y : Str) (q : Pos) (k : Nat) (tp : Pos)
noncomputable def Tgt.toE : Tgt → Expr
  | .name _ x p => .Name x p
  | .pair _ x p _ y q k tp => .Tuple [.Name x p, .Name y q] k tp
noncomputable def Tgt.bindv : Tgt → PV → Vars → Option Vars
  | .name i _ _, v, ρ => some (ρ.set i (some v))
  | .pair i _ _ j _ _ _ _, v, ρ => (asT v).bind fun l => (two l).map fun q => (ρ.set i (some q.1)).set j (some q.2)

/-- built-in functions and types -/
inductive B where
  | len | tuple | int | str | range | enumerate | dict | sorted
inductive Mt where
  | append | extend | get
noncomputable def Mt.nm : Mt → Str
  | .append => "append" | .extend => "extend" | .get => "get"

inductive PE where
  | cst (c : Const) (k : Nat) (p : Pos)
  | var (i : Nat) (x : Str) (p : Pos)
  | gst (v : Str) (x : Str) (p : Pos)
  | bin (a : PE) (op : Operator) (b : PE) (p : Pos)
  | boo (op : BoolOp) (vs : List PE) (p : Pos)
  | nt (e : PE) (p : Pos)
  | neg (e : PE) (p : Pos)
  | ife (t b o : PE) (p : Pos)
  | tup (es : List PE) (k : Nat) (p : Pos)
  | lst (es : List PE) (p : Pos)
  | mls (es : List PE) (p : Pos)
  | cmp (l : PE) (op : CmpOp) (r : PE) (p : Pos)
  | cmp2 (l : PE) (op : CmpOp) (m : PE) (op2 : CmpOp) (r : PE) (p : Pos)
  | idx (o i : PE) (p : Pos)
  | slF (o lo : PE) (sp p : Pos)
  | slT (o hi : PE) (sp p : Pos)
  | call (f : Nat) (x : Str) (xp : Pos) (as : List PE) (p : Pos)
  | blt (b : B) (x : Str) (xp : Pos) (a : PE) (p : Pos)
  | mth (m : Mt) (i : Nat) (x : Str) (xp : Pos) (ap : Pos) (a : PE) (p : Pos)
  | pop (i : Nat) (x : Str) (xp : Pos) (ap : Pos) (p : Pos)
  | fst (parts : List PE) (p : Pos)
  | fvl (e : PE) (p : Pos)
  | dct (k1 : Str) (k : Nat) (kp : Pos) (v1 : PE) (k2 : Str) (k' : Nat) (kp' : Pos) (v2 : PE) (p : Pos)
  | comp (elt : PE) (tg : Tgt) (en : Option (Str × Pos × Pos)) (it : PE) (ifs : List PE) (caps : List Nat) (sc : Scope) (p : Pos)
  /-- dict of a list of pairs -/
  | dic (x : Str) (xp : Pos) (e : PE) (p : Pos)
  /-- sorted by the first of each -/
  | srt (x : Str) (xp : Pos) (e : PE) (r : Str) (ap rp : Pos) (k : Nat) (zp sp lp kp : Pos) (sc : Scope) (p : Pos)

noncomputable def srcE (en : Option (Str × Pos × Pos)) (e : Expr) : Expr := match en with
  | none => e
  | some q => .Call (.Name q.1 q.2.1) [e] [] q.2.2

mutual
noncomputable def PE.toE : PE → Expr
  | .cst c k p => .Constant c k p
  | .var _ x p => .Name x p
  | .gst _ x p => .Name x p
  | .bin a op b p => .BinOp a.toE op b.toE p
  | .boo op vs p => .BoolOp op (toEs vs) p
  | .nt e p => .UnaryOp .Not e.toE p
  | .neg e p => .UnaryOp .USub e.toE p
  | .ife t b o p => .IfExp t.toE b.toE o.toE p
  | .tup es k p => .Tuple (toEs es) k p
  | .lst es p => .List (toEs es) p
  | .mls es p => .List (toEs es) p
  | .cmp l op r p => .Compare l.toE [op] [r.toE] p
  | .cmp2 l op m op2 r p => .Compare l.toE [op, op2] [m.toE, r.toE] p
  | .idx o i p => .Subscript o.toE i.toE p
  | .slF o lo sp p => .Subscript o.toE (.Slice (some lo.toE) none none sp) p
  | .slT o hi sp p => .Subscript o.toE (.Slice none (some hi.toE) none sp) p
  | .call _ x xp as p => .Call (.Name x xp) (toEs as) [] p
  | .blt _ x xp a p => .Call (.Name x xp) [a.toE] [] p
  | .mth m _ x xp ap a p => .Call (.Attribute (.Name x xp) m.nm ap) [a.toE] [] p
  | .pop _ x xp ap p => .Call (.Attribute (.Name x xp) "pop" ap) [] [] p
  | .fst parts p => .JoinedStr (toEs parts) p
  | .fvl e p => .FormattedValue e.toE (-1) none p
  | .dct k1 k kp v1 k2 k' kp' v2 p => .Dict [some (.Constant (.str k1) k kp), some (.Constant (.str k2) k' kp')] [v1.toE, v2.toE] p
  | .comp elt tg en it ifs _ sc p => .ListComp elt.toE [⟨tg.toE, srcE en it.toE, toEs ifs, 0⟩] sc p
  | .dic x xp e p => .Call (.Name x xp) [e.toE] [] p
  | .srt x xp e r ap rp k zp sp lp kp sc p => .Call (.Name x xp) [e.toE] [⟨some "key", .Lambda ⟨[], [⟨r, none, ap⟩], none, [], [], none, []⟩ (.Subscript (.Name r rp) (.Constant (.int 0) k zp) sp) sc lp, kp⟩] p
noncomputable def toEs : List PE → List Expr
  | [] => []
  | e :: r => e.toE :: toEs r
end

inductive PS where
  | asg (i : Nat) (x : Str) (xp : Pos) (e : PE) (p : Pos)
  | asc (i : Nat) (x : Str) (xp : Pos) (elt : PE) (tg : Tgt) (en : Option (Str × Pos × Pos)) (it : PE) (ifs : List PE) (caps : List Nat) (sc : Scope) (cp p : Pos)
  | ast (sw : Bool) (ts : List (Nat × Str × Pos)) (k : Nat) (tp : Pos) (e : PE) (p : Pos)
  | put (o key : PE) (sp : Pos) (e : PE) (p : Pos)
  | iff (t : PE) (b o : List PS) (p : Pos)
  | ret (e : PE) (p : Pos)
  | fr (tg : Tgt) (it : PE) (b : List PS) (p : Pos)
  | whl (t : PE) (b : List PS) (p : Pos)
  | rse (x : Str) (xp : Pos) (arg : PE) (cp p : Pos)
  | tre (e : PE) (ep : Pos) (x : Str) (xp : Pos) (hv : PE) (hrp hp p : Pos)
  | exp (e : PE) (p : Pos)
  
mutual
noncomputable def PS.toS : PS → Stmt
  | .asg _ x xp e p => .Assign [.Name x xp] e.toE p
  | .asc _ x xp elt tg en it ifs caps sc cp p => .Assign [.Name x xp] (PE.comp elt tg en it ifs caps sc cp).toE p
  | .ast _ ts k tp e p => .Assign [.Tuple (ts.map fun t => .Name t.2.1 t.2.2) k tp] e.toE p
  | .put o key sp e p => .Assign [.Subscript o.toE key.toE sp] e.toE p
  | .iff t b o p => .If t.toE (toSs b) (toSs o) p
  | .ret e p => .Return (some e.toE) p
  | .fr tg it b p => .For tg.toE it.toE (toSs b) [] p
  | .whl t b p => .While t.toE (toSs b) [] p
  | .rse x xp arg cp p => .Raise (some (.Call (.Name x xp) [arg.toE] [] cp)) none p
  | .tre e ep x xp hv hrp hp p => .Try [.Expr e.toE ep] [.ExceptHandler (some (.Name x xp)) none [.Return (some hv.toE) hrp] hp] [] [] p
  | .exp e p => .Expr e.toE p
noncomputable def toSs : List PS → List Stmt
  | [] => []
  | s :: r => s.toS :: toSs r
end

noncomputable def txtOf (i : Int) : Str := Str.ofString (toString i)

noncomputable def small (n : Nat) : Bool := decide (n ≤ 1000000)
noncomputable def onI (f : Int → Int → Option PV) (a b : PV) : Option PV := (asI a).bind fun i => (asI b).bind fun j => f i j
noncomputable def add (a b : PV) : Option PV := match a with
  | .str x => (asS b).bind fun y => gd (small (x.length + y.length)) (.str (x ++ y))
  | .tup x => (asT b).bind fun y => gd (small (x.length + y.length)) (.tup (x ++ y))
  | _ => onI (fun i j => some (.int (i + j))) a b
noncomputable def bin (op : Operator) (a b : PV) : Option PV := match op with
  | .Add => add a b
  | .Sub => onI (fun i j => some (.int (i - j))) a b
  | .Mult => onI (fun i j => gd (decide (i.natAbs < 2 ^ 60 ∧ j.natAbs < 2 ^ 60)) (.int (i * j))) a b
  | .Mod => onI (fun i j => gd (decide (0 < j)) (.int (i.fmod j))) a b
  | _ => none

/-- is the text of one sign part of a text -/
noncomputable def sgnIn (c : Str) (x : Str) : Option Bool := match c.cps.toList with
  | [k] => some (x.cps.toList.contains k)
  | _ => none

/-- a tuple of ints -/
noncomputable def keyv : List PV → Option (List Int)
  | [] => some []
  | x :: r => (asI x).bind fun i => (keyv r).map (i :: ·)
noncomputable def keyt (a : PV) : Option (List Int) := (asT a).bind keyv
noncomputable def lstAt (σ : St) (k : Nat) : Option (List PV) := match σ[k]? with
  | some c => match c with
    | .lst xs => some xs
    | _ => none
  | none => none
noncomputable def dctAt (σ : St) (k : Nat) : Option (List (Str × PV)) := match σ[k]? with
  | some c => match c with
    | .dct kvs => some kvs
    | _ => none
  | none => none
/-- the dict in a place of the store -/
noncomputable def datAt (σ : St) (k : Nat) : Option (List (List Int × PV)) := match σ[k]? with
  | some c => match c with
    | .dat kvs => some kvs
    | _ => none
  | none => none

/-- a list of the store against an empty one -/
noncomputable def cmpq (σ : St) (a b : PV) : Option Bool := match asC a with
  | some k => (asL b).bind fun l => match l with
    | [] => (lstAt σ k).map (·.isEmpty)
    | _ :: _ => none
  | none => gd (PV.may a b) (PV.eqv a b)
noncomputable def cinl (xs : List PV) (a : PV) : Option Bool := gd (xs.all fun x => PV.may x a) (xs.any fun x => PV.eqv x a)
noncomputable def cin (σ : St) (a b : PV) : Option Bool := match b with
  | .lst xs => cinl xs a
  | .str x => (asS a).bind fun c => sgnIn c x
  | .cell k => (datAt σ k).bind fun kvs => (keyt a).map fun q => (kvs.lookup q).isSome
  | _ => none
noncomputable def isN (a : PV) : Bool := match a with
  | .none => true
  | _ => false
noncomputable def cis (a b : PV) : Option Bool := gd (isN b) (isN a)
noncomputable def ci (f : Int → Int → Bool) (a b : PV) : Option Bool := (asI a).bind fun i => (asI b).map fun j => f i j
noncomputable def cmpv (σ : St) : CmpOp → PV → PV → Option Bool
  | .Eq, a, b => cmpq σ a b
  | .NotEq, a, b => (cmpq σ a b).map (!·)
  | .Lt, a, b => ci (fun a b => decide (a < b)) a b
  | .LtE, a, b => ci (fun a b => decide (a ≤ b)) a b
  | .Gt, a, b => ci (fun a b => decide (a > b)) a b
  | .GtE, a, b => ci (fun a b => decide (a ≥ b)) a b
  | .In, a, b => cin σ a b
  | .NotIn, a, b => (cin σ a b).map (!·)
  | .Is, a, b => cis a b
  | _, _, _ => none

noncomputable def place (n : Nat) (i : Int) : Option Nat := gd (decide (0 ≤ i ∧ i < n ∧ i < 1000000000)) i.toNat

/-- places are asked from the front alone -/
noncomputable def itemI (xs : List PV) (y : PV) : Option PV := (asI y).bind fun i => (place xs.length i).bind (xs[·]?)
noncomputable def item (σ : St) (x y : PV) : Option PV := match x with
  | .tup xs => itemI xs y
  | .lst xs => itemI xs y
  | .str x => (asI y).bind fun i => (place x.cps.size i).bind fun j => (x.cps[j]?).map fun c => .str ⟨#[c]⟩
  | .cell k => match σ[k]? with
    | some c => match c with
      | .lst xs => itemI xs y
      | .dct kvs => (asS y).bind fun s => kvs.lookup s
      | .dat kvs => (keyt y).bind fun s => kvs.lookup s
      | .tbl => none
    | none => none
  | _ => none

noncomputable def fromAt (x y : PV) : Option PV := (asI y).bind fun i => gd (decide (0 ≤ i)) i.toNat |>.bind fun n => match x with
  | .tup xs => gd (small xs.length) (.tup (xs.drop n))
  | .str x => gd (small x.length) (.str ⟨(x.cps.toList.drop n).toArray⟩)
  | _ => none
noncomputable def upTo (x y : PV) : Option PV := (asI y).bind fun i => gd (decide (0 ≤ i)) i.toNat |>.bind fun n => match x with
  | .tup xs => gd (small xs.length) (.tup (xs.take n))
  | .lst xs => gd (small xs.length) (.lst (xs.take n))
  | .str x => gd (small x.length) (.str ⟨(x.cps.toList.take n).toArray⟩)
  | _ => none

noncomputable def lenv (σ : St) (x : PV) : Option Nat := match x with
  | .tup xs => some xs.length
  | .lst xs => some xs.length
  | .str s => some s.length
  | .cell k => (lstAt σ k).map (·.length)
  | _ => none
/-- an int out of a value -/
noncomputable def intv (x : PV) : Option Int := match x with
  | .int i => some i
  | _ => (asS x).bind fun s => gd (decide (s.length ≤ 640)) s |>.bind fun s => PySem.intText? s
noncomputable def blt (σ : St) (b : B) (x : PV) : Option PV := match b with
  | .len => (lenv σ x).bind fun n => gd (small n) (.int n)
  | .tuple => (asL x).bind fun l => gd (small l.length) (.tup l)
  | .int => (intv x).map .int
  | .str => (asI x).bind fun i => gd (decide (0 ≤ i ∧ i < 10 ^ 9)) (.str (txtOf i))
  | .range => (asI x).bind fun n => gd (decide (0 ≤ n ∧ n < 1000000)) (.rng n.toNat)
  | _ => none

noncomputable def elems : PV → Option (List PV)
  | .tup xs => gd (small xs.length) xs
  | .lst xs => gd (small xs.length) xs
  | .str x => gd (small x.length) (x.cps.toList.map fun c => .str ⟨#[c]⟩)
  | .rng n => gd (small n) ((List.range n).map fun (i : Nat) => PV.int (i : Int))
  | _ => none

abbrev Phi := Nat → List PV → St → Res PV

noncomputable def opt {α : Type} (o : Option α) (σ : St) : Res α := match o with
  | some a => .ok a σ
  | none => .bad

noncomputable def asBool {α : Type} (v : PV) (f : Bool → Res α) : Res α := match asB v with
  | some b => f b
  | none => .bad
/-- with what an option holds -/
noncomputable def wit {α β : Type} (o : Option α) (f : α → Res β) : Res β := match o with
  | some a => f a
  | none => .bad

/-- methods of a list or a dict of the store -/
noncomputable def mok (m : Mt) (σ : St) (k : Nat) : Bool := match m with
  | .get => (datAt σ k).isSome
  | _ => (lstAt σ k).isSome
noncomputable def mth (m : Mt) (k : Nat) (v : PV) (σ : St) : Res PV := match m with
  | .append => wit (lstAt σ k) fun xs => wit (gd (small (xs.length + 1)) ()) fun _ => .ok .none (σ.set k (.lst (xs ++ [v])))
  | .extend => wit (lstAt σ k) fun xs => wit (asL v) fun ys => wit (gd (small (xs.length + ys.length)) ()) fun _ => .ok .none (σ.set k (.lst (xs ++ ys)))
  | .get => wit (datAt σ k) fun kvs => wit (keyt v) fun q => .ok ((kvs.lookup q).getD .none) σ
/-- the pairs for a dict -/
noncomputable def kvsOf : List PV → Option (List (List Int × PV))
  | [] => some []
  | x :: r => (asT x).bind fun l => (two l).bind fun p => (keyt p.1).bind fun q => (kvsOf r).map ((q, p.2) :: ·)
/-- the first place of the store is a table of code -/
noncomputable def tblOk (σ : St) : Bool := match σ with
  | [] => false
  | c :: _ => match c with
    | .tbl => true
    | _ => false
/-- the key of a row -/
noncomputable def rowKey (x : PV) : Option (List Int) := (asT x).bind fun l => l.head?.bind keyt

/-- the first row's key is empty -/
noncomputable def rootOk (l : List PV) : Bool := match l with
  | [] => false
  | x :: _ => (rowKey x).elim false fun q => q.isEmpty
/-- the source of a comprehension -/
noncomputable def pairs (n : Nat) : List PV → List PV
  | [] => []
  | x :: r => .tup [.int n, x] :: pairs (n + 1) r
noncomputable def srcv (en : Option (Str × Pos × Pos)) (l : PV) : Option (List PV) := match en with
  | none => elems l
  | some _ => (asT l).bind fun xs => gd (small xs.length) (pairs 0 xs)
/-- a comprehension's turns -/
noncomputable def compGo (tst : Vars → St → Res PV) (elt : Vars → St → Res PV) (tg : Tgt) : List PV → Vars → List PV → St → Res (List PV)
  | [], _, acc, σ => .ok acc σ
  | x :: r, ρ, acc, σ => wit (tg.bindv x ρ) fun ρ' => (tst ρ' σ).bind fun t σ₁ => asBool t fun b => match b with
      | true => (elt ρ' σ₁).bind fun y σ₂ => compGo tst elt tg r ρ' (acc ++ [y]) σ₂
      | false => compGo tst elt tg r ρ' acc σ₁

inductive Fl where
  | nx (ρ : Vars) | rt (v : PV)

noncomputable def frGo (body : Vars → St → Res Fl) (tg : Tgt) : List PV → Vars → St → Res Fl
  | [], ρ, σ => .ok (.nx ρ) σ
  | x :: r, ρ, σ => wit (tg.bindv x ρ) fun ρ' => (body ρ' σ).bind fun f σ' => match f with
      | .nx ρ'' => frGo body tg r ρ'' σ'
      | .rt v => .ok (.rt v) σ'
noncomputable def whGo (tst : Vars → St → Res PV) (body : Vars → St → Res Fl) : Nat → Vars → St → Res Fl
  | 0, _, _ => .bad
  | n + 1, ρ, σ => (tst ρ σ).bind fun v σ₁ => asBool v fun b => match b with
    | true => (body ρ σ₁).bind fun f σ₂ => match f with
      | .nx ρ' => whGo tst body n ρ' σ₂
      | .rt v => .ok (.rt v) σ₂
    | false => .ok (.nx ρ) σ₁
noncomputable def capsOf (caps : List Nat) (n : Nat) (ρ : Vars) : Vars := (caps.map fun i => vget ρ i) ++ List.replicate n none

/-- how the tests end -/
noncomputable def endB : BoolOp → Bool
  | .And => true
  | .Or => false
mutual
noncomputable def evE (Φ : Phi) : PE → Vars → St → Res PV
  | .cst c _ _, _, σ => match c with
    | .none => .ok .none σ
    | .bool b => .ok (.bool b) σ
    | .int i => .ok (.int i) σ
    | .str s => .ok (.str s) σ
    | _ => .bad
  | .var i _ _, ρ, σ => opt (vget ρ i) σ
  | .gst v _ _, _, σ => .ok (.str v) σ
  | .bin a op b _, ρ, σ => (evE Φ a ρ σ).bind fun x σ₁ => (evE Φ b ρ σ₁).bind fun y σ₂ => opt (bin op x y) σ₂
  | .boo op vs _, ρ, σ => evB Φ op vs ρ σ
  | .nt e _, ρ, σ => (evE Φ e ρ σ).bind fun v σ₁ => asBool v fun b => .ok (.bool (!b)) σ₁
  | .neg e _, ρ, σ => (evE Φ e ρ σ).bind fun v σ₁ => wit (asI v) fun i => .ok (.int (-i)) σ₁
  | .ife t b o _, ρ, σ => (evE Φ t ρ σ).bind fun v σ₁ => asBool v fun c => match c with
    | true => evE Φ b ρ σ₁
    | false => evE Φ o ρ σ₁
  | .tup es _ _, ρ, σ => (evEs Φ es ρ σ).bind fun vs σ₁ => .ok (.tup vs) σ₁
  | .lst es _, ρ, σ => (evEs Φ es ρ σ).bind fun vs σ₁ => .ok (.lst vs) σ₁
  | .mls es _, ρ, σ => (evEs Φ es ρ σ).bind fun vs σ₁ => .ok (.cell σ₁.length) (σ₁ ++ [.lst vs])
  | .cmp l op r _, ρ, σ => (evE Φ l ρ σ).bind fun x σ₁ => (evE Φ r ρ σ₁).bind fun y σ₂ => wit (cmpv σ₂ op x y) fun b => .ok (.bool b) σ₂
  | .cmp2 l op m op2 r _, ρ, σ => (evE Φ l ρ σ).bind fun x σ₁ => (evE Φ m ρ σ₁).bind fun y σ₂ => wit (cmpv σ₂ op x y) fun b => match b with
    | true => (evE Φ r ρ σ₂).bind fun z σ₄ => wit (cmpv σ₄ op2 y z) fun b => .ok (.bool b) σ₄
    | false => .ok (.bool false) σ₂
  | .idx o i _, ρ, σ => (evE Φ o ρ σ).bind fun x σ₁ => (evE Φ i ρ σ₁).bind fun y σ₂ => opt (item σ₂ x y) σ₂
  | .slF o lo _ _, ρ, σ => (evE Φ o ρ σ).bind fun x σ₁ => (evE Φ lo ρ σ₁).bind fun y σ₂ => opt (fromAt x y) σ₂
  | .slT o hi _ _, ρ, σ => (evE Φ o ρ σ).bind fun x σ₁ => (evE Φ hi ρ σ₁).bind fun y σ₂ => opt (upTo x y) σ₂
  | .call f _ _ as _, ρ, σ => (evEs Φ as ρ σ).bind fun vs σ₁ => Φ f vs σ₁
  | .blt b _ _ a _, ρ, σ => (evE Φ a ρ σ).bind fun v σ₁ => opt (blt σ₁ b v) σ₁
  | .mth m i _ _ _ a _, ρ, σ => wit (vget ρ i) fun x => wit (asC x) fun k => wit (gd (mok m σ k) ()) fun _ => (evE Φ a ρ σ).bind fun v σ₁ => mth m k v σ₁
  | .pop i _ _ _ _, ρ, σ => wit (vget ρ i) fun x => wit (asC x) fun k => wit (lstAt σ k) fun xs => wit xs.getLast? fun y => wit (gd (small xs.length) ()) fun _ => .ok y (σ.set k (.lst xs.dropLast))
  | .fst parts _, ρ, σ => evJ Φ parts Str.empty ρ σ
  | .fvl e _, ρ, σ => (evE Φ e ρ σ).bind fun v σ₁ => wit (asI v) fun i => wit (gd (decide (0 ≤ i ∧ i < 10 ^ 9)) ()) fun _ => .ok (.str (txtOf i)) σ₁
  | .dct k1 _ _ v1 k2 _ _ v2 _, ρ, σ => (evE Φ v1 ρ σ).bind fun x σ₁ => (evE Φ v2 ρ σ₁).bind fun y σ₂ => .ok (.cell σ₂.length) (σ₂ ++ [.dct [(k1, x), (k2, y)]])
  | .dic _ _ e _, ρ, σ => (evE Φ e ρ σ).bind fun v σ₁ => wit (asL v) fun l => wit (gd (small l.length) ()) fun _ => wit (kvsOf l) fun kvs => wit (gd (decide (kvs.map (·.1)).Nodup) ()) fun _ => .ok (.cell σ₁.length) (σ₁ ++ [.dat kvs])
  | .srt x _ e _ _ _ k _ _ _ _ _ _, ρ, σ => (evE Φ e ρ σ).bind fun v σ₁ => wit (asC v) fun k => wit (lstAt σ₁ k) fun l => wit (gd (tblOk σ₁ && (rootOk l && (small l.length && l.all fun x => (rowKey x).isSome))) ()) fun _ => .any (fun ys => ys.Perm l) fun ys => .ok (.lst ys) σ₁
  | .comp elt tg en it ifs caps _ _, ρ, σ => ((evE Φ it ρ σ).bind fun l σ₁ => opt (srcv en l) σ₁).bind fun xs σ₁ => (Res.det (compGo (fun ρ σ => evB Φ .And ifs ρ σ) (fun ρ σ => evE Φ elt ρ σ) tg xs (capsOf caps 2 ρ) [] σ₁)).bind fun ys σ₂ => .ok (.lst ys) σ₂
/-- a text with fields -/
noncomputable def evJ (Φ : Phi) : List PE → Str → Vars → St → Res PV
  | [], acc, _, σ => .ok (.str acc) σ
  | e :: r, acc, ρ, σ => (evE Φ e ρ σ).bind fun v σ₁ => wit (asS v) fun y => wit (gd (decide (acc.length + y.length ≤ 100000)) ()) fun _ => evJ Φ r (acc ++ y) ρ σ₁
noncomputable def evEs (Φ : Phi) : List PE → Vars → St → Res (List PV)
  | [], _, σ => .ok [] σ
  | e :: r, ρ, σ => (evE Φ e ρ σ).bind fun v σ₁ => (evEs Φ r ρ σ₁).bind fun vs σ₂ => .ok (v :: vs) σ₂
noncomputable def evB (Φ : Phi) : BoolOp → List PE → Vars → St → Res PV
  | op, [], _, σ => .ok (.bool (endB op)) σ
  | op, e :: r, ρ, σ => (evE Φ e ρ σ).bind fun v σ₁ => asBool v fun b => bif b == endB op then evB Φ op r ρ σ₁ else .ok (.bool b) σ₁
end
noncomputable def setAll : List (Nat × Str × Pos) → List PV → Vars → Option Vars
  | [], vs, ρ => match vs with
    | [] => some ρ
    | _ :: _ => none
  | t :: ts, vs, ρ => match vs with
    | v :: vs => setAll ts vs (ρ.set t.1 (some v))
    | [] => none
noncomputable def setSw (sw : Bool) (ts : List (Nat × Str × Pos)) (vs : List PV) (ρ : Vars) : Option Vars := match sw with
  | true => (gd (decide (ts.length = vs.length)) ()).bind fun _ => setAll ts.reverse vs.reverse ρ
  | false => setAll ts vs ρ
noncomputable def putv (σ : St) (x y v : PV) : Option St := (asC x).bind fun k => (dctAt σ k).bind fun kvs => (asS y).bind fun t => gd ((kvs.lookup t).isSome && decide (kvs.length ≤ 1000)) (σ.set k (.dct (kvs.map fun q => if q.1 = t then (t, v) else q)))
mutual
noncomputable def evS (Φ : Phi) (fuel : Nat) : PS → Vars → St → Res Fl
  | .asg i _ _ e _, ρ, σ => (evE Φ e ρ σ).bind fun v σ₁ => .ok (.nx (ρ.set i (some v))) σ₁
  | .asc i _ _ elt tg en it ifs caps sc cp _, ρ, σ => (evE Φ (.comp elt tg en it ifs caps sc cp) ρ σ).bind fun v σ₁ => .ok (.nx (ρ.set i (some v))) σ₁
  | .ast sw ts _ _ e _, ρ, σ => (evE Φ e ρ σ).bind fun v σ₁ => wit (asT v) fun vs => wit (setSw sw ts vs ρ) fun ρ' => .ok (.nx ρ') σ₁
  | .put o key _ e _, ρ, σ => (evE Φ e ρ σ).bind fun v σ₁ => (evE Φ o ρ σ₁).bind fun x σ₂ => (evE Φ key ρ σ₂).bind fun y σ₃ => wit (putv σ₃ x y v) fun σ₄ => .ok (.nx ρ) σ₄
  | .iff t b o _, ρ, σ => (evE Φ t ρ σ).bind fun v σ₁ => asBool v fun c => match c with
    | true => evSs Φ fuel b ρ σ₁
    | false => evSs Φ fuel o ρ σ₁
  | .ret e _, ρ, σ => (evE Φ e ρ σ).bind fun v σ₁ => .ok (.rt v) σ₁
  | .fr tg it b _, ρ, σ => (evE Φ it ρ σ).bind fun l σ₁ => wit (elems l) fun xs => frGo (fun ρ σ => evSs Φ fuel b ρ σ) tg xs ρ σ₁
  | .whl t b _, ρ, σ => whGo (fun ρ σ => evE Φ t ρ σ) (fun ρ σ => evSs Φ fuel b ρ σ) fuel ρ σ
  | .rse _ _ arg _ _, ρ, σ => (evE Φ arg ρ σ).bind fun v σ₁ => wit (asS v) fun _ => .exc σ₁
  | .tre e _ _ _ hv _ _ _, ρ, σ => Res.caught (evE Φ e ρ σ) (fun σ₁ => .ok (.nx ρ) σ₁) fun σ₁ => (evE Φ hv ρ σ₁).bind fun v σ₂ => .ok (.rt v) σ₂
  | .exp e _, ρ, σ => (evE Φ e ρ σ).bind fun _ σ₁ => .ok (.nx ρ) σ₁
noncomputable def evSs (Φ : Phi) (fuel : Nat) : List PS → Vars → St → Res Fl
  | [], ρ, σ => .ok (.nx ρ) σ
  | s :: r, ρ, σ => (evS Φ fuel s ρ σ).bind fun f σ₁ => match f with
    | .nx ρ' => evSs Φ fuel r ρ' σ₁
    | .rt v => .ok (.rt v) σ₁
end

/-- a def's body upon its arguments: n names in all -/
noncomputable def evF (Φ : Phi) (fuel n : Nat) (body : List PS) (args : List PV) (σ : St) : Res PV :=
  (evSs Φ fuel body (args.map some ++ List.replicate (n - args.length) none) σ).bind fun f σ₁ => match f with
    | .rt v => .ok v σ₁
    | .nx _ => .ok .none σ₁
-- the equations
theorem evE_cst {Φ c k p ρ σ} : evE Φ (.cst c k p) ρ σ = match c with
    | .none => .ok .none σ
    | .bool b => .ok (.bool b) σ
    | .int i => .ok (.int i) σ
    | .str s => .ok (.str s) σ
    | _ => .bad := rfl
theorem evE_var {Φ i x p ρ σ} : evE Φ (.var i x p) ρ σ = opt (vget ρ i) σ := rfl
theorem evE_gst {Φ v x p ρ σ} : evE Φ (.gst v x p) ρ σ = .ok (.str v) σ := rfl
theorem evE_bin {Φ a op b p ρ σ} : evE Φ (.bin a op b p) ρ σ = (evE Φ a ρ σ).bind fun x σ₁ => (evE Φ b ρ σ₁).bind fun y σ₂ => opt (bin op x y) σ₂ := rfl
theorem evE_boo {Φ op vs p ρ σ} : evE Φ (.boo op vs p) ρ σ = evB Φ op vs ρ σ := rfl
theorem evE_nt {Φ e p ρ σ} : evE Φ (.nt e p) ρ σ = (evE Φ e ρ σ).bind fun v σ₁ => asBool v fun b => .ok (.bool (!b)) σ₁ := rfl
theorem evE_neg {Φ e p ρ σ} : evE Φ (.neg e p) ρ σ = (evE Φ e ρ σ).bind fun v σ₁ => wit (asI v) fun i => .ok (.int (-i)) σ₁ := rfl
theorem evE_ife {Φ t b o p ρ σ} : evE Φ (.ife t b o p) ρ σ = (evE Φ t ρ σ).bind fun v σ₁ => asBool v fun c => match c with
    | true => evE Φ b ρ σ₁
    | false => evE Φ o ρ σ₁ := rfl
theorem evE_tup {Φ es k p ρ σ} : evE Φ (.tup es k p) ρ σ = (evEs Φ es ρ σ).bind fun vs σ₁ => .ok (.tup vs) σ₁ := rfl
theorem evE_lst {Φ es p ρ σ} : evE Φ (.lst es p) ρ σ = (evEs Φ es ρ σ).bind fun vs σ₁ => .ok (.lst vs) σ₁ := rfl
theorem evE_mls {Φ es p ρ σ} : evE Φ (.mls es p) ρ σ = (evEs Φ es ρ σ).bind fun vs σ₁ => .ok (.cell σ₁.length) (σ₁ ++ [.lst vs]) := rfl
theorem evE_cmp {Φ l op r p ρ σ} : evE Φ (.cmp l op r p) ρ σ = (evE Φ l ρ σ).bind fun x σ₁ => (evE Φ r ρ σ₁).bind fun y σ₂ => wit (cmpv σ₂ op x y) fun b => .ok (.bool b) σ₂ := rfl
theorem evE_cmp2 {Φ l op m op2 r p ρ σ} : evE Φ (.cmp2 l op m op2 r p) ρ σ = (evE Φ l ρ σ).bind fun x σ₁ => (evE Φ m ρ σ₁).bind fun y σ₂ => wit (cmpv σ₂ op x y) fun b => match b with
    | true => (evE Φ r ρ σ₂).bind fun z σ₄ => wit (cmpv σ₄ op2 y z) fun b => .ok (.bool b) σ₄
    | false => .ok (.bool false) σ₂ := rfl
theorem evE_idx {Φ o i p ρ σ} : evE Φ (.idx o i p) ρ σ = (evE Φ o ρ σ).bind fun x σ₁ => (evE Φ i ρ σ₁).bind fun y σ₂ => opt (item σ₂ x y) σ₂ := rfl
theorem evE_slF {Φ o lo sp p ρ σ} : evE Φ (.slF o lo sp p) ρ σ = (evE Φ o ρ σ).bind fun x σ₁ => (evE Φ lo ρ σ₁).bind fun y σ₂ => opt (fromAt x y) σ₂ := rfl
theorem evE_slT {Φ o hi sp p ρ σ} : evE Φ (.slT o hi sp p) ρ σ = (evE Φ o ρ σ).bind fun x σ₁ => (evE Φ hi ρ σ₁).bind fun y σ₂ => opt (upTo x y) σ₂ := rfl
theorem evE_call {Φ f x xp as p ρ σ} : evE Φ (.call f x xp as p) ρ σ = (evEs Φ as ρ σ).bind fun vs σ₁ => Φ f vs σ₁ := rfl
theorem evE_blt {Φ b x xp a p ρ σ} : evE Φ (.blt b x xp a p) ρ σ = (evE Φ a ρ σ).bind fun v σ₁ => opt (blt σ₁ b v) σ₁ := rfl
theorem evE_mth {Φ m i x xp ap a p ρ σ} : evE Φ (.mth m i x xp ap a p) ρ σ = wit (vget ρ i) fun x => wit (asC x) fun k => wit (gd (mok m σ k) ()) fun _ => (evE Φ a ρ σ).bind fun v σ₁ => mth m k v σ₁ := rfl
theorem evE_pop {Φ i x xp ap p ρ σ} : evE Φ (.pop i x xp ap p) ρ σ = wit (vget ρ i) fun x => wit (asC x) fun k => wit (lstAt σ k) fun xs => wit xs.getLast? fun y => wit (gd (small xs.length) ()) fun _ => .ok y (σ.set k (.lst xs.dropLast)) := rfl
theorem evE_fst {Φ parts p ρ σ} : evE Φ (.fst parts p) ρ σ = evJ Φ parts Str.empty ρ σ := rfl
theorem evE_fvl {Φ e p ρ σ} : evE Φ (.fvl e p) ρ σ = (evE Φ e ρ σ).bind fun v σ₁ => wit (asI v) fun i => wit (gd (decide (0 ≤ i ∧ i < 10 ^ 9)) ()) fun _ => .ok (.str (txtOf i)) σ₁ := rfl
theorem evE_dct {Φ k1 k kp v1 k2 k' kp' v2 p ρ σ} : evE Φ (.dct k1 k kp v1 k2 k' kp' v2 p) ρ σ = (evE Φ v1 ρ σ).bind fun x σ₁ => (evE Φ v2 ρ σ₁).bind fun y σ₂ => .ok (.cell σ₂.length) (σ₂ ++ [.dct [(k1, x), (k2, y)]]) := rfl
theorem evE_dic {Φ x xp e p ρ σ} : evE Φ (.dic x xp e p) ρ σ = (evE Φ e ρ σ).bind fun v σ₁ => wit (asL v) fun l => wit (gd (small l.length) ()) fun _ => wit (kvsOf l) fun kvs => wit (gd (decide (kvs.map (·.1)).Nodup) ()) fun _ => .ok (.cell σ₁.length) (σ₁ ++ [.dat kvs]) := rfl
theorem evE_srt {Φ x xp e r ap rp k zp sp lp kp sc p ρ σ} : evE Φ (.srt x xp e r ap rp k zp sp lp kp sc p) ρ σ = (evE Φ e ρ σ).bind fun v σ₁ => wit (asC v) fun k => wit (lstAt σ₁ k) fun l => wit (gd (tblOk σ₁ && (rootOk l && (small l.length && l.all fun x => (rowKey x).isSome))) ()) fun _ => .any (fun ys => ys.Perm l) fun ys => .ok (.lst ys) σ₁ := rfl
theorem evE_comp {Φ elt tg en it ifs caps sc p ρ σ} : evE Φ (.comp elt tg en it ifs caps sc p) ρ σ = ((evE Φ it ρ σ).bind fun l σ₁ => opt (srcv en l) σ₁).bind fun xs σ₁ => (Res.det (compGo (fun ρ σ => evB Φ .And ifs ρ σ) (fun ρ σ => evE Φ elt ρ σ) tg xs (capsOf caps 2 ρ) [] σ₁)).bind fun ys σ₂ => .ok (.lst ys) σ₂ := rfl
theorem evJ_nil {Φ acc ρ σ} : evJ Φ [] acc ρ σ = .ok (.str acc) σ := rfl
theorem evJ_cons {Φ e r acc ρ σ} : evJ Φ (e :: r) acc ρ σ = (evE Φ e ρ σ).bind fun v σ₁ => wit (asS v) fun y => wit (gd (decide (acc.length + y.length ≤ 100000)) ()) fun _ => evJ Φ r (acc ++ y) ρ σ₁ := rfl
theorem evEs_nil {Φ ρ σ} : evEs Φ [] ρ σ = .ok [] σ := rfl
theorem evEs_cons {Φ e r ρ σ} : evEs Φ (e :: r) ρ σ = (evE Φ e ρ σ).bind fun v σ₁ => (evEs Φ r ρ σ₁).bind fun vs σ₂ => .ok (v :: vs) σ₂ := rfl
theorem evB_nil {Φ op ρ σ} : evB Φ op [] ρ σ = .ok (.bool (endB op)) σ := rfl
theorem evB_cons {Φ op e r ρ σ} : evB Φ op (e :: r) ρ σ = (evE Φ e ρ σ).bind fun v σ₁ => asBool v fun b => bif b == endB op then evB Φ op r ρ σ₁ else .ok (.bool b) σ₁ := rfl
theorem evS_asg {Φ fuel i x xp e p ρ σ} : evS Φ fuel (.asg i x xp e p) ρ σ = (evE Φ e ρ σ).bind fun v σ₁ => .ok (.nx (ρ.set i (some v))) σ₁ := rfl
theorem evS_asc {Φ fuel i x xp elt tg en it ifs caps sc cp p ρ σ} : evS Φ fuel (.asc i x xp elt tg en it ifs caps sc cp p) ρ σ = (evE Φ (.comp elt tg en it ifs caps sc cp) ρ σ).bind fun v σ₁ => .ok (.nx (ρ.set i (some v))) σ₁ := rfl
theorem evS_ast {Φ fuel sw ts k tp e p ρ σ} : evS Φ fuel (.ast sw ts k tp e p) ρ σ = (evE Φ e ρ σ).bind fun v σ₁ => wit (asT v) fun vs => wit (setSw sw ts vs ρ) fun ρ' => .ok (.nx ρ') σ₁ := rfl
theorem evS_put {Φ fuel o key sp e p ρ σ} : evS Φ fuel (.put o key sp e p) ρ σ = (evE Φ e ρ σ).bind fun v σ₁ => (evE Φ o ρ σ₁).bind fun x σ₂ => (evE Φ key ρ σ₂).bind fun y σ₃ => wit (putv σ₃ x y v) fun σ₄ => .ok (.nx ρ) σ₄ := rfl
theorem evS_iff {Φ fuel t b o p ρ σ} : evS Φ fuel (.iff t b o p) ρ σ = (evE Φ t ρ σ).bind fun v σ₁ => asBool v fun c => match c with
    | true => evSs Φ fuel b ρ σ₁
    | false => evSs Φ fuel o ρ σ₁ := rfl
theorem evS_ret {Φ fuel e p ρ σ} : evS Φ fuel (.ret e p) ρ σ = (evE Φ e ρ σ).bind fun v σ₁ => .ok (.rt v) σ₁ := rfl
theorem evS_fr {Φ fuel tg it b p ρ σ} : evS Φ fuel (.fr tg it b p) ρ σ = (evE Φ it ρ σ).bind fun l σ₁ => wit (elems l) fun xs => frGo (fun ρ σ => evSs Φ fuel b ρ σ) tg xs ρ σ₁ := rfl
theorem evS_whl {Φ fuel t b p ρ σ} : evS Φ fuel (.whl t b p) ρ σ = whGo (fun ρ σ => evE Φ t ρ σ) (fun ρ σ => evSs Φ fuel b ρ σ) fuel ρ σ := rfl
theorem evS_rse {Φ fuel x xp arg cp p ρ σ} : evS Φ fuel (.rse x xp arg cp p) ρ σ = (evE Φ arg ρ σ).bind fun v σ₁ => wit (asS v) fun _ => .exc σ₁ := rfl
theorem evS_tre {Φ fuel e ep x xp hv hrp hp p ρ σ} : evS Φ fuel (.tre e ep x xp hv hrp hp p) ρ σ = Res.caught (evE Φ e ρ σ) (fun σ₁ => .ok (.nx ρ) σ₁) fun σ₁ => (evE Φ hv ρ σ₁).bind fun v σ₂ => .ok (.rt v) σ₂ := rfl
theorem evS_exp {Φ fuel e p ρ σ} : evS Φ fuel (.exp e p) ρ σ = (evE Φ e ρ σ).bind fun _ σ₁ => .ok (.nx ρ) σ₁ := rfl
theorem evSs_nil {Φ fuel ρ σ} : evSs Φ fuel [] ρ σ = .ok (.nx ρ) σ := rfl
theorem evSs_cons {Φ fuel s r ρ σ} : evSs Φ fuel (s :: r) ρ σ = (evS Φ fuel s ρ σ).bind fun f σ₁ => match f with
    | .nx ρ' => evSs Φ fuel r ρ' σ₁
    | .rt v => .ok (.rt v) σ₁ := rfl
theorem toE_cst {c k p} : PE.toE (.cst c k p) = .Constant c k p := rfl
theorem toE_var {u1 x p} : PE.toE (.var u1 x p) = .Name x p := rfl
theorem toE_gst {u1 x p} : PE.toE (.gst u1 x p) = .Name x p := rfl
theorem toE_bin {a op b p} : PE.toE (.bin a op b p) = .BinOp a.toE op b.toE p := rfl
theorem toE_boo {op vs p} : PE.toE (.boo op vs p) = .BoolOp op (toEs vs) p := rfl
theorem toE_nt {e p} : PE.toE (.nt e p) = .UnaryOp .Not e.toE p := rfl
theorem toE_neg {e p} : PE.toE (.neg e p) = .UnaryOp .USub e.toE p := rfl
theorem toE_ife {t b o p} : PE.toE (.ife t b o p) = .IfExp t.toE b.toE o.toE p := rfl
theorem toE_tup {es k p} : PE.toE (.tup es k p) = .Tuple (toEs es) k p := rfl
theorem toE_lst {es p} : PE.toE (.lst es p) = .List (toEs es) p := rfl
theorem toE_mls {es p} : PE.toE (.mls es p) = .List (toEs es) p := rfl
theorem toE_cmp {l op r p} : PE.toE (.cmp l op r p) = .Compare l.toE [op] [r.toE] p := rfl
theorem toE_cmp2 {l op m op2 r p} : PE.toE (.cmp2 l op m op2 r p) = .Compare l.toE [op, op2] [m.toE, r.toE] p := rfl
theorem toE_idx {o i p} : PE.toE (.idx o i p) = .Subscript o.toE i.toE p := rfl
theorem toE_slF {o lo sp p} : PE.toE (.slF o lo sp p) = .Subscript o.toE (.Slice (some lo.toE) none none sp) p := rfl
theorem toE_slT {o hi sp p} : PE.toE (.slT o hi sp p) = .Subscript o.toE (.Slice none (some hi.toE) none sp) p := rfl
theorem toE_call {u1 x xp as p} : PE.toE (.call u1 x xp as p) = .Call (.Name x xp) (toEs as) [] p := rfl
theorem toE_blt {u1 x xp a p} : PE.toE (.blt u1 x xp a p) = .Call (.Name x xp) [a.toE] [] p := rfl
theorem toE_mth {m u1 x xp ap a p} : PE.toE (.mth m u1 x xp ap a p) = .Call (.Attribute (.Name x xp) m.nm ap) [a.toE] [] p := rfl
theorem toE_pop {u1 x xp ap p} : PE.toE (.pop u1 x xp ap p) = .Call (.Attribute (.Name x xp) "pop" ap) [] [] p := rfl
theorem toE_fst {parts p} : PE.toE (.fst parts p) = .JoinedStr (toEs parts) p := rfl
theorem toE_fvl {e p} : PE.toE (.fvl e p) = .FormattedValue e.toE (-1) none p := rfl
theorem toE_dct {k1 k kp v1 k2 k' kp' v2 p} : PE.toE (.dct k1 k kp v1 k2 k' kp' v2 p) = .Dict [some (.Constant (.str k1) k kp), some (.Constant (.str k2) k' kp')] [v1.toE, v2.toE] p := rfl
theorem toE_comp {elt tg en it ifs u1 sc p} : PE.toE (.comp elt tg en it ifs u1 sc p) = .ListComp elt.toE [⟨tg.toE, srcE en it.toE, toEs ifs, 0⟩] sc p := rfl
theorem toE_dic {x xp e p} : PE.toE (.dic x xp e p) = .Call (.Name x xp) [e.toE] [] p := rfl
theorem toE_srt {x xp e r ap rp k zp sp lp kp sc p} : PE.toE (.srt x xp e r ap rp k zp sp lp kp sc p) = .Call (.Name x xp) [e.toE] [⟨some "key", .Lambda ⟨[], [⟨r, none, ap⟩], none, [], [], none, []⟩ (.Subscript (.Name r rp) (.Constant (.int 0) k zp) sp) sc lp, kp⟩] p := rfl
theorem toEs_nil  : toEs [] = [] := rfl
theorem toEs_cons {e r} : toEs (e :: r) = e.toE :: toEs r := rfl
theorem toS_asg {u1 x xp e p} : PS.toS (.asg u1 x xp e p) = .Assign [.Name x xp] e.toE p := rfl
theorem toS_asc {u1 x xp elt tg en it ifs caps sc cp p} : PS.toS (.asc u1 x xp elt tg en it ifs caps sc cp p) = .Assign [.Name x xp] (PE.comp elt tg en it ifs caps sc cp).toE p := rfl
theorem toS_ast {u1 ts k tp e p} : PS.toS (.ast u1 ts k tp e p) = .Assign [.Tuple (ts.map fun t => .Name t.2.1 t.2.2) k tp] e.toE p := rfl
theorem toS_put {o key sp e p} : PS.toS (.put o key sp e p) = .Assign [.Subscript o.toE key.toE sp] e.toE p := rfl
theorem toS_iff {t b o p} : PS.toS (.iff t b o p) = .If t.toE (toSs b) (toSs o) p := rfl
theorem toS_ret {e p} : PS.toS (.ret e p) = .Return (some e.toE) p := rfl
theorem toS_fr {tg it b p} : PS.toS (.fr tg it b p) = .For tg.toE it.toE (toSs b) [] p := rfl
theorem toS_whl {t b p} : PS.toS (.whl t b p) = .While t.toE (toSs b) [] p := rfl
theorem toS_rse {x xp arg cp p} : PS.toS (.rse x xp arg cp p) = .Raise (some (.Call (.Name x xp) [arg.toE] [] cp)) none p := rfl
theorem toS_tre {e ep x xp hv hrp hp p} : PS.toS (.tre e ep x xp hv hrp hp p) = .Try [.Expr e.toE ep] [.ExceptHandler (some (.Name x xp)) none [.Return (some hv.toE) hrp] hp] [] [] p := rfl
theorem toS_exp {e p} : PS.toS (.exp e p) = .Expr e.toE p := rfl
theorem toSs_nil  : toSs [] = [] := rfl
theorem toSs_cons {s r} : toSs (s :: r) = s.toS :: toSs r := rfl
theorem compGo_nil {tst elt tg u1 acc σ} : compGo tst elt tg [] u1 acc σ = .ok acc σ := rfl
theorem compGo_cons {tst elt tg x r ρ acc σ} : compGo tst elt tg (x :: r) ρ acc σ = wit (tg.bindv x ρ) fun ρ' => (tst ρ' σ).bind fun t σ₁ => asBool t fun b => match b with
      | true => (elt ρ' σ₁).bind fun y σ₂ => compGo tst elt tg r ρ' (acc ++ [y]) σ₂
      | false => compGo tst elt tg r ρ' acc σ₁ := rfl
theorem frGo_nil {body tg ρ σ} : frGo body tg [] ρ σ = .ok (.nx ρ) σ := rfl
theorem frGo_cons {body tg x r ρ σ} : frGo body tg (x :: r) ρ σ = wit (tg.bindv x ρ) fun ρ' => (body ρ' σ).bind fun f σ' => match f with
      | .nx ρ'' => frGo body tg r ρ'' σ'
      | .rt v => .ok (.rt v) σ' := rfl
theorem whGo_succ {tst body n ρ σ} : whGo tst body (n + 1) ρ σ = (tst ρ σ).bind fun v σ₁ => asBool v fun b => match b with
    | true => (body ρ σ₁).bind fun f σ₂ => match f with
      | .nx ρ' => whGo tst body n ρ' σ₂
      | .rt v => .ok (.rt v) σ₂
    | false => .ok (.nx ρ) σ₁ := rfl
end Mine
end
-- part Q2
section
open PySem PySem.W PyProof.Rows
namespace Mine

/-- the store's places: the cells; what is out of bounds for frozen values -/
structure Mem where
  c : List Addr
  z : List Addr
instance : Membership Addr Mem := ⟨fun M a => a ∈ M.c ∨ a ∈ M.z⟩
instance : HAppend Mem (List Addr) Mem := ⟨fun M N => ⟨M.c ++ N, M.z⟩⟩
theorem sn {α : Type} {o : α} {x : Option α} {P : Prop} (a : x = some o) (b : x = none) : P := nomatch a.symm.trans b
theorem sne {α : Type} {x : Option α} {P : Prop} (a : ∃ o, x = some o) (b : x = none) : P := a.elim fun _ e => sn e b
theorem Mem.mem_append {M : Mem} {N : List Addr} {a : Addr} : a ∈ M ++ N ↔ a ∈ M ∨ a ∈ N := by
  show (a ∈ M.c ++ N ∨ a ∈ M.z) ↔ ((a ∈ M.c ∨ a ∈ M.z) ∨ a ∈ N)
  rw [List.mem_append]
  constructor
  · rintro ((q | q) | q)
    · exact .inl (.inl q)
    · exact .inr q
    · exact .inl (.inr q)
  · rintro ((q | q) | q)
    · exact .inl (.inl q)
    · exact .inr q
    · exact .inl (.inr q)
theorem Mem.of_get {M : Mem} {k : Nat} {a : Addr} (h : M.c[k]? = some a) : a ∈ M := .inl (List.mem_of_getElem? h)
theorem Mem.app_nil (M : Mem) : M ++ ([] : List Addr) = M := by
  show (⟨M.c ++ [], M.z⟩ : Mem) = M
  rw [List.append_nil]
theorem Mem.app_assoc (M : Mem) (N N' : List Addr) : M ++ N ++ N' = M ++ (N ++ N') := by
  show (⟨M.c ++ N ++ N', M.z⟩ : Mem) = ⟨M.c ++ (N ++ N'), M.z⟩
  rw [List.append_assoc]
theorem Mem.app_c (M : Mem) (N : List Addr) : (M ++ N).c = M.c ++ N := rfl
theorem Mem.app_z (M : Mem) (N : List Addr) : (M ++ N).z = M.z := rfl

inductive TupR (h : Heap) (M : Mem) (P : List Value → Prop) (v : Value) : Prop
  | mk (vs : List Value) (a : Addr) (n : Nat) (e : v = .ref a) (ha : IsT h a vs.toArray n) (ma : a ∉ M) (r : P vs)
inductive LstR (h : Heap) (M : Mem) (P : List Value → Prop) (v : Value) : Prop
  | mk (vs : List Value) (a : Addr) (n : Nat) (e : v = .ref a) (ha : IsL h a vs.toArray n) (ma : a ∉ M) (r : P vs)
inductive RngR (h : Heap) (M : Mem) (n : Nat) (v : Value) : Prop
  | mk (a : Addr) (t1 t2 t3 : Tok) (e : v = .ref a) (ha : IsRange h a 0 n 1 t1 t2 t3) (ma : a ∉ M)
inductive ConsR (P : Value → Prop) (Q : List Value → Prop) : List Value → Prop
  | mk (v : Value) (t : List Value) (hv : P v) (ht : Q t) : ConsR P Q (v :: t)
mutual
/-- a value of the machine stands for a pure one -/
noncomputable def RV (h : Heap) (M : Mem) : PV → Value → Prop
  | .none, v => v = .none
  | .bool b, v => v = .bool b
  | .int i, v => ∃ t, v = .int i t
  | .str s, v => ∃ t, v = .str s t
  | .tup xs, v => TupR h M (RVs h M xs) v
  | .lst xs, v => LstR h M (RVs h M xs) v
  | .cell k, v => ∃ a, v = .ref a ∧ M.c[k]? = some a
  | .rng n, v => RngR h M n v
noncomputable def RVs (h : Heap) (M : Mem) : List PV → List Value → Prop
  | [], vs => vs = []
  | x :: r, vs => ConsR (RV h M x) (RVs h M r) vs
end
section
variable {h : Heap} {M : Mem}
theorem RV.none : RV h M .none .none := rfl
theorem RV.bool (b : Bool) : RV h M (.bool b) (.bool b) := rfl
theorem RV.int (i : Int) (t : Tok) : RV h M (.int i) (.int i t) := ⟨t, rfl⟩
theorem RV.str (s : Str) (t : Tok) : RV h M (.str s) (.str s t) := ⟨t, rfl⟩
theorem RV.tup (xs : List PV) (vs : List Value) (a : Addr) (n : Nat) (ha : IsT h a vs.toArray n) (ma : a ∉ M) (r : RVs h M xs vs) : RV h M (.tup xs) (.ref a) := TupR.mk vs a n rfl ha ma r
theorem RV.lst (xs : List PV) (vs : List Value) (a : Addr) (n : Nat) (ha : IsL h a vs.toArray n) (ma : a ∉ M) (r : RVs h M xs vs) : RV h M (.lst xs) (.ref a) := LstR.mk vs a n rfl ha ma r
theorem RV.cell (k : Nat) (a : Addr) (e : M.c[k]? = some a) : RV h M (.cell k) (.ref a) := ⟨a, rfl, e⟩
theorem RV.rng (n : Nat) (a : Addr) (t1 t2 t3 : Tok) (ha : IsRange h a 0 n 1 t1 t2 t3) (ma : a ∉ M) : RV h M (.rng n) (.ref a) := RngR.mk a t1 t2 t3 rfl ha ma
theorem RVs.nil : RVs h M [] [] := rfl
theorem RVs.cons (x : PV) (v : Value) (xs : List PV) (vs : List Value) (hx : RV h M x v) (hr : RVs h M xs vs) : RVs h M (x :: xs) (v :: vs) := ConsR.mk v vs hx hr
end

/-- the kinds that a pure value's objects are of -/
noncomputable def SeqLike (o : Obj) : Prop := ((o.cls = .type "tuple" ∨ o.cls = .type "list") ∧ ∃ xs n, o.data = .seq xs n) ∨ ((o.cls = .type "range" ∨ o.cls = .type "code") ∧ ∃ vs, o.data = .fields vs)

/-- heaps that keep the pure values -/
structure Keeps2 (h : Heap) (M : Mem) (h' : Heap) (M' : Mem) : Prop where
  obj : ∀ a o, h.get? a = some o → a ∉ M → SeqLike o → h'.get? a = some o ∧ a ∉ M'
  mem : ∀ (k : Nat) (a : Addr), M.c[k]? = some a → M'.c[k]? = some a

mutual
theorem RV.keep {h : Heap} {M : Mem} {h' : Heap} {M' : Mem} (K : Keeps2 h M h' M') : ∀ {x : PV} {v : Value}, RV h M x v → RV h' M' x v
  | .none, _, r => r
  | .bool _, _, r => r
  | .int _, _, r => r
  | .str _, _, r => r
  | .tup xs, _, r => by
    obtain ⟨vs, a, n, e, ha, ma, r⟩ := r
    obtain ⟨h1, h2⟩ := K.obj a _ ha ma (.inl ⟨.inl rfl, _, _, rfl⟩)
    exact .mk vs a n e h1 h2 (RVs.keep K r)
  | .lst xs, _, r => by
    obtain ⟨vs, a, n, e, ha, ma, r⟩ := r
    obtain ⟨h1, h2⟩ := K.obj a _ ha ma (.inl ⟨.inr rfl, _, _, rfl⟩)
    exact .mk vs a n e h1 h2 (RVs.keep K r)
  | .cell k, _, r => by
    obtain ⟨a, e, hk⟩ := r
    exact ⟨a, e, K.mem k a hk⟩
  | .rng n, _, r => by
    obtain ⟨a, t1, t2, t3, e, ha, ma⟩ := r
    obtain ⟨h1, h2⟩ := K.obj a _ ha ma (.inr ⟨.inl rfl, _, rfl⟩)
    exact .mk a t1 t2 t3 e h1 h2
theorem RVs.keep {h : Heap} {M : Mem} {h' : Heap} {M' : Mem} (K : Keeps2 h M h' M') : ∀ {xs : List PV} {vs : List Value}, RVs h M xs vs → RVs h' M' xs vs
  | [], _, r => r
  | _ :: _, _, r => by
    obtain ⟨v, t, hv, ht⟩ := r
    exact .mk v t (RV.keep K hv) (RVs.keep K ht)
end

section
variable {h : Heap} {M : Mem}
theorem RVs.length : ∀ {xs : List PV} {vs : List Value}, RVs h M xs vs → xs.length = vs.length
  | [], _, r => by cases r; rfl
  | _ :: _, _, r => by obtain ⟨v, t, hv, ht⟩ := r; exact congrArg (· + 1) (RVs.length ht)
theorem RVs.get : ∀ {xs : List PV} {vs : List Value}, RVs h M xs vs → ∀ {i : Nat} {x : PV}, xs[i]? = some x → ∃ v, vs[i]? = some v ∧ RV h M x v
  | [], _, _, _, _, e => nomatch e
  | _ :: _, _, r, i, _, e => by
    obtain ⟨v, t, hv, ht⟩ := r
    cases i with
    | zero => cases e; exact ⟨v, rfl, hv⟩
    | succ i => exact RVs.get ht (i := i) e
theorem RVs.get' : ∀ {xs : List PV} {vs : List Value}, RVs h M xs vs → ∀ {i : Nat} {v : Value}, vs[i]? = some v → ∃ x, xs[i]? = some x ∧ RV h M x v
  | [], _, r, _, _, e => by cases r; cases e
  | x :: _, _, r, i, _, e => by
    obtain ⟨v, t, hv, ht⟩ := r
    cases i with
    | zero => cases e; exact ⟨x, rfl, hv⟩
    | succ i => exact RVs.get' ht (i := i) e
theorem RVs.append : ∀ {xs : List PV} {vs : List Value} {ys : List PV} {us : List Value}, RVs h M xs vs → RVs h M ys us → RVs h M (xs ++ ys) (vs ++ us)
  | [], _, _, _, r, q => by cases r; exact q
  | _ :: _, _, _, _, r, q => by obtain ⟨v, t, hv, ht⟩ := r; exact .mk v _ hv (RVs.append ht q)
theorem RVs.drop : ∀ (k : Nat) {xs : List PV} {vs : List Value}, RVs h M xs vs → RVs h M (xs.drop k) (vs.drop k)
  | 0, _, _, r => r
  | k + 1, [], _, r => by cases r; exact rfl
  | k + 1, _ :: _, _, r => by obtain ⟨v, t, hv, ht⟩ := r; exact RVs.drop k ht
theorem RVs.take : ∀ (k : Nat) {xs : List PV} {vs : List Value}, RVs h M xs vs → RVs h M (xs.take k) (vs.take k)
  | 0, _, _, _ => rfl
  | k + 1, [], _, r => by cases r; exact rfl
  | k + 1, _ :: _, _, r => by obtain ⟨v, t, hv, ht⟩ := r; exact .mk v _ hv (RVs.take k ht)
theorem RVs.snoc {xs : List PV} {vs : List Value} {x : PV} {v : Value} (r : RVs h M xs vs) (q : RV h M x v) : RVs h M (xs ++ [x]) (vs ++ [v]) := r.append (.cons _ _ _ _ q .nil)
end

theorem Keeps2.trans {h : Heap} {M : Mem} {h' : Heap} {M' : Mem} {h'' : Heap} {M'' : Mem} (x : Keeps2 h M h' M') (y : Keeps2 h' M' h'' M'') : Keeps2 h M h'' M'' :=
  ⟨fun a o e n s => let ⟨e', n'⟩ := x.obj a o e n s; y.obj a o e' n' s, fun k a e => y.mem k a (x.mem k a e)⟩
/-- the same object, or a frame whose slots have turned -/
noncomputable def DictData (o : Obj) : Prop := ∃ es ep, o.data = .dict es ep
noncomputable def Same (o o' : Obj) : Prop := o' = o ∨ (DictData o ∧ ∃ sl, o' = { o with slots := sl })
theorem Same.refl (o : Obj) : Same o o := .inl rfl
theorem Same.trans {o o' o'' : Obj} (x : Same o o') (y : Same o' o'') : Same o o'' := by
  rcases x with rfl | ⟨hc, sl, rfl⟩
  · exact y
  · rcases y with rfl | ⟨_, sl', rfl⟩
    · exact .inr ⟨hc, sl, rfl⟩
    · exact .inr ⟨hc, sl', rfl⟩
theorem Same.data {o o' : Obj} (x : Same o o') : o'.data = o.data := by rcases x with rfl | ⟨_, _, rfl⟩ <;> rfl
theorem Same.cls {o o' : Obj} (x : Same o o') : o'.cls = o.cls := by rcases x with rfl | ⟨_, _, rfl⟩ <;> rfl
theorem Same.dict {o o' : Obj} (x : Same o o') : o'.dict = o.dict := by rcases x with rfl | ⟨_, _, rfl⟩ <;> rfl
theorem Same.eq {o o' : Obj} (x : Same o o') (hc : ¬ DictData o) : o' = o := by rcases x with rfl | ⟨h, _⟩; rfl; exact absurd h hc
theorem SeqLike.noFrame {o : Obj} (x : SeqLike o) : ¬ DictData o := by rintro ⟨es, ep, q⟩; rcases x with ⟨_, xs, n, e⟩ | ⟨_, vs, e⟩ <;> rw [q] at e <;> cases e
theorem not_seqLike_dict {o : Obj} {es n} (h : o.data = .dict es n) : ¬ SeqLike o := by rintro (⟨_, xs, m, e⟩ | ⟨_, vs, e⟩) <;> rw [h] at e <;> cases e
theorem not_seqLike_cell {o : Obj} {v} (h : o.data = .cell v) : ¬ SeqLike o := by rintro (⟨_, xs, m, e⟩ | ⟨_, vs, e⟩) <;> rw [h] at e <;> cases e

/-- the store's objects are there -/
noncomputable def Live (h : Heap) (M : Mem) : Prop := ∀ a ∈ M, ∃ o, h.get? a = some o
theorem Live.fresh {h : Heap} {M : Mem} (x : Live h M) {a : Addr} (e : h.get? a = none) : a ∉ M := fun m => by obtain ⟨o, q⟩ := x a m; rw [e] at q; cases q
theorem get_size (h : Heap) : h.get? h.objs.size = none := Heap.get?_none_of_le (Nat.le_refl _)

/-- from one heap to a later one: all stands but what is in M (the store) and in X -/
structure Step (base : Heap) (X : List Addr) (h : Heap) (M : Mem) (h' : Heap) (M' : Mem) : Prop where
  keep : ∀ a o, h.get? a = some o → a ∉ M.c → a ∉ X → ∃ o', h'.get? a = some o' ∧ Same o o'
  there : ∀ a o, h.get? a = some o → ∃ o', h'.get? a = some o'
  grow : ∃ N : List Addr, M' = M ++ N ∧ ∀ a ∈ N, h.get? a = none
  stay : base.StaysIn h'
  zk : ∀ a o, a ∈ M.z → a ∉ X → h.get? a = some o → h'.get? a = some o

section
variable {base : Heap} {X Y : List Addr} {h h' h'' : Heap} {M M' M'' : Mem}
theorem Step.refl (b : base.StaysIn h) : Step base X h M h M := ⟨fun a o e _ _ => ⟨o, e, .refl o⟩, fun a o e => ⟨o, e⟩, ⟨[], (Mem.app_nil _).symm, fun _ m => nomatch m⟩, b, fun _ _ _ _ e => e⟩
theorem Step.notMem (x : Step base X h M h' M') {a : Addr} {o : Obj} (e : h.get? a = some o) (n : a ∉ M) : a ∉ M' := by
  obtain ⟨N, rfl, hN⟩ := x.grow
  rw [Mem.mem_append]
  rintro (q | q)
  · exact n q
  · exact sn e (hN a q)
theorem Step.notMemC (x : Step base X h M h' M') {a : Addr} {o : Obj} (e : h.get? a = some o) (n : a ∉ M.c) : a ∉ M'.c := by
  obtain ⟨N, rfl, hN⟩ := x.grow
  rw [Mem.app_c, List.mem_append]
  rintro (q | q)
  · exact n q
  · exact sn e (hN a q)
theorem Step.back (x : Step base X h M h' M') {a : Addr} (e : h'.get? a = none) : h.get? a = none := by
  cases q : h.get? a with
  | none => rfl
  | some o => obtain ⟨o', e'⟩ := x.there a o q; rw [e] at e'; cases e'
theorem Step.trans (x : Step base X h M h' M') (y : Step base X h' M' h'' M'') : Step base X h M h'' M'' := by
  refine ⟨fun a o e n nx => ?_, fun a o e => ?_, ?_, y.stay, fun a o m nx e => y.zk a o (by obtain ⟨N, rfl, _⟩ := x.grow; exact m) nx (x.zk a o m nx e)⟩
  · obtain ⟨o', e', s⟩ := x.keep a o e n nx
    obtain ⟨o'', e'', s'⟩ := y.keep a o' e' (x.notMemC e n) nx
    exact ⟨o'', e'', s.trans s'⟩
  · obtain ⟨o', e'⟩ := x.there a o e
    exact y.there a o' e'
  · obtain ⟨N, rfl, hN⟩ := x.grow
    obtain ⟨N', rfl, hN'⟩ := y.grow
    refine ⟨N ++ N', by rw [Mem.app_assoc], fun a ha => ?_⟩
    rcases List.mem_append.mp ha with q | q
    · exact hN a q
    · exact x.back (hN' a q)
theorem Step.weaken (x : Step base X h M h' M') (hs : ∀ a ∈ X, a ∈ Y) : Step base Y h M h' M' := ⟨fun a o e n nx => x.keep a o e n fun q => nx (hs a q), x.there, x.grow, x.stay, fun a o m nx e => x.zk a o m (fun q => nx (hs a q)) e⟩
/-- what is new since the first heap need not be told -/
theorem Step.forget (x : Step base X h M h' M') (hx : ∀ a ∈ X, h.get? a = none) : Step base [] h M h' M' :=
  ⟨fun a o e n _ => x.keep a o e n fun q => (by exact sn e (hx a q)), x.there, x.grow, x.stay, fun a o m _ e => x.zk a o m (fun q => (by exact sn e (hx a q))) e⟩
theorem Step.drop1 {a : Addr} (x : Step base (a :: X) h M h' M') (hx : h.get? a = none) : Step base X h M h' M' :=
  ⟨fun b o e n nx => x.keep b o e n fun q => (by
    rcases List.mem_cons.mp q with q | q
    · subst q; exact sn e hx
    · exact nx q), x.there, x.grow, x.stay, fun b o m nx e => x.zk b o m (fun q => (by
    rcases List.mem_cons.mp q with q | q
    · subst q; exact sn e hx
    · exact nx q)) e⟩
/-- something new since the first heap turns, or goes -/
theorem Step.gone {a : Addr} (x : Step base X h M h' M') (hx : h.get? a = none) (ba : base.get? a = none) (kk : ∀ b o, b ≠ a → h'.get? b = some o → h''.get? b = some o) : Step base X h M h'' M' := by
  have ne : ∀ b o, h.get? b = some o → b ≠ a := fun b o e q => by subst q; exact sn e hx
  refine ⟨fun b o e n nx => ?_, fun b o e => ?_, x.grow, fun b o e => kk b o (fun q => by subst q; exact sn e ba) (x.stay b o e), fun b o m nx e => kk b o (ne b o e) (x.zk b o m nx e)⟩
  · obtain ⟨o', e', s⟩ := x.keep b o e n nx
    exact ⟨o', kk b o' (ne b o e) e', s⟩
  · obtain ⟨o', e'⟩ := x.there b o e
    exact ⟨o', kk b o' (ne b o e) e'⟩
theorem Step.keeps2 (x : Step base X h M h' M') (hx : ∀ a ∈ X, a ∉ M → ∀ o, h.get? a = some o → ¬ SeqLike o) : Keeps2 h M h' M' := by
  refine ⟨fun a o e n q => ?_, fun k a e => ?_⟩
  · obtain ⟨o', e', s⟩ := x.keep a o e (fun q => n (.inl q)) fun m => hx a m n o e q
    rw [s.eq q.noFrame] at e'
    exact ⟨e', x.notMem e n⟩
  · obtain ⟨N, rfl, _⟩ := x.grow
    have := (List.getElem?_eq_some_iff.mp e).1
    rw [Mem.app_c, List.getElem?_append_left this]; exact e
theorem Step.keeps0 (x : Step base [] h M h' M') : Keeps2 h M h' M' := x.keeps2 fun _ hm => nomatch hm
/-- all kept -/
theorem Step.of_keeps (b : base.StaysIn h) (k : ∀ a o, h.get? a = some o → h'.get? a = some o) : Step base X h M h' M :=
  ⟨fun a o e _ _ => ⟨o, k a o e, .refl o⟩, fun a o e => ⟨o, k a o e⟩, ⟨[], (Mem.app_nil _).symm, fun _ m => nomatch m⟩, fun a o e => k a o (b a o e), fun a o _ _ e => k a o e⟩
theorem Step.push (b : base.StaysIn h) (o : Obj) : Step base X h M (h.push o) M := .of_keeps b (fun _ _ e => Heap.get?_push_of_some o e)
/-- one object of the store, or of X, turns -/
theorem Step.sameBut {a : Addr} {oa : Obj} (b : base.StaysIn h) (hs : Heap.SameBut a h h') (hi : h'.get? a = some oa) (ha : (a ∈ M.c ∧ a ∉ M.z) ∨ a ∈ X) (hb : base.get? a = none) : Step base X h M h' M := by
  refine ⟨fun c o e n nx => ⟨o, (hs.2 c fun q => ?_).trans e, .refl o⟩, fun c o e => ?_, ⟨[], (Mem.app_nil _).symm, fun _ m => nomatch m⟩, fun c o e => (hs.2 c fun q => ?_).trans (b c o e), fun c o m nx e => (hs.2 c fun q => ?_).trans e⟩
  · subst q; rcases ha with q | q
    · exact n q.1
    · exact nx q
  · by_cases q : c = a
    · subst q; exact ⟨oa, hi⟩
    · exact ⟨o, (hs.2 c q).trans e⟩
  · subst q; exact sn e hb
  · subst q; rcases ha with q | q
    · exact q.2 m
    · exact nx q
end

/-- what the store's object is -/
inductive LstC (h : Heap) (M : Mem) (a : Addr) (xs : List PV) : Prop
  | mk (vs : List Value) (n : Nat) (ha : IsL h a vs.toArray n) (r : RVs h M xs vs)
inductive DctC (prog : Program) (w : World) (h : Heap) (M : Mem) (a : Addr) (kvs : List (Str × PV)) : Prop
  | mk (us : List (Str × Value)) (hd : h.DictOf (strKind prog w) a us) (hk : us.map (·.1) = kvs.map (·.1)) (r : RVs h M (kvs.map (·.2)) (us.map (·.2)))
inductive DatC (prog : Program) (w : World) (h : Heap) (M : Mem) (a : Addr) (kvs : List (List Int × PV)) : Prop
  | mk (us : List (List Int × Addr × Value)) (hd : h.DictOfH (tupleKind (intKind prog w)) a us) (hM : ∀ u ∈ us, u.2.1 ∉ M) (hn : (a == sysModules) = false) (hk : us.map (·.1) = kvs.map (·.1)) (r : RVs h M (kvs.map (·.2)) (us.map (·.2.2)))
-- where the text of `_law_places` stands, and its lambda
noncomputable def lamTab : List Str := ["t", "rows", "spot", "path", "part"]
noncomputable def lamQual : Str := "_law_places.<locals>."
noncomputable def lamC : Addr := 205
noncomputable def lamP : Addr := 203
noncomputable def lamL : Nat := 143
noncomputable def lamK : Nat := 28
inductive TblC (h : Heap) (M : Mem) (a : Addr) : Prop
  | new (h1 : a = lamP) (h2 : h.get? a = some (tabObj #[]))
  | got (c : Addr) (oc : Obj) (vs : Array Value) (t : Tok) (h1 : a = lamP) (h2 : h.get? a = some (tabObj #[rawInt lamL, rawInt lamK, .ref c])) (h3 : h.get? c = some oc) (h4 : oc.cls = .type "code") (h5 : oc.data = .fields vs) (h6 : vs[1]? = some (.str (lamQual ++ ("<lambda>" : Str)) t)) (h7 : c ∉ M)
noncomputable def SCR (prog : Program) (w : World) (h : Heap) (M : Mem) (a : Addr) : SC → Prop
  | .lst xs => LstC h M a xs
  | .dct kvs => DctC prog w h M a kvs
  | .dat kvs => DatC prog w h M a kvs
  | .tbl => TblC h M a

structure StR (prog : Program) (w : World) (base h : Heap) (M : Mem) (σ : St) : Prop where
  len : M.c.length = σ.length
  nodup : M.c.Nodup
  out : ∀ a ∈ M.z, ∃ o, h.get? a = some o
  old : ∀ a ∈ M, base.get? a = none
  at_ : ∀ (k : Nat) (c : SC) (a : Addr), σ[k]? = some c → M.c[k]? = some a → SCR prog w h M a c
  dis : ∀ a ∈ M.c, a ∉ M.z

section
variable {prog : Program} {w : World} {base h h' : Heap} {M M' : Mem} {σ : St}
theorem tupleKey_seq {h : Heap} {ks : List Int} {a : Addr} (x : IsTupleKey (intKind prog w) h ks a) : ∃ o, h.get? a = some o ∧ SeqLike o ∧ o.cls = .type "tuple" ∧ ∀ o', o' = o → ∀ h' : Heap, h'.get? a = some o' → IsTupleKey (intKind prog w) h' ks a := by
  obtain ⟨o, its, n, ho, hc, hd, r⟩ := x
  exact ⟨o, ho, .inl ⟨.inl hc, its, n, hd⟩, hc, fun o' e h' e' => ⟨o, its, n, e ▸ e', hc, hd, r⟩⟩
theorem SCR.keep {a : Addr} {c : SC} (K : Keeps2 h M h' M') (e : h'.get? a = h.get? a) (x : SCR prog w h M a c) : SCR prog w h' M' a c := by
  cases c with
  | lst xs => obtain ⟨vs, n, hl, r⟩ := x; exact .mk vs n (e.trans hl) (r.keep K)
  | dct kvs =>
    obtain ⟨us, ⟨o, es, ep, ho, q⟩, hk, r⟩ := x
    exact .mk us ⟨o, es, ep, e.trans ho, q⟩ hk (r.keep K)
  | dat kvs =>
    obtain ⟨us, ⟨o, es, ep, ho, hx, hd, he, hi, nd⟩, hM, hn, hk, r⟩ := x
    have kk : ∀ u ∈ us, IsTupleKey (intKind prog w) h' u.1 u.2.1 ∧ u.2.1 ∉ M' := fun u hu => by
      obtain ⟨o', e1, s, _, f⟩ := tupleKey_seq (hi u hu)
      obtain ⟨e2, m2⟩ := K.obj _ o' e1 (hM u hu) s
      exact ⟨f o' rfl h' e2, m2⟩
    exact .mk us ⟨o, es, ep, e.trans ho, hx, hd, he, fun u hu => (kk u hu).1, nd⟩ (fun u hu => (kk u hu).2) hn hk (r.keep K)
  | tbl =>
    rcases x with ⟨h1, h2⟩ | ⟨c, oc, vs, t, h1, h2, h3, h4, h5, h6, h7⟩
    · exact .new h1 (e.trans h2)
    · obtain ⟨e2, m2⟩ := K.obj c oc h3 h7 (.inr ⟨.inr h4, _, h5⟩)
      exact .got c oc vs t h1 (e.trans h2) e2 h4 h5 h6 m2
theorem SCR.there {a : Addr} {c : SC} (x : SCR prog w h M a c) : ∃ o, h.get? a = some o := by
  cases c with
  | lst xs => obtain ⟨vs, n, hl, r⟩ := x; exact ⟨_, hl⟩
  | dct kvs => obtain ⟨us, ⟨o, es, ep, ho, q⟩, hk, r⟩ := x; exact ⟨_, ho⟩
  | dat kvs => obtain ⟨us, ⟨o, es, ep, ho, q⟩, _, _, _, r⟩ := x; exact ⟨_, ho⟩
  | tbl =>
    rcases x with ⟨h1, h2⟩ | ⟨c, oc, vs, t, h1, h2, _⟩
    · exact ⟨_, h2⟩
    · exact ⟨_, h2⟩
theorem StR.live (x : StR prog w base h M σ) : Live h M := fun a m => by
  rcases m with m | m
  case inr => exact x.out a m
  obtain ⟨k, hk⟩ := List.getElem?_of_mem m
  have lt : k < σ.length := x.len ▸ (List.getElem?_eq_some_iff.mp hk).1
  exact (x.at_ k σ[k] a (List.getElem?_eq_getElem lt) hk).there
/-- nothing of the store has turned -/
theorem StR.keep (K : Keeps2 h M h' M) (e : ∀ a ∈ M, h'.get? a = h.get? a) (x : StR prog w base h M σ) : StR prog w base h' M σ :=
  ⟨x.len, x.nodup, fun a m => by obtain ⟨o, q⟩ := x.out a m; exact ⟨o, (e a (.inr m)).trans q⟩, x.old, fun k c a hk ha => SCR.keep K (e a (Mem.of_get ha)) (x.at_ k c a hk ha), x.dis⟩
/-- something out of bounds has turned -/
theorem StR.keepZ {d : Addr} (K : Keeps2 h M h' M) (hd : d ∉ M.c) (k : ∀ a o, a ≠ d → h.get? a = some o → h'.get? a = some o) (ed : d ∈ M.z → ∃ o, h'.get? d = some o) (x : StR prog w base h M σ) : StR prog w base h' M σ :=
  ⟨x.len, x.nodup, fun a m => by
    by_cases q : a = d
    · subst q; exact ed m
    · obtain ⟨o, z⟩ := x.out a m; exact ⟨o, k a o q z⟩, x.old, fun j c a hk ha => by
    obtain ⟨o, e⟩ := x.live a (Mem.of_get ha)
    exact SCR.keep K ((k a o (fun q => by subst q; exact hd (List.mem_of_getElem? ha)) e).trans e.symm) (x.at_ j c a hk ha), x.dis⟩
theorem StR.ofKeeps (x : StR prog w base h M σ) (k : ∀ a o, h.get? a = some o → h'.get? a = some o) : StR prog w base h' M σ := by
  have K : Keeps2 h M h' M := ⟨fun a o e n _ => ⟨k a o e, n⟩, fun _ _ e => e⟩
  refine ⟨x.len, x.nodup, fun a m => by obtain ⟨o, q⟩ := x.out a m; exact ⟨o, k a o q⟩, x.old, fun j c a hk ha => ?_, x.dis⟩
  have y := x.at_ j c a hk ha
  obtain ⟨o, e⟩ := y.there
  exact y.keep K ((k a o e).trans e.symm)
/-- a new object of the store -/
theorem StR.new {a : Addr} {c : SC} (x : StR prog w base h M σ) (K : Keeps2 h M h' (M ++ [a])) (kk : ∀ b o, h.get? b = some o → h'.get? b = some o) (hn : a ∉ M) (hb : base.get? a = none) (q : SCR prog w h' (M ++ [a]) a c) : StR prog w base h' (M ++ [a]) (σ ++ [c]) := by
  have one : ∀ {b : Addr}, b ∈ M ++ [a] → b ∈ M ∨ b = a := fun m => (Mem.mem_append.mp m).imp_right List.mem_singleton.mp
  refine ⟨by rw [Mem.app_c, List.length_append, List.length_append, x.len]; rfl, ?_, fun b m => (x.out b m).imp fun o e => kk b o e, fun b hb' => ?_, fun k c' b hk hb' => ?_, fun b hb' hz => ?_⟩
  · rw [Mem.app_c, List.nodup_append]
    exact ⟨x.nodup, List.nodup_cons.mpr ⟨(fun m => nomatch m), List.nodup_nil⟩, fun y hy z hz e => by rw [List.mem_singleton.mp hz] at e; exact hn (e ▸ .inl hy)⟩
  · rcases one hb' with m | rfl
    · exact x.old b m
    · exact hb
  · rw [Mem.app_c] at hb'
    by_cases lt : k < σ.length
    · rw [List.getElem?_append_left lt] at hk
      rw [List.getElem?_append_left (x.len ▸ lt)] at hb'
      have y := x.at_ k c' b hk hb'
      obtain ⟨o, e⟩ := y.there
      exact y.keep K ((kk b o e).trans e.symm)
    · obtain ⟨l, _⟩ := List.getElem?_eq_some_iff.mp hk
      have e : k = σ.length := Nat.le_antisymm (Nat.le_of_lt_succ (by rw [List.length_append] at l; exact l)) (Nat.not_lt.mp lt)
      subst e
      rw [List.getElem?_append_right (Nat.le_refl _), Nat.sub_self] at hk
      rw [← x.len, List.getElem?_append_right (Nat.le_refl _), Nat.sub_self] at hb'
      cases hk; cases hb'; exact q
  · rcases one (.inl hb') with m | rfl
    · rcases m with m | m
      · exact x.dis b m hz
      · rw [Mem.app_c] at hb'
        rcases List.mem_append.mp hb' with m' | m'
        · exact x.dis b m' hz
        · rw [List.mem_singleton.mp m'] at hz; exact hn (.inr hz)
    · exact hn (.inr hz)
/-- one object of the store turns -/
theorem StR.upd {k : Nat} {a : Addr} {c : SC} (x : StR prog w base h M σ) (ha : M.c[k]? = some a) (K : Keeps2 h M h' M) (e : ∀ b ∈ M, b ≠ a → h'.get? b = h.get? b) (q : SCR prog w h' M a c) :
    StR prog w base h' M (σ.set k c) := by
  have lv : ∃ o, h'.get? a = some o := SCR.there q
  refine ⟨by simp [x.len], x.nodup, fun b m => ?_, x.old, fun j c' b hj hb => ?_, x.dis⟩
  · by_cases z : b = a
    · subst z; exact lv
    · obtain ⟨o, z'⟩ := x.out b m; exact ⟨o, (e b (.inr m) z).trans z'⟩
  by_cases hjk : j = k
  · subst hjk
    have lt := (List.getElem?_eq_some_iff.mp ha).1
    rw [List.getElem?_set_self (x.len ▸ lt)] at hj
    cases hj
    rw [ha] at hb; cases hb; exact q
  · rw [List.getElem?_set_ne (Ne.symm hjk)] at hj
    refine SCR.keep K (e b (Mem.of_get hb) fun z => ?_) (x.at_ j c' b hj hb)
    subst z
    obtain ⟨l1, e1⟩ := List.getElem?_eq_some_iff.mp ha
    obtain ⟨l2, e2⟩ := List.getElem?_eq_some_iff.mp hb
    exact hjk ((List.getElem_inj x.nodup).mp (e2.trans e1.symm))
end

/-- the frames of the stack stand, out of the store -/
noncomputable def FF (h : Heap) (base : Heap) (M : Mem) (l : List Env) : Prop :=
  ∀ env ∈ l, env.scope.kind ≠ .module ∧ ∃ L o, env.frame = some L ∧ base.get? L = none ∧ h.get? L = some o ∧ (∀ vs, o.data ≠ .fields vs) ∧ L ∉ M ∧ DictData o
theorem FF.fun {h base : Heap} {M : Mem} : ∀ {l : List Env}, FF h base M l → h.FunFrames base l
  | [], _ => trivial
  | env :: r, x => by
    obtain ⟨hk, L, o, a, b, c, d, _, _⟩ := x env (.head _)
    exact ⟨hk, ⟨L, o, a, b, c, d⟩, FF.fun (l := r) fun e he => x e (.tail _ he)⟩
theorem FF.step {h h' base : Heap} {X : List Addr} {M M' : Mem} {l : List Env} (x : FF h base M l) (s : Step base X h M h' M') (hx : ∀ env ∈ l, ∀ L, env.frame = some L → L ∉ X) : FF h' base M' l := fun env he => by
  obtain ⟨hk, L, o, a, b, c, d, n, f⟩ := x env he
  obtain ⟨o', e', q⟩ := s.keep L o c (fun q => n (.inl q)) (hx env he L a)
  exact ⟨hk, L, o', a, b, e', fun vs z => d vs (q.data ▸ z), s.notMem c n, by obtain ⟨es, ep, z⟩ := f; exact ⟨es, ep, q.data.trans z⟩⟩
theorem FF.step0 {h h' base : Heap} {M M' : Mem} {l : List Env} (x : FF h base M l) (s : Step base [] h M h' M') : FF h' base M' l := x.step s fun _ _ _ _ m => nomatch m
end Mine
end
-- part Q3
section
open PySem PySem.W PyProof.Rows
namespace Mine

theorem gd_inv {α : Type} {c : Bool} {x y : α} (h : gd c x = some y) : c = true ∧ x = y := by
  cases c with
  | true => exact ⟨rfl, Option.some.inj h⟩
  | false => exact nomatch h
section
variable {h : Heap} {M : Mem} {x : PV} {v : Value}
theorem asI_rv {i : Int} (e : asI x = some i) (r : RV h M x v) : RV h M (.int i) v := by
  cases x <;> cases e; exact r
theorem asS_rv {i : Str} (e : asS x = some i) (r : RV h M x v) : RV h M (.str i) v := by
  cases x <;> cases e; exact r
theorem asB_rv {i : Bool} (e : asB x = some i) (r : RV h M x v) : v = .bool i := by
  cases x <;> cases e; exact r
theorem asT_rv {i : List PV} (e : asT x = some i) (r : RV h M x v) : RV h M (.tup i) v := by
  cases x <;> cases e; exact r
theorem asL_rv {i : List PV} (e : asL x = some i) (r : RV h M x v) : RV h M (.lst i) v := by
  cases x <;> cases e; exact r
theorem asC_rv {i : Nat} (e : asC x = some i) (r : RV h M x v) : RV h M (.cell i) v := by
  cases x <;> cases e; exact r
end
/-- the rest of the walk behind a value that stands for x, all kept -/
noncomputable def RetP (s : Shared) (M : Mem) (x : PV) (Q : Value → Shared → Prop) : Prop :=
  ∀ v h' tk, (∀ a o, s.heap.get? a = some o → h'.get? a = some o) → RV h' M x v → Q v { s with heap := h', toks := tk }

section
variable {s : Shared} {M : Mem} {x : PV} {Q : Value → Shared → Prop}
theorem RetP.here (r : RetP s M x Q) {v : Value} (tk : Nat) (hv : RV s.heap M x v) : Q v { s with toks := tk } := r v s.heap tk (fun _ _ e => e) hv
theorem RetP.here' (r : RetP s M x Q) {v : Value} (hv : RV s.heap M x v) : Q v s := r v s.heap s.toks (fun _ _ e => e) hv
theorem keeps_push (h : Heap) (o : Obj) (M : Mem) : Keeps2 h M (h.push o) M := ⟨fun _ _ e n _ => ⟨Heap.get?_push_of_some o e, n⟩, fun _ _ e => e⟩
theorem keeps_all {h h' : Heap} (M : Mem) (k : ∀ a o, h.get? a = some o → h'.get? a = some o) : Keeps2 h M h' M := ⟨fun _ _ e n _ => ⟨k _ _ e, n⟩, fun _ _ e => e⟩
theorem RetP.newTup {xs : List PV} {vs : List Value} {its : Array Value} (r : RetP s M (.tup xs) Q) (hM : Live s.heap M) (e : its = vs.toArray) (hr : RVs s.heap M xs vs) (tk : Nat) :
    Q (.ref s.heap.objs.size) { s with heap := s.heap.push { cls := .type "tuple", data := .seq its }, toks := tk } := by
  subst e
  exact r _ _ tk (fun _ _ e => Heap.get?_push_of_some _ e) (.tup xs vs _ 0 (IsT.new s.heap _) (hM.fresh (get_size _)) (hr.keep (keeps_push _ _ _)))
theorem RetP.newLst {xs : List PV} {vs : List Value} {its : Array Value} (r : RetP s M (.lst xs) Q) (hM : Live s.heap M) (e : its = vs.toArray) (hr : RVs s.heap M xs vs) (tk : Nat) :
    Q (.ref s.heap.objs.size) { s with heap := s.heap.push { cls := .type "list", data := .seq its }, toks := tk } := by
  subst e
  exact r _ _ tk (fun _ _ e => Heap.get?_push_of_some _ e) (.lst xs vs _ 0 (IsL.new s.heap _) (hM.fresh (get_size _)) (hr.keep (keeps_push _ _ _)))
end

theorem str_nil {x : Str} (h : (x.length == 0) = true) : x = Str.empty := by
  obtain ⟨⟨l⟩⟩ := x
  cases l with
  | nil => rfl
  | cons => exact nomatch h
theorem str_app_empty (x : Str) : x ++ Str.empty = x := by
  show Str.append _ _ = _
  unfold Str.append Str.empty
  simp
section
variable {prog : Program} {w : World} {A : Around} {E : Value → Shared → Prop} {s : Shared} {M : Mem}

theorem bin_tup {xs ys : List PV} {u v : Value} {Q : Value → Shared → Prop} (hM : Live s.heap M) (hl : xs.length + ys.length ≤ 1000000) (hu : RV s.heap M (.tup xs) u) (hv : RV s.heap M (.tup ys) v)
    (r : RetP s M (.tup (xs ++ ys)) Q) : wpAny (model prog w) A (binaryOp .Add u v) Q E s := by
  obtain ⟨us, a, n, rfl, ha, am, ra⟩ := hu
  obtain ⟨vs, b, m, rfl, hb, bm, rb⟩ := hv
  have e1 := ra.length
  have e2 := rb.length
  by_cases h1 : us.toArray.isEmpty = true
  · have hz : us = [] := by simpa using h1
    subst hz
    have hx : xs = [] := List.length_eq_zero_iff.mp e1
    subst hx
    exact concat_meets ⟨_, ha, rfl⟩ ⟨_, hb, rfl⟩ noFill_tuple_add seq_tuple_add F.slot_tuple_add F.entry_tuple_add (F.args_tuple_add_2 _ _) (AutoSeq1.tuple___add___tuple_tuple_0 a _ n b _ m h1)
      ⟨ha, hb, r.here' (.tup _ vs b m hb bm rb)⟩
  · by_cases h2 : vs.toArray.isEmpty = true
    · have hz : vs = [] := by simpa using h2
      subst hz
      have hx : ys = [] := List.length_eq_zero_iff.mp e2
      subst hx
      exact concat_meets ⟨_, ha, rfl⟩ ⟨_, hb, rfl⟩ noFill_tuple_add seq_tuple_add F.slot_tuple_add F.entry_tuple_add (F.args_tuple_add_2 _ _) (AutoSeq1.tuple___add___tuple_tuple_1 a _ n b _ m h1 h2)
        ⟨ha, hb, r.here' (by rw [List.append_nil]; exact .tup _ us a n ha am ra)⟩
    · refine P.add_tuple ha hb h1 h2 (r.newTup hM (vs := us ++ vs) (List.append_toArray us vs) (ra.append rb) s.toks) ?_
      rw [sizeLine_eq]; show us.length + vs.length ≤ _; omega
theorem bin_str {x y : Str} {u v : Value} {Q : Value → Shared → Prop} (hl : x.length + y.length ≤ 1000000) (hu : RV s.heap M (.str x) u) (hv : RV s.heap M (.str y) v)
    (r : RetP s M (.str (x ++ y)) Q) : wpAny (model prog w) A (binaryOp .Add u v) Q E s := by
  obtain ⟨t, rfl⟩ := hu
  obtain ⟨t', rfl⟩ := hv
  refine P.add_str ?_
  by_cases h1 : (x.length == 0) = true
  · rw [if_pos h1]
    have hx : x = Str.empty := str_nil h1
    subst hx
    exact r.here' (by rw [Str.empty_append]; exact .str _ _)
  · rw [if_neg h1]
    by_cases h2 : (y.length == 0) = true
    · rw [if_pos h2]
      have hy : y = Str.empty := str_nil h2
      subst hy
      exact r.here' (by rw [str_app_empty]; exact .str _ _)
    · rw [if_neg h2]
      exact ⟨by rw [Str.length_append, sizeLine_eq]; omega, r.here _ (.str _ _)⟩

theorem onI_inv {f : Int → Int → Option PV} {a b z : PV} {u v : Value} (h : onI f a b = some z) (hu : RV s.heap M a u) (hv : RV s.heap M b v) : ∃ i j t t', u = .int i t ∧ v = .int j t' ∧ f i j = some z := by
  obtain ⟨i, hi, h⟩ := Option.bind_eq_some_iff.mp h
  obtain ⟨j, hj, h⟩ := Option.bind_eq_some_iff.mp h
  obtain ⟨t, rfl⟩ := asI_rv hi hu
  obtain ⟨t', rfl⟩ := asI_rv hj hv
  exact ⟨i, j, t, t', rfl, rfl, h⟩
theorem bin_sound {op : Operator} {x y z : PV} {u v : Value} {Q : Value → Shared → Prop} (hM : Live s.heap M) (hb : bin op x y = some z) (hu : RV s.heap M x u) (hv : RV s.heap M y v)
    (r : RetP s M z Q) : wpAny (model prog w) A (binaryOp op u v) Q E s := by
  cases op with
  | Add =>
    replace hb : add x y = some z := hb
    unfold add at hb
    split at hb
    · obtain ⟨y, hy, h⟩ := Option.bind_eq_some_iff.mp hb
      obtain ⟨c, rfl⟩ := gd_inv h
      exact bin_str (of_decide_eq_true c) hu (asS_rv hy hv) r
    · obtain ⟨y, hy, h⟩ := Option.bind_eq_some_iff.mp hb
      obtain ⟨c, rfl⟩ := gd_inv h
      exact bin_tup hM (of_decide_eq_true c) hu (asT_rv hy hv) r
    · obtain ⟨i, j, t, t', rfl, rfl, e⟩ := onI_inv hb hu hv; cases e; exact P.add_int (r.here _ (.int _ _))
  | Sub => obtain ⟨i, j, t, t', rfl, rfl, e⟩ := onI_inv hb hu hv; cases e; exact P.sub_int (r.here _ (.int _ _))
  | Mult =>
    obtain ⟨i, j, t, t', rfl, rfl, e⟩ := onI_inv hb hu hv
    obtain ⟨c, rfl⟩ := gd_inv e
    have c := of_decide_eq_true c
    exact P.mul_int (r.here _ (.int _ _)) (IntMulOk.of_left (intBits_le_64 (by omega) (by omega)))
  | Mod =>
    obtain ⟨i, j, t, t', rfl, rfl, e⟩ := onI_inv hb hu hv
    obtain ⟨c, rfl⟩ := gd_inv e
    have c := of_decide_eq_true c
    exact mod_int' (by omega) (r.here _ (.int _ _))
  | _ => exact nomatch hb
end
end Mine
end
-- part Q4
section
open PySem PySem.W PyProof.Rows PySem.SeqAt
namespace Mine

theorem isTuple_of {h : Heap} {a : Addr} {its : Array Value} {n : Nat} (x : IsT h a its n) : h.IsTuple a its := ⟨_, x, rfl, n, rfl⟩

/-- what a value stands for: read back -/
noncomputable def back (h : Heap) (M : Mem) : Nat → Value → PV
  | 0, _ => .none
  | n + 1, v => match v with
    | .none => .none
    | .bool b => .bool b
    | .int i _ => .int i
    | .str s _ => .str s
    | .ref a => match M.c.idxOf? a with
      | some k => .cell k
      | none => match h.get? a with
        | some o => match o.data with
          | .seq vs _ => if o.cls = .type "tuple" then .tup (vs.toList.map (back h M n)) else .lst (vs.toList.map (back h M n))
          | .fields vs => match (vs[1]? : Option Value) with
            | some (Value.int i _) => .rng i.toNat
            | _ => .none
          | _ => .none
        | none => .none
    | _ => .none
section
variable {h : Heap} {M : Mem}
theorem idx_none {a : Addr} (ma : a ∉ M) : M.c.idxOf? a = none := by
  rw [List.idxOf?_eq_none_iff]; exact fun m => ma (.inl m)
theorem idx_some {k : Nat} {a : Addr} (hM : M.c.Nodup) (e : M.c[k]? = some a) : M.c.idxOf? a = some k := by
  obtain ⟨l, e1⟩ := List.getElem?_eq_some_iff.mp e
  rw [List.idxOf?_eq_some_iff]
  exact ⟨l, by simpa using e1, fun j hj q => absurd ((List.getElem_inj hM).mp ((by simpa using q : M.c[j] = a).trans e1.symm)) (Nat.ne_of_lt hj)⟩
mutual
theorem RV.back (hM : M.c.Nodup) : ∀ (x : PV) {v : Value} (n : Nat), PV.dep x < n → RV h M x v → Mine.back h M n v = x
  | _, _, 0, d, _ => absurd d (Nat.not_lt_zero _)
  | .none, _, n + 1, d, r => by cases r; rfl
  | .bool _, _, n + 1, d, r => by cases r; rfl
  | .int _, _, n + 1, d, r => by obtain ⟨t, rfl⟩ := r; rfl
  | .str _, _, n + 1, d, r => by obtain ⟨t, rfl⟩ := r; rfl
  | .tup xs, _, n + 1, d, r => by
    obtain ⟨vs, a, m, rfl, ha, ma, ra⟩ := r
    have e : h.get? a = _ := ha
    dsimp only [Mine.back]
    rw [idx_none ma, e]
    exact (if_pos rfl).trans (congrArg PV.tup (RVs.back hM xs n (Nat.lt_of_succ_lt_succ d) ra))
  | .lst xs, _, n + 1, d, r => by
    obtain ⟨vs, a, m, rfl, ha, ma, ra⟩ := r
    have e : h.get? a = _ := ha
    dsimp only [Mine.back]
    rw [idx_none ma, e]
    exact (if_neg (show ¬ (Value.type "list" = Value.type "tuple") from by decide)).trans (congrArg PV.lst (RVs.back hM xs n (Nat.lt_of_succ_lt_succ d) ra))
  | .cell k, _, n + 1, d, r => by
    obtain ⟨a, rfl, e⟩ := r
    dsimp only [Mine.back]
    rw [idx_some hM e]
  | .rng k, _, n + 1, d, r => by
    obtain ⟨a, t1, t2, t3, rfl, ha, ma⟩ := r
    have e : h.get? a = _ := ha
    dsimp only [Mine.back]
    rw [idx_none ma, e]
    rfl
theorem RVs.back (hM : M.c.Nodup) : ∀ (xs : List PV) {vs : List Value} (n : Nat), PV.deps xs < n → RVs h M xs vs → vs.map (Mine.back h M n) = xs
  | [], _, n, d, r => by cases r; rfl
  | x :: r, _, n, d, q => by
    obtain ⟨v, t, hv, ht⟩ := q
    rw [List.map_cons, RV.back hM x n (Nat.lt_of_le_of_lt (Nat.le_max_left _ _) d) hv, RVs.back hM r n (Nat.lt_of_le_of_lt (Nat.le_max_right _ _) d) ht]
end
theorem RV.inj (hM : M.c.Nodup) {x y : PV} {v : Value} (r : RV h M x v) (q : RV h M y v) : x = y :=
  (r.back hM x _ (Nat.lt_succ_of_le (Nat.le_max_left (PV.dep x) (PV.dep y)))).symm.trans (q.back hM y _ (Nat.lt_succ_of_le (Nat.le_max_right (PV.dep x) (PV.dep y))))
end
mutual
/-- what may be compared at all is equal to itself -/
theorem PV.eqv_self : ∀ x : PV, PV.cok x x = true → PV.eqv x x = true
  | .bool a, _ => beq_self_eq_true a
  | .int a, _ => beq_self_eq_true a
  | .str a, _ => beq_self_eq_true a
  | .tup a, c => PV.eqvs_self a c
  | .lst a, c => PV.eqvs_self a c
  | .none, c => nomatch c
  | .cell _, c => nomatch c
  | .rng _, c => nomatch c
theorem PV.eqvs_self : ∀ xs : List PV, PV.coks xs xs = true → PV.eqvs xs xs = true
  | [], _ => rfl
  | x :: r, c => Bool.and_eq_true_iff.mpr ⟨PV.eqv_self x (Bool.and_eq_true_iff.mp c).1, PV.eqvs_self r (Bool.and_eq_true_iff.mp c).2⟩
end

theorem eqvs_at : ∀ {xs ys : List PV}, xs.length = ys.length → PV.eqvs xs ys = (List.range xs.length).all fun j => PV.eqv (xs.getD j .none) (ys.getD j .none)
  | [], [], _ => rfl
  | x :: xs, y :: ys, e => by
    rw [show PV.eqvs (x :: xs) (y :: ys) = (PV.eqv x y && PV.eqvs xs ys) from rfl, eqvs_at (Nat.succ.inj e), List.length_cons, List.range_succ_eq_map, List.all_cons, List.all_map]
    rfl
theorem eqvs_len : ∀ {xs ys : List PV}, xs.length ≠ ys.length → PV.eqvs xs ys = false
  | [], [], e => absurd rfl e
  | [], _ :: _, _ => rfl
  | _ :: _, [], _ => rfl
  | x :: xs, y :: ys, e => by
    rw [show PV.eqvs (x :: xs) (y :: ys) = (PV.eqv x y && PV.eqvs xs ys) from rfl, eqvs_len (fun q => e (congrArg (· + 1) q)), Bool.and_false]
theorem coks_at : ∀ {xs ys : List PV}, PV.coks xs ys = true → ∀ {j : Nat} {x y : PV}, xs[j]? = some x → ys[j]? = some y → PV.cok x y = true
  | x :: xs, y :: ys, c, 0, u, v, e, e' => by cases e; cases e'; exact (Bool.and_eq_true_iff.mp c).1
  | x :: xs, y :: ys, c, j + 1, u, v, e, e' => coks_at (xs := xs) (ys := ys) (Bool.and_eq_true_iff.mp c).2 (j := j) e e'
theorem deps_at : ∀ {xs : List PV} {j : Nat} {x : PV}, xs[j]? = some x → PV.dep x ≤ PV.deps xs
  | y :: xs, 0, x, e => by cases e; exact Nat.le_max_left _ _
  | y :: xs, j + 1, x, e => Nat.le_trans (deps_at (xs := xs) (j := j) e) (Nat.le_max_right _ _)

section
variable {s : Shared} {M : Mem}
/-- both comparisons, and that of an item -/
structure CmpAt (A : Around) (s : Shared) (u v : Value) (b : Bool) : Prop where
  rc : RcAt A s u v b
  ne : RcNeAt A s u v (!b)
  eq : EqAt A s u v b

theorem elim_some {α : Type} {o : Option α} {f : α → Bool} (h : o.elim false f = true) : ∃ a, o = some a ∧ f a = true := by
  cases o with
  | none => exact nomatch h
  | some a => exact ⟨a, rfl, h⟩
theorem cmp_all (hM : M.c.Nodup) : ∀ (n : Nat) (x : PV), PV.dep x < n → ∀ {y : PV} {u v : Value} {A : Around}, PV.cok x y = true → RV s.heap M x u → RV s.heap M y v → A.units + PV.dep x + 1 < cLine → CmpAt A s u v (PV.eqv x y) := by
  intro n
  induction n with
  | zero => intro x h; exact absurd h (Nat.not_lt_zero _)
  | succ n ih =>
    have items : ∀ (xs ys : List PV) (us vs : List Value) (A : Around), PV.deps xs + 1 < n + 1 → PV.coks xs ys = true → RVs s.heap M xs us → RVs s.heap M ys vs → A.units + (PV.deps xs + 1) + 1 < cLine →
        ∀ j (h1 : j < us.toArray.size) (h2 : j < vs.toArray.size), EqAt A.in1 s us.toArray[j] vs.toArray[j] (PV.eqv (xs.getD j .none) (ys.getD j .none)) := by
      intro xs ys us vs A hn c ra rb hu j j1 j2
      obtain ⟨x, hx, rx⟩ := ra.get' (i := j) (v := us[j]) (List.getElem?_eq_getElem j1)
      obtain ⟨y, hy, ry⟩ := rb.get' (i := j) (v := vs[j]) (List.getElem?_eq_getElem j2)
      have hd := deps_at hx
      rw [List.getD_eq_getElem?_getD, List.getD_eq_getElem?_getD, hx, hy]
      exact (ih x (by omega) (coks_at c hx hy) rx ry (A := A.in1) (by show A.units + 1 + PV.dep x + 1 < cLine; omega)).eq
    intro x hn y u v A c hu hv hr
    have f : ∀ {a b : Addr}, u = .ref a → v = .ref b → RcAt A s u v (PV.eqv x y) → EqAt A s u v (PV.eqv x y) := by
      rintro a b rfl rfl key
      by_cases e : a = b
      · subst e
        cases RV.inj hM hu hv
        rw [PV.eqv_self x c]
        exact EqAt.same _
      · exact EqAt.of_refs e key
    cases x with
    | bool a =>
      obtain ⟨b, hb⟩ := Option.isSome_iff_exists.mp c
      cases hu
      cases asB_rv hb hv
      show CmpAt A s _ _ ((asB y).elim false fun b => a == b)
      rw [hb]
      exact ⟨RcAt.bool_bool _ _, RcNeAt.bool_bool _ _, EqAt.bool_bool _ _⟩
    | int a =>
      obtain ⟨b, hb⟩ := Option.isSome_iff_exists.mp c
      obtain ⟨t, rfl⟩ := hu
      obtain ⟨t', rfl⟩ := asI_rv hb hv
      show CmpAt A s _ _ ((asI y).elim false fun b => a == b)
      rw [hb]
      exact ⟨RcAt.int_int _ _ _ _, RcNeAt.int_int _ _ _ _, EqAt.int_int _ _ _ _⟩
    | str a =>
      obtain ⟨b, hb⟩ := Option.isSome_iff_exists.mp c
      obtain ⟨t, rfl⟩ := hu
      obtain ⟨t', rfl⟩ := asS_rv hb hv
      show CmpAt A s _ _ ((asS y).elim false fun b => a == b)
      rw [hb]
      exact ⟨RcAt.str_str _ _ _ _, RcNeAt.str_str _ _ _ _, EqAt.str_str _ _ _ _⟩
    | tup xs =>
      obtain ⟨ys, hy, c'⟩ := elim_some c
      obtain ⟨us, a, m, ea, ha, ma, ra⟩ := id hu
      obtain ⟨vs, b, m', eb, hb, mb, rb⟩ := asT_rv hy hv
      have it := items xs ys us vs A hn c' ra rb hr
      have e : PV.eqv (.tup xs) y = ((List.range (min us.toArray.size vs.toArray.size)).all (fun j => PV.eqv (xs.getD j .none) (ys.getD j .none)) && us.toArray.size == vs.toArray.size) := by
        show ((asT y).elim false fun b => PV.eqvs xs b) = _
        rw [hy]
        show PV.eqvs xs ys = _
        rw [List.size_toArray, List.size_toArray, ← ra.length, ← rb.length]
        by_cases hl : xs.length = ys.length
        · rw [eqvs_at hl, ← hl, Nat.min_self, beq_self_eq_true, Bool.and_true]
        · rw [eqvs_len hl, beq_eq_false_iff_ne.mpr hl, Bool.and_false]
      have k1 : RcAt A s u v (PV.eqv (.tup xs) y) := by rw [e, ea, eb]; exact RcAt.tuples (isTuple_of ha) (isTuple_of hb) (by omega) it
      exact ⟨k1, by rw [e, ea, eb]; exact RcNeAt.tuples (isTuple_of ha) (isTuple_of hb) (by omega) it, f ea eb k1⟩
    | lst xs =>
      obtain ⟨ys, hy, c'⟩ := elim_some c
      obtain ⟨us, a, m, ea, ha, ma, ra⟩ := id hu
      obtain ⟨vs, b, m', eb, hb, mb, rb⟩ := asL_rv hy hv
      have it := items xs ys us vs A hn c' ra rb hr
      have e : PV.eqv (.lst xs) y = PV.eqvs xs ys := by
        show ((asL y).elim false fun b => PV.eqvs xs b) = _
        rw [hy]; rfl
      have hu1 : us.toArray.size = xs.length := (List.size_toArray ..).trans ra.length.symm
      have hv1 : vs.toArray.size = ys.length := (List.size_toArray ..).trans rb.length.symm
      have k : RcAt A s u v (PV.eqv (.lst xs) y) ∧ RcNeAt A s u v (!PV.eqv (.lst xs) y) := by
        rw [e, ea, eb]
        by_cases hl : xs.length = ys.length
        · have hs : us.toArray.size = vs.toArray.size := hu1.trans (hl.trans hv1.symm)
          rw [eqvs_at hl, ← hu1]
          exact ⟨RcAt.lists ha.isList hb.isList hs (by omega) it, RcNeAt.lists ha.isList hb.isList hs (by omega) it⟩
        · have hs : (us.toArray.size != vs.toArray.size) = true := bne_iff_ne.mpr (by rw [hu1, hv1]; exact hl)
          rw [eqvs_len hl]
          exact ⟨RcAt.lists_lengths ha.isList hb.isList hs (by omega), RcNeAt.lists_lengths ha.isList hb.isList hs (by omega)⟩
      exact ⟨k.1, k.2, f ea eb k.1⟩
    | _ => exact nomatch c
theorem may_sound (hM : M.c.Nodup) {x y : PV} {u v : Value} {A : Around} (c : PV.may x y = true) (hu : RV s.heap M x u) (hv : RV s.heap M y v) (hr : A.units + 1500 < cLine) : CmpAt A s u v (PV.eqv x y) := by
  obtain ⟨c1, c2⟩ := Bool.and_eq_true_iff.mp c
  have c2 := of_decide_eq_true c2
  exact cmp_all hM _ x (Nat.lt_succ_self _) c1 hu hv (by omega)
end
end Mine
end
-- part Q5
section
open PySem PySem.W PyProof.Rows PySem.SeqAt
namespace Mine

section
variable {s : Shared} {M : Mem}
/-- the items' test, as a function of the machine's values -/
noncomputable def hitOf (h : Heap) (M : Mem) (t : PV) (v : Value) : Bool := @decide (∃ z, RV h M z v ∧ PV.eqv z t = true) (Classical.propDecidable _)
theorem hitOf_eq {h : Heap} {t z : PV} {v : Value} (hM : M.c.Nodup) (r : RV h M z v) : hitOf h M t v = PV.eqv z t := by
  unfold hitOf
  rw [Bool.eq_iff_iff]
  exact (@decide_eq_true_iff _ (Classical.propDecidable _)).trans ⟨fun ⟨z', r', e⟩ => by rw [RV.inj hM r r']; exact e, fun e => ⟨z, r, e⟩⟩
theorem hits {t : PV} {u : Value} {A : Around} (hM : M.c.Nodup) (ht : RV s.heap M t u) (hr : A.units + 2000 < cLine) : ∀ {xs : List PV} {vs : List Value}, RVs s.heap M xs vs → (xs.all fun x => PV.may x t) = true →
    (vs.any (hitOf s.heap M t) = xs.any fun x => PV.eqv x t) ∧ ∀ y ∈ vs, EqAt A.in1 s y u (hitOf s.heap M t y)
  | [], _, r, _ => by cases r; exact ⟨rfl, fun _ m => nomatch m⟩
  | x :: xs, _, r, c => by
    obtain ⟨v, vs, hx, r⟩ := r
    obtain ⟨c1, c2⟩ := Bool.and_eq_true_iff.mp (List.all_cons.symm.trans c)
    obtain ⟨h1, h2⟩ := hits hM ht hr r c2
    have e := hitOf_eq (t := t) hM hx
    refine ⟨by rw [List.any_cons, List.any_cons, h1, e], fun y hy => ?_⟩
    rcases List.mem_cons.mp hy with rfl | hy
    · rw [e]; exact (may_sound hM c1 hx ht (A := A.in1) (by show A.units + 1 + 1500 < cLine; omega)).eq
    · exact h2 y hy
end

section
variable {prog : Program} {w : World} {A : Around} {E : Value → Shared → Prop} {s : Shared} {M : Mem} {base : Heap} {σ : St}

theorem sgnIn_eq {c x : Str} {b : Bool} (e : sgnIn c x = some b) : (!(Builtin.Str.occurrences x c 0 x.length 1).isEmpty) = b := by
  obtain ⟨⟨l⟩⟩ := c
  unfold sgnIn at e
  match l, e with
  | [k], e =>
    cases e
    rw [StrLaws.found_one x k]
    simp

theorem StR.lst {k : Nat} {a : Addr} {xs : List PV} (R : StR prog w base s.heap M σ) (e : lstAt σ k = some xs) (h : M.c[k]? = some a) : σ[k]? = some (.lst xs) ∧ LstC s.heap M a xs := by
  unfold lstAt at e
  cases hk : σ[k]? with
  | none => rw [hk] at e; exact nomatch e
  | some c =>
    rw [hk] at e
    cases c <;> cases e
    exact ⟨rfl, R.at_ _ _ a hk h⟩
theorem StR.dct {k : Nat} {a : Addr} {xs : List (Str × PV)} (R : StR prog w base s.heap M σ) (e : dctAt σ k = some xs) (h : M.c[k]? = some a) : σ[k]? = some (.dct xs) ∧ DctC prog w s.heap M a xs := by
  unfold dctAt at e
  cases hk : σ[k]? with
  | none => rw [hk] at e; exact nomatch e
  | some c =>
    rw [hk] at e
    cases c <;> cases e
    exact ⟨rfl, R.at_ _ _ a hk h⟩
theorem StR.dat {k : Nat} {a : Addr} {xs : List (List Int × PV)} (R : StR prog w base s.heap M σ) (e : datAt σ k = some xs) (h : M.c[k]? = some a) : σ[k]? = some (.dat xs) ∧ DatC prog w s.heap M a xs := by
  unfold datAt at e
  cases hk : σ[k]? with
  | none => rw [hk] at e; exact nomatch e
  | some c =>
    rw [hk] at e
    cases c <;> cases e
    exact ⟨rfl, R.at_ _ _ a hk h⟩

theorem keyv_are {h : Heap} : ∀ {l : List PV} {q : List Int} {vs : List Value}, keyv l = some q → RVs h M l vs → ItemsAre (intKind prog w) q vs
  | [], _, _, e, r => by cases r; cases e; exact .nil
  | x :: l, _, _, e, r => by
    obtain ⟨v, t, hv, ht⟩ := r
    obtain ⟨i, hi, e⟩ := Option.bind_eq_some_iff.mp e
    obtain ⟨q, hq, rfl⟩ := Option.map_eq_some_iff.mp e
    obtain ⟨t', rfl⟩ := asI_rv hi hv
    exact .cons (by unfold intKind Value.isInt; exact beq_self_eq_true i) (keyv_are hq ht)
theorem keyt_rv {h : Heap} {x : PV} {q : List Int} {v : Value} (e : keyt x = some q) (r : RV h M x v) : ∃ a, v = .ref a ∧ (tupleKind (intKind prog w)).is h q a ∧ a ∉ M := by
  obtain ⟨l, hl, e⟩ := Option.bind_eq_some_iff.mp e
  obtain ⟨vs, a, n, rfl, ha, ma, ra⟩ := asT_rv hl r
  exact ⟨a, rfl, ⟨_, vs.toArray, n, ha, rfl, rfl, keyv_are e ra⟩, ma⟩
theorem dat_at {h : Heap} : ∀ {kvs : List (List Int × PV)} {us : List (List Int × Addr × Value)}, us.map (·.1) = kvs.map (·.1) → RVs h M (kvs.map (·.2)) (us.map (·.2.2)) → ∀ (q : List Int),
    match kvs.lookup q with
    | some z => ∃ p, atKey us q = some p ∧ RV h M z p.2
    | none => atKey us q = none
  | [], [], _, _, q => rfl
  | [], _ :: _, h, _, _ => by cases h
  | _ :: _, [], h, _, _ => by cases h
  | (k, z) :: kvs, (k', a, v) :: us, hk, r, q => by
    obtain ⟨_, _, hv, ht⟩ := r
    simp only [List.map_cons, List.cons.injEq] at hk
    obtain ⟨rfl, hk⟩ := hk
    have ih := dat_at hk ht q
    rw [List.lookup_cons]
    unfold atKey at ih ⊢
    rw [List.find?_cons]
    by_cases e : k' = q
    · subst e
      simp only [beq_self_eq_true, decide_true]
      exact ⟨_, rfl, hv⟩
    · rw [beq_eq_false_iff_ne.mpr (Ne.symm e), decide_eq_false e]
      exact ih

structure InAt (prog : Program) (w : World) (A : Around) (s : Shared) (u v : Value) (b : Bool) : Prop where
  i : ∀ (Q : Value → Shared → Prop) (E : Value → Shared → Prop), (∀ tk, Q (.bool b) { s with toks := tk }) → wpAny (model prog w) A (compareOp .In u v) Q E s
  n : ∀ (Q : Value → Shared → Prop) (E : Value → Shared → Prop), (∀ tk, Q (.bool (!b)) { s with toks := tk }) → wpAny (model prog w) A (compareOp .NotIn u v) Q E s
theorem in_sound {x y : PV} {u v : Value} {b : Bool} (R : StR prog w base s.heap M σ) (hb : cin σ x y = some b) (hu : RV s.heap M x u) (hv : RV s.heap M y v) (hr : A.units + 2000 < cLine) : InAt prog w A s u v b := by
  cases y with
  | lst xs =>
    obtain ⟨c, rfl⟩ := gd_inv hb
    obtain ⟨vs, a, n, rfl, ha, ma, ra⟩ := hv
    obtain ⟨h1, h2⟩ := hits (A := A) R.nodup hu hr ra c
    have e : vs.toArray.any (hitOf s.heap M x) = xs.any fun y => PV.eqv y x := (List.any_toArray ..).trans h1
    have h2 : ∀ y, y ∈ vs.toArray → EqAt A.in1 s y u (hitOf s.heap M x y) := fun y hy => h2 y (List.mem_toArray.mp hy)
    exact ⟨fun Q E q => in_listAt _ ha.isList h2 (by rw [e]; exact q s.toks), fun Q E q => notIn_listAt _ ha.isList h2 (by rw [e]; exact q s.toks)⟩
  | str d =>
    obtain ⟨c, hc, e⟩ := Option.bind_eq_some_iff.mp hb
    obtain ⟨t, rfl⟩ := asS_rv hc hu
    obtain ⟨t', rfl⟩ := hv
    have e := sgnIn_eq e
    exact ⟨fun Q E q => P.in_str (by rw [e]; exact q s.toks), fun Q E q => P.notIn_str (by rw [e]; exact q s.toks)⟩
  | cell k =>
    obtain ⟨kvs, hk, e⟩ := Option.bind_eq_some_iff.mp hb
    obtain ⟨q, hq, rfl⟩ := Option.map_eq_some_iff.mp e
    obtain ⟨a, rfl, ha⟩ := hv
    obtain ⟨_, us, hd, _, hn, hkk, ra⟩ := R.dat hk ha
    obtain ⟨b, rfl, hb, _⟩ := keyt_rv (prog := prog) (w := w) hq hu
    have e : (kvs.lookup q).isSome = (atKey us q).isSome := by
      have := dat_at hkk ra q
      cases hl : kvs.lookup q with
      | none => rw [hl] at this; rw [this]; rfl
      | some z => rw [hl] at this; obtain ⟨p, hp, _⟩ := this; rw [hp]; rfl
    rw [e]
    exact ⟨fun Q E q => wpAny_in_heap (tupleKind_room_in1 (by omega)) hb hn hd (q _), fun Q E q => wpAny_notIn_heap (tupleKind_room_in1 (by omega)) hb hn hd (q _)⟩
  | _ => exact nomatch hb

theorem cmpq_sound {x y : PV} {u v : Value} {b : Bool} (R : StR prog w base s.heap M σ) (hb : cmpq σ x y = some b) (hu : RV s.heap M x u) (hv : RV s.heap M y v) (hr : A.units + 2000 < cLine) : RcAt A s u v b ∧ RcNeAt A s u v (!b) := by
  unfold cmpq at hb
  cases hk : asC x with
  | none =>
    rw [hk] at hb
    obtain ⟨c, rfl⟩ := gd_inv hb
    have := may_sound R.nodup c hu hv (A := A) (by omega)
    exact ⟨this.rc, this.ne⟩
  | some k =>
    rw [hk] at hb
    obtain ⟨l, hl, hb⟩ := Option.bind_eq_some_iff.mp hb
    cases l with
    | cons => exact nomatch hb
    | nil =>
      obtain ⟨xs, hx, rfl⟩ := Option.map_eq_some_iff.mp hb
      obtain ⟨a, rfl, ha⟩ := asC_rv hk hu
      obtain ⟨_, vs, n, hl0, ra⟩ := R.lst hx ha
      obtain ⟨us, b, m, rfl, hb0, _, rb⟩ := asL_rv hl hv
      cases rb
      cases xs with
      | nil =>
        cases ra
        exact ⟨RcAt.lists (e := fun _ => true) hl0.isList hb0.isList rfl (by omega) (fun j j1 _ => absurd j1 (Nat.not_lt_zero _)), RcNeAt.lists (e := fun _ => true) hl0.isList hb0.isList rfl (by omega) (fun j j1 _ => absurd j1 (Nat.not_lt_zero _))⟩
      | cons =>
        obtain ⟨v, t, _, _⟩ := ra
        exact ⟨RcAt.lists_lengths hl0.isList hb0.isList rfl (by omega), RcNeAt.lists_lengths hl0.isList hb0.isList rfl (by omega)⟩
theorem ci_of {f : Int → Int → Bool} {x y : PV} {u v : Value} {b : Bool} (hb : ci f x y = some b) (hu : RV s.heap M x u) (hv : RV s.heap M y v) : ∃ i j t t', u = .int i t ∧ v = .int j t' ∧ b = f i j := by
  obtain ⟨i, hi, h⟩ := Option.bind_eq_some_iff.mp hb
  obtain ⟨j, hj, rfl⟩ := Option.map_eq_some_iff.mp h
  obtain ⟨t, rfl⟩ := asI_rv hi hu
  obtain ⟨t', rfl⟩ := asI_rv hj hv
  exact ⟨i, j, t, t', rfl, rfl, rfl⟩
theorem isN_rv {h : Heap} {x : PV} {v : Value} (r : RV h M x v) : isN x = true ∧ v = .none ∨ isN x = false ∧ v ≠ .none := by
  cases x with
  | none => exact .inl ⟨rfl, r⟩
  | bool => cases r; exact .inr ⟨rfl, fun e => nomatch e⟩
  | int => obtain ⟨t, rfl⟩ := r; exact .inr ⟨rfl, fun e => nomatch e⟩
  | str => obtain ⟨t, rfl⟩ := r; exact .inr ⟨rfl, fun e => nomatch e⟩
  | tup => obtain ⟨_, _, _, rfl, _⟩ := r; exact .inr ⟨rfl, fun e => nomatch e⟩
  | lst => obtain ⟨_, _, _, rfl, _⟩ := r; exact .inr ⟨rfl, fun e => nomatch e⟩
  | cell => obtain ⟨_, rfl, _⟩ := r; exact .inr ⟨rfl, fun e => nomatch e⟩
  | rng => obtain ⟨_, _, _, _, rfl, _⟩ := r; exact .inr ⟨rfl, fun e => nomatch e⟩
theorem cmp_sound {op : CmpOp} {x y : PV} {b : Bool} {u v : Value} {Q : Value → Shared → Prop} (R : StR prog w base s.heap M σ) (hb : cmpv σ op x y = some b) (hu : RV s.heap M x u) (hv : RV s.heap M y v)
    (hr : A.units + 2000 < cLine) (q : ∀ tk, Q (.bool b) { s with toks := tk }) : wpAny (model prog w) A (compareOp op u v) Q E s := by
  cases op with
  | Eq => exact (cmpq_sound R hb hu hv hr).1 prog w E Q (q s.toks)
  | NotEq => obtain ⟨b, hb', rfl⟩ := Option.map_eq_some_iff.mp hb; exact (cmpq_sound R hb' hu hv hr).2 prog w E Q (q s.toks)
  | Lt => obtain ⟨i, j, t, t', rfl, rfl, rfl⟩ := ci_of hb hu hv; exact P.lt_int (q s.toks)
  | LtE => obtain ⟨i, j, t, t', rfl, rfl, rfl⟩ := ci_of hb hu hv; exact P.le_int (q s.toks)
  | Gt => obtain ⟨i, j, t, t', rfl, rfl, rfl⟩ := ci_of hb hu hv; exact P.gt_int (q s.toks)
  | GtE => obtain ⟨i, j, t, t', rfl, rfl, rfl⟩ := ci_of hb hu hv; exact P.ge_int (q s.toks)
  | In => exact (in_sound R hb hu hv hr).i Q E q
  | NotIn => obtain ⟨b, hb', rfl⟩ := Option.map_eq_some_iff.mp hb; exact (in_sound R hb' hu hv hr).n Q E q
  | Is =>
    obtain ⟨c, rfl⟩ := gd_inv hb
    rcases isN_rv hv with ⟨_, rfl⟩ | ⟨c', _⟩
    · rcases isN_rv hu with ⟨e, rfl⟩ | ⟨e, hn⟩
      · rw [e] at q; exact wpAny_is_self rfl (q s.toks)
      · rw [e] at q; exact is_none_ne hn (q s.toks)
    · exact absurd (c.symm.trans c') (fun e => nomatch e)
  | _ => exact nomatch hb
end
end Mine
end
-- part Q6
section
open PySem PySem.W PyProof.Rows PySem.SeqAt
namespace Mine

section
variable {prog : Program} {w : World} {A : Around} {E : Value → Shared → Prop} {s : Shared} {M : Mem} {base : Heap} {σ : St}

theorem place_inv {n : Nat} {i : Int} {j : Nat} (h : place n i = some j) : i = (j : Int) ∧ j < n ∧ j < 1000000000 := by
  obtain ⟨c, rfl⟩ := gd_inv h
  have c := of_decide_eq_true c
  omega
theorem seq_place {n j : Nat} (h : j < n) : seqIndex? (j : Int) n = some j := by
  unfold seqIndex?; simp only [show ¬ (j : Int) < 0 by omega, if_false]; exact if_pos (by simp; omega)

/-- the two operands of a subscript, in whatever order they are let go -/
theorem subscripted_op (slice : PySem.Expr) (o i : Value) : ∃ ops, subscripted slice false o i = operate ops (getItem o i) := by
  cases slice <;> first | exact ⟨_, rfl⟩ | skip
  rename_i a b c p
  cases c <;> exact ⟨_, rfl⟩

theorem dct_at (h : Heap) : ∀ {kvs : List (Str × PV)} {us : List (Str × Value)}, us.map (·.1) = kvs.map (·.1) → RVs h M (kvs.map (·.2)) (us.map (·.2)) → ∀ {x : Str} {z : PV}, kvs.lookup x = some z → ∃ v, valueAt us x = some v ∧ RV h M z v
  | [], _, _, _, x, z, e => by cases e
  | _ :: _, [], hk, _, _, _, _ => by cases hk
  | (k, y) :: kvs, (k', v) :: us, hk, r, x, z, e => by
    obtain ⟨_, _, hv, ht⟩ := r
    simp only [List.map_cons, List.cons.injEq] at hk
    obtain ⟨rfl, hk⟩ := hk
    unfold valueAt
    rw [List.find?_cons]
    rw [List.lookup_cons] at e
    by_cases hx : k' = x
    · subst hx
      rw [beq_self_eq_true] at e
      cases e
      rw [decide_eq_true rfl]
      exact ⟨v, rfl, hv⟩
    · rw [beq_eq_false_iff_ne.mpr (Ne.symm hx)] at e
      rw [decide_eq_false hx]
      exact dct_at h hk ht e

theorem itemI_inv {xs : List PV} {vs : List Value} {y z : PV} {i : Value} (he : itemI xs y = some z) (hi : RV s.heap M y i) (ra : RVs s.heap M xs vs) :
    ∃ (j : Nat) (t : Tok) (v : Value), i = .int j t ∧ (j < vs.toArray.size ∧ j < 1000000000) ∧ vs.toArray[j]? = some v ∧ RV s.heap M z v := by
  obtain ⟨k, hk, he⟩ := Option.bind_eq_some_iff.mp he
  obtain ⟨t, rfl⟩ := asI_rv hk hi
  obtain ⟨j, hj, hz⟩ := Option.bind_eq_some_iff.mp he
  obtain ⟨rfl, hl⟩ := place_inv hj
  obtain ⟨v, hv, rv⟩ := ra.get hz
  exact ⟨j, t, v, rfl, ⟨by rw [List.size_toArray, ← ra.length]; exact hl.1, hl.2⟩, (List.getElem?_toArray ..).trans hv, rv⟩
theorem item_list {xs : List PV} {a : Addr} {vs : List Value} {n : Nat} {y z : PV} {i : Value} {Q : Value → Shared → Prop} (he : itemI xs y = some z) (hi : RV s.heap M y i) (ha : IsL s.heap a vs.toArray n) (ra : RVs s.heap M xs vs) (r : RetP s M z Q) :
    wpAny (model prog w) A (getItem (.ref a) i) Q E s := by
  obtain ⟨j, t, v, rfl, hl, hv, rv⟩ := itemI_inv he hi ra
  exact wpAny_getItem_list ha.isList (by omega) (by omega) hv (r.here' rv)
theorem item_sound {x y z : PV} {o i : Value} {value slice : PySem.Expr} {Q : Value → Shared → Prop} (hr : A.units + 2000 < cLine) (R : StR prog w base s.heap M σ) (he : item σ x y = some z) (ho : RV s.heap M x o) (hi : RV s.heap M y i)
    (r : RetP s M z Q) : wpAny (model prog w) A (subscriptTail value slice o i) Q E s := by
  obtain ⟨ops, hs⟩ := subscripted_op slice o i
  cases x with
  | tup xs =>
    obtain ⟨vs, a, n, rfl, ha, ma, ra⟩ := ho
    obtain ⟨j, t, v, rfl, hl, hv, rv⟩ := itemI_inv he hi ra
    exact tail_any (T := "tuple") ⟨_, ha, rfl⟩ F.slot_tuple_getitem.lookup (P.getItem_tuple ha (by omega) (by omega) (k := j) (seq_place hl.1) hv (r.here' rv)) hs
  | lst xs =>
    obtain ⟨vs, a, n, rfl, ha, ma, ra⟩ := ho
    exact tail_any (T := "list") ha.isList.typeIs slot_list_getitem.lookup (item_list he hi ha ra r) hs
  | cell k =>
    obtain ⟨a, rfl, e⟩ := ho
    dsimp only [item] at he
    cases hk : σ[k]? with
    | none => rw [hk] at he; exact nomatch he
    | some c =>
      rw [hk] at he
      have hc := R.at_ _ _ a hk e
      cases c with
      | lst xs =>
        obtain ⟨vs, n, ha, ra⟩ := hc
        exact tail_any (T := "list") ha.isList.typeIs slot_list_getitem.lookup (item_list he hi ha ra r) hs
      | dct kvs =>
        obtain ⟨x, hx, he⟩ := Option.bind_eq_some_iff.mp he
        obtain ⟨t, rfl⟩ := asS_rv hx hi
        obtain ⟨us, hd, hkk, ra⟩ := hc
        obtain ⟨v, hv, rv⟩ := dct_at s.heap hkk ra he
        exact tail_any (T := "dict") hd.typeIs slot_dict_getitem.lookup (wpAny_getItem_of (PySem.strKind_is prog w _ _) hd.mapOf hv (r.here _ rv)) hs
      | dat kvs =>
        obtain ⟨q, hq, he⟩ := Option.bind_eq_some_iff.mp he
        obtain ⟨us, hd, _, hn, hkk, ra⟩ := hc
        obtain ⟨b, rfl, hb, _⟩ := keyt_rv (prog := prog) (w := w) hq hi
        have h1 := dat_at hkk ra q
        rw [show kvs.lookup q = some z from he] at h1
        obtain ⟨p, hp, rv⟩ := h1
        exact tail_any (T := "dict") hd.typeIs slot_dict_getitem.lookup (wpAny_getItem_heap (tupleKind_room_in1 (by omega)) hb hd hp (r.here _ rv)) hs
      | tbl => exact nomatch he
  | str x =>
    obtain ⟨t, rfl⟩ := ho
    obtain ⟨i, hi', he⟩ := Option.bind_eq_some_iff.mp he
    obtain ⟨t', rfl⟩ := asI_rv hi' hi
    obtain ⟨j, hj, hz⟩ := Option.bind_eq_some_iff.mp he
    obtain ⟨c, hc, rfl⟩ := Option.map_eq_some_iff.mp hz
    obtain ⟨rfl, hl⟩ := place_inv hj
    refine tail_any (T := "str") (typeIs_str _ _ _) F.slot_str_getitem.lookup (P.getItem_str (c := c) (by simp; omega) ?_ (r.here _ (.str _ _))) hs
    show (seqIndex? (j : Int) x.cps.size).bind _ = _
    rw [seq_place hl.1]
    exact hc
  | _ => exact nomatch he

-- cuts
noncomputable def lo_ (n : Nat) (lo : Option Int) : Nat := lo.elim 0 (clipAt n)
noncomputable def hi_ (n : Nat) (hi : Option Int) : Nat := hi.elim n (clipAt n)
noncomputable def cutL {α : Type} (xs : List α) (n : Nat) (lo hi : Option Int) : List α := (xs.drop (lo_ n lo)).take (hi_ n hi - lo_ n lo)
theorem clip_le (n : Nat) (i : Int) : clipAt n i ≤ n := by have := clipAt_cast n i; omega
theorem hi_le (n : Nat) (hi : Option Int) : hi_ n hi ≤ n := by cases hi; exact Nat.le_refl _; exact clip_le _ _
theorem cutL_le {α : Type} (xs : List α) (n : Nat) (lo hi : Option Int) : (cutL xs n lo hi).length ≤ n :=
  Nat.le_trans (List.length_take_le ..) (Nat.le_trans (Nat.sub_le ..) (hi_le n hi))
theorem cutL_full {α : Type} {xs : List α} {n : Nat} {lo hi : Option Int} (h1 : lo_ n lo = 0) (h2 : hi_ n hi = n) (hn : xs.length ≤ n) : cutL xs n lo hi = xs := by
  unfold cutL
  rw [h1, h2]
  exact List.take_of_length_le hn
theorem cutL_from {α : Type} (xs : List α) (i : Nat) : cutL xs xs.length (some i) none = xs.drop i := by
  show (xs.drop (clipAt xs.length i)).take (xs.length - clipAt xs.length i) = _
  rw [clipAt_nat, List.take_of_length_le (by rw [List.length_drop]; exact Nat.le_refl _)]
  by_cases h : i ≤ xs.length
  · rw [Nat.min_eq_left h]
  · have h := Nat.le_of_not_le h
    rw [Nat.min_eq_right h, List.drop_length, List.drop_of_length_le h]
theorem cutL_to {α : Type} (xs : List α) (i : Nat) : cutL xs xs.length none (some i) = xs.take i := by
  show xs.take (clipAt xs.length i) = _
  rw [clipAt_nat]; exact (List.take_eq_take_min ..).symm
theorem RVs.cut {xs : List PV} {vs : List Value} {h : Heap} (n : Nat) (lo hi : Option Int) (r : RVs h M xs vs) : RVs h M (cutL xs n lo hi) (cutL vs n lo hi) := (r.drop _).take _

theorem part_any {v : Value} {k : Option Int} {Q : Option Int → Shared → Prop} (hv : IsPart v k) (h : Q k s) : wpAny (model prog w) A (Builtin.Slice.slicePartIndex v) Q E s := by
  cases hv with
  | none => exact slicePart_none h
  | int i t => exact slicePart_int h
theorem adjust_any (lo hi : Option Int) (n : Nat) : Builtin.Slice.sliceAdjust lo hi 1 (n : Int) = ((lo_ n lo : Int), (hi_ n hi : Int)) := by
  have cl : ∀ v : Int, (if v < 0 then max (v + n) 0 else min v n) = ((clipAt n v : Nat) : Int) := fun v => by rw [clipAt_cast]; split <;> omega
  unfold Builtin.Slice.sliceAdjust
  cases lo <;> cases hi <;> simp [cl, lo_, hi_]
theorem places_any (a b : Nat) : Builtin.Slice.slicePlaces (a : Int) (b : Int) 1 = b - a := by
  unfold Builtin.Slice.slicePlaces
  rw [if_pos (by decide), Int.ediv_one]
  split <;> omega
theorem applied_any {sl : Addr} {n : Nat} {vl vu : Value} {lo hi : Option Int} {Q : Int × Int × Nat → Shared → Prop} (hs : s.heap.IsSliceOf sl vl vu .none) (pl : IsPart vl lo) (pu : IsPart vu hi)
    (h : Q ((lo_ n lo : Int), 1, hi_ n hi - lo_ n lo) s) :
    wpAny (model prog w) A (Builtin.Slice.sliceApplied (.ref sl) (pure (n : Int))) Q E s := by
  obtain ⟨os, hos, hcs, hds⟩ := id hs
  unfold Builtin.Slice.sliceApplied Builtin.Slice.sliceFields
  refine wpAny_bind (wpAny_bind (wpAny_field hos hds (x := vl) rfl (wpAny_bind (wpAny_field hos hds (x := vu) rfl (wpAny_bind (wpAny_field hos hds (x := .none) rfl (wpAny_pure ?_)))))))
  refine wpAny_bind (slicePart_none ?_)
  show wpAny _ _ (if ((1 : Int) == 0) = true then _ else _) _ _ s
  rw [if_neg (by decide)]
  refine wpAny_bind (part_any pl (wpAny_bind (part_any pu (wpAny_bind (wpAny_pure ?_)))))
  show wpAny _ _ (match Builtin.Slice.sliceAdjust lo hi 1 (n : Int) with | (lo, hi) => pure (lo, (1 : Int), Builtin.Slice.slicePlaces lo hi 1)) _ _ s
  rw [adjust_any lo hi n]
  show wpAny _ _ (pure ((lo_ n lo : Int), (1 : Int), Builtin.Slice.slicePlaces (lo_ n lo : Int) (hi_ n hi : Int) 1)) _ _ s
  rw [places_any]
  exact wpAny_pure h
theorem pick_any {α : Type} (xs : Array α) (a k : Nat) : ((List.range k).filterMap fun (j : Nat) => xs[((a : Int) + (j : Int) * 1).toNat]?) = (xs.toList.drop a).take k := by
  have e : (fun (j : Nat) => xs[((a : Int) + (j : Int) * 1).toNat]?) = fun j => xs[a + j]? := by
    funext j
    rw [show ((a : Int) + (j : Int) * 1).toNat = a + j by omega]
  have := pick_run xs a k
  rw [List.filterMap_map] at this
  rw [e]
  exact this

theorem getItem_tuple_cut {t sl : Addr} {items : Array Value} {vl vu : Value} {lo hi : Option Int} {Q : Value → Shared → Prop} (ht : IsTup s.heap t items) (hs : s.heap.IsSliceOf sl vl vu .none) (pl : IsPart vl lo) (pu : IsPart vu hi)
    (h1 : lo_ items.size lo = 0 → hi_ items.size hi = items.size → Q (.ref t) s)
    (h : Q (.ref s.heap.objs.size) { s with heap := s.heap.push { cls := .type "tuple", data := .seq (cutL items.toList items.size lo hi).toArray } })
    (hsz : items.size ≤ sizeLine) : wpAny (model prog w) A (getItem (.ref t) (.ref sl)) Q E s := by
  have hdrop : sizeOk (.seq (cutL items.toList items.size lo hi).toArray) := Nat.le_trans (cutL_le ..) hsz
  obtain ⟨os, hos, hcs, hds⟩ := id hs
  have hTs : s.TypeIs (.ref sl) "slice" := ⟨os, hos, hcs⟩
  unfold getItem
  refine wpAny_holding (wpAny_bind (wpAny_sequenceKey ht.typeIs (by decide) ?_))
  refine wpAny_bind (wpAny_callSpecial?_slot (name := Str.ofString "__getitem__") ht.typeIs slot_tuple_getitem
    (wpAny_call_entry slot_tuple_getitem ht.typeIs entry_tuple_getitem ?_ (args_tuple_getitem _ _)))
  show wpAny _ _ (Builtin.Tuple.tupleItemsOf (.ref t) >>= _) _ _ s
  refine wpAny_bind (tupleItemsOf_ ht ?_)
  refine wpAny_bind (wpAny_typeOf hTs ?_)
  rw [if_pos (by decide)]
  refine wpAny_bind (applied_any hs pl pu ?_)
  show wpAny _ _ (if ((lo_ items.size lo : Int) == 0 && (1 : Int) == 1 && (hi_ items.size hi - lo_ items.size lo) == items.size) = true then _ else _) _ _ s
  have hb := hi_le items.size hi
  by_cases hw : ((lo_ items.size lo : Int) == 0 && (1 : Int) == 1 && (hi_ items.size hi - lo_ items.size lo) == items.size) = true
  · rw [if_pos hw]
    simp only [Bool.and_eq_true, beq_iff_eq] at hw
    have hq := h1 (by omega) (by omega)
    unfold Builtin.Tuple.tupleIsExact
    refine wpAny_bind (wpAny_bind (wpAny_typeOf ht.typeIs (wpAny_pure ?_)))
    rw [if_pos (by decide)]
    exact wpAny_bind (wpAny_rule (wpAny_pure ⟨_, rfl, wpAny_pure hq⟩))
  · rw [if_neg hw, pick_any items (lo_ items.size lo) (hi_ items.size hi - lo_ items.size lo)]
    first
      | exact wpAny_bind (m := Builtin.Tuple.tupleExact _) (wpAny_newObj_type (wpAny_pure ⟨_, rfl, wpAny_pure h⟩) hdrop)
      | exact wpAny_bind (m := Builtin.Tuple.tupleExact _) (wpAny_newObj_type (wpAny_bind (wpAny_pure (wpAny_pure ⟨_, rfl, wpAny_pure h⟩))) hdrop)
      | exact wpAny_bind (wpAny_bind (m := Builtin.Tuple.tupleExact _) (wpAny_newObj_type (wpAny_pure (wpAny_pure ⟨_, rfl, wpAny_pure h⟩)) hdrop))
      | exact wpAny_bind (wpAny_bind (m := Builtin.Tuple.tupleExact _) (wpAny_newObj_type (wpAny_pure ⟨_, rfl, wpAny_pure h⟩) hdrop))

theorem strIdx_plain (lo hi : Option Int) (n : Nat) : Builtin.Str.strSliceIndices lo hi 1 n = (List.range (hi_ n hi - lo_ n lo)).map (lo_ n lo + ·) := by
  rw [← sliceRange_one]
  unfold Builtin.Str.strSliceIndices
  cases lo <;> cases hi <;> simp [clipAt_cast, lo_, hi_]
theorem isPart_pv {v : Value} {k : Option Int} (h : IsPart v k) : ∃ p, v = PySem.partValue p ∧ p.map (·.1) = k := by
  cases h with
  | none => exact ⟨none, rfl, rfl⟩
  | int i t => exact ⟨some (i, t), rfl, rfl⟩

/-- a cut of a pure value -/
noncomputable def cutv (x : PV) (lo hi : Option Int) : Option PV := match x with
  | .tup xs => gd (small xs.length) (.tup (cutL xs xs.length lo hi))
  | .lst xs => gd (small xs.length) (.lst (cutL xs xs.length lo hi))
  | .str x => gd (small x.length) (.str ⟨(cutL x.cps.toList x.cps.size lo hi).toArray⟩)
  | _ => none
theorem cut_sound {x z : PV} {o vl vu : Value} {lo hi : Option Int} {value slice : PySem.Expr} {Q : Value → Shared → Prop} (hM : Live s.heap M) (pl : IsPart vl lo) (pu : IsPart vu hi) (he : cutv x lo hi = some z) (ho : RV s.heap M x o)
    (r : RetP s M z Q) : wpAny (model prog w) A (subscriptTail value slice o (.ref s.heap.objs.size)) Q E { s with heap := s.heap.push { cls := .type "slice", data := .fields #[vl, vu, .none] } } := by
  obtain ⟨ops, hs⟩ := subscripted_op slice o (.ref s.heap.objs.size)
  have hsl : (s.heap.push { cls := .type "slice", data := .fields #[vl, vu, .none] }).IsSliceOf s.heap.objs.size vl vu .none := Heap.IsSliceOf.new ..
  have r' : RetP { s with heap := s.heap.push { cls := .type "slice", data := .fields #[vl, vu, .none] } } M z Q := fun v h' tk k hv =>
    r v h' tk (fun a o e => k a o (Heap.get?_push_of_some _ e)) hv
  have ho' := ho.keep (keeps_push s.heap { cls := .type "slice", data := .fields #[vl, vu, .none] } M)
  have hM' : Live (s.heap.push { cls := .type "slice", data := .fields #[vl, vu, .none] }) M := fun a m => by obtain ⟨o, e⟩ := hM a m; exact ⟨o, Heap.get?_push_of_some _ e⟩
  generalize hS : ({ s with heap := s.heap.push { cls := .type "slice", data := .fields #[vl, vu, .none] } } : Shared) = S at r'
  have hH : s.heap.push { cls := .type "slice", data := .fields #[vl, vu, .none] } = S.heap := by rw [← hS]
  rw [hH] at hsl ho' hM'
  clear hS hH r ho hM
  have line : ∀ {n : Nat}, small n = true → n ≤ sizeLine := fun c => by have := of_decide_eq_true c; rw [sizeLine_eq]; omega
  cases x with
  | tup xs =>
    obtain ⟨c, rfl⟩ := gd_inv he
    obtain ⟨vs, a, n, rfl, ha, ma, ra⟩ := ho'
    rw [ra.length] at c r'
    refine tail_any (T := "tuple") ⟨_, ha, rfl⟩ F.slot_tuple_getitem.lookup (getItem_tuple_cut (lo := lo) (hi := hi) ⟨_, ha, rfl, n, rfl⟩ hsl pl pu (fun e1 e2 => r'.here' ?_) (r'.newTup hM' rfl (ra.cut _ _ _) _) (line c)) hs
    rw [show cutL xs vs.length lo hi = xs from cutL_full e1 e2 (Nat.le_of_eq ra.length)]
    exact .tup xs vs a n ha ma ra
  | lst xs =>
    obtain ⟨c, rfl⟩ := gd_inv he
    obtain ⟨vs, a, n, rfl, ha, ma, ra⟩ := ho'
    rw [ra.length] at c r'
    refine tail_any (T := "list") ha.isList.typeIs slot_list_getitem.lookup (wpAny_getItem_list_slice ha.isList hsl pl pu .none (fun q => nomatch q) ?_ (line c)) hs
    exact r'.newLst hM' (slicePick_plain ..) (ra.cut vs.length lo hi) _
  | str y =>
    obtain ⟨c, rfl⟩ := gd_inv he
    obtain ⟨t, rfl⟩ := ho'
    obtain ⟨p, rfl, hp⟩ := isPart_pv pl
    obtain ⟨p', rfl, hp'⟩ := isPart_pv pu
    refine tail_any (T := "str") (typeIs_str _ _ _) F.slot_str_getitem.lookup (wpAny_getItem_str_slice (l := p) (u := p') (st := none) (let ⟨os, a, b, c⟩ := hsl; ⟨os, a, b, c⟩) rfl ?_) hs
    unfold sliceMade slicePicked
    rw [hp, hp']
    show (if ((1 : Int) == 1 && (Builtin.Str.strSliceIndices lo hi 1 y.length).length == y.length) = true then Made.val (.str y t) else Made.str ⟨((Builtin.Str.strSliceIndices lo hi 1 y.length).filterMap (y.cps[·]?)).toArray⟩).post Q S
    rw [strIdx_plain, pick_run]
    have h2 := hi_le y.cps.size hi
    split
    · rename_i q
      rw [List.length_map, List.length_range] at q
      have q := beq_iff_eq.mp (Bool.and_eq_true_iff.mp q).2
      refine r'.here' ?_
      have hf : cutL y.cps.toList y.cps.size lo hi = y.cps.toList := by
        rcases Nat.eq_zero_or_pos y.cps.size with e0 | e0
        · have : y.cps.toList = [] := List.length_eq_zero_iff.mp (Array.length_toList.trans e0)
          unfold cutL; rw [this, List.drop_nil, List.take_nil]
        · have q : hi_ y.cps.size hi - lo_ y.cps.size lo = y.cps.size := q
          exact cutL_full (by omega) (by omega) (Nat.le_of_eq Array.length_toList)
      rw [hf]
      exact .str _ _
    · exact ⟨Nat.le_trans (cutL_le ..) (line c), r'.here _ (.str _ _)⟩
  | _ => exact nomatch he
theorem fromAt_cut {x y z : PV} (h : fromAt x y = some z) : ∃ i, asI y = some i ∧ cutv x (some i) none = some z := by
  obtain ⟨i, hi, h⟩ := Option.bind_eq_some_iff.mp h
  obtain ⟨n, hn, h⟩ := Option.bind_eq_some_iff.mp h
  obtain ⟨c, rfl⟩ := gd_inv hn
  have c : ((i.toNat : Nat) : Int) = i := Int.toNat_of_nonneg (of_decide_eq_true c)
  refine ⟨i, hi, ?_⟩
  rw [← c]
  cases x with
  | tup xs => exact (congrArg (fun l => gd (small xs.length) (PV.tup l)) (cutL_from xs _)).trans h
  | str x => exact (congrArg (fun l => gd (small x.length) (PV.str ⟨List.toArray l⟩)) (cutL_from x.cps.toList _)).trans h
  | _ => exact nomatch h
theorem upTo_cut {x y z : PV} (h : upTo x y = some z) : ∃ i, asI y = some i ∧ cutv x none (some i) = some z := by
  obtain ⟨i, hi, h⟩ := Option.bind_eq_some_iff.mp h
  obtain ⟨n, hn, h⟩ := Option.bind_eq_some_iff.mp h
  obtain ⟨c, rfl⟩ := gd_inv hn
  have c : ((i.toNat : Nat) : Int) = i := Int.toNat_of_nonneg (of_decide_eq_true c)
  refine ⟨i, hi, ?_⟩
  rw [← c]
  cases x with
  | tup xs => exact (congrArg (fun l => gd (small xs.length) (PV.tup l)) (cutL_to xs _)).trans h
  | lst xs => exact (congrArg (fun l => gd (small xs.length) (PV.lst l)) (cutL_to xs _)).trans h
  | str x => exact (congrArg (fun l => gd (small x.length) (PV.str ⟨List.toArray l⟩)) (cutL_to x.cps.toList _)).trans h
  | _ => exact nomatch h
end
end Mine
end
-- part Q7
section
open PySem PySem.W PyProof.Rows PySem.SeqAt
namespace Mine

/-- the value of a built-in's name -/
noncomputable def B.val : B → Value
  | .len => .builtin "len" | .tuple => .type "tuple" | .int => .type "int" | .str => .type "str" | .range => .type "range" | .enumerate => .type "enumerate" | .dict => .type "dict" | .sorted => .builtin "sorted"
noncomputable def B.nm : B → Str
  | .len => "len" | .tuple => "tuple" | .int => "int" | .str => "str" | .range => "range" | .enumerate => "enumerate" | .dict => "dict" | .sorted => "sorted"

theorem log2_small {i : Int} (h : 0 ≤ i ∧ i < 10 ^ 9) : i.natAbs.log2 < 64 := by
  rcases Nat.eq_zero_or_pos i.natAbs with h0 | hp
  · rw [h0]; decide
  · exact (Nat.log2_lt (Nat.ne_of_gt hp)).mpr (by omega)
section
variable {prog : Program} {w : World} {A : Around} {E : Value → Shared → Prop} {s : Shared} {M : Mem} {base : Heap} {σ : St}

theorem len_list {n : Nat} {a : Addr} {vs : List Value} {m : Nat} {Q : Value → Shared → Prop} (c : n ≤ 1000000) (ha : IsL s.heap a vs.toArray m) (hl : n = vs.length) (r : RetP s M (.int n) Q) : wpAny (model prog w) A (call (.builtin "len") [.ref a]) Q E s := by
  subst hl
  refine Calls.call_len_list ha.isList (by rw [List.size_toArray]; omega) ?_
  rw [List.size_toArray]
  exact r.here _ (.int _ _)
theorem blt_sound {b : B} {x z : PV} {v : Value} {Q : Value → Shared → Prop} (R : StR prog w base s.heap M σ) (he : blt σ b x = some z) (hv : RV s.heap M x v) (r : RetP s M z Q) :
    wpAny (model prog w) A (call b.val [v]) Q E s := by
  cases b with
  | len =>
    obtain ⟨n, hn, he⟩ := Option.bind_eq_some_iff.mp he
    obtain ⟨c, rfl⟩ := gd_inv he
    have c := of_decide_eq_true c
    cases x with
    | tup xs =>
      obtain ⟨vs, a, m, rfl, ha, ma, ra⟩ := hv
      cases hn
      have hl := ra.length
      refine P.len_tuple ha (by rw [List.size_toArray]; omega) ?_
      rw [List.size_toArray, ← hl]
      exact r.here _ (.int _ _)
    | lst xs =>
      obtain ⟨vs, a, m, rfl, ha, ma, ra⟩ := hv
      cases hn
      exact len_list c ha ra.length r
    | cell k =>
      obtain ⟨a, rfl, e⟩ := hv
      obtain ⟨xs, hx, rfl⟩ := Option.map_eq_some_iff.mp hn
      obtain ⟨_, vs, m, ha, ra⟩ := R.lst hx e
      exact len_list c ha ra.length r
    | str y =>
      obtain ⟨t, rfl⟩ := hv
      cases hn
      exact P.len_str (by omega) (r.here _ (.int _ _))
    | _ => exact nomatch hn
  | tuple =>
    obtain ⟨xs, hx, he⟩ := Option.bind_eq_some_iff.mp he
    obtain ⟨c, rfl⟩ := gd_inv he
    have c := of_decide_eq_true c
    obtain ⟨vs, a, n, rfl, ha, ma, ra⟩ := asL_rv hx hv
    have hl := ra.length
    refine call_tuple_list ha.isList (fun h' hk => ?_) (by rw [sizeLine_eq, List.size_toArray]; omega)
    refine r _ _ s.toks (fun a o e => Heap.get?_push_of_some _ (hk a o e)) ?_
    refine .tup _ vs _ 0 (IsT.new h' _) (fun m => ?_) (ra.keep (keeps_all M fun a o e => Heap.get?_push_of_some _ (hk a o e)))
    obtain ⟨o, e⟩ := R.live _ m
    exact Nat.lt_irrefl _ (Heap.lt_size (hk _ _ e))
  | int =>
    obtain ⟨n, hn, rfl⟩ := Option.map_eq_some_iff.mp he
    cases x with
    | int i => cases hn; obtain ⟨t, rfl⟩ := hv; exact call_int_int (r.here' (.int _ _))
    | str y =>
      obtain ⟨_, hc, hn⟩ := Option.bind_eq_some_iff.mp hn
      obtain ⟨c, rfl⟩ := gd_inv hc
      obtain ⟨t, rfl⟩ := hv
      exact KIN.call_text hn (of_decide_eq_true c) (r.here _ (.int _ _))
    | _ => exact nomatch hn
  | str =>
    obtain ⟨i, hi, he⟩ := Option.bind_eq_some_iff.mp he
    obtain ⟨c, rfl⟩ := gd_inv he
    have c := of_decide_eq_true c
    obtain ⟨t, rfl⟩ := asI_rv hi hv
    exact P.str_of_int (by have := log2_small c; omega) (r.here _ (.str _ _))
  | range =>
    obtain ⟨n, hn, he⟩ := Option.bind_eq_some_iff.mp he
    obtain ⟨c, rfl⟩ := gd_inv he
    have c := of_decide_eq_true c
    obtain ⟨t, rfl⟩ := asI_rv hn hv
    refine call_range_1 ?_
    refine r _ _ _ (fun a o e => Heap.get?_push_of_some _ e) ?_
    exact .rng _ _ _ t _ (by rw [Int.toNat_of_nonneg c.1]; exact IsRange.new s.heap 0 n 1 _ _ _) (R.live.fresh (get_size _))
  | _ => exact nomatch he
end
end Mine
end
-- part Q8
section
open PySem PySem.W PyProof.Rows PySem.SeqAt
namespace Mine

/-- an exception of the text's own in flight, new since h₀: its entries, if it has any -/
inductive Tb (h₀ h : Heap) (M : Mem) (e : Addr) (vs : Array Value) : Prop
  | mk (T : Addr) (oT : Obj) (ts : Array Value) (h1 : vs[1]? = some (.ref T)) (h2 : T ≠ e) (h3 : h₀.get? T = none) (h4 : T ∉ M) (h5 : h.get? T = some oT) (h6 : oT.cls = .type "traceback") (h7 : oT.data = .fields ts) (h8 : 3 < ts.size)
inductive Thrown (cls : Value) (h₀ h : Heap) (M : Mem) (e : Addr) : Prop
  | mk (oe : Obj) (vs : Array Value) (h1 : h.get? e = some oe) (h2 : oe.cls = cls) (h3 : oe.data = .fields vs) (h4 : 1 < vs.size) (h5 : h₀.get? e = none) (h6 : e ∉ M) (h7 : vs[1]? = some .none ∨ Tb h₀ h M e vs)
/-- the same, with an entry -/
inductive Noted (cls : Value) (h₀ h : Heap) (M : Mem) (e : Addr) : Prop
  | mk (oe : Obj) (vs : Array Value) (h1 : h.get? e = some oe) (h2 : oe.cls = cls) (h3 : oe.data = .fields vs) (h4 : 1 < vs.size) (h5 : h₀.get? e = none) (h6 : e ∉ M) (h7 : Tb h₀ h M e vs)
theorem Noted.thrown {cls : Value} {h₀ h : Heap} {M : Mem} {e : Addr} (x : Noted cls h₀ h M e) : Thrown cls h₀ h M e := by
  obtain ⟨oe, vs, a, b, c, d, f, g, q⟩ := x
  exact ⟨oe, vs, a, b, c, d, f, g, .inr q⟩

/-- what a text's world is: the heap at the start (without what turns), the names -/
structure GT where
  base : Heap
  fns : List (Str × Addr)
  gst : List (Str × Str)
  tf : Addr

structure Glo (G : GT) (mg mb : Str → Option Value) : Prop where
  g : G.base.Ns mainGlobals mg
  b : G.base.Ns builtinsNs mb
  lim : G.base.NoLimit
  fn : ∀ (f : Nat) (x : Str) (a : Addr), G.fns[f]? = some (x, a) → mg x = some (.ref a)
  fo : ∀ (f : Nat) (x : Str) (a : Addr), G.fns[f]? = some (x, a) → ∃ o fd, G.base.get? a = some o ∧ o.data = .func fd
  st : ∀ x v, (x, v) ∈ G.gst → ∃ t, mg x = some (.str v t)
  bt : ∀ b : B, mg b.nm = none ∧ mb b.nm = some b.val
  exc : mg "TermFault" = some (.ref G.tf)
  lc : CodeHd G.base lamC lamP
  lb : G.base.BuiltinsAt mg lamP

/-- what stands of a frame's names, whatever the heap -/
structure EnvS (env : Env) (tab : List Str) : Prop where
  kind : env.scope.kind = .function
  glob : env.globals = mainGlobals
  bti : env.builtins = builtinsNs
  kinds : ∀ (i : Nat) (x : Str), tab[i]? = some x → env.kindOf x = some .local ∨ env.kindOf x = some .cell
  inj : ∀ x y c, env.cells.lookup x = some c → env.cells.lookup y = some c → x = y
  nd : tab.Nodup
  dbg : ∀ x ∈ tab, (x == ("__debug__" : Str)) = false
  lam : tab = lamTab → env.code = .ref lamC ∧ env.qual = lamQual
inductive NsR (h : Heap) (M : Mem) (env : Env) (tab : List Str) (ρ : Vars) : Prop
  | mk (m : Str → Option Value) (hn : h.Ns env.locals m) (hv : ∀ (i : Nat) (x : Str), tab[i]? = some x → env.kindOf x = some .local → ∀ z, vget ρ i = some z → ∃ v, m x = some v ∧ RV h M z v)
inductive CelR (h : Heap) (M : Mem) (env : Env) (x : Str) (o : Option PV) : Prop
  | mk (c : Addr) (ov : Option Value) (hc : env.cells.lookup x = some c) (nM : c ∉ M) (is : h.IsCell c ov) (hv : ∀ z, o = some z → ∃ v, ov = some v ∧ RV h M z v)
structure EnvR (h : Heap) (M : Mem) (env : Env) (tab : List Str) (ρ : Vars) : Prop where
  st : EnvS env tab
  ns : NsR h M env tab ρ
  cel : ∀ (i : Nat) (x : Str), tab[i]? = some x → env.kindOf x = some .cell → CelR h M env x (vget ρ i)
  locM : env.locals ∉ M

/-- the frames' room -/
structure Ar (A : Around) (stack : List Env) (d : Nat) : Prop where
  hnd : A.handled = none
  frames : A.frames = some stack
  room : A.depth + d < recursionLimit
  units : A.units + 8 * d + 2100 < cLine

structure Cx (prog : Program) (w : World) (base : Heap) (stack : List Env) (env : Env) (tab : List Str) (ρ : Vars) (h : Heap) (M : Mem) (σ : St) : Prop where
  stay : base.StaysIn h
  ff : FF h base M stack
  er : EnvR h M env tab ρ
  str : StR prog w base h M σ
  fr : ∃ env₀ outer, stack = env₀ :: outer ∧ env.frame = env₀.frame

section
variable {prog : Program} {w : World} {base : Heap} {stack : List Env} {env : Env} {tab : List Str} {ρ : Vars} {h h' : Heap} {M M' : Mem} {σ σ' : St}

theorem ns_same {a : Addr} {m : Str → Option Value} (hn : h.Ns a m) (e : ∀ o, h.get? a = some o → ∃ o', h'.get? a = some o' ∧ Same o o') : h'.Ns a m := by
  obtain ⟨o, es, ep, ho, hd, r⟩ := hn
  obtain ⟨o', ho', s⟩ := e o ho
  exact ⟨o', es, ep, ho', s.data.trans hd, r⟩
/-- what a frame owns -/
noncomputable def Owns (env : Env) (tab : List Str) (a : Addr) : Prop := a = env.locals ∨ ∃ x ∈ tab, env.kindOf x = some .cell ∧ env.cells.lookup x = some a
theorem EnvR.own (x : EnvR h M env tab ρ) {a : Addr} (ha : Owns env tab a) : ∃ o, h.get? a = some o ∧ a ∉ M ∧ ¬ SeqLike o ∧ ∀ vs, o.data ≠ .fields vs := by
  rcases ha with rfl | ⟨y, hy, hk, e⟩
  · obtain ⟨m, ⟨o, es, ep, ho, hd, _⟩, _⟩ := x.ns
    exact ⟨o, ho, x.locM, not_seqLike_dict hd, fun vs q => by rw [hd] at q; cases q⟩
  · obtain ⟨i, hi⟩ := List.getElem?_of_mem hy
    obtain ⟨c, ov, e1, nM, ⟨o, ho, hd⟩, _⟩ := x.cel i y hi hk
    rw [e] at e1; cases e1
    exact ⟨o, ho, nM, not_seqLike_cell hd, fun vs q => by rw [hd] at q; cases q⟩
/-- the frame's own stand -/
theorem EnvR.move (x : EnvR h M env tab ρ) (K : Keeps2 h M h' M') (f : ∀ a, Owns env tab a → ∀ o, h.get? a = some o → a ∉ M → a ∉ M' ∧ ∃ o', h'.get? a = some o' ∧ Same o o') : EnvR h' M' env tab ρ := by
  obtain ⟨m, hn, hv⟩ := x.ns
  obtain ⟨o, es, ep, ho, hr⟩ := id hn
  refine ⟨x.st, ⟨m, ns_same hn fun o e => (f _ (.inl rfl) o e x.locM).2, fun i y hy hk z hz => ?_⟩, fun i y hy hk => ?_, (f _ (.inl rfl) o ho x.locM).1⟩
  · obtain ⟨v, e, r⟩ := hv i y hy hk z hz
    exact ⟨v, e, r.keep K⟩
  · obtain ⟨c, ov, e1, e2, ⟨o, ho, hd⟩, e4⟩ := x.cel i y hy hk
    obtain ⟨g1, o', e', s⟩ := f c (.inr ⟨y, List.mem_of_getElem? hy, hk, e1⟩) o ho e2
    refine ⟨c, ov, e1, g1, ⟨o', e', s.data.trans hd⟩, fun z hz => ?_⟩
    obtain ⟨v, e, r⟩ := e4 z hz
    exact ⟨v, e, r.keep K⟩
theorem EnvR.stepX {X : List Addr} (x : EnvR h M env tab ρ) (s : Step base X h M h' M') (hx : ∀ a ∈ X, a ∉ M → ∀ o, h.get? a = some o → ¬ SeqLike o) (hO : ∀ a, Owns env tab a → a ∉ X) : EnvR h' M' env tab ρ :=
  x.move (s.keeps2 hx) fun a ha o e n => ⟨s.notMem e n, s.keep a o e (fun q => n (.inl q)) (hO a ha)⟩
theorem EnvR.step (x : EnvR h M env tab ρ) (s : Step base [] h M h' M') : EnvR h' M' env tab ρ :=
  x.stepX s (fun _ q => nomatch q) (fun _ _ q => nomatch q)
/-- something that is not the frame's turns -/
theorem EnvR.but {a : Addr} (x : EnvR h M env tab ρ) (K : Keeps2 h M h' M) (kk : ∀ b o, b ≠ a → h.get? b = some o → h'.get? b = some o) (hO : ¬ Owns env tab a) : EnvR h' M env tab ρ :=
  x.move K fun b hb o e n => ⟨n, o, kk b o (fun q => hO (q ▸ hb)) e, .refl o⟩
theorem Cx.step (x : Cx prog w base stack env tab ρ h M σ) (s : Step base [] h M h' M') (R : StR prog w base h' M' σ') : Cx prog w base stack env tab ρ h' M' σ' :=
  ⟨s.stay, x.ff.step0 s, x.er.step s, R, x.fr⟩
theorem Thrown.back {cls : Value} {h₀ h₁ : Heap} {X : List Addr} {M₀ M₁ : Mem} {e : Addr} (s : Step base X h₀ M₀ h₁ M₁) (t : Thrown cls h₁ h M e) : Thrown cls h₀ h M e := by
  obtain ⟨oe, vs, a, b, c, d, f, g, q⟩ := t
  refine ⟨oe, vs, a, b, c, d, s.back f, g, ?_⟩
  rcases q with q | ⟨T, oT, ts, q1, q2, q3, q4, q5, q6, q7, q8⟩
  · exact .inl q
  · exact .inr ⟨T, oT, ts, q1, q2, s.back q3, q4, q5, q6, q7, q8⟩
end

namespace Res
variable {α β : Type}
/-- what holds at each end -/
noncomputable def wp (K : α → St → Prop) (X : St → Prop) : Res α → Prop
  | .ok a σ => K a σ
  | .exc σ => X σ
  | .bad => False
  | .any P f => ∀ l, P l → wp K X (f l)
theorem wp_mono {K K' : α → St → Prop} {X X' : St → Prop} (hK : ∀ a σ, K a σ → K' a σ) (hX : ∀ σ, X σ → X' σ) : ∀ {r : Res α}, r.wp K X → r.wp K' X'
  | .ok a σ, p => hK a σ p
  | .exc σ, p => hX σ p
  | .bad, p => p
  | .any P f, p => fun l h => wp_mono hK hX (p l h)
theorem wp_bind {K : β → St → Prop} {X : St → Prop} {f : α → St → Res β} : ∀ {r : Res α}, (r.bind f).wp K X → r.wp (fun a σ => (f a σ).wp K X) X
  | .ok a σ, p => p
  | .exc σ, p => p
  | .bad, p => p
  | .any P f, p => fun l h => wp_bind (r := f l) (p l h)
end Res

/-- an exception's end -/
noncomputable def XEnd (prog : Program) (w : World) (G : GT) (h₀ : Heap) (M₀ : Mem) (s : Shared) (E : Value → Shared → Prop) (σ' : St) : Prop :=
  ∀ e h' tk M', Step G.base [] h₀ M₀ h' M' → StR prog w G.base h' M' σ' → Thrown (.ref G.tf) h₀ h' M' e → E (.ref e) { s with heap := h', toks := tk }
/-- the rest of the walk behind an evaluation, from the heap h₀ with the store M₀ on -/
noncomputable def Post (prog : Program) (w : World) (G : GT) (h₀ : Heap) (M₀ : Mem) (s : Shared) (r : Res PV) (Q : Value → Shared → Prop) (E : Value → Shared → Prop) : Prop :=
  r.wp (fun x σ' => ∀ v h' tk M', Step G.base [] h₀ M₀ h' M' → StR prog w G.base h' M' σ' → RV h' M' x v → Q v { s with heap := h', toks := tk }) (XEnd prog w G h₀ M₀ s E)
/-- the same of several values -/
noncomputable def Posts (prog : Program) (w : World) (G : GT) (h₀ : Heap) (M₀ : Mem) (s : Shared) (r : Res (List PV)) (Q : List Value → Shared → Prop) (E : Value → Shared → Prop) : Prop :=
  r.wp (fun x σ' => ∀ v h' tk M', Step G.base [] h₀ M₀ h' M' → StR prog w G.base h' M' σ' → RVs h' M' x v → Q v { s with heap := h', toks := tk }) (XEnd prog w G h₀ M₀ s E)

section
variable {prog : Program} {w : World} {G : GT} {h₀ h₁ : Heap} {M₀ M₁ : Mem} {s : Shared} {Q : Value → Shared → Prop} {Qs : List Value → Shared → Prop} {E : Value → Shared → Prop}

/-- where an evaluation has come to, and what goes on there -/
inductive Got (prog : Program) (w : World) (G : GT) (h₀ : Heap) (M₀ : Mem) (K : PV → St → Mem → Prop) (v : Value) (s' : Shared) : Prop
  | mk (x : PV) (σ : St) (M' : Mem) (st : Step G.base [] h₀ M₀ s'.heap M') (R : StR prog w G.base s'.heap M' σ) (rv : RV s'.heap M' x v) (k : K x σ M')
inductive Gots (prog : Program) (w : World) (G : GT) (h₀ : Heap) (M₀ : Mem) (K : List PV → St → Mem → Prop) (v : List Value) (s' : Shared) : Prop
  | mk (x : List PV) (σ : St) (M' : Mem) (st : Step G.base [] h₀ M₀ s'.heap M') (R : StR prog w G.base s'.heap M' σ) (rv : RVs s'.heap M' x v) (k : K x σ M')

theorem XEnd.shift {σ : St} {h' : Heap} {tk : Nat} (t : Step G.base [] h₀ M₀ h₁ M₁) (p : XEnd prog w G h₀ M₀ s E σ) : XEnd prog w G h₁ M₁ { s with heap := h', toks := tk } E σ :=
  fun e h' tk M' st R th => p e h' tk M' (t.trans st) R (th.back t)
theorem Post.shift {r : Res PV} {h' : Heap} {tk : Nat} (p : Post prog w G h₀ M₀ s r Q E) (t : Step G.base [] h₀ M₀ h₁ M₁) : Post prog w G h₁ M₁ { s with heap := h', toks := tk } r Q E :=
  Res.wp_mono (fun _ _ p v h' tk M' st R rv => p v h' tk M' (t.trans st) R rv) (fun _ => XEnd.shift t) p
theorem Posts.shift {r : Res (List PV)} {h' : Heap} {tk : Nat} (p : Posts prog w G h₀ M₀ s r Qs E) (t : Step G.base [] h₀ M₀ h₁ M₁) : Posts prog w G h₁ M₁ { s with heap := h', toks := tk } r Qs E :=
  Res.wp_mono (fun _ _ p v h' tk M' st R rv => p v h' tk M' (t.trans st) R rv) (fun _ => XEnd.shift t) p
/-- an evaluation, and what is done with its value -/
theorem Post.bindK {r : Res PV} {f : PV → St → Res PV} {Q' : Value → Shared → Prop} (p : Post prog w G h₀ M₀ s (r.bind f) Q E)
    (q : ∀ x σ v h' tk M', Step G.base [] h₀ M₀ h' M' → StR prog w G.base h' M' σ → RV h' M' x v → Post prog w G h' M' { s with heap := h', toks := tk } (f x σ) Q E → Q' v { s with heap := h', toks := tk }) : Post prog w G h₀ M₀ s r Q' E :=
  Res.wp_mono (fun x σ p v h' tk M' st R rv => q x σ v h' tk M' st R rv (Post.shift (s := s) (h' := h') (tk := tk) p st)) (fun _ q => q) (Res.wp_bind p)
theorem Post.bind {r : Res PV} {f : PV → St → Res PV} (p : Post prog w G h₀ M₀ s (r.bind f) Q E) :
    Post prog w G h₀ M₀ s r (fun v s' => Got prog w G h₀ M₀ (fun x σ M' => Post prog w G s'.heap M' s' (f x σ) Q E) v s') E :=
  p.bindK fun x σ v h' tk M' st R rv k => ⟨x, σ, M', st, R, rv, k⟩
theorem Post.bindPs {r : Res PV} {f : PV → St → Res (List PV)} (p : Posts prog w G h₀ M₀ s (r.bind f) Qs E) :
    Post prog w G h₀ M₀ s r (fun v s' => Got prog w G h₀ M₀ (fun x σ M' => Posts prog w G s'.heap M' s' (f x σ) Qs E) v s') E :=
  Res.wp_mono (fun x σ p v h' tk M' st R rv => ⟨x, σ, M', st, R, rv, Posts.shift (s := s) (h' := h') (tk := tk) p st⟩) (fun _ q => q) (Res.wp_bind p)
theorem Posts.bind {r : Res (List PV)} {f : List PV → St → Res PV} (p : Post prog w G h₀ M₀ s (r.bind f) Q E) :
    Posts prog w G h₀ M₀ s r (fun v s' => Gots prog w G h₀ M₀ (fun x σ M' => Post prog w G s'.heap M' s' (f x σ) Q E) v s') E :=
  Res.wp_mono (fun x σ p v h' tk M' st R rv => ⟨x, σ, M', st, R, rv, Post.shift (s := s) (h' := h') (tk := tk) p st⟩) (fun _ q => q) (Res.wp_bind p)
theorem Posts.bindPs {r : Res (List PV)} {f : List PV → St → Res (List PV)} (p : Posts prog w G h₀ M₀ s (r.bind f) Qs E) :
    Posts prog w G h₀ M₀ s r (fun v s' => Gots prog w G h₀ M₀ (fun x σ M' => Posts prog w G s'.heap M' s' (f x σ) Qs E) v s') E :=
  Res.wp_mono (fun x σ p v h' tk M' st R rv => ⟨x, σ, M', st, R, rv, Posts.shift (s := s) (h' := h') (tk := tk) p st⟩) (fun _ q => q) (Res.wp_bind p)
theorem RetP.of {z : PV} {M : Mem} {σ : St} (p : Post prog w G s.heap M s (.ok z σ) Q E) (b : G.base.StaysIn s.heap) (R : StR prog w G.base s.heap M σ) : RetP s M z Q :=
  fun v h' tk k rv => p v h' tk M (.of_keeps b k) (R.ofKeeps k) rv
end

section
variable {prog : Program} {w : World} {A : Around} {E : Value → Shared → Prop} {s : Shared} {M : Mem} {stack : List Env} {env : Env} {tab : List Str} {ρ : Vars} {base : Heap} {σ : St}

theorem var_sound {i : Nat} {x : Str} {p : Pos} {z : PV} {Q : Value → Shared → Prop} (e : EnvR s.heap M env tab ρ) (ht : tab[i]? = some x) (hz : vget ρ i = some z) (q : ∀ v, RV s.heap M z v → Q v s) :
    wpAny (model prog w) A (eval (.Name x p) env) Q E s := by
  have hd := e.st.dbg x (List.mem_of_getElem? ht)
  rcases e.st.kinds i x ht with k | k
  · obtain ⟨m, hn, hv⟩ := e.ns
    obtain ⟨v, hm, r⟩ := hv i x ht k z hz
    exact wpAny_Name (wpAny_loadName_local e.st.kind k hn hm (q v r)) hd
  · obtain ⟨c, ov, h1, _, h3, h4⟩ := e.cel i x ht k
    obtain ⟨v, rfl, r⟩ := h4 z hz
    exact wpAny_Name (wpAny_loadName_cell e.st.kind k h1 h3 (q v r)) hd

theorem glob_sound {x : Str} {p : Pos} {v : Value} {mg : Str → Option Value} {Q : Value → Shared → Prop} (e : EnvR s.heap M env tab ρ) (g : s.heap.Ns mainGlobals mg) (hk : env.kindOf x = some .globalImplicit) (hd : (x == ("__debug__" : Str)) = false)
    (hv : mg x = some v) (q : Q v s) : wpAny (model prog w) A (eval (.Name x p) env) Q E s :=
  Calls.Name_function_global e.st.kind hk (Calls.loadGlobal_global (by rw [e.st.glob]; exact g) hv q) hd
theorem blt_name {x : Str} {p : Pos} {v : Value} {mg mb : Str → Option Value} {Q : Value → Shared → Prop} (e : EnvR s.heap M env tab ρ) (g : s.heap.Ns mainGlobals mg) (b : s.heap.Ns builtinsNs mb) (hk : env.kindOf x = some .globalImplicit)
    (hd : (x == ("__debug__" : Str)) = false) (hn : mg x = none) (hv : mb x = some v) (q : Q v s) : wpAny (model prog w) A (eval (.Name x p) env) Q E s :=
  Calls.Name_function_global e.st.kind hk (Calls.loadGlobal_builtin (by rw [e.st.glob]; exact g) hn (by rw [e.st.bti]; exact b) hv q) hd

theorem vget_self {ρ : Vars} {i : Nat} {z : Option PV} (h : i < ρ.length) : vget (ρ.set i z) i = z := by
  unfold vget; rw [List.getElem?_set_self h]; rfl
theorem vget_ne {ρ : Vars} {i j : Nat} {z : Option PV} (h : i ≠ j) : vget (ρ.set i z) j = vget ρ j := by
  unfold vget; rw [List.getElem?_set_ne h]

/-- a name of the frame's is stored into: X holds the object that turns -/
theorem store_sound {i : Nat} {x : Str} {z : PV} {v : Value} {Q : Unit → Shared → Prop} (e : EnvR s.heap M env tab ρ) (R : StR prog w base s.heap M σ) (b : base.StaysIn s.heap) {X : List Addr} (hX1 : env.kindOf x = some .local → env.locals ∈ X) (hX2 : ∀ c, env.kindOf x = some .cell → env.cells.lookup x = some c → c ∈ X) (hown : ∀ a ∈ X, base.get? a = none) (hl : tab.length ≤ ρ.length)
    (ht : tab[i]? = some x) (r : RV s.heap M z v)
    (q : ∀ h' tk, Step base (X) s.heap M h' M → Keeps2 s.heap M h' M → EnvR h' M env tab (ρ.set i (some z)) → StR prog w base h' M σ → (∀ a o, a ∉ X → s.heap.get? a = some o → h'.get? a = some o) → Q () { s with heap := h', toks := tk }) :
    wpAny (model prog w) A (storeName env x v) Q E s := by
  have hi : i < ρ.length := Nat.lt_of_lt_of_le (List.getElem?_eq_some_iff.mp ht).1 hl
  obtain ⟨m, hn, hv⟩ := e.ns
  have other : ∀ (j : Nat) (y : Str), tab[j]? = some y → y ≠ x → vget (ρ.set i (some z)) j = vget ρ j := fun j y hj hy => vget_ne fun q => by
    subst q; rw [ht] at hj; exact hy (Option.some.inj hj).symm
  have this : ∀ (j : Nat), tab[j]? = some x → vget (ρ.set i (some z)) j = some z := fun j hj => by
    obtain ⟨l1, e1⟩ := List.getElem?_eq_some_iff.mp hj
    obtain ⟨l2, e2⟩ := List.getElem?_eq_some_iff.mp ht
    rw [← (List.getElem_inj e.st.nd).mp (e2.trans e1.symm)]
    exact vget_self hi
  -- what both ways share: an object of the frame's own turns
  have go : ∀ (h' : Heap) (tk : Nat) (c : Addr) (oc : Obj), Heap.SameBut c s.heap h' → c ∈ X → c ∉ M → h'.get? c = some oc → (∀ o, s.heap.get? c = some o → ¬ SeqLike o) → (Keeps2 s.heap M h' M → EnvR h' M env tab (ρ.set i (some z))) → Q () { s with heap := h', toks := tk } := by
    intro h' tk c oc hs hc hcM hoc hns er
    have K : Keeps2 s.heap M h' M := ⟨fun a o ho nm sq => ⟨(hs.2 a fun q => by subst q; exact hns o ho sq).trans ho, nm⟩, fun _ _ h => h⟩
    exact q h' tk (.sameBut b hs hoc (.inr hc) (hown c hc)) K (er K) (R.keep K fun a ha => hs.2 a fun q => by subst q; exact hcM ha) fun a o na ho => (hs.2 a fun q => by subst q; exact na hc).trans ho
  rcases e.st.kinds i x ht with k | k
  · refine wpAny_storeName_local k hn (fun h' hn' hs => ?_) (by rw [e.st.kind]; rfl)
    obtain ⟨oL, es, ep, hoL, hdL, _⟩ := id hn
    obtain ⟨oL', _, _, hoL', _⟩ := id hn'
    refine go h' _ env.locals oL' hs (hX1 k) e.locM hoL' (fun o ho => by rw [hoL] at ho; cases ho; exact not_seqLike_dict hdL) fun K => ⟨e.st, ⟨_, hn', fun j y hj hk u hu => ?_⟩, fun j y hj hk => ?_, e.locM⟩
    · by_cases hy : y = x
      · subst hy
        rw [this j hj] at hu
        cases hu
        exact ⟨v, if_pos rfl, r.keep K⟩
      · rw [other j y hj hy] at hu
        obtain ⟨u', hu', ru⟩ := hv j y hj hk u hu
        exact ⟨u', (if_neg hy).trans hu', ru.keep K⟩
    · have hy : y ≠ x := fun q => by subst q; rw [k] at hk; cases hk
      obtain ⟨c, ov, h1, h2, ⟨o, ho, hd⟩, h4⟩ := e.cel j y hj hk
      have hcL : c ≠ env.locals := fun q => by subst q; rw [hoL] at ho; cases ho; rw [hdL] at hd; cases hd
      refine ⟨c, ov, h1, h2, ⟨o, (hs.2 c hcL).trans ho, hd⟩, fun u hu => ?_⟩
      rw [other j y hj hy] at hu
      obtain ⟨u', hu', ru⟩ := h4 u hu
      exact ⟨u', hu', ru.keep K⟩
  · obtain ⟨c, ov, h1, h2, h3, h4⟩ := e.cel i x ht k
    refine wpAny_storeName_cell e.st.kind k h1 h3 fun h' hc' hs => ?_
    obtain ⟨oc, hoc, hdc⟩ := id h3
    obtain ⟨oc', hoc', hdc'⟩ := id hc'
    obtain ⟨oL, es, ep, hoL, hdL, hrL⟩ := id hn
    have hcL : env.locals ≠ c := fun q => by subst q; rw [hoL] at hoc; cases hoc; rw [hdL] at hdc; cases hdc
    refine go h' s.toks c oc' hs (hX2 c k h1) h2 hoc' (fun o ho => by rw [hoc] at ho; cases ho; exact not_seqLike_cell hdc) fun K => ⟨e.st, ⟨m, ⟨oL, es, ep, (hs.2 _ hcL).trans hoL, hdL, hrL⟩, fun j y hj hk u hu => ?_⟩, fun j y hj hk => ?_, e.locM⟩
    · have hy : y ≠ x := fun q => by subst q; rw [k] at hk; cases hk
      rw [other j y hj hy] at hu
      obtain ⟨u', hu', ru⟩ := hv j y hj hk u hu
      exact ⟨u', hu', ru.keep K⟩
    · by_cases hy : y = x
      · subst hy
        refine ⟨c, some v, h1, h2, hc', fun u hu => ?_⟩
        rw [this j hj] at hu
        cases hu
        exact ⟨v, rfl, r.keep K⟩
      · obtain ⟨c', ov', g1, g2, ⟨o, ho, hd⟩, g4⟩ := e.cel j y hj hk
        have hcc : c' ≠ c := fun q => by subst q; exact hy (e.st.inj _ _ _ g1 h1)
        refine ⟨c', ov', g1, g2, ⟨o, (hs.2 c' hcc).trans ho, hd⟩, fun u hu => ?_⟩
        rw [other j y hj hy] at hu
        obtain ⟨u', hu', ru⟩ := g4 u hu
        exact ⟨u', hu', ru.keep K⟩
end
end Mine
end
-- part Q9
section
open PySem PySem.W PyProof.Rows
namespace Mine

/-- what has no fields, and the ranges, are kept, frames' slots aside -/
noncomputable def DK (h h' : Heap) : Prop := ∀ a o, h.get? a = some o → ((∀ vs, o.data ≠ .fields vs) ∨ o.cls = .type "range" ∨ o.cls = .type "code") → ∃ o', h'.get? a = some o' ∧ Same o o'
theorem DK.refl (h : Heap) : DK h h := fun a o e _ => ⟨o, e, .refl o⟩
theorem DK.trans {h h' h'' : Heap} (x : DK h h') (y : DK h' h'') : DK h h'' := fun a o e n => by
  obtain ⟨o', e', s⟩ := x a o e n
  obtain ⟨o'', e'', s'⟩ := y a o' e' (n.imp (fun n vs q => n vs (s.data ▸ q)) fun c => c.imp s.cls.trans s.cls.trans)
  exact ⟨o'', e'', s.trans s'⟩
theorem DK.ns {h h' : Heap} (x : DK h h') {a : Addr} {m : Str → Option Value} (hn : h.Ns a m) : h'.Ns a m := by
  obtain ⟨o, es, ep, ho, hd, r⟩ := hn
  obtain ⟨o', e', s⟩ := x a o ho (.inl fun vs q => by rw [hd] at q; cases q)
  exact ⟨o', es, ep, e', s.data.trans hd, r⟩
theorem DK.keeps2 {h h' : Heap} (x : DK h h') (M : Mem) : Keeps2 h M h' M := ⟨fun a o e n q => by
  obtain ⟨o', e', s⟩ := x a o e (q.imp (fun ⟨_, xs, m, z⟩ vs q => by rw [z] at q; cases q) fun z => z.1)
  rw [s.eq q.noFrame] at e'
  exact ⟨e', n⟩, fun _ _ e => e⟩
theorem EnvR.dk {h h' : Heap} {M : Mem} {env : Env} {tab : List Str} {ρ : Vars} (x : EnvR h M env tab ρ) (k : DK h h') : EnvR h' M env tab ρ :=
  x.move (k.keeps2 M) fun a ha o e n => ⟨n, k a o e (.inl (by obtain ⟨o', e', _, _, f⟩ := x.own ha; rw [e] at e'; cases e'; exact f))⟩

structure B3X (prog : Program) (w : World) (base : Heap) (X : List Addr) (stack : List Env) (h₀ : Heap) (M₀ : Mem) (h : Heap) (M : Mem) (σ : St) : Prop where
  stay : base.StaysIn h₀
  step : Step base X h₀ M₀ h M
  str : StR prog w base h M σ
  ff : FF h base M stack
abbrev B3 (prog : Program) (w : World) (base : Heap) (stack : List Env) (h₀ : Heap) (M₀ : Mem) (h : Heap) (M : Mem) (σ : St) : Prop := B3X prog w base [] stack h₀ M₀ h M σ

section
variable {prog : Program} {w : World} {base : Heap} {X : List Addr} {stack : List Env} {h₀ h : Heap} {M₀ M : Mem} {σ : St}
theorem B3X.oldBase (x : B3X prog w base X stack h₀ M₀ h M σ) {a : Addr} (n : h₀.get? a = none) : base.get? a = none := by
  cases q : base.get? a with
  | none => rfl
  | some o => rw [x.stay a o q] at n; cases n
theorem B3X.fld (x : B3X prog w base X stack h₀ M₀ h M σ) {a : Addr} {o : Obj} {vs : Array Value} (f : Array Value → Array Value) (n : h₀.get? a = none) (nM : a ∉ M) (e : h.get? a = some o) (hd : o.data = .fields vs) (hc : ¬ (o.cls = .type "range" ∨ o.cls = .type "code")) :
    B3X prog w base X stack h₀ M₀ (h.update a (Obj.mapFields f)) M σ ∧ (h.update a (Obj.mapFields f)).get? a = some (Obj.mapFields f o) ∧ DK h (h.update a (Obj.mapFields f)) := by
  have hd' := Obj.data_mapFields hd f
  have e' := Heap.get?_update_self (Obj.mapFields f) e (Obj.isFreed_of_fields hd')
  have oth : ∀ b, b ≠ a → (h.update a (Obj.mapFields f)).get? b = h.get? b := fun b hb => Heap.get?_update_other h _ (Ne.symm hb)
  have sb : Heap.SameBut a h (h.update a (Obj.mapFields f)) := Heap.SameBut.update ..
  have S : Step base [a] h M (h.update a (Obj.mapFields f)) M := .sameBut x.step.stay sb e' (.inr (.head _)) (x.oldBase n)
  have nS : ¬ SeqLike o := by
    rintro (⟨_, xs, m, q⟩ | ⟨q, _⟩)
    · rw [hd] at q; cases q
    · exact hc q
  refine ⟨⟨x.stay, ((x.step.weaken (Y := a :: X) fun _ m => .tail _ m).trans (S.weaken fun _ m => by simp at m; subst m; exact .head _)).drop1 n, ?_, x.ff.step S fun env he L hL => ?_⟩, e', fun b ob eb nb => ⟨ob, (oth b fun q => by subst q; rw [e] at eb; cases eb; exact nb.elim (fun z => z _ hd) hc).trans eb, .refl ob⟩⟩
  · refine x.str.keep (S.keeps2 fun b hb _ o' ho => by simp at hb; subst hb; rw [e] at ho; cases ho; exact nS) fun b hb => oth b fun q => by subst q; exact nM hb
  · obtain ⟨_, L', o', a1, _, a2, a3, _⟩ := x.ff env he
    rw [hL] at a1; cases a1
    intro m; simp at m; subst m
    rw [e] at a2; cases a2; exact a3 _ hd
theorem B3X.slots (x : B3X prog w base X stack h₀ M₀ h M σ) {h' : Heap} (hs : Heap.SlotsOnly (stack.filterMap (·.frame)) h h') : B3X prog w base X stack h₀ M₀ h' M σ ∧ DK h h' := by
  have fr : ∀ a ∈ stack.filterMap (·.frame), ∃ o, h.get? a = some o ∧ a ∉ M ∧ DictData o ∧ base.get? a = none := fun a ha => by
    obtain ⟨env, he, hf⟩ := List.mem_filterMap.mp ha
    obtain ⟨_, L', o', a1, a2, a3, _, a4, a5⟩ := x.ff env he
    rw [hf] at a1; cases a1
    exact ⟨o', a3, a4, a5, a2⟩
  have S : Step base [] h M h' M := by
    refine ⟨fun a o e nM _ => ?_, fun a o e => ?_, ⟨[], (Mem.app_nil _).symm, fun _ m => nomatch m⟩, fun a o e => ?_, fun a o m _ e => (hs.2.1 a fun q => by obtain ⟨_, _, n, _⟩ := fr a q; exact n (.inr m)).trans e⟩
    · by_cases m : a ∈ stack.filterMap (·.frame)
      · obtain ⟨o', e', _, c, _⟩ := fr a m
        rw [e] at e'; cases e'
        obtain ⟨sl, q⟩ := hs.2.2 a o e
        exact ⟨_, q, .inr ⟨c, sl, rfl⟩⟩
      · exact ⟨o, (hs.2.1 a m).trans e, .refl o⟩
    · obtain ⟨sl, q⟩ := hs.2.2 a o e
      exact ⟨_, q⟩
    · by_cases m : a ∈ stack.filterMap (·.frame)
      · obtain ⟨_, _, _, _, c⟩ := fr a m
        rw [e] at c; cases c
      · exact (hs.2.1 a m).trans (x.step.stay a o e)
  refine ⟨⟨x.stay, x.step.trans (S.weaken fun _ q => nomatch q), x.str.keep S.keeps0 fun b hb => hs.2.1 b fun m => by obtain ⟨_, _, q, _⟩ := fr b m; exact q hb, x.ff.step0 S⟩, fun a o e _ => ?_⟩
  by_cases m : a ∈ stack.filterMap (·.frame)
  · obtain ⟨o', e', _, c, _⟩ := fr a m
    rw [e] at e'; cases e'
    obtain ⟨sl, q⟩ := hs.2.2 a o e
    exact ⟨_, q, .inr ⟨c, sl, rfl⟩⟩
  · exact ⟨o, (hs.2.1 a m).trans e, .refl o⟩
theorem B3X.push (x : B3X prog w base X stack h₀ M₀ h M σ) (o : Obj) : B3X prog w base X stack h₀ M₀ (h.push o) M σ :=
  have S : Step base [] h M (h.push o) M := .push x.step.stay o
  ⟨x.stay, x.step.trans (S.weaken fun _ q => nomatch q), x.str.ofKeeps (fun _ _ e => Heap.get?_push_of_some _ e), x.ff.step0 S⟩
end

section
variable {M' : Model} {A : Around} {E : Value → Shared → Prop} {s : Shared}
theorem frameOf_sound {base : Heap} {env env₀ : Env} {outer : List Env} {L : Addr} {Q : Value → Shared → Prop} (hfr : A.frames = some (env₀ :: outer)) (he : env.frame = env₀.frame) (hl : s.heap.FunFrames base (env₀ :: outer))
    (hf : env.frame = some L) (h : ∀ h', Heap.SlotsOnly ((env₀ :: outer).filterMap (·.frame)) s.heap h' → Q (.ref L) { s with heap := h' }) : wpAny M' A (PySem.frameOf env) Q E s := by
  unfold PySem.frameOf
  refine wpAny_bind (wpAny_frameEnvs hfr ?_)
  have hdw : ((env₀ :: outer).dropWhile fun x => x.frame != env.frame) = env₀ :: outer := by simp [List.dropWhile, he]
  rw [hdw]
  unfold frameObject
  refine wpAny_bind (wpAny_bind (wpAny_readyFrames_fun hl fun h₁ hs₁ => wpAny_pure ?_))
  rw [← he, hf]
  exact wpAny_pure (h h₁ hs₁)

variable {prog : Program} {w : World} {G : GT} {X : List Addr} {stack : List Env} {h₀ : Heap} {M₀ M : Mem} {σ : St}

/-- the new entry -/
theorem entry_sound {env env₀ : Env} {outer : List Env} {L e : Addr} {oe : Obj} {vs : Array Value} {head : Value} {hadNext : Bool} {Q : Unit → Shared → Prop}
    (hfr : A.frames = some (env₀ :: outer)) (he : env.frame = env₀.frame) (hf : env.frame = some L) (b : B3X prog w G.base X (env₀ :: outer) h₀ M₀ s.heap M σ)
    (hg : s.heap.get? e = some oe) (hc : oe.cls = .ref G.tf) (hd : oe.data = .fields vs) (hz : 1 < vs.size) (hn : h₀.get? e = none) (hM : e ∉ M)
    (q : ∀ h', B3X prog w G.base X (env₀ :: outer) h₀ M₀ h' M σ → Noted (.ref G.tf) h₀ h' M e → DK s.heap h' → Q () { s with heap := h' }) :
    wpAny M' A (do setField (.ref e) 1 (← EntryCells.newEntry head (← PySem.frameOf env) .none (rawInt L) .none (← entryPlaceOf L hadNext))) Q E s := by
  refine wpAny_bind (frameOf_sound hfr he b.ff.fun hf fun h₁ hs₁ => ?_)
  obtain ⟨b₁, k₁⟩ := b.slots hs₁
  have hg₁ : ∃ oe', h₁.get? e = some oe' ∧ oe'.cls = oe.cls ∧ oe'.data = oe.data := by
    obtain ⟨sl, q⟩ := hs₁.2.2 e oe hg
    exact ⟨_, q, rfl, rfl⟩
  obtain ⟨oe', g1, g2, g3⟩ := hg₁
  refine wpAny_bind (wpAny_entryPlaceOf fun pl hpl => ?_)
  unfold EntryCells.newEntry newFields
  refine wpAny_bind (wpAny_newObj_type ?_ (hpl.sizeOk5 _ _ _ _ _))
  have b₂ := b₁.push { cls := .type "traceback", dict := none, data := .fields ([head, .ref L, .none, rawInt L, .none] ++ (if pl.isEmpty then List.replicate 6 Value.none else pl)).toArray }
  have he₂ := Heap.get?_push_of_some (h := h₁) { cls := .type "traceback", dict := none, data := .fields ([head, .ref L, .none, rawInt L, .none] ++ (if pl.isEmpty then List.replicate 6 Value.none else pl)).toArray } g1
  have hT₂ := Heap.get?_push_size h₁ (o := { cls := .type "traceback", dict := none, data := .fields ([head, .ref L, .none, rawInt L, .none] ++ (if pl.isEmpty then List.replicate 6 Value.none else pl)).toArray }) rfl
  have nT : h₀.get? h₁.objs.size = none := b₁.step.back (get_size _)
  have nM : h₁.objs.size ∉ M := b₁.str.live.fresh (get_size _)
  have hTe : h₁.objs.size ≠ e := Nat.ne_of_gt (Heap.lt_size g1)
  refine wpAny_setField he₂ (g3.trans hd) hz ?_
  obtain ⟨b₃, e₃, k₃⟩ := b₂.fld (·.setIfInBounds 1 (Value.ref h₁.objs.size)) hn hM he₂ (g3.trans hd) (by rw [g2, hc]; rintro (q | q) <;> cases q)
  refine q _ b₃ ⟨_, _, e₃, ?_, Obj.data_mapFields (g3.trans hd) _, by simpa using hz, hn, hM, h₁.objs.size, _, _, ?_, hTe, nT, nM, (Heap.get?_update_other _ _ (Ne.symm hTe)).trans hT₂, rfl, rfl, ?_⟩ (k₁.trans (DK.trans (fun a o e _ => ⟨o, Heap.get?_push_of_some _ e, .refl o⟩) k₃))
  · rw [Obj.cls_mapFields, g2, hc]
  · simp [hz]
  · simp only [List.size_toArray, List.length_append, List.length_cons, List.length_nil] <;> omega

theorem note_sound {env env₀ : Env} {outer : List Env} {e : Addr} {Q : Unit → Shared → Prop}
    (hfr : A.frames = some (env₀ :: outer)) (he : env.frame = env₀.frame) (b : B3X prog w G.base X (env₀ :: outer) h₀ M₀ s.heap M σ) (t : Thrown (.ref G.tf) h₀ s.heap M e)
    (q : ∀ h', B3X prog w G.base X (env₀ :: outer) h₀ M₀ h' M σ → Noted (.ref G.tf) h₀ h' M e → DK s.heap h' → Q () { s with heap := h' }) :
    wpAny M' A (noteFrame (.ref e) env) Q E s := by
  obtain ⟨_, L, oL, f1, _, f2, _⟩ := b.ff env₀ (.head _)
  have hf : env.frame = some L := he.trans f1
  obtain ⟨oe, vs, a1, a2, a3, a4, a5, a6, a7⟩ := t
  unfold noteFrame
  simp only [hf]
  rcases a7 with h1 | ⟨T, oT, ts, h1, h2, h3, h4, h5, h6, h7, h8⟩
  · refine wpAny_bind (wpAny_field a1 a3 h1 ?_)
    simp only [bne_self_eq_false, Bool.false_eq_true, if_false]
    first
      | exact wpAny_bind (wpAny_pure (entry_sound hfr he hf b a1 a2 a3 a4 a5 a6 q))
      | exact entry_sound hfr he hf b a1 a2 a3 a4 a5 a6 q
  · refine wpAny_bind (wpAny_field a1 a3 h1 ?_)
    rw [show ((Value.ref T) != Value.none) = true from by simp]
    simp only [if_true]
    have h3' : ts[3]? = some ts[3] := Array.getElem?_eq_getElem h8
    refine wpAny_bind (wpAny_field h5 h7 h3' ?_)
    by_cases hq : (ts[3] == rawInt L) = true
    · rw [if_pos hq]
      exact wpAny_pure (q s.heap b ⟨oe, vs, a1, a2, a3, a4, a5, a6, T, oT, ts, h1, h2, h3, h4, h5, h6, h7, h8⟩ (.refl _))
    · rw [if_neg hq]
      refine wpAny_bind (wpAny_setField h5 h7 h8 ?_)
      obtain ⟨b₁, _, k₁⟩ := b.fld (·.setIfInBounds 3 .none) h3 h4 h5 h7 (by rw [h6]; decide)
      exact entry_sound hfr he hf b₁ ((Heap.get?_update_other _ _ h2).trans a1) a2 a3 a4 a5 a6 fun h' b' t' k' => q h' b' t' (k₁.trans k')

/-- the flight is set -/
theorem flight_sound {e : Addr} {fr : Option Addr} {Q : Unit → Shared → Prop} (b : B3X prog w G.base X stack h₀ M₀ s.heap M σ) (t : Noted (.ref G.tf) h₀ s.heap M e)
    (q : ∀ h', B3X prog w G.base X stack h₀ M₀ h' M σ → Noted (.ref G.tf) h₀ h' M e → DK s.heap h' → Q () { s with heap := h' }) :
    wpAny M' A (setFlight (.ref e) fr) Q E s := by
  obtain ⟨oe, vs, a1, a2, a3, a4, a5, a6, T, oT, ts, h1, h2, h3, h4, h5, h6, h7, h8⟩ := t
  unfold setFlight
  refine wpAny_bind (wpAny_field a1 a3 h1 ?_)
  rw [if_pos (show (Value.ref T != Value.none) = true from by simp)]
  refine wpAny_setField h5 h7 h8 ?_
  obtain ⟨b₁, e₁, k₁⟩ := b.fld (·.setIfInBounds 3 (fr.elim .none fun f => rawInt f)) h3 h4 h5 h7 (by rw [h6]; decide)
  exact q _ b₁ ⟨oe, vs, (Heap.get?_update_other _ _ h2).trans a1, a2, a3, a4, a5, a6, T, _, _, h1, h2, h3, h4, e₁, (Obj.cls_mapFields ..).trans h6, Obj.data_mapFields h7 _, by simpa using h8⟩ k₁

theorem passOn_sound {α : Type} {what : String} {e : Addr} {env : Env} {Q : α → Shared → Prop} (b : B3X prog w G.base X stack h₀ M₀ s.heap M σ) (t : Noted (.ref G.tf) h₀ s.heap M e)
    (q : ∀ h', B3X prog w G.base X stack h₀ M₀ h' M σ → Noted (.ref G.tf) h₀ h' M e → DK s.heap h' → E (.ref e) { s with heap := h' }) :
    wpAny M' A (PySem.passOn what (.ref e) env : Sem α) Q E s := by
  obtain ⟨oe, vs, a1, a2, a3, a4, a5, a6, T, oT, ts, h1, h⟩ := id t
  unfold PySem.passOn
  refine wpAny_bind (wpAny_field a1 a3 h1 ?_)
  rw [if_neg (show ¬ (Value.ref T == Value.none) = true from by simp)]
  first
    | exact wpAny_bind (flight_sound b t fun h' b' t' k' => wpAny_throw (q h' b' t' k'))
    | exact wpAny_bind (wpAny_pure (wpAny_bind (flight_sound b t fun h' b' t' k' => wpAny_throw (q h' b' t' k'))))

theorem cameBack_sound {e : Addr} {env : Env} (b : B3X prog w G.base X stack h₀ M₀ s.heap M σ) (t : Noted (.ref G.tf) h₀ s.heap M e)
    (q : ∀ h', B3X prog w G.base X stack h₀ M₀ h' M σ → Noted (.ref G.tf) h₀ h' M e → DK s.heap h' → E (.ref e) { s with heap := h' }) :
    cameBackBy M' A env E (.ref e) s := by
  obtain ⟨oe, vs, a1, a2, a3, a4, a5, a6, T, oT, ts, h1, h⟩ := id t
  unfold cameBackBy
  refine wpAny_bind (wpAny_field a1 a3 h1 ?_)
  rw [if_neg (show ¬ (Value.ref T == Value.none) = true from by simp)]
  first
    | exact flight_sound b t q
    | exact wpAny_bind (wpAny_pure (flight_sound b t q))

theorem leaving_sound {env env₀ : Env} {outer : List Env} {e : Addr} {Q : Unit → Shared → Prop}
    (hfr : A.frames = some (env₀ :: outer)) (he : env.frame = env₀.frame) (b : B3X prog w G.base X (env₀ :: outer) h₀ M₀ s.heap M σ) (t : Thrown (.ref G.tf) h₀ s.heap M e)
    (q : ∀ h', B3X prog w G.base X (env₀ :: outer) h₀ M₀ h' M σ → Noted (.ref G.tf) h₀ h' M e → DK s.heap h' → Q () { s with heap := h' }) :
    wpAny M' A (leaving env (.ref e)) Q E s := by
  unfold leaving
  exact wpAny_bind (note_sound hfr he b t fun h' b' t' k' => flight_sound b' t' fun h'' b'' t'' k'' => q h'' b'' t'' (k'.trans k''))
end
end Mine
end
-- part Q10
section
open PySem PySem.W PyProof.Rows
namespace Mine

structure Wc where
  fn : List Str
  gs : List (Str × Str)

noncomputable def relS (scope sc : Scope) : Scope :=
  { scope with names := scope.names.map fun (n, k) => if (k == .free && sc.kind == .function && sc.names.lookup n == some .cell) then (n, .cell) else (n, k) }

noncomputable def Tgt.names : Tgt → List Str
  | .name _ x _ => [x]
  | .pair _ x _ _ y _ _ _ => [x, y]
/-- the names that a comprehension sees -/
noncomputable def capTab (tab : List Str) (caps : List Nat) (more : List Str) : List Str := caps.map (fun i => tab.getD i ("" : Str)) ++ more
noncomputable def scopeOk (scope sc : Scope) (tab : List Str) (caps : List Nat) (more : List Str) : Bool :=
  decide (capTab tab caps more ≠ lamTab) && (scope.kind == .function && caps.all (fun i => decide (i < tab.length)) && decide (capTab tab caps more).Nodup && (capTab tab caps more).all (fun x => !(x == ("__debug__" : Str))) &&
    scope.names.all (fun q => q.2 != .cell) && scope.names.all (fun q => q.2 != .local || scope.names.lookup q.1 == some .local) &&
    scope.names.all (fun q => q.2 != .free || (sc.names.lookup q.1 == some .cell && tab.contains q.1)) &&
    more.all (fun x => (relS scope sc).names.lookup x == some .local) && caps.all (fun i => (relS scope sc).names.lookup (tab.getD i ("" : Str)) == some .cell && scope.names.lookup (tab.getD i ("" : Str)) == some .free))
noncomputable def Tgt.isPair (tg : Tgt) : Bool := match tg with
  | .name _ _ _ => false
  | .pair _ _ _ _ _ _ _ _ => true
noncomputable def tgtOk (tg : Tgt) (n : Nat) : Bool := match tg with
  | .name i _ _ => i == n
  | .pair i _ _ j _ _ _ _ => i == n && j == n + 1
/-- a name of the text's or a built-in's -/
noncomputable def gname (sc : Scope) (x y : Str) : Bool := x == y && sc.names.lookup x == some .globalImplicit && !(x == ("__debug__" : Str))

mutual
/-- well formed, as a test or as a value -/
noncomputable def wfE (W : Wc) (sc : Scope) (tab : List Str) (t : Bool) : PE → Bool
  | .cst c _ _ => match c with | .str x => decide (x.length ≤ 1000000) | _ => true
  | .var i x _ => tab[i]? == some x
  | .gst v x _ => W.gs.contains (x, v) && gname sc x x
  | .bin a _ b _ => wfE W sc tab false a && wfE W sc tab false b
  | .boo _ vs _ => wfEs W sc tab t vs && !vs.isEmpty
  | .nt e _ => t && wfE W sc tab true e
  | .neg e _ => wfE W sc tab false e
  | .ife c b o _ => !t && (wfE W sc tab true c && wfE W sc tab false b && wfE W sc tab false o)
  | .tup es _ _ => wfEs W sc tab false es && decide (es.length ≤ 1000)
  | .lst es _ => wfEs W sc tab false es && decide (es.length ≤ 1000)
  | .mls es _ => wfEs W sc tab false es && decide (es.length ≤ 1000)
  | .cmp l _ r _ => wfE W sc tab false l && wfE W sc tab false r
  | .cmp2 l _ m _ r _ => t && (wfE W sc tab false l && wfE W sc tab false m && wfE W sc tab false r)
  | .idx o i _ => wfE W sc tab false o && wfE W sc tab false i
  | .slF o i _ _ => wfE W sc tab false o && wfE W sc tab false i
  | .slT o i _ _ => wfE W sc tab false o && wfE W sc tab false i
  | .call f x _ as _ => W.fn[f]? == some x && gname sc x x && wfEs W sc tab false as
  | .blt b x _ a _ => gname sc x b.nm && wfE W sc tab false a
  | .mth _ i x _ ap a p => tab[i]? == some x && (ap.endLine == p.line) && wfE W sc tab false a
  | .pop i x _ ap p => tab[i]? == some x && (ap.endLine == p.line)
  | .fst parts _ => wfEs W sc tab false parts && decide (2 ≤ parts.length)
  | .fvl e _ => wfE W sc tab false e
  | .dct k1 _ _ v1 k2 _ _ v2 _ => wfE W sc tab false v1 && wfE W sc tab false v2 && !(k1 == k2)
  | .dic x _ e _ => gname sc x B.dict.nm && wfE W sc tab false e
  | .srt x _ e r _ _ _ _ _ lp _ ls _ => gname sc x B.sorted.nm && wfE W sc tab false e && (decide (tab = lamTab) && (lp.line == lamL && (lp.col == lamK && (decide (r = "row") && (ls.kind == .function && (!ls.isCoroutine && (!ls.isGenerator && (ls.names.all (fun q => q.2 != .cell && q.2 != .free) && ls.names.lookup ("row" : Str) == some .local))))))))
  | .comp elt tg en it ifs caps scope _ => wfE W sc tab false it && (match en with | none => true | some q => gname sc q.1 B.enumerate.nm && tg.isPair) && scopeOk scope sc tab caps tg.names && tgtOk tg caps.length && wfE W (relS scope sc) (capTab tab caps tg.names) false elt &&
      wfEs W (relS scope sc) (capTab tab caps tg.names) true ifs && decide (ifs.length ≤ 1)
noncomputable def wfEs (W : Wc) (sc : Scope) (tab : List Str) (t : Bool) : List PE → Bool
  | [] => true
  | e :: r => wfE W sc tab t e && wfEs W sc tab t r
end
theorem and2 {a b : Bool} (h : (a && b) = true) : a = true ∧ b = true := Bool.and_eq_true_iff.mp h
theorem gname_inv {sc : Scope} {x y : Str} (h : gname sc x y = true) : x = y ∧ sc.names.lookup x = some .globalImplicit ∧ (x == ("__debug__" : Str)) = false := by
  obtain ⟨h1, h3⟩ := and2 h
  obtain ⟨h1, h2⟩ := and2 h1
  exact ⟨eq_of_beq h1, eq_of_beq h2, Bool.not_eq_true' _ ▸ h3⟩

/-- the calls are told rightly -/
noncomputable def Callee (prog : Program) (w : World) (G : GT) (stack : List Env) (d : Nat) (Φ : Phi) : Prop :=
  ∀ A, Ar A stack d → ∀ (f : Nat) (x : Str) (a : Addr), G.fns[f]? = some (x, a) → ∀ (s : Shared) (M : Mem) (args : List PV) (vs : List Value) (σ : St) (Q : Value → Shared → Prop) (E : Value → Shared → Prop),
    G.base.StaysIn s.heap → FF s.heap G.base M stack → StR prog w G.base s.heap M σ → RVs s.heap M args vs → Post prog w G s.heap M s (Φ f args σ) Q E → wpAny (model prog w) A (call (.ref a) vs) Q E s

structure Wd (prog : Program) (w : World) (G : GT) (W : Wc) (stack : List Env) (d : Nat) (Φ : Phi) : Prop where
  glo : ∃ mg mb, Glo G mg mb
  fnn : G.fns.map (·.1) = W.fn
  gss : G.gst = W.gs
  phi : Callee prog w G stack d Φ

noncomputable def SE (prog : Program) (w : World) (G : GT) (W : Wc) (stack : List Env) (d : Nat) (Φ : Phi) (e : PE) : Prop :=
  ∀ {A : Around} {s : Shared} {env : Env} {tab : List Str} {ρ : Vars} {M : Mem} {σ : St} {Q : Value → Shared → Prop} {E : Value → Shared → Prop}, Ar A stack d → wfE W env.scope tab false e = true → Cx prog w G.base stack env tab ρ s.heap M σ →
    Post prog w G s.heap M s (evE Φ e ρ σ) Q E → wpAny (model prog w) A (eval e.toE env) Q E s
/-- the end of a test -/
noncomputable def TQ (Q : Bool → Shared → Prop) (v : Value) (s : Shared) : Prop := ∃ b, v = .bool b ∧ Q b s
noncomputable def ST (prog : Program) (w : World) (G : GT) (W : Wc) (stack : List Env) (d : Nat) (Φ : Phi) (e : PE) : Prop :=
  ∀ {A : Around} {s : Shared} {env : Env} {tab : List Str} {ρ : Vars} {M : Mem} {σ : St} {Q : Bool → Shared → Prop} {E : Value → Shared → Prop}, Ar A stack d → wfE W env.scope tab true e = true → Cx prog w G.base stack env tab ρ s.heap M σ →
    Post prog w G s.heap M s (evE Φ e ρ σ) (TQ Q) E → wpAny (model prog w) A (isTrue e.toE env (eval e.toE env)) Q E s

section
variable {prog : Program} {w : World} {G : GT} {W : Wc} {stack : List Env} {d : Nat} {Φ : Phi}
variable {h₀ : Heap} {M₀ M : Mem} {s : Shared} {σ : St} {ρ : Vars} {env : Env} {tab : List Str} {A : Around} {E : Value → Shared → Prop} {Q : Value → Shared → Prop}

theorem Ar.cl (ar : Ar A stack d) : A.units + 2000 < cLine := by have := ar.units; omega
theorem Post.wit {α : Type} {o : Option α} {f : α → Res PV} (p : Post prog w G h₀ M₀ s (wit o f) Q E) : ∃ z, o = some z ∧ Post prog w G h₀ M₀ s (f z) Q E := by
  cases o with
  | none => exact p.elim
  | some z => exact ⟨z, rfl, p⟩
theorem Post.opt {o : Option PV} (p : Post prog w G h₀ M₀ s (opt o σ) Q E) : ∃ z, o = some z ∧ Post prog w G h₀ M₀ s (.ok z σ) Q E := by
  cases o with
  | none => exact p.elim
  | some z => exact ⟨z, rfl, p⟩
theorem Post.asBool {x : PV} {v : Value} {h : Heap} {f : Bool → Res PV} (r : RV h M x v) (p : Post prog w G h₀ M₀ s (asBool x f) Q E) : ∃ b, v = .bool b ∧ Post prog w G h₀ M₀ s (f b) Q E := by
  unfold Mine.asBool at p
  cases hb : asB x with
  | none => rw [hb] at p; exact p.elim
  | some b => rw [hb] at p; exact ⟨b, asB_rv hb r, p⟩
/-- a value here -/
theorem Post.now {z : PV} (p : Post prog w G s.heap M s (.ok z σ) Q E) (cx : Cx prog w G.base stack env tab ρ s.heap M σ) {v : Value} (rv : RV s.heap M z v) : Q v s :=
  p v s.heap s.toks M (.refl cx.stay) cx.str rv
theorem Post.nowT {z : PV} (p : Post prog w G s.heap M s (.ok z σ) Q E) (cx : Cx prog w G.base stack env tab ρ s.heap M σ) (tk : Nat) {v : Value} (rv : RV s.heap M z v) : Q v { s with toks := tk } :=
  p v s.heap tk M (.refl cx.stay) cx.str rv
theorem Post.nowB {b : Bool} {Q : Bool → Shared → Prop} (p : Post prog w G s.heap M s (.ok (.bool b) σ) (TQ Q) E) (cx : Cx prog w G.base stack env tab ρ s.heap M σ) (tk : Nat) : Q b { s with toks := tk } := by
  obtain ⟨b', e, q⟩ := p.nowT cx tk (.bool b)
  cases e; exact q
theorem Post.ret {z : PV} (p : Post prog w G s.heap M s (.ok z σ) Q E) (cx : Cx prog w G.base stack env tab ρ s.heap M σ) : RetP s M z Q := RetP.of p cx.stay cx.str
theorem Cx.glob (c : Cx prog w G.base stack env tab ρ s.heap M σ) {mg mb : Str → Option Value} (g : Glo G mg mb) : s.heap.Ns mainGlobals mg ∧ s.heap.Ns builtinsNs mb :=
  ⟨g.g.keeps c.stay, g.b.keeps c.stay⟩

theorem se_cst {c : Const} {k : Nat} {p : Pos} : SE prog w G W stack d Φ (.cst c k p) := by
  intro A s env tab ρ M σ Q E ar wf cx p
  dsimp only [evE_cst] at p
  cases c with
  | none => exact wpAny_Constant_none (p.now cx .none)
  | bool b => exact wpAny_Constant_bool (p.now cx (.bool b))
  | int i => exact wpAny_Constant_int (p.nowT cx _ (.int i _))
  | str x => exact wpAny_Constant_str (p.nowT cx _ (.str x _))
  | _ => exact p.elim

theorem se_var {i : Nat} {x : Str} {p : Pos} : SE prog w G W stack d Φ (.var i x p) := by
  intro A s env tab ρ M σ Q E ar wf cx p
  dsimp only [evE_var] at p
  obtain ⟨z, hz, p⟩ := p.opt
  exact var_sound cx.er (eq_of_beq wf) hz fun v r => p.now cx r

theorem se_gst (wd : Wd prog w G W stack d Φ) {v x : Str} {p : Pos} : SE prog w G W stack d Φ (.gst v x p) := by
  intro A s env tab ρ M σ Q E ar wf cx p
  dsimp only [evE_gst] at p
  obtain ⟨w1, w2⟩ := and2 wf
  obtain ⟨_, w2, w3⟩ := gname_inv w2
  obtain ⟨mg, mb, g⟩ := wd.glo
  obtain ⟨t, ht⟩ := g.st x v (by rw [wd.gss]; exact List.contains_iff_mem.mp w1)
  exact glob_sound cx.er (cx.glob g).1 w2 w3 ht (p.now cx (.str v t))

theorem se_bin {a b : PE} {op : Operator} {p : Pos} (ha : SE prog w G W stack d Φ a) (hb : SE prog w G W stack d Φ b) : SE prog w G W stack d Φ (.bin a op b p) := by
  intro A s env tab ρ M σ Q E ar wf cx p
  dsimp only [evE_bin] at p
  obtain ⟨w1, w2⟩ := and2 wf
  refine wpAny_BinOp (wpAny_mono (ha ar w1 cx (Post.bind p)) (fun v s₁ h₁ => ?_) fun _ _ e => e)
  obtain ⟨x, σ₁, M₁, st, R, rv, p⟩ := h₁
  have cx := cx.step st R
  refine wpAny_mono (hb ar w2 cx (Post.bind p)) (fun u s₂ h₂ => ?_) fun _ _ e => e
  obtain ⟨y, σ₂, M₂, st₂, R₂, rv₂, p⟩ := h₂
  obtain ⟨z, hz, p⟩ := p.opt
  exact bin_sound R₂.live hz (rv.keep st₂.keeps0) rv₂ (p.ret (cx.step st₂ R₂))

theorem st_of_value {e : PE} (h : SE prog w G W stack d Φ e) (he : ∀ env whole, isTrue e.toE env whole = (do let v ← whole; standAt e.toE.pos; holding [v] (truthy v))) (hw : ∀ sc tab, wfE W sc tab true e = wfE W sc tab false e) : ST prog w G W stack d Φ e := by
  intro A s env tab ρ M σ Q E ar wf cx p
  refine wpAny_isTrue_value (wpAny_mono (h ar (hw _ _ ▸ wf) cx p) (fun v s₁ h₁ => ?_) fun _ _ e => e) (he env _)
  obtain ⟨b, rfl, q⟩ := h₁
  exact wpAny_truthy_bool q

theorem se_cmp {l r : PE} {op : CmpOp} {p : Pos} (hl : SE prog w G W stack d Φ l) (hr : SE prog w G W stack d Φ r) (hm : behindInMarks op r.toE = false) : SE prog w G W stack d Φ (.cmp l op r p) := by
  intro A s env tab ρ M σ Q E ar wf cx p
  dsimp only [evE_cmp] at p
  obtain ⟨w1, w2⟩ := and2 wf
  refine wpAny_Compare1 (wpAny_mono (hl ar w1 cx (Post.bind p)) (fun v s₁ h₁ => ?_) fun _ _ e => e) hm
  obtain ⟨x, σ₁, M₁, st, R, rv, p⟩ := h₁
  have cx := cx.step st R
  refine wpAny_mono (hr ar w2 cx (Post.bind p)) (fun u s₂ h₂ => ?_) fun _ _ e => e
  obtain ⟨y, σ₂, M₂, st₂, R₂, rv₂, p⟩ := h₂
  obtain ⟨b, hz, p⟩ := p.wit
  exact cmp_sound R₂ hz (rv.keep st₂.keeps0) rv₂ ar.cl fun tk => p.nowT (cx.step st₂ R₂) tk (.bool b)
theorem st_cmp {l r : PE} {op : CmpOp} {p : Pos} (hl : SE prog w G W stack d Φ l) (hr : SE prog w G W stack d Φ r) (hm : behindInMarks op r.toE = false) : ST prog w G W stack d Φ (.cmp l op r p) := by
  intro A s env tab ρ M σ Q E ar wf cx p
  dsimp only [evE_cmp] at p
  obtain ⟨w1, w2⟩ := and2 wf
  refine wpAny_isTrue_Compare1 (wpAny_mono (hl ar w1 cx (Post.bind p)) (fun v s₁ h₁ => ?_) fun _ _ e => e) hm
  obtain ⟨x, σ₁, M₁, st, R, rv, p⟩ := h₁
  have cx := cx.step st R
  refine wpAny_mono (hr ar w2 cx (Post.bind p)) (fun u s₂ h₂ => ?_) fun _ _ e => e
  obtain ⟨y, σ₂, M₂, st₂, R₂, rv₂, p⟩ := h₂
  obtain ⟨b, hz, p⟩ := p.wit
  exact cmp_sound R₂ hz (rv.keep st₂.keeps0) rv₂ ar.cl fun tk => wpAny_truthy_bool (p.nowB (cx.step st₂ R₂) tk)
theorem st_cmp2 {l m r : PE} {op op2 : CmpOp} {p : Pos} (hl : SE prog w G W stack d Φ l) (hm : SE prog w G W stack d Φ m) (hr : SE prog w G W stack d Φ r) (hk : lastMarks [op, op2] [m.toE, r.toE] = false) : ST prog w G W stack d Φ (.cmp2 l op m op2 r p) := by
  intro A s env tab ρ M σ Q E ar wf cx p
  dsimp only [evE_cmp2] at p
  obtain ⟨w1, w3⟩ := and2 (and2 wf).2
  obtain ⟨w1, w2⟩ := and2 w1
  refine isTrue_chain (wpAny_mono (hl ar w1 cx (Post.bind p)) (fun v s₁ h₁ => ?_) fun _ _ e => e) hk
  obtain ⟨x, σ₁, M₁, st, R, rv, p⟩ := h₁
  have cx := cx.step st R
  refine test_link (wpAny_mono (hm ar w2 cx (Post.bind p)) (fun u s₂ h₂ => ?_) fun _ _ e => e)
  obtain ⟨y, σ₂, M₂, st₂, R₂, rv₂, p⟩ := h₂
  have cx := cx.step st₂ R₂
  obtain ⟨b, hz, p⟩ := p.wit
  refine cmp_sound R₂ hz (rv.keep st₂.keeps0) rv₂ ar.cl fun tk => wpAny_truthy_bool ?_
  cases b with
  | false => exact p.nowB cx tk
  | true =>
    have cx' := cx
    refine test_last (wpAny_mono (hr (s := { s₂ with toks := tk }) ar w3 cx (Post.bind (Post.shift p (.refl cx.stay)))) (fun u₃ s₃ h₃ => ?_) fun _ _ e => e)
    obtain ⟨z, σ₃, M₃, st₃, R₃, rv₃, p⟩ := h₃
    obtain ⟨b, hz, p⟩ := p.wit
    exact cmp_sound R₃ hz (rv₂.keep st₃.keeps0) rv₃ ar.cl fun tk => wpAny_truthy_bool (p.nowB (cx'.step st₃ R₃) tk)

theorem st_nt {e : PE} {p : Pos} (h : ST prog w G W stack d Φ e) : ST prog w G W stack d Φ (.nt e p) := by
  intro A s env tab ρ M σ Q E ar wf cx p
  dsimp only [evE_nt] at p
  refine wpAny_isTrue_Not (h ar (and2 wf).2 cx (p.bindK fun x σ v h' tk M' st R rv p => ?_))
  obtain ⟨b, rfl, p⟩ := p.asBool rv
  exact ⟨b, rfl, Post.nowB (s := { s with heap := h', toks := tk }) p (cx.step st R) tk⟩
theorem se_neg {e : PE} {p : Pos} (h : SE prog w G W stack d Φ e) : SE prog w G W stack d Φ (.neg e p) := by
  intro A s env tab ρ M σ Q E ar wf cx p
  dsimp only [evE_neg] at p
  refine wpAny_UnaryOp (wpAny_mono (h ar wf cx (Post.bind p)) (fun v s₁ h₁ => ?_) fun _ _ e => e)
  obtain ⟨x, σ₁, M₁, st, R, rv, p⟩ := h₁
  obtain ⟨i, hi, p⟩ := p.wit
  obtain ⟨t, rfl⟩ := asI_rv hi rv
  exact P.neg_int (p.nowT (cx.step st R) _ (.int _ _))

theorem se_ife {t b o : PE} {p : Pos} (ht : ST prog w G W stack d Φ t) (hb : SE prog w G W stack d Φ b) (ho : SE prog w G W stack d Φ o) : SE prog w G W stack d Φ (.ife t b o p) := by
  intro A s env tab ρ M σ Q E ar wf cx p
  dsimp only [evE_ife] at p
  obtain ⟨w1, w3⟩ := and2 (and2 wf).2
  obtain ⟨w1, w2⟩ := and2 w1
  refine wpAny_IfExp (ht ar w1 cx (p.bindK fun x σ v h' tk M' st R rv p => ?_))
  obtain ⟨c, rfl, p⟩ := p.asBool rv
  refine ⟨c, rfl, ?_⟩
  cases c with
  | true => exact hb (s := { s with heap := h', toks := tk }) ar w2 (cx.step st R) p
  | false => exact ho (s := { s with heap := h', toks := tk }) ar w3 (cx.step st R) p

/-- several -/
theorem starEach_cons (e : PE) (r : List PySem.Expr) (env : Env) : starEach (e.toE :: r) env = (false, eval e.toE env) :: starEach r env := by cases e <;> rfl
theorem toEs_length : ∀ es : List PE, (toEs es).length = es.length
  | [] => rfl
  | e :: r => congrArg (· + 1) (toEs_length r)
theorem se_items {es : List PE} (h : ∀ e ∈ es, SE prog w G W stack d Φ e) {pos : Pos} : ∀ {A : Around} {s : Shared} {env : Env} {tab : List Str} {ρ : Vars} {M : Mem} {σ : St} {Q : List Value → Shared → Prop} {E : Value → Shared → Prop},
    Ar A stack d → wfEs W env.scope tab false es = true → Cx prog w G.base stack env tab ρ s.heap M σ → Posts prog w G s.heap M s (evEs Φ es ρ σ) (fun vs s' => vs.length = es.length → Q vs s') E → wpAny (model prog w) A (spliced (backTo pos (starEach (toEs es) env))) Q E s := by
  induction es with
  | nil => exact fun ar wf cx p => wpAny_items_nil (p [] _ _ _ (.refl cx.stay) cx.str .nil rfl)
  | cons e r ih =>
    intro A s env tab ρ M σ Q E ar wf cx p
    dsimp only [evEs_cons] at p
    obtain ⟨w1, w2⟩ := and2 wf
    refine wpAny_items_cons (wpAny_mono (h e (.head _) ar w1 cx (Post.bindPs p)) (fun v s₁ h₁ => ?_) fun _ _ e => e) (starEach_cons e _ env)
    obtain ⟨x, σ₁, M₁, st, R, rv, p⟩ := h₁
    have cx := cx.step st R
    refine ih (fun e he => h e (.tail _ he)) ar w2 cx (Res.wp_mono (fun xs σ₂ p vs h' tk M' st₂ R₂ rvs l => ?_) (fun _ q => q) (Res.wp_bind p))
    exact p (v :: vs) h' tk M' st₂ R₂ (.cons _ _ _ _ (rv.keep st₂.keeps0) rvs) (congrArg (· + 1) l)
theorem Posts.len {r : Res (List PV)} {Q : List Value → Shared → Prop} {n : Nat} (p : Posts prog w G h₀ M₀ s r Q E) : Posts prog w G h₀ M₀ s r (fun vs s' => vs.length = n → Q vs s') E :=
  Res.wp_mono (fun _ _ p v h' tk M' st R rv _ => p v h' tk M' st R rv) (fun _ q => q) p

theorem line {n m : Nat} (h : n = m) (c : decide (m ≤ 1000) = true) : n ≤ sizeLine := by
  have := of_decide_eq_true c; rw [sizeLine_eq]; omega
theorem se_tup {es : List PE} {k : Nat} {p : Pos} (h : ∀ e ∈ es, SE prog w G W stack d Φ e) : SE prog w G W stack d Φ (.tup es k p) := by
  intro A s env tab ρ M σ Q E ar wf cx p
  dsimp only [evE_tup] at p
  obtain ⟨w1, w2⟩ := and2 wf
  refine wpAny_Tuple (se_items h ar w1 cx (Res.wp_mono (fun xs σ₁ p vs h' tk M' st R rv l => ?_) (fun _ q => q) (Res.wp_bind p)))
  exact ⟨line l w2, RetP.newTup (s := { s with heap := h', toks := tk }) (fun v h'' tk' k rv => p v h'' tk' M' (st.trans (.of_keeps st.stay k)) (R.ofKeeps k) rv) R.live rfl rv tk⟩
theorem se_lst {es : List PE} {p : Pos} (h : ∀ e ∈ es, SE prog w G W stack d Φ e) : SE prog w G W stack d Φ (.lst es p) := by
  intro A s env tab ρ M σ Q E ar wf cx p
  dsimp only [evE_lst] at p
  obtain ⟨w1, w2⟩ := and2 wf
  refine wpAny_List (se_items h ar w1 cx (Res.wp_mono (fun xs σ₁ p vs h' tk M' st R rv l => ?_) (fun _ q => q) (Res.wp_bind p)))
  exact ⟨line l w2, RetP.newLst (s := { s with heap := h', toks := tk }) (fun v h'' tk' k rv => p v h'' tk' M' (st.trans (.of_keeps st.stay k)) (R.ofKeeps k) rv) R.live rfl rv tk⟩

theorem keeps_new {h : Heap} {M : Mem} (o : Obj) : Keeps2 h M (h.push o) (M ++ [h.objs.size]) := by
  refine ⟨fun a o' e n _ => ⟨Heap.get?_push_of_some _ e, fun m => ?_⟩, fun k a e => ?_⟩
  · rcases Mem.mem_append.mp m with m | m
    · exact n m
    · rw [List.mem_singleton] at m; subst m; exact sn e (get_size _)
  · rw [Mem.app_c, List.getElem?_append_left (List.getElem?_eq_some_iff.mp e).1]; exact e
/-- a new object of the store -/
theorem newCell {h : Heap} {M : Mem} {σ : St} {base : Heap} {o : Obj} {c : SC} (b : base.StaysIn h) (R : StR prog w base h M σ) (q : SCR prog w (h.push o) (M ++ [h.objs.size]) h.objs.size c) :
    Step base [] h M (h.push o) (M ++ [h.objs.size]) ∧ StR prog w base (h.push o) (M ++ [h.objs.size]) (σ ++ [c]) :=
  ⟨⟨fun a o' e _ _ => ⟨o', Heap.get?_push_of_some _ e, .refl o'⟩, fun a o' e => ⟨o', Heap.get?_push_of_some _ e⟩, ⟨[h.objs.size], rfl, fun a ha => by rw [List.mem_singleton] at ha; subst ha; exact get_size h⟩, fun a o' e => Heap.get?_push_of_some _ (b a o' e), fun a o' _ _ e => Heap.get?_push_of_some _ e⟩,
    R.new (keeps_new o) (fun _ _ e => Heap.get?_push_of_some _ e) (R.live.fresh (get_size h)) b.fresh q⟩
theorem at_end {M : Mem} {a : Addr} {n : Nat} (h : M.c.length = n) : (M ++ [a]).c[n]? = some a := by
  subst h; rw [Mem.app_c, List.getElem?_append_right (Nat.le_refl _), Nat.sub_self]; rfl
theorem se_mls {es : List PE} {p : Pos} (h : ∀ e ∈ es, SE prog w G W stack d Φ e) : SE prog w G W stack d Φ (.mls es p) := by
  intro A s env tab ρ M σ Q E ar wf cx p
  dsimp only [evE_mls] at p
  obtain ⟨w1, w2⟩ := and2 wf
  refine wpAny_List (se_items h ar w1 cx (Res.wp_mono (fun xs σ₁ p vs h' tk M' st R rv l => ?_) (fun _ q => q) (Res.wp_bind p)))
  obtain ⟨S, R'⟩ := newCell (c := .lst xs) (o := { cls := .type "list", data := .seq vs.toArray }) st.stay R ⟨vs, 0, IsL.new _ _, rv.keep (keeps_new _)⟩
  exact ⟨line l w2, p _ _ tk _ (st.trans S) R' (.cell _ _ (at_end R.len))⟩

theorem se_idx {o i : PE} {p : Pos} (ho : SE prog w G W stack d Φ o) (hi : SE prog w G W stack d Φ i) (hns : ∀ a b q, i.toE ≠ .Slice a b none q) : SE prog w G W stack d Φ (.idx o i p) := by
  intro A s env tab ρ M σ Q E ar wf cx p
  dsimp only [evE_idx] at p
  obtain ⟨w1, w2⟩ := and2 wf
  refine Subscript_ (wpAny_mono (ho ar w1 cx (Post.bind p)) (fun v s₁ h₁ => ?_) fun _ _ e => e)
  obtain ⟨x, σ₁, M₁, st, R, rv, p⟩ := h₁
  have cx := cx.step st R
  refine wpAny_mono (hi ar w2 cx (Post.bind p)) (fun u s₂ h₂ => ?_) fun _ _ e => e
  obtain ⟨y, σ₂, M₂, st₂, R₂, rv₂, p⟩ := h₂
  obtain ⟨z, hz, p⟩ := p.opt
  exact item_sound ar.cl R₂ hz (rv.keep st₂.keeps0) rv₂ (p.ret (cx.step st₂ R₂))
end
end Mine
end
-- part Q11
section
open PySem PySem.W PyProof.Rows
namespace Mine

theorem keeps_but {h h' : Heap} {M : Mem} {a : Addr} (hs : Heap.SameBut a h h') (ha : a ∈ M ∨ ∀ o, h.get? a = some o → ¬ SeqLike o) : Keeps2 h M h' M := by
  refine ⟨fun b o e n q => ⟨(hs.2 b fun z => ?_).trans e, n⟩, fun _ _ e => e⟩
  subst z
  rcases ha with m | m
  · exact n m
  · exact m o e q
section
variable {prog : Program} {w : World} {base : Heap} {h : Heap} {M : Mem} {σ : St}
/-- a list of the store turns -/
theorem updList {k : Nat} {a : Addr} {its : Array Value} {n : Nat} {xs' : List PV} {vs' : List Value} {f : Array Value → Array Value} (b : base.StaysIn h) (R : StR prog w base h M σ) (hk : M.c[k]? = some a)
    (hl : IsL h a its n) (r : RVs h M xs' vs') (e : f its = vs'.toArray) :
    Step base [] h M (h.update a (Obj.mapSeq f)) M ∧ StR prog w base (h.update a (Obj.mapSeq f)) M (σ.set k (.lst xs')) ∧ Keeps2 h M (h.update a (Obj.mapSeq f)) M := by
  have hm : a ∈ M := Mem.of_get hk
  have hs : Heap.SameBut a h (h.update a (Obj.mapSeq f)) := Heap.SameBut.update ..
  have K := keeps_but (M := M) hs (.inl hm)
  have hl' := hl.update f
  rw [e] at hl'
  exact ⟨.sameBut b hs hl' (.inl ⟨List.mem_of_getElem? hk, R.dis a (List.mem_of_getElem? hk)⟩) (R.old a hm), R.upd hk K (fun c _ hc => hs.2 c hc) ⟨vs', _, hl', r.keep K⟩, K⟩
end

section
variable {prog : Program} {w : World} {G : GT} {W : Wc} {stack : List Env} {d : Nat} {Φ : Phi}
variable {h₀ : Heap} {M₀ M : Mem} {s : Shared} {σ : St} {ρ : Vars} {env : Env} {tab : List Str} {A : Around} {E : Value → Shared → Prop} {Q : Value → Shared → Prop}

theorem se_slF {o lo : PE} {sp p : Pos} (ho : SE prog w G W stack d Φ o) (hi : SE prog w G W stack d Φ lo) : SE prog w G W stack d Φ (.slF o lo sp p) := by
  intro A s env tab ρ M σ Q E ar wf cx p
  dsimp only [evE_slF] at p
  obtain ⟨w1, w2⟩ := and2 wf
  refine Subscript_ (wpAny_mono (ho ar w1 cx (Post.bind p)) (fun v s₁ h₁ => ?_) fun _ _ e => e)
  obtain ⟨x, σ₁, M₁, st, R, rv, p⟩ := h₁
  have cx := cx.step st R
  refine wpAny_Slice ?_
  rw [evalPart_some]
  refine wpAny_mono (hi ar w2 cx (Post.bind p)) (fun u s₂ h₂ => ?_) fun _ _ e => e
  obtain ⟨y, σ₂, M₂, st₂, R₂, rv₂, p⟩ := h₂
  obtain ⟨z, hz, p⟩ := p.opt
  obtain ⟨i, hi, hc⟩ := fromAt_cut hz
  obtain ⟨t, rfl⟩ := asI_rv hi rv₂
  rw [evalPart_none]
  exact wpAny_pure (wpAny_pure (cut_sound R₂.live (.int i t) .none hc (rv.keep st₂.keeps0) (p.ret (cx.step st₂ R₂))))
theorem se_slT {o hi : PE} {sp p : Pos} (ho : SE prog w G W stack d Φ o) (hh : SE prog w G W stack d Φ hi) : SE prog w G W stack d Φ (.slT o hi sp p) := by
  intro A s env tab ρ M σ Q E ar wf cx p
  dsimp only [evE_slT] at p
  obtain ⟨w1, w2⟩ := and2 wf
  refine Subscript_ (wpAny_mono (ho ar w1 cx (Post.bind p)) (fun v s₁ h₁ => ?_) fun _ _ e => e)
  obtain ⟨x, σ₁, M₁, st, R, rv, p⟩ := h₁
  have cx := cx.step st R
  refine wpAny_Slice ?_
  rw [evalPart_none]
  refine wpAny_pure ?_
  rw [evalPart_some]
  refine wpAny_mono (hh ar w2 cx (Post.bind p)) (fun u s₂ h₂ => ?_) fun _ _ e => e
  obtain ⟨y, σ₂, M₂, st₂, R₂, rv₂, p⟩ := h₂
  obtain ⟨z, hz, p⟩ := p.opt
  obtain ⟨i, hi, hc⟩ := upTo_cut hz
  obtain ⟨t, rfl⟩ := asI_rv hi rv₂
  exact wpAny_pure (cut_sound R₂.live .none (.int i t) hc (rv.keep st₂.keeps0) (p.ret (cx.step st₂ R₂)))

/-- the operators between tests -/
theorem allTrue_cons {op : BoolOp} {x : PySem.Expr} {rest : List PySem.Expr} {Q : Bool → Shared → Prop} {M : Model}
    (h : wpAny M A (isTrue x env (eval x env)) (fun b s₁ => bif b == endB op then wpAny M A (allTrue op rest env) Q E s₁ else Q b s₁) E s) : wpAny M A (allTrue op (x :: rest) env) Q E s := by
  cases op with
  | And => exact wpAny_allTrue_And_cons (wpAny_mono h (fun b s₁ h => by cases b <;> exact h) fun _ _ e => e)
  | Or => exact wpAny_allTrue_Or_cons (wpAny_mono h (fun b s₁ h => by cases b <;> exact h) fun _ _ e => e)
theorem allTrue_sound {op : BoolOp} {vs : List PE} (h : ∀ e ∈ vs, ST prog w G W stack d Φ e) : ∀ {A : Around} {s : Shared} {env : Env} {tab : List Str} {ρ : Vars} {M : Mem} {σ : St} {Q : Bool → Shared → Prop} {E : Value → Shared → Prop},
    Ar A stack d → wfEs W env.scope tab true vs = true → Cx prog w G.base stack env tab ρ s.heap M σ → Post prog w G s.heap M s (evB Φ op vs ρ σ) (TQ Q) E → wpAny (model prog w) A (allTrue op (toEs vs) env) Q E s := by
  induction vs with
  | nil =>
    intro A s env tab ρ M σ Q E ar wf cx p
    have q : Q (endB op) s := p.nowB cx s.toks
    cases op with
    | And => exact wpAny_allTrue_And_nil q
    | Or => exact wpAny_allTrue_Or_nil q
  | cons e r ih =>
    intro A s env tab ρ M σ Q E ar wf cx p
    obtain ⟨w1, w2⟩ := and2 wf
    dsimp only [evB_cons] at p
    refine allTrue_cons (h e (.head _) ar w1 cx (p.bindK fun x σ v h' tk M' st R rv p => ?_))
    obtain ⟨b, rfl, p⟩ := p.asBool rv
    refine ⟨b, rfl, ?_⟩
    have cx := cx.step st R
    dsimp only
    cases hb : b == endB op with
    | true => rw [hb] at p; exact ih (fun e he => h e (.tail _ he)) (s := { s with heap := h', toks := tk }) ar w2 cx p
    | false => rw [hb] at p; exact Post.nowB (s := { s with heap := h', toks := tk }) p cx tk
theorem st_boo {op : BoolOp} {vs : List PE} {p : Pos} (h : ∀ e ∈ vs, ST prog w G W stack d Φ e) : ST prog w G W stack d Φ (.boo op vs p) := by
  intro A s env tab ρ M σ Q E ar wf cx p
  exact wpAny_isTrue_BoolOp (allTrue_sound h ar (and2 wf).1 cx p)
theorem boolOp_cons {op : BoolOp} {pos : Pos} {x y : Sem Value} {rest : List (Sem Value)} {M : Model}
    (h : wpAny M A x (fun v s₁ => ∃ b, v = .bool b ∧ bif b == endB op then wpAny M A (boolOp pos op (y :: rest)) Q E s₁ else Q v s₁) E s) : wpAny M A (boolOp pos op (x :: y :: rest)) Q E s := by
  show wpAny M A (do
        let v ← x
        standAt pos
        let t ← holding [v] (truthy v)
        match op, t with
        | .And, false | .Or, true => pure v
        | _, _ => boolOp pos op (y :: rest)) Q E s
  refine wpAny_bind (wpAny_mono h (fun v s₁ h => ?_) fun _ _ e => e)
  obtain ⟨b, rfl, h⟩ := h
  refine wpAny_bind (wpAny_standAt (wpAny_bind (wpAny_holding (wpAny_truthy_bool ?_))))
  cases op <;> cases b <;> first | exact h | exact wpAny_pure h
theorem boolOp_sound {op : BoolOp} {pos : Pos} {vs : List PE} (h : ∀ e ∈ vs, SE prog w G W stack d Φ e) : ∀ {A : Around} {s : Shared} {env : Env} {tab : List Str} {ρ : Vars} {M : Mem} {σ : St} {Q : Value → Shared → Prop} {E : Value → Shared → Prop},
    vs ≠ [] → Ar A stack d → wfEs W env.scope tab false vs = true → Cx prog w G.base stack env tab ρ s.heap M σ → Post prog w G s.heap M s (evB Φ op vs ρ σ) Q E → wpAny (model prog w) A (boolOp pos op (evalEach (toEs vs) env)) Q E s := by
  induction vs with
  | nil => exact fun hne => absurd rfl hne
  | cons e r ih =>
    intro A s env tab ρ M σ Q E _ ar wf cx p
    obtain ⟨w1, w2⟩ := and2 wf
    dsimp only [evB_cons] at p
    cases r with
    | nil =>
      refine h e (.head _) ar w1 cx (p.bindK fun x σ v h' tk M' st R rv p => ?_)
      obtain ⟨b, rfl, p⟩ := p.asBool rv
      have q : Post prog w G h' M' { s with heap := h', toks := tk } (.ok (.bool b) σ) Q E := by
        cases hb : b == endB op with
        | true => rw [hb] at p; rw [eq_of_beq hb]; exact p
        | false => rw [hb] at p; exact p
      exact Post.now (s := { s with heap := h', toks := tk }) q (cx.step st R) (.bool b)
    | cons e2 r2 =>
      refine boolOp_cons (h e (.head _) ar w1 cx (p.bindK fun x σ v h' tk M' st R rv p => ?_))
      obtain ⟨b, rfl, p⟩ := p.asBool rv
      refine ⟨b, rfl, ?_⟩
      have cx := cx.step st R
      cases hb : b == endB op with
      | true => rw [hb] at p; exact ih (fun e he => h e (.tail _ he)) (fun q => nomatch q) (s := { s with heap := h', toks := tk }) ar w2 cx p
      | false => rw [hb] at p; exact Post.now (s := { s with heap := h', toks := tk }) p cx (.bool b)
theorem se_boo {op : BoolOp} {vs : List PE} {p : Pos} (h : ∀ e ∈ vs, SE prog w G W stack d Φ e) : SE prog w G W stack d Φ (.boo op vs p) := by
  intro A s env tab ρ M σ Q E ar wf cx p
  obtain ⟨w1, w2⟩ := and2 wf
  dsimp only [toE_boo]
  rw [arm_eval_BoolOp]
  exact boolOp_sound h (fun q => by rw [q] at w2; exact nomatch w2) ar w1 cx p

theorem se_call (wd : Wd prog w G W stack d Φ) {f : Nat} {x : Str} {xp p : Pos} {as : List PE} (h : ∀ e ∈ as, SE prog w G W stack d Φ e) : SE prog w G W stack d Φ (.call f x xp as p) := by
  intro A s env tab ρ M σ Q E ar wf cx hp
  dsimp only [evE_call] at hp
  obtain ⟨w1, w4⟩ := and2 wf
  obtain ⟨w1, w2⟩ := and2 w1
  obtain ⟨_, w2, w3⟩ := gname_inv w2
  obtain ⟨mg, mb, g⟩ := wd.glo
  have w1 := eq_of_beq w1
  rw [← wd.fnn, List.getElem?_map] at w1
  obtain ⟨⟨_, a⟩, hf, rfl⟩ := Option.map_eq_some_iff.mp w1
  obtain ⟨o, fd, hbo, hod⟩ := g.fo f _ a hf
  refine Call_Name rfl (glob_sound cx.er (cx.glob g).1 w2 w3 (g.fn f _ a hf) ?_)
  have fin : ∀ {xs : List PV} {vs : List Value} {s₁ : Shared} {M₁ : Mem} {σ₁ : St}, Step G.base [] s.heap M s₁.heap M₁ → StR prog w G.base s₁.heap M₁ σ₁ → RVs s₁.heap M₁ xs vs → Post prog w G s₁.heap M₁ s₁ (Φ f xs σ₁) Q E →
      s₁.heap.get? a = some o ∧ wpAny (model prog w) A (call (.ref a) vs) Q E s₁ := fun st R rv p =>
    ⟨st.stay _ _ hbo, wd.phi A ar f _ a hf _ _ _ _ _ Q E st.stay (cx.ff.step0 st) R rv p⟩
  cases as with
  | nil =>
    refine Calls.callWith_function (o := o) (fd := fd) (PySem.evalArgs_none ?_)
    have := fin (.refl cx.stay) cx.str .nil hp
    exact ⟨⟨this.1, hod⟩, this.2⟩
  | cons e r =>
    refine callWith_def (o := o) (fd := fd) hod ?_ (starEach_cons e _ env)
    exact wpAny_mono (se_items (pos := p) h ar w4 cx (Posts.bind hp).len) (fun vs s₁ ⟨xs, σ₁, M₁, st, R, rv, p⟩ => fin st R rv p) fun _ _ e => e

theorem callWith_B {b : B} {e : PySem.Expr} {pos : Pos} (h : wpAny (model prog w) A (spliced (backTo pos (starEach [e] env))) (fun vs s₁ => wpAny (model prog w) A (call b.val vs) Q E s₁) E s)
    (he : starEach [e] env = [(false, eval e env)]) : wpAny (model prog w) A (callWith pos b.val [] (backTo pos (starEach [e] env)) []) Q E s := by
  cases b with
  | len => exact PyProof.Rows.callWith_builtin1 (id := "len") h he
  | sorted => exact PyProof.Rows.callWith_builtin1 (id := "sorted") h he
  | tuple => exact PyProof.Rows.callWith_type1 (T := "tuple") h he
  | int => exact PyProof.Rows.callWith_type1 (T := "int") h he
  | str => exact PyProof.Rows.callWith_type1 (T := "str") h he
  | range => exact PyProof.Rows.callWith_type1 (T := "range") h he
  | enumerate => exact PyProof.Rows.callWith_type1 (T := "enumerate") h he
  | dict => exact PyProof.Rows.callWith_type1 (T := "dict") h he
/-- a call of a built-in upon one value -/
theorem call_raw (wd : Wd prog w G W stack d Φ) {b : B} {x : Str} {xp p : Pos} {a : PE} (w1 : gname env.scope x b.nm = true) (cx : Cx prog w G.base stack env tab ρ s.heap M σ)
    (h : wpAny (model prog w) A (eval a.toE env) (fun v s₁ => wpAny (model prog w) A (call b.val [v]) Q E s₁) E s) : wpAny (model prog w) A (eval (.Call (.Name x xp) [a.toE] [] p) env) Q E s := by
  obtain ⟨rfl, w2', w3⟩ := gname_inv w1
  obtain ⟨mg, mb, g⟩ := wd.glo
  obtain ⟨b1, b2⟩ := g.bt b
  refine Call_Name rfl (blt_name cx.er (cx.glob g).1 (cx.glob g).2 w2' w3 b1 b2 (callWith_B ?_ (starEach_cons a [] env)))
  exact wpAny_items_cons (wpAny_mono h (fun v s₁ h₁ => wpAny_items_nil h₁) fun _ _ e => e) (starEach_cons a [] env)
theorem call_B (wd : Wd prog w G W stack d Φ) {b : B} {x : Str} {xp p : Pos} {a : PE} {f : PV → St → Res PV} (h : SE prog w G W stack d Φ a) (ar : Ar A stack d) (w1 : gname env.scope x b.nm = true) (w2 : wfE W env.scope tab false a = true) (cx : Cx prog w G.base stack env tab ρ s.heap M σ)
    (p' : Post prog w G s.heap M s ((evE Φ a ρ σ).bind f) Q E)
    (q : ∀ v s₁, Got prog w G s.heap M (fun x σ M' => Post prog w G s₁.heap M' s₁ (f x σ) Q E) v s₁ → wpAny (model prog w) A (call b.val [v]) Q E s₁) : wpAny (model prog w) A (eval (.Call (.Name x xp) [a.toE] [] p) env) Q E s :=
  call_raw wd w1 cx (wpAny_mono (h ar w2 cx (Post.bind p')) q fun _ _ e => e)
theorem se_blt (wd : Wd prog w G W stack d Φ) {b : B} {x : Str} {xp p : Pos} {a : PE} (h : SE prog w G W stack d Φ a) : SE prog w G W stack d Φ (.blt b x xp a p) := by
  intro A s env tab ρ M σ Q E ar wf cx p
  dsimp only [evE_blt] at p
  refine call_B wd h ar (and2 wf).1 (and2 wf).2 cx p fun v s₁ h₁ => ?_
  obtain ⟨z, σ₁, M₁, st, R, rv, p⟩ := h₁
  obtain ⟨y, hy, p⟩ := p.opt
  exact blt_sound R hy rv (p.ret (cx.step st R))

-- methods
theorem trees_one (e : PE) (pos : Pos) (env : Env) : backTo pos (starEach [e.toE] env) = [(false, eval e.toE env)] := by
  rw [starEach_cons]; rfl
theorem list_on {nm : Str} {a : Addr} {its : Array Value} {n : Nat} {pos : Pos} {trees : List (Bool × Sem Value)} {id : String} (hl : IsL s.heap a its n) (slot : Slot "list" nm id) (ty : typeOf (.builtin id) = pure (.type "method_descriptor"))
    (h : wpAny (model prog w) A (callWith pos (.builtin id) [.ref a] trees []) Q E s) : MethodOn prog w A nm pos (.ref a) trees Q E s :=
  ⟨"list", id, F.plainAttrs_list, slot, ty, hl.isList.typeIs, fun b e => by cases e; exact ⟨_, hl, rfl⟩, h⟩
theorem small_line {n : Nat} (c : small n = true) : n ≤ 1000000 := of_decide_eq_true c
theorem se_mth {m : Mt} {i : Nat} {x : Str} {xp ap p : Pos} {e : PE} (h : SE prog w G W stack d Φ e) : SE prog w G W stack d Φ (.mth m i x xp ap e p) := by
  intro A s env tab ρ M σ Q E ar wf cx p
  dsimp only [evE_mth] at p
  obtain ⟨w1, w3⟩ := and2 wf
  obtain ⟨w1, w2⟩ := and2 w1
  obtain ⟨z, hz, p⟩ := p.wit
  obtain ⟨k, hk, p⟩ := p.wit
  obtain ⟨_, hc, p⟩ := p.wit
  have hc := (gd_inv hc).1
  refine wpAny_Call_method_late rfl (by rw [trees_one]; cases m <;> rfl) w2 rfl (var_sound cx.er (eq_of_beq w1) hz fun v r => ?_)
  obtain ⟨a, rfl, ha⟩ := asC_rv hk r
  rw [trees_one]
  cases m with
  | append =>
    obtain ⟨xs, hx⟩ := Option.isSome_iff_exists.mp hc
    obtain ⟨_, vs, n, hl, ra⟩ := cx.str.lst hx ha
    refine list_on hl F.slot_list_append F.type_list_append (P.append_list (wpAny_mono (h ar w3 cx (Post.bind p)) (fun u s₁ h₁ => ?_) fun _ _ e => e))
    obtain ⟨y, σ₁, M₁, st, R, rv, p⟩ := h₁
    obtain ⟨xs, hx, p⟩ := p.wit
    obtain ⟨_, c, p⟩ := p.wit
    have ha := st.keeps0.mem k a ha
    obtain ⟨_, vs, n, hl, ra⟩ := R.lst hx ha
    obtain ⟨S, R, K⟩ := updList (f := fun xs => xs.push u) st.stay R ha hl (ra.snoc rv) (List.push_toArray ..)
    have c := small_line (gd_inv c).1
    have l := ra.length
    exact ⟨_, n, by rw [sizeLine_eq, List.size_toArray]; omega, hl, p .none _ s₁.toks M₁ S R .none⟩
  | extend =>
    obtain ⟨xs, hx⟩ := Option.isSome_iff_exists.mp hc
    obtain ⟨_, vs, n, hl, ra⟩ := cx.str.lst hx ha
    refine list_on hl F.slot_list_extend F.type_list_extend (P.extend_list (wpAny_mono (h ar w3 cx (Post.bind p)) (fun u s₁ h₁ => ?_) fun _ _ e => e))
    obtain ⟨y, σ₁, M₁, st, R, rv, p⟩ := h₁
    obtain ⟨xs, hx, p⟩ := p.wit
    obtain ⟨ys, hy, p⟩ := p.wit
    obtain ⟨_, c, p⟩ := p.wit
    have ha := st.keeps0.mem k a ha
    obtain ⟨_, vs, n, hl, ra⟩ := R.lst hx ha
    obtain ⟨us, b, n2, rfl, hb, mb, rb⟩ := asL_rv hy rv
    obtain ⟨S, R, K⟩ := updList (f := fun xs => xs ++ us.toArray) st.stay R ha hl (ra.append rb) (List.append_toArray ..)
    have c := small_line (gd_inv c).1
    have l := ra.length
    have l2 := rb.length
    refine ⟨b, vs.toArray, us.toArray, n, n2, by rw [sizeLine_eq, List.size_toArray]; omega, by rw [sizeLine_eq, List.size_toArray, List.size_toArray]; omega, fun q => ?_, rfl, hl, hb, p .none _ s₁.toks M₁ S R .none⟩
    have q := of_decide_eq_true (Bool.and_eq_true_iff.mp q).2
    rw [sizeLine_eq, List.size_toArray, List.size_toArray] at q
    omega
  | get =>
    obtain ⟨xs, hx⟩ := Option.isSome_iff_exists.mp hc
    obtain ⟨_, us, hd, _, hn, _⟩ := cx.str.dat hx ha
    obtain ⟨o, es, ep, ho, hxd, _⟩ := id hd
    refine ⟨"dict", "dict.get", F.plainAttrs_dict, F.slot_dict_get, F.type_dict_get, hd.typeIs, fun b e => by cases e; exact ⟨o, ho, hxd.2.1⟩, wpAny_dict_get1_heap (knd := tupleKind (intKind prog w)) (tupleKind_room_in1 (by have := ar.cl; omega)) hn (wpAny_mono (h ar w3 cx (Post.bind p)) (fun u s₁ h₁ => ?_) fun _ _ e => e)⟩
    obtain ⟨y, σ₁, M₁, st, R, rv, p⟩ := h₁
    obtain ⟨xs, hx, p⟩ := p.wit
    obtain ⟨q, hq, p⟩ := p.wit
    have ha := st.keeps0.mem k a ha
    obtain ⟨_, us, hd, _, _, hkk, ra⟩ := R.dat hx ha
    obtain ⟨b, rfl, hb, _⟩ := keyt_rv (prog := prog) (w := w) hq rv
    refine ⟨b, q, us, rfl, hb, hd, p.nowT (cx.step st R) _ ?_⟩
    have h1 := dat_at hkk ra q
    cases hl : xs.lookup q with
    | none => rw [hl] at h1; rw [h1]; exact .none
    | some z => rw [hl] at h1; obtain ⟨p, hp, r⟩ := h1; rw [hp]; exact r
theorem dropLast_erase (vs : List Value) : (vs.toArray.eraseIdxIfInBounds (vs.toArray.size - 1)) = vs.dropLast.toArray := by
  rcases Nat.eq_zero_or_pos vs.length with e | e
  · rw [List.length_eq_zero_iff.mp e]; rfl
  · rw [Array.eraseIdxIfInBounds_eq, dif_pos (by rw [List.size_toArray]; omega), List.eraseIdx_toArray, List.size_toArray, List.eraseIdx_length_sub_one]
theorem RVs.dropLast {xs : List PV} {vs : List Value} {h : Heap} (r : RVs h M xs vs) : RVs h M xs.dropLast vs.dropLast := by
  rw [List.dropLast_eq_take, List.dropLast_eq_take, r.length]
  exact r.take _
theorem se_pop {i : Nat} {x : Str} {xp ap p : Pos} : SE prog w G W stack d Φ (.pop i x xp ap p) := by
  intro A s env tab ρ M σ Q E ar wf cx p
  dsimp only [evE_pop] at p
  obtain ⟨w1, w2⟩ := and2 wf
  obtain ⟨z, hz, p⟩ := p.wit
  obtain ⟨k, hk, p⟩ := p.wit
  obtain ⟨xs, hx, p⟩ := p.wit
  obtain ⟨y, hy, p⟩ := p.wit
  obtain ⟨_, c, p⟩ := p.wit
  have c := small_line (gd_inv c).1
  refine wpAny_Call_method_late rfl rfl w2 rfl (var_sound cx.er (eq_of_beq w1) hz fun v r => ?_)
  obtain ⟨a, rfl, ha⟩ := asC_rv hk r
  obtain ⟨_, vs, n, hl, ra⟩ := cx.str.lst hx ha
  obtain ⟨u, hu, ru⟩ := ra.get (List.getLast?_eq_getElem?.symm.trans hy)
  obtain ⟨S, R, K⟩ := updList (f := fun xs => xs.eraseIdxIfInBounds (vs.toArray.size - 1)) cx.stay cx.str ha hl ra.dropLast (dropLast_erase vs)
  refine list_on hl F.slot_list_pop F.type_list_pop (P.pop_list hl (y := u) ?_ (p _ _ s.toks _ S R (ru.keep K)) ?_)
  · rw [ra.length] at hu; rw [List.size_toArray]; exact (List.getElem?_toArray ..).trans hu
  · rw [sizeLine_eq, List.size_toArray, ← ra.length]; omega

/-- the texts with fields -/
theorem se_fvl {e : PE} {p : Pos} (h : SE prog w G W stack d Φ e) : SE prog w G W stack d Φ (.fvl e p) := by
  intro A s env tab ρ M σ Q E ar wf cx p
  dsimp only [evE_fvl] at p
  refine wpAny_FormattedValue_plain (wpAny_mono (h ar wf cx (Post.bind p)) (fun v s₁ h₁ => ?_) fun _ _ e => e)
  obtain ⟨x, σ₁, M₁, st, R, rv, p⟩ := h₁
  obtain ⟨i, hi, p⟩ := p.wit
  obtain ⟨_, c, p⟩ := p.wit
  obtain ⟨t, rfl⟩ := asI_rv hi rv
  exact wpAny_formatField_int (by have := log2_small (of_decide_eq_true (gd_inv c).1); omega) (p.nowT (cx.step st R) _ (.str _ _))
theorem joins_sound {es : List PE} (h : ∀ e ∈ es, SE prog w G W stack d Φ e) : ∀ {s : Shared} {env : Env} {tab : List Str} {ρ : Vars} {M : Mem} {σ : St} {acc : Str} {Q : Value → Shared → Prop} {E : Value → Shared → Prop},
    Ar A stack d → wfEs W env.scope tab false es = true → Cx prog w G.base stack env tab ρ s.heap M σ → acc.length ≤ 100000 → Post prog w G s.heap M s (evJ Φ es acc ρ σ) Q E →
    Joins (model prog w) A E (evalEach (toEs es) env) acc (fun out s₁ => out.length ≤ sizeLine ∧ Q (.str out s₁.toks) { s₁ with toks := s₁.toks + 1 }) s := by
  induction es with
  | nil =>
    intro s env tab ρ M σ acc Q E ar wf cx hn p
    exact ⟨by rw [sizeLine_eq]; omega, p.nowT cx _ (.str _ _)⟩
  | cons e r ih =>
    intro s env tab ρ M σ acc Q E ar wf cx hn p
    obtain ⟨w1, w2⟩ := and2 wf
    dsimp only [evJ_cons] at p
    show wpAny (model prog w) A (eval e.toE env) (fun v s₁ => ∃ y t, v = .str y t ∧ (acc ++ y).length ≤ sizeLine ∧ Joins (model prog w) A E (evalEach (toEs r) env) (acc ++ y) _ s₁) E s
    refine h e (.head _) ar w1 cx (p.bindK fun x σ v h' tk M' st R rv p => ?_)
    obtain ⟨y, hy, p⟩ := p.wit
    obtain ⟨_, c, p⟩ := p.wit
    obtain ⟨t, rfl⟩ := asS_rv hy rv
    have c : (acc ++ y).length ≤ 100000 := (Str.length_append acc y).symm ▸ of_decide_eq_true (gd_inv c).1
    exact ⟨y, t, rfl, by rw [sizeLine_eq]; omega, ih (fun e he => h e (.tail _ he)) (s := { s with heap := h', toks := tk }) ar w2 (cx.step st R) c p⟩
theorem se_fst {es : List PE} {p : Pos} (h : ∀ e ∈ es, SE prog w G W stack d Φ e) : SE prog w G W stack d Φ (.fst es p) := by
  intro A s env tab ρ M σ Q E ar wf cx p
  obtain ⟨w1, w2⟩ := and2 wf
  match es, w2 with
  | e1 :: e2 :: r, _ => exact wpAny_JoinedStr (joins_sound (acc := Str.empty) h ar w1 cx (Nat.zero_le _) p)
end
end Mine
end
-- part QE
section
open PySem PySem.W PyProof.Rows PySem.AutoSeq1
namespace Mine

theorem meets_enumerate_newT (l : Addr) (items : Array Value) (n : Nat) :
    Meets (Builtin.«enumerate.__new__» ⟨[.type "enumerate", .ref l], []⟩) (fun _ R s => s.heap.get? l = some { cls := .type "tuple", dict := none, data := .seq items n, slots := #[] } ∧
      R (.ok (.ret (.ref (s.heap.push { cls := .type "tuple_iterator", data := .fields #[.ref l, .int 0 0] }).objs.size)))
        { s with heap := (s.heap.push { cls := .type "tuple_iterator", data := .fields #[.ref l, .int 0 0] }).push { cls := .type "enumerate", data := .fields #[.none, .bool false, .ref s.heap.objs.size, rawInt 0, .none, .none] } }) :=
  .of_wp fun prog w A R s h => by
    obtain ⟨hp, g, d, tk, os⟩ := s; obtain ⟨hl, h⟩ := h
    have hsub := sub_enumerate
    have hL : Heap.IsTuple (Shared.heap ⟨hp, g, d, tk, os⟩) l items := ⟨_, hl, rfl, n, rfl⟩
    wp_walk using wpAny_loadPart' hl
    refine wpAny_stack_any fun st => wpAny_pure ?_
    split
    · rename_i c _ _ _ _ _
      cases (c == Value.type "enumerate")
      · wp_walk using wpAny_loadPart' hl, wpAny_pyIter_tuple hL
        exact ⟨_, rfl, h⟩
      · wp_walk using wpAny_loadPart' hl, wpAny_pyIter_tuple hL
        exact ⟨_, rfl, h⟩
    · wp_walk using wpAny_loadPart' hl, wpAny_pyIter_tuple hL
      exact ⟨_, rfl, h⟩
section
variable {prog : Program} {w : World} {A : Around} {E : Value → Shared → Prop} {s : Shared}
theorem call_enumerate_tuple {l : Addr} {items : Array Value} {n : Nat} {Q : Value → Shared → Prop} (hl : IsT s.heap l items n)
    (h : ∀ h', IsEnum h' (s.heap.objs.size + 1) s.heap.objs.size 0 .none → h'.IsTupleIter s.heap.objs.size l 0 →
      (∀ b o, s.heap.get? b = some o → h'.get? b = some o) → Q (.ref (s.heap.objs.size + 1)) { s with heap := h' }) :
    wpAny (model prog w) A (call (.type "enumerate") [.ref l]) Q E s := by
  refine callType_new F.called_enumerate (by decide) (F.typeCall_enumerate_1 _) (F.newCall_enumerate_1 _) (fun obj => F.args_object_init_2 obj _) F.entry_enumerate_new
    (meets_enumerate_newT l items n) ⟨hl, ?_⟩
  have hz : (s.heap.push { cls := .type "tuple_iterator", data := .fields #[.ref l, .int 0 0] }).objs.size = s.heap.objs.size + 1 := Heap.size_push ..
  show _ ∧ _
  have he := Heap.get?_push_size (s.heap.push { cls := .type "tuple_iterator", data := .fields #[.ref l, .int 0 0] })
      (o := { cls := .type "enumerate", data := .fields #[.none, .bool false, .ref s.heap.objs.size, rawInt 0, .none, .none] }) rfl
  rw [hz] at he ⊢
  exact ⟨⟨_, he, rfl⟩, h _ he ⟨_, Heap.get?_push_of_some _ (Heap.get?_push_size _ rfl), rfl, rfl⟩ fun b o x => Heap.get?_push_of_some _ (Heap.get?_push_of_some _ x)⟩

/-- one step of a tuple's iterator -/
theorem next_tuple {it t : Addr} {i : Nat} {items : Array Value} {Q : Fin → Shared → Prop} (hh : A.handled = none) (hit : s.heap.IsTupleIter it t i) (ht : s.heap.IsTuple t items)
    (hQ : ∀ x h', items[i]? = some x → h'.IsTupleIter it t (i + 1) → Heap.SameBut it s.heap h' → Q (.done (.ret x)) { s with heap := h' })
    (hE : items[i]? = none → ∀ h' e, Heap.ExtBut it s.heap h' → (∃ o, h'.get? e = some o ∧ o.cls = .type "StopIteration") → E (.ref e) { s with heap := h' }) :
    wpAny (model prog w) A.in1 (Builtin.«tuple_iterator.__next__» ⟨[.ref it], []⟩) Q E s := by
  obtain ⟨o, ho, hc, hd⟩ := id hit
  obtain ⟨ol, hol, _, nl, hdl⟩ := ht
  show wpAny _ _ (field (.ref it) 0 >>= _) _ _ s
  refine wpAny_bind (wpAny_field ho hd (x := .ref t) rfl ?_)
  show wpAny _ _ (if (Value.ref t == Value.none) = true then _ else _) _ _ s
  rw [if_neg (show ¬ ((Value.ref t == Value.none) = true) from Bool.false_ne_true)]
  show wpAny _ _ (field (.ref it) 1 >>= _) _ _ s
  refine wpAny_bind (wpAny_field ho hd (x := .int i 0) rfl ?_)
  show wpAny _ _ (seqItems? (.ref t) >>= _) _ _ s
  refine wpAny_bind (wpAny_seqItems hol hdl ?_)
  cases hx : items[i]? with
  | some x =>
    simp only [Int.toNat_natCast, hx]
    refine wpAny_bind (wpAny_setField ho hd (Nat.lt_succ_self 1) (wpAny_pure (hQ x _ hx ?_ (Heap.SameBut.update ..))))
    exact ⟨_, Heap.get?_update_self _ ho (Obj.isFreed_of_fields (Obj.data_mapFields hd _)), (Obj.cls_mapFields ..).trans hc, Obj.data_mapFields hd _⟩
  | none =>
    simp only [Int.toNat_natCast, hx]
    refine wpAny_bind (wpAny_rule (wpAny_bind (wpAny_setField ho hd (Nat.lt_succ_of_lt (Nat.lt_succ_self 0)) ?_)))
    show wpAny _ _ (newExc (.type "StopIteration") [] >>= _) _ _ _
    refine wpAny_bind ?_
    simp only [newExc, newTuple]
    refine wpAny_bind (wpAny_newObj_type ?_ (by size_fits))
    refine wpAny_bind (m := firstArgMember _ _) (wpAny_of_eq (a := Value.none) (by first | rfl | (simp only [firstArgMember]; rfl)) ?_)
    refine wpAny_newObj_type ?_ (by size_fits)
    simp only [raiseNew]
    refine wpAny_bind (wpAny_handled ?_)
    rw [show A.in1.handled = none from hh]
    refine wpAny_bind (wpAny_pure (wpAny_throw ?_))
    exact hE hx _ _ (((Heap.SameBut.update ..).extBut.push _).push _) ⟨_, Heap.get?_push_size _ rfl, rfl⟩
theorem nextOf_tuple {it t : Addr} {i : Nat} {items : Array Value} {Q : Value → Shared → Prop} (hh : A.handled = none) (hit : s.heap.IsTupleIter it t i) (ht : s.heap.IsTuple t items)
    (hQ : ∀ x h', items[i]? = some x → h'.IsTupleIter it t (i + 1) → Heap.SameBut it s.heap h' → Q x { s with heap := h' })
    (hE : items[i]? = none → ∀ h' e, Heap.ExtBut it s.heap h' → (∃ o, h'.get? e = some o ∧ o.cls = .type "StopIteration") → E (.ref e) { s with heap := h' }) :
    wpAny (model prog w) A (Builtin.SmallTypes.nextOf (.ref it)) Q E s := by
  unfold Builtin.SmallTypes.nextOf
  exact wpAny_bind (wpAny_callSpecial?_slot (name := Str.ofString "__next__") hit.typeIs F.slot_tuple_iterator_next
    (wpAny_call_entry F.slot_tuple_iterator_next hit.typeIs F.entry_tuple_iterator_next (next_tuple hh hit ht (fun x h' a b c => ⟨_, rfl, wpAny_pure (hQ x h' a b c)⟩) hE) (F.args_tuple_iterator_next_1 _)))
theorem draws_tuple (hh : A.handled = none) (it l : Addr) (hne : l ≠ it) (items : Array Value) :
    Draws prog w A it [it, l] items.size (fun i v => items[i]? = some v) (fun i h => h.IsTupleIter it l i ∧ h.IsTuple l items) where
  live := fun _ _ st => let ⟨o, ho, _⟩ := st.1; ⟨o, ho⟩
  frame := fun _ _ _ st hk => ⟨st.1.at fun o e => hk it (.head _) o e, st.2.at fun o e => hk l (.tail _ (.head _)) o e⟩
  item := fun i s Q E hi st hQ => nextOf_tuple hh st.1 st.2 (fun x h' hx hit' hs' => hQ x h' s.toks hx ⟨hit', st.2.extBut hs'.extBut hne⟩ hs') fun q => by
    rw [Array.getElem?_eq_getElem hi] at q; cases q
  done := fun s Q E st hE => nextOf_tuple hh st.1 st.2 (fun x h' hx => by rw [Array.getElem?_eq_none (Nat.le_refl _)] at hx; cases hx) fun _ => hE
end
end Mine
end
-- part Q13
section
open PySem PySem.W PyProof.Rows
namespace Mine

noncomputable def IterLike (o : Obj) : Prop := ¬ DictData o ∧ ¬ SeqLike o
theorem iterLike_of {o : Obj} {T : String} {vs : Array Value} (hc : o.cls = .type T) (hd : o.data = .fields vs) (h2 : T ≠ "range" ∧ T ≠ "code") : IterLike o := by
  refine ⟨(by rintro ⟨es, ep, q⟩; rw [hd] at q; cases q), ?_⟩
  rintro (⟨_, xs, m, e⟩ | ⟨e | e, _⟩)
  · rw [hd] at e; cases e
  · rw [hc] at e; cases e; exact h2.1 rfl
  · rw [hc] at e; cases e; exact h2.2 rfl
/-- all stands but these -/
noncomputable def KK (wr : List Addr) (h h' : Heap) : Prop := ∀ b o, b ∉ wr → h.get? b = some o → h'.get? b = some o
theorem KK.trans {wr : List Addr} {h h' h'' : Heap} (x : KK wr h h') (y : KK wr h' h'') : KK wr h h'' := fun b o n e => y b o n (x b o n e)
theorem KK.mono {wr wr' : List Addr} {h h' : Heap} (x : KK wr h h') (s : ∀ a ∈ wr, a ∈ wr') : KK wr' h h' := fun b o n e => x b o (fun q => n (s b q)) e

/-- what is drawn from: the objects wr turn; xs comes -/
structure Itr (prog : Program) (w : World) (tg : Tgt) (h : Heap) (M : Mem) (I : Addr) (wr : List Addr) (xs : List PV) (St : Nat → Heap → Prop) : Prop where
  st0 : St 0 h
  frame : ∀ i h₁ M₁ h₂ M₂, St i h₁ → Keeps2 h M h₁ M₁ → Keeps2 h₁ M₁ h₂ M₂ → (∀ b ∈ wr, ∀ o, h₁.get? b = some o → h₂.get? b = some o) → St i h₂
  obj : ∀ i h₁, St i h₁ → ∀ b ∈ wr, ∃ o, h₁.get? b = some o ∧ IterLike o
  self : ∀ A : Around, A.handled = none → ∀ i (s : Shared) (Q : Value → Shared → Prop) (E : Value → Shared → Prop), St i s.heap → Q (.ref I) s → wpAny (model prog w) A (pyIter (.ref I)) Q E s
  item : ∀ A : Around, A.handled = none → ∀ i x (s : Shared) (Mh : Mem) (Q : Option Value → Shared → Prop) (E : Value → Shared → Prop), xs[i]? = some x → St i s.heap → Keeps2 h M s.heap Mh → Live s.heap Mh →
    (∀ v h₁ tk, (∀ (Q : Unit → Shared → Prop) (E : Value → Shared → Prop), (∀ h₂, RV h₂ Mh x v → St (i + 1) h₂ → KK wr s.heap h₂ → Q () { s with heap := h₂, toks := tk }) → wpAny (model prog w) A (letOwnedTupleGo tg.toE (.ref I) v) Q E { s with heap := h₁, toks := tk }) →
      Q (some v) { s with heap := h₁, toks := tk }) → wpAny (model prog w) A (pyNext (.ref I)) Q E s
  done : ∀ A : Around, A.handled = none → ∀ (s : Shared) (Q : Option Value → Shared → Prop) (E : Value → Shared → Prop), St xs.length s.heap → (∀ h' tk, KK wr s.heap h' → Q none { s with heap := h', toks := tk }) → wpAny (model prog w) A (pyNext (.ref I)) Q E s

section
variable {prog : Program} {w : World} {A : Around} {E : Value → Shared → Prop} {s : Shared} {M : Mem} {tg : Tgt}

/-- what owns no tuple lets none go -/
theorem owned_other {I : Addr} {o : Obj} {T : String} {vs : Array Value} {v : Value} {Q : Unit → Shared → Prop} (ho : s.heap.get? I = some o) (hc : o.cls = .type T) (hd : o.data = .fields vs)
    (hT : ["enumerate", "zip", "dict_itemiterator", "dict_reverseitemiterator", "odict_iterator", "itertools.zip_longest", "itertools.pairwise"].contains T = false) (q : Q () s) : wpAny (model prog w) A (letOwnedTupleGo tg.toE (.ref I) v) Q E s := by
  cases tg with
  | name => exact wpAny_pure q
  | pair =>
    unfold letOwnedTupleGo
    cases v with
    | ref a =>
      refine wpAny_bind (wpAny_load ho ?_)
      rw [hc, hd]
      show wpAny _ A (if (_ && vs[0]? == some (rawInt a)) = true then _ else _) Q E s
      rw [hT, Bool.false_and, if_neg Bool.false_ne_true]
      exact wpAny_pure q
    | _ => exact wpAny_pure q

theorem Itr.of {h : Heap} {I : Addr} {fp : List Addr} {xs : List PV} {P : Nat → Value → Prop} {St : Nat → Heap → Prop} {T : String} (W : ∀ A : Around, A.handled = none → Walks prog w A I fp [I] xs.length P St) (st0 : St 0 h) (hT : ["enumerate", "zip", "dict_itemiterator", "dict_reverseitemiterator", "odict_iterator", "itertools.zip_longest", "itertools.pairwise"].contains T = false) (hR : T ≠ "range" ∧ T ≠ "code")
    (val : ∀ i v, P i v → ∃ x, xs[i]? = some x ∧ RV h M x v) (fpOk : ∀ b ∈ fp, b = I ∨ (b ∉ M ∧ ∃ o, h.get? b = some o ∧ SeqLike o))
    (cls : ∀ i h', St i h' → ∃ o vs, h'.get? I = some o ∧ o.cls = .type T ∧ o.data = .fields vs) : Itr prog w tg h M I [I] xs St := by
  refine ⟨st0, fun i h₁ M₁ h₂ M₂ st K K' e => ?_, fun i h₁ st b hb => ?_, fun A hh i s Q E st q => (W A hh).self i s Q E st q, fun A hh i x s Mh Q E hx st K lv q => ?_, fun A hh s Q E st q => (W A hh).done s Q E st fun h' tk k => q h' tk k⟩
  · refine (W {} rfl).frame i h₁ h₂ st fun b hb o ho => ?_
    rcases fpOk b hb with rfl | ⟨m, o', e', sl⟩
    · exact e _ (.head _) o ho
    · obtain ⟨e1, m1⟩ := K.obj b o' e' m sl
      rw [e1] at ho; cases ho
      exact (K'.obj b _ e1 m1 sl).1
  · rw [List.mem_singleton.mp hb]
    obtain ⟨o, vs, ho, hc, hd⟩ := cls i h₁ st
    exact ⟨o, ho, iterLike_of hc hd hR⟩
  · refine (W A hh).item i s Q E (List.getElem?_eq_some_iff.mp hx).1 st fun v h' tk hp st' k => q v h' tk fun Q' E' q' => ?_
    obtain ⟨o, vs, ho, hc, hd⟩ := cls _ h' st'
    refine owned_other ho hc hd hT (q' h' ?_ st' k)
    obtain ⟨x', hx', r⟩ := val i v hp
    rw [hx] at hx'; cases hx'
    refine (r.keep K).keep ⟨fun b ob eb nb sl => ⟨k b ob (fun m => ?_) eb, nb⟩, fun _ _ e => e⟩
    rw [List.mem_singleton.mp m] at eb
    obtain ⟨o, vs, ho, hc, hd⟩ := cls i _ st
    rw [ho] at eb; cases eb
    exact (iterLike_of hc hd hR).2 sl

/-- an iterator over a value's items -/
theorem iter_sound {x : PV} {xs : List PV} {v : Value} {Q : Value → Shared → Prop} (hM : Live s.heap M) (he : elems x = some xs) (hv : RV s.heap M x v)
    (q : ∀ h' tk I wr St, (∀ b o, s.heap.get? b = some o → h'.get? b = some o) → (∀ a ∈ wr, s.heap.get? a = none) → Itr prog w tg h' M I wr xs St → Q (.ref I) { s with heap := h', toks := tk }) :
    wpAny (model prog w) A (pyIter v) Q E s := by
  have kp : ∀ (o' : Obj) b o, s.heap.get? b = some o → (s.heap.push o').get? b = some o := fun o' b o e => Heap.get?_push_of_some _ e
  have hI : ∀ a ∈ [s.heap.objs.size], s.heap.get? a = none := fun a ha => by rw [List.mem_singleton.mp ha]; exact get_size _
  have one : ∀ b ∈ [s.heap.objs.size], b = s.heap.objs.size ∨ (b ∉ M ∧ ∃ o, s.heap.get? b = some o ∧ SeqLike o) := fun b hb => .inl (List.mem_singleton.mp hb)
  cases x with
  | tup ys =>
    obtain ⟨c, e⟩ := gd_inv he
    subst e
    obtain ⟨vs, a, n, rfl, ha, ma, ra⟩ := hv
    have hl := ra.length
    have hne : a ≠ s.heap.objs.size := Nat.ne_of_lt (Heap.lt_size ha)
    have ht : s.heap.IsTuple a vs.toArray := ⟨_, ha, rfl, n, rfl⟩
    refine wpAny_pyIter_tuple ht (q (s.heap.push _) s.toks s.heap.objs.size [s.heap.objs.size] (fun i h => h.IsTupleIter s.heap.objs.size a i ∧ h.IsTuple a vs.toArray) (kp _) hI
      (Itr.of (fp := [s.heap.objs.size, a]) (P := fun i v => vs.toArray[i]? = some v) (T := "tuple_iterator") (fun A hA => ?_) ⟨⟨_, Heap.get?_push_size _ rfl, rfl, rfl⟩, ⟨_, kp _ _ _ ha, rfl, n, rfl⟩⟩ rfl (by decide) (fun i v hv => ?_) (fun b hb => ?_) fun i h' st => ?_))
    · rw [hl]; exact Walks.tuple hA s.heap.objs.size a hne vs.toArray
    · obtain ⟨x, hx, r⟩ := ra.get' (i := i) (v := v) ((List.getElem?_toArray ..).symm.trans hv)
      exact ⟨x, hx, r.keep (keeps_push _ _ _)⟩
    · rcases List.mem_cons.mp hb with q | q
      · exact .inl q
      · rw [List.mem_singleton.mp q]; exact .inr ⟨ma, _, kp _ _ _ ha, .inl ⟨.inl rfl, _, _, rfl⟩⟩
    · obtain ⟨⟨o, ho, hc, hd⟩, _⟩ := st
      exact ⟨o, _, ho, hc, hd⟩
  | lst ys =>
    obtain ⟨c, e⟩ := gd_inv he
    subst e
    obtain ⟨vs, a, n, rfl, ha, ma, ra⟩ := hv
    have hl := ra.length
    have hne : a ≠ s.heap.objs.size := Nat.ne_of_lt (Heap.lt_size ha)
    refine wpAny_pyIter_list ha.isList (q (s.heap.push _) s.toks s.heap.objs.size [s.heap.objs.size] (fun i h => h.IsListIter s.heap.objs.size a i ∧ h.IsList a vs.toArray) (kp _) hI
      (Itr.of (fp := [s.heap.objs.size, a]) (P := fun i v => vs.toArray[i]? = some v) (T := "list_iterator") (fun A hA => ?_) ⟨⟨_, Heap.get?_push_size _ rfl, rfl, rfl⟩, ⟨_, kp _ _ _ ha, rfl, n, rfl⟩⟩ rfl (by decide) (fun i v hv => ?_) (fun b hb => ?_) fun i h' st => ?_))
    · rw [hl]; exact Walks.list hA s.heap.objs.size a hne vs.toArray
    · obtain ⟨x, hx, r⟩ := ra.get' (i := i) (v := v) ((List.getElem?_toArray ..).symm.trans hv)
      exact ⟨x, hx, r.keep (keeps_push _ _ _)⟩
    · rcases List.mem_cons.mp hb with q | q
      · exact .inl q
      · rw [List.mem_singleton.mp q]; exact .inr ⟨ma, _, kp _ _ _ ha, .inl ⟨.inr rfl, _, _, rfl⟩⟩
    · obtain ⟨⟨o, ho, hc, hd⟩, _⟩ := st
      exact ⟨o, _, ho, hc, hd⟩
  | str x =>
    obtain ⟨c, e⟩ := gd_inv he
    subst e
    obtain ⟨t, rfl⟩ := hv
    have sz : (x.cps.toList.map fun c => PV.str ⟨#[c]⟩).length = x.cps.size := by rw [List.length_map]; rfl
    have val : ∀ (h' : Heap) i v, SignAt x i v → ∃ z, (x.cps.toList.map fun c => PV.str ⟨#[c]⟩)[i]? = some z ∧ RV h' M z v := by
      rintro h' i v ⟨c, u, hc, rfl⟩
      refine ⟨.str ⟨#[c]⟩, ?_, .str _ _⟩
      rw [List.getElem?_map, Array.getElem?_toList, hc]; rfl
    cases ha : x.cps.all (· < 128)
    · refine wpAny_pyIter_wide ha (q (s.heap.push _) s.toks s.heap.objs.size [s.heap.objs.size] (fun i h => h.IsStrIter s.heap.objs.size "str_iterator" x t i) (kp _) hI
        (Itr.of (fp := [s.heap.objs.size]) (P := SignAt x) (T := "str_iterator") (fun A hA => sz ▸ Walks.strWide hA _ x t) ⟨_, Heap.get?_push_size _ rfl, rfl, rfl⟩ rfl (by decide) (val _) (fun b hb => .inl (List.mem_singleton.mp hb)) fun i h' st => ?_))
      obtain ⟨o, ho, hc, hd⟩ := st
      exact ⟨o, _, ho, hc, hd⟩
    · refine wpAny_pyIter_ascii ha (q (s.heap.push _) s.toks s.heap.objs.size [s.heap.objs.size] (fun i h => h.IsStrIter s.heap.objs.size "str_ascii_iterator" x t i) (kp _) hI
        (Itr.of (fp := [s.heap.objs.size]) (P := SignAt x) (T := "str_ascii_iterator") (fun A hA => sz ▸ Walks.strAscii hA _ x t) ⟨_, Heap.get?_push_size _ rfl, rfl, rfl⟩ rfl (by decide) (val _) (fun b hb => .inl (List.mem_singleton.mp hb)) fun i h' st => ?_))
      obtain ⟨o, ho, hc, hd⟩ := st
      exact ⟨o, _, ho, hc, hd⟩
  | rng n =>
    obtain ⟨c, e⟩ := gd_inv he
    subst e
    have hn : n ≤ 1000000 := of_decide_eq_true c
    obtain ⟨a, t1, t2, t3, rfl, ha, ma⟩ := hv
    have hsz : Builtin.Range.rangeSize 0 (n : Int) 1 = (n : Int) := by
      unfold Builtin.Range.rangeSize
      simp
      omega
    have hsm : Builtin.Range.small 0 (n : Int) 1 = true := by
      have f : ∀ i : Int, 0 ≤ i → i ≤ 1000001 → Builtin.Range.rangeFitsLong i = true := fun i h1 h2 => by
        unfold Builtin.Range.rangeFitsLong
        simp
        omega
      unfold Builtin.Range.small
      rw [hsz, f 0 (by omega) (by omega), f n (by omega) (by omega), f 1 (by omega) (by omega)]
      simp
      exact .inr (f _ (by omega) (by omega))
    have sz : ((List.range n).map fun (i : Nat) => PV.int (i : Int)).length = n := by rw [List.length_map, List.length_range]
    refine wpAny_pyIter_range ha hsm (q (s.heap.push _) s.toks s.heap.objs.size [s.heap.objs.size] (fun i h => IsRangeIter h s.heap.objs.size (0 + (i : Nat) * 1) ((n : Int) - (i : Nat)) 1) (kp _) hI
      (Itr.of (fp := [s.heap.objs.size]) (P := fun i v => ∃ t, i < n ∧ v = .int (0 + (i : Nat) * 1) t) (T := "range_iterator") (fun A hA => ?_) ?_ rfl (by decide) (fun i v hv => ?_) (fun b hb => .inl (List.mem_singleton.mp hb)) fun i h' st => ⟨_, _, st, rfl, rfl⟩))
    · rw [sz]
      have W := Walks.range (prog := prog) (w := w) hA s.heap.objs.size 0 1 n
      exact ⟨W.sub, W.frame, fun i s Q E hi st hQ => W.item i s Q E hi st fun v h' tk hv => hQ v h' tk (by obtain ⟨t, e⟩ := hv; exact ⟨t, hi, e⟩), W.done, W.self⟩
    · rw [hsz]; exact Heap.get?_push_size _ rfl
    · obtain ⟨t, hi, rfl⟩ := hv
      refine ⟨.int (i : Nat), ?_, t, ?_⟩
      · rw [List.getElem?_map, List.getElem?_range hi]; rfl
      · rw [Int.zero_add, Int.mul_one]
  | _ => exact nomatch he

theorem pairs_at : ∀ {ys : List PV} {n i : Nat} {x : PV}, (pairs n ys)[i]? = some x → ∃ y, ys[i]? = some y ∧ x = .tup [.int ((n + i : Nat) : Int), y]
  | [], _, _, _, e => nomatch e
  | y :: r, n, 0, _, e => ⟨y, rfl, (Option.some.inj e).symm⟩
  | y :: r, n, i + 1, _, e => by
    obtain ⟨z, hz, q⟩ := pairs_at (ys := r) (n := n + 1) (i := i) e
    exact ⟨z, hz, by rw [q, Nat.add_assoc, Nat.add_comm 1 i]⟩
theorem pairs_length : ∀ (ys : List PV) (n : Nat), (pairs n ys).length = ys.length
  | [], _ => rfl
  | _ :: r, n => congrArg (· + 1) (pairs_length r (n + 1))
/-- an enumeration of a tuple's items -/
theorem enum_sound {z : Str × Pos × Pos} {x : PV} {xs : List PV} {v : Value} {Q : Value → Shared → Prop} (hp : tg.isPair = true) (hM : Live s.heap M) (he : srcv (some z) x = some xs) (hv : RV s.heap M x v)
    (q : ∀ h' I wr St, (∀ b o, s.heap.get? b = some o → h'.get? b = some o) → (∀ a ∈ wr, s.heap.get? a = none) → Itr prog w tg h' M I wr xs St → Q (.ref I) { s with heap := h' }) :
    wpAny (model prog w) A (call (.type "enumerate") [v]) Q E s := by
  obtain ⟨ys, hy, he⟩ := Option.bind_eq_some_iff.mp he
  obtain ⟨c, e⟩ := gd_inv he
  subst e
  obtain ⟨vs, l, n, rfl, hl, ml, ra⟩ := asT_rv hy hv
  have hlt := Heap.lt_size hl
  refine call_enumerate_tuple hl fun h' hE hI k0 => ?_
  have n1 : s.heap.get? (s.heap.objs.size + 1) = none := Heap.get?_none_of_le (Nat.le_succ _)
  have hl' : IsT h' l vs.toArray n := k0 _ _ hl
  have hei : s.heap.objs.size + 1 ≠ s.heap.objs.size := Nat.succ_ne_self _
  have hle : l ≠ s.heap.objs.size + 1 := Nat.ne_of_lt (Nat.lt_succ_of_lt hlt)
  have hli : l ≠ s.heap.objs.size := Nat.ne_of_lt hlt
  have D : ∀ A : Around, A.handled = none → _ := fun A hh => draws_tuple (prog := prog) (w := w) (A := A.in1) hh s.heap.objs.size l hli vs.toArray
  have hef : s.heap.objs.size + 1 ∉ [s.heap.objs.size, l] := fun m => by
    rcases List.mem_cons.mp m with m | m
    · exact hei m
    · exact hle (List.mem_singleton.mp m).symm
  have two : ∀ {b : Addr} {P : Prop}, b ∈ [s.heap.objs.size + 1, s.heap.objs.size] → (b = s.heap.objs.size + 1 → P) → (b = s.heap.objs.size → P) → P := fun m f g => by
    rcases List.mem_cons.mp m with m | m
    · exact f m
    · exact g (List.mem_singleton.mp m)
  refine q h' _ [s.heap.objs.size + 1, s.heap.objs.size] (fun i h => (∃ old, IsEnum h (s.heap.objs.size + 1) s.heap.objs.size i old) ∧ h.IsTupleIter s.heap.objs.size l i ∧ h.IsTuple l vs.toArray) k0
    (fun a ha => two ha (fun q => q ▸ n1) (fun q => q ▸ get_size _))
    ⟨⟨⟨_, hE⟩, hI, _, hl', rfl, n, rfl⟩, fun i h₁ M₁ h₂ M₂ st K K' e => ?_, fun i h₁ st b hb => ?_, fun A hh i s' Q' E' st q => ?_, fun A hh i x s' Mh Q' E' hx st K lv q => ?_, fun A hh s' Q' E' st q => ?_⟩
  · obtain ⟨⟨old, h1⟩, h2, h3⟩ := st
    obtain ⟨e1, m1⟩ := K.obj l _ hl' ml (.inl ⟨.inl rfl, _, _, rfl⟩)
    exact ⟨⟨old, e _ (.head _) _ h1⟩, h2.at fun o ho => e _ (.tail _ (.head _)) o ho, h3.at fun o ho => by rw [e1] at ho; cases ho; exact (K'.obj l _ e1 m1 (.inl ⟨.inl rfl, _, _, rfl⟩)).1⟩
  · obtain ⟨⟨old, h1⟩, ⟨o, ho, hc, hd⟩, h3⟩ := st
    exact two hb (fun q => q ▸ ⟨_, h1, iterLike_of (T := "enumerate") rfl rfl (by decide)⟩) fun q => q ▸ ⟨o, ho, iterLike_of hc hd (by decide)⟩
  · obtain ⟨⟨old, h1⟩, _⟩ := st
    exact wpAny_pyIter_enum h1 q
  · obtain ⟨⟨old, h1⟩, h2⟩ := st
    obtain ⟨y, hy, rfl⟩ := pairs_at hx
    obtain ⟨u, hu, ru⟩ := ra.get hy
    have hi : i < vs.toArray.size := (List.getElem?_eq_some_iff.mp hu).1
    refine wpAny_pyNext_enum_itemD (D A hh) h1 h2 hi hei hef fun u' h₁ tk hu' ho hs hT hz kk => q _ h₁ (tk + 1) fun Q'' E'' q' => ?_
    have eu : u' = u := Option.some.inj (hu'.symm.trans ((List.getElem?_toArray ..).trans hu))
    subst eu
    obtain ⟨o2, ho2, hc2, hd2⟩ := id h2.1
    have lt1 := Heap.lt_size h1
    have lt2 := Heap.lt_size ho2
    have K₁ : Keeps2 s'.heap Mh h₁ Mh := ⟨fun b o eb nb sl => ⟨kk b o (fun m => by subst m; rw [h1] at eb; cases eb; exact (iterLike_of (T := "enumerate") rfl rfl (by decide)).2 sl) (fun m => by subst m; rw [ho2] at eb; cases eb; exact (iterLike_of hc2 hd2 (by decide)).2 sl) eb, nb⟩, fun _ _ e => e⟩
    cases tg with
    | name => exact nomatch hp
    | pair =>
    refine wpAny_letOwnedTupleGo_enum ho fun h₂ he₂ hs₂ => ?_
    replace hs₂ : Heap.SameBut _ h₁ h₂ := hs₂
    have K₂ : Keeps2 h₁ Mh h₂ Mh := ⟨fun b o eb nb sl => ⟨(hs₂.2 b fun m => by subst m; rw [ho] at eb; cases eb; exact (iterLike_of (T := "enumerate") rfl rfl (by decide)).2 sl).trans eb, nb⟩, fun _ _ e => e⟩
    have hT₂ : IsT h₂ s'.heap.objs.size [.int ((0 + i : Nat) : Int) tk, u'].toArray 0 := by
      rw [Nat.zero_add]; exact (hs₂.2 _ (Nat.ne_of_gt lt1)).trans hT
    refine q' h₂ (.tup _ _ _ _ hT₂ (lv.fresh (get_size _)) (.cons _ _ _ _ (.int _ _) (.cons _ _ _ _ ((((ru.keep (keeps_all M k0)).keep K).keep K₁).keep K₂) .nil))) ⟨⟨u', he₂⟩, hs.1.at fun o e => (hs₂.2 _ hei.symm).trans e, hs.2.at fun o e => (hs₂.2 _ hle).trans e⟩ fun b o nb e => ?_
    · have n1 : b ≠ _ := fun m => nb (m ▸ .head _)
      exact (hs₂.2 b n1).trans (kk b o n1 (fun m => nb (m ▸ .tail _ (.head _))) e)
  · obtain ⟨⟨old, h1⟩, h2⟩ := st
    rw [pairs_length, ra.length] at h1 h2
    exact wpAny_pyNext_enum_endD (D A hh) h1 h2 fun h₁ hx => q h₁ s'.toks fun b o nb e => hx b o (fun m => nb (m ▸ .tail _ (.head _))) e
end
end Mine
end
-- part Q14
section
open PySem PySem.W PyProof.Rows
namespace Mine

noncomputable def Mem.hide (M : Mem) (D : Addr) : Mem := ⟨M.c, D :: M.z⟩
theorem Mem.hide_mem {M : Mem} {D a : Addr} (m : a ∈ M.hide D) : a ∈ M ∨ a = D := by
  rcases m with m | m
  · exact .inl (.inl m)
  · rcases List.mem_cons.mp m with q | m
    · exact .inr q
    · exact .inl (.inr m)

section
variable {prog : Program} {w : World} {base : Heap} {stack : List Env} {h₀ h h' : Heap} {M₀ M M' : Mem} {σ σ' : St} {env : Env} {tab : List Str} {ρ : Vars}
theorem B3X.ev (x : B3 prog w base stack h₀ M₀ h M σ) (s : Step base [] h M h' M') (R : StR prog w base h' M' σ') : B3 prog w base stack h₀ M₀ h' M' σ' :=
  ⟨x.stay, x.step.trans s, R, x.ff.step0 s⟩
/-- the frames were there -/
noncomputable def Old (stack : List Env) (h₀ : Heap) : Prop := ∀ env ∈ stack, ∀ L, env.frame = some L → ∃ o, h₀.get? L = some o
theorem FF.old (x : FF h₀ base M₀ stack) : Old stack h₀ := fun env he L hL => by
  obtain ⟨_, L', o, a1, _, a2, _⟩ := x env he
  rw [hL] at a1; cases a1; exact ⟨o, a2⟩
/-- new objects turn, or go -/
theorem B3X.turn {X : List Addr} (x : B3 prog w base stack h₀ M₀ h M σ) (old : Old stack h₀) (hn : ∀ a ∈ X, h₀.get? a = none) (nM : ∀ a ∈ X, a ∉ M.c) (k : KK X h h') (ed : ∀ a ∈ X, a ∈ M.z → ∃ o, h'.get? a = some o)
    (ns : ∀ a ∈ X, a ∉ M → ∀ o, h.get? a = some o → ¬ SeqLike o) : B3 prog w base stack h₀ M₀ h' M σ ∧ Keeps2 h M h' M := by
  have ne : ∀ b o, h₀.get? b = some o → b ∉ X := fun b o e m => sn e (hn b m)
  have K : Keeps2 h M h' M := ⟨fun a o e n sq => ⟨k a o (fun m => ns a m n o e sq) e, n⟩, fun _ _ e => e⟩
  refine ⟨⟨x.stay, ⟨fun b o e n nx => ?_, fun b o e => ?_, x.step.grow, fun b o e => k b o (ne b o (x.stay b o e)) (x.step.stay b o e), fun b o m nx e => k b o (ne b o e) (x.step.zk b o m nx e)⟩,
    ⟨x.str.len, x.str.nodup, fun a m => ?_, x.str.old, fun j c a hk ha => ?_, x.str.dis⟩, fun env he => ?_⟩, K⟩
  · obtain ⟨o', e', s⟩ := x.step.keep b o e n nx
    exact ⟨o', k b o' (ne b o e) e', s⟩
  · obtain ⟨o', e'⟩ := x.step.there b o e
    exact ⟨o', k b o' (ne b o e) e'⟩
  · by_cases q : a ∈ X
    · exact ed a q m
    · obtain ⟨o, z⟩ := x.str.out a m; exact ⟨o, k a o q z⟩
  · obtain ⟨o, e⟩ := x.str.live a (Mem.of_get ha)
    exact SCR.keep K ((k a o (fun m => nM a m (List.mem_of_getElem? ha)) e).trans e.symm) (x.str.at_ j c a hk ha)
  · obtain ⟨hk, L, o', a1, a2, a3, a4, a5, a6⟩ := x.ff env he
    obtain ⟨o, e⟩ := old env he L a1
    exact ⟨hk, L, o', a1, a2, k L o' (ne L o e) a3, a4, a5, a6⟩
/-- what is not the frame's turns -/
theorem EnvR.turn {X : List Addr} (x : EnvR h M env tab ρ) (K : Keeps2 h M h' M) (k : KK X h h') (hO : ∀ a ∈ X, ¬ Owns env tab a) : EnvR h' M env tab ρ :=
  x.move K fun b hb o e n => ⟨n, o, k b o (fun m => hO b m hb) e, .refl o⟩
theorem keeps_hide {o : Obj} : Keeps2 h M (h.push o) (M.hide h.objs.size) := by
  refine ⟨fun a o' e n _ => ⟨Heap.get?_push_of_some _ e, ?_⟩, fun _ _ e => e⟩
  rintro (m | m)
  · exact n (.inl m)
  · rcases List.mem_cons.mp m with q | m
    · subst q; exact sn e (get_size _)
    · exact n (.inr m)
theorem B3X.hidePush (x : B3 prog w base stack h₀ M₀ h M σ) (o : Obj) (hf : o.isFreed = false) : B3 prog w base stack h₀ (M₀.hide h.objs.size) (h.push o) (M.hide h.objs.size) σ := by
  have K : Keeps2 h M (h.push o) (M.hide h.objs.size) := keeps_hide
  refine ⟨x.stay, ⟨fun a o' e n nx => ?_, fun a o' e => ?_, ?_, fun a o' e => Heap.get?_push_of_some _ (x.step.stay a o' e), fun a o' m nx e => ?_⟩, ⟨x.str.len, x.str.nodup, fun a m => ?_, fun a m => ?_, fun j c a hk ha => ?_, fun a ha hz => ?_⟩, fun env he => ?_⟩
  · obtain ⟨o'', e', s⟩ := x.step.keep a o' e n nx
    exact ⟨o'', Heap.get?_push_of_some _ e', s⟩
  · obtain ⟨o'', e'⟩ := x.step.there a o' e
    exact ⟨o'', Heap.get?_push_of_some _ e'⟩
  · obtain ⟨N, rfl, hN⟩ := x.step.grow
    exact ⟨N, rfl, hN⟩
  · rcases List.mem_cons.mp m with q | m
    · subst q; exact sn e (x.step.back (get_size _))
    · exact Heap.get?_push_of_some _ (x.step.zk a o' m nx e)
  · rcases List.mem_cons.mp m with q | m
    · subst q; exact ⟨_, Heap.get?_push_size h hf⟩
    · obtain ⟨o', e⟩ := x.str.out a m
      exact ⟨o', Heap.get?_push_of_some _ e⟩
  · rcases m with m | m
    · exact x.str.old a (.inl m)
    · rcases List.mem_cons.mp m with q | m
      · subst q; exact x.step.stay.fresh
      · exact x.str.old a (.inr m)
  · obtain ⟨o', e⟩ := x.str.live a (Mem.of_get ha)
    exact SCR.keep K ((Heap.get?_push_of_some _ e).trans e.symm) (x.str.at_ j c a hk ha)
  · rcases List.mem_cons.mp hz with q | m
    · subst q; exact sne (x.str.live _ (.inl ha)) (get_size _)
    · exact x.str.dis a ha m
  · obtain ⟨hk, L, o', a1, a2, a3, a4, a5, a6⟩ := x.ff env he
    refine ⟨hk, L, o', a1, a2, Heap.get?_push_of_some _ a3, a4, ?_, a6⟩
    rintro (m | m)
    · exact a5 (.inl m)
    · rcases List.mem_cons.mp m with q | m
      · subst q; rw [get_size] at a3; cases a3
      · exact a5 (.inr m)
noncomputable def Mem.bare (M M₀ : Mem) : Mem := ⟨M.c, M₀.z⟩
theorem B3X.unhide {D : Addr} (x : B3 prog w base stack h₀ (M₀.hide D) h M σ) : B3 prog w base stack h₀ M₀ h (M.bare M₀) σ ∧ Keeps2 h M h (M.bare M₀) ∧ ∀ a, a ∈ M.bare M₀ → a ∈ M := by
  obtain ⟨N, rfl, hN⟩ := x.step.grow
  have sub : ∀ a, a ∈ ((M₀.hide D ++ N).bare M₀) → a ∈ (M₀.hide D ++ N) := by
    rintro a (m | m)
    · exact .inl m
    · exact .inr (List.mem_cons_of_mem _ m)
  have K : Keeps2 h (M₀.hide D ++ N) h ((M₀.hide D ++ N).bare M₀) := ⟨fun a o e n _ => ⟨e, fun m => n (sub a m)⟩, fun _ _ e => e⟩
  refine ⟨⟨x.stay, ⟨x.step.keep, x.step.there, ⟨N, rfl, hN⟩, x.step.stay, fun a o m nx e => x.step.zk a o (List.mem_cons_of_mem _ m) nx e⟩, ⟨x.str.len, x.str.nodup, fun a m => x.str.out a (List.mem_cons_of_mem _ m), fun a m => x.str.old a (sub a m), fun j c a hk ha => SCR.keep K rfl (x.str.at_ j c a hk ha), fun a ha hz => x.str.dis a ha (List.mem_cons_of_mem _ hz)⟩, fun env he => ?_⟩, K, sub⟩
  obtain ⟨hk, L, o', a1, a2, a3, a4, a5, a6⟩ := x.ff env he
  exact ⟨hk, L, o', a1, a2, a3, a4, fun m => a5 (sub L m), a6⟩
end

/-- a comprehension's captured cells -/
noncomputable def clOf (cells : List (Str × Addr)) : List (Str × NameKind) → List (Str × Addr) → List (Str × Addr)
  | [], acc => acc
  | (n, k) :: r, acc => if k == .free then clOf cells r ((n, (cells.lookup n).getD 0) :: acc) else clOf cells r acc
theorem clOf_has {cells : List (Str × Addr)} : ∀ {names : List (Str × NameKind)} {acc : List (Str × Addr)} {x : Str} {c : Addr}, (∀ q ∈ names, q.2 = .free → ∃ c, cells.lookup q.1 = some c) → (∀ x c, acc.lookup x = some c → cells.lookup x = some c) →
    (clOf cells names acc).lookup x = some c → cells.lookup x = some c
  | [], acc, x, c, _, ha, h => ha x c h
  | (n, k) :: r, acc, x, c, hn, ha, h => by
    unfold clOf at h
    by_cases hk : (k == NameKind.free) = true
    · rw [if_pos hk] at h
      refine clOf_has (fun q hq => hn q (.tail _ hq)) (fun y d hy => ?_) h
      rw [List.lookup_cons] at hy
      by_cases q : (y == n) = true
      · rw [q] at hy
        obtain ⟨c', hc'⟩ := hn (n, k) (.head _) (eq_of_beq hk)
        have := beq_iff_eq.mp q
        subst this
        rw [hc'] at hy ⊢
        exact hy
      · have q' : (y == n) = false := by simpa using q
        rw [q'] at hy; exact ha y d hy
    · rw [if_neg hk] at h
      exact clOf_has (fun q hq => hn q (.tail _ hq)) ha h
theorem clOf_some {cells : List (Str × Addr)} : ∀ {names : List (Str × NameKind)} {acc : List (Str × Addr)} {x : Str}, ((∃ c, acc.lookup x = some c) ∨ ∃ k ∈ names, k.1 = x ∧ k.2 = .free) → ∃ c, (clOf cells names acc).lookup x = some c
  | [], acc, x, h => by
    rcases h with h | ⟨k, hk, _⟩
    · exact h
    · cases hk
  | (n, k) :: r, acc, x, h => by
    unfold clOf
    by_cases hk : (k == NameKind.free) = true
    · rw [if_pos hk]
      refine clOf_some ?_
      rcases h with ⟨c, hc⟩ | ⟨q, hq, h1, h2⟩
      · left
        rw [List.lookup_cons]
        by_cases q : (x == n) = true
        · rw [q]; exact ⟨_, rfl⟩
        · have q' : (x == n) = false := by simpa using q
          rw [q']; exact ⟨c, hc⟩
      · rcases List.mem_cons.mp hq with rfl | hq
        · left
          rw [List.lookup_cons]
          subst h1
          simp
        · exact .inr ⟨q, hq, h1, h2⟩
    · rw [if_neg hk]
      refine clOf_some ?_
      rcases h with h | ⟨q, hq, h1, h2⟩
      · exact .inl h
      · rcases List.mem_cons.mp hq with rfl | hq
        · exact absurd (by simpa using h2) hk
        · exact .inr ⟨q, hq, h1, h2⟩
theorem closureFor_eq {scope : Scope} {env : Env} (hn : ∀ q ∈ scope.names, q.2 = .free → ∃ c, env.cells.lookup q.1 = some c) : closureFor scope env = pure (clOf env.cells scope.names []) := by
  unfold closureFor
  have go : ∀ (names : List (Str × NameKind)) (acc : List (Str × Addr)), (∀ q ∈ names, q.2 = .free → ∃ c, env.cells.lookup q.1 = some c) →
      (forIn names acc fun x r => match x with
        | (name, kind) => if (kind == NameKind.free) = true then do let a ← cellOf env name; pure (ForInStep.yield ((name, a) :: r)) else pure (ForInStep.yield r) : Sem (List (Str × Addr))) = pure (clOf env.cells names acc) := by
    intro names
    induction names with
    | nil => intro acc _; rfl
    | cons q r ih =>
      intro acc h
      obtain ⟨n, k⟩ := q
      rw [List.forIn_cons]
      unfold clOf
      by_cases hk : (k == NameKind.free) = true
      · obtain ⟨c, hc⟩ := h (n, k) (.head _) (eq_of_beq hk)
        simp only [if_pos hk, cellOf, hc, pure_bind, Option.getD_some]
        exact ih _ fun q hq => h q (.tail _ hq)
      · simp only [if_neg hk, pure_bind]
        exact ih _ fun q hq => h q (.tail _ hq)
  have := go scope.names [] hn
  first
    | exact this
    | (simp only [bind_pure_comp] at this ⊢; exact this)
    | (show (forIn scope.names [] _ >>= pure) = _; rw [bind_pure]; exact this)
end Mine
end
-- part Q15
section
open PySem PySem.W PyProof.Rows
namespace Mine

theorem lookup_mem {α β : Type} [BEq α] [LawfulBEq α] : ∀ {l : List (α × β)} {x : α} {k : β}, l.lookup x = some k → (x, k) ∈ l
  | [], _, _, h => by simp at h
  | (n, k') :: r, x, k, h => by
    rw [List.lookup_cons] at h
    by_cases q : (x == n) = true
    · rw [q] at h; cases h; have := beq_iff_eq.mp q; subst this; exact .head _
    · have q' : (x == n) = false := by simpa using q
      rw [q'] at h; exact .tail _ (lookup_mem h)

/-- what a well-formed scope of a comprehension says -/
structure ScopeOk (scope sc : Scope) (tab : List Str) (caps : List Nat) (more : List Str) : Prop where
  lam : capTab tab caps more ≠ lamTab
  kind : scope.kind = .function
  lt : ∀ i ∈ caps, i < tab.length
  nd : (capTab tab caps more).Nodup
  dbg : ∀ x ∈ capTab tab caps more, (x == ("__debug__" : Str)) = false
  nocell : ∀ q ∈ scope.names, q.2 ≠ .cell
  loc : ∀ q ∈ scope.names, q.2 = .local → scope.names.lookup q.1 = some .local
  free : ∀ q ∈ scope.names, q.2 = .free → sc.names.lookup q.1 = some .cell ∧ q.1 ∈ tab
  more : ∀ x ∈ more, (relS scope sc).names.lookup x = some .local
  caps : ∀ i ∈ caps, (relS scope sc).names.lookup (tab.getD i ("" : Str)) = some .cell ∧ scope.names.lookup (tab.getD i ("" : Str)) = some .free
theorem scopeOk_of {scope sc : Scope} {tab : List Str} {caps : List Nat} {more : List Str} (h : scopeOk scope sc tab caps more = true) : ScopeOk scope sc tab caps more := by
  unfold scopeOk at h
  simp only [Bool.and_eq_true, beq_iff_eq, decide_eq_true_iff, List.all_eq_true, Bool.or_eq_true, bne_iff_ne, ne_eq, Bool.not_eq_true', List.contains_iff_mem] at h
  obtain ⟨h0, ⟨⟨⟨⟨⟨⟨⟨h1, h2⟩, h3⟩, h4⟩, h5⟩, h6⟩, h7⟩, h8⟩, h9⟩ := h
  exact ⟨h0, h1, h2, h3, h4, h5, fun q hq e => (h6 q hq).resolve_left (fun n => n e), fun q hq e => (h7 q hq).resolve_left (fun n => n e), h8, h9⟩

section
variable {prog : Program} {w : World} {G : GT} {W : Wc} {stack : List Env} {d : Nat} {Φ : Phi}
variable {h₀ H : Heap} {M₀ M Mh : Mem} {s : Shared} {σ : St} {ρ : Vars} {env : Env} {tab : List Str} {A : Around} {E : Value → Shared → Prop} {Q : Value → Shared → Prop}

theorem ScopeOk.frees {scope : Scope} {caps : List Nat} {more : List Str} (ok : ScopeOk scope env.scope tab caps more) (e : EnvR h₀ M₀ env tab ρ) : ∀ q ∈ scope.names, q.2 = .free → ∃ c, env.cells.lookup q.1 = some c := fun q hq hf => by
  obtain ⟨h1, h2⟩ := ok.free q hq hf
  obtain ⟨i, hi⟩ := List.getElem?_of_mem h2
  obtain ⟨c, ov, hc, _⟩ := e.cel i q.1 hi h1
  exact ⟨c, hc⟩
theorem lk_nil {P : Prop} {x : Str} {c : Addr} (q : ([] : List (Str × Addr)).lookup x = some c) : P := by rw [List.lookup_nil] at q; cases q
theorem clOf_mem' {cells : List (Str × Addr)} {y : Str} : ∀ {names : List (Str × NameKind)} {acc : List (Str × Addr)} {c : Addr}, (clOf cells names acc).lookup y = some c → (∃ k, (k ∈ names ∧ k.2 = .free) ∧ k.1 = y) ∨ acc.lookup y = some c
  | [], _, _, h => .inr h
  | (n, k) :: r, acc, c, h => by
    unfold clOf at h
    by_cases hk : (k == NameKind.free) = true
    · rw [if_pos hk] at h
      rcases clOf_mem' h with ⟨q, ⟨h1, h2⟩, h3⟩ | h
      · exact .inl ⟨q, ⟨.tail _ h1, h2⟩, h3⟩
      · by_cases q : (y == n) = true
        · exact .inl ⟨(n, k), ⟨.head _, eq_of_beq hk⟩, (eq_of_beq q).symm⟩
        · rw [List.lookup_cons, Bool.eq_false_iff.mpr q] at h; exact .inr h
    · rw [if_neg hk] at h
      rcases clOf_mem' h with ⟨q, ⟨h1, h2⟩, h3⟩ | h
      · exact .inl ⟨q, ⟨.tail _ h1, h2⟩, h3⟩
      · exact .inr h
theorem clOf_mem {cells : List (Str × Addr)} {y : Str} {names : List (Str × NameKind)} {c : Addr} (h : (clOf cells names []).lookup y = some c) : ∃ k, (k ∈ names ∧ k.2 = .free) ∧ k.1 = y :=
  (clOf_mem' h).resolve_right fun q => lk_nil q
theorem capTab_get {tab : List Str} {caps : List Nat} {more : List Str} {i : Nat} (h : i < caps.length) : (capTab tab caps more)[i]? = some (tab.getD caps[i] ("" : Str)) := by
  unfold capTab
  rw [List.getElem?_append_left (by simpa using h)]
  simp [h]
theorem capsOf_get {caps : List Nat} {n i : Nat} (h : i < caps.length) : vget (capsOf caps n ρ) i = vget ρ caps[i] := by
  unfold capsOf vget
  rw [List.getElem?_append_left (by simpa using h)]
  simp [h]
theorem capsOf_more {caps : List Nat} {n i : Nat} (h : caps.length ≤ i) : vget (capsOf caps n ρ) i = none := by
  unfold capsOf
  show ((caps.map fun i => vget ρ i) ++ List.replicate n none)[i]?.join = none
  rw [List.getElem?_append_right (by simpa using h)]
  rw [List.getElem?_replicate]
  split <;> rfl

theorem env_comp {scope : Scope} {caps : List Nat} {more : List Str} {C : Addr} (e : EnvR h₀ M₀ env tab ρ) (K : Keeps2 h₀ M₀ H Mh) (kc : ∀ a o, h₀.get? a = some o → H.get? a = some o) (km : ∀ a o, h₀.get? a = some o → a ∉ M₀ → a ∉ Mh) (ok : ScopeOk scope env.scope tab caps more)
    {m : Str → Option Value} (hC : H.Ns C m) (hCM : C ∉ Mh) : EnvR H Mh (compEnvC scope (clOf env.cells scope.names []) C env) (capTab tab caps more) (capsOf caps 2 ρ) := by
  have hfree := ok.frees e
  have has : ∀ {x c}, (clOf env.cells scope.names []).lookup x = some c → env.cells.lookup x = some c := fun hc => clOf_has hfree (fun _ _ q => lk_nil q) hc
  have cell : ∀ {i : Nat} {x : Str}, (capTab tab caps more)[i]? = some x → i < caps.length → (relS scope env.scope).names.lookup x = some .cell := fun hx hi => by
    rw [capTab_get hi] at hx; cases hx
    exact (ok.caps _ (List.getElem_mem hi)).1
  have loc : ∀ {i : Nat} {x : Str}, (capTab tab caps more)[i]? = some x → ¬ i < caps.length → (relS scope env.scope).names.lookup x = some .local := fun hx hi => by
    unfold capTab at hx
    rw [List.getElem?_append_right (by rw [List.length_map]; exact Nat.not_lt.mp hi)] at hx
    exact ok.more _ (List.mem_of_getElem? hx)
  refine ⟨⟨ok.kind, e.st.glob, e.st.bti, fun i x hx => ?_, fun x y c hx hy => e.st.inj x y c (has hx) (has hy), ok.nd, ok.dbg, fun q => absurd q ok.lam⟩, ⟨m, hC, fun i x hx hk z hz => ?_⟩, fun i x hx hk => ?_, hCM⟩
  · by_cases hi : i < caps.length
    · exact .inr (cell hx hi)
    · exact .inl (loc hx hi)
  · by_cases hi : i < caps.length
    · exact nomatch hk.symm.trans (cell hx hi)
    · rw [capsOf_more (Nat.not_lt.mp hi)] at hz; cases hz
  · by_cases hi : i < caps.length
    · rw [capTab_get hi] at hx; cases hx
      have hci := ok.caps _ (List.getElem_mem hi)
      have hm := lookup_mem hci.2
      have hcell := (ok.free _ hm rfl).1
      have hlt := ok.lt _ (List.getElem_mem hi)
      have htab : tab[caps[i]]? = some (tab.getD caps[i] ("" : Str)) := by rw [List.getElem?_eq_getElem hlt, List.getD_eq_getElem?_getD, List.getElem?_eq_getElem hlt]; rfl
      obtain ⟨c, ov, h1, h2, ⟨o, h3, h3'⟩, h4⟩ := e.cel caps[i] _ htab hcell
      obtain ⟨c', hc'⟩ := clOf_some (cells := env.cells) (names := scope.names) (acc := []) (x := tab.getD caps[i] ("" : Str)) (.inr ⟨_, hm, rfl, rfl⟩)
      have := has hc'
      rw [h1] at this; cases this
      refine ⟨c, ov, hc', km c o h3 h2, ⟨o, kc _ _ h3, h3'⟩, fun z hz => ?_⟩
      rw [capsOf_get hi] at hz
      obtain ⟨v, hv, rv⟩ := h4 z hz
      exact ⟨v, hv, rv.keep K⟩
    · exact nomatch hk.symm.trans (loc hx hi)
/-- the captured cells were there -/
theorem cells_old {scope : Scope} {caps : List Nat} {more : List Str} (e : EnvR h₀ M₀ env tab ρ) (ok : ScopeOk scope env.scope tab caps more) {y : Str} {c : Addr} (hc : (clOf env.cells scope.names []).lookup y = some c) : ∃ o, h₀.get? c = some o := by
  have hfree := ok.frees e
  have h0 : env.cells.lookup y = some c := clOf_has hfree (fun _ _ q => lk_nil q) hc
  obtain ⟨k, hk, rfl⟩ := clOf_mem hc
  obtain ⟨h1, h2⟩ := ok.free k hk.1 hk.2
  obtain ⟨j, hj⟩ := List.getElem?_of_mem h2
  obtain ⟨c', ov, hc', _, ⟨o, ho, _⟩, _⟩ := e.cel j _ hj h1
  rw [h0] at hc'; cases hc'
  exact ⟨o, ho⟩
end
end Mine
end
-- part Q16
section
open PySem PySem.W PyProof.Rows
namespace Mine

noncomputable def Tgt.In (tab : List Str) : Tgt → Prop
  | .name i x _ => tab[i]? = some x
  | .pair i x _ j y _ _ _ => tab[i]? = some x ∧ tab[j]? = some y
theorem two_inv {l : List PV} {q : PV × PV} (h : two l = some q) : l = [q.1, q.2] := by
  match l, h with
  | [a, b], h => cases h; rfl
section
variable {prog : Program} {w : World} {G : GT} {W : Wc} {stack : List Env} {d : Nat} {Φ : Phi}
variable {h₀ H : Heap} {M₀ M Mh : Mem} {s : Shared} {σ : St} {ρ ρ' : Vars} {env : Env} {tab : List Str} {A : Around} {E : Value → Shared → Prop} {base : Heap}

/-- a target is bound: X holds what turns -/
theorem bind_sound {tg : Tgt} {x : PV} {v : Value} {X : List Addr} {Q : Unit → Shared → Prop} (hh : A.handled = none) (hb : tg.bindv x ρ = some ρ') (e : EnvR s.heap M env tab ρ) (R : StR prog w base s.heap M σ) (b : base.StaysIn s.heap)
    (hX1 : ∀ x ∈ tg.names, env.kindOf x = some .local → env.locals ∈ X) (hX2 : ∀ x ∈ tg.names, ∀ c, env.kindOf x = some .cell → env.cells.lookup x = some c → c ∈ X) (hown : ∀ a ∈ X, base.get? a = none) (hl : tab.length ≤ ρ.length) (ht : tg.In tab) (r : RV s.heap M x v)
    (q : ∀ h' tk, Step base X s.heap M h' M → Keeps2 s.heap M h' M → EnvR h' M env tab ρ' → StR prog w base h' M σ → KK X s.heap h' → tab.length ≤ ρ'.length → Q () { s with heap := h', toks := tk }) :
    wpAny (model prog w) A (assign tg.toE env v) Q E s := by
  cases tg with
  | name i y p =>
    cases hb
    exact wpAny_assign_Name (store_sound e R b (hX1 y (.head _)) (hX2 y (.head _)) hown hl ht r fun h' tk S K e' R' k => q h' tk S K e' R' k (by rw [List.length_set]; exact hl))
  | pair i y p j z p' kk tp =>
    obtain ⟨l, hl1, hb⟩ := Option.bind_eq_some_iff.mp hb
    obtain ⟨c, hc, hb⟩ := Option.map_eq_some_iff.mp hb
    cases hb
    cases two_inv hc
    obtain ⟨vs, a, n, rfl, ha, ma, ra⟩ := asT_rv hl1 r
    obtain ⟨u, t, r1, ra⟩ := ra
    obtain ⟨u', t', r2, ra⟩ := ra
    cases ra
    have i1 := List.length_set (as := ρ) (i := i) (a := some c.1)
    refine wpAny_assign_Tuple hh ⟨_, ha, rfl, n, rfl⟩ rfl rfl fun h₃ hx₃ => ?_
    have k : ∀ b o, s.heap.get? b = some o → h₃.get? b = some o := fun b o g => hx₃ b o (Nat.ne_of_lt (Heap.lt_size g)) g
    have S₀ : Step base [] s.heap M h₃ M := .of_keeps b k
    show wpAny _ A (do holding [u'] (assign (.Name y p) env u); do holding [] (assign (.Name z p') env u'); pure ()) _ _ _
    refine wpAny_bind (wpAny_holding (wpAny_assign_Name (store_sound (s := { s with heap := h₃ }) (e.step S₀) (R.ofKeeps k) S₀.stay (hX1 y (.head _)) (hX2 y (.head _)) hown hl ht.1 (r1.keep S₀.keeps0) fun h₄ tk₄ S₄ K₄ e₄ R₄ k₄ => ?_)))
    refine wpAny_bind (wpAny_holding (wpAny_assign_Name (store_sound (s := { s with heap := h₄, toks := tk₄ }) e₄ R₄ S₄.stay (hX1 z (.tail _ (.head _))) (hX2 z (.tail _ (.head _))) hown (by rw [i1]; exact hl) ht.2 ((r2.keep S₀.keeps0).keep K₄) fun h₅ tk₅ S₅ K₅ e₅ R₅ k₅ => wpAny_pure ?_)))
    exact q h₅ tk₅ (((S₀.weaken fun _ m => nomatch m).trans S₄).trans S₅) ((S₀.keeps0.trans K₄).trans K₅) e₅ R₅ (fun b o n g => k₅ b o n (k₄ b o n (k b o g))) (by rw [List.length_set, i1]; exact hl)
end
end Mine
end
-- part Q17
section
open PySem PySem.W PyProof.Rows
namespace Mine

section
variable {prog : Program} {w : World} {A : Around} {R : Result → Shared → Prop} {s : Shared}
/-- a comprehension's turns, whatever its target -/
theorem compLoop_go {elt target iter : Expr} {ifs : List Expr} {scope : Scope} {pos : Pos} {it acc : Value} {env : Env} (I : Nat → Shared → Prop)
    (turn : ∀ n s, I n s → wpAny (model prog w) A (pyNext it) (fun r s₁ => match r with
      | none => R (.ok .next) s₁
      | some v => wpAny (model prog w) A (letOwnedTupleGo target it v) (fun _ s₀ => wpAny (model prog w) A (assign target env v) (fun _ s₂ =>
          wpAny (model prog w) A (forIn ifs true fun c r => if r = true then do let ok ← isTrue c env (eval c env); pure (ForInStep.yield ok) else pure (ForInStep.yield r)) (fun ok s₃ =>
            if ok = true then wpAny (model prog w) A (eval elt env) (fun x s₄ =>
              wpAny (model prog w) A (call (.builtin "list.append") [acc, x]) (fun _ s₅ => ∃ m, m < n ∧ I m s₅) (notedBy (model prog w) A env fun e s' => R (.error e) s') s₄) (notedBy (model prog w) A env fun e s' => R (.error e) s') s₃
            else ∃ m, m < n ∧ I m s₃) (notedBy (model prog w) A env fun e s' => R (.error e) s') s₂) (notedBy (model prog w) A env fun e s' => R (.error e) s') s₀) (notedBy (model prog w) A env fun e s' => R (.error e) s') s₁) (notedBy (model prog w) A env fun e s' => R (.error e) s') s)
    (n : Nat) (h : I n s) : codeAny (model prog w) A (.compLoop (.ListComp elt [⟨target, iter, ifs, 0⟩] scope pos) 0 it acc env) R s := by
  refine codeAny_loop rfl I (fun n s hI => ?_) n h
  show wpAny _ A ((compTurn (.ListComp elt [⟨target, iter, ifs, 0⟩] scope pos) 0 it acc env).onRaise (fun x => do noteFrame x env; theTreesLotGoes x)) _ _ s
  refine wpAny_noted ?_
  rw [compTurn_list]
  refine wpAny_bind (wpAny_standAt (wpAny_bind (wpAny_mono (turn n s hI) (fun r s₁ h₁ => ?_) fun _ _ h' => h')))
  cases r with
  | none => exact wpAny_pure h₁
  | some v =>
    refine wpAny_bind (wpAny_mono h₁ (fun _ s₀ h₀ => ?_) fun _ _ h' => h')
    refine wpAny_bind (wpAny_mono h₀ (fun _ s₂ h₂ => wpAny_bind (wpAny_mono h₂ (fun ok s₃ h₃ => ?_) fun _ _ h' => h')) fun _ _ h' => h')
    cases ok with
    | false => exact wpAny_pure ⟨rfl, h₃⟩
    | true =>
      exact wpAny_bind (wpAny_bind (wpAny_mono h₃ (fun x s₄ h₄ => wpAny_bind (wpAny_mono h₄ (fun _ s₅ h₅ => wpAny_pure (wpAny_pure ⟨rfl, h₅⟩)) fun _ _ h' => h')) fun _ _ h' => h'))
end

section
variable {prog : Program} {w : World} {G : GT} {W : Wc} {stack : List Env} {d : Nat} {Φ : Phi}
variable {h₀ H H' : Heap} {M₀ M Mh Mh' : Mem} {s : Shared} {σ σ' : St} {ρ : Vars} {env : Env} {tab : List Str} {A : Around} {E : Value → Shared → Prop} {Q : Value → Shared → Prop}

/-- the tests of a comprehension -/
theorem tests_sound {ifs : List PE} (h : ∀ e ∈ ifs, ST prog w G W stack d Φ e) (hl : ifs.length ≤ 1) {Q : Bool → Shared → Prop} (ar : Ar A stack d) (wf : wfEs W env.scope tab true ifs = true) (cx : Cx prog w G.base stack env tab ρ s.heap M σ)
    (p : Post prog w G s.heap M s (evB Φ .And ifs ρ σ) (TQ Q) E) :
    wpAny (model prog w) A (forIn (toEs ifs) true fun c r => if r = true then do let ok ← isTrue c env (eval c env); pure (ForInStep.yield ok) else pure (ForInStep.yield r)) Q E s := by
  match ifs, hl with
  | [], _ =>
    dsimp only [evB_nil] at p
    exact wpAny_tests_nil (p.nowB cx s.toks)
  | [e], _ =>
    dsimp only [evB_cons] at p
    refine wpAny_tests_one (h e (.head _) ar (and2 wf).1 cx (p.bindK fun x σ v h' tk M' st R rv p => ?_))
    obtain ⟨b, rfl, p⟩ := p.asBool rv
    refine ⟨b, rfl, ?_⟩
    cases b <;> exact Post.nowB (s := { s with heap := h', toks := tk }) p (cx.step st R) tk

/-- what is new in a comprehension, and how its frame stands -/
structure Lk (stack : List Env) (h₀ : Heap) (cenv : Env) (tab' : List Str) (D C : Addr) (wr : List Addr) : Prop where
  new : ∀ a ∈ D :: C :: wr, h₀.get? a = none
  dc : D ≠ C
  dw : D ∉ wr
  cw : C ∉ wr
  old : Old stack h₀
  loc : cenv.locals = C
  cells : ∀ x c, cenv.cells.lookup x = some c → ∃ o, h₀.get? c = some o
/-- what stays over the turns of a comprehension -/
structure Lp (prog : Program) (w : World) (base : Heap) (stack : List Env) (h₀ : Heap) (M₀ : Mem) (hI : Heap) (cenv : Env) (tab' : List Str) (D C : Addr) (wr : List Addr) (Sti : Heap → Prop) (acc : List PV) (ρ' : Vars) (H : Heap) (Mh : Mem) (σ : St) : Prop where
  b3 : B3 prog w base stack h₀ (M₀.hide D) H Mh σ
  kp : Keeps2 hI M₀ H Mh
  out : ∀ a ∈ C :: wr, a ∉ Mh
  dM : D ∉ Mh.c
  st : Sti H
  er : EnvR H Mh cenv tab' ρ'
  len : tab'.length ≤ ρ'.length
  ls : LstC H Mh D acc
section
variable {base hI : Heap} {D C : Addr} {wr : List Addr} {St₁ St₂ : Heap → Prop} {cenv : Env} {tab' : List Str} {acc acc' : List PV} {ρ ρ' ρ'' : Vars}
theorem Lk.notOwn (k : Lk stack h₀ cenv tab' D C wr) {a : Addr} (ha : a ∈ D :: wr) : ¬ Owns cenv tab' a := by
  have hn : h₀.get? a = none := k.new a (by rcases List.mem_cons.mp ha with q | q; exact q ▸ .head _; exact .tail _ (.tail _ q))
  rintro (q | ⟨x, _, _, q⟩)
  · rw [k.loc] at q; subst q
    rcases List.mem_cons.mp ha with q | q
    · exact k.dc q.symm
    · exact k.cw q
  · exact sne (k.cells x a q) hn
theorem Lp.dz (x : Lp prog w base stack h₀ M₀ hI cenv tab' D C wr St₁ acc ρ' H Mh σ) : D ∈ Mh.z := by
  obtain ⟨N, e, _⟩ := x.b3.step.grow
  subst e; exact .head _
/-- an evaluation in a turn -/
theorem Lp.ev (x : Lp prog w base stack h₀ M₀ hI cenv tab' D C wr St₁ acc ρ' H Mh σ) (k : Lk stack h₀ cenv tab' D C wr) (hf : Keeps2 H Mh H' Mh' → (∀ b ∈ wr, ∀ o, H.get? b = some o → H'.get? b = some o) → St₁ H') (ho : ∀ b ∈ wr, ∃ o, H.get? b = some o ∧ IterLike o)
    (S : Step base [] H Mh H' Mh') (R : StR prog w base H' Mh' σ') : Lp prog w base stack h₀ M₀ hI cenv tab' D C wr St₁ acc ρ' H' Mh' σ' := by
  obtain ⟨vs, n, hD, ra⟩ := x.ls
  obtain ⟨oD', eD', sD⟩ := S.keep D _ hD x.dM (fun q => nomatch q)
  rw [sD.eq (by rintro ⟨_, _, q⟩; cases q)] at eD'
  refine ⟨x.b3.ev S R, x.kp.trans S.keeps0, fun a ha => ?_, S.notMemC hD x.dM, hf S.keeps0 fun b hb o e => ?_, x.er.step S, x.len, vs, n, eD', ra.keep S.keeps0⟩
  · rcases List.mem_cons.mp ha with q | q
    · rw [q, ← k.loc]; exact (x.er.step S).locM
    · obtain ⟨o, e, _⟩ := ho a q
      exact S.notMem e (x.out a ha)
  · obtain ⟨o', e', l⟩ := ho b hb
    rw [e] at e'; cases e'
    obtain ⟨o'', e'', s'⟩ := S.keep b o e (fun q => x.out b (.tail _ hb) (.inl q)) (fun q => nomatch q)
    rw [s'.eq l.1] at e''; exact e''
/-- D, C or the iterator turns -/
theorem Lp.turn (x : Lp prog w base stack h₀ M₀ hI cenv tab' D C wr St₁ acc ρ H Mh σ) (k : Lk stack h₀ cenv tab' D C wr) {X : List Addr} (hX : ∀ a ∈ X, a ∈ D :: C :: wr) (kk : KK X H H') (ho : ∀ b ∈ wr, ∃ o, H.get? b = some o ∧ IterLike o)
    (st : Keeps2 H Mh H' Mh → St₂ H') (er : Keeps2 H Mh H' Mh → EnvR H' Mh cenv tab' ρ') (len : tab'.length ≤ ρ'.length) (ls : Keeps2 H Mh H' Mh → LstC H' Mh D acc') :
    Lp prog w base stack h₀ M₀ hI cenv tab' D C wr St₂ acc' ρ' H' Mh σ := by
  have ns : ∀ a ∈ X, a ∉ Mh → ∀ o, H.get? a = some o → ¬ SeqLike o := fun a ha hm o e => by
    rcases List.mem_cons.mp (hX a ha) with q | q
    · subst q; exact absurd (.inr x.dz) hm
    · rcases List.mem_cons.mp q with q | q
      · obtain ⟨o', e', _, l, _⟩ := x.er.own (.inl (q.trans k.loc.symm))
        rw [e] at e'; cases e'; exact l
      · obtain ⟨o', e', l⟩ := ho a q
        rw [e] at e'; cases e'; exact l.2
  have nc : ∀ a ∈ X, a ∉ Mh.c := fun a ha m => by
    rcases List.mem_cons.mp (hX a ha) with q | q
    · subst q; exact x.dM m
    · exact x.out a q (.inl m)
  have K : Keeps2 H Mh H' Mh := ⟨fun a o e n sq => ⟨kk a o (fun m => ns a m n o e sq) e, n⟩, fun _ _ e => e⟩
  obtain ⟨vs, n, hD, ra⟩ := ls K
  refine ⟨(x.b3.turn k.old (fun a ha => k.new a (hX a ha)) nc kk (fun a ha m => ?_) ns).1, x.kp.trans K, x.out, x.dM, st K, er K, len, vs, n, hD, ra⟩
  rcases List.mem_cons.mp (hX a ha) with q | q
  · subst q; exact ⟨_, hD⟩
  · exact absurd (.inr m) (x.out a q)

inductive CInv (prog : Program) (w : World) (base : Heap) (stack : List Env) (h₀ : Heap) (M₀ : Mem) (hI : Heap) (cenv : Env) (tab' : List Str) (D C : Addr) (wr : List Addr) (Sti : Nat → Heap → Prop) (xs : List PV) (s₀ : Shared) (f : List PV → Vars → List PV → St → Prop) (k : Nat) (s : Shared) : Prop
  | mk (H : Heap) (tk : Nat) (Mh : Mem) (σ : St) (ρ' : Vars) (acc : List PV) (i : Nat) (h0 : s = { s₀ with heap := H, toks := tk }) (h1 : i ≤ xs.length) (h2 : k = xs.length + 1 - i) (lp : Lp prog w base stack h₀ M₀ hI cenv tab' D C wr (Sti i) acc ρ' H Mh σ) (h8 : acc.length ≤ i) (hr : f (xs.drop i) ρ' acc σ)

theorem comp_loop {I : Addr} {tg : Tgt} {Sti : Nat → Heap → Prop} {env₀ : Env} {outer : List Env} {xs : List PV} {s₀ : Shared} {OK : List PV → St → Prop} {EX : St → Prop}
    {elt : PE} {itE : Expr} {ifs : List PE} {scope : Scope} {pos : Pos} {R : Result → Shared → Prop}
    (he : SE prog w G W stack d Φ elt) (hi : ∀ e ∈ ifs, ST prog w G W stack d Φ e) (hil : ifs.length ≤ 1) (ar : Ar A stack d) (hst : stack = env₀ :: outer) (hce : cenv.frame = env₀.frame)
    (wfe : wfE W cenv.scope tab' false elt = true) (wfi : wfEs W cenv.scope tab' true ifs = true) (ht : tg.In tab') (htl : ∀ x ∈ tg.names, cenv.kindOf x = some .local)
    (itr : Itr prog w tg hI M₀ I wr xs Sti) (k : Lk stack h₀ cenv tab' D C wr) (hxs : xs.length ≤ 1000000)
    (hok : ∀ ys σ', OK ys σ' → ∀ H tk Mh, B3 prog w G.base stack h₀ (M₀.hide D) H Mh σ' → D ∉ Mh.c → C ∉ Mh → LstC H Mh D ys → (∃ m, H.Ns C m) → R (.ok .next) { s₀ with heap := H, toks := tk })
    (hexc : ∀ σ', EX σ' → ∀ e H tk Mh, B3 prog w G.base stack h₀ (M₀.hide D) H Mh σ' → Noted (.ref G.tf) h₀ H Mh e → (∃ m, H.Ns C m) → C ∉ Mh → R (.error (.ref e)) { s₀ with heap := H, toks := tk })
    {n : Nat} {s : Shared} (h : CInv prog w G.base stack h₀ M₀ hI cenv tab' D C wr Sti xs s₀ (fun l ρ' acc σ => (compGo (fun ρ σ => evB Φ .And ifs ρ σ) (fun ρ σ => evE Φ elt ρ σ) tg l ρ' acc σ).wp OK EX) n s) :
    codeAny (model prog w) A (.compLoop (.ListComp elt.toE [⟨tg.toE, itE, toEs ifs, 0⟩] scope pos) 0 (.ref I) (.ref D) cenv) R s := by
  refine compLoop_go _ ?_ n h
  clear h n s
  rintro n s ⟨H, tk, Mh, σ, ρ', acc, i, rfl, hil', rfl, lp, hacc, hr⟩
  -- an exception passes on
  have thr : ∀ {H₁ : Heap} {Mh₁ : Mem} {σ₁ : St} {ρ₁ : Vars} {acc₁ : List PV} {S₁ : Heap → Prop}, Lp prog w G.base stack h₀ M₀ hI cenv tab' D C wr S₁ acc₁ ρ₁ H₁ Mh₁ σ₁ → ∀ σ₂, EX σ₂ → XEnd prog w G H₁ Mh₁ s₀ (notedBy (model prog w) A cenv (fun e s' => R (.error e) s')) σ₂ := by
    intro H₁ Mh₁ σ₁ ρ₁ acc₁ S₁ lp₁ σ₂ hx e h' tk' M' S R' th
    have b := lp₁.b3.ev S R'
    subst hst
    refine note_sound (s := { s₀ with heap := h', toks := tk' }) (h₀ := h₀) ar.frames hce b (th.back lp₁.b3.step) fun h'' b' nt dk => ?_
    have er' := lp₁.er.step S
    obtain ⟨m, hm, _⟩ := er'.ns
    exact hexc σ₂ hx e h'' tk' M' b' nt ⟨m, k.loc ▸ dk.ns hm⟩ (k.loc ▸ er'.locM)
  have obj := itr.obj _ _ lp.st
  rcases Nat.lt_or_eq_of_le hil' with hlt | heq
  case inr =>
    -- the end
    subst heq
    refine itr.done A ar.hnd _ _ _ lp.st fun h' tk' kk => ?_
    rw [List.drop_length] at hr
    have lp' := lp.turn (St₂ := fun _ => True) (acc' := acc) k (X := wr) (fun a m => .tail _ (.tail _ m)) kk obj (fun _ => trivial) (fun K => lp.er.turn K kk fun a m => k.notOwn (.tail _ m)) lp.len fun K => by
      obtain ⟨vs, n, hD, ra⟩ := lp.ls
      exact ⟨vs, n, kk _ _ k.dw hD, ra.keep K⟩
    obtain ⟨m, hm, _⟩ := lp'.er.ns
    exact hok acc σ hr h' tk' Mh lp'.b3 lp'.dM (lp'.out C (.head _)) lp'.ls ⟨m, k.loc ▸ hm⟩
  case inl =>
    have hx : xs[i]? = some xs[i] := List.getElem?_eq_getElem hlt
    rw [List.drop_eq_getElem_cons hlt] at hr
    dsimp only [compGo_cons] at hr
    refine itr.item A ar.hnd i _ _ Mh _ _ hx lp.st lp.kp lp.b3.str.live fun v h₁ tk₁ q => q _ _ fun h₂ rx st₂ kk => ?_
    have lp₂ := lp.turn (St₂ := Sti (i + 1)) (acc' := acc) k (X := wr) (fun a m => .tail _ (.tail _ m)) kk obj (fun _ => st₂) (fun K => lp.er.turn K kk fun a m => k.notOwn (.tail _ m)) lp.len fun K => by
      obtain ⟨vs, n, hD, ra⟩ := lp.ls
      exact ⟨vs, n, kk _ _ k.dw hD, ra.keep K⟩
    cases hb : tg.bindv xs[i] ρ' with
    | none => rw [hb] at hr; exact hr.elim
    | some ρ₂ =>
    rw [hb] at hr
    replace hr := Res.wp_bind hr
    -- the target is bound
    refine bind_sound (s := { s₀ with heap := h₂, toks := tk₁ }) (X := [C]) ar.hnd hb lp₂.er lp₂.b3.str lp₂.b3.step.stay (fun _ _ _ => k.loc ▸ .head _) (fun x hx c hk => by rw [htl x hx] at hk; cases hk) (fun a ha => by rw [List.mem_singleton.mp ha]; exact lp₂.b3.oldBase (k.new C (.tail _ (.head _)))) lp₂.len ht rx fun h₃ tk₃ S₃ K₃ er₃ R₃ kp₃ len₃ => ?_
    have obj₂ := itr.obj _ _ st₂
    have lp₃ := lp₂.turn (St₂ := Sti (i + 1)) (acc' := acc) k (X := [C]) (fun a m => .tail _ (by rw [List.mem_singleton.mp m]; exact .head _)) kp₃ obj₂ (fun K => itr.frame _ _ _ _ _ st₂ lp₂.kp K fun b hb o e => kp₃ b o (fun m => k.cw (List.mem_singleton.mp m ▸ hb)) e) (fun _ => er₃) len₃ fun K => by
      obtain ⟨vs, n, hD, ra⟩ := lp₂.ls
      exact ⟨vs, n, kp₃ _ _ (fun m => k.dc (List.mem_singleton.mp m)) hD, ra.keep K⟩
    have cx₃ : Cx prog w G.base stack cenv tab' ρ₂ h₃ Mh σ := ⟨lp₃.b3.step.stay, lp₃.b3.ff, er₃, lp₃.b3.str, ⟨env₀, outer, hst, hce⟩⟩
    have obj₃ := itr.obj _ _ lp₃.st
    -- the tests
    refine tests_sound (s := { s₀ with heap := h₃, toks := tk₃ }) hi hil ar wfi cx₃ (Res.wp_mono (fun tv σ₄ hr u h₄ tk₄ M₄ S₄ R₄ rv₄ => ?_) (fun σ₂ hx => thr lp₃ σ₂ hx) hr)
    have lp₄ := lp₃.ev k (fun K e => itr.frame _ _ _ _ _ lp₃.st lp₃.kp K e) obj₃ S₄ R₄
    unfold asBool at hr
    cases hbv : asB tv with
    | none => rw [hbv] at hr; exact hr.elim
    | some b =>
    rw [hbv] at hr
    refine ⟨b, asB_rv hbv rv₄, ?_⟩
    cases b with
    | false => exact ⟨xs.length + 1 - (i + 1), by omega, h₄, tk₄, M₄, σ₄, ρ₂, acc, i + 1, rfl, hlt, rfl, lp₄, Nat.le_succ_of_le hacc, hr⟩
    | true =>
      refine he (s := { s₀ with heap := h₄, toks := tk₄ }) ar wfe (cx₃.step S₄ R₄) (Res.wp_mono (fun y σ₅ hr u h₅ tk₅ M₅ S₅ R₅ rv₅ => ?_) (fun σ₂ hx => thr lp₄ σ₂ hx) (Res.wp_bind hr))
      have obj₄ := itr.obj _ _ lp₄.st
      have lp₅ := lp₄.ev k (fun K e => itr.frame _ _ _ _ _ lp₄.st lp₄.kp K e) obj₄ S₅ R₅
      obtain ⟨vs, nn, hD₅, ra₅⟩ := lp₅.ls
      have hal := ra₅.length
      refine wpAny_list_append_plain (s := { s₀ with heap := h₅, toks := tk₅ }) ⟨nn, hD₅⟩ (fun h₆ hp₆ hs₆ => ?_) (by rw [sizeLine_eq, List.size_toArray]; omega)
      obtain ⟨n₆, hD₆⟩ := hp₆
      have kk₆ : KK [D] h₅ h₆ := fun b o q e => (hs₆.2 b fun m => q (m ▸ .head _)).trans e
      have lp₆ := lp₅.turn (St₂ := Sti (i + 1)) (acc' := acc ++ [y]) k (X := [D]) (fun a m => by rw [List.mem_singleton.mp m]; exact .head _) kk₆ (itr.obj _ _ lp₅.st) (fun K => itr.frame _ _ _ _ _ lp₅.st lp₅.kp K fun b hb o e => kk₆ b o (fun m => k.dw (List.mem_singleton.mp m ▸ hb)) e)
        (fun K => lp₅.er.turn K kk₆ fun a m => by rw [List.mem_singleton.mp m]; exact k.notOwn (.head _)) lp₅.len fun K => ⟨vs ++ [u], n₆, by rw [← List.push_toArray]; exact hD₆, (ra₅.keep K).snoc (rv₅.keep K)⟩
      exact ⟨xs.length + 1 - (i + 1), by omega, h₆, tk₅, M₅, σ₅, ρ₂, acc ++ [y], i + 1, rfl, hlt, rfl, lp₆, by rw [List.length_append]; exact Nat.succ_le_succ hacc, hr⟩
end
end
end Mine
end
-- part Q18
section
open PySem PySem.W PyProof.Rows
namespace Mine

section
variable {prog : Program} {w : World} {G : GT} {W : Wc} {stack : List Env} {d : Nat} {Φ : Phi}
variable {h₀ H : Heap} {M₀ M Mh : Mem} {s : Shared} {σ : St} {ρ : Vars} {env : Env} {tab : List Str} {A : Around} {E : Value → Shared → Prop} {Q : Value → Shared → Prop}

/-- a loop's source -/
theorem src_sound (wd : Wd prog w G W stack d Φ) {en : Option (Str × Pos × Pos)} {it : PE} {tg : Tgt} {K : List PV → St → Prop} {X : St → Prop} (hit : SE prog w G W stack d Φ it) (ar : Ar A stack d) (w1 : wfE W env.scope tab false it = true)
    (w2 : (match en with | none => true | some q => gname env.scope q.1 B.enumerate.nm && tg.isPair) = true) (cx : Cx prog w G.base stack env tab ρ s.heap M σ) (p : (evE Φ it ρ σ).wp (fun l σ₁ => ∃ xs, srcv en l = some xs ∧ K xs σ₁) X) (hX : ∀ σ', X σ' → XEnd prog w G s.heap M s E σ')
    (q : ∀ xs σ₁, K xs σ₁ → ∀ h₁ M₁, Step G.base [] s.heap M h₁ M₁ → StR prog w G.base h₁ M₁ σ₁ → ∀ hI tk I wr Sti, (∀ b o, h₁.get? b = some o → hI.get? b = some o) → (∀ a ∈ wr, h₁.get? a = none) → Itr prog w tg hI M₁ I wr xs Sti → Q (.ref I) { s with heap := hI, toks := tk }) :
    wpAny (model prog w) A (eval (srcE en it.toE) env) (fun v s₁ => wpAny (model prog w) A (pyIter v) Q E s₁) E s := by
  cases en with
  | none =>
    refine hit ar w1 cx (Res.wp_mono (fun l σ₁ p v h₁ tk M₁ S R rv => ?_) hX p)
    obtain ⟨xs, he, k⟩ := p
    exact iter_sound (s := { s with heap := h₁, toks := tk }) R.live he rv fun hI tk I wr Sti kk nw itr => q xs σ₁ k h₁ M₁ S R hI tk I wr Sti kk nw itr
  | some z =>
    obtain ⟨w2, w3⟩ := and2 w2
    refine call_raw (b := .enumerate) wd w2 cx (hit ar w1 cx (Res.wp_mono (fun l σ₁ p v h₁ tk M₁ S R rv => ?_) hX p))
    obtain ⟨xs, he, k⟩ := p
    exact enum_sound (s := { s with heap := h₁, toks := tk }) w3 R.live he rv fun hI I wr Sti kk nw itr => itr.self A ar.hnd 0 { s with heap := hI, toks := tk } Q E itr.st0 (q xs σ₁ k h₁ M₁ S R hI tk I wr Sti kk nw itr)

theorem src_fold {en : Option (Str × Pos × Pos)} {it : PE} {env : Env} {v : Value} : foldedSetIterable (srcE en it.toE) env v = pure v := by
  cases en with
  | none => cases it <;> rfl
  | some => rfl
theorem kk_same {C : Addr} {h h' : Heap} (hs : Heap.SameBut C h h') : KK [C] h h' := fun b o hb e => (hs.2 b fun m => hb (m ▸ .head _)).trans e
theorem B3X.turn1 {base h h' : Heap} {C : Addr} (x : B3 prog w base stack h₀ M₀ h M σ) (old : Old stack h₀) (hn : h₀.get? C = none) (nM : C ∉ M) (k : KK [C] h h') (ns : ∃ o, h.get? C = some o ∧ ¬ SeqLike o) : B3 prog w base stack h₀ M₀ h' M σ ∧ Keeps2 h M h' M :=
  x.turn (X := [C]) old (fun a m => List.mem_singleton.mp m ▸ hn) (fun a m q => nM (List.mem_singleton.mp m ▸ .inl q)) k (fun a m q => absurd (.inr (List.mem_singleton.mp m ▸ q)) nM) fun a m _ o e => by
    obtain ⟨o', e', l⟩ := ns
    rw [List.mem_singleton.mp m, e'] at e; cases e; exact l
theorem ns_dict {a : Addr} {m : Str → Option Value} (h : H.Ns a m) : ∃ o, H.get? a = some o ∧ ¬ SeqLike o ∧ ∀ vs, o.data ≠ .fields vs := by
  obtain ⟨o, es, ep, ho, hd, _⟩ := h; exact ⟨o, ho, not_seqLike_dict hd, fun vs q => by rw [hd] at q; cases q⟩
theorem Noted.keep {cls : Value} {e : Addr} {H' : Heap} {M' : Mem} {C : Addr} (x : Noted cls h₀ H M e) (hs : ∀ a, a ∈ M' → a ∈ M) (k : KK [C] H H') (hC : ∃ o, H.get? C = some o ∧ ¬ SeqLike o ∧ ∀ vs, o.data ≠ .fields vs) : Noted cls h₀ H' M' e := by
  obtain ⟨oe, vs, a1, a2, a3, a4, a5, a6, T, oT, ts, h1, h2, h3, h4, h5, h6, h7, h8⟩ := x
  obtain ⟨oC, c1, _, c2⟩ := hC
  have ne : ∀ b o vs, H.get? b = some o → o.data = .fields vs → b ∉ [C] := fun b o vs e d m => by
    rw [List.mem_singleton.mp m] at e; rw [c1] at e; cases e; exact c2 vs d
  exact ⟨oe, vs, k e oe (ne _ _ _ a1 a3) a1, a2, a3, a4, a5, fun m => a6 (hs e m), T, oT, ts, h1, h2, h3, fun m => h4 (hs T m), k T oT (ne _ _ _ h5 h7) h5, h6, h7, h8⟩

theorem srcv_len {en : Option (Str × Pos × Pos)} {l : PV} {xs : List PV} (h : srcv en l = some xs) : xs.length ≤ 1000000 := by
  cases en with
  | none =>
    cases l with
    | tup ys => obtain ⟨c, rfl⟩ := gd_inv (show gd _ _ = _ from h); exact small_line c
    | lst ys => obtain ⟨c, rfl⟩ := gd_inv (show gd _ _ = _ from h); exact small_line c
    | str x => obtain ⟨c, rfl⟩ := gd_inv (show gd _ _ = _ from h); rw [List.length_map]; exact small_line c
    | rng n => obtain ⟨c, rfl⟩ := gd_inv (show gd _ _ = _ from h); rw [List.length_map, List.length_range]; exact small_line c
    | _ => exact nomatch h
  | some z =>
    obtain ⟨ys, hy, he⟩ := Option.bind_eq_some_iff.mp h
    obtain ⟨c, rfl⟩ := gd_inv he
    rw [pairs_length]; exact small_line c
theorem Res.det_wp {α : Type} {K : α → St → Prop} {X : St → Prop} {r : Res α} (p : (Res.det r).wp K X) : r.wp K X := by
  cases r with
  | any => exact p.elim
  | _ => exact p

end
end Mine
end
-- part Q19
section
open PySem PySem.W PyProof.Rows
namespace Mine

section
variable {prog : Program} {w : World} {G : GT} {W : Wc} {stack : List Env} {d : Nat} {Φ : Phi}
variable {h₀ H : Heap} {M₀ M Mh : Mem} {s : Shared} {σ : St} {ρ : Vars} {env : Env} {tab : List Str} {A : Around} {E : Value → Shared → Prop} {Q : Value → Shared → Prop}

theorem tgt_in {tg : Tgt} {caps : List Nat} (h : tgtOk tg caps.length = true) : tg.In (capTab tab caps tg.names) := by
  have at_ : ∀ k, (capTab tab caps tg.names)[caps.length + k]? = tg.names[k]? := fun k => by
    unfold capTab
    rw [List.getElem?_append_right (by rw [List.length_map]; exact Nat.le_add_right ..), List.length_map, Nat.add_sub_cancel_left]
  cases tg with
  | name i x p => cases (eq_of_beq (show (i == caps.length) = true from h)); exact at_ 0
  | pair i x p j y q k tp =>
    obtain ⟨h1, h2⟩ := and2 (show (i == caps.length && j == caps.length + 1) = true from h)
    cases (eq_of_beq h1); cases (eq_of_beq h2)
    exact ⟨at_ 0, at_ 1⟩
theorem capTab_len {tg : Tgt} {caps : List Nat} : (capTab tab caps tg.names).length ≤ (capsOf caps 2 ρ).length := by
  unfold capTab capsOf
  rw [List.length_append, List.length_append, List.length_map, List.length_map, List.length_replicate]
  cases tg with
  | name => exact Nat.le_succ _
  | pair => exact Nat.le_refl _
/-- behind a comprehension's turns -/
structure CEnd (prog : Program) (w : World) (G : GT) (h₀ : Heap) (M₀ : Mem) (D C : Addr) (ys : List PV) (σ' : St) (h' : Heap) (M' : Mem) : Prop where
  dc : D ≠ C
  st : Step G.base [] h₀ M₀ h' M'
  R : StR prog w G.base h' M' σ'
  dM : D ∉ M'
  ls : LstC h' M' D ys
  ns : ∃ m, h'.Ns C m
  cM : C ∉ M'
  c0 : h₀.get? C = none

structure Ands (a b c d e f g : Bool) : Prop where
  w1 : a = true
  w2 : b = true
  w3 : c = true
  w4 : d = true
  w5 : e = true
  w6 : f = true
  w7 : g = true
theorem and7 {a b c d e f g : Bool} (h : (a && b && c && d && e && f && g) = true) : Ands a b c d e f g := by
  have h6 := and2 h
  have h5 := and2 h6.1
  have h4 := and2 h5.1
  have h3 := and2 h4.1
  have h2 := and2 h3.1
  have h1 := and2 h2.1
  exact ⟨h1.1, h1.2, h2.2, h3.2, h4.2, h5.2, h6.2⟩
theorem comp_core (wd : Wd prog w G W stack d Φ) {elt it : PE} {en : Option (Str × Pos × Pos)} {ifs : List PE} {tg : Tgt} {caps : List Nat} {scope : Scope} {p pos : Pos} {use : Option (Value → Sem Unit)} {K : PV → St → Prop} {X : St → Prop}
    (he : SE prog w G W stack d Φ elt) (hit : SE prog w G W stack d Φ it) (hi : ∀ e ∈ ifs, ST prog w G W stack d Φ e) (ar : Ar A stack d) (wf : wfE W env.scope tab false (.comp elt tg en it ifs caps scope p) = true) (cx : Cx prog w G.base stack env tab ρ s.heap M σ)
    (hr : (evE Φ (.comp elt tg en it ifs caps scope p) ρ σ).wp K X) (hE : ∀ σ', X σ' → XEnd prog w G s.heap M s E σ')
    (hok : ∀ ys σ', K (.lst ys) σ' → ∀ D C h' tk M', CEnd prog w G s.heap M D C ys σ' h' M' → compPost (model prog w) A E use Q (.ref D) C (.ok .next) { s with heap := h', toks := tk }) :
    wpAny (model prog w) A (comprehension (PE.comp elt tg en it ifs caps scope p).toE scope env pos (newList []) false (eval (srcE en it.toE) env) use) Q E s := by
  dsimp only [evE_comp] at hr
  replace hr : (evE Φ it ρ σ).wp (fun l σ₁ => ∃ xs, srcv en l = some xs ∧ xs.length ≤ 1000000 ∧ (compGo (fun ρ σ => evB Φ .And ifs ρ σ) (fun ρ σ => evE Φ elt ρ σ) tg xs (capsOf caps 2 ρ) [] σ₁).wp (fun ys σ₂ => K (.lst ys) σ₂) X) X := Res.wp_mono (fun l σ₁ q => by
    cases hs : srcv en l with
    | none => rw [hs] at q; exact q.elim
    | some xs => rw [hs] at q; exact ⟨xs, rfl, srcv_len hs, Res.det_wp (Res.wp_bind (show ((Res.det (compGo _ _ tg xs _ [] σ₁)).bind _).wp _ _ from q))⟩) (fun _ q => q) (Res.wp_bind (Res.wp_bind hr))
  obtain ⟨w1, w2, w3, w4, w5, w6, w7⟩ := and7 wf
  have ok := scopeOk_of w3
  obtain ⟨env₀, outer, hst, hfr⟩ := cx.fr
  refine wpAny_comprehension_free (cl := clOf env.cells scope.names []) (g := ⟨tg.toE, srcE en it.toE, toEs ifs, 0⟩) (gs := []) rfl (env := env) (fun v => src_fold) (closureFor_eq (ok.frees cx.er)) ok.kind ok.loc ?_
  refine src_sound wd hit ar w1 w2 cx hr hE ?_
  intro xs σ₁ ⟨hl, hr⟩ h₁ M₁ S₁ R₁ hI tkI I wr Sti kI nI itr
  have cx₁ := cx.step S₁ R₁
  have nD : hI.get? hI.objs.size = none := get_size hI
  refine wpAny_newList ?_ (by rw [sizeLine_eq]; exact Nat.zero_le _)
  refine wpAny_newFunctionEnv (s := { s with heap := hI.push { cls := .type "list", data := .seq #[] }, toks := tkI }) ok.nocell (fun q hq => nomatch hq) (fun hC hns hsb => ?_) ok.kind
  have eD : (hI.push { cls := .type "list", data := .seq #[] }).get? hI.objs.size = some { cls := .type "list", data := .seq #[] } := Heap.get?_push_size _ rfl
  have nC : (hI.push { cls := .type "list", data := .seq #[] }).get? (hI.push { cls := .type "list", data := .seq #[] }).objs.size = none := get_size _
  have eC := Heap.get?_push_size (hI.push { cls := .type "list", data := .seq #[] }) (o := { cls := .type (if (some env).isSome then "dict" else "frame"), data := .dict #[] }) rfl
  have zC : (hI.push { cls := .type "list", data := .seq #[] }).objs.size = hI.objs.size + 1 := Heap.size_push ..
  have hDC : hI.objs.size ≠ (hI.push { cls := .type "list", data := .seq #[] }).objs.size := fun q => sn eD (q ▸ nC)
  generalize hCe : (hI.push { cls := .type "list", data := .seq #[] }).objs.size = C at *
  generalize hDe : hI.objs.size = D at *
  have ltI : ∀ a o, hI.get? a = some o → a < D := fun a o e => hDe ▸ Heap.lt_size e
  have oldI : ∀ a o, hI.get? a = some o → hC.get? a = some o := fun a o e =>
    (hsb.2 a (Nat.ne_of_lt (by have := ltI a o e; omega))).trans (Heap.get?_push_of_some _ (Heap.get?_push_of_some _ e))
  have new : ∀ a, D ≤ a → h₁.get? a = none := fun a l => by
    cases q : h₁.get? a with
    | none => rfl
    | some o => exact absurd (ltI a o (kI a o q)) (Nat.not_lt.mpr l)
  have obj := itr.obj _ _ itr.st0
  have ltw : ∀ a ∈ wr, a < D := fun a ha => by obtain ⟨o, e, _⟩ := obj a ha; exact ltI a o e
  have notM : ∀ a, h₁.get? a = none → a ≠ D → a ∉ M₁.hide D := fun a n ne m => by
    rcases Mem.hide_mem m with m | m
    · exact R₁.live.fresh n m
    · exact ne m
  have old := cx₁.ff.old
  have lk : Lk stack h₁ (compEnvC scope (clOf env.cells scope.names []) C env) (capTab tab caps tg.names) D C wr := ⟨fun a ha => by
      rcases List.mem_cons.mp ha with q | q
      · exact new a (Nat.le_of_eq q.symm)
      · rcases List.mem_cons.mp q with q | q
        · exact new a (by omega)
        · exact nI a q, hDC, fun m => Nat.lt_irrefl _ (ltw D m), fun m => by have := ltw C m; omega, old, rfl, fun x c hc => cells_old cx₁.er ok hc⟩
  have b₁ : B3 prog w G.base stack h₁ M₁ h₁ M₁ σ₁ := ⟨S₁.stay, .refl S₁.stay, R₁, cx₁.ff⟩
  have bI := b₁.ev (.of_keeps S₁.stay kI) (R₁.ofKeeps kI)
  have bD := bI.hidePush { cls := .type "list", data := .seq #[] } rfl
  rw [hDe] at bD
  have cM : C ∉ M₁.hide D := notM C (new C (by omega)) hDC.symm
  have bC := (B3X.turn1 (bD.push { cls := .type (if (some env).isSome then "dict" else "frame"), data := .dict #[] }) old (new C (by omega)) cM (kk_same hsb) ⟨_, eC, not_seqLike_dict rfl⟩).1
  have hideK : ∀ a o, hI.get? a = some o → a ∉ M₁ → a ∉ M₁.hide D := fun a o e n m => by
    rcases Mem.hide_mem m with m | m
    · exact n m
    · exact Nat.ne_of_lt (ltI a o e) m
  have kpI : Keeps2 hI M₁ hC (M₁.hide D) := ⟨fun a o e n _ => ⟨oldI a o e, hideK a o e n⟩, fun _ _ e => e⟩
  have eDC : IsL hC D #[] 0 := (hsb.2 D hDC).trans (Heap.get?_push_of_some _ eD)
  have ecomp := env_comp (H := hC) (Mh := M₁.hide D) (C := C) cx₁.er ((keeps_all M₁ kI).trans kpI) (fun a o e => oldI a o (kI a o e)) (fun a o e n => hideK a o (kI a o e) n) ok hns cM
  have lp : Lp prog w G.base stack h₁ M₁ hI (compEnvC scope (clOf env.cells scope.names []) C env) (capTab tab caps tg.names) D C wr (Sti 0) [] (capsOf caps 2 ρ) hC (M₁.hide D) σ₁ :=
    ⟨bC, kpI, fun a ha => by
      rcases List.mem_cons.mp ha with q | q
      · exact q ▸ cM
      · exact notM a (nI a q) (Nat.ne_of_lt (ltw a q)), fun m => R₁.live.fresh (new D (Nat.le_refl _)) (.inl m), itr.frame 0 hI M₁ hC _ itr.st0 ⟨fun _ _ e n _ => ⟨e, n⟩, fun _ _ e => e⟩ kpI fun b hb o e => oldI b o e, ecomp, ?_, [], 0, eDC, .nil⟩
  · have hloop := comp_loop (h₀ := h₁) (D := D) (C := C) (tab' := capTab tab caps tg.names) (cenv := compEnvC scope (clOf env.cells scope.names []) C env) (itE := srcE en it.toE) (pos := p) (scope := scope) (s₀ := s) (R := compPost (model prog w) A E use Q (.ref D) C) he hi (of_decide_eq_true w7) ar hst hfr w5 w6 (tgt_in w4) (fun x hx => ok.more x hx) itr lk hl (n := xs.length + 1 - 0) (fun ys σ' hk Hf tkf Mf bf dM cM ls ns => ?_) (fun σ' hx e Hf tkf Mf bf nt ns cM => ?_) ⟨hC, tkI + 0, M₁.hide D, σ₁, capsOf caps 2 ρ, [], 0, rfl, Nat.zero_le _, rfl, lp, Nat.le_refl _, hr⟩
    · refine codeAny_compStart_list hloop ?_
      exact itr.self A ar.hnd 0 _ _ _ lp.st hloop
    · obtain ⟨bu, Ku, sub⟩ := bf.unhide
      obtain ⟨vs, n, hD, ra⟩ := ls
      refine hok ys σ' hk D C Hf tkf (Mf.bare M₁) ⟨hDC, S₁.trans bu.step, bu.str, fun m => ?_, ⟨vs, n, hD, ra.keep Ku⟩, ns, fun m => cM (sub C m), S₁.back (lk.new C (.tail _ (.head _)))⟩
      rcases m with m | m
      · exact dM m
      · exact sne (R₁.out D m) (lk.new D (.head _))
    · obtain ⟨bu, Ku, sub⟩ := bf.unhide
      obtain ⟨mf, hn⟩ := ns
      have oc := ns_dict hn
      refine ⟨mf, hn, fun h' hs' cenv' _ => ?_⟩
      have kC := kk_same hs'
      have bg := (bu.turn1 old (lk.new C (.tail _ (.head _))) (fun m => cM (sub C m)) kC (oc.imp fun o h => ⟨h.1, h.2.1⟩)).1
      exact passOn_sound (s := { s with heap := h', toks := tkf }) bg (nt.keep sub kC oc) fun h'' b'' t'' _ => hE σ' hx e h'' tkf _ (S₁.trans b''.step) b''.str ((t''.thrown).back S₁)
  · exact capTab_len

/-- behind a comprehension: its variables go -/
theorem CEnd.gone {ys : List PV} {σ' : St} {h' h'' : Heap} {M' : Mem} {D C : Addr} (x : CEnd prog w G s.heap M D C ys σ' h' M') (cx : Cx prog w G.base stack env tab ρ s.heap M σ) (hs : Heap.SameBut C h' h'') :
    Step G.base [] s.heap M h'' M' ∧ StR prog w G.base h'' M' σ' ∧ RV h'' M' (.lst ys) (.ref D) := by
  obtain ⟨m, hn⟩ := x.ns
  have oc := ns_dict hn
  have b : B3 prog w G.base stack s.heap M h' M' σ' := ⟨cx.stay, x.st, x.R, cx.ff.step0 x.st⟩
  have kC := kk_same hs
  obtain ⟨b', K⟩ := b.turn1 cx.ff.old x.c0 x.cM kC (oc.imp fun o h => ⟨h.1, h.2.1⟩)
  obtain ⟨vs, n, hD, ra⟩ := x.ls
  exact ⟨b'.step, b'.str, .lst ys vs D n (kC D _ (fun m => x.dc (List.mem_singleton.mp m)) hD) x.dM (ra.keep K)⟩
theorem se_comp (wd : Wd prog w G W stack d Φ) {elt it : PE} {en : Option (Str × Pos × Pos)} {ifs : List PE} {tg : Tgt} {caps : List Nat} {scope : Scope} {p : Pos}
    (he : SE prog w G W stack d Φ elt) (hit : SE prog w G W stack d Φ it) (hi : ∀ e ∈ ifs, ST prog w G W stack d Φ e) : SE prog w G W stack d Φ (.comp elt tg en it ifs caps scope p) := by
  intro A s env tab ρ M σ Q E ar wf cx hp
  rw [toE_comp, PySem.eval_ListComp]
  refine comp_core wd (p := p) he hit hi ar wf cx hp (fun _ q => q) fun ys σ' k D C h' tk M' x => ?_
  obtain ⟨m, hn⟩ := x.ns
  refine ⟨m, hn, fun h'' hs => ?_⟩
  obtain ⟨S', R', rv⟩ := x.gone cx hs
  exact k _ h'' tk M' S' R' rv
end
end Mine
end
-- part Q20
section
open PySem PySem.W PyProof.Rows
namespace Mine

section
variable {prog : Program} {w : World} {G : GT} {W : Wc} {stack : List Env} {d : Nat} {Φ : Phi}
variable {h₀ H H' : Heap} {M₀ M Mh Mh' : Mem} {s : Shared} {σ σ' : St} {ρ : Vars} {env : Env} {tab : List Str} {A : Around} {E : Value → Shared → Prop} {Q : Value → Shared → Prop} {base : Heap}

theorem keeps_app {h : Heap} {D : Addr} (hD : ∀ o, h.get? D = some o → ¬ SeqLike o) : Keeps2 h M h (M ++ [D]) := by
  refine ⟨fun a o' e n q => ⟨e, fun m => ?_⟩, fun k a e => ?_⟩
  · rcases Mem.mem_append.mp m with m | m
    · exact n m
    · rw [List.mem_singleton.mp m] at e; exact hD _ e q
  · rw [Mem.app_c, List.getElem?_append_left (List.getElem?_eq_some_iff.mp e).1]; exact e
/-- a new object comes into the store -/
theorem B3X.cell {h : Heap} {D : Addr} {c : SC} (b : B3 prog w base stack h₀ M₀ h M σ) (h0 : h₀.get? D = none) (dM : D ∉ M) (hD : ∀ o, h.get? D = some o → ¬ SeqLike o) (q : SCR prog w h (M ++ [D]) D c) :
    Step base [] h₀ M₀ h (M ++ [D]) ∧ StR prog w base h (M ++ [D]) (σ ++ [c]) ∧ RV h (M ++ [D]) (.cell σ.length) (.ref D) := by
  refine ⟨⟨b.step.keep, b.step.there, ?_, b.step.stay, b.step.zk⟩, b.str.new (keeps_app hD) (fun _ _ e => e) dM (b.oldBase h0) q, .cell _ _ ?_⟩
  · obtain ⟨N, hN, hN'⟩ := b.step.grow
    refine ⟨N ++ [D], by rw [hN, Mem.app_assoc], fun a ha => ?_⟩
    rcases List.mem_append.mp ha with q | q
    · exact hN' a q
    · rw [List.mem_singleton.mp q]; exact h0
  · rw [← b.str.len, Mem.app_c, List.getElem?_append_right (Nat.le_refl _), Nat.sub_self]; rfl
theorem Thrown.sub {cls : Value} {e : Addr} {M' : Mem} (x : Thrown cls h₀ H M e) (hs : ∀ a, a ∈ M' → a ∈ M) : Thrown cls h₀ H M' e := by
  obtain ⟨oe, vs, a1, a2, a3, a4, a5, a6, a7⟩ := x
  refine ⟨oe, vs, a1, a2, a3, a4, a5, fun m => a6 (hs e m), a7.imp_right ?_⟩
  rintro ⟨T, oT, ts, h1, h2, h3, h4, h5, h6, h7, h8⟩
  exact ⟨T, oT, ts, h1, h2, h3, fun m => h4 (hs T m), h5, h6, h7, h8⟩
theorem EnvR.hidePush {h : Heap} (x : EnvR h M env tab ρ) (o : Obj) : EnvR (h.push o) (M.hide h.objs.size) env tab ρ :=
  x.move keeps_hide fun a _ o' e n => ⟨fun m => (Mem.hide_mem m).elim n fun q => by rw [q] at e; exact sn e (get_size _), o', Heap.get?_push_of_some _ e, .refl o'⟩

theorem se_dct {k1 k2 : Str} {k k' : Nat} {kp kp' p : Pos} {v1 v2 : PE} (h1 : SE prog w G W stack d Φ v1) (h2 : SE prog w G W stack d Φ v2) : SE prog w G W stack d Φ (.dct k1 k kp v1 k2 k' kp' v2 p) := by
  intro A s env tab ρ M σ Q E ar wf cx hp
  dsimp only [evE_dct] at hp
  obtain ⟨w1, w3⟩ := and2 wf
  obtain ⟨w1, w2⟩ := and2 w1
  have hne : ¬ k1 = k2 := fun q => by rw [q, beq_self_eq_true] at w3; cases w3
  refine wpAny_Dict_pairs (knd := PySem.strKind prog w) (pairs := [(eval (.Constant (.str k1) k kp) env, do let x ← eval v1.toE env; standAt p; pure x), (eval (.Constant (.str k2) k' kp') env, do let x ← eval v2.toE env; standAt p; pure x)]) rfl (by simp) (by simp) ?_
  have b₀ : B3 prog w G.base stack s.heap M s.heap M σ := ⟨cx.stay, .refl cx.stay, cx.str, cx.ff⟩
  have bD := b₀.hidePush { cls := .type "dict", data := .dict #[] } rfl
  have hDn : (s.heap.push { cls := .type "dict", data := .dict #[] }).DictOf (PySem.strKind prog w) s.heap.objs.size [] := Heap.DictOf.new _
  have hD0 : s.heap.get? s.heap.objs.size = none := get_size _
  have SP : Step G.base [] s.heap M (s.heap.push { cls := .type "dict", data := .dict #[] }) M := .push cx.stay _
  have erD := cx.er.hidePush { cls := .type "dict", data := .dict #[] }
  generalize hDe : s.heap.objs.size = D at *
  have cxD : Cx prog w G.base stack env tab ρ (s.heap.push { cls := .type "dict", data := .dict #[] }) (M.hide D) σ := ⟨bD.step.stay, bD.ff, erD, bD.str, cx.fr⟩
  have exc : ∀ {h' : Heap} {M' : Mem} {σ₁ : St} {tk : Nat}, B3 prog w G.base stack s.heap (M.hide D) h' M' σ₁ → ∀ σ', XEnd prog w G s.heap M s E σ' → XEnd prog w G h' M' { s with heap := h', toks := tk } E σ' := fun b σ' q e h'' tk' M'' S R th =>
    let bu := (b.ev S R).unhide
    q e h'' tk' _ bu.1.step bu.1.str ((th.back b.step).sub bu.2.2)
  refine evalPairs_cons (wpAny_Constant_str ?_)
  refine wpAny_bind (h1 (s := { s with heap := s.heap.push { cls := .type "dict", data := .dict #[] }, toks := s.toks + 1 }) ar w1 cxD (Res.wp_mono (fun x σ₁ hp v h₁ tk₁ M₁ S₁ R₁ rv₁ => ?_) (exc bD) (Res.wp_bind hp)))
  have cx₁ := cxD.step S₁ R₁
  have b₁ := bD.ev S₁ R₁
  refine wpAny_bind (wpAny_standAt (wpAny_pure ?_))
  refine evalPairs_cons (wpAny_Constant_str ?_)
  refine wpAny_bind (h2 (s := { s with heap := h₁, toks := tk₁ + 1 }) ar w2 cx₁ (Res.wp_mono (fun y σ₂ hp u h₂ tk₂ M₂ S₂ R₂ rv₂ => ?_) (exc b₁) (Res.wp_bind hp)))
  have b₂ := b₁.ev S₂ R₂
  refine wpAny_bind (wpAny_standAt (wpAny_pure ?_))
  obtain ⟨o, es, ep, ho, hx, hd, r⟩ := id hDn
  have e₁ := S₁.zk D o (.head _) (fun q => nomatch q) ho
  have hz₁ : D ∈ M₁.z := by obtain ⟨N, rfl, _⟩ := S₁.grow; exact .head _
  have e₂ := S₂.zk D o hz₁ (fun q => nomatch q) e₁
  have hz₂ : D ∈ M₂.z := by obtain ⟨N, rfl, _⟩ := S₂.grow; exact hz₁
  have dM : D ∉ M₂.c := fun q => b₂.str.dis D q hz₂
  refine evalPairs_nil ⟨[(k1, v), (k2, u)], ⟨strKind_is _ _ _ _, rfl, strKind_is _ _ _ _, rfl, trivial⟩, ⟨o, es, ep, e₂, hx, hd, r⟩, fun h' hm hs => ?_⟩
  have hm' : h'.DictOf (PySem.strKind prog w) D [(k1, v), (k2, u)] := by
    have e : merged ([] : List (Str × Value)) [(k1, v), (k2, u)] = [(k1, v), (k2, u)] := by
      simp [merged, stored, hne]
    rw [e] at hm; exact hm
  obtain ⟨oD, esD, epD, hoD, hxD, hdD, rD⟩ := id hm'
  obtain ⟨b₃, K₃⟩ := b₂.turn (X := [D]) cx.ff.old (fun a m => List.mem_singleton.mp m ▸ hD0) (fun a m => List.mem_singleton.mp m ▸ dM) (fun b o hb e => (hs.2 b fun m => hb (m ▸ .head _)).trans e) (fun a m _ => List.mem_singleton.mp m ▸ ⟨oD, hoD⟩) fun a m q => absurd (.inr (List.mem_singleton.mp m ▸ hz₂)) q
  obtain ⟨b₄, K₄, sub⟩ := b₃.unhide
  have hDM : D ∉ M₂.bare M := fun m => m.elim dM fun m => sne (cx.str.out D m) hD0
  have hns : ∀ o, h'.get? D = some o → ¬ SeqLike o := fun o e => by rw [hoD] at e; cases e; exact not_seqLike_dict hdD
  have kk : ∀ {z : PV} {t : Value}, RV h₂ M₂ z t → RV h' ((M₂.bare M) ++ [D]) z t := fun r => ((r.keep K₃).keep K₄).keep (keeps_app hns)
  obtain ⟨S₅, R₅, rv⟩ := b₄.cell (c := .dct [(k1, x), (k2, y)]) hD0 hDM hns ⟨[(k1, v), (k2, u)], hm', rfl, .cons _ _ _ _ (kk (rv₁.keep S₂.keeps0)) (.cons _ _ _ _ (kk rv₂) .nil)⟩
  exact hp (.ref D) h' _ _ S₅ R₅ rv
end
end Mine
end
-- part Q21
section
open PySem PySem.W PyProof.Rows
namespace Mine

section
variable {prog : Program} {w : World} {A : Around} {E : Value → Shared → Prop} {s : Shared} {base : Heap} {M : Mem}

theorem keys_name : (["__module__", "__name__", "__qualname__", "__doc__", "__annotations__"] : List Str).contains (Str.ofString "keys") = false := by decide +kernel
theorem list_no_keys : typeLookup (.type "list") (Str.ofString "keys") = pure none := am_miss_of_fast (by kernel_rfl)
/-- a list has no keys -/
theorem keys_miss {a : Addr} {xs : Array Value} {k : Nat} {Q : Option Value → Shared → Prop} (hx : IsL s.heap a xs k) (hA : A.handled = none)
    (h : ∀ h' tk, (∀ b o, s.heap.get? b = some o → h'.get? b = some o) → Q none { s with heap := h', toks := tk }) : wpAny (model prog w) A (getAttr? (.ref a) (Str.ofString "keys")) Q E s := by
  obtain ⟨hp, g, d, tk, os⟩ := s
  have hT : ∀ tk', (⟨hp, g, d, tk', os⟩ : Shared).TypeIs (.ref a) "list" := fun _ => ⟨_, hx, rfl⟩
  have f1 := sub_AttributeError
  have f3 := F.slot_list_getattribute.lookup
  have f4 := F.slot_list_getattribute.bind (.ref a)
  have f5 := am_list_getattr_none
  unfold getAttr? getAttrBy? getAttrBy
  repeat (any_goals (first | assumption | exact hT _ | ((with_reducible show wpAny _ _ (call (Value.builtin "list.__getattribute__") _ _) _ _ _); refine call_meets F.slot_list_getattribute (hT _) am_entry_list_getattribute (F.args_list_getattribute_2 _ _) (meets_getattribute_miss_list a xs k #[] (Str.ofString "keys") _ list_no_keys keys_name (by decide +kernel)) ⟨hx, hA, fun h' tk' e hx' => ?_⟩) | wp_step))
  obtain ⟨t', u', he⟩ := hx'.there
  show wpAny _ _ (getattributeRaised _ _ _ _ _ _ _) _ _ _
  unfold getattributeRaised
  repeat (any_goals (first | assumption | wp_step))
  exact h _ _ hx'.keeps
end
end Mine
end
-- part Q22
section
open PySem PySem.W PyProof.Rows
namespace Mine

theorem entry_upd_loop : entryFor table "dict.update.loop" = some Builtin.«dict.update.loop» := entryFor_of_fast (by kernel_rfl)
theorem plain_upd_loop : plainId "dict.update.loop" = true := by decide +kernel
section
variable {prog : Program} {w : World} {A : Around} {E : Value → Shared → Prop} {s : Shared} {base : Heap} {M : Mem} {R : Result → Shared → Prop}

theorem lookup_none {k : List Int} : ∀ {l : List (List Int × PV)}, k ∉ l.map (·.1) → l.lookup k = none
  | [], _ => rfl
  | (k', v) :: r, h => by
    have q : (k == k') = false := beq_eq_false_iff_ne.mpr fun q => h (by rw [q]; exact .head _)
    rw [List.lookup_cons, q]
    exact lookup_none fun m => h (.tail _ m)
theorem draw_keep {h h' : Heap} {I l D : Addr} {i : Nat} {c : SC} (hI : h.IsListIter I l i) (hDI : D ≠ I) (k : KK [I] h h') (x : SCR prog w h M D c) : Keeps2 h M h' M ∧ SCR prog w h' M D c := by
  obtain ⟨o, ho, hc, hd⟩ := hI
  have K : Keeps2 h M h' M := ⟨fun b ob eb nb sl => ⟨k b ob (fun m => by rw [List.mem_singleton.mp m] at eb; rw [ho] at eb; cases eb; exact (iterLike_of hc hd (by decide)).2 sl) eb, nb⟩, fun _ _ e => e⟩
  obtain ⟨oD, eD⟩ := x.there
  exact ⟨K, x.keep K ((k D oD (fun m => hDI (List.mem_singleton.mp m)) eD).trans eD.symm)⟩
/-- a dict's turns over a list of pairs -/
theorem dict_loop {l I D : Addr} {vs : List Value} {n : Nat} (hA : A.handled = none) (hu : A.units + 1 < cLine) (hl : l ≠ I) (hDI : D ≠ I) (hDl : D ≠ l) (hDM : (D == sysModules) = false) :
    ∀ (rest : List PV) (i : Nat) (t : Tok) (s : Shared) (done kr : List (List Int × PV)), RVs s.heap M rest (vs.drop i) → kvsOf rest = some kr → ((done ++ kr).map (·.1)).Nodup → done.length + rest.length ≤ 1000000 → l ∉ M →
      s.heap.IsListIter I l i → IsL s.heap l vs.toArray n → SCR prog w s.heap M D (.dat done) →
      (∀ h' tk, KK [I, D] s.heap h' → SCR prog w h' M D (.dat (done ++ kr)) → R (.ok (.ret .none)) { s with heap := h', toks := tk }) →
      codeAny (model prog w) A (.builtin "dict.update.loop" ⟨[.ref D, .ref I, .int i t, .none], []⟩) R s
  | [], i, t, s, done, kr, ra, hk, nd, hz, lM, hi, hL, hD, q => by
    cases hk
    have hn : vs.toArray[i]? = none := by
      have := ra.length
      rw [List.length_drop] at this
      exact Array.getElem?_eq_none (by rw [List.size_toArray]; simp only [List.length_nil] at this; omega)
    refine codeAny_builtin entry_upd_loop ?_
    rw [Around.under_plainId plain_upd_loop _]
    show wpAny _ A.in1 (pyNext (.ref I) >>= _) _ _ s
    refine wpAny_bind (wpAny_pyNext_list_end (A := A.in1) hA hi hL.isList hn fun h' he => ?_)
    have k : KK [I] s.heap h' := fun b o nb e => he b o (fun m => nb (m ▸ .head _)) e
    refine wpAny_bind (wpAny_pure (wpAny_pure (q h' s.toks (k.mono fun a m => List.mem_singleton.mp m ▸ .head _) ?_)))
    rw [List.append_nil]
    exact (draw_keep hi hDI k hD).2
  | x :: rest, i, t, s, done, kr, ra, hk, nd, hz, lM, hi, hL, hD, q => by
    obtain ⟨l2, e1, hk⟩ := Option.bind_eq_some_iff.mp hk
    obtain ⟨p, e2, hk⟩ := Option.bind_eq_some_iff.mp hk
    obtain ⟨kq, e3, hk⟩ := Option.bind_eq_some_iff.mp hk
    obtain ⟨kr', e4, hk⟩ := Option.map_eq_some_iff.mp hk
    cases hk
    cases two_inv e2
    obtain ⟨x0, hx0, r0⟩ := RVs.get ra (i := 0) rfl
    have hx : vs[i]? = some x0 := by rw [List.getElem?_drop] at hx0; exact hx0
    have lt : i < vs.length := (List.getElem?_eq_some_iff.mp hx).1
    have ra' : RVs s.heap M rest (vs.drop (i + 1)) := by
      have := RVs.drop 1 ra
      rw [List.drop_drop] at this
      exact this
    refine codeAny_builtin entry_upd_loop ?_
    rw [Around.under_plainId plain_upd_loop _]
    show wpAny _ A.in1 (pyNext (.ref I) >>= _) _ _ s
    refine wpAny_bind (wpAny_pyNext_list_item (A := A.in1) hi hL.isList ((List.getElem?_toArray ..).trans hx) fun h₁ hi₁ hs₁ => ?_)
    have k₁ : KK [I] s.heap h₁ := fun b o nb e => hs₁.extBut b o (fun m => nb (m ▸ .head _)) e
    obtain ⟨K₁, hD₁⟩ := draw_keep hi hDI k₁ hD
    obtain ⟨us, a, n', rfl, ha, ma, ru⟩ := (asT_rv e1 r0).keep K₁
    obtain ⟨u1, t1, r1, ru⟩ := ru
    obtain ⟨u2, t2, r2, ru⟩ := ru
    cases ru
    refine wpAny_bind (wpAny_holding (wpAny_bind (wpAny_tryCatch ?_)))
    unfold Builtin.Dict.pairItems
    refine wpAny_bind (wpAny_typeOf (T := "tuple") (show Shared.TypeIs _ (.ref a) "tuple" from ⟨_, ha, rfl⟩) ?_)
    rw [if_pos (by decide)]
    refine wpAny_bind (wpAny_seqItems ha rfl (wpAny_pure ?_))
    show wpAny _ A.in1 (holding [u1, u2] (dictSet D u1 u2)) _ _ _
    obtain ⟨b, rfl, hb, bM⟩ := keyt_rv (prog := prog) (w := w) e3 r1
    obtain ⟨vs', hd, hM, hn, hkk, rr⟩ := hD₁
    have nk : done.lookup kq = none := lookup_none fun m => by
      rw [List.map_append] at nd
      exact (List.nodup_append.mp nd).2.2 kq m kq (.head _) rfl
    have ak : atKey vs' kq = none := by
      have := dat_at hkk rr kq
      rw [nk] at this; exact this
    have len : vs'.length = done.length := by
      have := congrArg List.length hkk
      rw [List.length_map, List.length_map] at this; exact this
    refine wpAny_holding (wpAny_dictSet_heap (knd := tupleKind (intKind prog w)) (tupleKind_room_in1 hu) hb hd (fun h₂ hd₂ hs₂ => ?_) (by rw [len, sizeLine_eq]; simp only [List.length_cons] at hz; omega))
    rw [storedH_new ak] at hd₂
    have hD2 : ∀ o, h₁.get? D = some o → ¬ SeqLike o := fun o e => by obtain ⟨o', _, _, e', _, hd', _⟩ := id hd; rw [e] at e'; cases e'; exact not_seqLike_dict hd'
    have K₂ : Keeps2 h₁ M h₂ M := ⟨fun a o e n sq => ⟨(hs₂.2 a fun q => by subst q; exact hD2 o e sq).trans e, n⟩, fun _ _ e => e⟩
    refine wpAny_pure ⟨plainId_quiet plain_upd_loop _, dict_loop (n := n) hA hu hl hDI hDl hDM rest (i + 1) _ _ (done ++ [(kq, p.2)]) kr' ((ra'.keep K₁).keep K₂) e4 (by rw [List.append_assoc]; exact nd) (by rw [List.length_append]; simp only [List.length_cons, List.length_nil] at hz ⊢; omega) lM ?_ ?_ ?_ fun h₃ tk₃ k₃ hD₃ => ?_⟩
    · obtain ⟨o, ho, r⟩ := hi₁
      exact ⟨o, (hs₂.2 I hDI.symm).trans ho, r⟩
    · exact (hs₂.2 l hDl.symm).trans (k₁ _ _ (fun m => hl (List.mem_singleton.mp m)) hL)
    · refine ⟨vs' ++ [(kq, b, u2)], hd₂, fun u hu => ?_, hDM, ?_, ?_⟩
      · rcases List.mem_append.mp hu with m | m
        · exact hM u m
        · rw [List.mem_singleton.mp m]; exact bM
      · rw [List.map_append, List.map_append, hkk]; rfl
      · rw [List.map_append, List.map_append]
        exact (rr.keep K₂).append (.cons _ _ _ _ (r2.keep K₂) .nil)
    · refine q h₃ tk₃ (fun b o nb e => k₃ b o nb ((hs₂.2 b fun m => nb (m ▸ .tail _ (.head _))).trans (k₁ b o (fun m => nb (List.mem_singleton.mp m ▸ .head _)) e))) ?_
      rw [List.append_assoc] at hD₃; exact hD₃
end
end Mine
end
-- part Q23
section
open PySem PySem.W PyProof.Rows
namespace Mine

section
variable {prog : Program} {w : World} {G : GT} {W : Wc} {stack : List Env} {d : Nat} {Φ : Phi}
variable {h₀ H : Heap} {M₀ M Mh : Mem} {s : Shared} {σ : St} {ρ : Vars} {env : Env} {tab : List Str} {A : Around} {E : Value → Shared → Prop} {Q : Value → Shared → Prop}

theorem se_dic (wd : Wd prog w G W stack d Φ) {x : Str} {xp p : Pos} {e : PE} (h : SE prog w G W stack d Φ e) : SE prog w G W stack d Φ (.dic x xp e p) := by
  intro A s env tab ρ M σ Q E ar wf cx p
  dsimp only [evE_dic] at p
  refine call_B (b := .dict) wd h ar (and2 wf).1 (and2 wf).2 cx p fun v s₁ h₁ => ?_
  obtain ⟨z, σ₁, M₁, st, R, rv, p⟩ := h₁
  obtain ⟨l, hl, p⟩ := p.wit
  obtain ⟨_, c1, p⟩ := p.wit
  obtain ⟨kvs, hk, p⟩ := p.wit
  obtain ⟨_, c2, p⟩ := p.wit
  have c1 := small_line (gd_inv c1).1
  have nd := of_decide_eq_true (gd_inv c2).1
  obtain ⟨vs, a, n, rfl, ha, ma, ra⟩ := asL_rv hl rv
  have cx := cx.step st R
  obtain ⟨mg, mb, g⟩ := wd.glo
  have hbig : mainGlobals < s₁.heap.objs.size := by
    obtain ⟨o, es, ep, ho, _⟩ := (cx.glob g).1
    exact Heap.lt_size ho
  have hnD : s₁.heap.get? s₁.heap.objs.size = none := get_size _
  have hDM : (s₁.heap.objs.size == sysModules) = false := beq_eq_false_iff_ne.mpr (Nat.ne_of_gt (Nat.lt_of_le_of_lt (show sysModules ≤ mainGlobals by decide) hbig))
  refine callType_codes (Q₁ := fun obj s₂ => obj = .ref s₁.heap.objs.size ∧ s₂ = { s₁ with heap := s₁.heap.push { cls := .type "dict", data := .dict #[] } }) F.kt_called_dict (F.kt_typeCall_dict_1 _) F.entry_dict_init (kt_code_dict_new _ ⟨rfl, rfl⟩) ?_
  rintro obj s₂ ⟨rfl, rfl⟩
  have kP : ∀ b o, s₁.heap.get? b = some o → (s₁.heap.push { cls := .type "dict", data := .dict #[] }).get? b = some o := fun b o e => Heap.get?_push_of_some _ e
  have eD := Heap.get?_push_size s₁.heap (o := { cls := .type "dict", data := .dict #[] }) rfl
  have hT : (Shared.mk (s₁.heap.push { cls := .type "dict", data := .dict #[] }) s₁.gens s₁.drawn s₁.toks s₁.os).TypeIs (.ref s₁.heap.objs.size) "dict" := ⟨_, eD, rfl⟩
  refine ⟨hT, F.args_dict_init_2 _ _, ?_⟩
  unfold Builtin.«dict.__init__»
  refine wpAny_bind ?_
  unfold Builtin.Dict.selfAndRest
  refine wpAny_bind (wpAny_notOrdered_dict hT ?_)
  show wpAny _ _ (pure (s₁.heap.objs.size, [Value.ref a])) _ _ _
  refine wpAny_pure ?_
  show wpAny _ _ (Builtin.Dict.updateFrom "dict.__init__" s₁.heap.objs.size (.ref a) [] .none) _ _ _
  unfold Builtin.Dict.updateFrom
  have ha₂ : IsL (s₁.heap.push { cls := .type "dict", data := .dict #[] }) a vs.toArray n := kP a _ ha
  refine wpAny_bind (wpAny_typeOf (T := "list") (show Shared.TypeIs _ (.ref a) "list" from ⟨_, ha₂, rfl⟩) ?_)
  rw [if_pos (by decide)]
  refine wpAny_bind (keys_miss (A := A.in1.in1) ha₂ ar.hnd fun h₃ tk k₃ => ?_)
  rw [if_pos (by rfl)]
  refine wpAny_bind (wpAny_rule ?_)
  have ha₃ : IsL h₃ a vs.toArray n := k₃ a _ ha₂
  have eD₃ := k₃ _ _ eD
  refine wpAny_bind (wpAny_pyIter_list (s := { s₁ with heap := h₃, toks := tk }) ha₃.isList ?_)
  refine wpAny_pure ⟨plainId_quiet plain_upd_loop _, ?_⟩
  have hlt := Heap.lt_size ha
  have hD₃ : s₁.heap.objs.size < h₃.objs.size := Heap.lt_size eD₃
  have kI : ∀ b o, h₃.get? b = some o → (h₃.push { cls := .type "list_iterator", data := .fields #[.ref a, .int 0 0] }).get? b = some o := fun b o e => Heap.get?_push_of_some _ e
  have k13 : ∀ b o, s₁.heap.get? b = some o → (h₃.push { cls := .type "list_iterator", data := .fields #[.ref a, .int 0 0] }).get? b = some o := fun b o e => kI b o (k₃ b o (kP b o e))
  have hd0 : SCR prog w (h₃.push { cls := .type "list_iterator", data := .fields #[.ref a, .int 0 0] }) M₁ s₁.heap.objs.size (.dat []) :=
    SCR.keep (keeps_all M₁ fun b o e => kI b o (k₃ b o e)) ((kI _ _ eD₃).trans eD.symm) (show SCR prog w _ M₁ _ (.dat []) from .mk [] (Heap.DictOfH.new s₁.heap) (fun u hu => nomatch hu) hDM rfl rfl)
  have nI : s₁.heap.get? h₃.objs.size = none := Heap.get?_none_of_le (Nat.le_of_lt hD₃)
  have b₀ : B3 prog w G.base stack s₁.heap M₁ (h₃.push { cls := .type "list_iterator", data := .fields #[.ref a, .int 0 0] }) M₁ σ₁ := ⟨cx.stay, .of_keeps cx.stay k13, cx.str.ofKeeps k13, cx.ff.step0 (.of_keeps cx.stay k13)⟩
  refine dict_loop (A := A.in1) (R := wants (fun r s₂ => r = .none ∧ Q (.ref s₁.heap.objs.size) s₂) E) (I := h₃.objs.size) (n := n) (vs := vs) ar.hnd (by have := ar.cl; show A.units + 1 + 1 < cLine; omega) (Nat.ne_of_lt (Nat.lt_trans hlt hD₃)) (Nat.ne_of_lt hD₃) (Nat.ne_of_gt hlt) hDM l 0 _ _ [] kvs (ra.keep (keeps_all M₁ k13)) hk nd (by rw [List.length_nil, Nat.zero_add]; exact c1) ma
    ⟨_, Heap.get?_push_size _ rfl, rfl, rfl⟩ (kI _ _ ha₃) hd0 fun h' tk' kk hD' => ⟨rfl, ?_⟩
  have two : ∀ {b : Addr} {P : Prop}, b ∈ [h₃.objs.size, s₁.heap.objs.size] → (b = h₃.objs.size → P) → (b = s₁.heap.objs.size → P) → P := fun m f g => by
    rcases List.mem_cons.mp m with m | m
    · exact f m
    · exact g (List.mem_singleton.mp m)
  obtain ⟨b₁, K₁⟩ := b₀.turn cx.ff.old (fun b m => two m (fun q => q ▸ nI) fun q => q ▸ hnD) (fun b m q => two m (fun e => R.live.fresh nI (e ▸ .inl q)) fun e => R.live.fresh hnD (e ▸ .inl q)) kk (fun b m q => two m (fun e => absurd (.inr (e ▸ q)) (R.live.fresh nI)) fun e => absurd (.inr (e ▸ q)) (R.live.fresh hnD))
    fun b m _ o eo => two m (fun e => by subst e; rw [Heap.get?_push_size _ rfl] at eo; cases eo; exact (iterLike_of (T := "list_iterator") rfl rfl (by decide)).2) fun e => by subst e; rw [kI _ _ eD₃] at eo; cases eo; exact not_seqLike_dict rfl
  obtain ⟨us, hd, hM, hn, hkk, rr⟩ := id hD'
  have hns : ∀ o, h'.get? s₁.heap.objs.size = some o → ¬ SeqLike o := fun o e => by obtain ⟨o', _, _, e', _, hd', _⟩ := hd; rw [e] at e'; cases e'; exact not_seqLike_dict hd'
  obtain ⟨S, R', rv⟩ := b₁.cell (c := .dat kvs) hnD (R.live.fresh hnD) hns (hD'.keep (keeps_app hns) rfl)
  exact p _ h' tk' _ S R' rv
end
end Mine
end
-- part Q24
section
open PySem PySem.W PySem.Calls PyProof.Rows
namespace Mine

theorem clOf_nil {cells : List (Str × Addr)} : ∀ {names : List (Str × NameKind)}, (∀ q ∈ names, q.2 ≠ .free) → ∀ acc, clOf cells names acc = acc
  | [], _, _ => rfl
  | (n, k) :: r, h, acc => by
    have hk : (k == NameKind.free) = false := beq_eq_false_iff_ne.mpr (h (n, k) (.head _))
    unfold clOf
    rw [hk]
    exact clOf_nil (fun q m => h q (.tail _ m)) acc
section
variable {prog : Program} {w : World} {A : Around} {E : Value → Shared → Prop} {s : Shared} {base : Heap} {M : Mem} {σ : St} {mg : Str → Option Value}

/-- the table of code -/
theorem StR.tblc (R : StR prog w base s.heap M σ) (h : tblOk σ = true) : M.c[0]? = some lamP ∧ σ[0]? = some .tbl ∧ TblC s.heap M lamP := by
  cases σ with
  | nil => exact nomatch h
  | cons c r =>
    cases c with
    | tbl =>
      have l := R.len
      have : 0 < M.c.length := by rw [l]; exact Nat.succ_pos _
      have e := List.getElem?_eq_getElem this
      have x := R.at_ 0 .tbl _ rfl e
      have z : M.c[0] = lamP := by rcases x with ⟨h1, _⟩ | ⟨_, _, _, _, h1, _⟩ <;> exact h1
      rw [z] at e x
      exact ⟨e, rfl, x⟩
    | _ => exact nomatch h
theorem set_same {α : Type} : ∀ {l : List α} {i : Nat} {x : α}, l[i]? = some x → l.set i x = l
  | [], _, _, h => nomatch h
  | a :: r, 0, _, h => by cases h; rfl
  | a :: r, i + 1, x, h => congrArg (a :: ·) (set_same (l := r) (i := i) h)

noncomputable abbrev lamObj (r : Str) (ap rp : Pos) (k : Nat) (zp sp : Pos) (sc : Scope) (pm : Value) (c' : Addr) : Obj :=
  kla_obj "<lambda>" (lamQual ++ "<lambda>") ⟨[], [⟨r, none, ap⟩], none, [], [], none, []⟩ (.Subscript (.Name r rp) (.Constant (.int 0) k zp) sp) sc [] pm c' .none
theorem lam_make {env : Env} {r : Str} {ap rp : Pos} {k : Nat} {zp sp lp : Pos} {sc : Scope} {Q : Value → Shared → Prop} (hfree : ∀ q ∈ sc.names, q.2 ≠ .free) (hcode : env.code = .ref lamC) (hqual : env.qual = lamQual) (hglob : env.globals = mainGlobals) (hl : lp.line = lamL) (hk : lp.col = lamK)
    (hg : s.heap.Ns mainGlobals mg) (C : CodeHd s.heap lamC lamP) (hb : s.heap.BuiltinsAt mg lamP) (stay : base.StaysIn s.heap) (R : StR prog w base s.heap M σ) (tok : tblOk σ = true)
    (q : ∀ f h' tk c', Step base [] s.heap M h' M → StR prog w base h' M σ → s.heap.get? f = none → h'.get? f = some (lamObj r ap rp k zp sp sc ((mg "__name__").getD .none) c') → h'.CodeRec (.ref c') (lamQual ++ "<lambda>") → Q (.ref f) { s with heap := h', toks := tk }) :
    wpAny (model prog w) A (eval (.Lambda ⟨[], [⟨r, none, ap⟩], none, [], [], none, []⟩ (.Subscript (.Name r rp) (.Constant (.int 0) k zp) sp) sc lp) env) Q E s := by
  have hcl : closureFor sc env = pure [] := by rw [closureFor_eq (fun q m e => absurd e (hfree q m)), clOf_nil hfree]
  obtain ⟨m0, s0, x⟩ := R.tblc tok
  have memP : lamP ∈ M.c := List.mem_of_getElem? m0
  refine kla_eval rfl ?_
  rw [makeFunction_eq, hqual]
  simp only [List.zip_nil_right, List.filterMap_nil, List.isEmpty_nil, if_true, pure_bind]
  obtain ⟨bm, ob, hbm, hne0, _, hneP, hbo, hcls, hdict, hdata⟩ := hb
  unfold makeTail
  rw [hcl, hglob]
  refine wpAny_bind (wpAny_pure ?_)
  simp only [List.isEmpty_nil, if_true]
  refine wpAny_bind (wpAny_pure ?_)
  rcases x with ⟨_, hP⟩ | ⟨c, oc, vs, t, _, hP, h3, h4, h5, h6, h7⟩
  · have hgP : mainGlobals ≠ lamP := fun q => by
      obtain ⟨o, es, ep, e, hd, _⟩ := hg
      rw [q, hP] at e; cases e; cases hd
    refine wpAny_bind (wpAny_functionCodeX hcode (C.code hP trivial) (C.tab hP) rfl fun c' h' tk hx hge hlt _ hrec htb hnew => ?_)
    obtain ⟨P', hP1, _, ⟨⟨oc, vs, e1, e2, e3, _⟩, _⟩⟩ := hnew
    obtain ⟨c₂, oc', vs', t, ec, e1', e3', e4⟩ := id hrec
    cases ec
    rw [e1] at e1'; cases e1'
    rw [e3] at e3'; cases e3'
    have kk : KK [lamP] s.heap h' := fun b o n e => hx b o (fun m => n (m ▸ .head _)) e
    have S : Step base [] s.heap M h' M := ⟨fun a o e n _ => ⟨o, kk a o (fun m => n (List.mem_singleton.mp m ▸ memP)) e, .refl o⟩, fun a o e => by
        by_cases m : a = lamP
        · exact ⟨_, m ▸ htb.2⟩
        · exact ⟨o, hx a o m e⟩, ⟨[], (Mem.app_nil M).symm, fun _ m => nomatch m⟩, fun a o e => hx a o (fun m => sn (m ▸ e) (R.old lamP (.inl memP))) (stay a o e), fun a o m _ e => hx a o (fun z => R.dis lamP memP (z ▸ m)) e⟩
    have fr : ∀ a, s.heap.objs.size ≤ a → a ∉ M := fun a l => R.live.fresh (Heap.get?_none_of_le l)
    have R' := R.upd (c := .tbl) m0 S.keeps0 (fun b m nb => by obtain ⟨o, e⟩ := R.live b m; exact (hx b o nb e).trans e.symm) (TblC.got c' oc vs t rfl (by rw [← hl, ← hk]; exact htb.2) e1 e2 e3 e4 (fr c' hge))
    rw [set_same s0] at R'
    refine wpAny_bind (wpAny_builtinsFor (hg.extBut hx hgP) hbm hne0 (hx _ _ hneP hbo) hcls hdict hdata ?_)
    refine wpAny_bind (wpAny_nsGet (hg.extBut hx hgP) ?_)
    refine wpAny_bind (wpAny_pure (wpAny_newObj_type ?_ (by size_fits)))
    exact q h'.objs.size _ tk c' (S.trans (.push S.stay _)) (R'.ofKeeps fun _ _ e => Heap.get?_push_of_some _ e) (Heap.get?_none_of_le (Nat.le_of_lt (Nat.lt_of_le_of_lt hge hlt))) (Heap.get?_push_size _ rfl) (hrec.push _)
  · have hf : codeAmong lp [rawInt lamL, rawInt lamK, .ref c] = some (.ref c) := by
      show (if (((lamL : Nat) : Int) == lp.line && ((lamK : Nat) : Int) == lp.col) = true then _ else _) = _
      rw [hl, hk, if_pos (by rw [beq_self_eq_true, beq_self_eq_true]; rfl)]
    refine wpAny_bind (wpAny_functionCode_hit hcode (C.code hP trivial) hf ?_)
    refine wpAny_bind (wpAny_builtinsFor hg hbm hne0 hbo hcls hdict hdata ?_)
    refine wpAny_bind (wpAny_nsGet hg ?_)
    refine wpAny_bind (wpAny_pure (wpAny_newObj_type ?_ (by size_fits)))
    exact q s.heap.objs.size _ s.toks c (.push stay _) (R.ofKeeps fun _ _ e => Heap.get?_push_of_some _ e) (get_size _) (Heap.get?_push_size _ rfl) (Heap.CodeRec.push ⟨c, oc, vs, t, rfl, h3, h5, h6⟩ _)
end
end Mine
end
-- part Q25
section
open PySem PySem.W PySem.Calls PyProof.Rows
namespace Mine

section
variable {prog : Program} {w : World} {A : Around} {E : Value → Shared → Prop} {s : Shared} {base : Heap} {M : Mem} {σ : St}

/-- what a lambda's scope says -/
structure LamSc (sc : Scope) : Prop where
  kind : sc.kind = .function
  co : sc.isCoroutine = false
  gen : sc.isGenerator = false
  cell : ∀ q ∈ sc.names, q.2 ≠ .cell
  free : ∀ q ∈ sc.names, q.2 ≠ .free
  row : sc.names.lookup ("row" : Str) = some .local
theorem lam_binds {ap rp : Pos} {k : Nat} {zp sp : Pos} {sc : Scope} {pm : Value} {c' : Addr} {v : Value} : bindArgs (kla_fn "<lambda>" (lamQual ++ "<lambda>") ⟨[], [⟨"row", none, ap⟩], none, [], [], none, []⟩ (.Subscript (.Name "row" rp) (.Constant (.int 0) k zp) sp) sc [] pm (.ref c') .none) ⟨[v], []⟩ = pure [(("row" : Str), v)] := by
  rfl

/-- the lambda is called upon a row -/
theorem lam_call {f T : Addr} {ap rp : Pos} {k : Nat} {zp sp : Pos} {sc : Scope} {pm : Value} {c' : Addr} {us : List Value} {n : Nat} {u : Value} {Q : Value → Shared → Prop} (hroom : A.depth < recursionLimit) (hs : LamSc sc) (hlim : s.heap.NoLimit) (hf : s.heap.get? f = some (lamObj "row" ap rp k zp sp sc pm c')) (hcd : s.heap.CodeRec (.ref c') (lamQual ++ "<lambda>"))
    (hT : IsT s.heap T us.toArray n) (hz : us[0]? = some u) (q : ∀ h' tk, (∀ b o, s.heap.get? b = some o → h'.get? b = some o) → Q u { s with heap := h', toks := tk }) :
    wpAny (model prog w) A (call (.ref f) [.ref T]) Q E s := by
  refine wpAny_call (kla_callFunE hroom hf rfl hs.co hs.gen rfl hcd ?_)
  rw [lam_binds]
  refine wpAny_pure (wpAny_newFunctionEnv hs.cell (fun y hy => by rw [List.mem_singleton.mp hy]; exact hs.row) (fun h₁ hns hsb => ⟨hlim.fresh _ hsb, ?_⟩) hs.kind)
  have kk : ∀ b o, s.heap.get? b = some o → h₁.get? b = some o := fun b o e => hsb.extBut b o (Nat.ne_of_lt (Heap.lt_size e)) (Heap.get?_push_of_some _ e)
  refine kla_codeExpr ?_
  refine Subscript_ ?_
  refine wpAny_Name (wpAny_loadName_local hs.kind hs.row hns (v := .ref T) (by rfl) ?_) (by decide)
  refine wpAny_Constant_int ?_
  obtain ⟨ops, hs'⟩ := subscripted_op (.Constant (.int 0) k zp) (.ref T) (.int 0 _)
  have hT' := kk T _ hT
  have lt := (List.getElem?_eq_some_iff.mp hz).1
  exact tail_any (T := "tuple") ⟨_, hT', rfl⟩ F.slot_tuple_getitem.lookup (P.getItem_tuple hT' (by omega) (by omega) (k := 0) (seq_place (j := 0) (by rw [List.size_toArray]; exact lt)) ((List.getElem?_toArray ..).trans hz) (q h₁ _ kk)) hs'
end
end Mine
end
-- part Q26
section
open PySem PySem.W PySem.Calls PyProof.Rows
namespace Mine

section
variable {prog : Program} {w : World} {A : Around} {E : Value → Shared → Prop} {s : Shared} {base : Heap} {M : Mem} {σ : St}

noncomputable def Ints (l : List Value) : Prop := ∀ u ∈ l, ∃ i t, u = .int i t
theorem keyv_ints {h : Heap} : ∀ {l : List PV} {q : List Int} {vs : List Value}, keyv l = some q → RVs h M l vs → Ints vs
  | [], _, _, _, r => by cases r; exact fun u m => nomatch m
  | x :: l, q, _, e, r => by
    obtain ⟨i, hi, e⟩ := Option.bind_eq_some_iff.mp e
    obtain ⟨q', hq, _⟩ := Option.map_eq_some_iff.mp e
    obtain ⟨v, t, hv, ht⟩ := r
    obtain ⟨t', rfl⟩ := asI_rv hi hv
    intro u m
    rcases List.mem_cons.mp m with m | m
    · exact ⟨i, t', m⟩
    · exact keyv_ints hq ht u m

theorem tuple_lt_tree {a b : Addr} {xs ys : List Value} {n m : Nat} {P : PySem.Fin → Shared → Prop} (ha : IsT s.heap a xs.toArray n) (hb : IsT s.heap b ys.toArray m) (hx : Ints xs) (hy : Ints ys) (h : ∀ c, P (.done (.ret (.bool c))) s) :
    wpAny (model prog w) A (Builtin.«tuple.__lt__» ⟨[.ref a, .ref b], []⟩) P E s := by
  have hTb : s.TypeIs (.ref b) "tuple" := ⟨_, hb, rfl⟩
  show wpAny _ _ (isInstance (.ref b) (.type "tuple") >>= _) _ _ s
  refine wpAny_bind (wpAny_isInstance hTb isSubtype_tuple_tuple ?_)
  simp only [Bool.not_true, Bool.false_eq_true, if_false]
  refine wpAny_bind (wpAny_tupleItemsOf ha rfl ?_)
  refine wpAny_bind (wpAny_tupleItemsOf hb rfl ?_)
  refine wpAny_bind ?_
  refine wpAny_forIn_list _ (fun rest r s' => r.1 = none ∧ s' = s ∧ ∀ q ∈ rest, (∃ i t, q.1 = .int i t) ∧ ∃ i t, q.2 = .int i t) _ ?_ ?_ _ _ ⟨rfl, rfl, fun q mq => ⟨hx _ (List.of_mem_zip mq).1, hy _ (List.of_mem_zip mq).2⟩⟩
  · rintro ⟨u, v⟩ rest r s' ⟨hr, rfl, hz⟩
    obtain ⟨⟨i, t, hu⟩, j, t', hv⟩ := hz _ (.head _)
    dsimp only at hu hv
    subst hu; subst hv
    refine wpAny_bind (wpAny_eqBool_int ?_)
    by_cases hk : (i == j) = true
    · rw [hk]
      simp only [Bool.not_true, Bool.false_eq_true, if_false]
      exact wpAny_pure ⟨rfl, rfl, fun q mq => hz q (.tail _ mq)⟩
    · rw [Bool.eq_false_iff.mpr hk]
      simp only [Bool.not_false, if_true]
      refine wpAny_bind (wpAny_rule ?_)
      refine wpAny_bind (show wpAny _ _ (richCompare .Lt (.int i t) (.int j t')) _ _ _ from wpAny_lt_int ?_)
      exact wpAny_bind (wpAny_pure (wpAny_pure (wpAny_pure (h _))))
  · rintro ⟨r1, r2⟩ s' ⟨hr, rfl, _⟩
    simp only at hr
    subst hr
    exact wpAny_pure (h _)
end
end Mine
end
-- part Q27
section
open PySem PySem.W PySem.Calls PyProof.Rows
namespace Mine

theorem RVs.perm {h : Heap} {M : Mem} : ∀ {vs us : List Value}, us.Perm vs → ∀ {xs : List PV}, RVs h M xs vs → ∃ ys, ys.Perm xs ∧ RVs h M ys us := by
  intro vs us p
  induction p with
  | nil => exact fun r => ⟨_, .refl _, r⟩
  | cons v _ ih =>
    intro xs r
    match xs, r with
    | x :: xs, r =>
      obtain ⟨_, _, hv, ht⟩ := r
      obtain ⟨ys, p, q⟩ := ih ht
      exact ⟨x :: ys, p.cons x, .mk _ _ hv q⟩
  | swap a b l =>
    intro xs r
    match xs, r with
    | x :: y :: xs, r =>
      obtain ⟨_, _, h1, r⟩ := r
      obtain ⟨_, _, h2, ht⟩ := r
      exact ⟨y :: x :: xs, .swap x y xs, .mk _ _ h2 (.mk _ _ h1 ht)⟩
    | [x], r =>
      obtain ⟨_, _, h1, r⟩ := r
      exact nomatch r
  | trans _ _ ih1 ih2 =>
    intro xs r
    obtain ⟨ys, p1, q1⟩ := ih2 r
    obtain ⟨zs, p2, q2⟩ := ih1 q1
    exact ⟨zs, p2.trans p1, q2⟩

section
variable {prog : Program} {w : World} {A : Around} {E : Value → Shared → Prop} {s : Shared} {base : Heap} {M : Mem} {σ : St}

/-- a key: a tuple of ints -/
inductive KeyT (h : Heap) (v : Value) : Prop
  | mk (a : Addr) (xs : List Value) (n : Nat) (e : v = .ref a) (ha : IsT h a xs.toArray n) (hx : Ints xs)
theorem KeyT.looks {M : Model} {v : Value} (k : KeyT s.heap v) : Looks M s.heap (typeOf v) (.type "tuple") := by
  obtain ⟨a, xs, n, rfl, ha, _⟩ := k
  exact (Looks.ld ha).andThen .now
theorem first_of {M : Model} {v : Value} {Q : Option Value → Shared → Prop} (k : KeyT s.heap v) (q : ∀ o, Q o s) : wpAny M A (firstOfTuple' v) Q E s := by
  rw [kas_first_eq]
  refine wpAny_bind (k.looks.here ?_)
  obtain ⟨a, xs, n, rfl, ha, _⟩ := k
  rw [if_neg (by decide)]
  exact wpAny_bind (listItems_at ha rfl (wpAny_pure (q _)))
theorem firsts_of {M : Model} : ∀ {vs : List Value} {Q : List (Option Value) → Shared → Prop}, (∀ v ∈ vs, KeyT s.heap v) → (∀ fs, Q fs s) → wpAny M A (vs.mapM firstOfTuple') Q E s
  | [], Q, _, q => by rw [List.mapM_nil]; exact wpAny_pure (q _)
  | v :: vs, Q, k, q => by
    rw [List.mapM_cons]
    exact wpAny_bind (first_of (k v (.head _)) fun o => wpAny_bind (firsts_of (fun u m => k u (.tail _ m)) fun fs => wpAny_pure (q _)))
/-- the kind of such keys, the first of them empty -/
theorem key_kind {M : Model} {a : Addr} {n : Nat} {vs : List Value} {Q : SortKind → Shared → Prop} (h0 : IsT s.heap a #[] n) (k : ∀ v ∈ vs, KeyT s.heap v) (h : Q oneType' s) : wpAny M A (keyKind' (Value.ref a :: vs).toArray) Q E s := by
  have k' : ∀ v ∈ Value.ref a :: vs, KeyT s.heap v := fun v m => by
    rcases List.mem_cons.mp m with m | m
    · exact ⟨a, [], n, m, h0, fun u m => nomatch m⟩
    · exact k v m
  rw [keyKind'_eq, List.mapM_toArray, map_eq_pure_bind]
  refine wpAny_bind (wpAny_bind ?_)
  rw [List.mapM_cons]
  have l0 : Looks M s.heap (typeOf (.ref a)) (.type "tuple") := (k' _ (.head _)).looks
  rw [kas_first_eq]
  refine wpAny_bind (wpAny_bind (l0.here ?_))
  rw [if_neg (by decide)]
  refine wpAny_bind (listItems_at h0 rfl (wpAny_pure (wpAny_bind (firsts_of k fun fs => wpAny_pure (wpAny_pure ?_)))))
  rw [if_neg (by simp), if_neg (by simp)]
  rw [oneTypeOnly'_eq, List.mapM_toArray, map_eq_pure_bind]
  refine wpAny_bind (wpAny_bind (wpAny_bind (kas_mapM (r := Value.type "tuple") _ (fun v hv Q' hq => (k' v hv).looks.here hq) (wpAny_pure ?_))))
  have hall : ((List.map (fun _ => Value.type "tuple") (Value.ref a :: vs)).toArray.all fun x => x == Value.type "tuple") = true := by
    simp only [List.all_toArray, List.all_map, List.all_eq_true]
    intro _ _
    rfl
  have e0 : (List.map (fun _ => Value.type "tuple") (Value.ref a :: vs)).toArray[0]? = some (Value.type "tuple") := by simp
  rw [e0]
  simp only [hall, if_true]
  exact wpAny_pure (wpAny_pure h)

/-- two keys may be compared -/
theorem key_lt (hu : A.units < cLine) : LtOk (model prog w) A E s oneType' (fun p => KeyT s.heap p.1) := by
  intro x y hx hy Q st hk q
  obtain ⟨a, xs, n, ex, ha, hxs⟩ := hx
  obtain ⟨b, ys, m, ey, hb, hys⟩ := hy
  rw [lt'_eq, ex, ey]
  refine wpS_bind (wpS_get ?_)
  rw [hk, keyLt'_oneType]
  refine wpS_bind (wpS_lift (wpAny_attempt ?_))
  rw [oneLt'_eq]
  simp only [if_true]
  have hT : s.TypeIs (.ref a) "tuple" := ⟨_, ha, rfl⟩
  refine wpAny_bind (wpAny_cRoomFor hu ?_)
  refine wpAny_bind (wpAny_callSpecialIfBound?_slot hT F.slot_tuple_lt (wpAny_call_entry F.slot_tuple_lt hT F.entry_tuple_lt (tuple_lt_tree ha hb hxs hys fun c => ⟨_, rfl, ?_⟩) (F.args_tuple_lt_2 _ _)))
  exact wpAny_truthy_bool ⟨rfl, wpS_pure (q c)⟩
end
end Mine
end
-- part Q28
section
open PySem PySem.W PySem.Calls PyProof.Rows
namespace Mine

section
variable {prog : Program} {w : World} {A : Around} {E : Value → Shared → Prop} {s : Shared} {base : Heap} {M : Mem} {σ : St} {a kS : Addr} {vs us : List Value} {P : PySem.Fin → Shared → Prop}

theorem upd_kk (h : Heap) (a : Addr) (f : Obj → Obj) : KK [a] h (h.update a f) := fun b o n e => (Heap.get?_update_other h _ (fun m : a = b => n (by rw [m]; exact .head _))).trans e
/-- the end of a sort -/
theorem lam_tail {M : Model} {st : SortSt} {keys : Array Value} {e e1 : Nat} (hka : kS ≠ a) (hk : s.heap.get? kS = some (seqObj "list" keys e)) (ha : s.heap.get? a = some (seqObj "list" #[] e1)) (hz : keys.size ≤ 1000000) (hv : vs.length ≤ 1000000) (hp : ((arrOf st).map (·.2)).toList.Perm vs) (hfl : failedOf st = none)
    (h : ∀ h' out c, KK [kS, a] s.heap h' → h'.get? a = some (seqObj "list" out c) → out.toList.Perm vs → P (.done (.ret .none)) { s with heap := h' }) :
    wpAny M A (ksk_tail a false e1 (.ref kS) st) P E s := by
  have s1 := upd_kk s.heap kS (Obj.mapSeq fun _ => (#[] : Array Value))
  have ha1 := s1 a _ (fun m => hka (List.mem_singleton.mp m).symm) ha
  have s2 := upd_kk (s.heap.update kS (Obj.mapSeq fun _ => (#[] : Array Value))) a (Obj.mapSeq fun _ => if false = true then ((arrOf st).map (·.2)).reverse else (arrOf st).map (·.2))
  have hc2 := get?_update_seq ha1 fun _ => if false = true then ((arrOf st).map (·.2)).reverse else (arrOf st).map (·.2)
  unfold ksk_tail
  try dsimp only
  refine wpAny_bind (listUpdate_at hk rfl ?_ (by rw [sizeLine_eq]; omega) (Nat.zero_le _))
  refine wpAny_bind (wpAny_letGo ?_)
  refine wpAny_bind (seqEpoch_at ha1 rfl ?_)
  refine wpAny_bind (listUpdate_at ha1 rfl ?_ (Nat.zero_le _) ?_)
  · rw [hfl]
    simp only [bne_self_eq_false, Bool.false_eq_true, if_false] at s2 hc2 ⊢
    exact wpAny_pure (h _ _ _ ((s1.mono fun b m => by rw [List.mem_singleton.mp m]; exact .head _).trans (s2.mono fun b m => by rw [List.mem_singleton.mp m]; exact .tail _ (.head _))) hc2 hp)
  · show (if false = true then ((arrOf st).map (·.2)).reverse else (arrOf st).map (·.2)).size ≤ _
    rw [if_neg Bool.false_ne_true, ← Array.length_toList, hp.length_eq, sizeLine_eq]
    omega

theorem zip_snd {keys : Array Value} (hl : keys.size = vs.length) : ((keys.zip vs.toArray).map (·.2)).toList = vs := by
  rw [Array.toList_map, ksk_zip]
  exact List.map_snd_zip (Nat.le_of_eq hl.symm)
theorem lam_end {keys : Array Value} {e e1 : Nat} (hu : A.units < cLine) (hka : kS ≠ a) (hk : s.heap.get? kS = some (seqObj "list" keys e)) (ha : s.heap.get? a = some (seqObj "list" #[] e1)) (hl : keys.size = vs.length) (hv : vs.length ≤ 1000000) (kt : ∀ u ∈ keys.toList, KeyT s.heap u)
    (k0 : ∃ b n r, keys.toList = .ref b :: r ∧ IsT s.heap b #[] n)
    (h : ∀ h' out c, KK [kS, a] s.heap h' → h'.get? a = some (seqObj "list" out c) → out.toList.Perm vs → P (.done (.ret .none)) { s with heap := h' }) :
    wpAny (model prog w) A (ksk_end a false vs.toArray e1 (.ref kS) keys) P E s := by
  have hz : keys.size ≤ 1000000 := hl ▸ hv
  unfold ksk_end
  try dsimp only
  simp only [Bool.false_eq_true, if_false]
  by_cases h2 : vs.toArray.size < 2
  · rw [if_pos h2, if_pos h2]
    refine wpAny_bind (wpAny_pure ?_)
    rw [StateT.run_pure]
    refine wpAny_bind (wpAny_pure ?_)
    exact lam_tail (st := SortSt.mk' general' (keys.zip vs.toArray) #[] 7 none) hka hk ha hz hv (by show ((keys.zip vs.toArray).map (·.2)).toList.Perm vs; rw [zip_snd hl]) rfl h
  · rw [if_neg h2, if_neg h2]
    obtain ⟨b, n, r, er, hb⟩ := k0
    have ek : keys = (Value.ref b :: r).toArray := by rw [← er, Array.toArray_toList]
    refine wpAny_bind ?_
    rw [show keyKind' keys = keyKind' (Value.ref b :: r).toArray by rw [← ek]]
    refine key_kind hb (fun v m => kt v (by rw [er]; exact .tail _ m)) ?_
    refine wpAny_bind (wpAny_mono (wpS_sortRuns_ (a₀ := keys.zip vs.toArray) (S := fun p => KeyT s.heap p.1) (st := SortSt.mk' oneType' (keys.zip vs.toArray) #[] 7 none)
      (Q := fun _ st' => (arrOf st').Perm (keys.zip vs.toArray) ∧ failedOf st' = none)
      (key_lt hu) (fun x m => ?_) ⟨rfl, Array.Perm.refl _, rfl, rfl⟩ fun st' a1 a2 => ⟨a1, a2⟩) ?_ fun _ _ e => e)
    · rw [← Array.mem_toList_iff, ksk_zip] at m
      exact kt _ (List.of_mem_zip m).1
    · rintro ⟨⟨⟩, st'⟩ s' ⟨rfl, hp, hf⟩
      have hp' := (Array.perm_iff_toList_perm.mp hp).map (·.2)
      refine lam_tail hka hk ha hz hv ?_ hf h
      rw [Array.toList_map]
      rw [← Array.toList_map (xs := keys.zip vs.toArray), zip_snd hl] at hp'
      exact hp'

/-- a row, and its first -/
inductive RowT (h : Heap) (v u : Value) : Prop
  | mk (T : Addr) (ys : List Value) (n : Nat) (e : v = .ref T) (hT : IsT h T ys.toArray n) (h0 : ys[0]? = some u)
theorem rows_us {h : Heap} : ∀ {xs : List PV} {vs : List Value}, RVs h M xs vs → (∀ x ∈ xs, (rowKey x).isSome = true) → ∃ us : List Value, us.length = vs.length ∧ (∀ (j : Nat) (v : Value), vs[j]? = some v → ∃ u : Value, us[j]? = some u ∧ RowT h v u) ∧ (∀ u ∈ us, KeyT h u) ∧ (rootOk xs = true → ∃ b n r, us = .ref b :: r ∧ IsT h b #[] n)
  | [], _, r, _ => by cases r; exact ⟨[], rfl, (fun j v e => nomatch e), (fun u m => nomatch m), fun e => nomatch e⟩
  | x :: xs, _, r, k => by
    obtain ⟨v, t, hv, ht⟩ := r
    obtain ⟨us, h1, h2, h3, _⟩ := rows_us ht fun y m => k y (.tail _ m)
    obtain ⟨q, hq⟩ := Option.isSome_iff_exists.mp (k x (.head _))
    obtain ⟨l, hl, hk⟩ := Option.bind_eq_some_iff.mp hq
    obtain ⟨z, hz, hk⟩ := Option.bind_eq_some_iff.mp hk
    obtain ⟨ys, T, n, rfl, hT, _, ry⟩ := asT_rv hl hv
    rw [List.head?_eq_getElem?] at hz
    obtain ⟨u, hu, ru⟩ := ry.get hz
    obtain ⟨m, hm, hk⟩ := Option.bind_eq_some_iff.mp hk
    obtain ⟨ks, b, n', rfl, hb, _, rk⟩ := asT_rv hm ru
    refine ⟨.ref b :: us, congrArg (· + 1) h1, fun j v' e => ?_, fun u' mu => ?_, fun e => ⟨b, n', us, rfl, ?_⟩⟩
    · cases j with
      | zero => cases e; exact ⟨_, rfl, T, ys, n, rfl, hT, hu⟩
      | succ j => exact h2 j v' e
    · rcases List.mem_cons.mp mu with q | q
      · exact ⟨b, ks, n', q, hb, keyv_ints hk rk⟩
      · exact h3 u' q
    · have e' : (rowKey x).elim false (fun q => q.isEmpty) = true := e
      rw [hq] at e'
      cases q with
      | cons => exact nomatch e'
      | nil =>
        cases m with
        | nil => cases rk; exact hb
        | cons y m' =>
          obtain ⟨_, _, hk⟩ := Option.bind_eq_some_iff.mp hk
          obtain ⟨_, _, hk⟩ := Option.map_eq_some_iff.mp hk
          exact nomatch hk
end
end Mine
end
-- part Q29
section
open PySem PySem.W PySem.Calls PyProof.Rows
namespace Mine

section
variable {prog : Program} {w : World} {A : Around} {E : Value → Shared → Prop} {s : Shared} {base : Heap} {M : Mem} {σ : St} {a kS : Addr} {vs us : List Value} {P : PySem.Fin → Shared → Prop}

theorem isT_kk {h h' : Heap} {k T : Addr} {xs ys : Array Value} {n m : Nat} (kk : KK [k] h h') (hk : h.get? k = some (seqObj "list" xs n)) (hT : IsT h T ys m) : IsT h' T ys m :=
  kk T _ (fun q => by
    rw [List.mem_singleton.mp q] at hT
    have e := congrArg Obj.cls (Option.some.inj (hT.symm.trans hk))
    injection e with e
    exact absurd e (by decide)) hT
theorem KeyT.kk {h h' : Heap} {k : Addr} {xs : Array Value} {n : Nat} {u : Value} (x : KeyT h u) (kk : KK [k] h h') (hk : h.get? k = some (seqObj "list" xs n)) : KeyT h' u := by
  obtain ⟨a, ys, m, e, ha, hx⟩ := x
  exact ⟨a, ys, m, e, isT_kk kk hk ha, hx⟩
/-- the keys are asked for, and the sort -/
theorem lam_rest {f : Addr} {ap rp : Pos} {k : Nat} {zp sp : Pos} {sc : Scope} {pm : Value} {c' : Addr} {e1 : Nat} (hroom : A.depth < recursionLimit) (hu : A.units < cLine) (hs : LamSc sc) (hlim : base.NoLimit) (stay : base.StaysIn s.heap) (hb : base.get? kS = none)
    (hf : s.heap.get? f = some (lamObj "row" ap rp k zp sp sc pm c')) (hcd : s.heap.CodeRec (.ref c') (lamQual ++ "<lambda>")) (hka : kS ≠ a) (hk : s.heap.get? kS = some (seqObj "list" #[] 0)) (ha : s.heap.get? a = some (seqObj "list" #[] e1)) (hv : vs.length ≤ 1000000)
    (hl : us.length = vs.length) (rows : ∀ (j : Nat) (v : Value), vs[j]? = some v → ∃ u : Value, us[j]? = some u ∧ RowT s.heap v u) (kt : ∀ u ∈ us, KeyT s.heap u) (k0 : ∃ b n r, us = .ref b :: r ∧ IsT s.heap b #[] n)
    (h : ∀ h' tk out c, KK [kS, a] s.heap h' → h'.get? a = some (seqObj "list" out c) → out.toList.Perm vs → P (.done (.ret .none)) { s with heap := h', toks := tk }) :
    wpAny (model prog w) A (ksk_rest a (.ref f) false vs.toArray e1 (.ref kS)) P E s := by
  unfold ksk_rest
  refine wpAny_bind (wpAny_rule ?_)
  first
    | rw [List.forIn_toArray]
    | (rw [← Array.forIn_toList]; simp only [List.toList_toArray])
    | rw [← Array.forIn_toList]
  refine wpAny_bind (ksk_fold (fun i s' => ∃ h' tk kA e, s' = { s with heap := h', toks := tk } ∧ KK [kS] s.heap h' ∧ h'.get? kS = some (seqObj "list" kA e) ∧ kA.toList = us.take i) vs 0 s
    ⟨s.heap, s.toks, #[], 0, rfl, fun _ _ _ e => e, hk, rfl⟩ ?step ?done)
  case step =>
    rintro j x s' hx ⟨h', tk, kA, e, rfl, kk, hk', ek⟩
    rw [Nat.zero_add] at ek ⊢
    obtain ⟨u, hu', T, ys, n, rfl, hT, h0⟩ := rows j x hx
    have ne : ∀ b o, s.heap.get? b = some o → (∀ xs n, o ≠ seqObj "list" xs n) → b ∉ [kS] := fun b o eb no m => by
      rw [List.mem_singleton.mp m, hk] at eb; cases eb; exact no _ _ rfl
    have stay' : base.StaysIn h' := fun b o eb => kk b o (fun m => sn (List.mem_singleton.mp m ▸ eb) hb) (stay b o eb)
    have hf' := kk f _ (ne f _ hf fun _ _ q => nomatch (congrArg Obj.data q)) hf
    have hcd' : h'.CodeRec (.ref c') (lamQual ++ "<lambda>") := hcd.keepsBut (a := kS) (fun b o n eb => kk b o (fun m => n (List.mem_singleton.mp m)) eb) hk (fun _ q => nomatch q)
    refine wpAny_bind (wpAny_attempt (lam_call (s := { s with heap := h', toks := tk }) hroom hs (hlim.keeps stay') hf' hcd' (isT_kk kk hk hT) h0 fun h₂ tk₂ k₂ => ?_))
    have hk₂ := k₂ _ _ hk'
    have hkA : kA.size ≤ 1000000 := by
      rw [← Array.length_toList, ek, List.length_take]; omega
    have s1 := upd_kk h₂ kS (Obj.mapSeq (·.push u))
    have hk₃ := get?_update_seq hk₂ (·.push u)
    try dsimp only
    refine wpAny_bind (listUpdate_at hk₂ rfl ?_ (by rw [sizeLine_eq]; omega) (Nat.le_trans (Nat.le_of_eq (Array.size_push ..)) (by rw [sizeLine_eq]; omega)))
    refine wpAny_pure ⟨rfl, _, _, kA.push u, _, rfl, fun b o n eb => s1 b o n (k₂ b o (kk b o n eb)), hk₃, ?_⟩
    rw [Array.toList_push, ek, List.take_add_one, hu']
    rfl
  case done =>
    rintro s' ⟨h', tk, kA, e, rfl, kk, hk', ek⟩
    rw [Nat.zero_add, List.take_of_length_le (Nat.le_of_eq hl)] at ek
    try dsimp only
    refine wpAny_bind (listItems_at hk' rfl ?_)
    have hka' : a ∉ [kS] := fun m => hka (List.mem_singleton.mp m).symm
    refine lam_end (s := { s with heap := h', toks := tk }) hu hka hk' (kk a _ hka' ha) (by rw [← Array.length_toList, ek, hl]) hv (fun u m => (kt u (ek ▸ m)).kk kk hk) ?_ fun h₃ out c k₃ h3 hp => h h₃ tk out c (fun b o n eb => k₃ b o n (kk b o (fun m => n (by rw [List.mem_singleton.mp m]; exact .head _)) eb)) h3 hp
    obtain ⟨b, n, r, e0, hb0⟩ := k0
    exact ⟨b, n, r, ek.trans e0, isT_kk kk hk hb0⟩
end
end Mine
end
-- part Q30
section
open PySem PySem.W PySem.Calls PyProof.Rows
namespace Mine

section
variable {prog : Program} {w : World} {A : Around} {E : Value → Shared → Prop} {s : Shared} {base : Heap} {M : Mem} {σ : St}

theorem KeyT.keep {h h' : Heap} {u : Value} (x : KeyT h u) (k : ∀ b o, h.get? b = some o → h'.get? b = some o) : KeyT h' u := by
  obtain ⟨a, ys, m, e, ha, hx⟩ := x
  exact ⟨a, ys, m, e, k _ _ ha, hx⟩
theorem sorted_sound {f l : Addr} {ap rp : Pos} {k : Nat} {zp sp : Pos} {sc : Scope} {pm : Value} {c' : Addr} {xs : List PV} {vs : List Value} {n : Nat} {Q : Value → Shared → Prop} (hroom : A.depth < recursionLimit) (hu : A.units + 2000 < cLine) (hs : LamSc sc) (hlim : base.NoLimit) (stay : base.StaysIn s.heap)
    (hf : s.heap.get? f = some (lamObj "row" ap rp k zp sp sc pm c')) (hcd : s.heap.CodeRec (.ref c') (lamQual ++ "<lambda>")) (hl : IsL s.heap l vs.toArray n) (ra : RVs s.heap M xs vs) (hz : xs.length ≤ 1000000) (hr : rootOk xs = true) (hk : ∀ x ∈ xs, (rowKey x).isSome = true)
    (h : ∀ D h' tk out c, (∀ b o, s.heap.get? b = some o → h'.get? b = some o) → s.heap.get? D = none → h'.get? D = some (seqObj "list" out c) → out.toList.Perm vs → Q (.ref D) { s with heap := h', toks := tk }) :
    wpAny (model prog w) A (call (.builtin "sorted") [.ref l] [(Str.ofString "key", .ref f)]) Q E s := by
  obtain ⟨us, hul, rows, kt, k0⟩ := rows_us ra hk
  have k0 := k0 hr
  have hv : vs.length ≤ 1000000 := ra.length ▸ hz
  have szl : vs.length ≤ sizeLine := by rw [sizeLine_eq]; omega
  refine call_function_entry_kw kind_sorted plain_sorted entry_sorted (ksk_s1 _ _) ?_
  unfold Builtin.«sorted»
  refine wpAny_bind (m := checkCount "sorted" 1 1 _) (wpAny_pure ?_)
  refine wpAny_bind (collect_list hl.isList ?_ szl)
  refine wpAny_bind (wpAny_newList ?_ szl)
  have hsz : ((s.heap.push (seqObj "list" #[] 0)).update s.heap.objs.size (Obj.mapSeq (· ++ vs.toArray))).objs.size = s.heap.objs.size + 1 := by
    rw [Heap.size_update, size_push']
  have hoL : (((s.heap.push (seqObj "list" #[] 0)).update s.heap.objs.size (Obj.mapSeq (· ++ vs.toArray))).push (seqObj "list" vs.toArray 0)).get? (s.heap.objs.size + 1) = some (seqObj "list" vs.toArray 0) := by
    rw [← hsz]; exact Heap.get?_push_size _ rfl
  have keep : ∀ b o, s.heap.get? b = some o → (((s.heap.push (seqObj "list" #[] 0)).update s.heap.objs.size (Obj.mapSeq (· ++ vs.toArray))).push (seqObj "list" vs.toArray 0)).get? b = some o := fun b o q =>
    Heap.get?_push_of_some _ ((Heap.get?_update_other _ _ (Nat.ne_of_gt (Heap.lt_size q))).trans (Heap.get?_push_of_some _ q))
  show wpAny _ _ _ _ _ { s with heap := ((s.heap.push (seqObj "list" #[] 0)).update s.heap.objs.size (Obj.mapSeq (· ++ vs.toArray))).push (seqObj "list" vs.toArray 0) }
  rw [hsz]
  have hz1 : (((s.heap.push (seqObj "list" #[] 0)).update s.heap.objs.size (Obj.mapSeq (· ++ vs.toArray))).push (seqObj "list" vs.toArray 0)).objs.size = s.heap.objs.size + 2 := by rw [size_push', hsz]
  generalize ((s.heap.push (seqObj "list" #[] 0)).update s.heap.objs.size (Obj.mapSeq (· ++ vs.toArray))).push (seqObj "list" vs.toArray 0) = H1 at *
  refine wpAny_bind (wpAny_holding (wpAny_call_entry_kw slot_list_sort ⟨_, hoL, rfl⟩ entry_list_sort ?body (ksk_l1 _ _)))
  case body =>
    show wpAny (model prog w) A.in1.in1 (ksk_tree (s.heap.objs.size + 1) (.ref f) false) _ _ _
    have ho1 := get?_update_seq hoL fun _ => (#[] : Array Value)
    have s1 := upd_kk H1 (s.heap.objs.size + 1) (Obj.mapSeq fun _ => (#[] : Array Value))
    unfold ksk_tree
    refine wpAny_bind (listItems_at hoL rfl ?_)
    refine wpAny_bind (listUpdate_at hoL rfl ?_ szl (Nat.zero_le _))
    refine wpAny_bind (seqEpoch_at ho1 rfl ?_)
    refine wpAny_bind (wpAny_newTuple ?_ szl)
    refine wpAny_bind (wpAny_newList ?_ (Nat.zero_le _))
    refine wpAny_holding ?_
    have hkS : ((H1.update (s.heap.objs.size + 1) (Obj.mapSeq fun _ => (#[] : Array Value))).push (seqObj "tuple" vs.toArray 0)).objs.size = s.heap.objs.size + 3 := by rw [size_push', Heap.size_update, hz1]
    have kk : ∀ b o, s.heap.get? b = some o → (((H1.update (s.heap.objs.size + 1) (Obj.mapSeq fun _ => (#[] : Array Value))).push (seqObj "tuple" vs.toArray 0)).push (seqObj "list" #[] 0)).get? b = some o := fun b o q =>
      Heap.get?_push_of_some _ (Heap.get?_push_of_some _ (s1 b o (fun m => by have := Heap.lt_size q; rw [List.mem_singleton.mp m] at this; omega) (keep b o q)))
    have hb : base.get? (s.heap.objs.size + 3) = none := by
      cases q : base.get? (s.heap.objs.size + 3) with
      | none => rfl
      | some o => have := Heap.lt_size (stay _ _ q); omega
    have hk4 : (((H1.update (s.heap.objs.size + 1) (Obj.mapSeq fun _ => (#[] : Array Value))).push (seqObj "tuple" vs.toArray 0)).push (seqObj "list" #[] 0)).get? (s.heap.objs.size + 3) = some (seqObj "list" #[] 0) := by
      rw [← hkS]; exact Heap.get?_push_size _ rfl
    show wpAny _ _ (ksk_rest (s.heap.objs.size + 1) (.ref f) false vs.toArray _ (.ref ((H1.update (s.heap.objs.size + 1) (Obj.mapSeq fun _ => (#[] : Array Value))).push (seqObj "tuple" vs.toArray 0)).objs.size)) _ _ { s with heap := ((H1.update (s.heap.objs.size + 1) (Obj.mapSeq fun _ => (#[] : Array Value))).push (seqObj "tuple" vs.toArray 0)).push (seqObj "list" #[] 0) }
    rw [hkS]
    refine lam_rest (base := base) (us := us) hroom (by show A.units + 1 + 1 < cLine; omega) hs hlim (fun b o q => kk b o (stay b o q)) hb (kk f _ hf) (hcd.keeps kk) (by omega) hk4 (Heap.get?_push_of_some _ (Heap.get?_push_of_some _ ho1)) hv hul (fun j v hj => ?_) (fun u m => (kt u m).keep kk) ?_ fun h' tk out c k' hD hp => ⟨_, rfl, wpAny_pure ⟨_, rfl, h _ h' tk out c (fun b o q => ?_) (Heap.get?_none_of_le (Nat.le_succ _)) hD hp⟩⟩
    · obtain ⟨u, hu', T, ys, m, e, hT, h0⟩ := rows j v hj
      exact ⟨u, hu', T, ys, m, e, kk _ _ hT, h0⟩
    · obtain ⟨b, m, r, e, hb⟩ := k0
      exact ⟨b, m, r, e, kk _ _ hb⟩
    · refine k' b o (fun m => ?_) (kk b o q)
      have := Heap.lt_size q
      rcases List.mem_cons.mp m with m | m
      · omega
      · rw [List.mem_singleton.mp m] at this; omega
end
end Mine
end
-- part Q31
section
open PySem PySem.W PySem.Calls PyProof.Rows
namespace Mine

section
variable {prog : Program} {w : World} {G : GT} {W : Wc} {stack : List Env} {d : Nat} {Φ : Phi}
variable {h₀ H : Heap} {M₀ M Mh : Mem} {s : Shared} {σ : St} {ρ : Vars} {env : Env} {tab : List Str} {A : Around} {E : Value → Shared → Prop} {Q : Value → Shared → Prop}

theorem se_srt (wd : Wd prog w G W stack d Φ) {x : Str} {xp : Pos} {e : PE} {r : Str} {ap rp : Pos} {k : Nat} {zp sp lp kp : Pos} {sc : Scope} {p : Pos} (h : SE prog w G W stack d Φ e) : SE prog w G W stack d Φ (.srt x xp e r ap rp k zp sp lp kp sc p) := by
  intro A s env tab ρ M σ Q E ar wf cx p
  dsimp only [evE_srt] at p
  obtain ⟨wf, wl⟩ := and2 wf
  obtain ⟨w1, w2⟩ := and2 wf
  obtain ⟨l1, wl⟩ := and2 wl
  obtain ⟨l2, wl⟩ := and2 wl
  obtain ⟨l3, wl⟩ := and2 wl
  obtain ⟨l4, wl⟩ := and2 wl
  obtain ⟨l5, wl⟩ := and2 wl
  obtain ⟨l6, wl⟩ := and2 wl
  obtain ⟨l7, wl⟩ := and2 wl
  obtain ⟨l8, l9⟩ := and2 wl
  have htab := of_decide_eq_true l1
  have hr := of_decide_eq_true l4
  subst hr
  have names : ∀ q ∈ sc.names, q.2 ≠ .cell ∧ q.2 ≠ .free := fun q m => by
    obtain ⟨a, b⟩ := and2 (List.all_eq_true.mp l8 q m)
    exact ⟨(fun z => by rw [z] at a; exact (nomatch a)), (fun z => by rw [z] at b; exact (nomatch b))⟩
  have ls : LamSc sc := ⟨eq_of_beq l5, (Bool.not_eq_true' _).mp l6, (Bool.not_eq_true' _).mp l7, fun q m => (names q m).1, fun q m => (names q m).2, eq_of_beq l9⟩
  obtain ⟨rfl, w2', w3⟩ := gname_inv w1
  obtain ⟨mg, mb, g⟩ := wd.glo
  obtain ⟨b1, b2⟩ := g.bt .sorted
  rw [toE_srt]
  refine wpAny_Call_Name_kw (blt_name cx.er (cx.glob g).1 (cx.glob g).2 w2' w3 b1 b2 ?_)
  refine callWith_kw (id := "sorted") (e := e.toE) (rest := []) (kws := [⟨some "key", .Lambda ⟨[], [⟨"row", none, ap⟩], none, [], [], none, []⟩ (.Subscript (.Name "row" rp) (.Constant (.int 0) k zp) sp) sc lp, kp⟩]) ?_ (trees_one e _ env) (by rw [trees_one]; rfl) rfl rfl
  refine wpAny_items_cons (wpAny_mono (h ar w2 cx (Post.bind p)) (fun v s₁ h₁ => wpAny_items_nil ?_) fun _ _ e => e) (starEach_cons e [] env)
  obtain ⟨z, σ₁, M₁, st, R, rv, p⟩ := h₁
  obtain ⟨kc, hkc, p⟩ := p.wit
  obtain ⟨l, hl, p⟩ := p.wit
  obtain ⟨_, c, p⟩ := p.wit
  obtain ⟨c1, c⟩ := and2 (gd_inv c).1
  obtain ⟨c2, c⟩ := and2 c
  obtain ⟨c3, c4⟩ := and2 c
  have cx := cx.step st R
  obtain ⟨hc, hq⟩ := cx.er.st.lam htab
  refine kws_cons (lam_make ls.free hc hq cx.er.st.glob (eq_of_beq l2) (eq_of_beq l3) (cx.glob g).1 (g.lc.keeps cx.stay) (g.lb.keeps cx.stay) cx.stay R c1 fun f h' tk c' S R' nf hf hcd => kws_nil ?_)
  obtain ⟨a, rfl, ha⟩ := asC_rv hkc rv
  have ha' := S.keeps0.mem kc a ha
  obtain ⟨_, vs, n, hL, ra⟩ := StR.lst (s := { s₁ with heap := h', toks := tk }) R' hl ha'
  show wpAny _ _ (call (.builtin "sorted") [.ref a] [(Str.ofString "key", .ref f)]) _ _ _
  refine sorted_sound (s := { s₁ with heap := h', toks := tk }) (by have := ar.room; omega) (by have := ar.units; omega) ls g.lim S.stay hf hcd hL ra (small_line c3) c2 (List.all_eq_true.mp c4) fun D h'' tk' out cc k'' nD hD hp => ?_
  obtain ⟨ys, py, ry⟩ := (ra.keep (keeps_all M₁ k'')).perm hp
  exact p ys py (.ref D) h'' tk' M₁ (S.trans (.of_keeps S.stay k'')) (R'.ofKeeps k'') (.lst ys out.toList D cc (by rw [Array.toArray_toList]; exact hD) (R'.live.fresh nD) ry)
end
end Mine
end
-- part Q32
section
open PySem PySem.W PyProof.Rows
namespace Mine

theorem noSet (op : CmpOp) (r : PE) : behindInMarks op r.toE = false := by cases r <;> rfl
theorem noMarks (op op2 : CmpOp) (m r : PE) : lastMarks [op, op2] [m.toE, r.toE] = false := by
  show behindInMarks op2 r.toE = false
  exact noSet op2 r
theorem noSlice (i : PE) : ∀ a b q, i.toE ≠ .Slice a b none q := by cases i <;> intro a b q h <;> cases h

section
variable {prog : Program} {w : World} {G : GT} {W : Wc} {stack : List Env} {d : Nat} {Φ : Phi}

noncomputable def EB (prog : Program) (w : World) (G : GT) (W : Wc) (stack : List Env) (d : Nat) (Φ : Phi) (e : PE) : Prop := SE prog w G W stack d Φ e ∧ ST prog w G W stack d Φ e
theorem EB.of {e : PE} (h : SE prog w G W stack d Φ e) (he : ∀ env whole, isTrue e.toE env whole = (do let v ← whole; standAt e.toE.pos; holding [v] (truthy v))) (hw : ∀ sc tab, wfE W sc tab true e = wfE W sc tab false e) : EB prog w G W stack d Φ e := ⟨h, st_of_value h he hw⟩
theorem SE.no {e : PE} (h : ∀ sc tab, wfE W sc tab false e = false) : SE prog w G W stack d Φ e := by
  intro A s env tab ρ M σ Q E ar wf cx p
  rw [h] at wf; cases wf
theorem ST.no {e : PE} (h : ∀ sc tab, wfE W sc tab true e = false) : ST prog w G W stack d Φ e := by
  intro A s env tab ρ M σ Q E ar wf cx p
  rw [h] at wf; cases wf

mutual
theorem sb (wd : Wd prog w G W stack d Φ) : (e : PE) → EB prog w G W stack d Φ e
  | .cst c k p => .of se_cst (fun _ _ => rfl) fun _ _ => rfl
  | .var i x p => .of se_var (fun _ _ => rfl) fun _ _ => rfl
  | .gst v x p => .of (se_gst wd) (fun _ _ => rfl) fun _ _ => rfl
  | .bin a op b p => .of (se_bin (sb wd a).1 (sb wd b).1) (fun _ _ => rfl) fun _ _ => rfl
  | .boo op vs p => ⟨se_boo fun e he => (sbs wd vs e he).1, st_boo fun e he => (sbs wd vs e he).2⟩
  | .nt e p => ⟨SE.no fun _ _ => rfl, st_nt (sb wd e).2⟩
  | .neg e p => .of (se_neg (sb wd e).1) (fun _ _ => rfl) fun _ _ => rfl
  | .ife t b o p => ⟨se_ife (sb wd t).2 (sb wd b).1 (sb wd o).1, ST.no fun _ _ => rfl⟩
  | .tup es k p => .of (se_tup fun e he => (sbs wd es e he).1) (fun _ _ => rfl) fun _ _ => rfl
  | .lst es p => .of (se_lst fun e he => (sbs wd es e he).1) (fun _ _ => rfl) fun _ _ => rfl
  | .mls es p => .of (se_mls fun e he => (sbs wd es e he).1) (fun _ _ => rfl) fun _ _ => rfl
  | .cmp l op r p => ⟨se_cmp (sb wd l).1 (sb wd r).1 (noSet op r), st_cmp (sb wd l).1 (sb wd r).1 (noSet op r)⟩
  | .cmp2 l op m op2 r p => ⟨SE.no fun _ _ => rfl, st_cmp2 (sb wd l).1 (sb wd m).1 (sb wd r).1 (noMarks ..)⟩
  | .idx o i p => .of (se_idx (sb wd o).1 (sb wd i).1 (noSlice i)) (fun _ _ => rfl) fun _ _ => rfl
  | .slF o lo sp p => .of (se_slF (sb wd o).1 (sb wd lo).1) (fun _ _ => rfl) fun _ _ => rfl
  | .slT o hi sp p => .of (se_slT (sb wd o).1 (sb wd hi).1) (fun _ _ => rfl) fun _ _ => rfl
  | .call f x xp as p => .of (se_call wd fun e he => (sbs wd as e he).1) (fun _ _ => rfl) fun _ _ => rfl
  | .blt b x xp a p => .of (se_blt wd (sb wd a).1) (fun _ _ => rfl) fun _ _ => rfl
  | .mth m i x xp ap a p => .of (se_mth (sb wd a).1) (fun _ _ => rfl) fun _ _ => rfl
  | .pop i x xp ap p => .of se_pop (fun _ _ => rfl) fun _ _ => rfl
  | .fst parts p => .of (se_fst fun e he => (sbs wd parts e he).1) (fun _ _ => rfl) fun _ _ => rfl
  | .fvl e p => .of (se_fvl (sb wd e).1) (fun _ _ => rfl) fun _ _ => rfl
  | .dct k1 k kp v1 k2 k' kp' v2 p => .of (se_dct (sb wd v1).1 (sb wd v2).1) (fun _ _ => rfl) fun _ _ => rfl
  | .dic x xp e p => .of (se_dic wd (sb wd e).1) (fun _ _ => rfl) fun _ _ => rfl
  | .srt x xp e r ap rp k zp sp lp kp sc p => .of (se_srt wd (sb wd e).1) (fun _ _ => rfl) fun _ _ => rfl
  | .comp elt tg en it ifs caps sc p => .of (se_comp wd (sb wd elt).1 (sb wd it).1 fun e he => (sbs wd ifs e he).2) (fun _ _ => rfl) fun _ _ => rfl
theorem sbs (wd : Wd prog w G W stack d Φ) : (es : List PE) → ∀ e ∈ es, EB prog w G W stack d Φ e
  | [], _, h => nomatch h
  | e :: r, x, h => by
    rcases List.mem_cons.mp h with q | q
    · rw [q]; exact sb wd e
    · exact sbs wd r x q
end
end
end Mine
end
-- part Q33
section
open PySem PySem.W PyProof.Rows
namespace Mine

/-- what a frame owns -/
noncomputable def OwnT (env : Env) (tab : List Str) : List Addr := env.locals :: (tab.filter fun x => env.kindOf x == some .cell).filterMap fun x => env.cells.lookup x
theorem ownT_iff {env : Env} {tab : List Str} {a : Addr} : a ∈ OwnT env tab ↔ Owns env tab a := by
  unfold OwnT Owns
  rw [List.mem_cons]
  refine or_congr Iff.rfl ?_
  rw [List.mem_filterMap]
  constructor
  · rintro ⟨x, hx, e⟩
    rw [List.mem_filter] at hx
    exact ⟨x, hx.1, eq_of_beq hx.2, e⟩
  · rintro ⟨x, hx, hk, e⟩
    exact ⟨x, List.mem_filter.mpr ⟨hx, by rw [hk]; rfl⟩, e⟩

noncomputable def notComp : PE → Bool
  | .comp .. => false
  | _ => true
noncomputable def isTup : PE → Option Nat
  | .tup es _ _ => some es.length
  | _ => none
noncomputable def swOk (sc : Scope) (ts : List (Nat × Str × Pos)) (e : PE) : Bool := match e with
  | .tup es _ _ => (ts.length == 2 || ts.length == 3) && es.length == ts.length && ts.all (fun t => sc.names.lookup t.2.1 == some .local && t.2.2.line == ((ts.head?.map (·.2.2.line)).getD 0)) &&
      ((ts.map (·.2.1)).eraseDups.length == ts.length) && !((toEs es).all (foldedForSure 8)) && !((toEs es).all (constantsAlone 8))
  | _ => false
noncomputable def tgIn (tab : List Str) : Tgt → Bool
  | .name i x _ => tab[i]? == some x
  | .pair i x _ j y _ _ _ => tab[i]? == some x && tab[j]? == some y
theorem tgIn_in {tab : List Str} {tg : Tgt} (h : tgIn tab tg = true) : tg.In tab := by
  cases tg with
  | name i x p => exact eq_of_beq (show (tab[i]? == some x) = true from h)
  | pair i x p j y q k tp =>
    obtain ⟨h1, h2⟩ := and2 (show (tab[i]? == some x && tab[j]? == some y) = true from h)
    exact ⟨eq_of_beq h1, eq_of_beq h2⟩
noncomputable def plainC : PE → Bool
  | .cst c _ _ => match c with
    | .none => true
    | .bool _ => true
    | _ => false
  | _ => false
mutual
noncomputable def wfS (W : Wc) (sc : Scope) (tab : List Str) : PS → Bool
  | .asg i x _ e _ => wfE W sc tab false e && (tab[i]? == some x && notComp e)
  | .asc i x xp elt tg en it ifs caps scope cp _ => wfE W sc tab false (.comp elt tg en it ifs caps scope cp) && (tab[i]? == some x && (sc.names.lookup x == some .local && ((xp.line == cp.line) && !(scope.names.any fun q => q.1 == x && (q.2 == .local || q.2 == .cell)))))
  | .ast sw ts _ _ e _ => wfE W sc tab false e && (ts.all (fun t => tab[t.1]? == some t.2.1) && (notComp e && (match sw with
    | true => swOk sc ts e
    | false => (isTup e).isNone || decide (4 ≤ ts.length))))
  | .put o key _ e _ => wfE W sc tab false o && (wfE W sc tab false key && (wfE W sc tab false e && notComp e))
  | .iff t b o _ => wfE W sc tab true t && (wfSs W sc tab b && wfSs W sc tab o)
  | .ret e _ => wfE W sc tab false e
  | .fr tg it b _ => wfE W sc tab false it && (tgIn tab tg && wfSs W sc tab b)
  | .whl t b _ => wfE W sc tab true t && wfSs W sc tab b
  | .rse x _ arg _ _ => decide (x = "TermFault") && (sc.names.lookup x == some .globalImplicit && wfE W sc tab false arg)
  | .tre e _ x _ hv _ _ _ => wfE W sc tab false e && (notComp e && (decide (x = "TermFault") && (sc.names.lookup x == some .globalImplicit && plainC hv)))
  | .exp e _ => wfE W sc tab false e && notComp e
noncomputable def wfSs (W : Wc) (sc : Scope) (tab : List Str) : List PS → Bool
  | [] => true
  | e :: r => wfS W sc tab e && wfSs W sc tab r
end

structure Cf (prog : Program) (w : World) (base : Heap) (stack : List Env) (env : Env) (tab : List Str) (ρ : Vars) (h : Heap) (M : Mem) (σ : St) : Prop where
  cx : Cx prog w base stack env tab ρ h M σ
  st : ∃ outer, stack = env :: outer ∧ env.frame = some env.locals ∧ ∀ e ∈ outer, ∀ L, e.frame = some L → L ∉ OwnT env tab
  own : ∀ a ∈ OwnT env tab, base.get? a = none
  len : tab.length ≤ ρ.length

section
variable {prog : Program} {w : World} {base : Heap} {stack : List Env} {env : Env} {tab : List Str} {ρ ρ' : Vars} {h h' : Heap} {M M' : Mem} {σ σ' : St}

theorem EnvR.ownT (x : EnvR h M env tab ρ) {a : Addr} (ha : a ∈ OwnT env tab) : ∃ o, h.get? a = some o ∧ a ∉ M ∧ ¬ SeqLike o ∧ ∀ vs, o.data ≠ .fields vs := x.own (ownT_iff.mp ha)
theorem EnvR.keeps2 (x : EnvR h M env tab ρ) (s : Step base (OwnT env tab) h M h' M') : Keeps2 h M h' M' := s.keeps2 fun a ha _ o e => by
  obtain ⟨o', e', _, n, _⟩ := x.ownT ha
  rw [e] at e'; cases e'; exact n

/-- a statement has turned the frame's own -/
theorem Cf.step (x : Cf prog w base stack env tab ρ h M σ) (s : Step base (OwnT env tab) h M h' M') (R : StR prog w base h' M' σ') (er : EnvR h' M' env tab ρ') (hl : ρ'.length = ρ.length) : Cf prog w base stack env tab ρ' h' M' σ' := by
  obtain ⟨outer, hst, hf, ho⟩ := x.st
  refine ⟨⟨s.stay, ?_, er, R, ⟨env, outer, hst, rfl⟩⟩, ⟨outer, hst, hf, ho⟩, x.own, by rw [hl]; exact x.len⟩
  intro e he
  subst hst
  obtain ⟨hk, L, o, a1, a2, a3, a4, a5, a6⟩ := x.cx.ff e he
  rcases List.mem_cons.mp he with rfl | hm
  · rw [hf] at a1; cases a1
    obtain ⟨m, hn, _⟩ := er.ns
    obtain ⟨o', es, ep, ho', hd, _⟩ := hn
    exact ⟨hk, _, o', hf, a2, ho', (fun vs q => by rw [hd] at q; cases q), er.locM, es, ep, hd⟩
  · obtain ⟨o', e', q⟩ := s.keep L o a3 (fun q => a5 (.inl q)) (ho e hm L a1)
    exact ⟨hk, L, o', a1, a2, e', fun vs z => a4 vs (q.data ▸ z), s.notMem a3 a5, by obtain ⟨es, ep, z⟩ := a6; exact ⟨es, ep, q.data.trans z⟩⟩
theorem Step.wk {X : List Addr} (t : Step base [] h M h' M') : Step base X h M h' M' := t.weaken fun _ q => nomatch q
theorem Cf.step0 (x : Cf prog w base stack env tab ρ h M σ) (s : Step base [] h M h' M') (R : StR prog w base h' M' σ') : Cf prog w base stack env tab ρ h' M' σ' :=
  x.step s.wk R (x.cx.er.step s) rfl
end

/-- an exception's end in a frame -/
noncomputable def XF (prog : Program) (w : World) (G : GT) (env : Env) (tab : List Str) (n : Nat) (h₀ : Heap) (M₀ : Mem) (s : Shared) (E : Value → Shared → Prop) (σ' : St) : Prop :=
  ∀ e h' tk M', Step G.base (OwnT env tab) h₀ M₀ h' M' → StR prog w G.base h' M' σ' → (∃ ρ' : Vars, ρ'.length = n ∧ EnvR h' M' env tab ρ') → Thrown (.ref G.tf) h₀ h' M' e → E (.ref e) { s with heap := h', toks := tk }
noncomputable def FK (prog : Program) (w : World) (G : GT) (env : Env) (tab : List Str) (n : Nat) (h₀ : Heap) (M₀ : Mem) (s : Shared) (Q : Flow → Shared → Prop) (f : Fl) (σ' : St) : Prop := match f with
  | .nx ρ' => ∀ h' tk M', Step G.base (OwnT env tab) h₀ M₀ h' M' → StR prog w G.base h' M' σ' → EnvR h' M' env tab ρ' → ρ'.length = n → Q .next { s with heap := h', toks := tk }
  | .rt v => ∀ u h' tk M', Step G.base (OwnT env tab) h₀ M₀ h' M' → StR prog w G.base h' M' σ' → RV h' M' v u → Q (.ret u) { s with heap := h', toks := tk }
noncomputable def FPost (prog : Program) (w : World) (G : GT) (env : Env) (tab : List Str) (n : Nat) (h₀ : Heap) (M₀ : Mem) (s : Shared) (r : Res Fl) (Q : Flow → Shared → Prop) (E : Value → Shared → Prop) : Prop :=
  r.wp (FK prog w G env tab n h₀ M₀ s Q) (XF prog w G env tab n h₀ M₀ s E)

section
variable {prog : Program} {w : World} {G : GT} {W : Wc} {stack : List Env} {d : Nat} {Φ : Phi} {fuel : Nat}
variable {h₀ h₁ : Heap} {M₀ M₁ M : Mem} {s : Shared} {σ : St} {ρ : Vars} {env : Env} {tab : List Str} {n : Nat} {A : Around} {E : Value → Shared → Prop} {Q : Flow → Shared → Prop}

theorem XF.shift {h' : Heap} {tk : Nat} (t : Step G.base (OwnT env tab) h₀ M₀ h₁ M₁) {σ' : St} (p : XF prog w G env tab n h₀ M₀ s E σ') : XF prog w G env tab n h₁ M₁ { s with heap := h', toks := tk } E σ' :=
  fun e h' tk M' st R er th => p e h' tk M' (t.trans st) R er (th.back t)
theorem FK.shift {h' : Heap} {tk : Nat} (t : Step G.base (OwnT env tab) h₀ M₀ h₁ M₁) {f : Fl} {σ' : St} (p : FK prog w G env tab n h₀ M₀ s Q f σ') : FK prog w G env tab n h₁ M₁ { s with heap := h', toks := tk } Q f σ' := by
  cases f with
  | nx ρ' => exact fun h' tk M' st R er hl => p h' tk M' (t.trans st) R er hl
  | rt v => exact fun u h' tk M' st R rv => p u h' tk M' (t.trans st) R rv
theorem FPost.shift {r : Res Fl} {h' : Heap} {tk : Nat} (p : FPost prog w G env tab n h₀ M₀ s r Q E) (t : Step G.base (OwnT env tab) h₀ M₀ h₁ M₁) : FPost prog w G env tab n h₁ M₁ { s with heap := h', toks := tk } r Q E :=
  Res.wp_mono (fun _ _ => FK.shift t) (fun _ => XF.shift t) p
theorem XF.x {h' : Heap} {tk : Nat} (er : EnvR h₀ M₀ env tab ρ) (hn : ρ.length = n) {σ' : St} (p : XF prog w G env tab n h₀ M₀ s E σ') : XEnd prog w G h₀ M₀ s E σ' :=
  fun e h' tk M' st R th => p e h' tk M' st.wk R ⟨ρ, hn, er.step st⟩ th
theorem FPost.bindK {r : Res PV} {f : PV → St → Res Fl} {Q' : Value → Shared → Prop} (er : EnvR h₀ M₀ env tab ρ) (hn : ρ.length = n) (p : FPost prog w G env tab n h₀ M₀ s (r.bind f) Q E)
    (q : ∀ x σ v h' tk M', Step G.base [] h₀ M₀ h' M' → StR prog w G.base h' M' σ → RV h' M' x v → FPost prog w G env tab n h' M' { s with heap := h', toks := tk } (f x σ) Q E → Q' v { s with heap := h', toks := tk }) : Post prog w G h₀ M₀ s r Q' E :=
  Res.wp_mono (fun x σ p v h' tk M' st R rv => q x σ v h' tk M' st R rv (FPost.shift (s := s) (h' := h') (tk := tk) p st.wk)) (fun _ => XF.x (h' := h₀) (tk := 0) er hn) (Res.wp_bind p)
theorem FPost.bindE {r : Res PV} {f : PV → St → Res Fl} (er : EnvR h₀ M₀ env tab ρ) (hn : ρ.length = n) (p : FPost prog w G env tab n h₀ M₀ s (r.bind f) Q E) :
    Post prog w G h₀ M₀ s r (fun v s' => Got prog w G h₀ M₀ (fun x σ M' => FPost prog w G env tab n s'.heap M' s' (f x σ) Q E) v s') E :=
  p.bindK er hn fun x σ v h' tk M' st R rv k => ⟨x, σ, M', st, R, rv, k⟩
theorem FPost.wit {α : Type} {o : Option α} {f : α → Res Fl} (p : FPost prog w G env tab n h₀ M₀ s (wit o f) Q E) : ∃ z, o = some z ∧ FPost prog w G env tab n h₀ M₀ s (f z) Q E := by
  cases o with
  | none => exact p.elim
  | some z => exact ⟨z, rfl, p⟩
theorem FPost.asBool {x : PV} {v : Value} {h : Heap} {f : Bool → Res Fl} (r : RV h M x v) (p : FPost prog w G env tab n h₀ M₀ s (asBool x f) Q E) : ∃ b, v = .bool b ∧ FPost prog w G env tab n h₀ M₀ s (f b) Q E := by
  unfold Mine.asBool at p
  cases hb : asB x with
  | none => rw [hb] at p; exact p.elim
  | some b => rw [hb] at p; exact ⟨b, asB_rv hb r, p⟩
noncomputable def SS (prog : Program) (w : World) (G : GT) (W : Wc) (stack : List Env) (d : Nat) (Φ : Phi) (fuel : Nat) (t : PS) : Prop :=
  ∀ {A : Around} {s : Shared} {env : Env} {tab : List Str} {ρ : Vars} {M : Mem} {σ : St} {Q : Flow → Shared → Prop} {E : Value → Shared → Prop}, Ar A stack d → wfS W env.scope tab t = true → Cf prog w G.base stack env tab ρ s.heap M σ →
    FPost prog w G env tab ρ.length s.heap M s (evS Φ fuel t ρ σ) Q E → wpAny (model prog w) A (exec t.toS env) Q E s
noncomputable def SSs (prog : Program) (w : World) (G : GT) (W : Wc) (stack : List Env) (d : Nat) (Φ : Phi) (fuel : Nat) (t : List PS) : Prop :=
  ∀ {A : Around} {s : Shared} {env : Env} {tab : List Str} {ρ : Vars} {M : Mem} {σ : St} {Q : Flow → Shared → Prop} {E : Value → Shared → Prop}, Ar A stack d → wfSs W env.scope tab t = true → Cf prog w G.base stack env tab ρ s.heap M σ →
    FPost prog w G env tab ρ.length s.heap M s (evSs Φ fuel t ρ σ) Q E → wpAny (model prog w) A (execs (toSs t) env) Q E s

theorem sss_nil : SSs prog w G W stack d Φ fuel [] := by
  intro A s env tab ρ M σ Q E ar wf cf p
  exact wpAny_execs_nil (p s.heap s.toks M (.refl cf.cx.stay) cf.cx.str cf.cx.er rfl)
theorem sss_cons {t : PS} {r : List PS} (ht : SS prog w G W stack d Φ fuel t) (hr : SSs prog w G W stack d Φ fuel r) : SSs prog w G W stack d Φ fuel (t :: r) := by
  intro A s env tab ρ M σ Q E ar wf cf p
  dsimp only [evSs_cons] at p
  obtain ⟨w1, w2⟩ := and2 wf
  refine wpAny_execs_cons (ht ar w1 cf (Res.wp_mono (fun f σ' p => ?_) (fun _ q => q) (Res.wp_bind p)))
  cases f with
  | nx ρ' =>
    intro h' tk M' st R er hl
    refine hr (s := { s with heap := h', toks := tk }) ar w2 (cf.step st R er hl) ?_
    rw [hl]
    exact FPost.shift p st
  | rt v => exact fun u h' tk M' st R rv => p u h' tk M' st R rv

/-- a name of the frame's own is stored into -/
theorem own_store {i : Nat} {x : Str} {z : PV} {v : Value} {Q : Unit → Shared → Prop} (cf : Cf prog w G.base stack env tab ρ s.heap M σ) (ht : tab[i]? = some x) (r : RV s.heap M z v)
    (q : ∀ h' tk, Step G.base (OwnT env tab) s.heap M h' M → Keeps2 s.heap M h' M → EnvR h' M env tab (ρ.set i (some z)) → StR prog w G.base h' M σ → KK (OwnT env tab) s.heap h' → Q () { s with heap := h', toks := tk }) :
    wpAny (model prog w) A (storeName env x v) Q E s :=
  store_sound (X := OwnT env tab) cf.cx.er cf.cx.str cf.cx.stay (fun _ => .head _) (fun c hk hc => ownT_iff.mpr (.inr ⟨x, List.mem_of_getElem? ht, hk, hc⟩)) cf.own cf.len ht r q

theorem noSwap {e : PE} (h : notComp e = true) (t : Option PySem.Expr) (l : Nat) (env : Env) : swapsWith e.toE t l env = pure false := by
  cases e <;> first | rfl | exact nomatch h

theorem ss_asg {i : Nat} {x : Str} {xp p : Pos} {e : PE} (h : SE prog w G W stack d Φ e) : SS prog w G W stack d Φ fuel (.asg i x xp e p) := by
  intro A s env tab ρ M σ Q E ar wf cf hp
  dsimp only [evS_asg] at hp
  obtain ⟨w1, w2⟩ := and2 wf
  obtain ⟨w2, w3⟩ := and2 w2
  refine wpAny_Assign_Name (wpAny_mono (h ar w1 cf.cx (FPost.bindE cf.cx.er rfl hp)) (fun v s₁ h₁ => ?_) fun _ _ e => e) (noSwap w3 _ _ _)
  obtain ⟨z, σ₁, M₁, st, R, rv, p₁⟩ := h₁
  exact own_store (cf.step0 st R) (eq_of_beq w2) rv fun h' tk st _ er R _ => p₁ h' tk M₁ st R er (by rw [List.length_set])

theorem ss_iff {t : PE} {b o : List PS} {p : Pos} (ht : ST prog w G W stack d Φ t) (hb : SSs prog w G W stack d Φ fuel b) (ho : SSs prog w G W stack d Φ fuel o) : SS prog w G W stack d Φ fuel (.iff t b o p) := by
  intro A s env tab ρ M σ Q E ar wf cf hp
  dsimp only [evS_iff] at hp
  obtain ⟨w1, w2⟩ := and2 wf
  obtain ⟨w2, w3⟩ := and2 w2
  refine wpAny_If (ht ar w1 cf.cx (hp.bindK cf.cx.er rfl fun x σ₁ v h' tk M' st R rv hp => ?_))
  obtain ⟨c, rfl, hp⟩ := hp.asBool rv
  refine ⟨c, rfl, ?_⟩
  have cf' := cf.step0 st R
  cases c with
  | true => exact hb (s := { s with heap := h', toks := tk }) ar w2 cf' hp
  | false => exact ho (s := { s with heap := h', toks := tk }) ar w3 cf' hp

theorem ss_ret {e : PE} {p : Pos} (h : SE prog w G W stack d Φ e) : SS prog w G W stack d Φ fuel (.ret e p) := by
  intro A s env tab ρ M σ Q E ar wf cf hp
  dsimp only [evS_ret] at hp
  refine wpAny_Return_some (wpAny_mono (h ar wf cf.cx (FPost.bindE cf.cx.er rfl hp)) (fun v s₁ h₁ => ?_) fun _ _ e => e)
  obtain ⟨z, σ₁, M₁, st, R, rv, p₁⟩ := h₁
  exact p₁ v s₁.heap s₁.toks M₁ (.refl st.stay) R rv

theorem notInteractive {env : Env} (h : env.scope.kind = .function) : interactive env = false := by
  unfold interactive
  simp [h]

theorem ss_exp {e : PE} {p : Pos} (h : SE prog w G W stack d Φ e) : SS prog w G W stack d Φ fuel (.exp e p) := by
  intro A s env tab ρ M σ Q E ar wf cf hp
  dsimp only [evS_exp] at hp
  obtain ⟨w1, w2⟩ := and2 wf
  refine wpAny_Expr_any (wpAny_mono (h ar w1 cf.cx (FPost.bindE cf.cx.er rfl hp)) (fun v s₁ h₁ => ?_) fun _ _ e => e) (notInteractive cf.cx.er.st.kind) (noSwap w2 _ _ _)
  obtain ⟨z, σ₁, M₁, st, R, rv, p₁⟩ := h₁
  exact p₁ s₁.heap s₁.toks M₁ (.refl st.stay) R (cf.cx.er.step st) rfl
end
end Mine
end
-- part Q34
section
open PySem PySem.W PyProof.Rows
namespace Mine

section
variable {prog : Program} {w : World} {G : GT} {W : Wc} {stack : List Env} {d : Nat} {Φ : Phi} {fuel : Nat}
variable {h₀ h₁ : Heap} {M₀ M₁ M : Mem} {s : Shared} {σ : St} {ρ : Vars} {env : Env} {tab : List Str} {n : Nat} {A : Around} {E : Value → Shared → Prop} {Q : Flow → Shared → Prop}

theorem assignIn {F : Nat × Str × Pos → Value → Sem Unit} (hF : ∀ t v (Q : Unit → Shared → Prop) E s, wpAny (model prog w) A (storeName env t.2.1 v) Q E s → wpAny (model prog w) A (F t v) Q E s) :
    ∀ {ts : List (Nat × Str × Pos)} {xs : List PV} {vs : List Value} {ρ ρ' : Vars} {s : Shared} {Q : Unit → Shared → Prop}, (∀ t ∈ ts, tab[t.1]? = some t.2.1) → Cf prog w G.base stack env tab ρ s.heap M σ → setAll ts xs ρ = some ρ' → RVs s.heap M xs vs →
      (∀ h' tk, Step G.base (OwnT env tab) s.heap M h' M → EnvR h' M env tab ρ' → StR prog w G.base h' M σ → ρ'.length = ρ.length → Q () { s with heap := h', toks := tk }) →
      wpAny (model prog w) A (assignInOrder (ts.map F) vs) Q E s
  | [], [], vs, ρ, ρ', s, Q, ht, cf, hs, r, q => by
    cases r; cases hs
    exact wpAny_pure (q s.heap s.toks (.refl cf.cx.stay) cf.cx.er cf.cx.str rfl)
  | [], _ :: _, _, _, _, _, _, _, _, hs, _, _ => nomatch hs
  | _ :: _, [], _, _, _, _, _, _, _, hs, _, _ => nomatch hs
  | t :: ts, x :: xs, vs, ρ, ρ', s, Q, ht, cf, hs, r, q => by
    obtain ⟨v, vs, hx, r⟩ := r
    show wpAny (model prog w) A (do holding vs (F t v); assignInOrder (ts.map F) vs) Q E s
    refine wpAny_bind (wpAny_holding (hF t v _ _ _ (own_store cf (ht t (.head _)) hx fun h' tk st K er R _ => ?_)))
    have cf' := cf.step st R er (by rw [List.length_set])
    exact assignIn hF (s := { s with heap := h', toks := tk }) (fun t m => ht t (.tail _ m)) cf' hs (r.keep K) fun h'' tk' st' er' R' hl => q h'' tk' (st.trans st') er' R' (by rw [hl, List.length_set])

theorem assignEach_names (ts : List (Nat × Str × Pos)) (env : Env) : assignEach (ts.map fun t => PySem.Expr.Name t.2.1 t.2.2) env = ts.map fun t => (false, assign (.Name t.2.1 t.2.2) env) := by
  induction ts with
  | nil => rfl
  | cons t r ih =>
    show (false, assign (.Name t.2.1 t.2.2) env) :: assignEach _ env = _
    rw [ih]; rfl
theorem setAll_len : ∀ {ts : List (Nat × Str × Pos)} {xs : List PV} {ρ ρ' : Vars}, setAll ts xs ρ = some ρ' → ts.length = xs.length
  | [], [], _, _, _ => rfl
  | [], _ :: _, _, _, h => nomatch h
  | _ :: _, [], _, _, h => nomatch h
  | t :: ts, x :: xs, ρ, ρ', h => congrArg (· + 1) (setAll_len (ts := ts) (xs := xs) h)

theorem noSwapSole {e : PE} (h : notComp e = true) (t : PySem.Expr) (l : Nat) (env : Env) : swapsWithSole [t] e.toE l env = pure false := noSwap h (some t) l env
theorem sw_none {ts : List (Nat × Str × Pos)} {k : Nat} {tp : Pos} {e : PE} (h : ((isTup e).isNone || decide (4 ≤ ts.length)) = true) : swappedStores [.Tuple (ts.map fun t => .Name t.2.1 t.2.2) k tp] e.toE env = pure none := by
  cases e with
  | tup es k' p' =>
    have h4 : 4 ≤ ts.length := by simpa [isTup] using h
    have h2 : (ts.length == 2) = false := by rw [beq_eq_false_iff_ne]; omega
    have h3 : (ts.length == 3) = false := by rw [beq_eq_false_iff_ne]; omega
    unfold swappedStores
    dsimp only [toE_tup]
    simp [h2, h3]
  | _ => rfl

theorem noStar (es : List PE) : (toEs es).any (fun | .Starred .. => true | _ => false) = false := by
  induction es with
  | nil => rfl
  | cons e r ih =>
    (dsimp only [toEs_nil, toEs_cons]; rw [List.any_cons, ih, Bool.or_false])
    cases e <;> rfl
theorem sw_names (env : Env) (l : Nat) : ∀ ts : List (Nat × Str × Pos), (∀ t ∈ ts, env.scope.names.lookup t.2.1 = some .local ∧ t.2.2.line = l) →
    (ts.map fun t => PySem.Expr.Name t.2.1 t.2.2).filterMap (fun
      | .Name id pos => if env.kindOf id == some .local && pos.line == l then some id else none
      | _ => none) = ts.map (·.2.1)
  | [], _ => rfl
  | t :: r, h => by
    have ih := sw_names env l r fun t m => h t (.tail _ m)
    obtain ⟨h1, h2⟩ := h t (.head _)
    rw [List.map_cons, List.filterMap_cons, ih]
    have : (env.kindOf t.2.1 == some .local && t.2.2.line == l) = true := by
      rw [Env.kindOf, h1, h2]; simp
    simp only [this, if_true]
    rfl
theorem sw_some {ts : List (Nat × Str × Pos)} {k : Nat} {tp : Pos} {e : PE} (hk : env.scope.kind = .function) (h : swOk env.scope ts e = true) :
    swappedStores [.Tuple (ts.map fun t => .Name t.2.1 t.2.2) k tp] e.toE env = pure (some (ts.map (·.2.1))) := by
  unfold swOk at h
  split at h
  · rename_i es k' p'
    simp only [Bool.and_eq_true, beq_iff_eq, List.all_eq_true, Bool.or_eq_true, Bool.not_eq_true'] at h
    obtain ⟨⟨⟨⟨⟨h1, h2⟩, h3⟩, h4⟩, h5⟩, h6⟩ := h
    have hb : env.blockKind = .function := by
      unfold Env.blockKind
      rw [hk]; rfl
    unfold swappedStores
    dsimp only [toE_tup]
    have e1 : (ts.length == 2 || ts.length == 3) = true := by simpa using h1
    have e2 : (toEs es).length = ts.length := by rw [toEs_length]; exact h2
    have e3 := noStar es
    have e4 := sw_names env ((ts.head?.map (·.2.2.line)).getD 0) ts fun t m => h3 t m
    have e5 : ((List.map (fun t => PySem.Expr.Name t.2.1 t.2.2) ts).head?.map (·.pos.line)).getD 0 = (ts.head?.map (·.2.2.line)).getD 0 := by
      cases ts <;> rfl
    have e6 : ((ts.length == 2 || ts.length == 3) && (es.length == ts.length)) = true := by rw [e1]; simpa using h2
    simp only [List.length_map, e2, bne_self_eq_false, Bool.or_false, hb, e1, Bool.not_true, Bool.false_eq_true, if_false, e5]
    refine (if_neg (fun q => Bool.false_ne_true ((noStar es).symm.trans q))).trans ?_
    generalize hN : List.filterMap _ (List.map (fun t => PySem.Expr.Name t.2.1 t.2.2) ts) = N
    have hN' : N = ts.map (·.2.1) := hN.symm.trans e4
    subst hN'
    have h4' : (List.map (fun x => x.2.1) ts).length = ts.length := by simp
    simp only [h4', h4, bne_self_eq_false, Bool.or_false, Bool.false_eq_true, if_false]
    have h5' : ((toEs es).all fun v => foldedForSure 8 v) = false := by
      rw [← h5]
    have h6' : ((toEs es).all fun v => constantsAlone 8 v) = false := by
      rw [← h6]
    rw [h5', h6']
    rfl
  · cases h

theorem RVs.rev {h : Heap} : ∀ {xs : List PV} {vs : List Value}, RVs h M xs vs → RVs h M xs.reverse vs.reverse
  | [], _, r => by cases r; exact .nil
  | x :: xs, _, r => by
    obtain ⟨v, vs, hx, r⟩ := r
    rw [List.reverse_cons, List.reverse_cons]; exact (RVs.rev r).snoc hx
theorem ss_ast {sw : Bool} {ts : List (Nat × Str × Pos)} {k : Nat} {tp p : Pos} {e : PE} (h : SE prog w G W stack d Φ e) : SS prog w G W stack d Φ fuel (.ast sw ts k tp e p) := by
  intro A s env tab ρ M σ Q E ar wf cf hp
  dsimp only [evS_ast] at hp
  obtain ⟨w1, wa⟩ := and2 wf
  obtain ⟨wb, wc⟩ := and2 wa
  obtain ⟨w3, w4⟩ := and2 wc
  have w2 : ∀ t ∈ ts, tab[t.1]? = some t.2.1 := fun t m => eq_of_beq (List.all_eq_true.mp wb t m)
  clear wf wa wb wc
  cases sw with
  | false =>
    refine Assign_Tuple (wpAny_mono (h ar w1 cf.cx (FPost.bindE cf.cx.er rfl hp)) (fun v s₁ h₁ => ?_) fun _ _ e => e) (noSwapSole w3 _ _ _) (sw_none w4)
    obtain ⟨z, σ₁, M₁, st, R, rv, p₁⟩ := h₁
    obtain ⟨xs, hx, p₁⟩ := p₁.wit
    obtain ⟨ρ', hs, p₁⟩ := p₁.wit
    obtain ⟨vs, a, n, rfl, ha, ma, ra⟩ := asT_rv hx rv
    have cf₁ := cf.step0 st R
    have hl := setAll_len hs
    have hl' := ra.length
    refine wpAny_assign_Tuple ar.hnd ⟨_, ha, rfl, n, rfl⟩ (by rw [assignEach_names, List.length_map, List.size_toArray]; omega) (by rw [assignEach_names, List.findIdx?_map]; simp) fun h' he => ?_
    have kk : ∀ b o, s₁.heap.get? b = some o → h'.get? b = some o := fun b o e => he b o (Nat.ne_of_lt (Heap.lt_size e)) e
    rw [assignEach_names, List.map_map]
    have S₀ : Step G.base [] s₁.heap M₁ h' M₁ := .of_keeps cf₁.cx.stay kk
    exact assignIn (s := { s₁ with heap := h' }) (M := M₁) (σ := σ₁) (F := fun t => assign (.Name t.2.1 t.2.2) env) (fun t v Q E s q => assign_Name q) w2 (cf₁.step0 S₀ (cf₁.cx.str.ofKeeps kk)) hs (ra.keep S₀.keeps0) fun h'' tk st er R hl => p₁ h'' tk M₁ (S₀.wk.trans st) R er hl
  | true =>
    refine Assign_Tuple_swapped (names := ts.map (·.2.1)) (wpAny_mono (h ar w1 cf.cx (FPost.bindE cf.cx.er rfl hp)) (fun v s₁ h₁ => ?_) fun _ _ e => e) (noSwapSole w3 _ _ _) (sw_some cf.cx.er.st.kind w4)
    obtain ⟨z, σ₁, M₁, st, R, rv, p₁⟩ := h₁
    obtain ⟨xs, hx, p₁⟩ := p₁.wit
    obtain ⟨ρ', hs, p₁⟩ := p₁.wit
    obtain ⟨_, hl, hs⟩ := Option.bind_eq_some_iff.mp hs
    have hl := of_decide_eq_true (gd_inv hl).1
    obtain ⟨vs, a, n, rfl, ha, ma, ra⟩ := asT_rv hx rv
    have cf₁ := cf.step0 st R
    have hl' := ra.length
    have hsz : (ts.map (·.2.1)).length = vs.toArray.size := by rw [List.length_map, List.size_toArray]; omega
    rw [hsz]
    refine wpAny_unpackItems_tuple ar.hnd ⟨_, ha, rfl, n, rfl⟩ fun h' he => ?_
    have kk : ∀ b o, s₁.heap.get? b = some o → h'.get? b = some o := fun b o e => he b o (Nat.ne_of_lt (Heap.lt_size e)) e
    have S₀ : Step G.base [] s₁.heap M₁ h' M₁ := .of_keeps cf₁.cx.stay kk
    rw [← List.map_reverse, List.map_map]
    exact assignIn (s := { s₁ with heap := h' }) (M := M₁) (σ := σ₁) (F := fun t => bindName env t.2.1) (fun t v Q E s q => bindName_ q) (fun t m => w2 t (List.mem_reverse.mp m)) (cf₁.step0 S₀ (cf₁.cx.str.ofKeeps kk)) hs (ra.keep S₀.keeps0).rev fun h'' tk st er R hl => p₁ h'' tk M₁ (S₀.wk.trans st) R er hl
end
end Mine
end
-- part Q35
section
open PySem PySem.W PyProof.Rows
namespace Mine

section
variable {prog : Program} {w : World} {G : GT} {W : Wc} {stack : List Env} {d : Nat} {Φ : Phi} {fuel : Nat}
variable {h₀ h₁ h h' : Heap} {M₀ M₁ M : Mem} {s : Shared} {σ : St} {ρ : Vars} {env : Env} {tab : List Str} {n : Nat} {A : Around} {E : Value → Shared → Prop} {Q : Flow → Shared → Prop}

/-- what is none of the frame's, the store's or the frames' turns, or goes -/
theorem Cf.turn {X : List Addr} (cf : Cf prog w G.base stack env tab ρ h M σ) (nM : ∀ a ∈ X, a ∉ M) (ns : ∀ a ∈ X, ∀ o, h.get? a = some o → ¬ SeqLike o) (nO : ∀ a ∈ X, a ∉ OwnT env tab) (nf : ∀ a ∈ X, ∀ e ∈ stack, e.frame ≠ some a) (ba : ∀ a ∈ X, G.base.get? a = none) (kk : KK X h h') :
    Cf prog w G.base stack env tab ρ h' M σ ∧ Keeps2 h M h' M := by
  have K : Keeps2 h M h' M := ⟨fun b o e n sq => ⟨kk b o (fun m => ns b m o e sq) e, n⟩, fun _ _ e => e⟩
  refine ⟨⟨⟨fun b o e => kk b o (fun m => sn e (ba b m)) (cf.cx.stay b o e), fun e he => ?_, cf.cx.er.turn K kk fun a m q => nO a m (ownT_iff.mpr q), cf.cx.str.keep K fun a m => ?_, cf.cx.fr⟩, cf.st, cf.own, cf.len⟩, K⟩
  · obtain ⟨hk, L, o, a1, a2, a3, a4, a5, a6⟩ := cf.cx.ff e he
    exact ⟨hk, L, o, a1, a2, kk L o (fun m => nf L m e he a1) a3, a4, a5, a6⟩
  · obtain ⟨o, e⟩ := cf.cx.str.live a m
    exact (kk a o (fun q => nM a q m) e).trans e.symm
theorem Step.goneX {base : Heap} {X Y : List Addr} {h h' h'' : Heap} {M M' : Mem} (x : Step base X h M h' M') (hx : ∀ a ∈ Y, h.get? a = none) (ba : ∀ a ∈ Y, base.get? a = none) (kk : KK Y h' h'') : Step base X h M h'' M' := by
  have ne : ∀ b o, h.get? b = some o → b ∉ Y := fun b o e m => sn e (hx b m)
  refine ⟨fun b o e n nx => ?_, fun b o e => ?_, x.grow, fun b o e => kk b o (fun m => sn e (ba b m)) (x.stay b o e), fun b o m nx e => kk b o (ne b o e) (x.zk b o m nx e)⟩
  · obtain ⟨o', e', s⟩ := x.keep b o e n nx
    exact ⟨o', kk b o' (ne b o e) e', s⟩
  · obtain ⟨o', e'⟩ := x.there b o e
    exact ⟨o', kk b o' (ne b o e) e'⟩

theorem kvs_stored {M : Mem} : ∀ {kvs : List (Str × PV)} {us : List (Str × Value)} {x : Str} {z : PV} {v : Value}, us.map (·.1) = kvs.map (·.1) → RVs h M (kvs.map (·.2)) (us.map (·.2)) → RV h M z v →
    (us.map fun kv => if kv.1 = x then (kv.1, v) else kv).map (·.1) = (kvs.map fun q => if q.1 = x then (x, z) else q).map (·.1) ∧ RVs h M ((kvs.map fun q => if q.1 = x then (x, z) else q).map (·.2)) ((us.map fun kv => if kv.1 = x then (kv.1, v) else kv).map (·.2))
  | [], [], _, _, _, _, _, _ => ⟨rfl, .nil⟩
  | [], _ :: _, _, _, _, h, _, _ => nomatch h
  | _ :: _, [], _, _, _, h, _, _ => nomatch h
  | (k, y) :: kvs, (k', u) :: us, x, z, v, h, r, rz => by
    simp only [List.map_cons, List.cons.injEq] at h
    obtain ⟨rfl, h⟩ := h
    obtain ⟨_, _, hy, r⟩ := r
    obtain ⟨i1, i2⟩ := kvs_stored (x := x) h r rz
    by_cases q : k' = x
    · subst q
      simp only [List.map_cons, if_true]
      exact ⟨by rw [i1], .cons _ _ _ _ rz i2⟩
    · simp only [List.map_cons, if_neg q]
      exact ⟨by rw [i1], .cons _ _ _ _ hy i2⟩
theorem any_key : ∀ {kvs : List (Str × PV)} {us : List (Str × Value)} {x : Str}, us.map (·.1) = kvs.map (·.1) → (kvs.lookup x).isSome = true → (us.any fun kv => decide (kv.1 = x)) = true
  | [], [], _, _, h => by cases h
  | [], _ :: _, _, h, _ => by cases h
  | _ :: _, [], _, h, _ => by cases h
  | (k, y) :: kvs, (k', u) :: us, x, h, hs => by
    simp only [List.map_cons, List.cons.injEq] at h
    obtain ⟨rfl, h⟩ := h
    rw [List.any_cons]
    by_cases q : k' = x
    · simp [q]
    · rw [List.lookup_cons] at hs
      have : (x == k') = false := by rw [beq_eq_false_iff_ne]; exact fun z => q z.symm
      rw [this] at hs
      rw [any_key h hs, Bool.or_true]

theorem dctAt_get {σ : St} {k : Nat} {kvs : List (Str × PV)} (h : dctAt σ k = some kvs) : σ[k]? = some (.dct kvs) := by
  unfold dctAt at h
  cases hk : σ[k]? with
  | none => rw [hk] at h; exact nomatch h
  | some c =>
    rw [hk] at h
    cases c with
    | dct _ => cases h; rfl
    | _ => exact nomatch h
theorem ss_put {o key e : PE} {sp p : Pos} (ho : SE prog w G W stack d Φ o) (hk : SE prog w G W stack d Φ key) (he : SE prog w G W stack d Φ e) : SS prog w G W stack d Φ fuel (.put o key sp e p) := by
  intro A s env tab ρ M σ Q E ar wf cf hp
  dsimp only [evS_put] at hp
  obtain ⟨w1, wf⟩ := and2 wf
  obtain ⟨w2, wf⟩ := and2 wf
  obtain ⟨w3, w4⟩ := and2 wf
  rw [toS_put, exec_Assign_Subscript _ _ _ _ _ (noSwap w4 _ _ _)]
  refine wpAny_bind (wpAny_standAt (wpAny_bind (wpAny_mono (he ar w3 cf.cx (FPost.bindE cf.cx.er rfl hp)) (fun v s₁ h₁ => ?_) fun _ _ e => e)))
  obtain ⟨z, σ₁, M₁, st₁, R₁, rz, p₁⟩ := h₁
  have cf₁ := cf.step0 st₁ R₁
  rw [arm_assign_Subscript]
  refine wpAny_bind (wpAny_bind (wpAny_holding (wpAny_mono (ho ar w1 cf₁.cx (FPost.bindE cf₁.cx.er rfl p₁)) (fun ov s₂ h₂ => ?_) fun _ _ e => e)))
  obtain ⟨x, σ₂, M₂, st₂, R₂, rx, p₂⟩ := h₂
  have cf₂ := cf₁.step0 st₂ R₂
  refine wpAny_bind (wpAny_holding (wpAny_mono (hk ar w2 cf₂.cx (FPost.bindE cf₂.cx.er rfl p₂)) (fun iv s₃ h₃ => ?_) fun _ _ e => e))
  obtain ⟨y, σ₃, M₃, st₃, R₃, ry, p₃⟩ := h₃
  have cf₃ := cf₂.step0 st₃ R₃
  obtain ⟨σ₄, hpv, p₃⟩ := p₃.wit
  obtain ⟨k, hk, hpv⟩ := Option.bind_eq_some_iff.mp hpv
  obtain ⟨kvs, hkv, hpv⟩ := Option.bind_eq_some_iff.mp hpv
  obtain ⟨t, ht, hpv⟩ := Option.bind_eq_some_iff.mp hpv
  obtain ⟨hc, rfl⟩ := gd_inv hpv
  obtain ⟨hsome, hlen⟩ := and2 hc
  have hlen := of_decide_eq_true hlen
  have hkk := dctAt_get hkv
  obtain ⟨a, rfl, hka⟩ := (asC_rv hk rx).keep st₃.keeps0
  obtain ⟨tk, rfl⟩ := asS_rv ht ry
  have rz := (rz.keep st₂.keeps0).keep st₃.keeps0
  obtain ⟨us, hd, hkeys, ra⟩ := R₃.at_ _ _ a hkk hka
  have hul : us.length = kvs.length := by
    have := congrArg List.length hkeys
    rw [List.length_map, List.length_map] at this; exact this
  refine wpAny_bind (wpAny_standAt (wpAny_bind (wpAny_holding (wpAny_setItem_pairs (knd := PySem.strKind prog w) (hsz := by rw [sizeLine_eq]; omega) (strKind_is _ _ t tk) hd fun h' hm hs => ?_))))
  refine PySem.wpAny_release (wpAny_pure ?_)
  have hst : stored us t v = us.map fun kv => if kv.1 = t then (kv.1, v) else kv := by
    unfold stored
    rw [if_pos (any_key hkeys hsome)]
  rw [hst] at hm
  obtain ⟨oD, es, ep, hoD, hxD, hdD, rD⟩ := id hm
  obtain ⟨oO, esO, epO, hoO, _, hdO, _⟩ := id hd
  have ham : a ∈ M₃ := Mem.of_get hka
  have K : Keeps2 s₃.heap M₃ h' M₃ := ⟨fun b o e n _ => ⟨(hs.2 b fun q => n (q ▸ ham)).trans e, n⟩, fun _ _ e => e⟩
  have st : Step G.base (OwnT env tab) s₃.heap M₃ h' M₃ := .sameBut st₃.stay hs hoD (.inl ⟨List.mem_of_getElem? hka, R₃.dis a (List.mem_of_getElem? hka)⟩) (R₃.old a ham)
  obtain ⟨i1, i2⟩ := kvs_stored (x := t) hkeys ra rz
  have R := R₃.upd (c := .dct (kvs.map fun q => if q.1 = t then (t, z) else q)) hka K (fun b hb hne => hs.2 b hne) ⟨_, hm, i1, i2.keep K⟩
  exact p₃ h' _ M₃ st R (cf₃.cx.er.turn (X := [a]) K (fun b o n e => (hs.2 b fun m => n (m ▸ .head _)).trans e) fun b m q => by
    rw [List.mem_singleton.mp m] at q
    obtain ⟨_, _, n, _⟩ := cf₃.cx.er.own q
    exact n ham) rfl

theorem ss_asc (wd : Wd prog w G W stack d Φ) {i : Nat} {x : Str} {xp cp p : Pos} {elt it : PE} {en : Option (Str × Pos × Pos)} {ifs : List PE} {tg : Tgt} {caps : List Nat} {scope : Scope}
    (he : SE prog w G W stack d Φ elt) (hit : SE prog w G W stack d Φ it) (hi : ∀ e ∈ ifs, ST prog w G W stack d Φ e) : SS prog w G W stack d Φ fuel (.asc i x xp elt tg en it ifs caps scope cp p) := by
  intro A s env tab ρ M σ Q E ar wf cf hp
  dsimp only [evS_asc] at hp
  obtain ⟨w1, wf⟩ := and2 wf
  obtain ⟨w2, wf⟩ := and2 wf
  obtain ⟨w3, wf⟩ := and2 wf
  obtain ⟨w4, w5⟩ := and2 wf
  have w3 := eq_of_beq w3
  have hsw : swapsWith (PE.comp elt tg en it ifs caps scope cp).toE (some (.Name x xp)) p.line env = pure true := by
    show (pure (env.blockKind == .function && env.kindOf x == some .local && xp.line == cp.line && !(scope.names.any fun (n, k) => n == x && (k == .local || k == .cell))) : Sem Bool) = pure true
    have hb : (env.blockKind == .function) = true := by
      unfold Env.blockKind
      rw [cf.cx.er.st.kind]; rfl
    rw [hb, Env.kindOf, w3, w4]
    simp only [beq_self_eq_true, Bool.true_and]
    exact congrArg pure w5
  rw [toS_asc, exec_Assign_Name_used _ _ _ _ hsw]
  refine wpAny_bind (wpAny_standAt (wpAny_bind ?_))
  rw [toE_comp]
  show wpAny _ A (do let _ ← comprehension (PE.comp elt tg en it ifs caps scope cp).toE scope env _ (newList []) false (eval (srcE en it.toE) env) (some (assign (.Name x xp) env))) _ _ s
  refine wpAny_bind (wpAny_mono (comp_core wd (p := cp) (use := some (assign (.Name x xp) env)) (Q := fun _ s' => Q .next s') he hit hi ar w1 cf.cx (Res.wp_bind hp) (fun σ' => XF.x (h' := s.heap) (tk := 0) cf.cx.er rfl) fun ys σ' hp D C h' tk M' ce => ?_) (fun _ s' hq => wpAny_pure (wpAny_pure hq)) fun _ _ e => e)
  show wpAny (model prog w) A (assign (.Name x xp) env (.ref D)) _ E _
  have hCO : C ∉ OwnT env tab := fun q => by
    obtain ⟨o, e, _⟩ := cf.cx.er.ownT q
    exact sn e ce.c0
  have cf' := cf.step0 ce.st ce.R
  obtain ⟨vs, n, hD, ra⟩ := ce.ls
  refine assign_Name (own_store (s := { s with heap := h', toks := tk }) cf' (eq_of_beq w2) (.lst ys vs D n hD ce.dM ra) fun h₂ tk₂ st _ er R₂ kp => ?_)
  obtain ⟨m, oC, es, ep, eC, rC⟩ := ce.ns
  have eC₂ := kp _ _ hCO eC
  refine ⟨m, ⟨oC, es, ep, eC₂, rC⟩, fun h'' hs => ?_⟩
  have one : ∀ {b : Addr} {P : Addr → Prop}, b ∈ [C] → P C → P b := fun m q => by rw [List.mem_singleton.mp m]; exact q
  have kk : KK [C] h₂ h'' := fun b o n e => (hs.2 b fun m => n (m ▸ .head _)).trans e
  have ba : G.base.get? C = none := by
    cases q : G.base.get? C with
    | none => rfl
    | some o => exact sn (cf.cx.stay C o q) ce.c0
  have cf₂ := cf'.step st R₂ er (by rw [List.length_set])
  obtain ⟨cf₃, K⟩ := cf₂.turn (X := [C]) (h' := h'') (fun a m => one (P := fun a => a ∉ M') m ce.cM) (fun a m => one (P := fun a => ∀ o, h₂.get? a = some o → ¬ SeqLike o) m fun o e => by rw [eC₂] at e; cases e; exact not_seqLike_dict rC.1) (fun a m => one (P := fun a => a ∉ OwnT env tab) m hCO) (fun a m e he q => by
    obtain ⟨_, L, o, a1, _, a3, _⟩ := cf.cx.ff e he
    rw [List.mem_singleton.mp m] at q
    rw [q] at a1; cases a1; exact sn a3 ce.c0) (fun a m => one (P := fun a => G.base.get? a = none) m ba) kk
  exact hp h'' tk₂ M' ((ce.st.wk.trans st).goneX (fun a m => one (P := fun a => s.heap.get? a = none) m ce.c0) (fun a m => one (P := fun a => G.base.get? a = none) m ba) kk) cf₃.cx.str cf₃.cx.er (by rw [List.length_set])
end
end Mine
end
-- part Q36
section
open PySem PySem.W PyProof.Rows
namespace Mine

/-- what the exception's class is good for -/
structure ExcC (prog : Program) (w : World) (G : GT) (stack : List Env) (d : Nat) : Prop where
  mat : ∀ (A : Around) (e : Addr) (oe : Obj) (s : Shared) (Q : Bool → Shared → Prop) (E : Value → Shared → Prop), G.base.StaysIn s.heap → s.heap.get? e = some oe → oe.cls = .ref G.tf → Q true s → wpAny (model prog w) A (excMatches (.ref e) (.ref G.tf)) Q E s
  kpr : ∀ (A : Around) (s : Shared) (Q : Keeper → Shared → Prop) (E : Value → Shared → Prop), G.base.StaysIn s.heap → Q .machine s → wpAny (model prog w) A (keeperOf (.ref G.tf)) Q E s
  cal : ∀ A, Ar A stack d → ∀ (s : Shared) (M : Mem) (σ : St) (x : Str) (t : Tok) (Q : Value → Shared → Prop) (E : Value → Shared → Prop), G.base.StaysIn s.heap → FF s.heap G.base M stack → StR prog w G.base s.heap M σ →
    (∀ e h' tk M' oe vs, Step G.base [] s.heap M h' M' → StR prog w G.base h' M' σ → h'.get? e = some oe → oe.cls = .ref G.tf → oe.data = .fields vs → vs[1]? = some .none → s.heap.get? e = none → e ∉ M' → Q (.ref e) { s with heap := h', toks := tk }) →
    wpAny (model prog w) A (call (.ref G.tf) [.str x t]) Q E s
  rai : ∀ (A : Around) (env : Env) (s : Shared) (x : Sem Value) (Q : Flow → Shared → Prop) (E : Value → Shared → Prop), A.handled = none →
    wpAny (model prog w) A x (fun v s₁ => ∃ e oe vs, v = .ref e ∧ G.base.StaysIn s₁.heap ∧ s₁.heap.get? e = some oe ∧ oe.cls = .ref G.tf ∧ oe.data = .fields vs ∧ vs[1]? = some .none ∧ E (.ref e) s₁) E s → wpAny (model prog w) A (raiseStmt env (some x) none) Q E s

section
variable {prog : Program} {w : World} {G : GT} {W : Wc} {stack : List Env} {d : Nat} {Φ : Phi} {fuel : Nat}
variable {h₀ h₁ h h' : Heap} {M₀ M₁ M M' : Mem} {s : Shared} {σ σ' : St} {ρ : Vars} {env : Env} {tab : List Str} {n : Nat} {A : Around} {E : Value → Shared → Prop} {Q : Flow → Shared → Prop}

/-- the facts at an exception's landing -/
theorem Cf.b3x (cf : Cf prog w G.base stack env tab ρ h₀ M₀ σ) (S : Step G.base (OwnT env tab) h₀ M₀ h' M') (R : StR prog w G.base h' M' σ') (er : ∃ ρ' : Vars, ρ'.length = ρ.length ∧ EnvR h' M' env tab ρ') :
    B3X prog w G.base (OwnT env tab) stack h₀ M₀ h' M' σ' := by
  obtain ⟨ρ', hl, er⟩ := er
  exact ⟨cf.cx.stay, S, R, (cf.step S R er hl).cx.ff⟩

/-- an exception passes a loop's frame -/
theorem loop_thrown {tk : Nat} {e : Addr} (ar : Ar A stack d) (cf : Cf prog w G.base stack env tab ρ h₀ M₀ σ) (S : Step G.base (OwnT env tab) h₀ M₀ h' M') (R : StR prog w G.base h' M' σ') (er : ∃ ρ' : Vars, ρ'.length = ρ.length ∧ EnvR h' M' env tab ρ') (th : Thrown (.ref G.tf) h₀ h' M' e)
    (hE : XF prog w G env tab ρ.length h₀ M₀ s E σ') :
    notedBy (model prog w) A env (fun e s' => cameBackBy (model prog w) A env E e s') (.ref e) { s with heap := h', toks := tk } := by
  have b := cf.b3x S R er
  obtain ⟨outer, hst, hf, _⟩ := cf.st
  subst hst
  obtain ⟨ρ', hl, er⟩ := er
  refine note_sound (s := { s with heap := h', toks := tk }) ar.frames rfl b th fun h₂ b₂ nt₂ dk₂ => ?_
  refine cameBack_sound (s := { s with heap := h₂, toks := tk }) b₂ nt₂ fun h₃ b₃ nt₃ dk₃ => ?_
  exact hE e h₃ tk M' b₃.step b₃.str ⟨ρ', hl, (er.dk dk₂).dk dk₃⟩ nt₃.thrown


inductive FInv (prog : Program) (w : World) (G : GT) (stack : List Env) (env : Env) (tab : List Str) (n₀ : Nat) (h₀ : Heap) (M₀ : Mem) (hI : Heap) (wr : List Addr) (Sti : Nat → Heap → Prop) (xs : List PV) (s₀ : Shared) (f : List PV → Vars → St → Prop) (k : Nat) (s : Shared) : Prop
  | mk (H : Heap) (tk : Nat) (Mh : Mem) (σ : St) (ρ' : Vars) (i : Nat) (h0 : s = { s₀ with heap := H, toks := tk }) (h1 : i ≤ xs.length) (h2 : k = xs.length + 1 - i) (h3 : Step G.base (OwnT env tab) h₀ M₀ H Mh) (h4 : Cf prog w G.base stack env tab ρ' H Mh σ) (h5 : ρ'.length = n₀) (h6 : ∀ a ∈ wr, a ∉ Mh) (h8 : Keeps2 hI M₀ H Mh) (h9 : Sti i H) (h10 : f (xs.drop i) ρ' σ)

theorem bindv_len {tg : Tgt} {x : PV} {ρ ρ' : Vars} (h : tg.bindv x ρ = some ρ') : ρ'.length = ρ.length := by
  cases tg with
  | name i y p => cases h; exact List.length_set
  | pair i y p j z q k tp =>
    obtain ⟨l, _, h⟩ := Option.bind_eq_some_iff.mp h
    obtain ⟨c, _, h⟩ := Option.map_eq_some_iff.mp h
    cases h
    exact List.length_set.trans List.length_set
theorem left_lt {n i : Nat} (h : i < n) : n + 1 - (i + 1) < n + 1 - i := by omega
theorem Cf.nf {a : Addr} {e : Env} (cf : Cf prog w G.base stack env tab ρ h₀ M₀ σ) (n : h₀.get? a = none) (he : e ∈ stack) : e.frame ≠ some a := fun q => by
  obtain ⟨_, L, o, a1, _, a3, _⟩ := cf.cx.ff e he
  rw [q] at a1; cases a1; exact sn a3 n
theorem stays_none {b : Heap} {a : Addr} (s : b.StaysIn h) (n : h.get? a = none) : b.get? a = none := by
  cases q : b.get? a with
  | none => rfl
  | some o => exact sn (s a o q) n
theorem obj_at {a : Addr} {o : Obj} {P : Obj → Prop} (x : ∃ o, h.get? a = some o ∧ P o) (e : h.get? a = some o) : P o := by
  obtain ⟨o', e', l⟩ := x
  rw [e] at e'; cases e'; exact l
theorem Tgt.In.mem {tg : Tgt} {x : Str} (ht : tg.In tab) (hx : x ∈ tg.names) : x ∈ tab := by
  cases tg with
  | name j y p => rw [List.mem_singleton.mp hx]; exact List.mem_of_getElem? ht
  | pair j y p j' z q kq tp =>
    rcases List.mem_cons.mp hx with e | e
    · rw [e]; exact List.mem_of_getElem? ht.1
    · rw [List.mem_singleton.mp e]; exact List.mem_of_getElem? ht.2
theorem ss_fr (wd : Wd prog w G W stack d Φ) {tg : Tgt} {it : PE} {b : List PS} {p : Pos} (hit : SE prog w G W stack d Φ it) (hb : SSs prog w G W stack d Φ fuel b) : SS prog w G W stack d Φ fuel (.fr tg it b p) := by
  intro A s env tab ρ M σ Q E ar wf cf hp
  dsimp only [evS_fr] at hp
  obtain ⟨w1, wf⟩ := and2 wf
  obtain ⟨w2, w3⟩ := and2 wf
  have ht := tgIn_in w2
  rw [toS_fr]
  refine wpAny_For ?_ (fun v => src_fold (en := none))
  refine src_sound wd (en := none) (tg := tg) hit ar w1 rfl cf.cx (K := fun xs σ₁ => FPost prog w G env tab ρ.length s.heap M s (frGo (fun ρ σ => evSs Φ fuel b ρ σ) tg xs ρ σ₁) Q E) (Res.wp_mono (fun l σ₁ q => ?_) (fun _ q => q) (Res.wp_bind hp)) (fun σ' => XF.x (h' := s.heap) (tk := 0) cf.cx.er rfl) ?_
  · obtain ⟨xs, hx, q⟩ := FPost.wit q
    exact ⟨xs, hx, q⟩
  clear hp
  intro xs σ₁ hp h₁ M₁ S₁ R₁ hI tkI I wr Sti kI nI itr
  have cf₁ := cf.step0 S₁ R₁
  have SI : Step G.base [] h₁ M₁ hI M₁ := .of_keeps S₁.stay kI
  have cfI := cf₁.step0 SI (R₁.ofKeeps kI)
  have nO : ∀ a ∈ wr, a ∉ OwnT env tab := fun a m q => by
    obtain ⟨o, e, _⟩ := cf₁.cx.er.ownT q
    exact sn e (nI a m)
  have nf : ∀ a ∈ wr, ∀ e ∈ stack, e.frame ≠ some a := fun a m e he => cf₁.nf (nI a m) he
  have nb : ∀ a ∈ wr, G.base.get? a = none := fun a m => stays_none S₁.stay (nI a m)
  refine codeAny_forLoop_any (FInv prog w G stack env tab ρ.length h₁ M₁ hI wr Sti xs s (fun l ρ' σ => FPost prog w G env tab ρ.length s.heap M s (frGo (fun ρ σ => evSs Φ fuel b ρ σ) tg l ρ' σ) Q E)) ?_ (xs.length + 1 - 0)
    ⟨hI, tkI, M₁, σ₁, ρ, 0, rfl, Nat.zero_le _, rfl, SI.wk, cfI, rfl, fun a m => R₁.live.fresh (nI a m), ⟨(fun a o e n _ => ⟨e, n⟩), (fun _ _ e => e)⟩, itr.st0, hp⟩
  clear hp
  rintro k s' ⟨H, tk, Mh, σ₂, ρ', i, rfl, hil, rfl, S, cf', hl, iM, kp, st, hr⟩
  have thr : ∀ {h₅ : Heap} {M₅ : Mem} {σ₅ : St} {tk₅ : Nat} {e : Addr}, Step G.base (OwnT env tab) h₁ M₁ h₅ M₅ → StR prog w G.base h₅ M₅ σ₅ → (∃ ρ₅ : Vars, ρ₅.length = ρ.length ∧ EnvR h₅ M₅ env tab ρ₅) → Thrown (.ref G.tf) h₁ h₅ M₅ e → XF prog w G env tab ρ.length s.heap M s E σ₅ →
      notedBy (model prog w) A env (fun e s' => cameBackBy (model prog w) A env E e s') (.ref e) { s with heap := h₅, toks := tk₅ } := fun S₅ R₅ er₅ th x => loop_thrown (s := s) ar cf (S₁.wk.trans S₅) R₅ er₅ (th.back S₁) x
  have obj := itr.obj _ _ st
  have ns : ∀ a ∈ wr, ∀ o, H.get? a = some o → ¬ SeqLike o := fun a m o e => (obj_at (obj a m) e).2
  rcases Nat.lt_or_eq_of_le hil with hlt | heq
  case inr =>
    subst heq
    refine itr.done A ar.hnd _ _ _ st fun h' tk' kk => ?_
    rw [List.drop_length] at hr
    obtain ⟨cf₃, K⟩ := cf'.turn iM ns nO nf nb kk
    exact wpAny_execs_nil (hr h' tk' Mh (S₁.wk.trans (S.goneX nI nb kk)) cf₃.cx.str cf₃.cx.er hl)
  case inl =>
    have hx : xs[i]? = some xs[i] := List.getElem?_eq_getElem hlt
    rw [List.drop_eq_getElem_cons hlt] at hr
    dsimp only [frGo_cons] at hr
    obtain ⟨ρ₂, hbv, hr⟩ := hr.wit
    refine itr.item A ar.hnd i _ _ Mh _ _ hx st kp cf'.cx.str.live fun v h' tk' q => q _ _ fun h₂ rx st₂ kk => ?_
    obtain ⟨cf₃, K₃⟩ := cf'.turn iM ns nO nf nb kk
    have S₃ := S.goneX nI nb kk
    refine bind_sound (s := { s with heap := h₂, toks := tk' }) (X := OwnT env tab) ar.hnd hbv cf₃.cx.er cf₃.cx.str cf₃.cx.stay (fun _ _ _ => .head _) (fun x hx c hk hc => ownT_iff.mpr (.inr ⟨x, ht.mem hx, hk, hc⟩)) cf.own cf₃.len ht rx fun h₄ tk₄ S₄ K₄ er₄ R₄ k₄ len₄ => ?_
    have hl₄ := bindv_len hbv
    have cf₄ := cf₃.step S₄ R₄ er₄ hl₄
    have kp₄ := (kp.trans K₃).trans K₄
    have st₄ : Sti (i + 1) h₄ := itr.frame _ _ _ _ _ st₂ (kp.trans K₃) K₄ fun b hb o e => k₄ b o (nO b hb) e
    have S₄' := S₃.trans S₄
    refine hb (s := { s with heap := h₄, toks := tk₄ }) ar w3 cf₄ (Res.wp_mono (fun f σ₅ hr => ?_) (fun σ₅ x e h₅ tk₅ M₅ st₅ R₅ er₅ th => thr (S₄'.trans st₅) R₅ (by obtain ⟨ρ₅, hl₅, er₅⟩ := er₅; exact ⟨ρ₅, by rw [hl₅, hl₄, hl], er₅⟩) (th.back S₄') x) (Res.wp_bind hr))
    cases f with
    | rt v => exact fun u h₅ tk₅ M₅ st₅ R₅ rv => hr u h₅ tk₅ M₅ (S₁.wk.trans (S₄'.trans st₅)) R₅ rv
    | nx ρ'' =>
      intro h₅ tk₅ M₅ st₅ R₅ er₅ hl₅
      have cf₅ := cf₄.step st₅ R₅ er₅ hl₅
      have K₅ := cf₄.cx.er.keeps2 st₅
      have obj₄ := itr.obj _ _ st₄
      have k₅ : ∀ b ∈ wr, ∀ o, h₄.get? b = some o → h₅.get? b = some o := fun b hb o e => by
        obtain ⟨o'', e'', s'⟩ := st₅.keep b o e (fun q => iM b hb (.inl q)) (nO b hb)
        rw [s'.eq (obj_at (obj₄ b hb) e).1] at e''; exact e''
      exact ⟨xs.length + 1 - (i + 1), left_lt hlt, h₅, tk₅, M₅, σ₅, ρ'', i + 1, rfl, hlt, rfl, S₄'.trans st₅, cf₅, by rw [hl₅, hl₄, hl], fun a m => by
        obtain ⟨o, e, _⟩ := obj₄ a m
        exact st₅.notMem e (iM a m), kp₄.trans K₅, itr.frame _ _ _ _ _ st₄ kp₄ K₅ k₅, hr⟩

inductive WInv (prog : Program) (w : World) (G : GT) (stack : List Env) (env : Env) (tab : List Str) (n₀ : Nat) (h₀ : Heap) (M₀ : Mem) (s₀ : Shared) (f : Nat → Vars → St → Prop) (k : Nat) (s : Shared) : Prop
  | mk (H : Heap) (tk : Nat) (Mh : Mem) (σ : St) (ρ' : Vars) (h0 : s = { s₀ with heap := H, toks := tk }) (h3 : Step G.base (OwnT env tab) h₀ M₀ H Mh) (h4 : Cf prog w G.base stack env tab ρ' H Mh σ) (h5 : ρ'.length = n₀) (h10 : f k ρ' σ)
theorem ss_whl {t : PE} {b : List PS} {p : Pos} (ht : ST prog w G W stack d Φ t) (hb : SSs prog w G W stack d Φ fuel b) : SS prog w G W stack d Φ fuel (.whl t b p) := by
  intro A s env tab ρ M σ Q E ar wf cf hp
  dsimp only [evS_whl] at hp
  obtain ⟨w1, w2⟩ := and2 wf
  rw [toS_whl]
  refine wpAny_While ?_
  refine codeAny_whileLoop (WInv prog w G stack env tab ρ.length s.heap M s (fun k ρ' σ => FPost prog w G env tab ρ.length s.heap M s (whGo (fun ρ σ => evE Φ t ρ σ) (fun ρ σ => evSs Φ fuel b ρ σ) k ρ' σ) Q E)) ?_ fuel ⟨s.heap, s.toks, M, σ, ρ, rfl, .refl cf.cx.stay, cf, rfl, hp⟩
  clear hp
  rintro k s' ⟨H, tk, Mh, σ₂, ρ', rfl, S, cf', hl, hr⟩
  cases k with
  | zero => exact hr.elim
  | succ k =>
    dsimp only [whGo_succ] at hr
    have thr : ∀ {h₅ : Heap} {M₅ : Mem} {σ₅ : St} {tk₅ : Nat} {e : Addr}, Step G.base (OwnT env tab) s.heap M h₅ M₅ → StR prog w G.base h₅ M₅ σ₅ → (∃ ρ₅ : Vars, ρ₅.length = ρ.length ∧ EnvR h₅ M₅ env tab ρ₅) → Thrown (.ref G.tf) s.heap h₅ M₅ e → XF prog w G env tab ρ.length s.heap M s E σ₅ →
      notedBy (model prog w) A env (fun e s' => cameBackBy (model prog w) A env E e s') (.ref e) { s with heap := h₅, toks := tk₅ } := fun S₅ R₅ er₅ th x => loop_thrown (s := s) ar cf S₅ R₅ er₅ th x
    refine ht (s := { s with heap := H, toks := tk }) ar w1 cf'.cx (Res.wp_mono (fun x σ₃ hr v h₃ tk₃ M₃ st R rv => ?_) (fun σ₃ x e h₃ tk₃ M₃ st R th => thr (S.trans st.wk) R ⟨ρ', hl, cf'.cx.er.step st⟩ (th.back S) x) (Res.wp_bind hr))
    obtain ⟨c, rfl, hr⟩ := FPost.asBool rv hr
    refine ⟨c, rfl, ?_⟩
    have cf₃ := cf'.step0 st R
    have S₃ := S.trans st.wk
    cases c with
    | false => exact wpAny_execs_nil (hr h₃ tk₃ M₃ S₃ R cf₃.cx.er hl)
    | true =>
      show wpAny _ _ _ _ _ _
      refine hb (s := { s with heap := h₃, toks := tk₃ }) ar w2 cf₃ (Res.wp_mono (fun f σ₅ hr => ?_) (fun σ₅ x e h₅ tk₅ M₅ st₅ R₅ er₅ th => thr (S₃.trans st₅) R₅ (by obtain ⟨ρ₅, hl₅, er₅⟩ := er₅; exact ⟨ρ₅, by rw [hl₅, hl], er₅⟩) (th.back S₃) x) (Res.wp_bind hr))
      cases f with
      | rt v => exact fun u h₅ tk₅ M₅ st₅ R₅ rv => hr u h₅ tk₅ M₅ (S₃.trans st₅) R₅ rv
      | nx ρ'' =>
        intro h₅ tk₅ M₅ st₅ R₅ er₅ hl₅
        exact ⟨k, Nat.lt_succ_self k, h₅, tk₅, M₅, σ₅, ρ'', rfl, S₃.trans st₅, cf₃.step st₅ R₅ er₅ hl₅, by rw [hl₅, hl], hr⟩
end
end Mine
end
-- part Q37
section
open PySem PySem.W PyProof.Rows
namespace Mine

section
variable {prog : Program} {w : World} {G : GT} {W : Wc} {stack : List Env} {d : Nat} {Φ : Phi} {fuel : Nat}
variable {h₀ h₁ h h' : Heap} {M₀ M₁ M M' : Mem} {s : Shared} {σ σ' : St} {ρ : Vars} {env : Env} {tab : List Str} {n : Nat} {A : Around} {E : Value → Shared → Prop} {Q : Flow → Shared → Prop}

/-- a plain constant's value -/
theorem plain_ev {hv : PE} (hc : plainC hv = true) : ∃ v u, (∀ σ, evE Φ hv ρ σ = .ok v σ) ∧ (∀ h M, RV h M v u) ∧ ∀ (A : Around) (env : Env) (s : Shared) (Q : Value → Shared → Prop) (E : Value → Shared → Prop), Q u s → wpAny (model prog w) A (eval hv.toE env) Q E s := by
  cases hv with
  | cst c k p =>
    cases c with
    | none => exact ⟨.none, .none, fun _ => rfl, fun _ _ => rfl, fun A env s Q E q => wpAny_Constant_none q⟩
    | bool b => exact ⟨.bool b, .bool b, fun _ => rfl, fun _ _ => rfl, fun A env s Q E q => wpAny_Constant_bool q⟩
    | _ => exact nomatch hc
  | _ => exact nomatch hc

theorem caught_wp {α β : Type} {K : β → St → Prop} {X : St → Prop} {r : Res α} {f g : St → Res β} (p : (Res.caught r f g).wp K X) : r.wp (fun _ σ => (f σ).wp K X) (fun σ => (g σ).wp K X) := by
  cases r with
  | any => exact p.elim
  | _ => exact p
theorem ss_tre {e hv : PE} {ep xp hrp hpo p : Pos} {x : Str} (wd : Wd prog w G W stack d Φ) (ex : ExcC prog w G stack d) (h : SE prog w G W stack d Φ e) : SS prog w G W stack d Φ fuel (.tre e ep x xp hv hrp hpo p) := by
  intro A s env tab ρ M σ Q E ar wf cf hp
  dsimp only [evS_tre] at hp
  obtain ⟨w1, wf⟩ := and2 wf
  obtain ⟨w0, wf⟩ := and2 wf
  obtain ⟨w2, wf⟩ := and2 wf
  obtain ⟨w3, w4⟩ := and2 wf
  cases of_decide_eq_true w2
  have w3 := eq_of_beq w3
  obtain ⟨v, u, e1, e2, e3⟩ := plain_ev (prog := prog) (w := w) (Φ := Φ) (ρ := ρ) w4
  rw [toS_tre]
  refine wpAny_Try_except (wpAny_execs_cons (wpAny_Expr_any (h ar w1 cf.cx (Res.wp_mono (fun v σ₁ hp u h' tk M' st R rv => ?_) (fun σ₁ hp e' h' tk M' st R th => ?_) (caught_wp hp))) (notInteractive cf.cx.er.st.kind) (noSwap w0 _ _ _)))
  · exact wpAny_execs_nil (wpAny_execs_nil (hp h' tk M' st.wk R (cf.cx.er.step st) rfl))
  · rw [e1] at hp
    have S : Step G.base (OwnT env tab) s.heap M h' M' := st.wk
    have er := cf.cx.er.step st
    have b := cf.b3x S R ⟨ρ, rfl, er⟩
    obtain ⟨outer, hst, hf, _⟩ := cf.st
    subst hst
    refine note_sound (s := { s with heap := h', toks := tk }) ar.frames rfl b th fun h₂ b₂ nt₂ dk₂ => ?_
    refine flight_sound (s := { s with heap := h₂, toks := tk }) b₂ nt₂ fun h₃ b₃ nt₃ dk₃ => ?_
    have er₃ := (er.dk dk₂).dk dk₃
    obtain ⟨mg, mb, g⟩ := wd.glo
    have gl : h₃.Ns mainGlobals mg := g.g.keeps b₃.step.stay
    refine wpAny_handleBy_cons (codeAny_handlers_test (glob_sound (s := { s with heap := h₃, toks := tk }) er₃ gl w3 (by decide) g.exc ?_)) (by intro q; cases q)
    obtain ⟨oe, vs, a1, a2, _⟩ := id nt₃
    refine ex.mat _ e' oe _ _ _ b₃.step.stay a1 a2 ?_
    refine codeAny_handlers_suite (flight_sound (s := { s with heap := h₃, toks := tk }) b₃ nt₃ fun h₄ b₄ nt₄ dk₄ => ?_)
    exact wpAny_execs_cons (wpAny_Return_some (e3 _ _ _ _ _ (hp u h₄ tk M' b₄.step b₄.str (e2 _ _))))

theorem ss_rse {x : Str} {xp cp p : Pos} {a : PE} (wd : Wd prog w G W stack d Φ) (ex : ExcC prog w G stack d) (h : SE prog w G W stack d Φ a) : SS prog w G W stack d Φ fuel (.rse x xp a cp p) := by
  intro A s env tab ρ M σ Q E ar wf cf hp
  dsimp only [evS_rse] at hp
  obtain ⟨w1, wf⟩ := and2 wf
  obtain ⟨w2, w3⟩ := and2 wf
  cases of_decide_eq_true w1
  have w2 := eq_of_beq w2
  obtain ⟨mg, mb, g⟩ := wd.glo
  rw [toS_rse, arm_exec_Raise]
  refine wpAny_bind (wpAny_standAt ?_)
  show wpAny _ A (raiseStmt env (some (do let v ← eval (.Call (.Name "TermFault" xp) [a.toE] [] cp) env; standAt p; pure v)) none) Q E s
  refine ex.rai A env s _ Q E ar.hnd ?_
  refine wpAny_bind ?_
  refine Call_Name rfl (glob_sound cf.cx.er (cf.cx.glob g).1 w2 (by decide) g.exc ?_)
  unfold callWith
  rw [trees_one]
  refine wpAny_bind (wpAny_holding (Calls.evalArgs_plain (Calls.spliced_cons (wpAny_mono (h ar w3 cf.cx (FPost.bindE cf.cx.er rfl hp)) (fun v s₁ h₁ => Calls.spliced_nil ?_) fun _ _ e => e))))
  obtain ⟨z, σ₁, M₁, st₁, R₁, rv, p₁⟩ := h₁
  have cf₁ := cf.step0 st₁ R₁
  obtain ⟨y, hy, p₁⟩ := p₁.wit
  obtain ⟨t, rfl⟩ := asS_rv hy rv
  refine wpAny_bind (wpAny_standAt ?_)
  simp only [List.any_cons, List.any_nil, Bool.or_false, Bool.false_or]
  refine wpAny_bind (ex.kpr A s₁ _ _ cf₁.cx.stay ?_)
  refine wpAny_bind (ex.cal A ar s₁ M₁ σ₁ y t _ _ cf₁.cx.stay cf₁.cx.ff cf₁.cx.str fun e h' tk M' oe vs st R b1 b2 b3 b4 b5 b6 => ?_)
  refine wpAny_bind (wpAny_holding (wpAny_point (wpAny_pure (wpAny_bind (wpAny_standAt (wpAny_pure ?_))))))
  refine ⟨e, oe, vs, rfl, st.stay, b1, b2, b3, b4, ?_⟩
  have sz : 1 < vs.size := (Array.getElem?_eq_some_iff.mp b4).1
  exact p₁ e h' tk M' st.wk R ⟨ρ, rfl, cf₁.cx.er.step st⟩ ⟨oe, vs, b1, b2, b3, sz, b5, b6, .inl b4⟩

mutual
theorem ss (wd : Wd prog w G W stack d Φ) (ex : ExcC prog w G stack d) (fuel : Nat) : (t : PS) → SS prog w G W stack d Φ fuel t
  | .asg i x xp e p => ss_asg (sb wd e).1
  | .asc i x xp elt tg en it ifs caps sc cp p => ss_asc wd (sb wd elt).1 (sb wd it).1 fun e he => (sbs wd ifs e he).2
  | .ast sw ts k tp e p => ss_ast (sb wd e).1
  | .put o key sp e p => ss_put (sb wd o).1 (sb wd key).1 (sb wd e).1
  | .iff t b o p => ss_iff (sb wd t).2 (sss wd ex fuel b) (sss wd ex fuel o)
  | .ret e p => ss_ret (sb wd e).1
  | .fr tg it b p => ss_fr wd (sb wd it).1 (sss wd ex fuel b)
  | .whl t b p => ss_whl (sb wd t).2 (sss wd ex fuel b)
  | .rse x xp a cp p => ss_rse wd ex (sb wd a).1
  | .tre e ep x xp hv hrp hp p => ss_tre wd ex (sb wd e).1
  | .exp e p => ss_exp (sb wd e).1
theorem sss (wd : Wd prog w G W stack d Φ) (ex : ExcC prog w G stack d) (fuel : Nat) : (ts : List PS) → SSs prog w G W stack d Φ fuel ts
  | [] => sss_nil
  | t :: r => sss_cons (ss wd ex fuel t) (sss wd ex fuel r)
end
end
end Mine
end
-- part Q38
section
open PySem PySem.W PyProof.Rows
namespace Mine

theorem bindL_not {kindOf : Str → Option NameKind} : ∀ {names : List Str} {vals : List Value} {m : Str → Option Value} {x : Str}, x ∉ names → bindL kindOf (names.zip vals) m x = m x
  | [], _, _, _, _ => rfl
  | _ :: _, [], _, _, _ => rfl
  | n :: names, v :: vals, m, x, h => by
    rw [List.zip_cons_cons, bindL, bindL_not fun q => h (.tail _ q)]
    split
    · have : x ≠ n := fun q => h (by rw [q]; exact .head _)
      simp [this]
    · rfl
theorem bindL_get {kindOf : Str → Option NameKind} : ∀ {names : List Str} {vals : List Value} {m : Str → Option Value} {x : Str} {v : Value} {i : Nat}, names.Nodup → names[i]? = some x → vals[i]? = some v → kindOf x = some .local → bindL kindOf (names.zip vals) m x = some v
  | [], _, _, _, _, _, _, h, _, _ => by simp at h
  | _ :: _, [], _, _, _, _, _, _, h, _ => by simp at h
  | n :: names, u :: vals, m, x, v, 0, hn, h1, h2, hk => by
    simp at h1 h2
    subst h1; subst h2
    rw [List.zip_cons_cons, bindL, if_pos hk, bindL_not (List.nodup_cons.mp hn).1]
    simp
  | n :: names, u :: vals, m, x, v, i + 1, hn, h1, h2, hk => by
    rw [List.zip_cons_cons, bindL]
    exact bindL_get (List.nodup_cons.mp hn).2 (by simpa using h1) (by simpa using h2) hk
theorem bindC_not {kindOf : Str → Option NameKind} : ∀ {names : List Str} {vals : List Value} {m : Str → Option Value} {x : Str}, x ∉ names → bindC kindOf (names.zip vals) m x = m x
  | [], _, _, _, _ => rfl
  | _ :: _, [], _, _, _ => rfl
  | n :: names, v :: vals, m, x, h => by
    rw [List.zip_cons_cons, bindC, bindC_not fun q => h (.tail _ q)]
    split
    · rfl
    · have : x ≠ n := fun q => h (by rw [q]; exact .head _)
      simp [this]
theorem bindC_get {kindOf : Str → Option NameKind} : ∀ {names : List Str} {vals : List Value} {m : Str → Option Value} {x : Str} {v : Value} {i : Nat}, names.Nodup → names[i]? = some x → vals[i]? = some v → kindOf x = some .cell → bindC kindOf (names.zip vals) m x = some v
  | [], _, _, _, _, _, _, h, _, _ => by simp at h
  | _ :: _, [], _, _, _, _, _, _, h, _ => by simp at h
  | n :: names, u :: vals, m, x, v, 0, hn, h1, h2, hk => by
    simp at h1 h2
    subst h1; subst h2
    have hnl : ¬ kindOf n = some .local := by rw [hk]; decide
    rw [List.zip_cons_cons, bindC, if_neg hnl, bindC_not (List.nodup_cons.mp hn).1]
    simp
  | n :: names, u :: vals, m, x, v, i + 1, hn, h1, h2, hk => by
    rw [List.zip_cons_cons, bindC]
    exact bindC_get (List.nodup_cons.mp hn).2 (by simpa using h1) (by simpa using h2) hk
theorem cellsFrom_some : ∀ {names : List (Str × NameKind)} {n : Nat} {acc : List (Str × Addr)} {x : Str}, ((∃ c, acc.lookup x = some c) ∨ (x, NameKind.cell) ∈ names) → ∃ c, (cellsFrom n names acc).lookup x = some c
  | [], _, _, _, h => by
    rcases h with h | h
    · exact h
    · cases h
  | (y, k) :: r, n, acc, x, h => by
    unfold cellsFrom
    by_cases hk : (k == NameKind.cell) = true
    · rw [if_pos hk]
      refine cellsFrom_some ?_
      by_cases q : (x == y) = true
      · exact .inl ⟨n, by rw [List.lookup_cons, q]⟩
      · have q' : (x == y) = false := by simpa using q
        rcases h with ⟨c, hc⟩ | h
        · exact .inl ⟨c, by rw [List.lookup_cons, q']; exact hc⟩
        · rcases List.mem_cons.mp h with h | h
          · cases h; simp at q
          · exact .inr h
    · rw [if_neg hk]
      refine cellsFrom_some ?_
      rcases h with h | h
      · exact .inl h
      · rcases List.mem_cons.mp h with h | h
        · cases h; exact absurd rfl hk
        · exact .inr h

/-- a def's text -/
structure Fn where
  fuel : Nat
  tab : List Str
  k : Nat
  sc : Scope
  body : List PS

structure FnOk (G : GT) (W : Wc) (F : Fn) (a : Addr) : Prop where
  at_ : ∃ o fd, G.base.get? a = some o ∧ o.data = .func fd ∧ G.base.CodeRec fd.code fd.qualname ∧ fd.body = .stmts (toSs F.body) ∧ fd.closure = [] ∧ fd.globals = mainGlobals ∧ fd.builtins = builtinsNs ∧ fd.scope = F.sc ∧
    (∀ vals : List Value, vals.length = F.k → bindArgs fd ⟨vals, []⟩ = pure ((F.tab.take F.k).zip vals)) ∧ (F.tab = lamTab → fd.code = .ref lamC ∧ fd.qualname ++ (".<locals>." : Str) = lamQual)
  kind : F.sc.kind = .function
  co : F.sc.isCoroutine = false
  gen : F.sc.isGenerator = false
  nd : F.tab.Nodup
  dbg : ∀ x ∈ F.tab, (x == ("__debug__" : Str)) = false
  kinds : ∀ x ∈ F.tab, F.sc.names.lookup x = some .local ∨ F.sc.names.lookup x = some .cell
  le : F.k ≤ F.tab.length
  wf : wfSs W F.sc F.tab F.body = true

/-- the texts' meaning, with so much depth -/
noncomputable def phi (L : List Fn) : Nat → Phi
  | 0 => fun _ _ _ => .bad
  | d + 1 => fun f args σ => match L[f]? with
    | some F => if args.length = F.k then evF (phi L d) F.fuel F.tab.length F.body args σ else .bad
    | none => .bad

section
variable {prog : Program} {w : World} {G : GT} {W : Wc} {L : List Fn} {d : Nat} {Φ : Phi}

theorem ns_obj {h : Heap} {a : Addr} {m : Str → Option Value} (n : h.Ns a m) : ∃ o, h.get? a = some o ∧ DictData o := by
  obtain ⟨o, es, ep, ho, hd, _⟩ := n; exact ⟨o, ho, es, ep, hd⟩

theorem call_code {A : Around} {a : Addr} {F : Fn} {s : Shared} {M : Mem} {args : List PV} {vs : List Value} {σ : St} {stack : List Env} {R : Result → Shared → Prop} (hlim : G.base.NoLimit) (hG : ∃ mg mb, Glo G mg mb) (hfn : G.fns.map (·.1) = W.fn) (hgs : G.gst = W.gs) (ok : FnOk G W F a)
    (ex : ∀ stack, ExcC prog w G stack (d + 5)) (hΦ : ∀ stack, Callee prog w G stack (d + 5) Φ) (ar : Ar A stack (d + 1 + 5)) (stay : G.base.StaysIn s.heap) (ff : FF s.heap G.base M stack) (str : StR prog w G.base s.heap M σ) (rvs : RVs s.heap M args vs) (hk : args.length = F.k)
    (p : Post prog w G s.heap M s (evF Φ F.fuel F.tab.length F.body args σ) (fun v s' => R (.ok (.ret v)) s') (fun e s' => R (.error e) s')) : codeAny (model prog w) A (.call (.ref a) ⟨vs, []⟩) R s := by
  obtain ⟨o, fd, ho, hdat, hcd, hbody, hclo, hgl, hbt, hsc, hbind, hlam⟩ := ok.at_
  have hvl : vs.length = F.k := by rw [← rvs.length]; exact hk
  have hlook : ∀ y, fd.scope.names.lookup y = F.sc.names.lookup y := fun y => by rw [hsc]
  have hsz : G.base.get? s.heap.objs.size = none := stay.fresh
  refine (codeAny_call_cells (by have := ar.room; omega) (stay _ _ ho) hdat (hlim.keeps stay) (hcd.keeps stay) hbody (hbind vs hvl) hclo (fun q hq => ?_) (fun s₁ ic => ?_) (by rw [hsc]; exact ok.co) (by rw [hsc]; exact ok.gen) (by rw [hsc]; exact ok.kind))
  · have hq1 : q.1 ∈ F.tab := List.mem_of_mem_take (List.of_mem_zip hq).1
    rcases ok.kinds _ hq1 with h | h
    · exact .inl ((hlook _).trans h)
    · refine .inr ⟨(hlook _).trans h, ?_⟩
      obtain ⟨c, hc⟩ := cellsFrom_some (names := fd.scope.names) (n := s.heap.objs.size + 1) (acc := []) (x := q.1) (.inr (lookup_mem ((hlook _).trans h)))
      rw [hc]; rfl
  · generalize henv : callEnvC fd s.heap.objs.size a = env at ic ⊢
    have hloc : env.locals = s.heap.objs.size := by rw [← henv]; rfl
    have hframe : env.frame = some env.locals := by rw [← henv]; rfl
    have hscope : env.scope = F.sc := by rw [← henv]; exact hsc
    have hkindOf : ∀ y, env.kindOf y = F.sc.names.lookup y := fun y => by rw [Env.kindOf, hscope]
    obtain ⟨h₁, tk₁, rfl⟩ := ic.toInCall.same
    have kk := ic.toInCall.keep
    have cellnew : ∀ n c, env.cells.lookup n = some c → s.heap.get? c = none := fun n c hc => by
      have := ic.above n c (mem_of_lookup hc)
      rw [hloc] at this
      exact Heap.get?_none_of_le (Nat.le_of_lt this)
    have S₀ : Step G.base [] s.heap M h₁ M := .of_keeps stay kk
    have ownnew : ∀ b ∈ OwnT env F.tab, s.heap.get? b = none := fun b hb => by
      rcases ownT_iff.mp hb with rfl | ⟨y, hy, hky, hc⟩
      · rw [hloc]; exact get_size _
      · exact cellnew y b hc
    have ownbase : ∀ b ∈ OwnT env F.tab, G.base.get? b = none := fun b hb => by
      cases q : G.base.get? b with
      | none => rfl
      | some o' => have := ownnew b hb; rw [stay b o' q] at this; cases this
    have hnodupk : (F.tab.take F.k).Nodup := List.Nodup.sublist (List.take_sublist _ _) ok.nd
    have argAt : ∀ (i : Nat) (y : Str) (z : PV), F.tab[i]? = some y → vget (args.map some ++ List.replicate (F.tab.length - args.length) none) i = some z → i < F.k ∧ (F.tab.take F.k)[i]? = some y ∧ ∃ v, vs[i]? = some v ∧ RV s.heap M z v := fun i y z hi hz => by
      have hik : i < args.length := by
        apply Decidable.byContradiction
        intro q
        unfold vget at hz
        rw [List.getElem?_append_right (by simpa using q), List.getElem?_replicate] at hz
        split at hz <;> cases hz
      have hz' : args[i]? = some z := by
        unfold vget at hz
        rw [List.getElem?_append_left (by simpa using hik), List.getElem?_map] at hz
        cases q : args[i]? with
        | none => rw [q] at hz; cases hz
        | some z' => rw [q] at hz; cases hz; rfl
      refine ⟨hk ▸ hik, ?_, rvs.get hz'⟩
      rw [List.getElem?_take_of_lt (hk ▸ hik)]; exact hi
    have er : EnvR h₁ M env F.tab (args.map some ++ List.replicate (F.tab.length - args.length) none) := by
      refine ⟨⟨by rw [hscope]; exact ok.kind, by rw [← henv]; exact hgl, by rw [← henv]; exact hbt, fun i y hi => by rw [hkindOf]; exact ok.kinds y (List.mem_of_getElem? hi), fun y y' c h1 h2 => name_of_addr ic.apart (mem_of_lookup h1) (mem_of_lookup h2), ok.nd, ok.dbg, by rw [← henv]; exact hlam⟩, ⟨_, ic.toInCall.ns, fun i y hi hky z hz => ?_⟩, fun i y hi hky => ?_, ?_⟩
      · obtain ⟨hik, htk, v, hv, rv⟩ := argAt i y z hi hz
        exact ⟨v, bindL_get hnodupk htk hv hky, rv.keep S₀.keeps0⟩
      · obtain ⟨c, hc⟩ : ∃ c, env.cells.lookup y = some c := by
          rw [hkindOf] at hky
          have := cellsFrom_some (names := fd.scope.names) (n := s.heap.objs.size + 1) (acc := []) (x := y) (.inr (lookup_mem ((hlook _).trans hky)))
          rw [← henv]; exact this
        refine ⟨c, _, hc, str.live.fresh (cellnew y c hc), ic.cell y c hc, fun z hz => ?_⟩
        obtain ⟨hik, htk, v, hv, rv⟩ := argAt i y z hi hz
        exact ⟨v, bindC_get hnodupk htk hv hky, rv.keep S₀.keeps0⟩
      · rw [hloc]; exact str.live.fresh (get_size _)
    have R₁ : StR prog w G.base h₁ M σ := str.ofKeeps kk
    have ff₁ : FF h₁ G.base M (env :: stack) := fun e he => by
      rcases List.mem_cons.mp he with rfl | he
      · obtain ⟨oL, hoL, dL⟩ := ns_obj ic.toInCall.ns
        refine ⟨by rw [hscope, ok.kind]; decide, e.locals, oL, hframe, by rw [hloc]; exact hsz, hoL, fun vs q => ?_, er.locM, dL⟩
        obtain ⟨es, ep, hd⟩ := dL
        rw [hd] at q; cases q
      · exact ff.step0 S₀ e he
    have cf : Cf prog w G.base (env :: stack) env F.tab (args.map some ++ List.replicate (F.tab.length - args.length) none) h₁ M σ := by
      refine ⟨⟨S₀.stay, ff₁, er, R₁, ⟨env, stack, rfl, rfl⟩⟩, ⟨stack, rfl, hframe, fun e he L' hL' hm => ?_⟩, ownbase, ?_⟩
      · obtain ⟨_, L, oL, a1, _, a3, _⟩ := ff e he
        rw [hL'] at a1; cases a1
        rw [ownnew _ hm] at a3; cases a3
      · have := ok.le; simp; omega
    have ar' : Ar (A.deeper env) (env :: stack) (d + 5) := ⟨ar.hnd, by show A.frames.map (env :: ·) = some (env :: stack); rw [ar.frames]; rfl, by have := ar.room; show A.depth + 1 + (d + 5) < _; omega, by have := ar.units; show A.units + 3 + 8 * (d + 5) + 2100 < _; omega⟩
    have wd : Wd prog w G W (env :: stack) (d + 5) Φ := ⟨hG, hfn, hgs, hΦ _⟩
    have fin : ∀ {h' : Heap} {M' : Mem}, Step G.base (OwnT env F.tab) h₁ M h' M' → Step G.base [] s.heap M h' M' := fun st => (S₀.wk.trans st).forget ownnew
    refine sss wd (ex _) F.fuel F.body (s := { s with heap := h₁, toks := tk₁ }) ar' (by rw [hscope]; exact ok.wf) cf (Res.wp_mono (fun fl σ' p => ?_) (fun σ' p e h' tk M' st R er' th => ?_) (Res.wp_bind p))
    · cases fl with
      | nx ρ' => exact fun h' tk M' st R er' hl => p .none h' tk M' (fin st) R .none
      | rt v => exact fun u h' tk M' st R rv => p u h' tk M' (fin st) R rv
    · have b := cf.b3x st R er'
      exact leaving_sound (s := { s with heap := h', toks := tk }) ar'.frames rfl b th fun h'' b'' nt dk => p e h'' tk M' (fin b''.step) b''.str (nt.thrown.back S₀)

theorem callee_succ (hlim : G.base.NoLimit) (hG : ∃ mg mb, Glo G mg mb) (hfn : G.fns.map (·.1) = W.fn) (hgs : G.gst = W.gs) (hL : ∀ (f : Nat) (x : Str) (a : Addr) (F : Fn), G.fns[f]? = some (x, a) → L[f]? = some F → FnOk G W F a)
    (ex : ∀ stack, ExcC prog w G stack (d + 5)) (hΦ : ∀ stack, Callee prog w G stack (d + 5) Φ) : ∀ stack, Callee prog w G stack (d + 1 + 5) (fun f args σ => match L[f]? with
    | some F => if args.length = F.k then evF Φ F.fuel F.tab.length F.body args σ else .bad
    | none => .bad) := by
  intro stack A ar f x a hf s M args vs σ Q E stay ff str rvs p
  dsimp only at p
  cases hLf : L[f]? with
  | none => rw [hLf] at p; exact p.elim
  | some F =>
  rw [hLf] at p
  dsimp only at p
  by_cases hk : args.length = F.k
  case neg => rw [if_neg hk] at p; exact p.elim
  rw [if_pos hk] at p
  exact wpAny_call (call_code hlim hG hfn hgs (hL f x a F hf hLf) ex hΦ ar stay ff str rvs hk p)

theorem callee_all (hlim : G.base.NoLimit) (hG : ∃ mg mb, Glo G mg mb) (hfn : G.fns.map (·.1) = W.fn) (hgs : G.gst = W.gs) (hL : ∀ (f : Nat) (x : Str) (a : Addr) (F : Fn), G.fns[f]? = some (x, a) → L[f]? = some F → FnOk G W F a)
    (ex : ∀ d stack, ExcC prog w G stack (d + 5)) : ∀ d stack, Callee prog w G stack (d + 5) (phi L d)
  | 0, _ => fun A ar f x a hf s M args vs σ Q E _ _ _ _ p => p.elim
  | d + 1, stack => callee_succ hlim hG hfn hgs hL (ex d) (callee_all hlim hG hfn hgs hL ex d) stack
end
end Mine
end
-- part Q39
section
open PySem PySem.W PyProof.Rows
namespace Mine

/-- texts from the tree -/
structure Tc where
  fn : List Str
  gs : List (Str × Str)
  mu : List (Nat × Nat)
  sc : Scope
  tab : List Str

noncomputable def omap {α β : Type} (f : α → Option β) : List α → Option (List β)
  | [] => some []
  | x :: r => match f x with
    | some y => match omap f r with
      | some ys => some (y :: ys)
      | none => none
    | none => none
noncomputable def idxOf (x : Str) : List Str → Nat → Option Nat
  | [], _ => none
  | y :: r, n => if x = y then some n else idxOf x r (n + 1)
noncomputable def bltOf (x : Str) : Option B :=
  if x = ("len" : Str) then some .len else if x = ("tuple" : Str) then some .tuple else if x = ("int" : Str) then some .int else
  if x = ("str" : Str) then some .str else if x = ("range" : Str) then some .range else none
noncomputable def mtOf (x : Str) : Option Mt :=
  if x = ("append" : Str) then some .append else if x = ("extend" : Str) then some .extend else if x = ("get" : Str) then some .get else none
/-- a loop's target, its names' places told by f -/
noncomputable def tgOf (f : Str → Nat → Option Nat) : Expr → Option Tgt
  | .Name x p => (f x 0).map fun i => .name i x p
  | .Tuple [.Name x p, .Name y q] k tp => (f x 0).bind fun i => (f y 1).map fun j => .pair i x p j y q k tp
  | _ => none
noncomputable def tgNames : Expr → List Str
  | .Name x _ => [x]
  | .Tuple [.Name x _, .Name y _] _ _ => [x, y]
  | _ => []
/-- a loop's source -/
noncomputable def srcOf : Expr → Option (Str × Pos × Pos) × Expr
  | .Call (.Name x p) [e] [] q => if x = ("enumerate" : Str) then (some (x, p, q), e) else (none, .Call (.Name x p) [e] [] q)
  | e => (none, e)
noncomputable def capsIn (c : Tc) (scope : Scope) : List Nat := scope.names.filterMap fun q => if q.2 == .free then idxOf q.1 c.tab 0 else none

noncomputable def ofE (c : Tc) : Nat → Expr → Option PE
  | 0, _ => none
  | n + 1, e => match e with
    | .Constant k t p => some (.cst k t p)
    | .Name x p => match idxOf x c.tab 0 with
      | some i => some (.var i x p)
      | none => match c.gs.lookup x with
        | some v => some (.gst v x p)
        | none => none
    | .BoolOp op vs p => (omap (ofE c n) vs).map fun vs => .boo op vs p
    | .BinOp l op r p => match ofE c n l, ofE c n r with
      | some l, some r => some (.bin l op r p)
      | _, _ => none
    | .UnaryOp op x p => match op, ofE c n x with
      | .Not, some x => some (.nt x p)
      | .USub, some x => some (.neg x p)
      | _, _ => none
    | .IfExp t b o p => match ofE c n t, ofE c n b, ofE c n o with
      | some t, some b, some o => some (.ife t b o p)
      | _, _, _ => none
    | .Dict [some (.Constant (.str k1) a kp), some (.Constant (.str k2) b kp')] [v1, v2] p => match ofE c n v1, ofE c n v2 with
      | some v1, some v2 => some (.dct k1 a kp v1 k2 b kp' v2 p)
      | _, _ => none
    | .List es p => (omap (ofE c n) es).map fun es => if c.mu.any (fun q => q.1 == p.line && q.2 == p.col) then .mls es p else .lst es p
    | .Tuple es k p => (omap (ofE c n) es).map fun es => .tup es k p
    | .ListComp elt [⟨tg, it, ifs, _⟩] scope p =>
      let caps := capsIn c scope
      let c' : Tc := { c with sc := relS scope c.sc, tab := capTab c.tab caps (tgNames tg) }
      let src := srcOf it
      match tgOf (fun _ k => some (caps.length + k)) tg, ofE c n src.2, ofE c' n elt, omap (ofE c' n) ifs with
      | some tg, some it, some elt, some ifs => some (.comp elt tg src.1 it ifs caps scope p)
      | _, _, _, _ => none
    | .Compare l [op] [r] p => match ofE c n l, ofE c n r with
      | some l, some r => some (.cmp l op r p)
      | _, _ => none
    | .Compare l [op, op2] [m, r] p => match ofE c n l, ofE c n m, ofE c n r with
      | some l, some m, some r => some (.cmp2 l op m op2 r p)
      | _, _, _ => none
    | .Call (.Name x xp) as [] p => match omap (ofE c n) as with
      | none => none
      | some as => match idxOf x c.fn 0 with
        | some f => some (.call f x xp as p)
        | none => match bltOf x, as with
          | some b, [a] => some (.blt b x xp a p)
          | none, [a] => if x = ("dict" : Str) then some (.dic x xp a p) else none
          | _, _ => none
    | .Call (.Name x xp) [a] [⟨some kw, .Lambda ⟨[], [⟨r, none, ap⟩], none, [], [], none, []⟩ (.Subscript (.Name r' rp) (.Constant (.int z) k zp) sp) sc lp, kp⟩] p => match ofE c n a with
      | some a => if kw = ("key" : Str) ∧ r' = r ∧ z = 0 ∧ x = ("sorted" : Str) then some (.srt x xp a r ap rp k zp sp lp kp sc p) else none
      | none => none
    | .Call (.Attribute (.Name x xp) m ap) as [] p => match omap (ofE c n) as, idxOf x c.tab 0 with
      | some [a], some i => (mtOf m).map fun m => .mth m i x xp ap a p
      | some [], some i => if m = ("pop" : Str) then some (.pop i x xp ap p) else none
      | _, _ => none
    | .FormattedValue e _ none p => (ofE c n e).map fun e => .fvl e p
    | .JoinedStr vs p => (omap (ofE c n) vs).map fun vs => .fst vs p
    | .Subscript o (.Slice (some lo) none none sp) p => match ofE c n o, ofE c n lo with
      | some o, some lo => some (.slF o lo sp p)
      | _, _ => none
    | .Subscript o (.Slice none (some hi) none sp) p => match ofE c n o, ofE c n hi with
      | some o, some hi => some (.slT o hi sp p)
      | _, _ => none
    | .Subscript o i p => match ofE c n o, ofE c n i with
      | some o, some i => some (.idx o i p)
      | _, _ => none
    | _ => none

noncomputable def ofT (c : Tc) : Expr → Option (Nat × Str × Pos)
  | .Name x p => (idxOf x c.tab 0).map fun i => (i, x, p)
  | _ => none
noncomputable def isComp : PE → Option (PE × Tgt × Option (Str × Pos × Pos) × PE × List PE × List Nat × Scope × Pos)
  | .comp elt tg en it ifs caps sc p => some (elt, tg, en, it, ifs, caps, sc, p)
  | _ => none

noncomputable def ofS (c : Tc) : Nat → Stmt → Option PS
  | 0, _ => none
  | n + 1, s => match s with
    | .Assign [.Name x xp] v p => match idxOf x c.tab 0, ofE c n v with
      | some i, some e => match isComp e with
        | some (elt, tg, en, it, ifs, caps, sc, cp) => if c.sc.names.lookup x == some .local && xp.line == cp.line && !(sc.names.any fun q => q.1 == x && (q.2 == .local || q.2 == .cell)) then some (.asc i x xp elt tg en it ifs caps sc cp p) else none
        | none => some (.asg i x xp e p)
      | _, _ => none
    | .Assign [.Tuple ts k tp] v p => match omap (ofT c) ts, ofE c n v with
      | some ts, some e => some (.ast (swOk c.sc ts e) ts k tp e p)
      | _, _ => none
    | .Assign [.Subscript o i sp] v p => match ofE c n o, ofE c n i, ofE c n v with
      | some o, some i, some v => some (.put o i sp v p)
      | _, _, _ => none
    | .If t b o p => match ofE c n t, omap (ofS c n) b, omap (ofS c n) o with
      | some t, some b, some o => some (.iff t b o p)
      | _, _, _ => none
    | .Return (some e) p => (ofE c n e).map fun e => .ret e p
    | .For tg it b [] p => match tgOf (fun x _ => idxOf x c.tab 0) tg, ofE c n it, omap (ofS c n) b with
      | some tg, some it, some b => some (.fr tg it b p)
      | _, _, _ => none
    | .While t b [] p => match ofE c n t, omap (ofS c n) b with
      | some t, some b => some (.whl t b p)
      | _, _ => none
    | .Raise (some (.Call (.Name x xp) [a] [] cp)) none p => (ofE c n a).map fun a => .rse x xp a cp p
    | .Try [.Expr e rp] [.ExceptHandler (some (.Name x xp)) none [.Return (some hv) hrp] hp] [] [] p => match ofE c n e, ofE c n hv with
      | some e, some hv => some (.tre e rp x xp hv hrp hp p)
      | _, _ => none
    | .Expr e p => (ofE c n e).map fun e => .exp e p
    | _ => none

/-- a def of the top -/
noncomputable def defOf (name : Str) : List Stmt → Option (Arguments × List Stmt × Scope)
  | [] => none
  | s :: r => match s with
    | .FunctionDef n args body _ _ _ sc _ _ _ => if n = name then some (args, body, sc) else defOf name r
    | _ => defOf name r
noncomputable def mkFn (b : List Stmt) (fn : List Str) (gs : List (Str × Str)) (mu : List (Nat × Nat)) (fuel : Nat) (name : Str) : Option Fn := match defOf name b with
  | none => none
  | some (args, body, sc) =>
    let ps := args.args.map (·.arg)
    let tab := ps ++ (sc.names.filter fun q => (q.2 == .local || q.2 == .cell) && !ps.contains q.1).map (·.1)
    match omap (ofS ⟨fn, gs, mu, sc, tab⟩ 60) body with
    | some body => some ⟨fuel, tab, ps.length, sc, body⟩
    | none => none
noncomputable def wfFn (fn : List Str) (gs : List (Str × Str)) (F : Fn) : Bool :=
  F.sc.kind == .function && !F.sc.isCoroutine && !F.sc.isGenerator && decide F.tab.Nodup && F.tab.all (fun x => !(x == ("__debug__" : Str))) &&
    F.tab.all (fun x => F.sc.names.lookup x == some .local || F.sc.names.lookup x == some .cell) && decide (F.k ≤ F.tab.length) && wfSs ⟨fn, gs⟩ F.sc F.tab F.body
end Mine
end
-- part Q40
section
open PySem PySem.W PyProof.Rows
namespace Mine

theorem look_mid {n : Str} {v : Value} {r : List (Str × Value)} : ∀ {acc : List (Str × Value)}, acc.lookup n = none → (acc ++ (n, v) :: r).lookup n = some v
  | [], _ => by rw [List.nil_append, List.lookup_cons_self]
  | (m, u) :: q, h => by
    rw [List.lookup_cons] at h
    rw [List.cons_append, List.lookup_cons]
    cases hb : n == m with
    | true => rw [hb] at h; cases h
    | false => rw [hb] at h; exact look_mid h
theorem look_end {n m : Str} {v : Value} (e : (m == n) = false) : ∀ {acc : List (Str × Value)}, acc.lookup m = none → (acc ++ [(n, v)]).lookup m = none
  | [], _ => by rw [List.nil_append, List.lookup_cons, e]; rfl
  | (k, u) :: q, h => by
    rw [List.lookup_cons] at h
    rw [List.cons_append, List.lookup_cons]
    cases hb : m == k with
    | true => rw [hb] at h; cases h
    | false => rw [hb] at h; exact look_end e h
theorem zip_look : ∀ {names : List Str} {vals : List Value} {acc : List (Str × Value)}, names.Nodup → vals.length = names.length → (∀ n ∈ names, acc.lookup n = none) →
    (names.filterMap fun n => ((acc ++ names.zip vals).lookup n).map fun v => (n, v)) = names.zip vals ∧ (names.filter fun n => ((acc ++ names.zip vals).lookup n).isNone) = []
  | [], [], _ => fun _ _ _ => ⟨rfl, rfl⟩
  | [], _ :: _, _ => fun _ hl => nomatch hl
  | _ :: _, [], _ => fun _ hl => nomatch hl
  | n :: r, v :: vals, acc => fun hn hl ha => by
    have hn := List.nodup_cons.mp hn
    have h1 : (acc ++ (n :: r).zip (v :: vals)).lookup n = some v := look_mid (ha n (.head _))
    have ih := zip_look (vals := vals) (acc := acc ++ [(n, v)]) hn.2 (Nat.succ.inj hl) fun m hm => look_end (beq_eq_false_iff_ne.mpr fun (q : m = n) => hn.1 (q ▸ hm)) (ha m (.tail _ hm))
    rw [List.append_assoc] at ih
    rw [List.filterMap_cons, List.filter_cons, h1]
    exact ⟨congrArg ((n, v) :: ·) ih.1, ih.2⟩
theorem ite_skip {α : Type} {c : Prop} [Decidable c] {t e z : α} (h : ¬ c) (he : e = z) : ite c t e = z := by rw [if_neg h]; exact he
theorem for_skip {α β γ : Type} {l : List α} {x : β} {f : α → β → Sem (ForInStep β)} {k : β → Sem γ} {z : Sem γ} (h : l = []) (he : k x = z) : (forIn l x f >>= k) = z := by subst h; exact he
theorem not_emp {α : Type} {l : List α} (h : l = []) : ¬ (!l.isEmpty) = true := by subst h; exact Bool.false_ne_true
theorem not_gt {m n : Nat} (h : m = n) : ¬ (decide (m > n) && true) = true := by subst h; rw [Bool.and_true, decide_eq_true_iff]; exact Nat.lt_irrefl _
theorem filter_take {α : Type} {p : α → Bool} {l : List α} (h : l.filter p = []) (k : Nat) : (l.take k).filter p = [] := List.sublist_nil.mp (h ▸ (List.take_sublist k l).filter p)
theorem zip_drop {α β : Type} (l : List α) (k : Nat) : l.zip (([] : List β).drop k) = [] := by rw [List.drop_nil, List.zip_nil_right]
theorem fmap_nil {α β : Type} {l : List α} {f : α → Option β} {z : List β} (h : l.filterMap f = z) : (l ++ []).filterMap f = z := by rw [List.append_nil]; exact h
theorem bind_plain {fd : FuncData} {args : List Arg} {vals : List Value} (hp : fd.params = ⟨[], args, none, [], [], none, []⟩) (hd : fd.defaults = .none) (hn : (args.map (·.arg)).Nodup) (hl : vals.length = args.length) :
    bindArgs fd ⟨vals, []⟩ = pure ((args.map (·.arg)).zip vals) := by
  have hl := hl.trans (List.length_map (·.arg)).symm
  cases fd
  cases hp
  cases hd
  exact ite_skip (not_gt hl) (ite_skip (not_emp (filter_take (zip_look (acc := []) hn hl fun _ _ => rfl).2 _)) (for_skip (zip_drop _ _) (congrArg Sem.pure (fmap_nil (zip_look (acc := []) hn hl fun _ _ => rfl).1))))

noncomputable def plainOf (a : Arguments) : Bool := a.posonlyargs.isEmpty && a.vararg.isNone && a.kwonlyargs.isEmpty && a.kw_defaults.isEmpty && a.kwarg.isNone && a.defaults.isEmpty
theorem plainOf_eq {a : Arguments} (h : plainOf a = true) : a = ⟨[], a.args, none, [], [], none, []⟩ := by
  obtain ⟨p, g, v, k, kd, kw, d⟩ := a
  unfold plainOf at h
  simp only [Bool.and_eq_true, List.isEmpty_iff, Option.isNone_iff_eq_none] at h
  obtain ⟨⟨⟨⟨⟨rfl, rfl⟩, rfl⟩, rfl⟩, rfl⟩, rfl⟩ := h
  rfl

section
variable {p : Program} {loose : List Str} {mean : ExcName → Option Value} {mg mb : Str → Option Value} {h : Heap} {W : Wc} {tabs : List (Addr × Addr)}

/-- what a def's text must agree in with the top's -/
noncomputable def agrees (p : Program) (x : Str) (F : Fn) : Prop := ∃ r ∈ recsOf p, r.name = x ∧ r.body = toSs F.body ∧ r.scope = F.sc ∧ plainOf r.params = true ∧ F.tab.take F.k = r.params.args.map (·.arg) ∧ F.k = r.params.args.length
/-- where the text with the lambda stands -/
noncomputable def LamAt (mg : Str → Option Value) (h : Heap) (x : Str) (F : Fn) : Prop := F.tab = lamTab → x ++ (".<locals>." : Str) = lamQual ∧ ∀ a o fd, mg x = some (.ref a) → h.get? a = some o → o.data = .func fd → fd.code = .ref lamC

theorem fnOk_top (T : Top p loose mean mg mb h) (hT : TabsAt tabs h) {r : DefRec} (hr : r ∈ recsOf p) {F : Fn} (hb : r.body = toSs F.body) (hs : r.scope = F.sc) (hp : plainOf r.params = true) (hk : F.tab.take F.k = r.params.args.map (·.arg)) (hkl : F.k = r.params.args.length)
    (hwf : wfFn W.fn W.gs F = true) (hlam : LamAt mg h r.name F) : ∃ a, mg r.name = some (.ref a) ∧ ∀ G : GT, G.base = ghostOf h tabs → (∃ o fd, G.base.get? a = some o ∧ o.data = .func fd) ∧ FnOk G W F a := by
  obtain ⟨a, o, pm, code, doc, h1, h2, h3, h4⟩ := T.fn r hr
  have h2' : (ghostOf h tabs).get? a = some o := ghost_get hT h2 fun q => by rw [q] at h3; cases h3
  have h4' : (ghostOf h tabs).CodeRec code r.name := by
    obtain ⟨c, oc, vs, t, e, hc, hd, hv⟩ := h4
    exact ⟨c, oc, vs, t, e, ghost_get hT hc (fun q => by rw [q] at hd; cases hd; cases hv), hd, hv⟩
  unfold wfFn at hwf
  simp only [Bool.and_eq_true, beq_iff_eq, Bool.not_eq_true', decide_eq_true_iff, List.all_eq_true, Bool.or_eq_true] at hwf
  obtain ⟨⟨⟨⟨⟨⟨⟨w1, w2⟩, w3⟩, w4⟩, w5⟩, w6⟩, w7⟩, w8⟩ := hwf
  refine ⟨a, h1, fun G hG => ⟨⟨o, _, hG ▸ h2', h3⟩, ⟨⟨o, _, hG ▸ h2', h3, hG ▸ h4', ?_, rfl, rfl, rfl, hs, fun vals hv => ?_, fun q => ⟨(hlam q).2 a o _ h1 h2 h3, (hlam q).1⟩⟩, w1, w2, w3, w4, w5, w6, w7, w8⟩⟩⟩
  · show FuncBody.stmts r.body = _
    rw [hb]
  · rw [hk]
    refine bind_plain (plainOf_eq hp) rfl ?_ (by rw [hv, hkl])
    rw [← hk]
    exact List.Nodup.sublist (List.take_sublist _ _) w4

theorem fns_top (T : Top p loose mean mg mb h) (hT : TabsAt tabs h) : ∀ {l : List (Str × Fn)}, (∀ q ∈ l, agrees p q.1 q.2 ∧ wfFn W.fn W.gs q.2 = true ∧ LamAt mg h q.1 q.2) → ∃ fns : List (Str × Addr), fns.map (·.1) = l.map (·.1) ∧
    ∀ (f : Nat) (x : Str) (a : Addr) (F : Fn), fns[f]? = some (x, a) → (l.map (·.2))[f]? = some F → mg x = some (.ref a) ∧ ∀ G : GT, G.base = ghostOf h tabs → (∃ o fd, G.base.get? a = some o ∧ o.data = .func fd) ∧ FnOk G W F a
  | [], _ => ⟨[], rfl, fun f x a F e => nomatch e⟩
  | (x, F) :: l, hl => by
    obtain ⟨fns, h1, h2⟩ := fns_top T hT (l := l) fun q hq => hl q (.tail _ hq)
    obtain ⟨⟨r, hr, rfl, e1, e2, e3, e4, e5⟩, wf, lm⟩ := hl _ (.head _)
    obtain ⟨a, ha, hG⟩ := fnOk_top (W := W) T hT hr e1 e2 e3 e4 e5 wf lm
    refine ⟨(r.name, a) :: fns, by rw [List.map_cons, h1]; rfl, fun f y b F' e eF => ?_⟩
    cases f with
    | zero => cases e; cases eF; exact ⟨ha, hG⟩
    | succ f => exact h2 f y b F' e eF
end
end Mine
end
-- part Q41
section
open PySem PySem.W PyProof.Rows
namespace Mine

structure ClsF (M : Model) (h : Heap) (C : Addr) : Prop where
  obj : ∃ oc od cd sl, h.get? C = some ⟨oc, od, .cls cd, sl⟩
  tup : Looks M h (isInstance (.ref C) (.type "tuple")) false
  base : Looks M h (isSubtype (.ref C) (.type "BaseException")) true
  self : Looks M h (isSubtype (.ref C) (.ref C)) true
  call : Looks M h (specialOf (.ref C) "__call__") (some (.builtin "type.__call__"))
  typ : Looks M h (typeOf (.ref C)) (.type "type")
noncomputable def clsFIn (K : Frag) (C : Addr) : Bool := (clsIn K C).isSome && instIn K (.ref C) (.type "tuple") == some false && mroIn K C (.type "BaseException") == some true && mroIn K C (.ref C) == some true &&
  specialIn K (.ref C) "__call__" == some (some (.builtin "type.__call__")) && typeIn K (.ref C) == some (.type "type")
theorem clsF_of {K : Frag} {M : Model} {h : Heap} (X : K.In h) {C : Addr} (e : clsFIn K C = true) : ClsF M h C := by
  unfold clsFIn at e
  simp only [Bool.and_eq_true, beq_iff_eq] at e
  obtain ⟨⟨⟨⟨⟨e1, e2⟩, e3⟩, e4⟩, e5⟩, e6⟩ := e
  refine ⟨?_, looks_instIn X e2, looks_mroIn X e3, looks_mroIn X e4, looks_specialIn X e5, looks_typeIn X e6⟩
  unfold clsIn at e1
  split at e1
  · rename_i oc od cd sl ho
    exact ⟨oc, od, cd, sl, X _ _ ho⟩
  · cases e1

section
variable {prog : Program} {w : World} {A : Around} {s : Shared} {C e : Addr} {oe : Obj} {E : Value → Shared → Prop}

theorem isType_cls (F : ClsF (model prog w) s.heap C) {Q : Bool → Shared → Prop} (q : Q true s) : wpAny (model prog w) A (isType (.ref C)) Q E s := by
  obtain ⟨oc, od, cd, sl, ho⟩ := F.obj
  unfold isType loadHead
  refine wpAny_bind (wpAny_loadPart ho (wpAny_pure q))

theorem mat_cls (F : ClsF (model prog w) s.heap C) (he : s.heap.get? e = some oe) (hc : oe.cls = .ref C) {Q : Bool → Shared → Prop} (q : Q true s) : wpAny (model prog w) A (excMatches (.ref e) (.ref C)) Q E s := by
  have te : Looks (model prog w) s.heap (typeOf (.ref e)) (.ref C) := hc ▸ (Looks.ld he).andThen .now
  unfold excMatches
  refine wpAny_bind (F.tup.here ?_)
  simp only [Bool.false_eq_true, if_false]
  refine wpAny_bind (wpAny_pure ?_)
  simp only [List.forIn_cons, List.forIn_nil]
  refine wpAny_bind (wpAny_bind ?_)
  unfold isExcClass
  refine wpAny_bind (wpAny_bind (isType_cls F ?_))
  simp only [if_true]
  refine F.base.here ?_
  simp only [Bool.not_true, Bool.false_eq_true, if_false]
  refine wpAny_pure (wpAny_pure (wpAny_bind (te.here ?_)))
  refine wpAny_bind (wpAny_bind (wpAny_bind (F.self.here ?_)))
  simp only [if_true]
  exact wpAny_pure (wpAny_pure (wpAny_pure q))

theorem kpr_cls (F : ClsF (model prog w) s.heap C) {Q : Keeper → Shared → Prop} (q : Q .machine s) : wpAny (model prog w) A (keeperOf (.ref C)) Q E s := by
  obtain ⟨oc, od, cd, sl, ho⟩ := F.obj
  unfold keeperOf
  refine wpAny_bind (wpAny_load ho ?_)
  dsimp only
  refine wpAny_bind (F.call.here ?_)
  exact wpAny_pure q

theorem isType_inst {vs : Array Value} (he : s.heap.get? e = some oe) (hd : oe.data = .fields vs) {Q : Bool → Shared → Prop} (q : Q false s) : wpAny (model prog w) A (isType (.ref e)) Q E s := by
  unfold isType loadHead
  refine wpAny_bind (wpAny_loadPart he ?_)
  rw [hd]
  exact wpAny_pure q

theorem rai_cls {x : Sem Value} {env : Env} {Q : Flow → Shared → Prop} (hh : A.handled = none)
    (h : wpAny (model prog w) A x (fun v s₁ => ∃ e oe vs, v = .ref e ∧ ClsF (model prog w) s₁.heap C ∧ s₁.heap.get? e = some oe ∧ oe.cls = .ref C ∧ oe.data = .fields vs ∧ vs[1]? = some .none ∧ E (.ref e) s₁) E s) : wpAny (model prog w) A (raiseStmt env (some x) none) Q E s := by
  unfold raiseStmt
  refine wpAny_bind (wpAny_mono h (fun v s₁ h₁ => ?_) fun _ _ e => e)
  obtain ⟨e, oe, vs, rfl, F, he, hc, hd, h1, hE⟩ := h₁
  have te : Looks (model prog w) s₁.heap (typeOf (.ref e)) (.ref C) := hc ▸ (Looks.ld he).andThen .now
  have inst : Looks (model prog w) s₁.heap (isInstance (.ref e) (.type "BaseException")) true := te.andThen F.base
  refine wpAny_bind (wpAny_pure ?_)
  refine wpAny_bind (wpAny_holding ?_)
  unfold excFromValue
  refine wpAny_bind ?_
  unfold isExcClass
  refine wpAny_bind (isType_inst he hd ?_)
  simp only [Bool.false_eq_true, if_false]
  refine wpAny_pure ?_
  simp only [Bool.false_eq_true, if_false]
  refine wpAny_bind (inst.here ?_)
  simp only [if_true]
  refine wpAny_pure ?_
  refine wpAny_bind (isType_inst he hd ?_)
  simp only [Bool.false_eq_true, if_false]
  unfold raisedInstance
  refine wpAny_bind (wpAny_bind (te.here (wpAny_bind (F.typ.here ?_))))
  simp only [beq_self_eq_true, if_true]
  refine wpAny_pure ?_
  unfold setFlight
  refine wpAny_bind (wpAny_bind (wpAny_field he hd h1 ?_))
  simp only [bne_self_eq_false, Bool.false_eq_true, if_false]
  refine wpAny_pure ?_
  unfold raiseNew
  refine wpAny_bind (wpAny_handled ?_)
  rw [hh]
  first
    | exact wpAny_throw hE
    | exact wpAny_bind (wpAny_pure (wpAny_throw hE))
end
end Mine
end
-- part Q42
section
open PySem PySem.W
namespace Mine

/-- what making an object of the exception's class reads -/
structure MkF (M : Model) (h : Heap) (C fI : Addr) : Prop extends ClsF M h C where
  mro : ∃ l, Looks M h (mroOf (.ref C)) l ∧ l.isEmpty = false
  del : ∃ oc od cd sl, h.get? C = some ⟨oc, od, .cls cd, sl⟩ ∧ cd.hasDel = false
  made : Looks M h (Bind.madeBy (.ref C)) (some "Exception.__new__")
  stat : Looks M h (Bind.staticBase (.ref C)) (.ref C)
  subE : Looks M h (isSubtype (.ref C) (.type "Exception")) true
  subA : Looks M h (isSubtype (.ref C) (.type "AttributeError")) false
  subN : Looks M h (isSubtype (.ref C) (.type "NameError")) false
  typI : Looks M h (isInstance (.ref C) (.type "type")) true
  init : Looks M h (typeLookup (.ref C) "__init__") (some (.ref fI))
  bind : ∀ self, Looks M h (bindSpecial (.ref fI) self) (.ref fI, [self])

section
variable {prog : Program} {w : World} {A : Around} {C fI : Addr} {E : Value → Shared → Prop} {R : Result → Shared → Prop} {h : Heap} {g : Array GenState} {d : Drawn} {t : Nat} {os : OsState}

theorem newExc_run (F : MkF (model prog w) h C fI) {rest : List Value}
    (hq : R (.ok (.ret (.ref (h.objs.size + 1)))) ⟨(h.push { cls := .type "tuple", data := .seq rest.toArray }).push { cls := .ref C, data := .fields #[.ref h.objs.size, .none, .none, .none, .bool false, .none] }, g, d, t, os⟩) (hrest : rest.length ≤ sizeLine) :
    codeAny (model prog w) A (.builtin "Exception.__new__" ⟨.ref C :: rest, []⟩) R ⟨h, g, d, t, os⟩ := by
  have X := PySem.F.excBase_Exception
  have hends := X.ends
  obtain ⟨⟨_, tup, base, self, call, typ⟩, ⟨l, mro, mne⟩, ⟨oc, od, cd, sl, hC, hdel⟩, made, stat, subE, subA, subN, typI, init, bind⟩ := F
  have here : Looks (model prog w) h (Bind.madeHere "BaseException.__new__" (.ref C)) () := stat.andThen (made.andThen (Looks.of_pure (by simp only [Option.map_some, X.canon, bne_self_eq_false, Bool.false_eq_true, if_false])))
  refine codeAny_builtinAt X.entry ?_
  unfold Builtin.«BaseException.__new__»
  refine wpAt_bind ?_
  show wpAt _ _ _ (stack >>= _) _ _ _
  refine wpAt_bind (wpAt_stack fun p below => wpAt_of_wpAny ?_)
  wp_walk
  refine wpAt_of_wpAny ?_
  rw [X.owner]
  repeat (first | with_reducible refine Looks.at (by assumption) ?_ | with_reducible refine wpAny_loadPart_at hC ?_ | wp_step)
  show R _ _
  rw [Heap.size_push]
  exact hq

theorem checkNew (F : MkF (model prog w) h C fI) {rest : List Value} {A : Around} {Q : Unit → Shared → Prop} (q : Q () ⟨h, g, d, t, os⟩) : wpAny (model prog w) A (checkBuiltinCall "Exception.__new__" ⟨.ref C :: rest, []⟩) Q E ⟨h, g, d, t, os⟩ := by
  have X := PySem.F.excBase_Exception
  have hstar := X.noStar
  obtain ⟨⟨_, tup, base, self, call, typ⟩, ⟨l, mro, mne⟩, ⟨oc, od, cd, sl, hC, hdel⟩, made, stat, subE, subA, subN, typI, init, bind⟩ := F
  simp only [checkBuiltinCall, X.newKind, X.newSplit, X.newRow]
  repeat (first | with_reducible refine Looks.at (by assumption) ?_ | refine wpAny_loadPart_at hC ?_ | simp only [bne_self_eq_false, Bool.false_eq_true, if_false] | wp_step)
  exact q

/-- the object is made; its __init__ comes -/
theorem cal_made (F : MkF (model prog w) h C fI) {rest : List Value} {Q : Value → Shared → Prop} (hrest : rest.length ≤ sizeLine)
    (hq : codeAny (model prog w) (A.under (.builtin "type.__call__" ⟨.ref C :: rest, []⟩)) (.call (.ref fI) ⟨.ref (h.objs.size + 1) :: rest, []⟩) (fun r s' => match r with | .ok (.ret v) => v = .none ∧ Q (.ref (h.objs.size + 1)) s' | .ok _ => False | .error e => E e s')
      ⟨(h.push { cls := .type "tuple", data := .seq rest.toArray }).push { cls := .ref C, data := .fields #[.ref h.objs.size, .none, .none, .none, .bool false, .none] }, g, d, t, os⟩) :
    wpAny (model prog w) A (call (.ref C) rest) Q E ⟨h, g, d, t, os⟩ := by
  have X := PySem.F.excBase_Exception
  have F' := F
  obtain ⟨⟨_, tup, base, self, cal, typ⟩, ⟨l, mro, mne⟩, ⟨oc, od, cd, sl, hC, hdel⟩, made, stat, subE, subA, subN, typI, init, bind⟩ := F
  refine wpAny_call (codeAny_of_tree ?_)
  show wpAny _ _ (callAny (.ref C) _) _ _ _
  refine nd_load hC ?_
  show wpAny _ _ (callAny.viaDunder (.ref C) _) _ _ _
  unfold callAny.viaDunder
  refine wpAny_bind (cal.at ?_)
  dsimp only
  rw [tc_bind]
  refine wpAny_bind (wpAny_pure (wpAny_bind (wpAny_pure ?_)))
  refine wpAny_pure (a := Fin.again (.call (.builtin "type.__call__") ⟨.ref C :: rest, []⟩)) (And.intro rfl ?_)
  refine codeAny_call_builtin_at (Code.quiet_builtin _ (by decide +kernel)) entry_typeCall ?_
  with_reducible refine check_slot tc_kind tc_split typI (tc_args _ _ _) ?_
  unfold Builtin.«type.__call__»
  repeat (first | simp only [mne, Bool.false_eq_true, if_false] | with_reducible refine wpAny_call ?_ | lk)
  refine codeAny_call_builtin_code (Code.quiet_builtin _ X.quiet) (checkNew F' ?_)
  refine newExc_run F' ?_ hrest
  have k : ∀ b o, h.get? b = some o → ((h.push { cls := .type "tuple", data := .seq rest.toArray }).push { cls := .ref C, data := .fields #[.ref h.objs.size, .none, .none, .none, .bool false, .none] }).get? b = some o := fun b o e => Heap.get?_push_of_some _ (Heap.get?_push_of_some _ e)
  have hx : ((h.push { cls := .type "tuple", data := .seq rest.toArray }).push { cls := .ref C, data := .fields #[.ref h.objs.size, .none, .none, .none, .bool false, .none] }).get? (h.objs.size + 1) = some
      { cls := .ref C, data := .fields #[.ref h.objs.size, .none, .none, .none, .bool false, .none] } := by heap_get
  have t1 : Looks (model prog w) _ (typeOf (.ref (h.objs.size + 1))) (.ref C) := (Looks.ld hx).andThen .now
  have s1 := self.keeps k
  have i1 := init.keeps k
  have b1 := (bind (.ref (h.objs.size + 1))).keeps k
  show wpAny _ _ _ _ _ _
  unfold isInstance callSpecial? specialOf
  repeat (first | simp only [Bool.not_true, Bool.false_eq_true, if_false] | with_reducible refine wpAny_call ?_ | lk)
  refine codeAny_mono hq fun r s' z => ?_
  rcases r with e | (v | _ | _ | _)
  · exact z
  all_goals first | exact z.elim | skip
  obtain ⟨rfl, z⟩ := z
  exact wpAny_pure (wpAny_pure z)
end
end Mine
end
-- part Q43
section
open PySem PySem.W PySem.Builtin
namespace Mine

theorem slot_wget : Slot "wrapper_descriptor" "__get__" "wrapper_descriptor.__get__" := .of (owner := "wrapper_descriptor") (n := "__get__") (by rw [typeLookup_type, builtinLookup_eq_fast]; kernel_rfl) (by decide +kernel) (by decide +kernel) (by decide +kernel)
  (by first | exact .inl (by decide +kernel) | exact .inr (by decide +kernel)) (by rw [isSubtype_type]; kernel_rfl)
theorem entry_wget : entryFor table "wrapper_descriptor.__get__" = some Builtin.«wrapper_descriptor.__get__» := entryFor_of_tree (by kernel_rfl)
theorem args_wget (a b c : Value) : argsOk "wrapper_descriptor.__get__" ⟨[a, b, c], []⟩ := by unfold argsOk; kernel_rfl
theorem type_einit : typeOf (.builtin "Exception.__init__") = pure (.type "wrapper_descriptor") := by show builtinType _ = _; rw [builtinType_eq_fast]; kernel_rfl

section
variable {prog : Program} {w : World} {A : Around} {C e : Addr} {E : Value → Shared → Prop} {s : Shared} {oe : Obj}
theorem wget_run {Q : Value → Shared → Prop} (he : s.heap.get? e = some oe) (hc : oe.cls = .ref C) (sub : Looks (model prog w) s.heap (isSubtype (.ref C) (.type "Exception")) true)
    (q : Q (.ref s.heap.objs.size) { s with heap := s.heap.push { cls := .type "method-wrapper", data := .fields #[.builtin "Exception.__init__", .ref e] } }) :
    wpAny (model prog w) A (call (.builtin "wrapper_descriptor.__get__") [.builtin "Exception.__init__", .ref e, .ref C]) Q E s := by
  refine wpAny_call_entry slot_wget type_einit entry_wget ?_ (args_wget _ _ _)
  unfold Builtin.«wrapper_descriptor.__get__»
  refine wpAny_bind ?_
  have hs : ".".intercalate ("Exception.__init__".cutAt '.').dropLast = "Exception" := by decide +kernel
  wp_walk
  rw [hc, hs]
  refine sub.at ?_
  simp only [Bool.not_true, Bool.false_eq_true, if_false]
  refine wpAny_pure ?_
  exact wpAny_bind (wpAny_newObj_type (wpAny_pure ⟨_, rfl, q⟩))

theorem own_einit : classOwn (.type "Exception") ("__init__" : Str) = pure (some (.builtin "Exception.__init__")) := by kernel_rfl

theorem superGa {so D : Addr} {h : Heap} {g : Array GenState} {d : Drawn} {t : Nat} {os : OsState} {tk : Tok} {l₀ l : List Value} {Q : PySem.Fin → Shared → Prop} (hso : h.get? so = some { cls := .type "super", dict := none, data := .fields #[.ref D, .ref e, .ref C], slots := #[] })
    (hno : Looks (model prog w) h (opaqueClassAbove (.ref C)) none) (hC : Looks (model prog w) h (mroOf (.ref C)) l₀) (hl : (l₀.dropWhile (· != .ref D)).drop 1 = .type "Exception" :: l)
    (he : h.get? e = some oe) (hc : oe.cls = .ref C) (sub : Looks (model prog w) h (isSubtype (.ref C) (.type "Exception")) true) (hne : e ≠ C)
    (q : Q (.done (.ret (.ref h.objs.size))) ⟨h.push { cls := .type "method-wrapper", data := .fields #[.builtin "Exception.__init__", .ref e] }, g, d, t, os⟩) :
    wpAny (model prog w) A (Builtin.«super.__getattribute__» ⟨[.ref so, .str ("__init__" : Str) tk], []⟩) Q E ⟨h, g, d, t, os⟩ := by
  have hlk := slot_wget.lookup
  have hty := type_einit
  have hown := own_einit
  have hneq : (Value.ref e == Value.ref C) = false := by simp [hne]
  have hdt : ({ cls := .type "super", dict := none, data := .fields #[.ref D, .ref e, .ref C], slots := #[] } : Obj).data = .fields #[.ref D, .ref e, .ref C] := rfl
  have f0 : (#[.ref D, .ref e, .ref C] : Array Value)[0]? = some (.ref D) := rfl
  have f1 : (#[.ref D, .ref e, .ref C] : Array Value)[1]? = some (.ref e) := rfl
  have f2 : (#[.ref D, .ref e, .ref C] : Array Value)[2]? = some (.ref C) := rfl
  have hn : ((("__init__" : Str)) == ("__class__" : Str)) = false := by decide
  unfold Builtin.«super.__getattribute__»
  repeat (first
    | (with_reducible refine wpAny_field hso hdt f0 ?_) | (with_reducible refine wpAny_field hso hdt f1 ?_) | (with_reducible refine wpAny_field hso hdt f2 ?_)
    | (with_reducible refine ks_wpAny_notOpaque hno ?_)
    | (with_reducible refine Looks.at hC ?_; rw [hl, List.forIn_cons])
    | (with_reducible refine wget_run he hc sub ?_)
    | (with_reducible refine wpAny_of_eq hown ?_)
    | (with_reducible refine wpAny_of_eq hty ?_)
    | (with_reducible refine wpAny_of_eq hlk ?_)
    | (simp only [hn, hneq, Bool.or_false, Bool.false_eq_true, if_false])
    | wp_step
    | dsimp only)
  all_goals exact q

theorem superGm {so D : Addr} {h : Heap} {g : Array GenState} {d : Drawn} {t : Nat} {os : OsState} {pl : Sem Bool} {l₀ l : List Value} {Q : Value × List Value → Shared → Prop} (hso : h.get? so = some { cls := .type "super", dict := none, data := .fields #[.ref D, .ref e, .ref C], slots := #[] })
    (hno : Looks (model prog w) h (opaqueClassAbove (.ref C)) none) (hC : Looks (model prog w) h (mroOf (.ref C)) l₀) (hl : (l₀.dropWhile (· != .ref D)).drop 1 = .type "Exception" :: l)
    (he : h.get? e = some oe) (hc : oe.cls = .ref C) (sub : Looks (model prog w) h (isSubtype (.ref C) (.type "Exception")) true) (hne : e ≠ C)
    (q : Q (.ref h.objs.size, []) ⟨h.push { cls := .type "method-wrapper", data := .fields #[.builtin "Exception.__init__", .ref e] }, g, d, t + 1, os⟩) :
    wpAny (model prog w) A (getMethod (.ref so) ("__init__" : Str) pl) Q E ⟨h, g, d, t, os⟩ := by
  have hlk := PySem.F.ks_slot_super_ga.lookup
  have hcan := PySem.F.ks_canon_super_ga
  have hT : ∀ t', (⟨h, g, d, t', os⟩ : Shared).TypeIs (.ref so) "super" := fun _ => ⟨_, hso, rfl⟩
  unfold getMethod
  refine wpAny_bind (wpAny_specialOf (hT _) hlk ?_)
  show wpAny _ _ (if (Manifest.canonical "super.__getattribute__" != "object.__getattribute__") = true then _ else _) _ _ _
  rw [if_pos hcan]
  unfold getAttr getAttrBy
  refine wpAny_bind (wpAny_bind (wpAny_mkText (wpAny_holding (wpAny_bind (wpAny_typeOf (hT _) (wpAny_bind (wpAny_of_eq hlk ?_)))))))
  show wpAny _ _ (getAttrByItsOwn (.ref so) (.str ("__init__" : Str) t) (.type "super") (.builtin "super.__getattribute__") true false) _ _ _
  unfold getAttrByItsOwn hookBefore callGetattribute boundAndCalled
  refine wpAny_bind (wpAny_of_eq (show (if onTheHeap (.type "super") then typeLookup (.type "super") "__getattr__" else pure none) = pure none from rfl) ?_)
  refine wpAny_bind (wpAny_attempt (wpAny_holding ?_))
  show wpAny _ _ (bindSpecial (.builtin "super.__getattribute__") (.ref so) >>= _) _ _ _
  refine wpAny_bind (wpAny_of_eq (PySem.F.ks_slot_super_ga.bind _) ?_)
  refine wpAny_mono (Q := fun v s' => v = .ref h.objs.size ∧ s' = ⟨h.push { cls := .type "method-wrapper", data := .fields #[.builtin "Exception.__init__", .ref e] }, g, d, t + 1, os⟩) (E := fun _ _ => False)
    (wpAny_call_entry PySem.F.ks_slot_super_ga (hT _) PySem.F.ks_entry_super_ga (superGa hso hno hC hl he hc sub hne ⟨_, rfl, rfl, rfl⟩) (PySem.F.ks_gaArgs_super _ _)) (fun v s' hv => ?_) fun _ _ z => z.elim
  obtain ⟨rfl, rfl⟩ := hv
  exact wpAny_pure (wpAny_pure q)

/-- the method-wrapper is called -/
theorem wrapCall {mw : Addr} {h : Heap} {g : Array GenState} {d : Drawn} {t : Nat} {os : OsState} {v : Value} {T : Addr} {Q : Value → Shared → Prop} (hm : h.get? mw = some { cls := .type "method-wrapper", data := .fields #[.builtin "Exception.__init__", .ref e] })
    (he : h.get? e = some { cls := .ref C, data := .fields #[.ref T, .none, .none, .none, .bool false, .none] }) (sub : Looks (model prog w) h (isSubtype (.ref C) (.type "Exception")) true) {oc : Value} {od : Option Addr} {cd : ClassData} {sl : Array (Option Value)} (hC : h.get? C = some ⟨oc, od, .cls cd, sl⟩)
    (q : Q .none ⟨(h.push { cls := .type "tuple", data := .seq #[v] }).update e (Obj.mapFields (·.setIfInBounds 0 (.ref h.objs.size))), g, d, t, os⟩) :
    wpAny (model prog w) A (call (.ref mw) [v]) Q E ⟨h, g, d, t, os⟩ := by
  have X := PySem.F.excBase_Exception
  refine wpAny_call (codeAny_of_tree ?_)
  show wpAny _ _ (callAny (.ref mw) _) _ _ _
  wp_walk
  refine ⟨Code.quiet_builtin _ (by decide +kernel), codeAny_builtin X.initEntry ?_⟩
  show wpAny _ _ (Builtin.«BaseException.__init__» ⟨[.ref e, v], []⟩) _ _ _
  wp_walk
  exact q
end
end Mine
end
-- part Q44
section
open PySem PySem.W PySem.Builtin PySem.Builtin.ObjectAttr
namespace Mine

theorem refuse_exc (self : Value) : refuseLoop self "__setattr__" [.type "Exception", .type "BaseException", .type "object"] = pure () := by kernel_rfl

section
variable {prog : Program} {w : World} {A : Around} {C D e : Addr} {E : Value → Shared → Prop} {R : Result → Shared → Prop} {h : Heap} {g : Array GenState} {d : Drawn} {t : Nat} {os : OsState} {fs : Array Value}

theorem setWhat {v : Value} {tk : Tok} {cd : ClassData} (he : h.get? e = some { cls := .ref C, data := .fields fs })
    (mro : Looks (model prog w) h (mroOf (.ref C)) [.ref C, .ref D, .type "Exception", .type "BaseException", .type "object"]) (sub : Looks (model prog w) h (isSubtype (.ref C) (.type "object")) true)
    (no : Looks (model prog w) h (typeLookup (.ref C) "what") none) (cls : Looks (model prog w) h (classData C) cd) (hd : cd.hasDict = true)
    (q : ∀ h' tk' dx, h'.get? e = some { cls := .ref C, dict := some dx, data := .fields fs } → (∀ b o, b ≠ e → h.get? b = some o → h'.get? b = some o) → R (.ok (.ret .none)) ⟨h', g, d, tk', os⟩) :
    codeAny (model prog w) A (.call (.builtin "object.__setattr__") ⟨[.ref e, .str "what" tk, v], []⟩) R ⟨h, g, d, t, os⟩ := by
  have SF := PySem.F.store_object
  have te : Looks (model prog w) h (typeOf (.ref e)) (.ref C) := (Looks.ld he).andThen .now
  have ins : Looks (model prog w) h (isInstance (.ref e) (.type "object")) true := te.andThen sub
  refine codeAny_call_builtin SF.slot.plain SF.entry (@check_slot (model prog w) _ _ ⟨h, g, d, t, os⟩ "object.__setattr__" "object" "__setattr__" (.ref e) [.str "what" tk, v] [] _ SF.kind SF.split ins (SF.args (.ref e) (.str "what" tk) v) ?_)
  rw [osa_eq, refuse_eq]
  refine wpAny_bind (wpAny_bind (te.at (wpAny_bind (mro.at ?_))))
  rw [refuseLoop_ref, refuseLoop_ref, refuse_exc]
  refine wpAny_pure (wpAny_bind (te.at (wpAny_bind (no.at (wpAny_bind (wpAny_pure ?_))))))
  dsimp only
  unfold storeInOwnDict
  refine wpAny_bind (wpAny_pure ?_)
  show wpAny _ _ (ownDictForStores (.ref e) >>= _) _ _ _
  refine wpAny_bind ?_
  show wpAny _ _ (instanceDict e true) _ _ _
  unfold instanceDict
  refine wpAny_bind (wpAny_loadPart he ?_)
  dsimp only
  refine wpAny_bind (cls.at ?_)
  rw [hd]
  simp only [Bool.not_true, Bool.false_eq_true, if_false]
  refine wpAny_bind (wpAny_alloc ?_)
  have he' : (h.push emptyDict).get? e = some { cls := .ref C, data := .fields fs } := Heap.get?_push_of_some _ he
  have hDe : h.objs.size ≠ e := Nat.ne_of_gt (Heap.lt_size he)
  refine wpAny_bind (wpAny_update he' ?_)
  have he2 := Heap.get?_update_self (fun o : Obj => { o with dict := some h.objs.size }) he' rfl
  have hD2 : ((h.push emptyDict).update e fun o => { o with dict := some h.objs.size }).get? h.objs.size = some emptyDict := (Heap.get?_update_other _ _ (Ne.symm hDe)).trans (Heap.get?_push_size _ rfl)
  unfold dictMade
  refine wpAny_pure ?_
  dsimp only
  unfold storeInDict
  refine wpAny_bind (wpAny_pure ?_)
  unfold nsSet
  unfold strHash
  refine wpAny_bind (wpAny_bind (wpAny_bind (wpAny_askSetting (wpAny_pure (wpAny_bind (wpAny_mkText (wpAny_bind (wpAny_loadPart hD2 ?_))))))))
  show wpAny _ _ (updatePart _ _ _) _ _ _
  refine wpAny_updatePart hD2 ?_
  have hD3 := Heap.get?_update_self (fun o : Obj => Obj.putName (Str.ofString "what") (if (Str.ofString "what").cps.isEmpty then 0 else reduceHash (w.params.strHash (Str.ofString "what").cps)) (.str (Str.ofString "what") t) v o) hD2 rfl
  refine wpAny_bind (wpAny_lookBehind hD3 (pastItsLine_dict ?_) (wpAny_pure ?_))
  · show (1 : Nat) ≤ _
    decide
  show R (.ok (.ret .none)) ⟨_, g, d, t + 1, os⟩
  refine q _ _ h.objs.size ((Heap.get?_update_other _ _ hDe).trans he2) ?_
  intro b o hb hbo
  have hb1 : h.objs.size ≠ b := Nat.ne_of_gt (Heap.lt_size hbo)
  exact (Heap.get?_update_other _ _ hb1).trans ((Heap.get?_update_other _ _ (Ne.symm hb)).trans (Heap.get?_push_of_some _ hbo))
end
end Mine
end
-- part Q45
section
open PySem PySem.W PySem.Builtin PyProof.Rows
namespace Mine

noncomputable def initBody (p1 p2 p3 p4 p5 p6 p7 p8 p9 p10 : Pos) : List Stmt :=
  [.Expr (.Call (.Attribute (.Call (.Name "super" p1) [] [] p2) "__init__" p3) [.Name "what" p4] [] p5) p6, .Assign [.Attribute (.Name "self" p7) "what" p8] (.Name "what" p9) p10]

section
variable {prog : Program} {w : World} {A : Around} {C D fI e cda cc : Addr} {E : Value → Shared → Prop} {R : Result → Shared → Prop} {h₀ h : Heap} {g : Array GenState} {d : Drawn} {t : Nat} {os : OsState}
variable {K : Frag} {p : Program} {loose : List Str} {mean : ExcName → Option Value} {mg mb : Str → Option Value} {name qual : Str} {params : Arguments} {scope : Scope} {dV kV doc pm ct oc : Value} {an od : Option Addr} {osl : Array (Option Value)}
  {cl ccl : Value} {cld ccd : Option Addr} {csl ccs : Array (Option Value)} {vs : Array Value} {file : Str} {tf : Tok}

/-- calling a machine's own thing with one operand -/
theorem call_mach {f : Value} {x : PySem.Expr} {pos : Pos} {env : Env} {s : Shared} {Q : Value → Shared → Prop} (hk : ∀ h', (∀ b o, s.heap.get? b = some o → h'.get? b = some o) → Looks (model prog w) h' (keeperOf f) .machine)
    (h : wpAny (model prog w) A (eval x env) (fun v s₁ => (∀ b o, s.heap.get? b = some o → s₁.heap.get? b = some o) ∧ wpAny (model prog w) A (call f [v]) Q E s₁) E s) (he : starEach [x] env = [(false, eval x env)]) :
    wpAny (model prog w) A (callWith pos f [] (backTo pos (starEach [x] env)) []) Q E s := by
  rw [he]
  refine callWith_of (P := fun h' => ∀ b o, s.heap.get? b = some o → h'.get? b = some o) rfl (fun h' z => ⟨.machine, .inr (.inl rfl), hk h' z⟩) ?_
  exact Calls.evalArgs_plain (Calls.spliced_cons (wpAny_mono h (fun v s₁ h₁ => Calls.spliced_nil h₁) fun _ _ z => z))

theorem evN {x : Str} {pos : Pos} {env : Env} {s : Shared} {Q : Value → Shared → Prop} (hd : (x == ("__debug__" : Str)) = false) (h : wpAny (model prog w) A (loadName env x) Q E s) : wpAny (model prog w) A (eval (.Name x pos) env) Q E s := by
  rw [PySem.eval_Name _ _ _ hd]
  exact wpAny_bind (wpAny_standAt h)

theorem meth_eq {o : PySem.Expr} {nm : Str} {apos pos : Pos} {x : PySem.Expr} {env : Env} (hp : (apos.endLine == pos.line) = true) (hf : methodCallForm 1 (backTo pos (starEach [x] env)) [] = true) :
    eval (.Call (.Attribute o nm apos) [x] [] pos) env = (do
      let ov ← attributeBase o nm env (eval o env)
      standAt apos.atName
      let (f, first) ← holding [ov] (getMethod ov nm (do return (← importBound o env).getD true))
      callWith pos f first (backTo pos (starEach [x] env)) []) := by
  rw [arm_eval_Call]
  have hf' : methodCallForm ([x].length + ([] : List Keyword).length) (backTo pos (starEach [x] env)) (backToKw pos (keywordEach [] env)) = true := hf
  have hq : methodCallPos true o env apos pos = pure pos := by unfold methodCallPos; simp [hp]
  unfold methodCall calleeOf
  simp only [hf', hq, if_true, pure_bind]
  rfl

theorem initRun {v : Value} {a1 a2 : Arg} {p1 p2 p3 p4 p5 p6 p7 p8 p9 p10 : Pos} {s : Shared} {T₁ : Addr} (X₀ : K.In h₀) (T : Top p loose mean mg mb h₀) (k₀ : ∀ b o, h₀.get? b = some o → s.heap.get? b = some o)
    (ho : K.lookup fI = some ⟨oc, od, .func (ksFn name qual params (initBody p1 p2 p3 p4 p5 p6 p7 p8 p9 p10) scope .none kV doc pm an (.ref cda) ct cc), osl⟩) (hcd : codeIn K (.ref cda) qual = true) (hroom : A.depth < recursionLimit)
    (hp : params = ⟨[], [a1, a2], none, [], [], none, []⟩) (ha1 : a1.arg = ("self" : Str)) (ha2 : a2.arg = ("what" : Str))
    (hcell : ∀ x ∈ scope.names, x.2 ≠ .cell) (hs1 : scope.names.lookup ("self" : Str) = some .local) (hs2 : scope.names.lookup ("what" : Str) = some .local) (hs3 : scope.names.lookup ("super" : Str) = some .globalImplicit) (hs4 : scope.names.lookup ("__class__" : Str) = some .free)
    (hco : scope.isCoroutine = false) (hgen : scope.isGenerator = false) (hkd : scope.kind = .function)
    (hcode : K.lookup cda = some ⟨ccl, ccd, .fields vs, ccs⟩) (hvs : vs[2]? = some (.str file tf)) (hfile : ((prog.main.file : Str) == file) = true)
    (hcel : K.lookup cc = some ⟨cl, cld, .cell (some (.ref D)), csl⟩) {cdD cdC : ClassData} (hD : clsIn K D = some cdD) (hC : clsIn K C = some cdC) (hmro : cdC.mro = [.ref C, .ref D, .type "Exception", .type "BaseException", .type "object"]) (hdict : cdC.hasDict = true)
    (hsub : mroIn K C (.ref D) = some true) (hsubE : mroIn K C (.type "Exception") = some true) (hsubO : mroIn K C (.type "object") = some true) (hCD : (Value.ref C == Value.ref D) = false) (hwhat : findIn K (.ref C) "what" = some none) (hset : findIn K (.ref C) "__setattr__" = some (some (.builtin "object.__setattr__")))
    (hopq : nsIn K cStatics "thirdparty.any" = some none) (hsuper : nsIn K mainGlobals "super" = some none) (hboot : bootBuiltins "super" = some (.type "super")) (htop : (prog.main.scope.names.lookup ("super" : Str)).isSome = false)
    (hpos : (p3.endLine == p5.line) = true) (hnew : h₀.get? e = none) (he : s.heap.get? e = some { cls := .ref C, data := .fields #[.ref T₁, .none, .none, .none, .bool false, .none] })
    (q : ∀ h' tk' dx T₂, h'.get? e = some { cls := .ref C, dict := some dx, data := .fields #[.ref T₂, .none, .none, .none, .bool false, .none] } → (∀ b o, b ≠ e → s.heap.get? b = some o → h'.get? b = some o) → R (.ok (.ret .none)) ⟨h', s.gens, s.drawn, tk', s.os⟩) :
    codeAny (model prog w) A (.call (.ref fI) ⟨[.ref e, v], []⟩) R s := by
  have X : K.In s.heap := X₀.keeps k₀
  have hno : ∀ c, (⟨.ref C, none, .fields #[.ref T₁, .none, .none, .none, .bool false, .none], #[]⟩ : Obj).data ≠ .cls c := fun c z => by cases z
  have hclsObj : ∀ {Z : Addr} {cd : ClassData}, clsIn K Z = some cd → ∃ c d sl, K.lookup Z = some ⟨c, d, .cls cd, sl⟩ := by
    intro Z cd hZ
    unfold clsIn at hZ
    split at hZ
    · rename_i c d cd' sl hz
      cases hZ
      exact ⟨_, _, _, hz⟩
    · cases hZ
  obtain ⟨c1, d1, sl1, hD1⟩ := hclsObj hD
  obtain ⟨c2, d2, sl2, hC1⟩ := hclsObj hC
  have hne : e ≠ C := by
    rintro rfl
    rw [X₀ _ _ hC1] at hnew
    cases hnew
  have hmroL : ∀ h', K.In h' → Looks (model prog w) h' (mroOf (.ref C)) [.ref C, .ref D, .type "Exception", .type "BaseException", .type "object"] := fun h' X' => hmro ▸ (fun A Q E s k q => wpAny_bind ((looks_clsIn X' hC) A _ E s k (wpAny_pure q)))
  refine ks_codeAny_call_defAt (fd := ksFn name qual params (initBody p1 p2 p3 p4 p5 p6 p7 p8 p9 p10) scope .none kV doc pm an (.ref cda) ct cc) (binds := [("self", .ref e), ("what", v)]) hroom (X _ _ ho) rfl (T.nolimit.keeps k₀) (codeRec_of X hcd) rfl
    (BindsTo.of_eq ((bind_plain (vals := [.ref e, v]) hp rfl (by simp only [List.map_cons, List.map_nil, ha1, ha2]; decide) rfl).trans (by simp only [List.map_cons, List.map_nil, ha1, ha2]; rfl))) hcell ?_ (fun h₁ hns hk₁ => ?_) hco hgen hkd
  · intro x hx
    rcases List.mem_cons.mp hx with rfl | hx
    · exact hs1
    · rcases List.mem_cons.mp hx with rfl | hx
      · exact hs2
      · cases hx
  have kk : ∀ b o, h₀.get? b = some o → h₁.get? b = some o := fun b o z => hk₁ b o (k₀ b o z)
  have X1 : K.In h₁ := X₀.keeps kk
  have he1 := hk₁ _ _ he
  have hint : interactive (ksEnv qual scope s.heap.objs.size fI (.ref cda) cc) = false := by unfold interactive; first | exact (by rw [hkd]; rfl) | simp [hkd]
  refine ks_wpAt_execs_cons (ks_wpAt_Expr_any (ks_wpAt_MethodCall ?_ (meth_eq hpos rfl)) hint)
  refine ks_wpAt_super_base (env := ksEnv qual scope s.heap.objs.size fI (.ref cda) cc) (ar := a1) hs3 hs4 rfl rfl (X1 _ _ ho) rfl ?_ rfl (X1 _ _ hcode) rfl hvs hfile htop ?_
  · show (params.posonlyargs ++ params.args).head? = some a1
    rw [hp]; rfl
  refine ks_loadName_global hkd hs3 (Calls.loadGlobal_builtin (env := ksEnv qual scope s.heap.objs.size fI (.ref cda) cc) (T.g.keeps kk) (mg_none_of X₀ T.g hsuper) (T.b.keeps kk) ((T.builtins _ (by decide +kernel)).trans hboot) ⟨rfl, ?_⟩)
  refine wpAny_loadName_free hkd hs4 rfl ⟨_, X1 _ _ hcel, rfl⟩ ?_
  rw [ha1]
  refine wpAny_loadName_local hkd hs1 hns (v := .ref e) (by kernel_rfl) ?_
  refine ks_wpAny_isType_cls (X1 _ _ hD1) rfl ⟨rfl, ?_⟩
  refine ks_wpAny_call_super (X1 _ _ hD1) rfl he1 rfl hno (looks_mroIn X1 hsub) (fun h₂ hso k₂ => ?_)
  have X2 : K.In h₂ := X1.keeps k₂
  refine superGm hso (looks_opaque X2 hopq) (hmroL _ X2) (l := [.type "BaseException", .type "object"]) ?_ (k₂ _ _ he1) rfl (looks_mroIn X2 hsubE) hne ?_
  · have h1 : (Value.ref C != Value.ref D) = true := by unfold bne; rw [hCD]; rfl
    have h2 : (Value.ref D != Value.ref D) = false := by unfold bne; rw [beq_self_eq_true]; rfl
    rw [List.dropWhile_cons, if_pos h1, List.dropWhile_cons, if_neg (by rw [h2]; decide)]
    rfl
  have hmw : (h₂.push { cls := .type "method-wrapper", data := .fields #[.builtin "Exception.__init__", .ref e] }).get? h₂.objs.size = some { cls := .type "method-wrapper", data := .fields #[.builtin "Exception.__init__", .ref e] } := Heap.get?_push_at rfl rfl
  have k₃ : ∀ b o, h₂.get? b = some o → (h₂.push { cls := .type "method-wrapper", data := .fields #[.builtin "Exception.__init__", .ref e] }).get? b = some o := fun b o z => Heap.get?_push_of_some _ z
  have X3 := X2.keeps k₃
  have hns3 := (hns.keeps k₂).keeps k₃
  have he3 := k₃ _ _ (k₂ _ _ he1)
  refine call_mach (fun h' z => (Looks.ld (part := none) (z _ _ hmw)).andThen .now) (evN (by decide) (wpAny_loadName_local hkd hs2 hns3 (v := v) (by kernel_rfl) ⟨fun b o z => z, ?_⟩)) rfl
  refine wrapCall hmw he3 (looks_mroIn X3 hsubE) (X3 _ _ hC1) ?_
  have hmwt : ((h₂.push { cls := .type "method-wrapper", data := .fields #[.builtin "Exception.__init__", .ref e] }).push { cls := .type "tuple", data := .seq #[v] }).get? e = some { cls := .ref C, data := .fields #[.ref T₁, .none, .none, .none, .bool false, .none] } := Heap.get?_push_of_some _ he3
  obtain ⟨h₄, hh4⟩ : ∃ h₄, h₄ = ((h₂.push { cls := .type "method-wrapper", data := .fields #[.builtin "Exception.__init__", .ref e] }).push { cls := .type "tuple", data := .seq #[v] }).update e (Obj.mapFields (·.setIfInBounds 0 (.ref (h₂.push { cls := .type "method-wrapper", data := .fields #[.builtin "Exception.__init__", .ref e] }).objs.size))) := ⟨_, rfl⟩
  rw [← hh4]
  have he4 : h₄.get? e = some { cls := .ref C, data := .fields #[.ref (h₂.push { cls := .type "method-wrapper", data := .fields #[.builtin "Exception.__init__", .ref e] }).objs.size, .none, .none, .none, .bool false, .none] } := hh4 ▸ Heap.get?_update_self _ hmwt rfl
  have k₄ : ∀ b o, b ≠ e → h₁.get? b = some o → h₄.get? b = some o := fun b o hb z => hh4 ▸ (Heap.get?_update_other _ _ (Ne.symm hb)).trans (Heap.get?_push_of_some _ (k₃ _ _ (k₂ _ _ z)))
  have kb : ∀ b o, h₀.get? b = some o → h₄.get? b = some o := fun b o z => k₄ b o (fun q => by rw [q, hnew] at z; cases z) (kk b o z)
  have X4 : K.In h₄ := X₀.keeps kb
  have hns4 : h₄.Ns s.heap.objs.size (fun x => [(("self" : Str), Value.ref e), (("what" : Str), v)].reverse.lookup x) := by
    obtain ⟨oL, es, ep, hL, r⟩ := hns
    exact ⟨oL, es, ep, k₄ _ _ (Ne.symm (Nat.ne_of_lt (Heap.lt_size he))) hL, r⟩
  clear hh4 hmwt
  show PySem.wpAt _ _ _ (execs _ _) _ _ _
  refine ks_wpAt_execs_cons (ks_wpAt_Assign_Attr ?_)
  refine wpAt_of_wpAny (evN (by decide) (wpAny_loadName_local hkd hs2 hns4 (v := v) (by kernel_rfl) ?_))
  refine evN (by decide) (wpAny_loadName_local hkd hs1 hns4 (v := .ref e) (by kernel_rfl) ?_)
  have te : Looks (model prog w) h₄ (typeOf (.ref e)) (.ref C) := (Looks.ld he4).andThen .now
  have SF := PySem.F.store_object
  unfold setAttr
  refine wpAny_bind (wpAny_mkText ?_)
  refine wpAny_bind ?_
  unfold callSpecial? specialOf
  refine wpAny_bind (wpAny_bind (te.at ((looks_findIn X4 hset).at ?_)))
  dsimp only
  refine wpAny_holding (wpAny_bind (wpAny_of_eq (SF.slot.bind _) ?_))
  show wpAny _ _ (call (.builtin "object.__setattr__") [.ref e, .str ("what" : Str) _, v] [] >>= _) _ _ _
  refine wpAny_bind (wpAny_call ?_)
  refine setWhat he4 (hmroL _ X4) (looks_mroIn X4 hsubO) (looks_findIn X4 hwhat) (looks_clsIn X4 hC) hdict ?_
  intro h₅ tk dx he5 k₅
  refine wpAny_pure ?_
  refine wpAny_pure ?_
  show PySem.wpAt _ _ _ (execs [] _) _ _ _
  rw [execs_nil]
  refine wpAt_of_wpAny (wpAny_pure ?_)
  exact q h₅ _ dx _ he5 fun b o hb z => k₅ b o hb (k₄ b o hb (hk₁ b o z))
end
end Mine
end
-- part Q46
section
open PySem PySem.W PyProof.Rows
namespace Mine

section
variable {prog : Program} {w : World} {A : Around} {C D fI e cda cc : Addr} {h : Heap} {K : Frag}

theorem made_in {c : Value} {l : List Value} {oc : Value} {od : Option Addr} {dt : Data} {sl : Array (Option Value)} {n : String} (X : K.In h) (ho : K.lookup C = some ⟨oc, od, dt, sl⟩) (h4 : sl[4]? = some (some (.builtin n)))
    (mro : Looks (model prog w) h (mroOf (.ref C)) (c :: l)) : Looks (model prog w) h (Bind.madeBy (.ref C)) (some n) := by
  intro A Q E s k q
  have hs : (({ cls := oc, dict := od, data := dt, slots := sl } : Obj).slots[4]?).join = some (.builtin n) := by show (sl[4]?).join = _; rw [h4]; rfl
  unfold Bind.madeBy slotAt
  refine wpAny_bind (mro A _ E s k ?_)
  simp only [List.forIn_cons]
  refine wpAny_bind (wpAny_bind ?_)
  refine wpAny_bind (wpAny_bind (wpAny_loadPart (k _ _ (X _ _ ho)) (wpAny_pure ?_)))
  rw [hs]
  exact wpAny_pure (wpAny_pure (wpAny_pure q))

theorem stat_in {c : Value} {l : List Value} {n : String} (made : Looks (model prog w) h (Bind.madeBy (.ref C)) (some n)) (mro : Looks (model prog w) h (mroOf (.ref C)) (c :: l)) : Looks (model prog w) h (Bind.staticBase (.ref C)) (.ref C) := by
  intro A Q E s k q
  unfold Bind.staticBase
  refine wpAny_bind (mro A _ E s k ?_)
  simp only [List.forIn_cons]
  refine wpAny_bind (wpAny_bind ?_)
  refine wpAny_bind (made A _ E s k ?_)
  exact wpAny_pure (wpAny_pure (wpAny_pure q))

noncomputable def mkIn (K : Frag) (C fI : Addr) : Bool := clsFIn K C && instIn K (.ref C) (.type "type") == some true && mroIn K C (.type "Exception") == some true && mroIn K C (.type "AttributeError") == some false && mroIn K C (.type "NameError") == some false &&
  findIn K (.ref C) "__init__" == some (some (.ref fI)) && typeIn K (.ref fI) == some (.type "function")

theorem mkF_of {cd : ClassData} {c : Value} {l : List Value} {oc : Value} {od : Option Addr} {sl : Array (Option Value)} (X : K.In h) (ho : K.lookup C = some ⟨oc, od, .cls cd, sl⟩) (h4 : sl[4]? = some (some (.builtin "Exception.__new__"))) (hdel : cd.hasDel = false)
    (hm : cd.mro = c :: l) (e : mkIn K C fI = true) : MkF (model prog w) h C fI := by
  unfold mkIn at e
  simp only [Bool.and_eq_true, beq_iff_eq] at e
  obtain ⟨⟨⟨⟨⟨⟨e1, e2⟩, e3⟩, e4⟩, e5⟩, e6⟩, e7⟩ := e
  have hC : clsIn K C = some cd := by unfold clsIn; rw [ho]
  have mro : Looks (model prog w) h (mroOf (.ref C)) (c :: l) := hm ▸ (fun A Q E s k q => wpAny_bind ((looks_clsIn X hC) A _ E s k (wpAny_pure q)))
  have made := made_in X ho h4 mro
  exact ⟨clsF_of X e1, ⟨_, mro, rfl⟩, ⟨oc, od, cd, sl, X _ _ ho, hdel⟩, made, stat_in made mro, looks_mroIn X e3, looks_mroIn X e4, looks_mroIn X e5, looks_instIn X e2, looks_findIn X e6, fun self => bind_fn X self e7⟩
end

section
variable {prog : Program} {w : World} {C D fI cda cc : Addr} {K : Frag} {G : GT} {stack : List Env}
variable {p : Program} {loose : List Str} {mean : ExcName → Option Value} {mg mb : Str → Option Value} {name qual : Str} {params : Arguments} {scope : Scope} {kV doc pm ct oc : Value} {an od : Option Addr} {osl : Array (Option Value)}
  {cl ccl co : Value} {cld ccd cod : Option Addr} {csl ccs cosl : Array (Option Value)} {vs : Array Value} {file : Str} {tf : Tok} {a1 a2 : Arg} {p1 p2 p3 p4 p5 p6 p7 p8 p9 p10 : Pos}

theorem excC_of {d : Nat} (X₀ : K.In G.base) (T : Top p loose mean mg mb G.base)
    (ho : K.lookup fI = some ⟨oc, od, .func (ksFn name qual params (initBody p1 p2 p3 p4 p5 p6 p7 p8 p9 p10) scope .none kV doc pm an (.ref cda) ct cc), osl⟩) (hcd : codeIn K (.ref cda) qual = true)
    (hp : params = ⟨[], [a1, a2], none, [], [], none, []⟩) (ha1 : a1.arg = ("self" : Str)) (ha2 : a2.arg = ("what" : Str))
    (hcell : ∀ x ∈ scope.names, x.2 ≠ .cell) (hs1 : scope.names.lookup ("self" : Str) = some .local) (hs2 : scope.names.lookup ("what" : Str) = some .local) (hs3 : scope.names.lookup ("super" : Str) = some .globalImplicit) (hs4 : scope.names.lookup ("__class__" : Str) = some .free)
    (hco : scope.isCoroutine = false) (hgen : scope.isGenerator = false) (hkd : scope.kind = .function)
    (hcode : K.lookup cda = some ⟨ccl, ccd, .fields vs, ccs⟩) (hvs : vs[2]? = some (.str file tf)) (hfile : ((prog.main.file : Str) == file) = true)
    (hcel : K.lookup cc = some ⟨cl, cld, .cell (some (.ref D)), csl⟩) {cdD cdC : ClassData} (hD : clsIn K D = some cdD) (hCo : K.lookup C = some ⟨co, cod, .cls cdC, cosl⟩) (h4 : cosl[4]? = some (some (.builtin "Exception.__new__"))) (hdel : cdC.hasDel = false)
    (hmro : cdC.mro = [.ref C, .ref D, .type "Exception", .type "BaseException", .type "object"]) (hdict : cdC.hasDict = true)
    (hsub : mroIn K C (.ref D) = some true) (hsubE : mroIn K C (.type "Exception") = some true) (hsubO : mroIn K C (.type "object") = some true) (hCD : (Value.ref C == Value.ref D) = false) (hwhat : findIn K (.ref C) "what" = some none) (hset : findIn K (.ref C) "__setattr__" = some (some (.builtin "object.__setattr__")))
    (hopq : nsIn K cStatics "thirdparty.any" = some none) (hsuper : nsIn K mainGlobals "super" = some none) (hboot : bootBuiltins "super" = some (.type "super")) (htop : (prog.main.scope.names.lookup ("super" : Str)).isSome = false)
    (hpos : (p3.endLine == p5.line) = true) (hmk : mkIn K C fI = true) (htf : G.tf = C) : ExcC prog w G stack (d + 5) := by
  have hC : clsIn K C = some cdC := by unfold clsIn; rw [hCo]
  have hcls : ∀ {h'}, G.base.StaysIn h' → ClsF (model prog w) h' C := fun st => clsF_of (X₀.keeps st) (by unfold mkIn at hmk; simp only [Bool.and_eq_true] at hmk; exact hmk.1.1.1.1.1.1)
  subst htf
  refine ⟨fun A e oe s Q E st he hc q => mat_cls (hcls st) he hc q, fun A s Q E st q => kpr_cls (hcls st) q, ?_, ?_⟩
  · intro A ar s M σ x t Q E st ff R q
    obtain ⟨h, g, dr, tk, os⟩ := s
    have X : K.In h := X₀.keeps st
    have F : MkF (model prog w) h G.tf fI := mkF_of X hCo h4 hdel hmro hmk
    refine cal_made F (rest := [.str x t]) (show 1 ≤ sizeLine by decide) ?_
    have kp : ∀ b o, h.get? b = some o → ((h.push { cls := .type "tuple", data := .seq [Value.str x t].toArray }).push { cls := .ref G.tf, data := .fields #[.ref h.objs.size, .none, .none, .none, .bool false, .none] }).get? b = some o := fun b o z => Heap.get?_push_of_some _ (Heap.get?_push_of_some _ z)
    have hfresh : h.get? (h.objs.size + 1) = none := by
      exact Heap.get?_none_of_le (Nat.le_succ _)
    have hb : G.base.get? (h.objs.size + 1) = none := by
      cases z : G.base.get? (h.objs.size + 1) with
      | none => rfl
      | some o => rw [st _ _ z] at hfresh; cases hfresh
    refine initRun X₀ T (fun b o z => kp b o (st b o z)) ho hcd ?_ hp ha1 ha2 hcell hs1 hs2 hs3 hs4 hco hgen hkd hcode hvs hfile hcel hD hC hmro hdict hsub hsubE hsubO hCD hwhat hset hopq hsuper hboot htop hpos hb (by heap_get) ?_
    · have := ar.room
      have hw : (Code.builtin "type.__call__" ⟨[.ref G.tf, .str x t], []⟩).weight = 1 := by kernel_rfl
      show A.depth + (Code.builtin "type.__call__" ⟨[.ref G.tf, .str x t], []⟩).weight < recursionLimit
      omega
    · intro h' tk' dx T₂ he' kk
      have kall : ∀ b o, h.get? b = some o → h'.get? b = some o := fun b o z => kk b o (fun e => by rw [e, hfresh] at z; cases z) (kp b o z)
      refine ⟨rfl, q _ h' tk' M _ _ (Step.of_keeps st kall) (R.ofKeeps kall) he' rfl rfl rfl hfresh ?_⟩
      exact R.live.fresh hfresh
  · intro A env s x Q E hh hx
    exact rai_cls hh (wpAny_mono hx (fun v s₁ ⟨e, oe, vs, z1, z2, z3, z4, z5, z6, z7⟩ => ⟨e, oe, vs, z1, hcls z2, z3, z4, z5, z6, z7⟩) fun _ _ z => z)
end
end Mine
end
-- part Top01
section
open PySem PySem.W PyProof.Rows
namespace Mine
abbrev p01 : Program := PySem.Challenge.rw_pq0034_01.prog
noncomputable def view01 : Program :=
  (fun {a0 a1 a2 a3 a4 a5 a6 a7 a8 a9 a10 a11 a12 a13 a14 a15 a16 a17 a18 a19 a20 a21 a22 a23 a24 a25 a26 a27 a28 a29 a30 a31 a32 a33 : Stmt} (_ : p01.main.body = [a0, a1, a2, a3, a4, a5, a6, a7, a8, a9, a10, a11, a12, a13, a14, a15, a16, a17, a18, a19, a20, a21, a22, a23, a24, a25, a26, a27, a28, a29, a30, a31, a32, a33]) => ({ p01 with main := { p01.main with body := [a1, a2, a4, a5, a7, a8, a9, a10, a11, a12, a13, a14, a15, a16, a17, a18, a19, a21, a22, a23, a24, a25, a26, a27, a28, a29, a30, a31, a32, a33] } } : Program)) rfl
abbrev r01 : OpenRow := OpenLaw.row PySem.Challenge.rw_pq0034_01
theorem head01 {H : Hook} (said : r01.wellSaid = true) {d : DefRec} {kwd : List (Str × Expr)} (hl : LeftO p01 view01 [] (fun s => xlAt view01 [] s && recOk (RowW.records (OpenRow.toRowW r01)) s) (Hook.obs H) (Hook.val H) 3000)
    (hdef : PySem.W.defOf view01 r01.name = some (d, kwd)) (hp : r01.prog.theDef r01.name = some (d.params, d.body, d.scope)) (hk : kwWritten? d.params.kwonlyargs d.params.kw_defaults = some kwd) (hw : r01.toRowW.promised)
    (hc : WalkO view01 [] (XL view01 []) (Hook.says H) r01.toRowW d kwd fun f vs => PySem.call f vs) : r01.Holds :=
  holds_open (q := view01) (loose := []) (Xt := fun s => xlAt view01 [] s && recOk (RowW.records (OpenRow.toRowW r01)) s) (XP := XL view01 []) (Yf := Hook.obs H) (Ya := Hook.val H) (YP := Hook.says H) (N := 3000) hl (Hook.of H) (Hook.keeps H) (fun s e => xl_of s (Bool.and_eq_true_iff.mp e).1) XL.keeps hdef hp hk (fun s e => recFacts_of (Bool.and_eq_true_iff.mp e).2) (by rfl) said (by decide +kernel) ⟨rfl, rfl, rfl, rfl, rfl, by decide +kernel⟩ hw hc
local macro_rules | `(tactic| o_head $H) => `(tactic| (refine head01 (H := $H) (by assumption) ?hl (by rfl) (by rfl) (by rfl) ?hw ?hc; case hl => (intro w; kernel_rfl)))
theorem said01 : PySem.Challenge.rw_pq0034_01.wellSaid = true := by kernel_rfl
local macro_rules | `(tactic| o_law) => `(tactic| refine holds_law said01 fun said => ?_)
open_top hd1 for PySem.Challenge.rw_pq0034_01
end Mine
end
-- part Q47
section
open PySem PySem.W PyProof.Rows
namespace Mine

noncomputable def names01 : List Str := ["part_at", "replaced", "is_row_of", "number_behind", "index_of", "variable", "below", "moved_within", "shifted", "put_in", "is_redex", "beta", "is_closed_below", "is_closed", "_law_coin", "_law_var", "_law_row", "_law_lams", "_law_numeral", "_law_plus", "_law_sum", "_law_counted", "_law_places", "_law_is_lam_app", "_law_is_refused", "_law_is_kept", "law"]
noncomputable def gs01 : List (Str × Str) := [("FIGURES", "0123456789")]
noncomputable def mu01 : List (Nat × Nat) := [(111,69),(138,18)]
noncomputable def fn01 (x : Str) : Fn := (mkFn PySem.Challenge.pw_pq0034_01.main.body names01 gs01 mu01 1000 x).getD ⟨0, [], 0, ⟨.function, [], false, false, []⟩, []⟩
noncomputable def W01 : Wc := ⟨names01, gs01⟩
noncomputable def L01 : List Fn := names01.map fn01
noncomputable def recAt (x : Str) : List DefRec → Option DefRec
  | [] => none
  | r :: l => if r.name = x then some r else recAt x l
theorem recAt_mem {x : Str} : ∀ {l : List DefRec} {r : DefRec}, recAt x l = some r → r ∈ l ∧ r.name = x
  | [], r, e => by cases e
  | q :: l, r, e => by
    unfold recAt at e
    split at e
    · rename_i h; cases e; exact ⟨.head _, h⟩
    · exact ⟨.tail _ (recAt_mem e).1, (recAt_mem e).2⟩

theorem agrees_of {p : Program} {x : Str} {F : Fn} (b : List Stmt) (sc : Scope) (h : (recAt x (recsOf p)).map (fun r => (r.body, r.scope)) = some (toSs F.body, F.sc))
    (h2 : (recAt x (recsOf p)).map (fun r => (plainOf r.params, F.tab.take F.k, F.k)) = (recAt x (recsOf p)).map (fun r => (true, r.params.args.map (·.arg), r.params.args.length))) : agrees p x F := by
  cases e : recAt x (recsOf p) with
  | none => rw [e] at h; cases h
  | some r =>
    rw [e] at h h2
    simp only [Option.map_some, Option.some.injEq, Prod.mk.injEq] at h h2
    obtain ⟨m, n⟩ := recAt_mem e
    exact ⟨r, m, n, h.1, h.2, h2.1, h2.2.1, h2.2.2⟩
theorem same01 : names01.map (fun x => (recAt x (recsOf view01)).map fun r => (r.body, r.scope)) = names01.map (fun x => some (toSs (fn01 x).body, (fn01 x).sc)) := by kernel_rfl
theorem args01 : names01.map (fun x => (recAt x (recsOf view01)).map fun r => (plainOf r.params, (fn01 x).tab.take (fn01 x).k, (fn01 x).k)) = names01.map (fun x => (recAt x (recsOf view01)).map fun r => (true, r.params.args.map (·.arg), r.params.args.length)) := by kernel_rfl
theorem wf01 : (names01.all fun x => wfFn names01 gs01 (fn01 x)) = true := by decide +kernel
theorem all01 : ∀ q ∈ names01.map (fun x => (x, fn01 x)), agrees view01 q.1 q.2 ∧ wfFn W01.fn W01.gs q.2 = true := by
  intro q hq
  obtain ⟨x, hx, rfl⟩ := List.mem_map.mp hq
  exact ⟨agrees_of [] default (List.map_inj_left.mp same01 x hx) (List.map_inj_left.mp args01 x hx), List.all_eq_true.mp wf01 x hx⟩
theorem lam01 : (names01.all fun x => decide ((fn01 x).tab = lamTab → x = "_law_places")) = true := by decide +kernel
end Mine
end
-- part Q48
section
open PySem PySem.W PyProof.Rows
namespace Mine

abbrev tabs01 : List (Addr × Addr) := [(205, 203)]
section
variable {w : World} {h : Heap} {loose : List Str} {mean : ExcName → Option Value} {mg mb : Str → Option Value}
theorem tabs_at (X : (hd1.heap_1 w.params).In h) (hP : ∀ P ∈ [203], h.get? P = some (tabObj #[])) : TabsAt tabs01 h := fun q m => by
  rw [List.mem_singleton.mp m]
  exact ⟨codeHd_of_K X (by kernel_rfl), hP 203 (.head _)⟩
theorem in01 (X : (hd1.heap_1 w.params).In h) (hT : TabsAt tabs01 h) : (hd1.heap_1 w.params).In (ghostOf h tabs01) := ghost_K hT X (by kernel_rfl)

theorem exc01 {fns : List (Str × Addr)} (X : (hd1.heap_1 w.params).In h) (hT : TabsAt tabs01 h) (T : Top view01 loose mean mg mb h) (d : Nat) (stack : List Env) :
    ExcC PySem.Challenge.pw_pq0034_01 w ⟨ghostOf h tabs01, fns, gs01, 53⟩ stack (d + 5) := by
  refine excC_of (G := ⟨ghostOf h tabs01, fns, gs01, 53⟩) (C := 53) (D := 40) (fI := 30) (cda := 29) (cc := 18) (in01 X hT) (ghost_top hT T) (by rfl) (by kernel_rfl) (by rfl) (by rfl) (by rfl) (by decide +kernel) (by kernel_rfl) (by kernel_rfl) (by kernel_rfl) (by kernel_rfl) (by kernel_rfl) (by kernel_rfl) (by kernel_rfl)
    (by rfl) (by rfl) (by kernel_rfl) (by rfl) (by rfl) (by rfl) (by rfl) (by rfl) (by rfl) (by rfl) (by kernel_rfl) (by kernel_rfl) (by kernel_rfl) (by kernel_rfl) (by kernel_rfl) (by kernel_rfl) (by kernel_rfl) (by kernel_rfl) (by kernel_rfl) (by kernel_rfl) (by rfl) (by kernel_rfl) rfl

theorem lam_at (X : (hd1.heap_1 w.params).In h) (T : Top view01 loose mean mg mb h) : LamAt mg h "_law_places" (fn01 "_law_places") := fun _ => ⟨by rfl, fun a o fd ha ho hd => by
  have e1 : mg "_law_places" = some (.ref 206) := mg_of X T.g (by kernel_rfl)
  rw [ha] at e1; cases e1
  have e2 : ((hd1.heap_1 w.params).lookup 206).map (fun o => match o.data with | .func fd => fd.code | _ => Value.none) = some (.ref 205) := by kernel_rfl
  cases q : (hd1.heap_1 w.params).lookup 206 with
  | none => rw [q] at e2; exact nomatch e2
  | some o' =>
    rw [q] at e2
    have e3 := X _ _ q
    rw [ho] at e3; cases e3
    have e4 := Option.some.inj e2
    dsimp only at e4
    rw [hd] at e4
    exact e4⟩
theorem glo01 (X : (hd1.heap_1 w.params).In h) (hT : TabsAt tabs01 h) (T : Top view01 loose mean mg mb h) : ∃ fns : List (Str × Addr), fns.map (·.1) = names01 ∧ Glo ⟨ghostOf h tabs01, fns, gs01, 53⟩ mg mb ∧
    ∀ (f : Nat) (x : Str) (a : Addr) (F : Fn), fns[f]? = some (x, a) → L01[f]? = some F → FnOk ⟨ghostOf h tabs01, fns, gs01, 53⟩ W01 F a := by
  obtain ⟨fns, h1, h2⟩ := fns_top (W := W01) T hT (l := names01.map (fun x => (x, fn01 x))) fun q m => by
    obtain ⟨a, b⟩ := all01 q m
    obtain ⟨x, hx, rfl⟩ := List.mem_map.mp m
    refine ⟨a, b, fun e => ?_⟩
    have := of_decide_eq_true (List.all_eq_true.mp lam01 x hx) e
    subst this
    exact lam_at X T e
  have e1 : (names01.map (fun x => (x, fn01 x))).map (·.1) = names01 := by rw [List.map_map]; exact List.map_id _
  have e2 : (names01.map (fun x => (x, fn01 x))).map (·.2) = L01 := by rw [List.map_map]; rfl
  rw [e1] at h1
  rw [e2] at h2
  have some_ : ∀ (f : Nat) (x : Str) (a : Addr), fns[f]? = some (x, a) → ∃ F, L01[f]? = some F := by
    intro f x a e
    have hl : fns.length = L01.length := by rw [← List.length_map (f := (·.1)), h1]; exact (List.length_map _).symm
    exact ⟨_, List.getElem?_eq_getElem (hl ▸ (List.getElem?_eq_some_iff.mp e).1)⟩
  have T' := ghost_top hT T
  refine ⟨fns, h1, ⟨T'.g, T'.b, T'.nolimit, fun f x a e => ?_, fun f x a e => ?_, fun x v e => ?_, fun b => ?_, ?_, codeHd_of_K (in01 X hT) (by kernel_rfl), ?_⟩, fun f x a F e eF => ((h2 f x a F e eF).2 _ rfl).2⟩
  · obtain ⟨F, eF⟩ := some_ f x a e
    exact (h2 f x a F e eF).1
  · obtain ⟨F, eF⟩ := some_ f x a e
    exact ((h2 f x a F e eF).2 ⟨ghostOf h tabs01, fns, gs01, 53⟩ rfl).1
  · cases List.mem_singleton.mp e
    exact ⟨_, mg_of X T.g (by rfl)⟩
  · cases b <;> exact ⟨mg_none_of X T.g (by kernel_rfl), (T.builtins _ (by decide +kernel)).trans (by kernel_rfl)⟩
  · exact mg_of X T.g (by kernel_rfl)
  · obtain ⟨bm, ob, b1, b2, b3, b4, b5, b6⟩ := T.bmain
    have g := ghost_get (tabs := tabs01) hT b3 (fun q => by rw [q] at b4; cases b4)
    refine ⟨bm, ob, b1, b2, fun q => ?_, fun q => ?_, g, b4, b5, b6⟩
    · obtain ⟨o, es, ep, e, hd, _⟩ := T.g
      rw [q, e] at b3; cases b3; rw [hd] at b6; cases b6
    · rw [q] at g
      exact sn g (hideAll_none _ (.head _))
end
end Mine
end
-- part Q49
section
open PySem PySem.W PyProof.Rows
namespace Mine

section
variable {w : World} {h : Heap} {loose : List Str} {mean : ExcName → Option Value} {mg mb : Str → Option Value}

theorem ints_rvs {h : Heap} {M : Mem} : ∀ {vs : List Value} {ns : List Int}, IntsAre vs ns → RVs h M (ns.map .int) vs
  | _, _, .nil => .nil
  | _, _, .cons n t x => .cons _ _ _ _ (.int n t) (ints_rvs x)

/-- what the plain law has to say -/
noncomputable def LawOk (ns : List Int) : Prop := (phi L01 500 26 [.lst (ns.map .int)] [.tbl]).wp (fun v σ' => v = .bool true ∧ tblOk σ' = true) (fun _ => False)
theorem law_run {A : Around} {fa l : Addr} {s : Shared} {vs : List Value} {ns : List Int} {R : Result → Shared → Prop} (X : (hd1.heap_1 w.params).In s.heap) (hT : TabsAt tabs01 s.heap) (T : Top view01 loose mean mg mb s.heap) (ar : Ar A [] (499 + 1 + 5)) (hfa : mg "law" = some (.ref fa))
    (hl : IsL s.heap l vs.toArray 0) (hi : IntsAre vs ns) (hphi : LawOk ns)
    (q : ∀ h' tk, (ghostOf s.heap tabs01).StaysIn h' → (∃ ps, h'.get? 203 = some (tabObj ps)) → R (.ok (.ret (.bool true))) { s with heap := h', toks := tk }) : codeAny (model PySem.Challenge.pw_pq0034_01 w) A (.call (.ref fa) ⟨[.ref l], []⟩) R s := by
  obtain ⟨fns, h1, g, ok⟩ := glo01 X hT T
  have hlen : fns.length = 27 := by rw [← List.length_map (f := (·.1)), h1]; rfl
  obtain ⟨⟨x, a⟩, hx⟩ : ∃ q, fns[26]? = some q := ⟨_, List.getElem?_eq_getElem (by rw [hlen]; decide)⟩
  have hx' : x = ("law" : Str) := by
    have : (fns.map (·.1))[26]? = some x := by rw [List.getElem?_map, hx]; rfl
    rw [h1] at this
    exact (Option.some.inj this).symm
  subst hx'
  have ha : a = fa := by
    have := (g.fn 26 _ a hx).symm.trans hfa
    cases this; rfl
  subst ha
  have hF : L01[26]? = some (fn01 "law") := by rfl
  have F := ok 26 _ a _ hx hF
  have hk : (fn01 "law").k = 1 := by kernel_rfl
  have hP := (hT _ (.head _)).2
  have hlP : l ≠ 203 := fun e => by
    rw [e] at hl
    have := congrArg Obj.cls (Option.some.inj (hl.symm.trans hP))
    exact nomatch this
  have hb : (ghostOf s.heap tabs01).StaysIn s.heap := fun _ _ e => of_hideAll _ e
  have R₀ : StR PySem.Challenge.pw_pq0034_01 w (ghostOf s.heap tabs01) s.heap ⟨[203], []⟩ [.tbl] := by
    refine ⟨rfl, List.nodup_cons.mpr ⟨(fun m => nomatch m), List.nodup_nil⟩, (fun a m => nomatch m), fun a m => ?_, fun k c a e e' => ?_, fun a _ m => nomatch m⟩
    · rcases m with m | m
      · rw [List.mem_singleton.mp m]; exact hideAll_none _ (.head _)
      · exact nomatch m
    · cases k with
      | zero => cases e; cases e'; exact TblC.new rfl hP
      | succ k => exact nomatch e
  have e : phi L01 500 26 [.lst (ns.map .int)] [.tbl] = evF (phi L01 499) (fn01 "law").fuel (fn01 "law").tab.length (fn01 "law").body [.lst (ns.map .int)] [.tbl] := by
    show (match L01[26]? with
      | some F => if [PV.lst (ns.map .int)].length = F.k then evF (phi L01 499) F.fuel F.tab.length F.body [.lst (ns.map .int)] [.tbl] else .bad
      | none => .bad) = _
    rw [hF]
    dsimp only
    rw [if_pos (show [PV.lst (ns.map .int)].length = (fn01 "law").k from hk.symm)]
  unfold LawOk at hphi
  rw [e] at hphi
  refine call_code (G := ⟨ghostOf s.heap tabs01, fns, gs01, 53⟩) (M := ⟨[203], []⟩) (args := [.lst (ns.map .int)]) (σ := [.tbl]) (Φ := phi L01 499) (stack := []) g.lim ⟨mg, mb, g⟩ h1 rfl F (fun st => exc01 X hT T 499 st) (fun st => callee_all g.lim ⟨mg, mb, g⟩ h1 rfl ok (fun d st => exc01 X hT T d st) 499 st) ar hb (fun env he => nomatch he) R₀ (.cons _ _ _ _ (.lst _ _ _ _ hl ?_ (ints_rvs hi)) .nil) hk.symm (Res.wp_mono (fun v σ' p u h' tk M' st R' rv => ?_) (fun σ' p => p.elim) hphi)
  · rintro (m | m)
    · exact hlP (List.mem_singleton.mp m)
    · exact nomatch m
  · obtain ⟨rfl, tok⟩ := p
    cases rv
    obtain ⟨_, _, x⟩ := StR.tblc (s := { s with heap := h' }) R' tok
    exact q h' tk st.stay (by rcases x with ⟨_, e⟩ | ⟨c, oc, vs, t, _, e, _⟩ <;> exact ⟨_, e⟩)
end
end Mine
end
-- part Q50
section
open PySem PySem.W PyProof.Rows
namespace Mine
theorem holds01 (H : ∀ ns : List Int, ns.length ≤ 63 → LawOk ns) : PySem.Challenge.rw_pq0034_01.Holds := hd1 (by
  k_fill
  intro w s₀ s₁ mg mb G Y fa o pm cd doc dV kV ho hd hcd hD hmg hg args vals as hpre hlay hrd hwl hlo
  have KX := km_in_of Y
  have KT := km_tabs_of Y
  have X := (Ground.X G).1
  have V := (Ground.X G).2
  refine Ground.open G ?_
  intro T B D TE TW
  try (refine guard_noD D (by decide +kernel) ?_; clear D)
  have TA := at_of_top T
  have hT9 := tabs_at KX KT
  wrow_args hpre hlay hrd hwl hlo
  all_goals (
    first | refine callC_kw (enter_call ?_) | refine enter_call ?_ | refine callC_kw (enter_callW ?_) | refine enter_callW ?_ | w_how
    w_top on)
  rename_i ns hs hlay0 hL1 hr1 hl2 b4 b3 l vs b0 hL ra w1 r0 hI hr hc hc2
  have hlen : ns.length ≤ 63 := by omega
  have hl : IsL s₁.heap l vs.toArray 0 := by
    cases w1 with
    | list e _ =>
      obtain ⟨o, ho, _, n, hn⟩ := hL
      rw [e] at ho
      cases ho
      have := hn
      simp only [Data.seq.injEq] at this
      rw [← this.1]
      exact e
  refine kn_post hT9 (fun _ _ => rfl) ?_
  refine law_run KX hT9 T ⟨rfl, rfl, by decide, by decide⟩ hmg hl hI (H ns hlen) fun h' tk st hP => ?_
  refine ⟨⟨.inl ⟨_, .bool true, [], rfl, ?_, .bool true, ?_, ?_⟩, st, rfl, hg⟩, hP, trivial⟩
  · intro cls; rfl
  · kernel_rfl
  · intro _; exact ⟨List.nodup_nil, fun a m => (by cases m)⟩)
end Mine
end
-- part P1
section
open PySem PySem.W
namespace Mine

theorem Res.bind_assoc {α β γ : Type} {f : α → St → Res β} {g : β → St → Res γ} : ∀ {r : Res α}, (r.bind f).bind g = r.bind fun a σ => (f a σ).bind g
  | .ok _ _ => rfl
  | .exc _ => rfl
  | .bad => rfl
  | .any P h => congrArg (Res.any P) (funext fun l => Res.bind_assoc (r := h l))
/-- a choice of ways -/
noncomputable def br {α : Type} (b : Bool) (x y : α) : α := match b with
  | true => x
  | false => y
/-- behind a comprehension's turns -/
noncomputable def cmpR {β : Type} (r : Res (List PV)) (k : List PV → St → Res β) : Res β := match r with
  | .ok ys σ => k ys σ
  | .exc σ => .exc σ
  | .bad => .bad
  | .any _ _ => .bad
mutual
/-- the evaluator with what comes behind -/
noncomputable def kE (Φ : Phi) {β : Type} : PE → Vars → St → (PV → St → Res β) → Res β
  | .cst c _ _, _, σ, k => match c with
    | .none => k .none σ
    | .bool b => k (.bool b) σ
    | .int i => k (.int i) σ
    | .str s => k (.str s) σ
    | _ => .bad
  | .var i _ _, ρ, σ, k => wit (vget ρ i) fun z => k z σ
  | .gst v _ _, _, σ, k => k (.str v) σ
  | .bin a op b _, ρ, σ, k => kE Φ a ρ σ fun x σ => kE Φ b ρ σ fun y σ => wit (bin op x y) fun z => k z σ
  | .boo op vs _, ρ, σ, k => kB Φ op vs ρ σ k
  | .nt e _, ρ, σ, k => kE Φ e ρ σ fun v σ => asBool v fun b => k (.bool (!b)) σ
  | .neg e _, ρ, σ, k => kE Φ e ρ σ fun v σ => wit (asI v) fun i => k (.int (-i)) σ
  | .ife t b o _, ρ, σ, k => kE Φ t ρ σ fun v σ => asBool v fun c => br c (kE Φ b ρ σ k) (kE Φ o ρ σ k)
  | .tup es _ _, ρ, σ, k => kEs Φ es ρ σ fun vs σ => k (.tup vs) σ
  | .lst es _, ρ, σ, k => kEs Φ es ρ σ fun vs σ => k (.lst vs) σ
  | .mls es _, ρ, σ, k => kEs Φ es ρ σ fun vs σ => k (.cell σ.length) (σ ++ [.lst vs])
  | .cmp l op r _, ρ, σ, k => kE Φ l ρ σ fun x σ => kE Φ r ρ σ fun y σ => wit (cmpv σ op x y) fun b => k (.bool b) σ
  | .cmp2 l op m op2 r _, ρ, σ, k => kE Φ l ρ σ fun x σ => kE Φ m ρ σ fun y σ => wit (cmpv σ op x y) fun b => br b (kE Φ r ρ σ fun z σ => wit (cmpv σ op2 y z) fun b => k (.bool b) σ) (k (.bool false) σ)
  | .idx o i _, ρ, σ, k => kE Φ o ρ σ fun x σ => kE Φ i ρ σ fun y σ => wit (item σ x y) fun z => k z σ
  | .slF o lo _ _, ρ, σ, k => kE Φ o ρ σ fun x σ => kE Φ lo ρ σ fun y σ => wit (fromAt x y) fun z => k z σ
  | .slT o hi _ _, ρ, σ, k => kE Φ o ρ σ fun x σ => kE Φ hi ρ σ fun y σ => wit (upTo x y) fun z => k z σ
  | .call f _ _ as _, ρ, σ, k => kEs Φ as ρ σ fun vs σ => (Φ f vs σ).bind k
  | .blt b _ _ a _, ρ, σ, k => kE Φ a ρ σ fun v σ => wit (blt σ b v) fun z => k z σ
  | .mth m i _ _ _ a _, ρ, σ, k => wit (vget ρ i) fun x => wit (asC x) fun c => wit (gd (mok m σ c) ()) fun _ => kE Φ a ρ σ fun v σ => (mth m c v σ).bind k
  | .pop i _ _ _ _, ρ, σ, k => wit (vget ρ i) fun x => wit (asC x) fun c => wit (lstAt σ c) fun xs => wit xs.getLast? fun y => wit (gd (small xs.length) ()) fun _ => k y (σ.set c (.lst xs.dropLast))
  | .fst parts _, ρ, σ, k => kJ Φ parts Str.empty ρ σ k
  | .fvl e _, ρ, σ, k => kE Φ e ρ σ fun v σ => wit (asI v) fun i => wit (gd (decide (0 ≤ i ∧ i < 10 ^ 9)) ()) fun _ => k (.str (txtOf i)) σ
  | .dct k1 _ _ v1 k2 _ _ v2 _, ρ, σ, k => kE Φ v1 ρ σ fun x σ => kE Φ v2 ρ σ fun y σ => k (.cell σ.length) (σ ++ [.dct [(k1, x), (k2, y)]])
  | .dic _ _ e _, ρ, σ, k => kE Φ e ρ σ fun v σ => wit (asL v) fun l => wit (gd (small l.length) ()) fun _ => wit (kvsOf l) fun kvs => wit (gd (decide (kvs.map (·.1)).Nodup) ()) fun _ => k (.cell σ.length) (σ ++ [.dat kvs])
  | .srt _ _ e _ _ _ _ _ _ _ _ _ _, ρ, σ, k => kE Φ e ρ σ fun v σ => wit (asC v) fun c => wit (lstAt σ c) fun l => wit (gd (tblOk σ && (rootOk l && (small l.length && l.all fun x => (rowKey x).isSome))) ()) fun _ => .any (fun ys => ys.Perm l) fun ys => k (.lst ys) σ
  | .comp elt tg en it ifs caps _ _, ρ, σ, k => kE Φ it ρ σ fun l σ => wit (srcv en l) fun xs => cmpR (compGo (fun ρ σ => evB Φ .And ifs ρ σ) (fun ρ σ => evE Φ elt ρ σ) tg xs (capsOf caps 2 ρ) [] σ) fun ys σ => k (.lst ys) σ
noncomputable def kJ (Φ : Phi) {β : Type} : List PE → Str → Vars → St → (PV → St → Res β) → Res β
  | [], acc, _, σ, k => k (.str acc) σ
  | e :: r, acc, ρ, σ, k => kE Φ e ρ σ fun v σ => wit (asS v) fun y => wit (gd (decide (acc.length + y.length ≤ 100000)) ()) fun _ => kJ Φ r (acc ++ y) ρ σ k
noncomputable def kEs (Φ : Phi) {β : Type} : List PE → Vars → St → (List PV → St → Res β) → Res β
  | [], _, σ, k => k [] σ
  | e :: r, ρ, σ, k => kE Φ e ρ σ fun v σ => kEs Φ r ρ σ fun vs σ => k (v :: vs) σ
noncomputable def kB (Φ : Phi) {β : Type} : BoolOp → List PE → Vars → St → (PV → St → Res β) → Res β
  | op, [], _, σ, k => k (.bool (endB op)) σ
  | op, e :: r, ρ, σ, k => kE Φ e ρ σ fun v σ => asBool v fun b => br (b == endB op) (kB Φ op r ρ σ k) (k (.bool b) σ)
end

section
variable {Φ : Phi} {β : Type}
theorem cmpR_eq {r : Res (List PV)} {k : PV → St → Res β} : ((Res.det r).bind fun ys σ => Res.ok (PV.lst ys) σ).bind k = cmpR r fun ys σ => k (.lst ys) σ := by cases r <;> rfl
theorem opt_bind {α : Type} {o : Option α} {σ : St} {k : α → St → Res β} : (opt o σ).bind k = wit o fun z => k z σ := by cases o <;> rfl
theorem wit_bind {α γ : Type} {o : Option α} {f : α → Res γ} {k : γ → St → Res β} : (wit o f).bind k = wit o fun z => (f z).bind k := by cases o <;> rfl
theorem asBool_bind {γ : Type} {v : PV} {f : Bool → Res γ} {k : γ → St → Res β} : (asBool v f).bind k = asBool v fun z => (f z).bind k := by unfold asBool; cases asB v <;> rfl
theorem wit_eq {α : Type} {o : Option α} {f g : α → Res β} (h : ∀ a, f a = g a) : wit o f = wit o g := congrArg (wit o) (funext h)
theorem asBool_eq {v : PV} {f g : Bool → Res β} (h : ∀ a, f a = g a) : asBool v f = asBool v g := congrArg (asBool v) (funext h)
theorem bind_eq {α : Type} {r : Res α} {f g : α → St → Res β} (h : ∀ a σ, f a σ = g a σ) : r.bind f = r.bind g := congrArg r.bind (funext fun a => funext (h a))
/-- then the next -/
theorem then_eq {α γ : Type} {r : Res γ} {h : γ → St → Res α} {k : α → St → Res β} {z : Res β} {f : γ → St → Res β} (e : r.bind f = z) (q : ∀ a σ, (h a σ).bind k = f a σ) : (r.bind h).bind k = z :=
  Res.bind_assoc.trans ((bind_eq q).trans e)
mutual
theorem kE_eq : ∀ (e : PE) (ρ : Vars) (σ : St) (k : PV → St → Res β), (evE Φ e ρ σ).bind k = kE Φ e ρ σ k
  | .cst c _ _, ρ, σ, k => by cases c <;> rfl
  | .var i _ _, ρ, σ, k => opt_bind
  | .gst v _ _, ρ, σ, k => rfl
  | .bin a op b _, ρ, σ, k => then_eq (kE_eq a ρ σ _) fun x σ => then_eq (kE_eq b ρ σ _) fun y σ => opt_bind
  | .boo op vs _, ρ, σ, k => kB_eq op vs ρ σ k
  | .nt e _, ρ, σ, k => then_eq (kE_eq e ρ σ _) fun x σ => asBool_bind
  | .neg e _, ρ, σ, k => then_eq (kE_eq e ρ σ _) fun x σ => wit_bind
  | .ife t b o _, ρ, σ, k => then_eq (kE_eq t ρ σ _) fun x σ => asBool_bind.trans (asBool_eq fun c => by cases c; exact kE_eq o ρ σ k; exact kE_eq b ρ σ k)
  | .tup es _ _, ρ, σ, k => then_eq (kEs_eq es ρ σ _) fun x σ => rfl
  | .lst es _, ρ, σ, k => then_eq (kEs_eq es ρ σ _) fun x σ => rfl
  | .mls es _, ρ, σ, k => then_eq (kEs_eq es ρ σ _) fun x σ => rfl
  | .cmp l op r _, ρ, σ, k => then_eq (kE_eq l ρ σ _) fun x σ => then_eq (kE_eq r ρ σ _) fun y σ => wit_bind
  | .cmp2 l op m op2 r _, ρ, σ, k => then_eq (kE_eq l ρ σ _) fun x σ => then_eq (kE_eq m ρ σ _) fun y σ => wit_bind.trans (wit_eq fun b => by cases b; rfl; exact then_eq (kE_eq r ρ σ _) fun z σ => wit_bind)
  | .idx o i _, ρ, σ, k => then_eq (kE_eq o ρ σ _) fun x σ => then_eq (kE_eq i ρ σ _) fun y σ => opt_bind
  | .slF o lo _ _, ρ, σ, k => then_eq (kE_eq o ρ σ _) fun x σ => then_eq (kE_eq lo ρ σ _) fun y σ => opt_bind
  | .slT o hi _ _, ρ, σ, k => then_eq (kE_eq o ρ σ _) fun x σ => then_eq (kE_eq hi ρ σ _) fun y σ => opt_bind
  | .call f _ _ as _, ρ, σ, k => then_eq (kEs_eq as ρ σ _) fun x σ => rfl
  | .blt b _ _ a _, ρ, σ, k => then_eq (kE_eq a ρ σ _) fun x σ => opt_bind
  | .mth m i _ _ _ a _, ρ, σ, k => wit_bind.trans (wit_eq fun x => wit_bind.trans (wit_eq fun c => wit_bind.trans (wit_eq fun _ => then_eq (kE_eq a ρ σ _) fun v σ => rfl)))
  | .pop i _ _ _ _, ρ, σ, k => wit_bind.trans (wit_eq fun x => wit_bind.trans (wit_eq fun c => wit_bind.trans (wit_eq fun xs => wit_bind.trans (wit_eq fun y => wit_bind))))
  | .fst parts _, ρ, σ, k => kJ_eq parts Str.empty ρ σ k
  | .fvl e _, ρ, σ, k => then_eq (kE_eq e ρ σ _) fun x σ => wit_bind.trans (wit_eq fun i => wit_bind)
  | .dct k1 _ _ v1 k2 _ _ v2 _, ρ, σ, k => then_eq (kE_eq v1 ρ σ _) fun x σ => then_eq (kE_eq v2 ρ σ _) fun y σ => rfl
  | .dic _ _ e _, ρ, σ, k => then_eq (kE_eq e ρ σ _) fun x σ => wit_bind.trans (wit_eq fun l => wit_bind.trans (wit_eq fun _ => wit_bind.trans (wit_eq fun kvs => wit_bind)))
  | .srt _ _ e _ _ _ _ _ _ _ _ _ _, ρ, σ, k => then_eq (kE_eq e ρ σ _) fun x σ => wit_bind.trans (wit_eq fun c => wit_bind.trans (wit_eq fun l => wit_bind))
  | .comp elt tg en it ifs caps _ _, ρ, σ, k => Res.bind_assoc.trans (Res.bind_assoc.trans ((bind_eq fun l σ => opt_bind.trans (wit_eq fun xs => cmpR_eq)).trans (kE_eq it ρ σ _)))
theorem kJ_eq : ∀ (es : List PE) (acc : Str) (ρ : Vars) (σ : St) (k : PV → St → Res β), (evJ Φ es acc ρ σ).bind k = kJ Φ es acc ρ σ k
  | [], acc, ρ, σ, k => rfl
  | e :: r, acc, ρ, σ, k => then_eq (kE_eq e ρ σ _) fun x σ => wit_bind.trans (wit_eq fun y => wit_bind.trans (wit_eq fun _ => kJ_eq r (acc ++ y) ρ σ k))
theorem kEs_eq : ∀ (es : List PE) (ρ : Vars) (σ : St) (k : List PV → St → Res β), (evEs Φ es ρ σ).bind k = kEs Φ es ρ σ k
  | [], ρ, σ, k => rfl
  | e :: r, ρ, σ, k => then_eq (kE_eq e ρ σ _) fun x σ => then_eq (kEs_eq r ρ σ _) fun y σ => rfl
theorem kB_eq : ∀ (op : BoolOp) (es : List PE) (ρ : Vars) (σ : St) (k : PV → St → Res β), (evB Φ op es ρ σ).bind k = kB Φ op es ρ σ k
  | op, [], ρ, σ, k => rfl
  | op, e :: r, ρ, σ, k => then_eq (kE_eq e ρ σ _) fun x σ => asBool_bind.trans (asBool_eq fun b => by cases (b == endB op); rfl; exact kB_eq op r ρ σ k)
end
end

/-- a body's ends -/
noncomputable def flK {β : Type} (kn : Vars → St → Res β) (kr : PV → St → Res β) (f : Fl) (σ : St) : Res β := match f with
  | .nx ρ => kn ρ σ
  | .rt v => kr v σ
mutual
noncomputable def kS (Φ : Phi) (fuel : Nat) {β : Type} : PS → Vars → St → (Vars → St → Res β) → (PV → St → Res β) → Res β
  | .asg i _ _ e _, ρ, σ, kn, _ => kE Φ e ρ σ fun v σ => kn (ρ.set i (some v)) σ
  | .asc i _ _ elt tg en it ifs caps sc cp _, ρ, σ, kn, _ => kE Φ (.comp elt tg en it ifs caps sc cp) ρ σ fun v σ => kn (ρ.set i (some v)) σ
  | .ast sw ts _ _ e _, ρ, σ, kn, _ => kE Φ e ρ σ fun v σ => wit (asT v) fun vs => wit (setSw sw ts vs ρ) fun ρ' => kn ρ' σ
  | .put o key _ e _, ρ, σ, kn, _ => kE Φ e ρ σ fun v σ => kE Φ o ρ σ fun x σ => kE Φ key ρ σ fun y σ => wit (putv σ x y v) fun σ' => kn ρ σ'
  | .iff t b o _, ρ, σ, kn, kr => kE Φ t ρ σ fun v σ => asBool v fun c => br c (kSs Φ fuel b ρ σ kn kr) (kSs Φ fuel o ρ σ kn kr)
  | .ret e _, ρ, σ, _, kr => kE Φ e ρ σ kr
  | .fr tg it b _, ρ, σ, kn, kr => kE Φ it ρ σ fun l σ => wit (elems l) fun xs => (frGo (fun ρ σ => evSs Φ fuel b ρ σ) tg xs ρ σ).bind (flK kn kr)
  | .whl t b _, ρ, σ, kn, kr => (whGo (fun ρ σ => evE Φ t ρ σ) (fun ρ σ => evSs Φ fuel b ρ σ) fuel ρ σ).bind (flK kn kr)
  | .rse _ _ arg _ _, ρ, σ, _, _ => kE Φ arg ρ σ fun v σ => wit (asS v) fun _ => .exc σ
  | .tre e _ _ _ hv _ _ _, ρ, σ, kn, kr => Res.caught (evE Φ e ρ σ) (fun σ => kn ρ σ) fun σ => kE Φ hv ρ σ kr
  | .exp e _, ρ, σ, kn, _ => kE Φ e ρ σ fun _ σ => kn ρ σ
noncomputable def kSs (Φ : Phi) (fuel : Nat) {β : Type} : List PS → Vars → St → (Vars → St → Res β) → (PV → St → Res β) → Res β
  | [], ρ, σ, kn, _ => kn ρ σ
  | s :: r, ρ, σ, kn, kr => kS Φ fuel s ρ σ (fun ρ σ => kSs Φ fuel r ρ σ kn kr) kr
end
section
variable {Φ : Phi} {β : Type} {fuel : Nat}
theorem caught_bind {γ δ : Type} {r : Res γ} {f g : St → Res δ} {k : δ → St → Res β} : (Res.caught r f g).bind k = Res.caught r (fun σ => (f σ).bind k) fun σ => (g σ).bind k := by cases r <;> rfl
mutual
theorem kS_eq : ∀ (s : PS) (ρ : Vars) (σ : St) (kn : Vars → St → Res β) (kr : PV → St → Res β), (evS Φ fuel s ρ σ).bind (flK kn kr) = kS Φ fuel s ρ σ kn kr
  | .asg i _ _ e _, ρ, σ, kn, kr => then_eq (kE_eq e ρ σ _) fun v σ => rfl
  | .asc i _ _ elt tg en it ifs caps sc cp _, ρ, σ, kn, kr => then_eq (kE_eq (.comp elt tg en it ifs caps sc cp) ρ σ _) fun v σ => rfl
  | .ast sw ts _ _ e _, ρ, σ, kn, kr => then_eq (kE_eq e ρ σ _) fun v σ => wit_bind.trans (wit_eq fun vs => wit_bind)
  | .put o key _ e _, ρ, σ, kn, kr => then_eq (kE_eq e ρ σ _) fun v σ => then_eq (kE_eq o ρ σ _) fun x σ => then_eq (kE_eq key ρ σ _) fun y σ => wit_bind
  | .iff t b o _, ρ, σ, kn, kr => then_eq (kE_eq t ρ σ _) fun v σ => asBool_bind.trans (asBool_eq fun c => by cases c; exact kSs_eq o ρ σ kn kr; exact kSs_eq b ρ σ kn kr)
  | .ret e _, ρ, σ, kn, kr => then_eq (kE_eq e ρ σ _) fun v σ => rfl
  | .fr tg it b _, ρ, σ, kn, kr => then_eq (kE_eq it ρ σ _) fun l σ => wit_bind
  | .whl t b _, ρ, σ, kn, kr => rfl
  | .rse _ _ arg _ _, ρ, σ, kn, kr => then_eq (kE_eq arg ρ σ _) fun v σ => wit_bind
  | .tre e _ _ _ hv _ _ _, ρ, σ, kn, kr => caught_bind.trans (congrArg (Res.caught (evE Φ e ρ σ) fun σ => kn ρ σ) (funext fun σ => then_eq (kE_eq hv ρ σ _) fun v σ => rfl))
  | .exp e _, ρ, σ, kn, kr => then_eq (kE_eq e ρ σ _) fun v σ => rfl
theorem kSs_eq : ∀ (s : List PS) (ρ : Vars) (σ : St) (kn : Vars → St → Res β) (kr : PV → St → Res β), (evSs Φ fuel s ρ σ).bind (flK kn kr) = kSs Φ fuel s ρ σ kn kr
  | [], ρ, σ, kn, kr => rfl
  | s :: r, ρ, σ, kn, kr => Res.bind_assoc.trans ((bind_eq fun f σ => by cases f; exact kSs_eq r _ σ kn kr; rfl).trans (kS_eq s ρ σ _ kr))
end
/-- a body with its arguments -/
theorem kF_eq {n : Nat} {body : List PS} {args : List PV} {σ : St} : evF Φ fuel n body args σ = kSs Φ fuel body (args.map some ++ List.replicate (n - args.length) none) σ (fun _ σ => .ok .none σ) (fun v σ => .ok v σ) := by
  rw [← kSs_eq]
  exact bind_eq fun f σ => by cases f <;> rfl
/-- a block alone -/
theorem kB_of {body : List PS} {ρ : Vars} {σ : St} : evSs Φ fuel body ρ σ = kSs Φ fuel body ρ σ (fun ρ σ => .ok (.nx ρ) σ) (fun v σ => .ok (.rt v) σ) := by
  rw [← kSs_eq]
  have e : (flK (fun ρ σ => .ok (.nx ρ) σ) (fun v σ => .ok (.rt v) σ) : Fl → St → Res Fl) = fun f σ => .ok f σ := funext fun f => funext fun σ => by cases f <;> rfl
  rw [e]
  have : ∀ r : Res Fl, r = r.bind fun f σ => .ok f σ := fun r => by
    induction r with
    | any P f ih => exact congrArg (Res.any P) (funext ih)
    | _ => rfl
  exact this _
theorem kE_of {e : PE} {ρ : Vars} {σ : St} : evE Φ e ρ σ = kE Φ e ρ σ fun v σ => .ok v σ := by
  rw [← kE_eq]
  have : ∀ r : Res PV, r = r.bind fun f σ => .ok f σ := fun r => by
    induction r with
    | any P f ih => exact congrArg (Res.any P) (funext ih)
    | _ => rfl
  exact this _
theorem evB_of {op : BoolOp} {es : List PE} {ρ : Vars} {σ : St} : evB Φ op es ρ σ = kB Φ op es ρ σ fun v σ => .ok v σ := by
  rw [← kB_eq]
  have : ∀ r : Res PV, r = r.bind fun f σ => .ok f σ := fun r => by
    induction r with
    | any P f ih => exact congrArg (Res.any P) (funext ih)
    | _ => rfl
  exact this _

-- the steps
theorem bind_s {α : Type} {r : Res α} {f : α → St → Res β} {x : α} {σ : St} {z : Res β} (h : r = .ok x σ) (q : f x σ = z) : r.bind f = z := by rw [h]; exact q
theorem bind_x {α : Type} {r : Res α} {f : α → St → Res β} {σ : St} (h : r = .exc σ) : r.bind f = .exc σ := by rw [h]; rfl
theorem br_t {b : Bool} {x y z : β} (h : b = true) (q : x = z) : br b x y = z := by rw [h]; exact q
theorem br_f {b : Bool} {x y z : β} (h : b = false) (q : y = z) : br b x y = z := by rw [h]; exact q
theorem br_d {c : Prop} [Decidable c] {x y z : β} (h : c) (q : x = z) : br (decide c) x y = z := by rw [decide_eq_true h]; exact q
theorem br_n {c : Prop} [Decidable c] {x y z : β} (h : ¬ c) (q : y = z) : br (decide c) x y = z := by rw [decide_eq_false h]; exact q
theorem wit_s {α : Type} {o : Option α} {f : α → Res β} {a : α} {z : Res β} (h : o = some a) (q : f a = z) : wit o f = z := by rw [h]; exact q
theorem cmp_s {r : Res (List PV)} {k : List PV → St → Res β} {ys : List PV} {σ : St} {z : Res β} (h : r = .ok ys σ) (q : k ys σ = z) : cmpR r k = z := by rw [h]; exact q
theorem cmp_x {r : Res (List PV)} {k : List PV → St → Res β} {σ : St} (h : r = .exc σ) : cmpR r k = .exc σ := by rw [h]; rfl
end
end Mine
end
-- part P2
section
open PySem PySem.W PyProof.Rows
namespace Mine

theorem phi_st {d f : Nat} {args : List PV} {σ : St} {F : Fn} (h : L01[f]? = some F) (hk : args.length = F.k) : phi L01 (d + 1) f args σ = evF (phi L01 d) F.fuel F.tab.length F.body args σ := by
  show (match L01[f]? with
    | some F => if args.length = F.k then evF (phi L01 d) F.fuel F.tab.length F.body args σ else .bad
    | none => .bad) = _
  rw [h]
  exact if_pos hk
/-- a function's text -/
structure Tx (f : Nat) (x : Str) (k n : Nat) (b : List PS) : Prop where
  at_ : L01[f]? = some (fn01 x)
  fl : (fn01 x).fuel = 1000
  k : (fn01 x).k = k
  n : (fn01 x).tab.length = n
  b : (fn01 x).body = b
theorem Tx.st {f : Nat} {x : Str} {k n : Nat} {b : List PS} (t : Tx f x k n b) {d : Nat} {args : List PV} {σ : St} {z : Res PV} (ha : args.length = k)
    (h : kSs (phi L01 d) 1000 b (args.map some ++ List.replicate (n - args.length) none) σ (fun _ σ => .ok .none σ) (fun v σ => .ok v σ) = z) : phi L01 (d + 1) f args σ = z := by
  rw [phi_st t.at_ (ha.trans t.k.symm), t.fl, t.n, t.b, kF_eq]; exact h

noncomputable def svar : Str := ⟨⟨[118,97,114]⟩⟩
noncomputable def b6 : { b : List PS // (fn01 "below").body = b } := by
  refine ⟨?b, ?h⟩
  case h => conv => lhs; reduce
theorem t6 : Tx 6 "below" 1 1 b6.1 := ⟨rfl, by kernel_rfl, by kernel_rfl, by kernel_rfl, b6.2⟩

/-- the law's terms -/
inductive Tm where
  | v (n : Nat) | lam (a : Tm) | app (a b : Tm) | c (z : Bool)
noncomputable def vt (n : Nat) : Str := ⟨⟨118 :: 97 :: 114 :: (txtOf n).cps.toList⟩⟩
noncomputable def slam : Str := ⟨⟨[108,97,109]⟩⟩
noncomputable def sapp : Str := ⟨⟨[97,112,112]⟩⟩
noncomputable def cs (z : Bool) : Str := ⟨⟨[br z 122 115]⟩⟩
noncomputable def Tm.pv : Tm → PV
  | .v n => .tup [.str (vt n)]
  | .lam a => .tup [.str slam, a.pv]
  | .app a b => .tup [.str sapp, a.pv, b.pv]
  | .c z => .tup [.str (cs z)]
noncomputable def Tm.bel : Tm → Nat
  | .lam _ => 1
  | _ => 0
theorem str_ne {a b : Nat} {x y : List Nat} (h : a ≠ b) : ((⟨⟨a :: x⟩⟩ : Str) == ⟨⟨b :: y⟩⟩) = false := by
  apply beq_false_of_ne
  intro e
  injection e with e
  injection e with e
  injection e with e
  exact h e
theorem s_below {d : Nat} (t : Tm) {σ : St} : phi L01 (d + 1) 6 [t.pv] σ = .ok (.int t.bel) σ := by
  refine t6.st rfl ?_
  cases t with
  | v n => have h : (vt n == slam) = false := str_ne (by decide); exact br_f (congrArg (· == true) h) (br_f h rfl)
  | lam a => rfl
  | app a b => rfl
  | c z => cases z <;> rfl
end Mine
end
-- part P3
section
open PySem PySem.W PyProof.Rows
namespace Mine

theorem set_at {C D : Vars} {z y : Option PV} : (C ++ z :: D).set C.length y = C ++ y :: D := by
  rw [List.set_append_right _ _ (Nat.le_refl _), Nat.sub_self]; rfl
/-- a comprehension over names -/
theorem comp_gen {tst elt : Vars → St → Res PV} {C : Vars} {x : Str} {p : Pos} {σ : St} {g : PV → Option PV} : ∀ {xs : List PV} {z : Option PV} {acc : List PV},
    (∀ y ∈ xs, tst (C ++ [some y, none]) σ = .ok (.bool (g y).isSome) σ ∧ ∀ u, g y = some u → elt (C ++ [some y, none]) σ = .ok u σ) → compGo tst elt (.name C.length x p) xs (C ++ [z, none]) acc σ = .ok (acc ++ xs.filterMap g) σ
  | [], z, acc, _ => by rw [compGo_nil, List.filterMap_nil, List.append_nil]
  | y :: xs, z, acc, h => by
    obtain ⟨h1, h2⟩ := h y (.head _)
    have ih := fun {acc : List PV} => comp_gen (x := x) (p := p) (z := some y) (acc := acc) fun y m => h y (.tail _ m)
    rw [compGo_cons]
    refine wit_s (a := C ++ [some y, none]) (congrArg some set_at) (bind_s h1 ?_)
    cases hg : g y with
    | none => rw [List.filterMap_cons_none hg]; exact ih
    | some u => rw [List.filterMap_cons_some hg]; exact bind_s (h2 u hg) (ih.trans (by rw [List.append_assoc]; rfl))

theorem comp_list {tst elt : Vars → St → Res PV} {C : Vars} {x : Str} {p : Pos} {σ : St} {z : Option PV} {xs ys : List PV} (g : PV → Option PV)
    (h : ∀ y ∈ xs, tst (C ++ [some y, none]) σ = .ok (.bool (g y).isSome) σ ∧ ∀ u, g y = some u → elt (C ++ [some y, none]) σ = .ok u σ) (e : xs.filterMap g = ys) : compGo tst elt (.name C.length x p) xs (C ++ [z, none]) [] σ = .ok ys σ := e ▸ comp_gen h
theorem fm_none {α β : Type} : ∀ {xs : List α}, xs.filterMap (fun _ => (none : Option β)) = []
  | [] => rfl
  | _ :: xs => fm_none (xs := xs)

/-- figures that tell n -/
structure Dig (l : List Nat) (n : Nat) : Prop where
  all : l.all (fun c => 48 ≤ c && c ≤ 57) = true
  ne : l.isEmpty = false
  le : l.length ≤ 640
  int : PySem.intText? ⟨⟨l⟩⟩ = some (n : Int)
  z : l.head? = some 48 → l = [48]
noncomputable def digB (n : Nat) : Bool := let l := (txtOf n).cps.toList
  l.all (fun c => 48 ≤ c && c ≤ 57) && (!l.isEmpty && (decide (l.length ≤ 640) && (PySem.intText? ⟨⟨l⟩⟩ == some (n : Int) && (l.head? != some 48 || l == [48]))))
theorem digs : ((List.range 1000).all digB) = true := by decide +kernel
theorem dig (n : Nat) (h : n < 1000) : Dig (txtOf n).cps.toList n := by
  have := List.all_eq_true.mp digs n (List.mem_range.mpr h)
  obtain ⟨h1, h⟩ := Bool.and_eq_true_iff.mp this
  obtain ⟨h2, h⟩ := Bool.and_eq_true_iff.mp h
  obtain ⟨h3, h⟩ := Bool.and_eq_true_iff.mp h
  obtain ⟨h4, h5⟩ := Bool.and_eq_true_iff.mp h
  refine ⟨h1, by simpa using h2, of_decide_eq_true h3, eq_of_beq h4, fun e => ?_⟩
  rw [e] at h5
  exact eq_of_beq h5

noncomputable def b2 : { b : List PS // (fn01 "is_row_of").body = b } := by
  refine ⟨?b, ?h⟩
  case h => conv => lhs; reduce
theorem t2 : Tx 2 "is_row_of" 2 2 b2.1 := ⟨rfl, by kernel_rfl, by kernel_rfl, by kernel_rfl, b2.2⟩
noncomputable def b3 : { b : List PS // (fn01 "number_behind").body = b } := by
  refine ⟨?b, ?h⟩
  case h => conv => lhs; reduce
theorem t3 : Tx 3 "number_behind" 2 3 b3.1 := ⟨rfl, by kernel_rfl, by kernel_rfl, by kernel_rfl, b3.2⟩
noncomputable def b4 : { b : List PS // (fn01 "index_of").body = b } := by
  refine ⟨?b, ?h⟩
  case h => conv => lhs; reduce
theorem t4 : Tx 4 "index_of" 1 1 b4.1 := ⟨rfl, by kernel_rfl, by kernel_rfl, by kernel_rfl, b4.2⟩
noncomputable def sfig : Str := ⟨⟨[48,49,50,51,52,53,54,55,56,57]⟩⟩

theorem small_of {n : Nat} (h : n ≤ 1000000) : small n = true := decide_eq_true h
theorem gd_t {α : Type} {c : Bool} {x : α} (h : c = true) : gd c x = some x := by rw [h]; rfl
theorem fig_in : ∀ {c : Nat}, (48 ≤ c && c ≤ 57) = true → sfig.cps.toList.contains c = true := fun {c} h => by
  have : 48 ≤ c ∧ c ≤ 57 := by simpa using h
  have e : c = 48 ∨ c = 49 ∨ c = 50 ∨ c = 51 ∨ c = 52 ∨ c = 53 ∨ c = 54 ∨ c = 55 ∨ c = 56 ∨ c = 57 := by omega
  rcases e with rfl | rfl | rfl | rfl | rfl | rfl | rfl | rfl | rfl | rfl <;> rfl
theorem s_row {d : Nat} {a : Nat} {r : List Nat} {n : Nat} (h : Dig (a :: r) n) {σ : St} : phi L01 (d + 1) 2 [.str ⟨⟨a :: r⟩⟩, .str sfig] σ = .ok (.bool true) σ := by
  refine t2.st rfl ?_
  have le : (a :: r).length ≤ 1000000 := Nat.le_trans h.le (by decide)
  refine wit_s (gd_t (small_of le)) (cmp_s (comp_list (C := [some (.str sfig)]) (fun _ => none) (fun y m => ?_) fm_none) rfl)
  obtain ⟨c, hc, rfl⟩ := List.mem_map.mp m
  have e := fig_in (List.all_eq_true.mp h.all c hc)
  refine ⟨?_, fun u e => nomatch e⟩
  rw [evB_of]
  show br ((!sfig.cps.toList.contains c) == true) _ (Res.ok (PV.bool (!sfig.cps.toList.contains c)) σ) = _
  rw [e]; rfl

theorem item_s {σ : St} {a : Nat} {r : List Nat} : item σ (.str ⟨⟨a :: r⟩⟩) (.int 0) = some (.str ⟨#[a]⟩) := by
  show (Option.bind (gd (decide ((0 : Int) ≤ 0 ∧ (0 : Int) < ((r.length + 1 : Nat) : Int) ∧ (0 : Int) < 1000000000)) (0 : Int).toNat) _) = _
  rw [gd_t (decide_eq_true (by omega))]
  rfl
theorem int_s {l : List Nat} {n : Nat} (h : Dig l n) {σ : St} : blt σ .int (.str ⟨⟨l⟩⟩) = some (.int n) := by
  show Option.map PV.int (Option.bind (gd (decide (l.length ≤ 640)) (⟨⟨l⟩⟩ : Str)) fun s => PySem.intText? s) = _
  rw [gd_t (decide_eq_true h.le)]
  show Option.map PV.int (PySem.intText? ⟨⟨l⟩⟩) = _
  rw [h.int]; rfl
theorem s_nb {d : Nat} {a : Nat} {r : List Nat} {n : Nat} (h : Dig (a :: r) n) {σ : St} : phi L01 (d + 2) 3 [.str ⟨⟨118 :: 97 :: 114 :: a :: r⟩⟩, .str svar] σ = .ok (.int n) σ := by
  refine t3.st rfl ?_
  have le : (118 :: 97 :: 114 :: a :: r).length ≤ 1000000 := by have := h.le; simp only [List.length_cons] at this ⊢; omega
  refine wit_s (gd_t (small_of le)) (wit_s (gd_t (small_of le)) (bind_s (s_row h) (wit_s item_s ?_)))
  by_cases q : a = 48
  · subst q
    have := h.z rfl
    cases this
    exact wit_s (int_s h) rfl
  · have e : ((⟨#[a]⟩ : Str) == ⟨⟨[48]⟩⟩) = false := str_ne (x := []) (y := []) q
    exact br_f (congrArg (· == true) e) (br_t (congrArg (· == false) e) (wit_s (int_s h) rfl))
/-- index_of -/
noncomputable def Tm.idx : Tm → Int
  | .v n => n
  | _ => -1
theorem s_index {d : Nat} {t : Tm} (h : ∀ n, t = .v n → n < 1000) {σ : St} : phi L01 (d + 3) 4 [t.pv] σ = .ok (.int t.idx) σ := by
  refine t4.st rfl ?_
  cases t with
  | v n =>
    have D := dig n (h n rfl)
    have : ∃ a r, (txtOf n).cps.toList = a :: r := by
      cases e : (txtOf n).cps.toList with
      | nil => have := D.ne; rw [e] at this; cases this
      | cons a r => exact ⟨a, r, rfl⟩
    obtain ⟨a, r, e⟩ := this
    rw [e] at D
    show kSs _ _ _ (List.map some [PV.tup [.str ⟨⟨118 :: 97 :: 114 :: (txtOf n).cps.toList⟩⟩]] ++ _) _ _ _ = _
    rw [e]
    exact bind_s (s_nb D) rfl
  | lam a => rfl
  | app a b => rfl
  | c z => cases z <;> rfl
end Mine
end
-- part P4
section
open PySem PySem.W PyProof.Rows
namespace Mine
theorem Tx.run {f : Nat} {x : Str} {k n : Nat} {b : List PS} (t : Tx f x k n b) {d : Nat} {args : List PV} {σ : St} {z : Res PV} (ha : args.length = k)
    (h : ∀ Φ, Φ = phi L01 d → kSs Φ 1000 b (args.map some ++ List.replicate (n - args.length) none) σ (fun _ σ => .ok .none σ) (fun v σ => .ok v σ) = z) : phi L01 (d + 1) f args σ = z := t.st ha (h _ rfl)
theorem call_s {β : Type} {Φ : Phi} {d f : Nat} {args : List PV} {σ σ' : St} {x : PV} {k : PV → St → Res β} {z : Res β} (e : Φ = phi L01 d) (h : phi L01 d f args σ = .ok x σ') (q : k x σ' = z) : (Φ f args σ).bind k = z := by
  rw [e, h]; exact q
theorem call_x {β : Type} {Φ : Phi} {d f : Nat} {args : List PV} {σ σ' : St} {k : PV → St → Res β} (e : Φ = phi L01 d) (h : phi L01 d f args σ = .exc σ') : (Φ f args σ).bind k = .exc σ' := by
  rw [e, h]; rfl
noncomputable def b5 : { b : List PS // (fn01 "variable").body = b } := by
  refine ⟨?b, ?h⟩
  case h => conv => lhs; reduce
theorem t5 : Tx 5 "variable" 1 1 b5.1 := ⟨rfl, by kernel_rfl, by kernel_rfl, by kernel_rfl, b5.2⟩
section
variable {Φ : Phi} {β : Type} {ρ : Vars} {σ : St} {kk : PV → St → Res β} {acc s x : Str} {k i : Nat} {p q : Pos} {r : List PE}
theorem kJ_nil : kJ Φ [] acc ρ σ kk = kk (.str acc) σ := rfl
theorem kJ_c : kJ Φ (.cst (.str s) k p :: r) acc ρ σ kk = wit (gd (decide (acc.length + s.length ≤ 100000)) ()) fun _ => kJ Φ r (acc ++ s) ρ σ kk := rfl
theorem kJ_v : kJ Φ (.fvl (.var i x q) p :: r) acc ρ σ kk = wit (vget ρ i) fun v => wit (asI v) fun j => wit (gd (decide (0 ≤ j ∧ j < 10 ^ 9)) ()) fun _ => wit (gd (decide (acc.length + (txtOf j).length ≤ 100000)) ()) fun _ => kJ Φ r (acc ++ txtOf j) ρ σ kk := rfl
theorem kJ_2 {p' : Pos} {n : Int} {z : Res β} (hv : vget ρ i = some (.int n)) (h0 : 0 ≤ n ∧ n < 10 ^ 9)
    (l1 : Str.empty.length + s.length ≤ 100000) (l2 : (Str.empty ++ s).length + (txtOf n).length ≤ 100000) (e : kk (.str ((Str.empty ++ s) ++ txtOf n)) σ = z) : kJ Φ [.cst (.str s) k p, .fvl (.var i x q) p'] Str.empty ρ σ kk = z :=
  kJ_c.trans (wit_s (gd_t (decide_eq_true l1)) (kJ_v.trans (wit_s hv (wit_s (a := n) rfl (wit_s (gd_t (decide_eq_true h0)) (wit_s (gd_t (decide_eq_true l2)) e))))))
variable {fuel : Nat} {kn : Vars → St → Res β} {ks : List PS} {e : PE} {es : List PE}
theorem kSs_ret {p3 : Pos} : kSs Φ fuel (.ret (.tup [.fst es p] k q) p3 :: ks) ρ σ kn kk = kJ Φ es Str.empty ρ σ fun v σ => kk (.tup [v]) σ := rfl
theorem kSs_rse {p' q' : Pos} : kSs Φ fuel (.rse x q (.fst es p) q' p' :: ks) ρ σ kn kk = kJ Φ es Str.empty ρ σ fun v σ => wit (asS v) fun _ => .exc σ := rfl
end
section
variable {Φ : Phi} {β : Type} {fuel i i' k1 k2 k3 : Nat} {ρ : Vars} {σ σ' : St} {x x' y : Str} {p1 p2 p3 p4 p5 p6 p7 p8 p9 p10 p11 p12 p13 : Pos} {j j' : Int} {elt : PE} {tg : Tgt} {caps : List Nat} {sc : Scope} {ks : List PS} {kn : Vars → St → Res β} {kk : PV → St → Res β} {v w a l z u : PV} {xs ys : List PV} {r : Res β}
theorem node_s (hv : vget ρ i = some v) (ha : item σ v (.int j) = some a) (hw : vget ρ i' = some w) (hl : fromAt w (.int j') = some l) (hx : srcv none l = some xs) (hc : compGo (fun ρ σ => evB Φ .And [] ρ σ) (fun ρ σ => evE Φ elt ρ σ) tg xs (capsOf caps 2 ρ) [] σ = .ok ys σ')
    (hu : blt σ' .tuple (.lst ys) = some u) (hz : bin .Add (.tup [a]) u = some z) (hk : kk z σ' = r) :
    kSs Φ fuel (.ret (.bin (.tup [.idx (.var i x p1) (.cst (.int j) k1 p2) p3] k2 p4) .Add (.blt .tuple y p5 (.comp elt tg none (.slF (.var i' x' p6) (.cst (.int j') k3 p7) p8 p9) [] caps sc p10) p11) p12) p13 :: ks) ρ σ kn kk = r :=
  wit_s hv (wit_s ha (wit_s hw (wit_s hl (wit_s hx (cmp_s hc (wit_s hu (wit_s hz hk)))))))
end
theorem asg_o {Φ : Phi} {β : Type} {fuel i i1 i2 k1 : Nat} {ρ : Vars} {σ : St} {x x1 x2 : Str} {p1 p2 p3 p4 p5 p6 p7 : Pos} {op : CmpOp} {j : Int} {b : PE} {ks : List PS} {kn : Vars → St → Res β} {kk : PV → St → Res β} {v w : PV} {r : Res β}
    (hv : vget ρ i1 = some v) (hc : cmpv σ op v (.int j) = some false) (hw : vget ρ i2 = some w) (h : kSs Φ fuel ks (ρ.set i (some w)) σ kn kk = r) : kSs Φ fuel (.asg i x p1 (.ife (.cmp (.var i1 x1 p2) op (.cst (.int j) k1 p3) p4) b (.var i2 x2 p5) p6) p7 :: ks) ρ σ kn kk = r :=
  wit_s hv (wit_s hc (wit_s hw h))
theorem vt_eq (n : Nat) : (Str.empty ++ svar) ++ txtOf n = vt n := by
  unfold vt
  generalize txtOf n = t
  obtain ⟨⟨t⟩⟩ := t
  show (⟨(#[] ++ #[118,97,114]) ++ ⟨t⟩⟩ : Str) = _
  exact congrArg Str.mk (Array.ext' (by simp))
theorem vt_len {s : Str} {n : Nat} (h : n < 1000) (l : s.length ≤ 1000) : (Str.empty ++ s).length + (txtOf n).length ≤ 100000 := by
  have le := (dig n h).le
  have e : (Str.empty ++ s).length = 0 + s.length := Array.size_append
  have q : (txtOf n).length = (txtOf n).cps.toList.length := rfl
  omega
theorem nat_9 {n : Nat} (h : n < 1000) : 0 ≤ (n : Int) ∧ (n : Int) < 10 ^ 9 := ⟨Int.natCast_nonneg n, Int.ofNat_lt.mpr (Nat.lt_trans h (by decide))⟩
theorem s_var {d n : Nat} {i : Int} (h : n < 1000) (hi : i = n) {σ : St} : phi L01 (d + 1) 5 [.int i] σ = .ok (Tm.v n).pv σ := by
  subst hi
  exact t5.st rfl (kSs_ret.trans (kJ_2 rfl (nat_9 h) (by decide) (vt_len (s := svar) h (by decide)) (congrArg (fun x => Res.ok (PV.tup [.str x]) σ) (vt_eq n))))

theorem comp_1 {Φ : Phi} {elt : Vars → St → Res PV} {i : Nat} {x : Str} {p : Pos} {y u : PV} {ρ : Vars} {σ σ' : St} (h : elt (ρ.set i (some y)) σ = .ok u σ') : compGo (fun ρ σ => evB Φ .And [] ρ σ) elt (.name i x p) [y] ρ [] σ = .ok [u] σ' := by
  rw [compGo_cons]
  exact wit_s rfl (bind_s rfl (bind_s h rfl))
theorem comp_2 {Φ : Phi} {elt : Vars → St → Res PV} {i : Nat} {x : Str} {p : Pos} {y y' u u' : PV} {ρ : Vars} {σ σ₁ σ' : St} (h : elt (ρ.set i (some y)) σ = .ok u σ₁) (h' : elt ((ρ.set i (some y)).set i (some y')) σ₁ = .ok u' σ') :
    compGo (fun ρ σ => evB Φ .And [] ρ σ) elt (.name i x p) [y, y'] ρ [] σ = .ok [u, u'] σ' := by
  rw [compGo_cons]
  refine wit_s rfl (bind_s rfl (bind_s h ?_))
  show compGo _ _ _ [y'] _ ([] ++ [u]) σ₁ = _
  rw [compGo_cons]
  exact wit_s rfl (bind_s rfl (bind_s h' rfl))

noncomputable def Tm.ht : Tm → Nat
  | .lam a => a.ht + 1
  | .app a b => max a.ht b.ht + 1
  | .v _ => 0
  | .c _ => 0
/-- the indices are below N -/
noncomputable def Tm.lt (N : Nat) : Tm → Prop
  | .v n => n < N
  | .lam a => a.lt N
  | .app a b => a.lt N ∧ b.lt N
  | .c _ => True
noncomputable def Tm.up : Tm → Nat → Tm
  | .v n, k => br (decide (k ≤ n)) (.v (n + 1)) (.v n)
  | .lam a, k => .lam (a.up (k + 1))
  | .app a b, k => .app (a.up k) (b.up k)
  | .c z, _ => .c z
theorem up_ge {n k : Nat} (h : k ≤ n) : (Tm.v n).up k = .v (n + 1) := br_d h rfl
theorem up_lt {n k : Nat} (h : ¬ k ≤ n) : (Tm.v n).up k = .v n := br_n h rfl
theorem up_ht (t : Tm) : ∀ (k : Nat), (t.up k).ht = t.ht := by
  induction t with
  | v n =>
    intro k
    by_cases h : k ≤ n
    · rw [up_ge h]; rfl
    · rw [up_lt h]
  | lam a ih => exact fun k => congrArg (· + 1) (ih (k + 1))
  | app a b i j =>
    intro k
    show max _ _ + 1 = max _ _ + 1
    rw [i, j]
  | c z => exact fun _ => rfl
theorem up_lts {N : Nat} (t : Tm) : ∀ (k : Nat), t.lt N → (t.up k).lt (N + 1) := by
  induction t with
  | v n =>
    intro k q
    have q : n < N := q
    by_cases h : k ≤ n
    · rw [up_ge h]; exact Nat.succ_lt_succ q
    · rw [up_lt h]; exact Nat.lt_succ_of_lt q
  | lam a ih => exact fun k q => ih (k + 1) q
  | app a b i j => exact fun k q => ⟨i k q.1, j k q.2⟩
  | c z => exact fun _ _ => trivial

noncomputable def b7 : { b : List PS // (fn01 "moved_within").body = b } := by
  refine ⟨?b, ?h⟩
  case h => conv => lhs; reduce
theorem t7 : Tx 7 "moved_within" 4 5 b7.1 := ⟨rfl, by kernel_rfl, by kernel_rfl, by kernel_rfl, b7.2⟩
noncomputable def b8 : { b : List PS // (fn01 "shifted").body = b } := by
  refine ⟨?b, ?h⟩
  case h => conv => lhs; reduce
theorem t8 : Tx 8 "shifted" 3 3 b8.1 := ⟨rfl, by kernel_rfl, by kernel_rfl, by kernel_rfl, b8.2⟩
theorem idx_v {n : Nat} (h : n < 1000) : ∀ m, Tm.v n = .v m → m < 1000 := fun m e => by cases e; exact h

end Mine
end
-- part P5
section
open PySem PySem.W PyProof.Rows
namespace Mine

theorem s_moved (t : Tm) : ∀ {d k : Nat} {i : Int} {σ : St}, t.ht ≤ d → t.lt 999 → i = k → phi L01 (d + 4) 7 [t.pv, .int 1, .int 0, .int i] σ = .ok (t.up k).pv σ := by
  induction t with
  | v n =>
    intro d k i σ hd hl hi
    have hl : n < 999 := hl
    refine t7.run rfl fun Φ e => ?_
    apply call_s e
    · exact s_index (t := .v n) (idx_v (by omega))
    by_cases q : k ≤ n
    · rw [up_ge q]
      refine br_d (by show (0 : Int) + i ≤ (n : Int); omega) (br_n (by show ¬ ((n : Int) + 1 < i); omega) ?_)
      apply call_s e
      · exact s_var (n := n + 1) (by omega) (by show (n : Int) + 1 = _; omega)
      exact rfl
    · rw [up_lt q]
      exact br_n (by show ¬ ((0 : Int) + i ≤ (n : Int)); omega) rfl
  | lam a ih =>
    intro d k i σ hd hl hi
    obtain ⟨d, rfl⟩ : ∃ e, d = e + 1 := ⟨d - 1, by have : a.ht + 1 ≤ d := hd; omega⟩
    have hd : a.ht ≤ d := Nat.le_of_succ_le_succ hd
    refine t7.run rfl fun Φ e => ?_
    apply call_s e
    · exact s_index (t := .lam a) fun m q => nomatch q
    refine br_n (by show ¬ ((0 : Int) + i ≤ -1); omega) ?_
    refine node_s rfl rfl rfl rfl rfl (comp_1 ?_) rfl rfl rfl
    refine kE_of.trans ?_
    apply call_s e
    · exact s_below (.lam a)
    apply call_s e
    · exact ih (k := k + 1) hd hl (by show i + (1 : Int) = _; omega)
    exact rfl
  | app a b ih jh =>
    intro d k i σ hd hl hi
    obtain ⟨d, rfl⟩ : ∃ e, d = e + 1 := ⟨d - 1, by have : max a.ht b.ht + 1 ≤ d := hd; omega⟩
    have hd : max a.ht b.ht ≤ d := Nat.le_of_succ_le_succ hd
    refine t7.run rfl fun Φ e => ?_
    apply call_s e
    · exact s_index (t := .app a b) fun m q => nomatch q
    refine br_n (by show ¬ ((0 : Int) + i ≤ -1); omega) ?_
    refine node_s rfl rfl rfl rfl rfl (comp_2 (σ₁ := σ) ?_ ?_) rfl rfl rfl
    · refine kE_of.trans ?_
      apply call_s e
      · exact s_below (.app a b)
      apply call_s e
      · exact ih (k := k) (by omega) hl.1 (by show i + (0 : Int) = _; omega)
      exact rfl
    · refine kE_of.trans ?_
      apply call_s e
      · exact s_below (.app a b)
      apply call_s e
      · exact jh (k := k) (by omega) hl.2 (by show i + (0 : Int) = _; omega)
      exact rfl
  | c z =>
    intro d k i σ hd hl hi
    refine t7.run rfl fun Φ e => ?_
    apply call_s e
    · exact s_index (t := .c z) fun m q => nomatch q
    refine br_n (by show ¬ ((0 : Int) + i ≤ -1); omega) ?_
    exact rfl
theorem s_shift {t : Tm} {d : Nat} {σ : St} (h : t.ht ≤ d) (l : t.lt 999) : phi L01 (d + 5) 8 [t.pv, .int 1, .int 0] σ = .ok (t.up 0).pv σ := by
  refine t8.run rfl fun Φ e => ?_
  apply call_s e
  · exact s_moved (k := 0) t h l rfl
  exact rfl
end Mine
end
-- part P6
section
open PySem PySem.W PyProof.Rows
namespace Mine

noncomputable def b9 : { b : List PS // (fn01 "put_in").body = b } := by
  refine ⟨?b, ?h⟩
  case h => conv => lhs; reduce
theorem t9 : Tx 9 "put_in" 3 6 b9.1 := ⟨rfl, by kernel_rfl, by kernel_rfl, by kernel_rfl, b9.2⟩
noncomputable def Tm.put : Tm → Nat → Tm → Tm
  | .v n, k, u => br (decide (n = k)) u (br (decide (k < n)) (.v (n - 1)) (.v n))
  | .lam a, k, u => .lam (a.put (k + 1) (u.up 0))
  | .app a b, k, u => .app (a.put k u) (b.put k u)
  | .c z, _, _ => .c z
theorem put_eq {n : Nat} {u : Tm} : (Tm.v n).put n u = u := br_d (c := n = n) rfl rfl
theorem put_gt {n k : Nat} {u : Tm} (h : k < n) : (Tm.v n).put k u = .v (n - 1) := br_n (c := n = k) (by omega) (br_d h rfl)
theorem put_lt {n k : Nat} {u : Tm} (h : n < k) : (Tm.v n).put k u = .v n := br_n (c := n = k) (by omega) (br_n (by omega) rfl)
theorem lt_mono {M N : Nat} (h : M ≤ N) (t : Tm) : t.lt M → t.lt N := by
  induction t with
  | v n => exact fun q => Nat.lt_of_lt_of_le q h
  | lam a ih => exact ih
  | app a b i j => exact fun q => ⟨i q.1, j q.2⟩
  | c z => exact fun _ => trivial
theorem s_put (t : Tm) : ∀ {d k M : Nat} {i : Int} {u : Tm} {σ : St}, t.ht + u.ht ≤ d → t.lt 1000 → u.lt M → M + t.ht ≤ 999 → i = k → phi L01 (d + 6) 9 [t.pv, .int i, u.pv] σ = .ok (t.put k u).pv σ := by
  induction t with
  | v n =>
    intro d k M i u σ hd hl hu hM hi
    have hl : n < 1000 := hl
    refine t9.run rfl fun Φ e => ?_
    apply call_s e
    · exact s_index (t := .v n) (idx_v hl)
    by_cases q : n = k
    · subst q
      rw [put_eq]
      exact br_d (by show (n : Int) = i; omega) rfl
    · refine br_n (by show ¬ (n : Int) = i; omega) ?_
      by_cases q' : k < n
      · rw [put_gt q']
        refine br_d (by show (n : Int) > i; omega) ?_
        apply call_s e
        · exact s_var (n := n - 1) (by omega) (by show (n : Int) - 1 = _; omega)
        exact rfl
      · rw [put_lt (by omega)]
        exact br_n (by show ¬ ((n : Int) > i); omega) rfl
  | lam a ih =>
    intro d k M i u σ hd hl hu hM hi
    have hd : a.ht + 1 + u.ht ≤ d := hd
    have hM : M + (a.ht + 1) ≤ 999 := hM
    obtain ⟨d, rfl⟩ : ∃ e, d = e + 1 := ⟨d - 1, by omega⟩
    refine t9.run rfl fun Φ e => ?_
    apply call_s e
    · exact s_index (t := .lam a) fun m q => nomatch q
    apply call_s e
    · exact s_below (.lam a)
    apply call_s e
    · exact s_shift (d := d + 1) (t := u) (by omega) (lt_mono (by omega) u hu)
    refine node_s rfl rfl rfl rfl rfl (comp_1 ?_) rfl rfl rfl
    refine kE_of.trans ?_
    apply call_s e
    · exact ih (k := k + 1) (u := u.up 0) (M := M + 1) (by rw [up_ht]; omega) hl (up_lts u 0 hu) (by omega) (by show i + (1 : Int) = _; omega)
    exact rfl
  | app a b ih jh =>
    intro d k M i u σ hd hl hu hM hi
    have hd : max a.ht b.ht + 1 + u.ht ≤ d := hd
    have hM : M + (max a.ht b.ht + 1) ≤ 999 := hM
    obtain ⟨d, rfl⟩ : ∃ e, d = e + 1 := ⟨d - 1, by omega⟩
    refine t9.run rfl fun Φ e => ?_
    apply call_s e
    · exact s_index (t := .app a b) fun m q => nomatch q
    apply call_s e
    · exact s_below (.app a b)
    refine asg_o rfl rfl rfl (node_s rfl rfl rfl rfl rfl (comp_2 (σ₁ := σ) ?_ ?_) rfl rfl rfl)
    · refine kE_of.trans ?_
      apply call_s e
      · exact ih (k := k) (M := M) (by omega) hl.1 hu (by omega) (by show i + (0 : Int) = _; omega)
      exact rfl
    · refine kE_of.trans ?_
      apply call_s e
      · exact jh (k := k) (M := M) (by omega) hl.2 hu (by omega) (by show i + (0 : Int) = _; omega)
      exact rfl
  | c z =>
    intro d k M i u σ hd hl hu hM hi
    refine t9.run rfl fun Φ e => ?_
    apply call_s e
    · exact s_index (t := .c z) fun m q => nomatch q
    apply call_s e
    · exact s_below (.c z)
    exact rfl
end Mine
end
-- part P7
section
open PySem PySem.W PyProof.Rows
namespace Mine

noncomputable def b0 : { b : List PS // (fn01 "part_at").body = b } := by
  refine ⟨?b, ?h⟩
  case h => conv => lhs; reduce
theorem t0 : Tx 0 "part_at" 2 3 b0.1 := ⟨rfl, by kernel_rfl, by kernel_rfl, by kernel_rfl, b0.2⟩
/-- the body of the first loop -/
noncomputable def lbody : List PS → List PS
  | [] => []
  | s :: r => match s with
    | .fr _ _ b _ => b
    | .whl _ b _ => b
    | _ => lbody r
noncomputable def Tm.kid : Tm → Nat → Option Tm
  | .lam a, k => match k with
    | 0 => some a
    | _ => none
  | .app a b, k => match k with
    | 0 => some a
    | 1 => some b
    | _ => none
  | _, _ => none
noncomputable def Tm.at : Tm → List Nat → Option Tm
  | t, [] => some t
  | t, k :: p => (t.kid k).bind fun x => x.at p
noncomputable def pp (p : List Nat) : List PV := p.map fun (k : Nat) => PV.int (k : Int)
theorem kid_ok {Φ : Phi} {t x : Tm} {k : Nat} {y : PV} {σ : St} (h : t.kid k = some x) : evSs Φ 1000 (lbody b0.1) [some t.pv, some y, some (.int k)] σ = .ok (.nx [some x.pv, some y, some (.int k)]) σ := by
  rw [kB_of]
  match t, k, h with
  | .lam a, 0, h => cases h; rfl
  | .app a b, 0, h => cases h; rfl
  | .app a b, 1, h => cases h; rfl
theorem kJ_2' {Φ : Phi} {β : Type} {s : Str} {k : Nat} {p : Pos} {i : Nat} {x : Str} {q r : Pos} {ρ : Vars} {σ : St} {kk : PV → St → Res β} {j : Int} {n : Nat} {z : Res β} (hj : j = n) (hv : vget ρ i = some (.int j)) (h0 : n < 1000)
    (l1 : s.length ≤ 1000) (e : ∀ t, kk (.str t) σ = z) : kJ Φ [.cst (.str s) k p, .fvl (.var i x q) r] Str.empty ρ σ kk = z := by
  subst hj
  exact kJ_2 hv (nat_9 h0) (Nat.le_trans (Nat.le_of_eq (Nat.zero_add _)) (Nat.le_trans l1 (by decide))) (vt_len h0 l1) (e _)
theorem kid_x {Φ : Phi} {x y : PV} {i : Int} {n m : Nat} {σ : St} (hi : i = n) (hn : n < 1000) (hm : lenv σ x = some m) (h : m ≤ 10) (q : m ≤ n + 1) : evSs Φ 1000 (lbody b0.1) [some x, some y, some (.int i)] σ = .exc σ := by
  rw [kB_of]
  have h2 : blt σ .len x = some (.int m) := by show (lenv σ x).bind _ = _; rw [hm]; exact gd_t (small_of (by omega))
  refine br_d (by omega) (wit_s h2 ?_)
  refine br_t (by show (!decide (i < (m : Int) - 1)) = true; rw [decide_eq_false (by omega)]; rfl) ?_
  exact kSs_rse.trans (kJ_2' hi rfl hn (by decide) fun t => rfl)
theorem kid_no {Φ : Phi} {t : Tm} {k : Nat} {y : PV} {σ : St} (hk : k < 1000) (h : t.kid k = none) : evSs Φ 1000 (lbody b0.1) [some t.pv, some y, some (.int k)] σ = .exc σ := by
  match t, k, h with
  | .v n, k, h => exact kid_x (m := 1) rfl hk rfl (by omega) (by omega)
  | .lam a, k + 1, h => exact kid_x (m := 2) rfl hk rfl (by omega) (by omega)
  | .app a b, k + 2, h => exact kid_x (m := 3) rfl hk rfl (by omega) (by omega)
  | .c z, k, h => exact kid_x (m := 1) rfl hk rfl (by omega) (by omega)
theorem pa_ok {Φ : Phi} {y : PV} {σ : St} : ∀ {q : List Nat} {t x : Tm} {z : Option PV}, t.at q = some x → ∃ z', ∀ s p, frGo (fun ρ σ => evSs Φ 1000 (lbody b0.1) ρ σ) (.name 2 s p) (pp q) [some t.pv, some y, z] σ = .ok (.nx [some x.pv, some y, z']) σ
  | [], t, x, z, h => by cases h; exact ⟨z, fun _ _ => rfl⟩
  | k :: q, t, x, z, h => by
    obtain ⟨a, e, h⟩ := Option.bind_eq_some_iff.mp h
    obtain ⟨z', r⟩ := pa_ok (q := q) (z := some (.int k)) h
    exact ⟨z', fun s p => frGo_cons.trans (wit_s rfl (bind_s (kid_ok (y := y) e) (r s p)))⟩
theorem pa_no {Φ : Phi} {s : Str} {p : Pos} {y : PV} {σ : St} : ∀ {q : List Nat} {t : Tm} {z : Option PV}, (∀ k ∈ q, k < 1000) → t.at q = none → frGo (fun ρ σ => evSs Φ 1000 (lbody b0.1) ρ σ) (.name 2 s p) (pp q) [some t.pv, some y, z] σ = .exc σ
  | k :: q, t, z, m, h => by
    cases e : t.kid k with
    | none => exact frGo_cons.trans (wit_s rfl (bind_x (kid_no (y := y) (m k (.head _)) e)))
    | some a =>
      have h : a.at q = none := by rw [Tm.at, e] at h; exact h
      exact frGo_cons.trans (wit_s rfl (bind_s (kid_ok (y := y) e) (pa_no (fun k w => m k (.tail _ w)) h)))
theorem pp_len {q : List Nat} : (pp q).length = q.length := List.length_map _
theorem s_part {d : Nat} {t x : Tm} {q : List Nat} {σ : St} (hq : q.length ≤ 1000) (h : t.at q = some x) : phi L01 (d + 1) 0 [t.pv, .tup (pp q)] σ = .ok x.pv σ := by
  refine t0.run rfl fun Φ e => ?_
  obtain ⟨z', r⟩ := pa_ok (Φ := Φ) (y := .tup (pp q)) (z := none) (σ := σ) h
  refine wit_s (gd_t (small_of (by rw [pp_len]; omega))) ?_
  apply bind_s
  · exact r _ _
  exact rfl
theorem s_part_x {d : Nat} {t : Tm} {q : List Nat} {σ : St} (hq : q.length ≤ 1000) (m : ∀ k ∈ q, k < 1000) (h : t.at q = none) : phi L01 (d + 1) 0 [t.pv, .tup (pp q)] σ = .exc σ := by
  refine t0.run rfl fun Φ e => ?_
  refine wit_s (gd_t (small_of (by rw [pp_len]; omega))) ?_
  apply bind_x
  exact pa_no m h
end Mine
end
-- part P8
section
open PySem PySem.W PyProof.Rows
namespace Mine

noncomputable def b1 : { b : List PS // (fn01 "replaced").body = b } := by
  refine ⟨?b, ?h⟩
  case h => conv => lhs; reduce
theorem t1 : Tx 1 "replaced" 3 4 b1.1 := ⟨rfl, by kernel_rfl, by kernel_rfl, by kernel_rfl, b1.2⟩
noncomputable def b10 : { b : List PS // (fn01 "is_redex").body = b } := by
  refine ⟨?b, ?h⟩
  case h => conv => lhs; reduce
theorem t10 : Tx 10 "is_redex" 1 1 b10.1 := ⟨rfl, by kernel_rfl, by kernel_rfl, by kernel_rfl, b10.2⟩
noncomputable def b11 : { b : List PS // (fn01 "beta").body = b } := by
  refine ⟨?b, ?h⟩
  case h => conv => lhs; reduce
theorem t11 : Tx 11 "beta" 2 3 b11.1 := ⟨rfl, by kernel_rfl, by kernel_rfl, by kernel_rfl, b11.2⟩
noncomputable def Tm.rep : Tm → List Nat → Tm → Tm
  | _, [], u => u
  | .lam a, _ :: p, u => .lam (a.rep p u)
  | .app a b, k :: p, u => match k with
    | 0 => .app (a.rep p u) b
    | _ => .app a (b.rep p u)
  | t, _ :: _, _ => t
theorem dep_pp : ∀ {p : List Nat}, PV.deps (pp p) = 0
  | [] => rfl
  | k :: p => by show max 0 (PV.deps (pp p)) = 0; rw [dep_pp]; rfl
theorem pp_nil {k : Nat} {p : List Nat} {σ : St} : cmpv σ .Eq (.tup (pp (k :: p))) (.tup []) = some false := by
  refine gd_t (x := false) ?_
  show decide (PV.deps (pp (k :: p)) + 1 ≤ 1000) = true
  rw [dep_pp]; rfl
theorem s_rep : ∀ {p : List Nat} {t x u : Tm} {d : Nat} {σ : St}, t.at p = some x → p.length ≤ d → d ≤ 2000 → phi L01 (d + 2) 1 [t.pv, .tup (pp p), u.pv] σ = .ok (t.rep p u).pv σ
  | [], t, x, u, d, σ, h, hp, hd => by
    have e : t.rep [] u = u := by cases t <;> rfl
    rw [e]
    exact t1.st rfl rfl
  | k :: p, t, x, u, d, σ, h, hp, hd => by
    obtain ⟨a, e, h⟩ := Option.bind_eq_some_iff.mp h
    obtain ⟨d, rfl⟩ : ∃ e, d = e + 1 := ⟨d - 1, by have : p.length + 1 ≤ d := hp; omega⟩
    have hp : p.length ≤ d := Nat.le_of_succ_le_succ hp
    have s1 : small (pp (k :: p)).length = true := small_of (by rw [pp_len]; show p.length + 1 ≤ _; omega)
    have f1 : upTo (.tup (pp (k :: p))) (.int 1) = some (.tup (pp [k])) := gd_t s1
    have f2 : fromAt (.tup (pp (k :: p))) (.int 1) = some (.tup (pp p)) := gd_t s1
    have i1 : item σ (.tup (pp (k :: p))) (.int (Int.ofNat 0)) = some (.int k) := by
      show (place (pp (k :: p)).length 0).bind _ = _
      have : place (pp (k :: p)).length 0 = some 0 := gd_t (decide_eq_true ⟨by decide, by rw [pp_len]; show (0 : Int) < ((p.length + 1 : Nat) : Int); omega, by decide⟩)
      rw [this]; rfl
    have pa : phi L01 (d + 2) 0 [t.pv, .tup (pp [k])] σ = .ok a.pv σ := s_part (d := d + 1) (by show 1 ≤ _; omega) (by show (t.kid k).bind (fun x => some x) = _; rw [e]; rfl)
    have ih := s_rep (u := u) (σ := σ) h hp (by omega)
    refine t1.run rfl fun Φ e' => ?_
    refine wit_s pp_nil (wit_s f1 ?_)
    apply call_s e'
    · exact pa
    cases t with
    | lam b =>
      cases k with
      | zero =>
        cases e
        refine wit_s i1 (wit_s f2 ?_)
        apply call_s e'
        · exact ih
        exact wit_s i1 rfl
      | succ => cases e
    | app b c =>
      cases k with
      | zero =>
        cases e
        refine wit_s i1 (wit_s f2 ?_)
        apply call_s e'
        · exact ih
        exact wit_s i1 rfl
      | succ k =>
        cases k with
        | zero =>
          cases e
          refine wit_s i1 (wit_s f2 ?_)
          apply call_s e'
          · exact ih
          exact wit_s i1 rfl
        | succ => cases e
    | _ => cases e
noncomputable def Tm.isLam : Tm → Bool
  | .lam _ => true
  | _ => false
noncomputable def Tm.red : Tm → Bool
  | .app a _ => a.isLam
  | _ => false
theorem s_red {d : Nat} {t : Tm} {σ : St} : phi L01 (d + 2) 10 [t.pv] σ = .ok (.bool t.red) σ := by
  refine t10.run rfl fun Φ e => ?_
  cases t with
  | v n =>
    have h : (vt n == sapp) = false := str_ne (by decide)
    exact br_f (congrArg (· == true) h) (by show Res.ok (PV.bool (vt n == sapp)) σ = _; rw [h]; rfl)
  | lam a => rfl
  | app a b =>
    apply call_s e
    · exact s_below a
    cases a <;> rfl
  | c z => cases z <;> rfl
theorem s_beta {d : Nat} {t a b : Tm} {q : List Nat} {σ : St} (h : t.at q = some (.app (.lam a) b)) (hq : q.length ≤ d) (hd : d ≤ 1000) (ha : a.ht + b.ht ≤ d) (hl : a.lt 400) (hb : b.lt 400) (hh : a.ht ≤ 400) : phi L01 (d + 7) 11 [t.pv, .tup (pp q)] σ = .ok (t.rep q (a.put 0 b)).pv σ := by
  refine t11.run rfl fun Φ e => ?_
  apply call_s e
  · exact s_part (d := d + 5) (by omega) h
  apply call_s e
  · exact s_red (d := d + 4)
  apply call_s e
  · exact s_put a (k := 0) (u := b) (M := 400) ha (lt_mono (by decide) a hl) hb (by omega) rfl
  apply call_s e
  · exact s_rep (u := a.put 0 b) h (d := d + 4) (by omega) (by omega)
  exact rfl
theorem s_beta_x {d : Nat} {t : Tm} {q : List Nat} {σ : St} (hq : q.length ≤ 1000) (m : ∀ k ∈ q, k < 1000) (h : ∀ x, t.at q = some x → x.red = false) : phi L01 (d + 7) 11 [t.pv, .tup (pp q)] σ = .exc σ := by
  refine t11.run rfl fun Φ e => ?_
  cases w : t.at q with
  | none =>
    apply call_x e
    exact s_part_x (d := d + 5) hq m w
  | some x =>
    apply call_s e
    · exact s_part (d := d + 5) hq w
    apply call_s e
    · exact s_red (d := d + 4)
    exact br_t (by show (!x.red) = true; rw [h x w]; rfl) rfl
end Mine
end
-- part P9
section
open PySem PySem.W PyProof.Rows
namespace Mine

theorem comp_1n {tst elt : Vars → St → Res PV} {i : Nat} {x : Str} {p : Pos} {y : PV} {ρ : Vars} {σ σ' : St} (h : tst (ρ.set i (some y)) σ = .ok (.bool false) σ') : compGo tst elt (.name i x p) [y] ρ [] σ = .ok [] σ' := by
  rw [compGo_cons]
  exact wit_s rfl (bind_s h rfl)
theorem comp_2n {tst elt : Vars → St → Res PV} {i : Nat} {x : Str} {p : Pos} {y y' : PV} {ρ : Vars} {σ σ₁ σ' : St} (h : tst (ρ.set i (some y)) σ = .ok (.bool false) σ₁) (h' : tst ((ρ.set i (some y)).set i (some y')) σ₁ = .ok (.bool false) σ') :
    compGo tst elt (.name i x p) [y, y'] ρ [] σ = .ok [] σ' := by
  rw [compGo_cons]
  refine wit_s rfl (bind_s h ?_)
  show compGo _ _ _ [y'] _ [] σ₁ = _
  rw [compGo_cons]
  exact wit_s rfl (bind_s h' rfl)
noncomputable def b12 : { b : List PS // (fn01 "is_closed_below").body = b } := by
  refine ⟨?b, ?h⟩
  case h => conv => lhs; reduce
theorem t12 : Tx 12 "is_closed_below" 2 3 b12.1 := ⟨rfl, by kernel_rfl, by kernel_rfl, by kernel_rfl, b12.2⟩
noncomputable def b13 : { b : List PS // (fn01 "is_closed").body = b } := by
  refine ⟨?b, ?h⟩
  case h => conv => lhs; reduce
theorem t13 : Tx 13 "is_closed" 1 1 b13.1 := ⟨rfl, by kernel_rfl, by kernel_rfl, by kernel_rfl, b13.2⟩
/-- no names from outside, but for n -/
noncomputable def Tm.cl : Tm → Nat → Prop
  | .v m, n => m < n
  | .lam a, n => a.cl (n + 1)
  | .app a b, n => a.cl n ∧ b.cl n
  | .c _, _ => True
theorem iff_o {Φ : Phi} {β : Type} {fuel i k1 : Nat} {ρ : Vars} {σ : St} {x : Str} {p1 p2 p3 p4 : Pos} {op : CmpOp} {j : Int} {b ks : List PS} {kn : Vars → St → Res β} {kk : PV → St → Res β} {v : PV} {r : Res β}
    (hv : vget ρ i = some v) (hc : cmpv σ op v (.int j) = some false) (h : kSs Φ fuel ks ρ σ kn kk = r) : kSs Φ fuel (.iff (.cmp (.var i x p1) op (.cst (.int j) k1 p2) p3) b [] p4 :: ks) ρ σ kn kk = r := wit_s hv (wit_s hc h)
theorem clos_s {Φ : Phi} {β : Type} {fuel i k1 : Nat} {ρ : Vars} {σ σ' : St} {x : Str} {p1 p2 p3 p4 p5 p6 p7 p8 : Pos} {j : Int} {elt : PE} {ifs : List PE} {tg : Tgt} {caps : List Nat} {sc : Scope} {op : CmpOp} {ks : List PS} {kn : Vars → St → Res β} {kk : PV → St → Res β} {v l : PV} {xs ys : List PV} {b : Bool} {r : Res β}
    (hv : vget ρ i = some v) (hl : fromAt v (.int j) = some l) (hx : srcv none l = some xs) (hc : compGo (fun ρ σ => evB Φ .And ifs ρ σ) (fun ρ σ => evE Φ elt ρ σ) tg xs (capsOf caps 2 ρ) [] σ = .ok ys σ') (hb : cmpv σ' op (.lst ys) (.lst []) = some b) (hk : kk (.bool b) σ' = r) :
    kSs Φ fuel (.ret (.cmp (.comp elt tg none (.slF (.var i x p1) (.cst (.int j) k1 p2) p3 p4) ifs caps sc p5) op (.lst [] p6) p7) p8 :: ks) ρ σ kn kk = r :=
  wit_s hv (wit_s hl (wit_s hx (cmp_s hc (wit_s hb hk))))
theorem s_closed (t : Tm) : ∀ {d n : Nat} {i : Int} {σ : St}, t.ht ≤ d → t.lt 1000 → t.cl n → i = n → phi L01 (d + 4) 12 [t.pv, .int i] σ = .ok (.bool true) σ := by
  induction t with
  | v m =>
    intro d n i σ hd hl hc hi
    have hc : m < n := hc
    refine t12.run rfl fun Φ e => ?_
    apply call_s e
    · exact s_index (t := .v m) (idx_v hl)
    show Res.ok (PV.bool (decide ((m : Int) < i))) σ = _
    rw [decide_eq_true (by omega)]
  | lam a ih =>
    intro d n i σ hd hl hc hi
    obtain ⟨d, rfl⟩ : ∃ e, d = e + 1 := ⟨d - 1, by have : a.ht + 1 ≤ d := hd; omega⟩
    refine t12.run rfl fun Φ e => ?_
    apply call_s e
    · exact s_index (t := .lam a) fun m q => nomatch q
    refine iff_o rfl rfl (clos_s (σ' := σ) rfl rfl rfl (comp_1n ?_) rfl rfl)
    refine evB_of.trans ?_
    apply call_s e
    · exact s_below (.lam a)
    apply call_s e
    · exact ih (n := n + 1) (Nat.le_of_succ_le_succ hd) hl hc (by show i + (1 : Int) = _; omega)
    exact rfl
  | app a b ih jh =>
    intro d n i σ hd hl hc hi
    have hd : max a.ht b.ht + 1 ≤ d := hd
    obtain ⟨d, rfl⟩ : ∃ e, d = e + 1 := ⟨d - 1, by omega⟩
    refine t12.run rfl fun Φ e => ?_
    apply call_s e
    · exact s_index (t := .app a b) fun m q => nomatch q
    refine iff_o rfl rfl (clos_s (σ' := σ) rfl rfl rfl (comp_2n (σ₁ := σ) ?_ ?_) rfl rfl)
    · refine evB_of.trans ?_
      apply call_s e
      · exact s_below (.app a b)
      apply call_s e
      · exact ih (n := n) (by omega) hl.1 hc.1 (by show i + (0 : Int) = _; omega)
      exact rfl
    · refine evB_of.trans ?_
      apply call_s e
      · exact s_below (.app a b)
      apply call_s e
      · exact jh (n := n) (by omega) hl.2 hc.2 (by show i + (0 : Int) = _; omega)
      exact rfl
  | c z =>
    intro d n i σ hd hl hc hi
    refine t12.run rfl fun Φ e => ?_
    apply call_s e
    · exact s_index (t := .c z) fun m q => nomatch q
    exact rfl
theorem s_isclosed {t : Tm} {d : Nat} {σ : St} (hd : t.ht ≤ d) (hl : t.lt 1000) (hc : t.cl 0) : phi L01 (d + 5) 13 [t.pv] σ = .ok (.bool true) σ := by
  refine t13.run rfl fun Φ e => ?_
  apply call_s e
  · exact s_closed t hd hl hc rfl
  exact rfl
end Mine
end
-- part P10
section
open PySem PySem.W PyProof.Rows
namespace Mine

noncomputable def b14 : { b : List PS // (fn01 "_law_coin").body = b } := by
  refine ⟨?b, ?h⟩
  case h => conv => lhs; reduce
theorem t14 : Tx 14 "_law_coin" 2 2 b14.1 := ⟨rfl, by kernel_rfl, by kernel_rfl, by kernel_rfl, b14.2⟩
noncomputable def b15 : { b : List PS // (fn01 "_law_var").body = b } := by
  refine ⟨?b, ?h⟩
  case h => conv => lhs; reduce
theorem t15 : Tx 15 "_law_var" 1 1 b15.1 := ⟨rfl, by kernel_rfl, by kernel_rfl, by kernel_rfl, b15.2⟩
noncomputable def b16 : { b : List PS // (fn01 "_law_row").body = b } := by
  refine ⟨?b, ?h⟩
  case h => conv => lhs; reduce
theorem t16 : Tx 16 "_law_row" 2 3 b16.1 := ⟨rfl, by kernel_rfl, by kernel_rfl, by kernel_rfl, b16.2⟩
noncomputable def b17 : { b : List PS // (fn01 "_law_lams").body = b } := by
  refine ⟨?b, ?h⟩
  case h => conv => lhs; reduce
theorem t17 : Tx 17 "_law_lams" 2 3 b17.1 := ⟨rfl, by kernel_rfl, by kernel_rfl, by kernel_rfl, b17.2⟩
noncomputable def b18 : { b : List PS // (fn01 "_law_numeral").body = b } := by
  refine ⟨?b, ?h⟩
  case h => conv => lhs; reduce
theorem t18 : Tx 18 "_law_numeral" 1 3 b18.1 := ⟨rfl, by kernel_rfl, by kernel_rfl, by kernel_rfl, b18.2⟩
noncomputable def b19 : { b : List PS // (fn01 "_law_plus").body = b } := by
  refine ⟨?b, ?h⟩
  case h => conv => lhs; reduce
theorem t19 : Tx 19 "_law_plus" 0 1 b19.1 := ⟨rfl, by kernel_rfl, by kernel_rfl, by kernel_rfl, b19.2⟩
noncomputable def b20 : { b : List PS // (fn01 "_law_sum").body = b } := by
  refine ⟨?b, ?h⟩
  case h => conv => lhs; reduce
theorem t20 : Tx 20 "_law_sum" 2 9 b20.1 := ⟨rfl, by kernel_rfl, by kernel_rfl, by kernel_rfl, b20.2⟩
noncomputable def scell : Str := ⟨⟨[99,101,108,108,115]⟩⟩
noncomputable def sthr : Str := ⟨⟨[116,104,114,111,119,110]⟩⟩
noncomputable def pst (cs : List Int) (i : Int) (r : St) : St := .tbl :: .dct [(scell, .lst (cs.map .int)), (sthr, .int i)] :: r
theorem place_s {m n : Nat} {i : Int} (hi : i = n) (h : n < m) (hn : n < 1000000000) : place m i = some n := by
  subst hi
  exact gd_t (decide_eq_true ⟨by omega, by omega, by omega⟩)
theorem itemI_s {xs : List PV} {n : Nat} {i : Int} {x : PV} (hi : i = n) (hn : n < 1000000000) (h : xs[n]? = some x) : itemI xs (.int i) = some x := by
  show (place xs.length i).bind _ = _
  rw [place_s hi (List.getElem?_eq_some_iff.mp h).1 hn]
  exact h
theorem mod_s {i j : Int} (h : 0 < j) : bin .Mod (.int i) (.int j) = some (.int (i.fmod j)) := gd_t (decide_eq_true h)
theorem mul_s {i j : Int} (h : i.natAbs < 2 ^ 60) (h' : j.natAbs < 2 ^ 60) : bin .Mult (.int i) (.int j) = some (.int (i * j)) := gd_t (decide_eq_true ⟨h, h'⟩)
theorem fmod_nat {i : Int} {f : Nat} (h : 0 < f) : ∃ v : Nat, v < f ∧ i.fmod f = v := by
  have h0 : (f : Int) ≠ 0 := by omega
  have e : i.fmod f = i % f := Int.fmod_eq_emod_of_nonneg _ (by omega)
  have a := Int.emod_nonneg i h0
  have b := Int.emod_lt_of_pos i (by omega : (0 : Int) < f)
  exact ⟨(i % f).toNat, by omega, by omega⟩
theorem s_coin {d f : Nat} {cs : List Int} {n : Nat} {r : St} (hf : 0 < f) (hn : n < 1000) (hc : cs.length ≤ 1000) : ∃ v : Nat, v < f ∧ phi L01 (d + 1) 14 [.cell 1, .int f] (pst cs n r) = .ok (.int v) (pst cs (n + 1 : Nat) r) := by
  have hf' : (0 : Int) < f := by omega
  by_cases q : n + 1 ≤ cs.length
  · obtain ⟨v, hv, e⟩ := fmod_nat (i := cs[n]) hf
    refine ⟨v, hv, t14.run rfl fun Φ _ => ?_⟩
    have e1 : blt (pst cs (n + 1 : Nat) r) .len (.lst (cs.map .int)) = some (.int cs.length) := by
      show Option.bind (some (cs.map PV.int).length) (fun n : Nat => gd (small n) (PV.int n)) = _
      rw [List.length_map]
      exact gd_t (small_of (by omega))
    have e2 : item (pst cs (n + 1 : Nat) r) (.lst (cs.map .int)) (.int ((n + 1 : Nat) - 1)) = some (.int cs[n]) := itemI_s (n := n) (by omega) (by omega) (by rw [List.getElem?_map, List.getElem?_eq_getElem q]; rfl)
    refine wit_s e1 (br_d (by omega) (wit_s e2 (wit_s rfl (wit_s (mod_s hf') ?_))))
    rw [e]; rfl
  · obtain ⟨v, hv, e⟩ := fmod_nat (i := ((((n + 1 : Nat) : Int) * (n + 1 : Nat)) * 3 + ((n + 1 : Nat) : Int) * 5 + 1).fmod 71) hf
    refine ⟨v, hv, t14.run rfl fun Φ _ => ?_⟩
    have e1 : blt (pst cs (n + 1 : Nat) r) .len (.lst (cs.map .int)) = some (.int cs.length) := by
      show Option.bind (some (cs.map PV.int).length) (fun n : Nat => gd (small n) (PV.int n)) = _
      rw [List.length_map]
      exact gd_t (small_of (by omega))
    refine wit_s e1 (br_n (by omega) ?_)
    have lt : ((n + 1 : Nat) : Int).natAbs < 2 ^ 60 := by omega
    have l2 : (((n + 1 : Nat) : Int) * ((n + 1 : Nat) : Int)).natAbs < 2 ^ 60 := by
      rw [Int.natAbs_mul, Int.natAbs_natCast]
      exact Nat.lt_of_le_of_lt (Nat.mul_le_mul (by omega : n + 1 ≤ 1000) (by omega : n + 1 ≤ 1000)) (by decide)
    refine wit_s (mul_s lt lt) (wit_s (mul_s l2 (by decide)) (wit_s (mul_s lt (by decide)) ?_))
    refine wit_s rfl ?_
    refine wit_s (mod_s hf') ?_
    show Res.ok (PV.int (((((n + 1 : Nat) : Int) * (n + 1 : Nat)) * 3 + ((n + 1 : Nat) : Int) * 5 + 1).fmod 71 |>.fmod f)) _ = _
    rw [e]; rfl
end Mine
end
-- part P11
section
open PySem PySem.W PyProof.Rows
namespace Mine

noncomputable def lams : Nat → Tm → Tm
  | 0, t => t
  | n + 1, t => .lam (lams n t)
noncomputable def numB : Nat → Tm
  | 0 => .v 0
  | n + 1 => .app (.v 1) (numB n)
noncomputable def num (n : Nat) : Tm := .lam (.lam (numB n))
noncomputable def plusT : Tm := lams 4 (.app (.app (.v 3) (.v 1)) (.app (.app (.v 2) (.v 1)) (.v 0)))
noncomputable def prodT : Tm := lams 3 (.app (.v 2) (.app (.v 1) (.v 0)))
noncomputable def idT : Tm := .lam (.v 0)
noncomputable def dupT : Tm := .lam (.app (.app plusT (.v 0)) (.v 0))
theorem s_num0 {d : Nat} {σ : St} : phi L01 (d + 2) 18 [.int (0 : Nat)] σ = .ok (num 0).pv σ := by kernel_rfl
theorem s_num1 {d : Nat} {σ : St} : phi L01 (d + 2) 18 [.int (1 : Nat)] σ = .ok (num 1).pv σ := by kernel_rfl
theorem s_num2 {d : Nat} {σ : St} : phi L01 (d + 2) 18 [.int (2 : Nat)] σ = .ok (num 2).pv σ := by kernel_rfl
theorem s_plus {d : Nat} {σ : St} : phi L01 (d + 2) 19 [] σ = .ok plusT.pv σ := by kernel_rfl
theorem s_v0 {d : Nat} {σ : St} : phi L01 (d + 1) 15 [.int 0] σ = .ok (Tm.v 0).pv σ := by kernel_rfl
theorem s_v1 {d : Nat} {σ : St} : phi L01 (d + 1) 15 [.int 1] σ = .ok (Tm.v 1).pv σ := by kernel_rfl
theorem s_v2 {d : Nat} {σ : St} : phi L01 (d + 1) 15 [.int 2] σ = .ok (Tm.v 2).pv σ := by kernel_rfl
theorem s_row2 {d : Nat} {h a b : Tm} {σ : St} : phi L01 (d + 1) 16 [h.pv, .lst [a.pv, b.pv]] σ = .ok (Tm.app (.app h a) b).pv σ := t16.run rfl fun Φ _ => by kernel_rfl
theorem s_row1 {d : Nat} {h a : Tm} {σ : St} : phi L01 (d + 1) 16 [h.pv, .lst [a.pv]] σ = .ok (Tm.app h a).pv σ := t16.run rfl fun Φ _ => by kernel_rfl
theorem s_lam1 {d : Nat} {a : Tm} {σ : St} : phi L01 (d + 1) 17 [.int 1, a.pv] σ = .ok (Tm.lam a).pv σ := t17.run rfl fun Φ _ => by kernel_rfl
theorem s_lam3 {d : Nat} {a : Tm} {σ : St} : phi L01 (d + 1) 17 [.int 3, a.pv] σ = .ok (lams 3 a).pv σ := t17.run rfl fun Φ _ => by kernel_rfl
end Mine
end
-- part P12
section
open PySem PySem.W PyProof.Rows
namespace Mine

/-- what a sum comes to -/
inductive Sm : Nat → Tm → Nat → Prop where
  | num {k m : Nat} (h : m < 3) : Sm k (num m) m
  | idn {k m : Nat} {t : Tm} (h : Sm k t m) : Sm (k + 1) (.app idT t) m
  | dup {k m : Nat} {t : Tm} (h : Sm k t m) : Sm (k + 1) (.app dupT t) (2 * m)
  | plus {k m m' : Nat} {t t' : Tm} (h : Sm k t m) (h' : Sm k t' m') : Sm (k + 1) (.app (.app plusT t) t') (m + m')
  | prod {k m m' : Nat} {t t' : Tm} (h : Sm k t m) (h' : Sm k t' m') : Sm (k + 1) (.app (.app prodT t) t') (m * m')
noncomputable def bnd : Nat → Nat
  | 0 => 2
  | k + 1 => bnd k * bnd k
theorem bnd2 : ∀ {k : Nat}, 2 ≤ bnd k
  | 0 => Nat.le_refl _
  | k + 1 => Nat.le_trans (bnd2 (k := k)) (Nat.le_mul_of_pos_right _ (Nat.lt_of_lt_of_le (by decide) bnd2))
theorem Sm.le {k m : Nat} {t : Tm} (h : Sm k t m) : m ≤ bnd k := by
  induction h with
  | @num k m h => exact Nat.le_trans (Nat.le_of_lt_succ h) bnd2
  | @idn k m t h ih => exact Nat.le_trans ih (Nat.le_mul_of_pos_right _ (Nat.lt_of_lt_of_le (by decide) bnd2))
  | @dup k m t h ih => exact Nat.mul_le_mul bnd2 ih
  | @plus k m m' t t' h h' ih jh => exact Nat.le_trans (Nat.add_le_add ih jh) (Nat.le_trans (Nat.le_of_eq (Nat.two_mul _).symm) (Nat.mul_le_mul_right _ bnd2))
  | @prod k m m' t t' h h' ih jh => exact Nat.mul_le_mul ih jh
noncomputable def cst : Nat → Nat
  | 0 => 2
  | k + 1 => 1 + (cst k + cst k)
theorem s_numl {d m : Nat} {i : Int} {σ : St} (h : m < 3) (hi : i = m) : phi L01 (d + 2) 18 [.int i] σ = .ok (num m).pv σ := by
  subst hi
  match m, h with
  | 0, _ => exact s_num0
  | 1, _ => exact s_num1
  | 2, _ => exact s_num2
theorem cst2 : ∀ {k : Nat}, 2 ≤ cst k
  | 0 => Nat.le_refl _
  | k + 1 => by have := cst2 (k := k); show 2 ≤ 1 + (cst k + cst k); omega
theorem bnd_lt {k : Nat} (h : k ≤ 1) : bnd k < 1000 := by
  match k, h with
  | 0, _ => decide
  | 1, _ => decide
/-- what _law_sum does -/
noncomputable def SumOk (d k : Nat) (cs : List Int) (n : Nat) (r : St) : Prop := ∃ t m n', Sm k t m ∧ n ≤ n' ∧ n' ≤ n + cst k ∧ phi L01 (d + k + 3) 20 [.cell 1, .int k] (pst cs n r) = .ok (.tup [t.pv, .int (m : Nat)]) (pst cs (n' : Nat) r)
theorem sum_n {d k n : Nat} {cs : List Int} {r : St} (hc : cs.length ≤ 1000) (hn : n < 900) {way : Nat} (hw : way < 2)
    (h : phi L01 (d + 2) 14 [.cell 1, .int (br (decide ((k : Int) > 0)) 6 2)] (pst cs n r) = .ok (.int way) (pst cs (n + 1 : Nat) r)) :
    ∃ m, m < 3 ∧ phi L01 (d + 3) 20 [.cell 1, .int k] (pst cs n r) = .ok (.tup [(num m).pv, .int (m : Nat)]) (pst cs (n + 2 : Nat) r) := by
  obtain ⟨m, hm, e2⟩ := s_coin (d := d + 1) (f := 3) (cs := cs) (n := n + 1) (r := r) (by omega) (by omega) hc
  refine ⟨m, hm, t20.run rfl fun Φ e => ?_⟩
  generalize hi : (k : Int) = i at *
  by_cases q : i > 0
  · refine br_d q ?_
    rw [decide_eq_true q] at h
    apply call_s e
    · exact h
    refine br_d (by show (way : Int) < 2; omega) ?_
    apply call_s e
    · exact e2
    apply call_s e
    · exact s_numl hm rfl
    exact rfl
  · refine br_n q ?_
    rw [decide_eq_false q] at h
    apply call_s e
    · exact h
    refine br_d (by show (way : Int) < 2; omega) ?_
    apply call_s e
    · exact e2
    apply call_s e
    · exact s_numl hm rfl
    exact rfl

theorem s_sum : ∀ (k : Nat) {d n : Nat} {cs : List Int} {r : St}, k ≤ 2 → n + cst k ≤ 900 → cs.length ≤ 1000 → SumOk d k cs n r
  | 0, d, n, cs, r, hk, hn, hc => by
    have hn : n + 2 ≤ 900 := hn
    obtain ⟨w, hw, e⟩ := s_coin (d := d + 1) (f := 2) (cs := cs) (n := n) (r := r) (by omega) (by omega) hc
    obtain ⟨m, hm, h⟩ := sum_n (k := 0) hc (by omega) hw e
    exact ⟨num m, m, n + 2, .num hm, by omega, by show n + 2 ≤ n + 2; omega, h⟩
  | k + 1, d, n, cs, r, hk, hn, hc => by
    have hn : n + (1 + (cst k + cst k)) ≤ 900 := hn
    have c2 := cst2 (k := k)
    have g : ((k + 1 : Nat) : Int) > 0 := by omega
    obtain ⟨w, hw, e₁⟩ := s_coin (d := d + k + 2) (f := 6) (cs := cs) (n := n) (r := r) (by omega) (by omega) hc
    by_cases q : w < 2
    · obtain ⟨m, hm, h⟩ := sum_n (d := d + (k + 1)) (k := k + 1) (n := n) hc (by omega) q (by rw [decide_eq_true g]; exact e₁)
      exact ⟨num m, m, n + 2, .num hm, by omega, by show n + 2 ≤ n + (1 + (cst k + cst k)); omega, h⟩
    obtain ⟨t, m, n₁, s₁, l₁, l₁', h₁⟩ := s_sum k (d := d) (n := n + 1) (cs := cs) (r := r) (by omega) (by omega) hc
    have mb := Nat.lt_of_le_of_lt s₁.le (bnd_lt (k := k) (by omega))
    have b2 : bin .Mult (.int 2) (.int m) = some (.int (2 * m)) := mul_s (by decide) (by omega)
    obtain ⟨t', m', n₂, s₂, l₂, l₂', h₂⟩ := s_sum k (d := d) (n := n₁) (cs := cs) (r := r) (by omega) (by omega) hc
    have mb' := Nat.lt_of_le_of_lt s₂.le (bnd_lt (k := k) (by omega))
    have b3 : bin .Mult (.int m) (.int m') = some (.int (m * m')) := mul_s (by omega) (by omega)
    obtain ⟨i, hi⟩ : ∃ i : Int, i = (k + 1 : Nat) := ⟨_, rfl⟩
    have hk : i - 1 = (k : Int) := by omega
    rw [← hk] at h₁ h₂
    have body : ∀ {z : Res PV}, (∀ Φ, Φ = phi L01 (d + k + 3) → kSs Φ 1000 b20.1 ([.cell 1, .int i].map some ++ List.replicate 7 none) (pst cs n r) (fun _ σ => .ok .none σ) (fun v σ => .ok v σ) = z) → phi L01 (d + (k + 1) + 3) 20 [.cell 1, .int (k + 1 : Nat)] (pst cs n r) = z := fun h => by
      rw [← hi]; exact t20.run rfl h
    rw [← hi] at g
    match w, hw, q, e₁ with
    | 4, _, _, e₁ =>
      refine ⟨.app idT t, m, n₁, .idn s₁, by omega, by show _ ≤ n + (1 + (cst k + cst k)); omega, body fun Φ e => br_d g ?_⟩
      apply call_s e
      · exact e₁
      apply call_s e
      · exact h₁
      apply call_s e
      · exact s_v0
      apply call_s e
      · exact s_lam1
      exact rfl
    | 5, _, _, e₁ =>
      refine ⟨.app dupT t, 2 * m, n₁, .dup s₁, by omega, by show _ ≤ n + (1 + (cst k + cst k)); omega, body fun Φ e => br_d g ?_⟩
      apply call_s e
      · exact e₁
      apply call_s e
      · exact h₁
      apply call_s e
      · exact s_plus
      apply call_s e
      · exact s_v0
      apply call_s e
      · exact s_v0
      apply call_s e
      · exact s_row2
      apply call_s e
      · exact s_lam1
      exact wit_s b2 rfl
    | 2, _, _, e₁ =>
      refine ⟨.app (.app plusT t) t', m + m', n₂, .plus s₁ s₂, by omega, by show _ ≤ n + (1 + (cst k + cst k)); omega, body fun Φ e => br_d g ?_⟩
      apply call_s e
      · exact e₁
      apply call_s e
      · exact h₁
      apply call_s e
      · exact h₂
      apply call_s e
      · exact s_plus
      apply call_s e
      · exact s_row2
      exact rfl
    | 3, _, _, e₁ =>
      refine ⟨.app (.app prodT t) t', m * m', n₂, .prod s₁ s₂, by omega, by show _ ≤ n + (1 + (cst k + cst k)); omega, body fun Φ e => br_d g ?_⟩
      apply call_s e
      · exact e₁
      apply call_s e
      · exact h₁
      apply call_s e
      · exact h₂
      apply call_s e
      · exact s_v2
      apply call_s e
      · exact s_v1
      apply call_s e
      · exact s_v0
      apply call_s e
      · exact s_row1
      apply call_s e
      · exact s_row1
      apply call_s e
      · exact s_lam3
      apply call_s e
      · exact s_row2
      exact wit_s b3 rfl
end Mine
end
-- part P13
section
open PySem PySem.W PyProof.Rows
namespace Mine

/-- types with grades -/
inductive Ty where
  | o | ar (k : Nat) (A B : Ty)
noncomputable def Ty.D : Ty → Type
  | .o => Nat
  | .ar _ A B => A.D → B.D
/-- what a term tells: its type and value; how often the names are used at most; its weight at most -/
inductive Den : List (Sigma Ty.D) → Tm → (A : Ty) → A.D → (Nat → Nat) → Nat → Prop where
  | v {e : List (Sigma Ty.D)} {n : Nat} {A : Ty} {a : A.D} {u : Nat → Nat} {w : Nat} (h : e[n]? = some ⟨A, a⟩) (hu : 1 ≤ u n) (hw : 1 ≤ w) : Den e (.v n) A a u w
  | lam {e : List (Sigma Ty.D)} {t : Tm} {k : Nat} {A B : Ty} {f : A.D → B.D} {u u' : Nat → Nat} {w w' : Nat} (h : ∀ a, Den (⟨A, a⟩ :: e) t B (f a) u' w') (h0 : u' 0 ≤ k) (hu : ∀ i, u' (i + 1) ≤ u i) (hw : w' + 1 ≤ w) : Den e (.lam t) (.ar k A B) f u w
  | app {e : List (Sigma Ty.D)} {s t : Tm} {k : Nat} {A B : Ty} {f : A.D → B.D} {a : A.D} {u u1 u2 : Nat → Nat} {w w1 w2 : Nat} (h1 : Den e s (.ar k A B) f u1 w1) (h2 : Den e t A a u2 w2) (hk : 1 ≤ k) (hu : ∀ i, u1 i + k * u2 i ≤ u i) (hw : w1 + k * w2 + 1 ≤ w) : Den e (.app s t) B (f a) u w
  | z {e : List (Sigma Ty.D)} {u : Nat → Nat} {w : Nat} (hw : 1 ≤ w) : Den e (.c true) .o (0 : Nat) u w
  | s {e : List (Sigma Ty.D)} {u : Nat → Nat} {w : Nat} (hw : 1 ≤ w) : Den e (.c false) (.ar 1 .o .o) (fun x : Nat => x + 1) u w
theorem Den.mono {e : List (Sigma Ty.D)} {t : Tm} {A : Ty} {a : A.D} {u u' : Nat → Nat} {w w' : Nat} (h : Den e t A a u w) (hu : ∀ i, u i ≤ u' i) (hw : w ≤ w') : Den e t A a u' w' := by
  cases h with
  | v h q r => exact .v h (Nat.le_trans q (hu _)) (Nat.le_trans r hw)
  | lam h h0 q r => exact .lam h h0 (fun i => Nat.le_trans (q i) (hu i)) (Nat.le_trans r hw)
  | app h1 h2 hk q r => exact .app h1 h2 hk (fun i => Nat.le_trans (q i) (hu i)) (Nat.le_trans r hw)
  | z r => exact .z (Nat.le_trans r hw)
  | s r => exact .s (Nat.le_trans r hw)
/-- room for one name -/
noncomputable def ins (c : Nat) (u : Nat → Nat) (i : Nat) : Nat := if i < c then u i else if i = c then 0 else u (i - 1)
theorem ins_lt {c i : Nat} {u : Nat → Nat} (h : i < c) : ins c u i = u i := if_pos h
theorem ins_eq {c : Nat} {u : Nat → Nat} : ins c u c = 0 := (if_neg (Nat.lt_irrefl c)).trans (if_pos rfl)
theorem ins_gt {c i : Nat} {u : Nat → Nat} (h : c ≤ i) : ins c u (i + 1) = u i := (if_neg (by omega)).trans (if_neg (by omega))
noncomputable def con (k : Nat) (u : Nat → Nat) : Nat → Nat
  | 0 => k
  | i + 1 => u i
theorem Den.up {e : List (Sigma Ty.D)} {t : Tm} {A : Ty} {a : A.D} {u : Nat → Nat} {w : Nat} (h : Den e t A a u w) : ∀ {e' : List (Sigma Ty.D)} {u' : Nat → Nat} {c : Nat}, (∀ i, i < c → e'[i]? = e[i]?) → (∀ i, c ≤ i → e'[i + 1]? = e[i]?) → (∀ i, i < c → u i ≤ u' i) → (∀ i, c ≤ i → u i ≤ u' (i + 1)) → Den e' (t.up c) A a u' w := by
  induction h with
  | @v e n A a u w h hu hw =>
    intro e' u' c a1 a2 a3 a4
    by_cases q : c ≤ n
    · rw [up_ge q]; exact .v ((a2 n q).trans h) (Nat.le_trans hu (a4 n q)) hw
    · rw [up_lt q]; exact .v ((a1 n (by omega)).trans h) (Nat.le_trans hu (a3 n (by omega))) hw
  | @lam e t k A B f u u' w w' h h0 hu hw ih =>
    intro e' v c a1 a2 a3 a4
    refine .lam (u' := con (u' 0) v) (fun a => ih a (fun i q => ?_) (fun i q => ?_) (fun i q => ?_) (fun i q => ?_)) h0 (fun i => Nat.le_refl _) hw
    · cases i with
      | zero => rfl
      | succ i => exact a1 i (by omega)
    · cases i with
      | zero => omega
      | succ i => exact a2 i (by omega)
    · cases i with
      | zero => exact Nat.le_refl _
      | succ i => exact Nat.le_trans (hu i) (a3 i (by omega))
    · cases i with
      | zero => omega
      | succ i => exact Nat.le_trans (hu i) (a4 i (by omega))
  | @app e s t k A B f a u u1 u2 w w1 w2 h1 h2 hk hu hw ih jh =>
    intro e' v c a1 a2 a3 a4
    refine .app (u1 := ins c u1) (u2 := ins c u2) (ih a1 a2 (fun i q => Nat.le_of_eq (ins_lt q).symm) (fun i q => Nat.le_of_eq (ins_gt q).symm)) (jh a1 a2 (fun i q => Nat.le_of_eq (ins_lt q).symm) (fun i q => Nat.le_of_eq (ins_gt q).symm)) hk (fun i => ?_) hw
    by_cases q : i < c
    · rw [ins_lt q, ins_lt q]; exact Nat.le_trans (hu i) (a3 i q)
    · by_cases q' : i = c
      · subst q'; rw [ins_eq, ins_eq]; exact Nat.zero_le _
      · obtain ⟨j, rfl⟩ : ∃ j, i = j + 1 := ⟨i - 1, by omega⟩
        rw [ins_gt (by omega), ins_gt (by omega)]; exact Nat.le_trans (hu j) (a4 j (by omega))
  | z hw => exact fun _ _ _ _ => .z hw
  | s hw => exact fun _ _ _ _ => .s hw
/-- without one name -/
noncomputable def del (c : Nat) (u : Nat → Nat) (i : Nat) : Nat := if i < c then u i else u (i + 1)
theorem del_lt {c i : Nat} {u : Nat → Nat} (h : i < c) : del c u i = u i := if_pos h
theorem del_ge {c i : Nat} {u : Nat → Nat} (h : c ≤ i) : del c u i = u (i + 1) := if_neg (by omega)
theorem arith {a1 a2 a b1 b2 b c k : Nat} (h : a1 + k * a2 ≤ a) (h' : b1 + k * b2 ≤ b) : (a1 + b1 * c) + k * (a2 + b2 * c) ≤ a + b * c := by
  have e : (a1 + b1 * c) + k * (a2 + b2 * c) = (a1 + k * a2) + (b1 + k * b2) * c := by
    rw [Nat.mul_add, Nat.add_mul, Nat.mul_assoc]; omega
  rw [e]
  exact Nat.add_le_add h (Nat.mul_le_mul_right c h')
theorem Den.put {e : List (Sigma Ty.D)} {t : Tm} {A : Ty} {a : A.D} {u : Nat → Nat} {w : Nat} (h : Den e t A a u w) : ∀ {e' : List (Sigma Ty.D)} {u' us : Nat → Nat} {k w' ws : Nat} {s : Tm} {X : Ty} {x : X.D}, (∀ i, i < k → e'[i]? = e[i]?) → e[k]? = some ⟨X, x⟩ → (∀ i, k ≤ i → e'[i]? = e[i + 1]?) → Den e' s X x us ws → (∀ i, del k u i + u k * us i ≤ u' i) → w + u k * ws ≤ w' → Den e' (t.put k s) A a u' w' := by
  induction h with
  | @v e n A a u w h hu hw =>
    intro e' u' us k w' ws s X x a1 a2 a3 hs b1 b2
    by_cases q : n = k
    · subst q
      rw [put_eq]
      have : (⟨A, a⟩ : Sigma Ty.D) = ⟨X, x⟩ := Option.some.inj (h.symm.trans a2)
      cases this
      exact hs.mono (fun i => Nat.le_trans (Nat.le_trans (Nat.le_mul_of_pos_left _ hu) (Nat.le_add_left _ _)) (b1 i)) (Nat.le_trans (Nat.le_trans (Nat.le_mul_of_pos_left _ hu) (Nat.le_add_left _ _)) b2)
    · have hw' : 1 ≤ w' := by omega
      by_cases q' : k < n
      · rw [put_gt q']
        obtain ⟨m, rfl⟩ : ∃ m, n = m + 1 := ⟨n - 1, by omega⟩
        refine .v ((a3 m (by omega)).trans h) ?_ hw'
        have := b1 m
        rw [del_ge (by omega)] at this
        show 1 ≤ u' m
        omega
      · rw [put_lt (by omega)]
        refine .v ((a1 n (by omega)).trans h) ?_ hw'
        have := b1 n
        rw [del_lt (by omega)] at this
        omega
  | @lam e t kk A B f u v w w₁ h h0 hu hw ih =>
    intro e' u' us k w' ws s X x a1 a2 a3 hs b1 b2
    have m : v (k + 1) * ws ≤ u k * ws := Nat.mul_le_mul_right _ (hu k)
    refine .lam (u' := con kk u') (w' := w₁ + v (k + 1) * ws) (fun a => ih a (us := con 0 us) (ws := ws) (fun i q => ?_) a2 (fun i q => ?_) (hs.up (fun i q => absurd q (Nat.not_lt_zero i)) (fun i _ => rfl) (fun i q => absurd q (Nat.not_lt_zero i)) (fun i _ => Nat.le_refl _)) (fun i => ?_) (Nat.le_refl _)) (Nat.le_refl _) (fun i => Nat.le_refl _) (by omega)
    · cases i with
      | zero => rfl
      | succ i => exact a1 i (by omega)
    · cases i with
      | zero => omega
      | succ i => exact a3 i (by omega)
    · cases i with
      | zero => rw [del_lt (by omega)]; show v 0 + v (k + 1) * 0 ≤ kk; omega
      | succ i =>
        refine Nat.le_trans (Nat.add_le_add ?_ (Nat.mul_le_mul_right (us i) (hu k))) (b1 i)
        by_cases q : i < k
        · rw [del_lt q, del_lt (by omega)]; exact hu i
        · rw [del_ge (by omega), del_ge (by omega)]; exact hu (i + 1)
  | @app e s₁ t kk A B f a u u1 u2 w w1 w2 h1 h2 hk hu hw ih jh =>
    intro e' u' us k w' ws s X x a1 a2 a3 hs b1 b2
    refine .app (u1 := fun i => del k u1 i + u1 k * us i) (u2 := fun i => del k u2 i + u2 k * us i) (ih a1 a2 a3 hs (fun i => Nat.le_refl _) (Nat.le_refl _)) (jh a1 a2 a3 hs (fun i => Nat.le_refl _) (Nat.le_refl _)) hk (fun i => ?_) ?_
    · refine Nat.le_trans (arith ?_ (hu k)) (b1 i)
      by_cases q : i < k
      · rw [del_lt q, del_lt q, del_lt q]; exact hu i
      · rw [del_ge (by omega), del_ge (by omega), del_ge (by omega)]; exact hu (i + 1)
    · have := arith (c := ws) (Nat.le_refl (w1 + kk * w2)) (hu k)
      omega
  | z hw =>
    intro e' u' us k w' ws s X x a1 a2 a3 hs b1 b2
    exact .z (by omega)
  | s hw =>
    intro e' u' us k w' ws s X x a1 a2 a3 hs b1 b2
    exact .s (by omega)
end Mine
end
-- part P14
section
open PySem PySem.W PyProof.Rows
namespace Mine

theorem Den.beta {e : List (Sigma Ty.D)} {s t : Tm} {B : Ty} {b : B.D} {u : Nat → Nat} {w : Nat} (h : Den e (.app (.lam s) t) B b u w) : Den e (s.put 0 t) B b u w := by
  cases h with
  | @app _ _ _ k A _ f a _ u1 u2 _ w1 w2 h1 h2 hk hu hw =>
    cases h1 with
    | @lam _ _ _ _ _ _ _ v _ w₁ h h0 hv hw' =>
      exact (h a).put (us := u2) (ws := w2) (fun i q => absurd q (Nat.not_lt_zero i)) rfl (fun i _ => rfl) h2 (fun i => Nat.le_trans (Nat.add_le_add (hv i) (Nat.mul_le_mul_right _ h0)) (hu i)) (by
        have := Nat.mul_le_mul_right w2 h0
        omega)
theorem Den.rep : ∀ {q : List Nat} {e : List (Sigma Ty.D)} {t x y : Tm} {A : Ty} {a : A.D} {u : Nat → Nat} {w : Nat}, t.at q = some x → (∀ {e : List (Sigma Ty.D)} {A : Ty} {a : A.D} {u : Nat → Nat} {w : Nat}, Den e x A a u w → Den e y A a u w) → Den e t A a u w → Den e (t.rep q y) A a u w
  | [], e, t, x, y, A, a, u, w, h, k, d => by
    cases h
    have : t.rep [] y = y := by cases t <;> rfl
    rw [this]; exact k d
  | j :: q, e, t, x, y, A, a, u, w, h, k, d => by
    obtain ⟨z, hz, h⟩ := Option.bind_eq_some_iff.mp h
    match t, j, hz with
    | .lam b, 0, hz =>
      cases hz
      cases d with
      | lam d h0 hu hw => exact .lam (fun a => Den.rep h k (d a)) h0 hu hw
    | .app b c, 0, hz =>
      cases hz
      cases d with
      | app h1 h2 hk hu hw => exact .app (Den.rep h k h1) h2 hk hu hw
    | .app b c, 1, hz =>
      cases hz
      cases d with
      | app h1 h2 hk hu hw => exact .app h1 (Den.rep h k h2) hk hu hw
/-- how many terms stand in it -/
noncomputable def Tm.sz : Tm → Nat
  | .lam a => a.sz + 1
  | .app a b => a.sz + b.sz + 1
  | .v _ => 1
  | .c _ => 1
theorem Den.sz {e : List (Sigma Ty.D)} {t : Tm} {A : Ty} {a : A.D} {u : Nat → Nat} {w : Nat} (h : Den e t A a u w) : t.sz ≤ w := by
  induction h with
  | v h hu hw => exact hw
  | @lam e t k A B f u v w w' h h0 hu hw ih =>
    have d : ∀ A : Ty, Nonempty A.D := fun A => by
      induction A with
      | o => exact ⟨(0 : Nat)⟩
      | ar k A B _ ih => exact ih.elim fun b => ⟨fun _ => b⟩
    obtain ⟨a⟩ := d A
    exact Nat.le_trans (Nat.succ_le_succ (ih a)) hw
  | @app e s t k A B f a u u1 u2 w w1 w2 h1 h2 hk hu hw ih jh =>
    have : w2 ≤ k * w2 := Nat.le_mul_of_pos_left _ hk
    show s.sz + t.sz + 1 ≤ w
    omega
  | z hw => exact hw
  | s hw => exact hw
theorem Ty.val : ∀ A : Ty, Nonempty A.D
  | .o => ⟨(0 : Nat)⟩
  | .ar _ _ B => (Ty.val B).elim fun b => ⟨fun _ => b⟩
theorem Den.cl {e : List (Sigma Ty.D)} {t : Tm} {A : Ty} {a : A.D} {u : Nat → Nat} {w : Nat} (h : Den e t A a u w) : t.cl e.length := by
  induction h with
  | v h hu hw => exact (List.getElem?_eq_some_iff.mp h).1
  | @lam e t k A B f u v w w' h h0 hu hw ih => exact (Ty.val A).elim ih
  | app h1 h2 hk hu hw ih jh => exact ⟨ih, jh⟩
  | z hw => trivial
  | s hw => trivial
theorem cl_lt : ∀ {t : Tm} {n N : Nat}, t.cl n → n + t.ht ≤ N → t.lt N
  | .v m, n, N, h, q => Nat.lt_of_lt_of_le h q
  | .lam a, n, N, h, q => cl_lt (t := a) h (by have : n + (a.ht + 1) ≤ N := q; omega)
  | .app a b, n, N, h, q => by
    have : n + (max a.ht b.ht + 1) ≤ N := q
    exact ⟨cl_lt h.1 (by omega), cl_lt h.2 (by omega)⟩
  | .c z, _, _, _, _ => trivial
theorem ht_sz : ∀ {t : Tm}, t.ht + 1 ≤ t.sz
  | .v m => Nat.le_refl _
  | .lam a => Nat.succ_le_succ (ht_sz (t := a))
  | .app a b => by
    have := ht_sz (t := a)
    have := ht_sz (t := b)
    show max a.ht b.ht + 1 + 1 ≤ a.sz + b.sz + 1
    omega
  | .c z => Nat.le_refl _
-- the first sums
noncomputable def it (f : Nat → Nat) : Nat → Nat → Nat
  | 0, x => x
  | n + 1, x => f (it f n x)
noncomputable def NT (k : Nat) : Ty := .ar k (.ar 1 .o .o) (.ar 1 .o .o)
noncomputable def ch (k n : Nat) : (NT k).D := fun f x => it f n x
theorem it_add {f : Nat → Nat} {m n x : Nat} : it f m (it f n x) = it f (m + n) x := by
  induction m with
  | zero => rw [Nat.zero_add]; rfl
  | succ m ih => rw [Nat.succ_add]; exact congrArg f ih
theorem it_mul {f : Nat → Nat} {m n x : Nat} : it (fun x => it f n x) m x = it f (m * n) x := by
  induction m with
  | zero => rw [Nat.zero_mul]; rfl
  | succ m ih => rw [Nat.succ_mul, Nat.add_comm (m * n)]; exact (congrArg (it f n) ih).trans it_add
noncomputable def one (n i : Nat) : Nat := if i = n then 1 else 0
theorem Den.vr {e : List (Sigma Ty.D)} {n : Nat} {A : Ty} {a : A.D} (h : e[n]? = some ⟨A, a⟩) : Den e (.v n) A a (one n) 1 := .v h (Nat.le_of_eq (if_pos rfl).symm) (Nat.le_refl _)
theorem Den.ap {e : List (Sigma Ty.D)} {s t : Tm} {k : Nat} {A B : Ty} {f : A.D → B.D} {a : A.D} {u1 u2 : Nat → Nat} {w1 w2 : Nat} (hk : 1 ≤ k) (h1 : Den e s (.ar k A B) f u1 w1) (h2 : Den e t A a u2 w2) : Den e (.app s t) B (f a) (fun i => u1 i + k * u2 i) (w1 + k * w2 + 1) :=
  .app h1 h2 hk (fun i => Nat.le_refl _) (Nat.le_refl _)
theorem Den.lm {e : List (Sigma Ty.D)} {t : Tm} {k : Nat} {A B : Ty} {f : A.D → B.D} {u : Nat → Nat} {w : Nat} (h : ∀ a, Den (⟨A, a⟩ :: e) t B (f a) (con k u) w) : Den e (.lam t) (.ar k A B) f u (w + 1) :=
  .lam h (Nat.le_refl _) (fun i => Nat.le_refl _) (Nat.le_refl _)
noncomputable def nil (_ : Nat) : Nat := 0
theorem den_numB {e : List (Sigma Ty.D)} {s : Nat → Nat} {z : Nat} : ∀ {n : Nat}, Den (⟨.o, z⟩ :: ⟨.ar 1 .o .o, s⟩ :: e) (numB n) .o (it s n z) (con 1 (con n nil)) (2 * n + 1)
  | 0 => (Den.vr rfl).mono (fun i => by match i with | 0 => exact Nat.le_refl _ | i + 1 => exact Nat.zero_le _) (Nat.le_refl _)
  | n + 1 => (Den.ap (Nat.le_refl 1) (Den.vr (n := 1) rfl) (den_numB (n := n))).mono (fun i => by
      match i with
      | 0 => exact Nat.le_refl _
      | 1 => show 1 + 1 * n ≤ n + 1; omega
      | i + 2 => exact Nat.le_refl _) (by omega)
theorem den_num {e : List (Sigma Ty.D)} {n k : Nat} (h : n ≤ k) : Den e (num n) (NT k) (ch k n) nil (2 * n + 3) :=
  .lm fun s => .lm fun z => den_numB.mono (fun i => by
    match i with
    | 0 => exact Nat.le_refl _
    | 1 => exact h
    | i + 2 => exact Nat.le_refl _) (Nat.le_refl _)
theorem den_plus {e : List (Sigma Ty.D)} {k l : Nat} (hk : 1 ≤ k) (hl : 1 ≤ l) : Den e plusT (.ar 1 (NT k) (.ar 1 (NT l) (NT (k + l)))) (fun m n s z => m s (n s z)) nil (k + l + 11) :=
  (Den.lm fun m => .lm fun n => .lm fun s => .lm fun z => (Den.ap (Nat.le_refl 1) (Den.ap hk (Den.vr (n := 3) rfl) (Den.vr (n := 1) rfl)) (Den.ap (Nat.le_refl 1) (Den.ap hl (Den.vr (n := 2) rfl) (Den.vr (n := 1) rfl)) (Den.vr (n := 0) rfl))).mono (fun i => by
    match i with
    | 0 => show 0 + k * 0 + 1 * (0 + l * 0 + 1 * 1) ≤ 1; omega
    | 1 => show 0 + k * 1 + 1 * (0 + l * 1 + 1 * 0) ≤ k + l; omega
    | 2 => show 0 + k * 0 + 1 * (1 + l * 0 + 1 * 0) ≤ 1; omega
    | 3 => show 1 + k * 0 + 1 * (0 + l * 0 + 1 * 0) ≤ 1; omega
    | i + 4 => show 0 + k * 0 + 1 * (0 + l * 0 + 1 * 0) ≤ 0; omega) (Nat.le_refl _)).mono (fun i => Nat.le_refl _) (by omega)
theorem den_prod {e : List (Sigma Ty.D)} {k l : Nat} (hk : 1 ≤ k) (hl : 1 ≤ l) : Den e prodT (.ar 1 (NT k) (.ar k (NT l) (NT (k * l)))) (fun m n s => m (n s)) nil (k * l + 2 * k + 5) :=
  (Den.lm fun m => .lm fun n => .lm (k := k * l) fun s => (Den.ap hk (Den.vr (n := 2) rfl) (Den.ap hl (Den.vr (n := 1) rfl) (Den.vr (n := 0) rfl))).mono (fun i => by
    match i with
    | 0 => show 0 + k * (0 + l * 1) ≤ k * l; rw [Nat.mul_one, Nat.zero_add, Nat.zero_add]; exact Nat.le_refl _
    | 1 => show 0 + k * (1 + l * 0) ≤ k; omega
    | 2 => show 1 + k * (0 + l * 0) ≤ 1; omega
    | i + 3 => show 0 + k * (0 + l * 0) ≤ 0; omega) (Nat.le_refl _)).mono (fun i => Nat.le_refl _) (by
      rw [show k * (1 + l * 1 + 1) = k * l + 2 * k by rw [Nat.mul_one, Nat.mul_add, Nat.mul_add]; omega]
      omega)
end Mine
end
-- part P15
section
open PySem PySem.W PyProof.Rows
namespace Mine

theorem ch_plus {j k l m n : Nat} : (fun s z => ch k m s (ch l n s z) : (Nat → Nat) → Nat → Nat) = ch j (m + n) := funext fun s => funext fun z => it_add
theorem ch_prod {j k l m n : Nat} : (fun s => ch k m (ch l n s) : (Nat → Nat) → Nat → Nat) = ch j (m * n) := funext fun s => funext fun z => it_mul
theorem den_dup {e : List (Sigma Ty.D)} {k : Nat} (hk : 1 ≤ k) : Den e dupT (.ar 2 (NT k) (NT (k + k))) (fun m s z => m s (m s z)) nil (2 * k + 16) :=
  (Den.lm fun m => (Den.ap (Nat.le_refl 1) (Den.ap (Nat.le_refl 1) (den_plus hk hk) (Den.vr (n := 0) rfl)) (Den.vr (n := 0) rfl)).mono (fun i => by
    match i with
    | 0 => exact Nat.le_refl _
    | i + 1 => exact Nat.le_refl _) (Nat.le_refl _)).mono (fun i => Nat.le_refl _) (by omega)
theorem den_id {e : List (Sigma Ty.D)} {A : Ty} : Den e idT (.ar 1 A A) (fun m => m) nil 2 :=
  Den.lm fun m => (Den.vr (n := 0) rfl).mono (fun i => by
    match i with
    | 0 => exact Nat.le_refl _
    | i + 1 => exact Nat.zero_le _) (Nat.le_refl _)
noncomputable def Gk : Nat → Nat
  | 0 => 2
  | 1 => 4
  | _ => 16
noncomputable def Wk : Nat → Nat
  | 0 => 7
  | 1 => 36
  | _ => 211
/-- a sum's term and its number -/
structure SD (k : Nat) (t : Tm) (m g w : Nat) : Prop where
  g1 : 1 ≤ g
  g2 : g ≤ Gk k
  wb : w ≤ Wk k
  d : Den [] t (NT g) (ch g m) nil w
theorem zer {k : Nat} : ∀ i, nil i + k * nil i ≤ nil i := fun i => by show 0 + k * 0 ≤ 0; omega
theorem Sm.den {k m : Nat} {t : Tm} (h : Sm k t m) : k ≤ 2 → ∃ g w, SD k t m g w := by
  induction h with
  | @num k m h =>
    intro hk
    refine ⟨2, 2 * m + 3, by omega, ?_, ?_, den_num (by omega)⟩
    · match k, hk with
      | 0, _ => decide
      | 1, _ => decide
      | 2, _ => decide
    · match k, hk with
      | 0, _ => show _ ≤ 7; omega
      | 1, _ => show _ ≤ 36; omega
      | 2, _ => show _ ≤ 211; omega
  | @idn k m t h ih =>
    intro hk
    obtain ⟨g, w, g1, g2, hw, d⟩ := ih (by omega)
    refine ⟨g, w + 3, g1, ?_, ?_, .app (den_id (A := NT g)) d (Nat.le_refl 1) zer (by omega)⟩
    · match k, hk, g2 with
      | 0, _, g2 => exact Nat.le_trans g2 (by decide)
      | 1, _, g2 => exact Nat.le_trans g2 (by decide)
    · match k, hk, hw with
      | 0, _, hw => have : w ≤ 7 := hw; show _ ≤ 36; omega
      | 1, _, hw => have : w ≤ 36 := hw; show _ ≤ 211; omega
  | @dup k m t h ih =>
    intro hk
    obtain ⟨g, w, g1, g2, hw, d⟩ := ih (by omega)
    have e : (fun s z => ch g m s (ch g m s z) : (Nat → Nat) → Nat → Nat) = ch (g + g) (2 * m) := by rw [Nat.two_mul]; exact ch_plus
    refine ⟨g + g, 2 * g + 2 * w + 17, by omega, ?_, ?_, e ▸ .app (den_dup g1) d (by omega) zer (by omega)⟩
    · match k, hk, g2 with
      | 0, _, g2 => have : g ≤ 2 := g2; show _ ≤ 4; omega
      | 1, _, g2 => have : g ≤ 4 := g2; show _ ≤ 16; omega
    · match k, hk, g2, hw with
      | 0, _, g2, hw => have : g ≤ 2 := g2; have : w ≤ 7 := hw; show _ ≤ 36; omega
      | 1, _, g2, hw => have : g ≤ 4 := g2; have : w ≤ 36 := hw; show _ ≤ 211; omega
  | @plus k m m' t t' h h' ih jh =>
    intro hk
    obtain ⟨g, w, g1, g2, hw, d⟩ := ih (by omega)
    obtain ⟨g', w', g1', g2', hw', d'⟩ := jh (by omega)
    have e : (fun s z => ch g m s (ch g' m' s z) : (Nat → Nat) → Nat → Nat) = ch (g + g') (m + m') := ch_plus
    refine ⟨g + g', g + g' + w + w' + 13, by omega, ?_, ?_, e ▸ .app (.app (den_plus g1 g1') d (Nat.le_refl 1) zer (Nat.le_refl _)) d' (Nat.le_refl 1) zer (by omega)⟩
    · match k, hk, g2, g2' with
      | 0, _, g2, g2' => have : g ≤ 2 := g2; have : g' ≤ 2 := g2'; show _ ≤ 4; omega
      | 1, _, g2, g2' => have : g ≤ 4 := g2; have : g' ≤ 4 := g2'; show _ ≤ 16; omega
    · match k, hk, g2, hw, g2', hw' with
      | 0, _, g2, hw, g2', hw' => have : g ≤ 2 := g2; have : w ≤ 7 := hw; have : g' ≤ 2 := g2'; have : w' ≤ 7 := hw'; show _ ≤ 36; omega
      | 1, _, g2, hw, g2', hw' => have : g ≤ 4 := g2; have : w ≤ 36 := hw; have : g' ≤ 4 := g2'; have : w' ≤ 36 := hw'; show _ ≤ 211; omega
  | @prod k m m' t t' h h' ih jh =>
    intro hk
    obtain ⟨g, w, g1, g2, hw, d⟩ := ih (by omega)
    obtain ⟨g', w', g1', g2', hw', d'⟩ := jh (by omega)
    have e : (fun s => ch g m (ch g' m' s) : (Nat → Nat) → Nat → Nat) = ch (g * g') (m * m') := ch_prod
    have a := Nat.mul_le_mul g2 g2'
    have b := Nat.mul_le_mul g2 hw'
    refine ⟨g * g', g * g' + 2 * g + 7 + w + g * w', Nat.mul_pos g1 g1', ?_, ?_, e ▸ .app (.app (den_prod g1 g1') d (Nat.le_refl 1) zer (Nat.le_refl _)) d' g1 zer (by omega)⟩
    · match k, hk, a with
      | 0, _, a => exact a
      | 1, _, a => exact a
    · match k, hk, a, b, g2, hw with
      | 0, _, a, b, g2, hw => have : g ≤ 2 := g2; have : w ≤ 7 := hw; have : g * g' ≤ 4 := a; have : g * w' ≤ 14 := b; show _ ≤ 36; omega
      | 1, _, a, b, g2, hw => have : g ≤ 4 := g2; have : w ≤ 36 := hw; have : g * g' ≤ 16 := a; have : g * w' ≤ 144 := b; show _ ≤ 211; omega
end Mine
end
-- part P16
section
open PySem PySem.W PyProof.Rows
namespace Mine

noncomputable def b21 : { b : List PS // (fn01 "_law_counted").body = b } := by
  refine ⟨?b, ?h⟩
  case h => conv => lhs; reduce
theorem t21 : Tx 21 "_law_counted" 1 7 b21.1 := ⟨rfl, by kernel_rfl, by kernel_rfl, by kernel_rfl, b21.2⟩
/-- what stands around -/
inductive En where
  | nil | cons (t : Tm) (c r : En)
noncomputable def En.pv : En → PV
  | .nil => .none
  | .cons t c r => .tup [.tup [t.pv, c.pv], r.pv]
noncomputable def En.dr : En → Nat → En
  | c, 0 => c
  | c, n + 1 => match c with
    | .nil => .nil
    | .cons _ _ r => r.dr n
theorem lst_at {S : St} {xs : List PV} : lstAt (S ++ [.lst xs]) S.length = some xs := by
  unfold lstAt
  rw [List.getElem?_append_right (Nat.le_refl _), Nat.sub_self]; rfl
theorem set_last {S : St} {c c' : SC} : (S ++ [c]).set S.length c' = S ++ [c'] := by
  rw [List.set_append_right _ _ (Nat.le_refl _), Nat.sub_self]; rfl
theorem app_s {S : St} {xs : List PV} {v : PV} (h : xs.length < 1000000) : mth .append S.length v (S ++ [.lst xs]) = .ok .none (S ++ [.lst (xs ++ [v])]) :=
  wit_s lst_at (wit_s (gd_t (small_of h)) (congrArg (Res.ok PV.none) set_last))
theorem mok_s {S : St} {xs : List PV} : gd (mok .append (S ++ [.lst xs]) S.length) () = some () := gd_t (by show (lstAt _ _).isSome = true; rw [lst_at]; rfl)
theorem emp_s {S : St} {xs : List PV} : cmpv (S ++ [.lst xs]) .Eq (.cell S.length) (.lst []) = some xs.isEmpty := by
  show (lstAt _ _).map _ = _
  rw [lst_at]; rfl
theorem snoc_ne {xs : List PV} {x : PV} : (xs ++ [x]).isEmpty = false := by cases xs <;> rfl
section
variable {Φ : Phi} {T M I H : Option PV} {S : St} {c : En} {xs : List PV} {x : PV}
theorem st_app {s b : Tm} (h : xs.length < 1000000) : evSs Φ 1000 (lbody b21.1) [T, some (Tm.app s b).pv, some c.pv, some (.cell S.length), M, I, H] (S ++ [.lst xs]) = .ok (.nx [T, some s.pv, some c.pv, some (.cell S.length), M, I, H]) (S ++ [.lst (xs ++ [.tup [b.pv, c.pv]])]) := by
  rw [kB_of]
  refine wit_s mok_s ?_
  apply bind_s
  · exact app_s h
  exact rfl
theorem st_lam {s : Tm} (h : xs.length < 1000000) : evSs Φ 1000 (lbody b21.1) [T, some (Tm.lam s).pv, some c.pv, some (.cell S.length), M, I, H] (S ++ [.lst (xs ++ [x])]) = .ok (.nx [T, some s.pv, some (.tup [x, c.pv]), some (.cell S.length), M, I, H]) (S ++ [.lst xs]) := by
  rw [kB_of]
  refine wit_s emp_s (br_f snoc_ne ?_)
  refine wit_s lst_at (wit_s List.getLast?_concat (wit_s (gd_t (small_of (by rw [List.length_append]; exact h))) ?_))
  rw [set_last, List.dropLast_concat]
  exact rfl
theorem st_z {m : Int} : evSs Φ 1000 (lbody b21.1) [T, some (Tm.c true).pv, some c.pv, some (.cell S.length), some (.int m), I, H] (S ++ [.lst []]) = .ok (.rt (.int m)) (S ++ [.lst []]) := by
  rw [kB_of]
  exact wit_s emp_s rfl
theorem st_s {m : Int} {y z : PV} (h : xs.length < 1000000) : evSs Φ 1000 (lbody b21.1) [T, some (Tm.c false).pv, some c.pv, some (.cell S.length), some (.int m), I, H] (S ++ [.lst (xs ++ [.tup [y, z]])]) = .ok (.nx [T, some y, some z, some (.cell S.length), some (.int (m + 1)), I, H]) (S ++ [.lst xs]) := by
  rw [kB_of]
  refine wit_s emp_s (br_f snoc_ne ?_)
  refine wit_s lst_at (wit_s List.getLast?_concat (wit_s (gd_t (small_of (by rw [List.length_append]; exact h))) ?_))
  rw [set_last, List.dropLast_concat]
  exact rfl
end
end Mine
end
-- part P17
section
open PySem PySem.W PyProof.Rows
namespace Mine

theorem rng_s {σ : St} {i : Int} {n : Nat} (h : i = n) (hn : n < 1000000) : blt σ .range (.int i) = some (.rng n) := by
  have e : i.toNat = n := by omega
  have g : 0 ≤ i ∧ i < 1000000 := ⟨by omega, by omega⟩
  clear h
  show gd (decide (0 ≤ i ∧ i < 1000000)) (PV.rng i.toNat) = _
  rw [e]
  exact gd_t (decide_eq_true g)
noncomputable def els : List PS → List PS
  | [] => []
  | s :: _ => match s with
    | .iff _ _ o _ => o
    | _ => []
noncomputable def hb : List PS := lbody (els (els (els (els (lbody b21.1)))))
section
variable {Φ : Phi} {T M I H h : Option PV} {S : St}
theorem hop_1 {t : Tm} {c r : En} {σ : St} {k : Option PV} : evSs Φ 1000 hb [T, h, some (En.cons t c r).pv, k, M, I, H] σ = .ok (.nx [T, h, some r.pv, k, M, I, H]) σ := by
  rw [kB_of]; rfl
theorem hops {t : Tm} {c r : En} {σ : St} {k : Option PV} : ∀ {xs : List PV} {e : En} {H : Option PV}, e.dr xs.length = .cons t c r → ∃ H', ∀ s p, frGo (fun ρ σ => evSs Φ 1000 hb ρ σ) (.name 6 s p) xs [T, h, some e.pv, k, M, I, H] σ = .ok (.nx [T, h, some (En.cons t c r).pv, k, M, I, H']) σ
  | [], e, H, q => by
    have : e = .cons t c r := by cases e <;> exact q
    subst this
    exact ⟨H, fun _ _ => rfl⟩
  | x :: xs, e, H, q => by
    cases e with
    | nil => cases q
    | cons t' c' r' =>
      obtain ⟨H', z⟩ := hops (xs := xs) (e := r') (H := some x) q
      exact ⟨H', fun s p => frGo_cons.trans (wit_s rfl (bind_s hop_1 (z s p)))⟩
theorem st_v {n : Nat} {e c r : En} {t : Tm} {σ : St} {k : Option PV} (hn : n < 1000) (q : e.dr n = .cons t c r) : ∃ H', evSs Φ 1000 (lbody b21.1) [T, some (Tm.v n).pv, some e.pv, k, M, I, H] σ = .ok (.nx [T, some t.pv, some c.pv, k, M, I, H']) σ := by
  have D := dig n hn
  obtain ⟨H', z⟩ := hops (Φ := Φ) (T := T) (M := M) (I := I) (h := some (Tm.v n).pv) (k := k) (σ := σ) (xs := (List.range n).map fun (i : Nat) => PV.int (i : Int)) (e := e) (H := H) (by rw [List.length_map, List.length_range]; exact q)
  refine ⟨H', ?_⟩
  have a1 : (vt n == sapp) = false := str_ne (by decide)
  have a2 : (vt n == slam) = false := str_ne (by decide)
  rw [kB_of]
  refine br_f a1 ?_
  refine br_f a2 ?_
  have f3 : fromAt (.str (vt n)) (.int 3) = some (.str ⟨⟨(txtOf n).cps.toList⟩⟩) := gd_t (small_of (by
    have : (vt n).length = (txtOf n).cps.toList.length + 3 := rfl
    have := D.le
    omega))
  refine wit_s f3 ?_
  refine wit_s (int_s D) ?_
  have r1 : blt σ .range (.int n) = some (.rng n) := rng_s rfl (by omega)
  refine wit_s r1 ?_
  refine wit_s (gd_t (small_of (by omega))) ?_
  apply bind_s
  · exact z _ _
  exact rfl
end
end Mine
end
-- part P18
section
open PySem PySem.W PyProof.Rows
namespace Mine

/-- what stands around fits the types; its weight as often as it is used -/
inductive EOk : En → List (Sigma Ty.D) → (Nat → Nat) → Nat → Prop where
  | nil {u : Nat → Nat} {W : Nat} : EOk .nil [] u W
  | cons {t : Tm} {c r : En} {A : Ty} {a : A.D} {e ec : List (Sigma Ty.D)} {u uc : Nat → Nat} {wc Wc W' W : Nat} (hl : t.lt 1000) (d : Den ec t A a uc wc) (o : EOk c ec uc Wc) (q : EOk r e (fun i => u (i + 1)) W') (hw : u 0 * (wc + Wc) + W' ≤ W) : EOk (.cons t c r) (⟨A, a⟩ :: e) u W
/-- a term with what stands around -/
inductive CD (t : Tm) (c : En) (A : Ty) (a : A.D) (x : Nat) : Prop where
  | mk {e : List (Sigma Ty.D)} {u : Nat → Nat} {w W : Nat} (hl : t.lt 1000) (d : Den e t A a u w) (o : EOk c e u W) (hx : w + W ≤ x)
inductive Stk : List (Tm × En) → (A : Ty) → A.D → Nat → Nat → Prop where
  | nil {r W : Nat} : Stk [] .o r r W
  | cons {t : Tm} {c : En} {p : List (Tm × En)} {k : Nat} {A B : Ty} {f : A.D → B.D} {a : A.D} {x W' W r : Nat} (h : CD t c A a x) (s : Stk p B (f a) r W') (hw : k * x + W' ≤ W) : Stk ((t, c) :: p) (.ar k A B) f r W
theorem EOk.mono {c : En} {e : List (Sigma Ty.D)} {u : Nat → Nat} {W : Nat} (h : EOk c e u W) : ∀ {u' : Nat → Nat} {W₁ : Nat}, (∀ i, u' i ≤ u i) → W ≤ W₁ → EOk c e u' W₁ := by
  induction h with
  | nil => exact fun _ _ => .nil
  | cons hl d o q hw io iq => exact fun hu hW => .cons hl d o (iq (fun i => hu (i + 1)) (Nat.le_refl _)) (Nat.le_trans (Nat.le_trans (Nat.add_le_add_right (Nat.mul_le_mul_right _ (hu 0)) _) hw) hW)
theorem EOk.split {c : En} {e : List (Sigma Ty.D)} {u : Nat → Nat} {W : Nat} (h : EOk c e u W) : ∀ {u1 u2 : Nat → Nat} {k : Nat}, (∀ i, u1 i + k * u2 i ≤ u i) → ∃ W1 W2, EOk c e u1 W1 ∧ EOk c e u2 W2 ∧ W1 + k * W2 ≤ W := by
  induction h with
  | nil => exact fun _ => ⟨0, 0, .nil, .nil, Nat.zero_le _⟩
  | @cons t c r A a e ec u uc wc Wc W' W hl d o q hw io iq =>
    intro u1 u2 k hu
    obtain ⟨W1, W2, a1, a2, l⟩ := iq (fun i => hu (i + 1))
    refine ⟨u1 0 * (wc + Wc) + W1, u2 0 * (wc + Wc) + W2, .cons hl d o a1 (Nat.le_refl _), .cons hl d o a2 (Nat.le_refl _), ?_⟩
    have := arith (c := wc + Wc) l (hu 0)
    omega
theorem EOk.get {c : En} {e : List (Sigma Ty.D)} {u : Nat → Nat} {W : Nat} (h : EOk c e u W) : ∀ {n : Nat} {A : Ty} {a : A.D}, e[n]? = some ⟨A, a⟩ → 1 ≤ u n → ∃ t c' r', c.dr n = .cons t c' r' ∧ CD t c' A a W := by
  induction h with
  | nil => exact fun h => nomatch h
  | @cons t c r A a e ec u uc wc Wc W' W hl d o q hw io iq =>
    intro n A' a' h hu
    cases n with
    | zero =>
      have : (⟨A, a⟩ : Sigma Ty.D) = ⟨A', a'⟩ := Option.some.inj h
      cases this
      have := Nat.le_mul_of_pos_left (wc + Wc) hu
      exact ⟨t, c, r, rfl, .mk hl d o (by omega)⟩
    | succ n =>
      obtain ⟨t', c', r', h1, h2⟩ := iq h hu
      cases h2 with
      | mk a b c' d => exact ⟨_, _, _, h1, .mk a b c' (by omega)⟩
noncomputable def clo (q : Tm × En) : PV := .tup [q.1.pv, q.2.pv]
noncomputable def pl (p : List (Tm × En)) : List PV := (p.map clo).reverse
theorem pl_cons {q : Tm × En} {p : List (Tm × En)} : pl (q :: p) = pl p ++ [clo q] := List.reverse_cons
theorem pl_len {p : List (Tm × En)} : (pl p).length = p.length := by unfold pl; rw [List.length_reverse, List.length_map]
theorem run {Φ : Phi} {T : Option PV} {S : St} : ∀ {xs : List PV} {t : Tm} {c : En} {p : List (Tm × En)} {m : Int} {A : Ty} {a : A.D} {x W r : Nat} {I H : Option PV}, CD t c A a x → Stk p A a r W → x + W ≤ xs.length → p.length + xs.length ≤ 5000 → ∀ s q, frGo (fun ρ σ => evSs Φ 1000 (lbody b21.1) ρ σ) (.name 5 s q) xs [T, some t.pv, some c.pv, some (.cell S.length), some (.int m), I, H] (S ++ [.lst (pl p)]) = .ok (.rt (.int (m + r))) (S ++ [.lst []])
  | [], t, c, p, m, A, a, x, W, r, I, H, h, g, l, b, s, q => by
    cases h with
    | mk hl d o hx =>
      have := d.sz
      have := ht_sz (t := t)
      have : x + W ≤ 0 := l
      omega
  | y :: ys, t, c, p, m, A, a, x, W, r, I, H, h, g, l, b, s, q => by
    have l : x + W ≤ ys.length + 1 := l
    have b : p.length + (ys.length + 1) ≤ 5000 := b
    have lp : (pl p).length < 1000000 := by rw [pl_len]; omega
    refine frGo_cons.trans (wit_s rfl ?_)
    cases h with
    | @mk e u w We hl d o hx =>
    cases d with
    | v h hu hw =>
      obtain ⟨t', c', r', h1, h2⟩ := o.get h hu
      obtain ⟨H', z⟩ := st_v (Φ := Φ) (T := T) (M := some (.int m)) (I := some y) (H := H) (σ := S ++ [.lst (pl p)]) (k := some (.cell S.length)) hl h1
      exact bind_s z (run (xs := ys) h2 g (by omega) (by omega) s q)
    | @lam _ t₀ k A B f _ u' _ w' h h0 hu hw =>
      cases g with
      | @cons t' c' p' _ _ _ _ a' x' W' _ _ h' s' hw' =>
        cases h' with
        | @mk e' v w1 We' hl' d' o' hx' =>
          rw [pl_cons]
          have b : p'.length + 1 + (ys.length + 1) ≤ 5000 := b
          refine bind_s (st_lam (by rw [pl_len]; omega)) ?_
          have m1 := Nat.mul_le_mul h0 hx'
          exact run (xs := ys) (x := w' + (u' 0 * (w1 + We') + We)) (t := t₀) (c := .cons t' c' c) (.mk hl (h a') (.cons hl' d' o' (o.mono hu (Nat.le_refl _)) (Nat.le_refl _)) (Nat.le_refl _)) s' (by omega) (by omega) s q
    | @app _ s' b' k A' B f a _ u1 u2 _ w1 w2 h1 h2 hk hu hw =>
      obtain ⟨W1, W2, o1, o2, lw⟩ := o.split hu
      refine bind_s (st_app lp) ?_
      have e : pl p ++ [PV.tup [b'.pv, c.pv]] = pl ((b', c) :: p) := (pl_cons (q := (b', c)) (p := p)).symm
      show frGo _ _ _ _ (S ++ [SC.lst (pl p ++ [PV.tup [b'.pv, c.pv]])]) = _
      rw [e]
      have m1 : k * (w2 + W2) = k * w2 + k * W2 := Nat.mul_add _ _ _
      exact run (xs := ys) (.mk hl.1 h1 o1 (Nat.le_refl _)) (.cons (.mk hl.2 h2 o2 (Nat.le_refl _)) g (Nat.le_refl _)) (by omega) (by show p.length + 1 + ys.length ≤ 5000; omega) s q
    | z hw =>
      cases g with
      | nil =>
        rw [Int.add_comm]
        refine bind_s st_z ?_
        show _ = Res.ok (Fl.rt (.int ((0 : Nat) + m))) _
        rw [Int.natCast_zero, Int.zero_add]
    | s hw =>
      cases g with
      | @cons t' c' p' _ _ _ _ a' x' W' _ _ h' s' hw' =>
        rw [pl_cons]
        have b : p'.length + 1 + (ys.length + 1) ≤ 5000 := b
        refine bind_s (st_s (by rw [pl_len]; omega)) ?_
        cases s' with
        | nil =>
          have e : ∀ n : Nat, m + 1 + (n : Int) = m + ((n + 1 : Nat) : Int) := fun n => by omega
          exact (run (xs := ys) h' (.nil (W := 0)) (by omega) (by omega) s q).trans (congrArg (fun i => Res.ok (Fl.rt (PV.int i)) _) (e a'))
end Mine
end
-- part P19
section
open PySem PySem.W PyProof.Rows
namespace Mine

/-- the machine counts -/
theorem s_counted {d : Nat} {t : Tm} {g m w : Nat} {σ : St} (D : Den [] t (NT g) (ch g m) nil w) (hg : 1 ≤ g) (hw : w + g + 3 ≤ 3000) (hl : t.lt 1000) : phi L01 (d + 2) 21 [t.pv] σ = .ok (.int m) (σ ++ [.lst []]) := by
  have e0 : it (fun x => x + 1) m 0 = m := by
    clear D hw
    induction m with
    | zero => rfl
    | succ m ih => exact congrArg (· + 1) ih
  have D2 : Den [] (.app (.app t (.c false)) (.c true)) .o (it (fun x => x + 1) m 0) nil (w + g + 3) :=
    .app (.app D (.s (Nat.le_refl 1)) hg zer (Nat.le_refl _)) (.z (Nat.le_refl 1)) (Nat.le_refl 1) zer (by omega)
  rw [e0] at D2
  have lx : ((List.range 3000).map fun (i : Nat) => PV.int (i : Int)).length = 3000 := by rw [List.length_map, List.length_range]
  have R := run (Φ := phi L01 (d + 1)) (T := some t.pv) (S := σ) (xs := (List.range 3000).map fun (i : Nat) => PV.int (i : Int)) (p := []) (m := 0) (c := .nil) (I := none) (H := none) (.mk (t := .app (.app t (.c false)) (.c true)) (A := .o) ⟨⟨hl, trivial⟩, trivial⟩ D2 (EOk.nil (W := 0)) (Nat.le_refl _)) (Stk.nil (W := 0)) (by rw [lx]; omega) (by rw [lx]; show 0 + 3000 ≤ 5000; omega)
  rw [Int.zero_add] at R
  refine t21.run rfl fun Φ e => ?_
  apply call_s e
  · exact s_row2 (h := t) (a := .c false) (b := .c true)
  rw [← e] at R
  apply bind_s
  · exact R _ _
  exact rfl
end Mine
end
-- part P20
section
open PySem PySem.W PyProof.Rows
namespace Mine

noncomputable def b22 : { b : List PS // (fn01 "_law_places").body = b } := by
  refine ⟨?b, ?h⟩
  case h => conv => lhs; reduce
theorem t22 : Tx 22 "_law_places" 1 5 b22.1 := ⟨rfl, by kernel_rfl, by kernel_rfl, by kernel_rfl, b22.2⟩
noncomputable def wtst : List PS → PE
  | [] => .cst .none 0 ⟨0, 0, 0, 0⟩
  | s :: r => match s with
    | .whl t _ _ => t
    | _ => wtst r
abbrev Row := List Nat × Tm
noncomputable def rowPV (q : Row) : PV := .tup [.tup (pp q.1), q.2.pv]
noncomputable def kidrows (p : List Nat) : Tm → List Row
  | .lam a => [(p ++ [0], a)]
  | .app a b => [(p ++ [0], a), (p ++ [1], b)]
  | _ => []
theorem comp_p1 {Φ : Phi} {elt : Vars → St → Res PV} {i j k : Nat} {x y : Str} {p q tp : Pos} {a b u : PV} {ρ : Vars} {σ : St} (h : elt ((ρ.set i (some a)).set j (some b)) σ = .ok u σ) : compGo (fun ρ σ => evB Φ .And [] ρ σ) elt (.pair i x p j y q k tp) [.tup [a, b]] ρ [] σ = .ok [u] σ := by
  rw [compGo_cons]
  exact wit_s rfl (bind_s rfl (bind_s h rfl))
theorem comp_p2 {Φ : Phi} {elt : Vars → St → Res PV} {i j k : Nat} {x y : Str} {p q tp : Pos} {a b u a' b' u' : PV} {ρ : Vars} {σ : St} (h : elt ((ρ.set i (some a)).set j (some b)) σ = .ok u σ) (h' : elt ((((ρ.set i (some a)).set j (some b)).set i (some a')).set j (some b')) σ = .ok u' σ) :
    compGo (fun ρ σ => evB Φ .And [] ρ σ) elt (.pair i x p j y q k tp) [.tup [a, b], .tup [a', b']] ρ [] σ = .ok [u, u'] σ := by
  rw [compGo_cons]
  refine wit_s rfl (bind_s rfl (bind_s h ?_))
  show compGo _ _ _ [_] _ ([] ++ [u]) σ = _
  rw [compGo_cons]
  exact wit_s rfl (bind_s rfl (bind_s h' rfl))
theorem item_c {S : St} {xs : List PV} {i : Int} : item (S ++ [.lst xs]) (.cell S.length) (.int i) = itemI xs (.int i) := by
  unfold item
  show (match (S ++ [.lst xs])[S.length]? with
    | some c => match c with
      | .lst xs => itemI xs (.int i)
      | .dct kvs => (asS (.int i)).bind fun s => kvs.lookup s
      | .dat kvs => (keyt (.int i)).bind fun s => kvs.lookup s
      | .tbl => none
    | none => none) = _
  rw [List.getElem?_append_right (Nat.le_refl _), Nat.sub_self]
  rfl
theorem len_c {S : St} {xs : List PV} (h : xs.length ≤ 1000000) : blt (S ++ [.lst xs]) .len (.cell S.length) = some (.int xs.length) := by
  show ((lstAt _ _).map List.length).bind (fun n : Nat => gd (small n) (PV.int n)) = _
  rw [lst_at]
  exact gd_t (small_of h)
theorem ext_s {S : St} {xs ys : List PV} (h : xs.length + ys.length ≤ 1000000) : mth .extend S.length (.lst ys) (S ++ [.lst xs]) = .ok .none (S ++ [.lst (xs ++ ys)]) :=
  wit_s lst_at (wit_s rfl (wit_s (gd_t (small_of h)) (congrArg (Res.ok PV.none) set_last)))
theorem mok_e {S : St} {xs : List PV} : gd (mok .extend (S ++ [.lst xs]) S.length) () = some () := gd_t (by show (lstAt _ _).isSome = true; rw [lst_at]; rfl)
theorem pp_add {p : List Nat} {k : Nat} (h : p.length < 1000000) : bin .Add (.tup (pp p)) (.tup [.int k]) = some (.tup (pp (p ++ [k]))) := by
  have e : pp (p ++ [k]) = pp p ++ [.int k] := List.map_append
  rw [e]
  exact gd_t (small_of (by rw [pp_len]; exact h))
theorem bfs_b {Φ : Phi} {T Y Z : Option PV} {S : St} {xs : List PV} {i : Int} {n : Nat} {p : List Nat} {x : Tm} (hi : i = n) (hn : n < 1000000) (hx : xs[n]? = some (rowPV (p, x))) (hp : p.length < 1000000) (hs : xs.length + 2 ≤ 1000000) :
    evSs Φ 1000 (lbody b22.1) [T, some (.cell S.length), some (.int i), Y, Z] (S ++ [.lst xs]) = .ok (.nx [T, some (.cell S.length), some (.int (i + 1)), some (.tup (pp p)), some x.pv]) (S ++ [.lst (xs ++ (kidrows p x).map rowPV)]) := by
  rw [kB_of]
  have g : item (S ++ [.lst xs]) (.cell S.length) (.int i) = some (rowPV (p, x)) := item_c.trans (itemI_s hi (by omega) hx)
  refine wit_s g (wit_s rfl (wit_s rfl ?_))
  refine wit_s mok_e ?_
  cases x with
  | v m =>
    apply bind_s
    · exact ext_s (by show _ + 0 ≤ _; omega)
    exact rfl
  | lam a =>
    apply cmp_s
    · apply comp_p1
      refine kE_of.trans ?_
      exact wit_s (pp_add (k := 0) hp) rfl
    apply bind_s
    · exact ext_s (by show _ + 1 ≤ _; omega)
    exact rfl
  | app a b =>
    apply cmp_s
    · apply comp_p2
      · refine kE_of.trans ?_
        exact wit_s (pp_add (k := 0) hp) rfl
      · refine kE_of.trans ?_
        exact wit_s (pp_add (k := 1) hp) rfl
    apply bind_s
    · exact ext_s (by show _ + 2 ≤ _; omega)
    exact rfl
  | c z =>
    apply bind_s
    · exact ext_s (by show _ + 0 ≤ _; omega)
    exact rfl
theorem bfs_t {Φ : Phi} {T X Y : Option PV} {S : St} {xs : List PV} {i : Int} (hs : xs.length ≤ 1000000) : evE Φ (wtst b22.1) [T, some (.cell S.length), some (.int i), X, Y] (S ++ [.lst xs]) = .ok (.bool (decide (i < (xs.length : Int)))) (S ++ [.lst xs]) := by
  refine kE_of.trans ?_
  exact wit_s (len_c hs) rfl
end Mine
end
-- part P21
section
open PySem PySem.W PyProof.Rows
namespace Mine

/-- all that stands in a term, with its path -/
noncomputable def Tm.all : Tm → List Row
  | .v n => [([], .v n)]
  | .lam a => ([], .lam a) :: a.all.map fun r => (0 :: r.1, r.2)
  | .app a b => ([], .app a b) :: (a.all.map (fun r => (0 :: r.1, r.2)) ++ b.all.map fun r => (1 :: r.1, r.2))
  | .c z => [([], .c z)]
noncomputable def sub (q : Row) : List Row := q.2.all.map fun r => (q.1 ++ r.1, r.2)
theorem map_pre {p : List Nat} {k : Nat} {l : List Row} : (l.map fun r => (k :: r.1, r.2)).map (fun r : Row => (p ++ r.1, r.2)) = l.map fun r => ((p ++ [k]) ++ r.1, r.2) := by
  rw [List.map_map]
  exact List.map_congr_left fun r _ => by show (p ++ k :: r.1, r.2) = ((p ++ [k]) ++ r.1, r.2); rw [List.append_assoc]; rfl
theorem sub_eq {p : List Nat} {x : Tm} : sub (p, x) = (p, x) :: (kidrows p x).flatMap sub := by
  cases x with
  | v n => show [(p ++ [], _)] = _; rw [List.append_nil]; rfl
  | lam a => show (p ++ [], _) :: (a.all.map _).map _ = (p, _) :: (sub (p ++ [0], a) ++ []); rw [List.append_nil, List.append_nil, map_pre]; rfl
  | app a b => show (p ++ [], _) :: (a.all.map _ ++ b.all.map _).map _ = (p, _) :: (sub (p ++ [0], a) ++ (sub (p ++ [1], b) ++ [])); rw [List.append_nil, List.append_nil, List.map_append, map_pre, map_pre]; rfl
  | c z => show [(p ++ [], _)] = _; rw [List.append_nil]; rfl
theorem len_sub : ∀ {Q : List Row}, Q.length ≤ (Q.flatMap sub).length
  | [] => Nat.le_refl _
  | (p, x) :: Q => by
    have := len_sub (Q := Q)
    rw [List.flatMap_cons, sub_eq, List.length_append]
    show Q.length + 1 ≤ (((kidrows p x).flatMap sub).length + 1) + _
    omega
theorem bfs {Φ : Phi} {T : Option PV} {S : St} : ∀ (n : Nat) {D Q : List Row} {Y Z : Option PV}, (Q.flatMap sub).length < n → D.length + (Q.flatMap sub).length ≤ 1000 → (∀ q ∈ Q.flatMap sub, q.1.length ≤ 1000) →
    ∃ E i Y' Z', whGo (fun ρ σ => evE Φ (wtst b22.1) ρ σ) (fun ρ σ => evSs Φ 1000 (lbody b22.1) ρ σ) n [T, some (.cell S.length), some (.int D.length), Y, Z] (S ++ [.lst ((D ++ Q).map rowPV)]) = .ok (.nx [T, some (.cell S.length), i, Y', Z']) (S ++ [.lst ((D ++ (Q ++ E)).map rowPV)]) ∧ (D ++ (Q ++ E)).Perm (D ++ Q.flatMap sub)
  | 0, D, Q, Y, Z, h, _, _ => absurd h (Nat.not_lt_zero _)
  | n + 1, D, [], Y, Z, h, hl, hp => by
    have l : ((D ++ []).map rowPV).length = D.length := by rw [List.append_nil, List.length_map]
    refine ⟨[], some (.int D.length), Y, Z, ?_, List.Perm.refl _⟩
    rw [whGo_succ]
    have b : D.length ≤ 1000 := hl
    refine bind_s (bfs_t (by rw [l]; omega)) ?_
    rw [l, decide_eq_false (Int.lt_irrefl _)]
    exact rfl
  | n + 1, D, (p, x) :: Q, Y, Z, h, hl, hp => by
    have lq := len_sub (Q := Q)
    have fe : ((p, x) :: Q).flatMap sub = ((p, x) :: (kidrows p x).flatMap sub) ++ Q.flatMap sub := by rw [List.flatMap_cons, sub_eq]
    rw [fe] at h hl hp
    simp only [List.length_append, List.length_cons] at h hl
    have l : ((D ++ (p, x) :: Q).map rowPV).length = D.length + (Q.length + 1) := by rw [List.length_map, List.length_append]; rfl
    have px : p.length ≤ 1000 := hp (p, x) (.head _)
    have ge : ((D ++ (p, x) :: Q).map rowPV)[D.length]? = some (rowPV (p, x)) := by
      rw [List.getElem?_map, List.getElem?_append_right (Nat.le_refl _), Nat.sub_self]; rfl
    have fq : (Q ++ kidrows p x).flatMap sub = Q.flatMap sub ++ (kidrows p x).flatMap sub := List.flatMap_append
    obtain ⟨E, i, Y', Z', r, pr⟩ := bfs (Φ := Φ) (T := T) (S := S) n (D := D ++ [(p, x)]) (Q := Q ++ kidrows p x) (Y := some (.tup (pp p))) (Z := some x.pv)
      (by rw [fq, List.length_append]; omega) (by rw [fq, List.length_append, List.length_append]; show D.length + 1 + _ ≤ 1000; omega) (fun q m => hp q (by
        rw [fq] at m
        rcases List.mem_append.mp m with m | m
        · exact List.mem_append.mpr (.inr m)
        · exact List.mem_append.mpr (.inl (.tail _ m))))
    have e1 : (D ++ [(p, x)]) ++ (Q ++ kidrows p x) = (D ++ (p, x) :: Q) ++ kidrows p x := by simp only [List.append_assoc, List.cons_append, List.nil_append]
    have e2 : (D ++ [(p, x)]) ++ ((Q ++ kidrows p x) ++ E) = D ++ ((p, x) :: Q ++ (kidrows p x ++ E)) := by simp only [List.append_assoc, List.cons_append, List.nil_append]
    rw [e1, List.map_append, e2] at r
    rw [e2] at pr
    refine ⟨kidrows p x ++ E, i, Y', Z', ?_, pr.trans ?_⟩
    · rw [whGo_succ]
      refine bind_s (bfs_t (by rw [l]; omega)) ?_
      rw [l, decide_eq_true (by omega)]
      refine bind_s (bfs_b (n := D.length) rfl (by omega) ge (by omega) (by rw [l]; omega)) ?_
      have e3 : ((D ++ [(p, x)]).length : Int) = (D.length : Int) + 1 := by rw [List.length_append]; rfl
      rw [e3] at r
      exact r
    · rw [fe, fq, List.append_assoc]
      refine List.Perm.append_left D ?_
      show ((p, x) :: (Q.flatMap sub ++ (kidrows p x).flatMap sub)).Perm ((p, x) :: ((kidrows p x).flatMap sub ++ Q.flatMap sub))
      exact List.Perm.cons _ List.perm_append_comm
end Mine
end
-- part P22
section
open PySem PySem.W PyProof.Rows
namespace Mine

theorem perm_map {α β : Type} {f : α → β} {xs ys : List β} (h : xs.Perm ys) : ∀ {l : List α}, ys = l.map f → ∃ l' : List α, l'.Perm l ∧ xs = l'.map f := by
  induction h with
  | nil => exact fun {l} e => ⟨l, .refl _, e⟩
  | @cons x l₁ l₂ h ih =>
    intro l e
    cases l with
    | nil => cases e
    | cons a l =>
      rw [List.map_cons] at e
      injection e with e1 e2
      obtain ⟨l', p, q⟩ := ih e2
      exact ⟨a :: l', p.cons a, by rw [List.map_cons, ← q, e1]⟩
  | swap x y l₁ =>
    intro l e
    match l, e with
    | a :: b :: l, e =>
      rw [List.map_cons, List.map_cons] at e
      injection e with e1 e2
      injection e2 with e2 e3
      exact ⟨b :: a :: l, .swap a b l, by rw [List.map_cons, List.map_cons, e1, e2, e3]⟩
  | trans h1 h2 i j =>
    intro l e
    obtain ⟨l', p, q⟩ := j e
    obtain ⟨l'', p', q'⟩ := i q
    exact ⟨l'', p'.trans p, q'⟩
theorem keyv_pp : ∀ {p : List Nat}, keyv (pp p) = some (p.map fun (k : Nat) => (k : Int))
  | [] => rfl
  | k :: p => by show (asI (.int k)).bind (fun i => (keyv (pp p)).map (i :: ·)) = _; rw [keyv_pp]; rfl
theorem rowKey_s {q : Row} : rowKey (rowPV q) = some (q.1.map fun (k : Nat) => (k : Int)) := keyv_pp
theorem tbl_app {σ τ : St} (h : tblOk σ = true) : tblOk (σ ++ τ) = true := by
  cases σ with
  | nil => cases h
  | cons c σ => exact h
theorem s_places {t : Tm} {d : Nat} {σ : St} (ht : tblOk σ = true) (hl : t.all.length ≤ 999) (hp : ∀ q ∈ t.all, q.1.length ≤ 1000) : ∃ (L : List Row) (c : SC), L.Perm t.all ∧ phi L01 (d + 1) 22 [t.pv] σ = .any (fun ys => ys.Perm (L.map rowPV)) fun ys => .ok (.lst ys) (σ ++ [c]) := by
  have fe : [(([], t) : Row)].flatMap sub = t.all := by
    show (t.all.map fun r => ([] ++ r.1, r.2)) ++ [] = _
    rw [List.append_nil]
    exact List.map_id' _
  obtain ⟨E, i, Y, Z, r, pr⟩ := bfs (Φ := phi L01 d) (T := some t.pv) (S := σ) 1000 (D := []) (Q := [([], t)]) (Y := none) (Z := none) (by rw [fe]; omega) (by rw [fe]; show 0 + _ ≤ 1000; omega) (by rw [fe]; exact hp)
  rw [fe] at pr
  refine ⟨[] ++ ([([], t)] ++ E), .lst (([] ++ ([([], t)] ++ E)).map rowPV), pr, t22.run rfl fun Φ e => ?_⟩
  rw [← e] at r
  apply bind_s
  · exact r
  have len : (([] ++ ([([], t)] ++ E) : List Row).map rowPV).length ≤ 1000000 := by rw [List.length_map, pr.length_eq]; show t.all.length ≤ _; omega
  have al : ((([] ++ ([([], t)] ++ E) : List Row).map rowPV).all fun x => (rowKey x).isSome) = true := by
    rw [List.all_map]
    exact List.all_eq_true.mpr fun q _ => by show (rowKey (rowPV q)).isSome = true; rw [rowKey_s]; rfl
  have g : (tblOk (σ ++ [.lst (([] ++ ([([], t)] ++ E) : List Row).map rowPV)]) && (rootOk (([] ++ ([([], t)] ++ E) : List Row).map rowPV) && (small (([] ++ ([([], t)] ++ E) : List Row).map rowPV).length && (([] ++ ([([], t)] ++ E) : List Row).map rowPV).all fun x => (rowKey x).isSome))) = true := by
    rw [tbl_app ht, al, small_of len]; rfl
  refine wit_s lst_at ?_
  refine wit_s (gd_t g) ?_
  exact rfl
noncomputable def b23 : { b : List PS // (fn01 "_law_is_lam_app").body = b } := by
  refine ⟨?b, ?h⟩
  case h => conv => lhs; reduce
theorem t23 : Tx 23 "_law_is_lam_app" 1 1 b23.1 := ⟨rfl, by kernel_rfl, by kernel_rfl, by kernel_rfl, b23.2⟩
noncomputable def b24 : { b : List PS // (fn01 "_law_is_refused").body = b } := by
  refine ⟨?b, ?h⟩
  case h => conv => lhs; reduce
theorem t24 : Tx 24 "_law_is_refused" 2 2 b24.1 := ⟨rfl, by kernel_rfl, by kernel_rfl, by kernel_rfl, b24.2⟩
theorem s_lamapp {d : Nat} {t : Tm} {σ : St} : phi L01 (d + 1) 23 [t.pv] σ = .ok (.bool t.red) σ := by
  refine t23.run rfl fun Φ e => ?_
  cases t with
  | v n =>
    have h : (vt n == sapp) = false := str_ne (by decide)
    exact br_f (congrArg (· == true) h) (by show Res.ok (PV.bool (vt n == sapp)) σ = _; rw [h]; rfl)
  | lam a => rfl
  | app a b =>
    cases a with
    | v n =>
      have h : (vt n == slam) = false := str_ne (by decide)
      exact br_f (congrArg (· == true) h) (by show Res.ok (PV.bool (vt n == slam)) σ = _; rw [h]; rfl)
    | lam a => rfl
    | app a b => rfl
    | c z => cases z <;> rfl
  | c z => cases z <;> rfl
theorem caught_o {β γ : Type} {r : Res γ} {a : γ} {f g : St → Res β} {σ : St} {z : Res β} (h : r = .ok a σ) (q : f σ = z) : Res.caught r f g = z := by rw [h]; exact q
theorem caught_e {β γ : Type} {r : Res γ} {f g : St → Res β} {σ : St} {z : Res β} (h : r = .exc σ) (q : g σ = z) : Res.caught r f g = z := by rw [h]; exact q
theorem s_ref_t {d : Nat} {t : Tm} {q : List Nat} {σ : St} (hq : q.length ≤ 1000) (m : ∀ k ∈ q, k < 1000) (h : ∀ x, t.at q = some x → x.red = false) : phi L01 (d + 8) 24 [t.pv, .tup (pp q)] σ = .ok (.bool true) σ := by
  refine t24.run rfl fun Φ e => ?_
  apply caught_e
  · refine kE_of.trans ?_
    apply call_x e
    exact s_beta_x hq m h
  exact rfl
theorem s_ref_f {d : Nat} {t a b : Tm} {q : List Nat} {σ : St} (h : t.at q = some (.app (.lam a) b)) (hq : q.length ≤ d) (hd : d ≤ 1000) (ha : a.ht + b.ht ≤ d) (hl : a.lt 400) (hb : b.lt 400) (hh : a.ht ≤ 400) : phi L01 (d + 8) 24 [t.pv, .tup (pp q)] σ = .ok (.bool false) σ := by
  refine t24.run rfl fun Φ e => ?_
  apply caught_o
  · refine kE_of.trans ?_
    apply call_s e
    · exact s_beta h hq hd ha hl hb hh
    exact rfl
  exact rfl
end Mine
end
-- part P23
section
open PySem PySem.W PyProof.Rows
namespace Mine

theorem mem_pre {k : Nat} {l : List Row} {p : List Nat} {x : Tm} : (p, x) ∈ l.map (fun r : Row => (k :: r.1, r.2)) ↔ ∃ q, p = k :: q ∧ (q, x) ∈ l := by
  constructor
  · intro m
    obtain ⟨⟨q, y⟩, h, e⟩ := List.mem_map.mp m
    cases e
    exact ⟨q, rfl, h⟩
  · rintro ⟨q, rfl, h⟩
    exact List.mem_map.mpr ⟨(q, x), h, rfl⟩
theorem mem_all : ∀ {t : Tm} {p : List Nat} {x : Tm}, (p, x) ∈ t.all ↔ t.at p = some x := by
  intro t
  induction t with
  | v n =>
    intro p x
    cases p with
    | nil => exact ⟨fun m => (by cases List.mem_singleton.mp m; rfl), fun h => by cases h; exact .head _⟩
    | cons k p => exact ⟨fun m => (by cases List.mem_singleton.mp m), fun h => nomatch h⟩
  | lam a ih =>
    intro p x
    cases p with
    | nil =>
      refine ⟨fun m => ?_, fun h => by cases h; exact .head _⟩
      rcases List.mem_cons.mp m with m | m
      · cases m; rfl
      · obtain ⟨q, e, _⟩ := mem_pre.mp m; cases e
    | cons k p =>
      constructor
      · intro m
        rcases List.mem_cons.mp m with m | m
        · cases m
        · obtain ⟨q, e, h⟩ := mem_pre.mp m
          cases e
          exact ih.mp h
      · intro h
        match k, h with
        | 0, h => exact List.mem_cons.mpr (.inr (mem_pre.mpr ⟨p, rfl, ih.mpr h⟩))
  | app a b ih jh =>
    intro p x
    cases p with
    | nil =>
      refine ⟨fun m => ?_, fun h => by cases h; exact .head _⟩
      rcases List.mem_cons.mp m with m | m
      · cases m; rfl
      · rcases List.mem_append.mp m with m | m <;> (obtain ⟨q, e, _⟩ := mem_pre.mp m; cases e)
    | cons k p =>
      constructor
      · intro m
        rcases List.mem_cons.mp m with m | m
        · cases m
        · rcases List.mem_append.mp m with m | m
          · obtain ⟨q, e, h⟩ := mem_pre.mp m
            cases e
            exact ih.mp h
          · obtain ⟨q, e, h⟩ := mem_pre.mp m
            cases e
            exact jh.mp h
      · intro h
        match k, h with
        | 0, h => exact List.mem_cons.mpr (.inr (List.mem_append.mpr (.inl (mem_pre.mpr ⟨p, rfl, ih.mpr h⟩))))
        | 1, h => exact List.mem_cons.mpr (.inr (List.mem_append.mpr (.inr (mem_pre.mpr ⟨p, rfl, jh.mpr h⟩))))
  | c z =>
    intro p x
    cases p with
    | nil => exact ⟨fun m => (by cases List.mem_singleton.mp m; rfl), fun h => by cases h; exact .head _⟩
    | cons k p => exact ⟨fun m => (by cases List.mem_singleton.mp m), fun h => nomatch h⟩
theorem nodup_pre {k : Nat} {l : List Row} (h : (l.map (·.1)).Nodup) : ((l.map fun r : Row => (k :: r.1, r.2)).map (·.1)).Nodup := by
  have e : (l.map fun r : Row => (k :: r.1, r.2)).map (·.1) = (l.map (·.1)).map (k :: ·) := by rw [List.map_map, List.map_map]; rfl
  rw [e]
  exact List.Pairwise.map _ (fun a b n e => n (List.cons.inj e).2) h
theorem pre_ne {k : Nat} {l : List Row} {q : List Nat} (m : q ∈ (l.map fun r : Row => (k :: r.1, r.2)).map (·.1)) : ∃ r, q = k :: r := by
  obtain ⟨⟨p, x⟩, h, e⟩ := List.mem_map.mp m
  obtain ⟨r, e', _⟩ := mem_pre.mp h
  exact ⟨r, e.symm.trans e'⟩
theorem nodup_all (t : Tm) : (t.all.map (·.1)).Nodup := by
  induction t with
  | v n => exact List.nodup_cons.mpr ⟨fun m => (nomatch m), List.nodup_nil⟩
  | lam a ih => exact List.nodup_cons.mpr ⟨fun m => (by obtain ⟨r, e⟩ := pre_ne m; cases e), nodup_pre ih⟩
  | app a b ih jh =>
    refine List.nodup_cons.mpr ⟨fun m => ?_, ?_⟩
    · have m : ([] : List Nat) ∈ (a.all.map (fun r : Row => (0 :: r.1, r.2)) ++ b.all.map fun r : Row => (1 :: r.1, r.2)).map (·.1) := m
      rw [List.map_append] at m
      rcases List.mem_append.mp m with m | m <;> (obtain ⟨r, e⟩ := pre_ne m; cases e)
    · show ((a.all.map (fun r : Row => (0 :: r.1, r.2)) ++ b.all.map fun r : Row => (1 :: r.1, r.2)).map (·.1)).Nodup
      rw [List.map_append]
      refine List.nodup_append.mpr ⟨nodup_pre ih, nodup_pre jh, fun x hx y hy e => ?_⟩
      obtain ⟨r, e1⟩ := pre_ne hx
      obtain ⟨r', e2⟩ := pre_ne hy
      rw [e1, e2] at e
      cases e
  | c z => exact List.nodup_cons.mpr ⟨fun m => (nomatch m), List.nodup_nil⟩
theorem len_all (t : Tm) : t.all.length = t.sz := by
  induction t with
  | v n => rfl
  | lam a ih => show (a.all.map _).length + 1 = a.sz + 1; rw [List.length_map, ih]
  | app a b ih jh => show (a.all.map _ ++ b.all.map _).length + 1 = a.sz + b.sz + 1; rw [List.length_append, List.length_map, List.length_map, ih, jh]
  | c z => rfl
theorem at_ht : ∀ {p : List Nat} {t x : Tm}, t.at p = some x → p.length + x.ht ≤ t.ht
  | [], t, x, h => by cases h; exact Nat.le_of_eq (Nat.zero_add _)
  | k :: p, t, x, h => by
    obtain ⟨a, e, h⟩ := Option.bind_eq_some_iff.mp h
    have := at_ht h
    match t, k, e with
    | .lam b, 0, e => cases e; show p.length + 1 + x.ht ≤ a.ht + 1; omega
    | .app b c, 0, e => cases e; show p.length + 1 + x.ht ≤ max a.ht c.ht + 1; omega
    | .app b c, 1, e => cases e; show p.length + 1 + x.ht ≤ max b.ht a.ht + 1; omega
theorem at_ix : ∀ {p : List Nat} {t x : Tm}, t.at p = some x → ∀ k ∈ p, k < 2
  | [], t, x, h, k, m => nomatch m
  | j :: p, t, x, h, k, m => by
    obtain ⟨a, e, h⟩ := Option.bind_eq_some_iff.mp h
    rcases List.mem_cons.mp m with rfl | m
    · match t, k, e with
      | .lam b, 0, e => decide
      | .app b c, 0, e => decide
      | .app b c, 1, e => decide
    · exact at_ix h k m
theorem at_lt {N : Nat} : ∀ {p : List Nat} {t x : Tm}, t.at p = some x → t.lt N → x.lt N
  | [], t, x, h, l => by cases h; exact l
  | k :: p, t, x, h, l => by
    obtain ⟨a, e, h'⟩ := Option.bind_eq_some_iff.mp h
    have ih := at_lt (N := N) h'
    match t, k, e, l with
    | .lam b, 0, e, l => cases e; exact ih l
    | .app b c, 0, e, l => cases e; exact ih l.1
    | .app b c, 1, e, l => cases e; exact ih l.2
theorem kid_rep {t a u : Tm} {k : Nat} {q : List Nat} (h : t.kid k = some a) : (t.rep (k :: q) u).kid k = some (a.rep q u) ∧ ∀ j, j ≠ k → (t.rep (k :: q) u).kid j = t.kid j := by
  match t, k, h with
  | .lam b, 0, h => cases h; exact ⟨rfl, fun j n => by match j, n with | j + 1, _ => rfl⟩
  | .app b c, 0, h => cases h; exact ⟨rfl, fun j n => by match j, n with | 1, _ => rfl | j + 2, _ => rfl⟩
  | .app b c, 1, h => cases h; exact ⟨rfl, fun j n => by match j, n with | 0, _ => rfl | j + 2, _ => rfl⟩
theorem rep_above : ∀ {p r : List Nat} {t x z u : Tm}, t.at (p ++ r) = some z → t.at p = some x → x.at r = some z ∧ (t.rep (p ++ r) u).at p = some (x.rep r u)
  | [], r, t, x, z, u, h, h' => by cases h'; exact ⟨h, rfl⟩
  | k :: p, r, t, x, z, u, h, h' => by
    obtain ⟨a, e, h⟩ := Option.bind_eq_some_iff.mp h
    have h' : a.at p = some x := by rw [Tm.at, e] at h'; exact h'
    obtain ⟨h1, h2⟩ := rep_above (u := u) h h'
    refine ⟨h1, ?_⟩
    show ((t.rep (k :: (p ++ r)) u).kid k).bind _ = _
    rw [(kid_rep e).1]; exact h2
theorem rep_off : ∀ {p q : List Nat} {t z u : Tm}, t.at q = some z → q.take p.length ≠ p → p.take q.length ≠ q → (t.rep q u).at p = t.at p
  | [], q, t, z, u, h, n, n' => absurd rfl n
  | j :: p, [], t, z, u, h, n, n' => absurd rfl n'
  | j :: p, k :: q, t, z, u, h, n, n' => by
    obtain ⟨a, e, h'⟩ := Option.bind_eq_some_iff.mp h
    show ((t.rep (k :: q) u).kid j).bind _ = (t.kid j).bind _
    by_cases g : j = k
    · subst g
      rw [(kid_rep e).1, e]
      exact rep_off h' (fun w => n (by show j :: q.take p.length = _; rw [w])) (fun w => n' (by show j :: p.take q.length = _; rw [w]))
    · rw [(kid_rep e).2 j g]
end Mine
end
-- part P24
section
open PySem PySem.W PyProof.Rows
namespace Mine

theorem eqvs_pp : ∀ {a b : List Nat}, PV.eqvs (pp a) (pp b) = decide (a = b)
  | [], [] => rfl
  | [], _ :: _ => rfl
  | _ :: _, [] => rfl
  | j :: a, k :: b => by
    show (((j : Int) == (k : Int)) && PV.eqvs (pp a) (pp b)) = _
    rw [eqvs_pp]
    by_cases h : j = k
    · subst h
      rw [beq_self_eq_true, Bool.true_and]
      exact decide_eq_decide.mpr ⟨fun e => by rw [e], fun e => (List.cons.inj e).2⟩
    · rw [beq_false_of_ne (show (j : Int) ≠ k by omega), Bool.false_and]
      exact (decide_eq_false fun e => h (List.cons.inj e).1).symm
theorem coks_pp : ∀ {a b : List Nat}, PV.coks (pp a) (pp b) = true
  | [], _ => rfl
  | _ :: _, [] => rfl
  | j :: a, k :: b => by show (true && PV.coks (pp a) (pp b)) = true; rw [coks_pp]; rfl
theorem cmp_pp {a b : List Nat} {σ : St} {c : Bool} (h : decide (a = b) = c) : cmpv σ .Eq (.tup (pp a)) (.tup (pp b)) = some c := by
  show gd (PV.coks (pp a) (pp b) && decide (PV.deps (pp a) + 1 ≤ 1000)) (PV.eqvs (pp a) (pp b)) = _
  rw [coks_pp, dep_pp, eqvs_pp, h]; rfl
theorem take_pp {a : List Nat} {n : Nat} {i : Int} (hi : i = n) (h : a.length ≤ 1000000) : upTo (.tup (pp a)) (.int i) = some (.tup (pp (a.take n))) := by
  subst hi
  have e : (pp a).take n = pp (a.take n) := List.map_take.symm
  have g : gd (small (pp a).length) (PV.tup ((pp a).take n)) = some (.tup (pp (a.take n))) := by
    rw [e]; exact gd_t (small_of (by rw [pp_len]; exact h))
  exact g
theorem len_pp {a : List Nat} {σ : St} (h : a.length ≤ 1000000) : blt σ .len (.tup (pp a)) = some (.int a.length) := by
  show Option.bind (some (pp a).length) (fun n : Nat => gd (small n) (PV.int n)) = _
  rw [pp_len]
  exact gd_t (small_of h)
theorem str_self {s : Str} : (s == s) = true := beq_self_eq_true s
theorem eqv_self : ∀ {t : Tm}, PV.eqv t.pv t.pv = true
  | .v n => by show ((vt n == vt n) && true) = true; rw [str_self]; rfl
  | .lam a => by show ((slam == slam) && (PV.eqv a.pv a.pv && true)) = true; rw [eqv_self (t := a)]; rfl
  | .app a b => by show ((sapp == sapp) && (PV.eqv a.pv a.pv && (PV.eqv b.pv b.pv && true))) = true; rw [eqv_self (t := a), eqv_self (t := b)]; rfl
  | .c z => by cases z <;> rfl
theorem cok_self : ∀ {t : Tm}, PV.cok t.pv t.pv = true
  | .v n => rfl
  | .lam a => by show (true && (PV.cok a.pv a.pv && true)) = true; rw [cok_self (t := a)]; rfl
  | .app a b => by show (true && (PV.cok a.pv a.pv && (PV.cok b.pv b.pv && true))) = true; rw [cok_self (t := a), cok_self (t := b)]; rfl
  | .c z => rfl
theorem dep_pv : ∀ {t : Tm}, PV.dep t.pv = t.ht + 1
  | .v n => rfl
  | .lam a => by show max 0 (max (PV.dep a.pv) 0) + 1 = a.ht + 1 + 1; rw [dep_pv (t := a)]; omega
  | .app a b => by show max 0 (max (PV.dep a.pv) (max (PV.dep b.pv) 0)) + 1 = max a.ht b.ht + 1 + 1; rw [dep_pv (t := a), dep_pv (t := b)]; omega
  | .c z => rfl
theorem ne_self {t : Tm} {σ : St} (h : t.ht ≤ 900) : cmpv σ .NotEq t.pv t.pv = some false := by
  have e : cmpq σ t.pv t.pv = gd (PV.may t.pv t.pv) (PV.eqv t.pv t.pv) := by cases t <;> rfl
  show (cmpq σ t.pv t.pv).map (!·) = _
  rw [e, eqv_self]
  unfold PV.may
  rw [cok_self, dep_pv, decide_eq_true (by omega)]; rfl
noncomputable def b25 : { b : List PS // (fn01 "_law_is_kept").body = b } := by
  refine ⟨?b, ?h⟩
  case h => conv => lhs; reduce
theorem t25 : Tx 25 "_law_is_kept" 3 8 b25.1 := ⟨rfl, by kernel_rfl, by kernel_rfl, by kernel_rfl, b25.2⟩
noncomputable def ik (p : List Nat) : List Int := p.map fun (k : Nat) => (k : Int)
theorem item_d {σ : St} {k : Nat} {kvs : List (List Int × PV)} {p : List Nat} (h : σ[k]? = some (.dat kvs)) : item σ (.cell k) (.tup (pp p)) = kvs.lookup (ik p) := by
  have e : item σ (.cell k) (.tup (pp p)) = (keyt (.tup (pp p))).bind fun s => kvs.lookup s := by
    unfold item
    show (match σ[k]? with
      | some c => match c with
        | .lst xs => itemI xs (.tup (pp p))
        | .dct kvs => (asS (.tup (pp p))).bind fun s => kvs.lookup s
        | .dat kvs => (keyt (.tup (pp p))).bind fun s => kvs.lookup s
        | .tbl => none
      | none => none) = _
    rw [h]
  rw [e]
  show (keyv (pp p)).bind _ = _
  rw [keyv_pp]; rfl
theorem datAt_s {σ : St} {k : Nat} {kvs : List (List Int × PV)} (h : σ[k]? = some (.dat kvs)) : datAt σ k = some kvs := by unfold datAt; rw [h]
theorem notin_d {σ : St} {k : Nat} {kvs : List (List Int × PV)} {p : List Nat} {y : PV} (h : σ[k]? = some (.dat kvs)) (q : kvs.lookup (ik p) = some y) : cmpv σ .NotIn (.tup (pp p)) (.cell k) = some false := by
  show (((datAt σ k).bind fun kvs => (keyv (pp p)).map fun q => (kvs.lookup q).isSome)).map (!·) = _
  rw [datAt_s h, keyv_pp]
  show some (!(kvs.lookup (ik p)).isSome) = _
  rw [q]; rfl
theorem get_d {σ : St} {k : Nat} {kvs : List (List Int × PV)} {p : List Nat} {y : PV} (h : σ[k]? = some (.dat kvs)) (q : kvs.lookup (ik p) = some y) : mth .get k (.tup (pp p)) σ = .ok y σ := by
  refine wit_s (datAt_s h) (wit_s (show keyv (pp p) = _ from keyv_pp) ?_)
  show Res.ok ((kvs.lookup (ik p)).getD .none) σ = _
  rw [q]; rfl
theorem mok_g {σ : St} {k : Nat} {kvs : List (List Int × PV)} (h : σ[k]? = some (.dat kvs)) : gd (mok .get σ k) () = some () := gd_t (by show (datAt σ k).isSome = true; rw [datAt_s h]; rfl)
end Mine
end
-- part P25
section
open PySem PySem.W PyProof.Rows
namespace Mine

/-- the same head and as many kids -/
noncomputable def like (y x : Tm) : Prop := (∃ a b, y = .lam a ∧ x = .lam b) ∨ ∃ a b c d, y = .app a b ∧ x = .app c d
theorem kept_1 {Φ : Phi} {B H A₀ B₀ : Option PV} {σ : St} {k : Nat} {kvs : List (List Int × PV)} {p q : List Nat} {x : Tm} (h : σ[k]? = some (.dat kvs)) (hp : p.length ≤ 1000) (hq : q.length ≤ 1000) (hx : x.ht ≤ 900)
    (h1 : q.take p.length = p → p.take q.length ≠ q → ∃ y, kvs.lookup (ik p) = some y.pv ∧ like y x) (h2 : q.take p.length ≠ p → p.take q.length ≠ q → kvs.lookup (ik p) = some x.pv) :
    ∃ A' B', evSs Φ 1000 (lbody b25.1) [B, H, some (.tup (pp q)), some (.cell k), some (.tup (pp p)), some x.pv, A₀, B₀] σ = .ok (.nx [B, H, some (.tup (pp q)), some (.cell k), some (.tup (pp p)), some x.pv, A', B']) σ := by
  have lp : blt σ .len (.tup (pp p)) = some (.int p.length) := len_pp (by omega)
  have lq : blt σ .len (.tup (pp q)) = some (.int q.length) := len_pp (by omega)
  have u1 : upTo (.tup (pp q)) (.int p.length) = some (.tup (pp (q.take p.length))) := take_pp rfl (by omega)
  have u2 : upTo (.tup (pp p)) (.int q.length) = some (.tup (pp (p.take q.length))) := take_pp rfl (by omega)
  have T : ∀ a b, decide (q.take p.length = p) = a → decide (p.take q.length = q) = b → ∀ z : Res Fl, (∀ ρ, ρ = [B, H, some (.tup (pp q)), some (.cell k), some (.tup (pp p)), some x.pv, some (.bool a), some (.bool b)] → kSs Φ 1000 (lbody b25.1).tail ρ σ (fun ρ σ => .ok (.nx ρ) σ) (fun v σ => .ok (.rt v) σ) = z) → evSs Φ 1000 (lbody b25.1) [B, H, some (.tup (pp q)), some (.cell k), some (.tup (pp p)), some x.pv, A₀, B₀] σ = z := fun a b ha hb z Z => by
    rw [kB_of]
    have c1 : cmpv σ .Eq (.tup (pp (q.take p.length))) (.tup (pp p)) = some a := cmp_pp ha
    have c2 : cmpv σ .Eq (.tup (pp (p.take q.length))) (.tup (pp q)) = some b := cmp_pp hb
    refine wit_s lp ?_
    refine wit_s u1 ?_
    refine wit_s rfl (wit_s c1 ?_)
    refine wit_s lq ?_
    refine wit_s u2 ?_
    refine wit_s rfl (wit_s c2 ?_)
    exact Z _ rfl
  by_cases ha : q.take p.length = p
  · by_cases hb : p.take q.length = q
    · refine ⟨some (.bool true), some (.bool true), T true true (decide_eq_true ha) (decide_eq_true hb) _ fun ρ e => ?_⟩
      subst e
      exact rfl
    · refine ⟨some (.bool true), some (.bool false), T true false (decide_eq_true ha) (decide_eq_false hb) _ fun ρ e => ?_⟩
      subst e
      obtain ⟨y, hy, lk⟩ := h1 ha hb
      rcases lk with ⟨a, b, rfl, rfl⟩ | ⟨a, c, b, d, rfl, rfl⟩
      · refine wit_s (notin_d h hy) ?_
        refine wit_s ((item_d h).trans hy) ?_
        refine wit_s ((item_d h).trans hy) ?_
        exact rfl
      · refine wit_s (notin_d h hy) ?_
        refine wit_s ((item_d h).trans hy) ?_
        refine wit_s ((item_d h).trans hy) ?_
        exact rfl
  · by_cases hb : p.take q.length = q
    · refine ⟨some (.bool false), some (.bool true), T false true (decide_eq_false ha) (decide_eq_true hb) _ fun ρ e => ?_⟩
      subst e
      exact rfl
    · refine ⟨some (.bool false), some (.bool false), T false false (decide_eq_false ha) (decide_eq_false hb) _ fun ρ e => ?_⟩
      subst e
      refine wit_s (mok_g h) ?_
      apply bind_s
      · exact get_d h (h2 ha hb)
      refine wit_s rfl (wit_s (ne_self hx) ?_)
      exact rfl
end Mine
end
-- part P26
section
open PySem PySem.W PyProof.Rows
namespace Mine

theorem like_rep {x z u : Tm} {j : Nat} {r : List Nat} (h : x.at (j :: r) = some z) : like (x.rep (j :: r) u) x := by
  obtain ⟨a, e, _⟩ := Option.bind_eq_some_iff.mp h
  match x, j, e with
  | .lam b, 0, _ => exact .inl ⟨_, _, rfl, rfl⟩
  | .app b c, 0, _ => exact .inr ⟨_, _, _, _, rfl, rfl⟩
  | .app b c, 1, _ => exact .inr ⟨_, _, _, _, rfl, rfl⟩
noncomputable def kvr (R : List Row) : List (List Int × PV) := R.map fun r => (ik r.1, r.2.pv)
theorem kvsOf_s : ∀ {R : List Row}, kvsOf (R.map rowPV) = some (kvr R)
  | [] => rfl
  | (p, x) :: R => by
    show (keyv (pp p)).bind (fun q => (kvsOf (R.map rowPV)).map ((q, x.pv) :: ·)) = _
    rw [keyv_pp, kvsOf_s]; rfl
theorem ik_inj {a b : List Nat} (h : ik a = ik b) : a = b := List.map_inj_right (fun x y e => Int.ofNat.inj e) |>.mp h
theorem kv_nodup {R : List Row} (h : (R.map (·.1)).Nodup) : ((kvr R).map (·.1)).Nodup := by
  have e : (kvr R).map (·.1) = (R.map (·.1)).map ik := by unfold kvr; rw [List.map_map, List.map_map]; rfl
  rw [e]
  exact List.Pairwise.map _ (fun a b n e => n (ik_inj e)) h
theorem lookup_s : ∀ {R : List Row} {p : List Nat} {x : Tm}, (R.map (·.1)).Nodup → (p, x) ∈ R → (kvr R).lookup (ik p) = some x.pv
  | (q, y) :: R, p, x, n, m => by
    obtain ⟨n1, n2⟩ := List.nodup_cons.mp n
    show (match ik p == ik q with | true => some y.pv | false => (kvr R).lookup (ik p)) = _
    by_cases h : p = q
    · subst h
      rw [beq_self_eq_true]
      rcases List.mem_cons.mp m with m | m
      · cases m; rfl
      · exact absurd (List.mem_map.mpr ⟨(p, x), m, rfl⟩) n1
    · rw [beq_false_of_ne fun e => h (ik_inj e)]
      rcases List.mem_cons.mp m with m | m
      · cases m; exact absurd rfl h
      · exact lookup_s n2 m
theorem kept_l {Φ : Phi} {B H : Option PV} {σ : St} {k : Nat} {kvs : List (List Int × PV)} {q : List Nat} (h : σ[k]? = some (.dat kvs)) (hq : q.length ≤ 1000) : ∀ {R : List Row} {P X A₀ B₀ : Option PV},
    (∀ p x, (p, x) ∈ R → p.length ≤ 1000 ∧ x.ht ≤ 900 ∧ (q.take p.length = p → p.take q.length ≠ q → ∃ y, kvs.lookup (ik p) = some y.pv ∧ like y x) ∧ (q.take p.length ≠ p → p.take q.length ≠ q → kvs.lookup (ik p) = some x.pv)) →
    ∃ ρ', ∀ a b c d e f, frGo (fun ρ σ => evSs Φ 1000 (lbody b25.1) ρ σ) (.pair 4 a b 5 c d e f) (R.map rowPV) [B, H, some (.tup (pp q)), some (.cell k), P, X, A₀, B₀] σ = .ok (.nx ρ') σ
  | [], P, X, A₀, B₀, _ => ⟨_, fun _ _ _ _ _ _ => rfl⟩
  | (p, x) :: R, P, X, A₀, B₀, hR => by
    obtain ⟨hp, hx, h1, h2⟩ := hR p x (.head _)
    obtain ⟨A', B', e1⟩ := kept_1 (Φ := Φ) (B := B) (H := H) (A₀ := A₀) (B₀ := B₀) h hp hq hx h1 h2
    obtain ⟨ρ', e2⟩ := kept_l (Φ := Φ) (B := B) (H := H) h hq (R := R) (P := some (.tup (pp p))) (X := some x.pv) (A₀ := A') (B₀ := B') fun p x m => hR p x (.tail _ m)
    exact ⟨ρ', fun a b c d e f => frGo_cons.trans (wit_s rfl (bind_s e1 (e2 a b c d e f)))⟩
-- the steps of wp
structure WP {β : Type} (r : Res β) (K : β → St → Prop) (X : St → Prop) : Prop where
  h : r.wp K X
theorem Tx.runw {f : Nat} {x : Str} {k n : Nat} {b : List PS} (t : Tx f x k n b) {d : Nat} {args : List PV} {σ : St} {K : PV → St → Prop} {X : St → Prop} (ha : args.length = k)
    (h : ∀ Φ, Φ = phi L01 d → WP (kSs Φ 1000 b (args.map some ++ List.replicate (n - args.length) none) σ (fun _ σ => .ok .none σ) (fun v σ => .ok v σ)) K X) : WP (phi L01 (d + 1) f args σ) K X := by
  rw [t.st ha rfl]; exact h _ rfl
section
variable {β : Type} {K : β → St → Prop} {X : St → Prop}
theorem wp_any {Φ : Phi} {d f : Nat} {args : List PV} {σ : St} {P : List PV → Prop} {F : List PV → Res PV} {k : PV → St → Res β} (e : Φ = phi L01 d) (h : phi L01 d f args σ = .any P F) (q : ∀ ys, P ys → WP ((F ys).bind k) K X) : WP ((Φ f args σ).bind k) K X := by rw [e, h]; exact ⟨fun ys p => (q ys p).h⟩
theorem wp_w {α : Type} {o : Option α} {f : α → Res β} {a : α} (h : o = some a) (q : WP (f a) K X) : WP (wit o f) K X := by rw [h]; exact q
theorem wp_of {r : Res β} {v : β} {σ : St} (h : r = .ok v σ) (q : K v σ) : WP r K X := by rw [h]; exact ⟨q⟩
theorem wp_s {α : Type} {r : Res α} {f : α → St → Res β} {x : α} {σ : St} (h : r = .ok x σ) (q : WP (f x σ) K X) : WP (r.bind f) K X := by rw [h]; exact q
theorem wp_call {Φ : Phi} {d f : Nat} {args : List PV} {σ σ' : St} {x : PV} {k : PV → St → Res β} (e : Φ = phi L01 d) (h : phi L01 d f args σ = .ok x σ') (q : WP (k x σ') K X) : WP ((Φ f args σ).bind k) K X := by rw [e, h]; exact q
theorem wp_cmp {r : Res (List PV)} {k : List PV → St → Res β} {ys : List PV} {σ : St} (h : r = .ok ys σ) (q : WP (k ys σ) K X) : WP (cmpR r k) K X := by rw [h]; exact q
theorem wp_f {b : Bool} {x y : Res β} (h : b = false) (q : WP y K X) : WP (br b x y) K X := by rw [h]; exact q
theorem wp_t {b : Bool} {x y : Res β} (h : b = true) (q : WP x K X) : WP (br b x y) K X := by rw [h]; exact q
/-- a call that itself may choose -/
theorem wp_r {α : Type} {r : Res α} {f : α → St → Res β} {K' : α → St → Prop} (h : WP r K' (fun _ => False)) (q : ∀ a σ, K' a σ → WP (f a σ) K X) : WP (r.bind f) K X :=
  ⟨by
    have h := h.h
    induction r with
    | ok a σ => exact (q a σ h).h
    | exc σ => exact h.elim
    | bad => exact h
    | any P g ih => exact fun l p => ih l ⟨h l p⟩ (h l p)⟩
end
theorem mid {S : St} {x y : SC} : ((S ++ [x]) ++ [y])[S.length]? = some x := by
  rw [List.getElem?_append_left (by rw [List.length_append]; exact Nat.lt_succ_self _), List.getElem?_append_right (Nat.le_refl _), Nat.sub_self]; rfl
theorem s_kept {d : Nat} {t u z : Tm} {q : List Nat} {σ : St} (ht : tblOk σ = true) (hz : t.at q = some z) (h1 : t.sz ≤ 900) (h2 : (t.rep q u).sz ≤ 900) :
    WP (phi L01 (d + 2) 25 [t.pv, (t.rep q u).pv, .tup (pp q)] σ) (fun v σ' => v = .bool true ∧ ∃ τ, σ' = σ ++ τ) (fun _ => False) := by
  generalize hb : t.rep q u = b at *
  have h3 := ht_sz (t := t)
  have h4 := ht_sz (t := b)
  have l1 : t.all.length ≤ 999 := by rw [len_all]; omega
  have l2 : b.all.length ≤ 999 := by rw [len_all]; omega
  have p1 : ∀ r ∈ t.all, r.1.length ≤ 1000 := fun r m => by have := at_ht (mem_all.mp m); omega
  have p2 : ∀ r ∈ b.all, r.1.length ≤ 1000 := fun r m => by have := at_ht (mem_all.mp m); omega
  have lq : q.length ≤ 1000 := by have := at_ht hz; omega
  obtain ⟨L, c, pL, e1⟩ := s_places (t := b) (d := d) (σ := σ) ht l2 p2
  refine t25.runw rfl fun Φ e => ?_
  apply wp_any e e1
  intro ys py
  obtain ⟨R, pR, rfl⟩ := perm_map py rfl
  have pRb := pR.trans pL
  have nd : (R.map (·.1)).Nodup := (pRb.map (·.1)).nodup_iff.mpr (nodup_all b)
  have lR : (R.map rowPV).length ≤ 1000000 := by rw [List.length_map, pRb.length_eq]; omega
  refine wp_w (gd_t (small_of lR)) ?_
  refine wp_w kvsOf_s ?_
  refine wp_w (gd_t (decide_eq_true (kv_nodup nd))) ?_
  obtain ⟨L', c', pL', e2⟩ := s_places (t := t) (d := d) (σ := (σ ++ [c]) ++ [.dat (kvr R)]) (tbl_app (tbl_app ht)) l1 p1
  apply wp_any e e2
  intro ys py
  obtain ⟨R', pR', rfl⟩ := perm_map py rfl
  have pRt := pR'.trans pL'
  have lR' : (R'.map rowPV).length ≤ 1000000 := by rw [List.length_map, pRt.length_eq]; omega
  obtain ⟨ρ', e3⟩ := kept_l (Φ := Φ) (B := some t.pv) (H := some b.pv) (σ := ((σ ++ [c]) ++ [.dat (kvr R)]) ++ [c']) (k := (σ ++ [c]).length) (kvs := kvr R) (q := q) (R := R') (P := none) (X := none) (A₀ := none) (B₀ := none) mid lq fun p x m => by
    have hx := mem_all.mp (pRt.mem_iff.mp m)
    have hh := at_ht hx
    refine ⟨by omega, by omega, fun ha hb' => ?_, fun ha hb' => ?_⟩
    · obtain ⟨r, rfl⟩ : ∃ r, q = p ++ r := ⟨q.drop p.length, by
        have := List.take_append_drop p.length q
        rw [ha] at this; exact this.symm⟩
      obtain ⟨g1, g2⟩ := rep_above (u := u) hz hx
      cases r with
      | nil => exact absurd (by rw [List.append_nil]; exact List.take_length) hb'
      | cons j r => exact ⟨_, lookup_s nd (pRb.mem_iff.mpr (mem_all.mpr (by rw [← hb]; exact g2))), like_rep g1⟩
    · have g := rep_off (u := u) hz ha hb'
      exact lookup_s nd (pRb.mem_iff.mpr (mem_all.mpr (by rw [← hb, g]; exact hx)))
  refine wp_of (v := .bool true) (σ := ((σ ++ [c]) ++ [.dat (kvr R)]) ++ [c']) ?_ ⟨rfl, [c] ++ ([.dat (kvr R)] ++ [c']), by simp only [List.append_assoc]⟩
  refine wit_s (gd_t (small_of lR')) ?_
  apply bind_s
  · exact e3 _ _ _ _ _ _
  exact rfl
end Mine
end
-- part P27
section
open PySem PySem.W PyProof.Rows
namespace Mine

noncomputable def b26 : { b : List PS // (fn01 "law").body = b } := by
  refine ⟨?b, ?h⟩
  case h => conv => lhs; reduce
theorem t26 : Tx 26 "law" 1 11 b26.1 := ⟨rfl, by kernel_rfl, by kernel_rfl, by kernel_rfl, b26.2⟩
/-- the paths of the apps of a lam -/
noncomputable def rd : List Row → List (List Nat)
  | [] => []
  | q :: R => br q.2.red (q.1 :: rd R) (rd R)
noncomputable def tp (l : List (List Nat)) : List PV := l.map fun p => PV.tup (pp p)
theorem mem_rd : ∀ {R : List Row} {p : List Nat}, p ∈ rd R ↔ ∃ x, (p, x) ∈ R ∧ x.red = true
  | [], p => ⟨fun m => (nomatch m), fun ⟨x, m, _⟩ => (nomatch m)⟩
  | (q, y) :: R, p => by
    have e : rd ((q, y) :: R) = br y.red (q :: rd R) (rd R) := rfl
    rw [e]
    cases h : y.red with
    | true =>
      show p ∈ q :: rd R ↔ _
      rw [List.mem_cons, mem_rd]
      constructor
      · rintro (rfl | ⟨x, m, r⟩)
        · exact ⟨y, .head _, h⟩
        · exact ⟨x, .tail _ m, r⟩
      · rintro ⟨x, m, r⟩
        rcases List.mem_cons.mp m with m | m
        · cases m; exact .inl rfl
        · exact .inr ⟨x, m, r⟩
    | false =>
      show p ∈ rd R ↔ _
      rw [mem_rd]
      constructor
      · rintro ⟨x, m, r⟩; exact ⟨x, .tail _ m, r⟩
      · rintro ⟨x, m, r⟩
        rcases List.mem_cons.mp m with m | m
        · cases m; rw [h] at r; cases r
        · exact ⟨x, m, r⟩
theorem comp_ready {tst elt : Vars → St → Res PV} {n1 n2 : Str} {p1 p2 tpp : Pos} {k : Nat} {σ : St} (h1 : ∀ (p : List Nat) (x : Tm), tst [some (.tup (pp p)), some x.pv] σ = .ok (.bool x.red) σ) (h2 : ∀ (p : List Nat) (x : Tm), elt [some (.tup (pp p)), some x.pv] σ = .ok (.tup (pp p)) σ) :
    ∀ {R : List Row} {a b : Option PV} {acc : List PV}, compGo tst elt (.pair 0 n1 p1 1 n2 p2 k tpp) (R.map rowPV) [a, b] acc σ = .ok (acc ++ tp (rd R)) σ
  | [], a, b, acc => by rw [List.map_nil, compGo_nil]; show _ = Res.ok (acc ++ []) σ; rw [List.append_nil]
  | (p, x) :: R, a, b, acc => by
    rw [List.map_cons, compGo_cons]
    refine wit_s (a := [some (.tup (pp p)), some x.pv]) rfl (bind_s (h1 p x) ?_)
    have e : rd ((p, x) :: R) = br x.red (p :: rd R) (rd R) := rfl
    rw [e]
    cases x.red with
    | true =>
      refine bind_s (h2 p x) ((comp_ready h1 h2 (R := R)).trans ?_)
      rw [List.append_assoc]; rfl
    | false => exact comp_ready h1 h2 (R := R)
theorem deps_tp : ∀ {l : List (List Nat)}, PV.deps (tp l) ≤ 1
  | [] => Nat.zero_le _
  | p :: l => by
    have := deps_tp (l := l)
    show max (PV.deps (pp p) + 1) (PV.deps (tp l)) ≤ 1
    rw [dep_pp]; omega
theorem emp_tp {l : List (List Nat)} {σ : St} : cmpv σ .Eq (.lst (tp l)) (.lst []) = some l.isEmpty := by
  have a : PV.coks (tp l) [] = true := by cases l <;> rfl
  have b : PV.eqvs (tp l) [] = l.isEmpty := by cases l <;> rfl
  show gd (PV.coks (tp l) [] && decide (PV.deps (tp l) + 1 ≤ 1000)) (PV.eqvs (tp l) []) = _
  have := deps_tp (l := l)
  rw [a, b, decide_eq_true (by omega)]; rfl
theorem notin_tp {l : List (List Nat)} {q : List Nat} {σ : St} {c : Bool} (h : decide (q ∈ l) = c) : cmpv σ .NotIn (.tup (pp q)) (.lst (tp l)) = some (!c) := by
  have a : (tp l).all (fun x => PV.may x (.tup (pp q))) = true := List.all_eq_true.mpr fun x m => by
    obtain ⟨p, _, rfl⟩ := List.mem_map.mp m
    show (PV.coks (pp p) (pp q) && decide (PV.deps (pp p) + 1 ≤ 1000)) = true
    rw [coks_pp, dep_pp]; rfl
  have b : ∀ l : List (List Nat), (tp l).any (fun x => PV.eqv x (.tup (pp q))) = decide (q ∈ l) := fun l => by
    induction l with
    | nil => rfl
    | cons p l ih =>
      show (PV.eqvs (pp p) (pp q) || (tp l).any fun x => PV.eqv x (.tup (pp q))) = _
      rw [ih, eqvs_pp, ← Bool.decide_or]
      exact decide_eq_decide.mpr ⟨fun e => List.mem_cons.mpr (e.imp_left Eq.symm), fun m => (List.mem_cons.mp m).imp_left Eq.symm⟩
  show (gd ((tp l).all fun x => PV.may x (.tup (pp q))) ((tp l).any fun x => PV.eqv x (.tup (pp q)))).map (!·) = _
  rw [a, b, h]; rfl
theorem len_l {l : List PV} {σ : St} (h : l.length ≤ 1000000) : blt σ .len (.lst l) = some (.int l.length) := gd_t (small_of h)
theorem item_l {l : List PV} {σ : St} {v : Nat} {x : PV} (hv : v < 1000000) (h : l[v]? = some x) : item σ (.lst l) (.int v) = some x := itemI_s rfl (by omega) h
theorem ne_bool {σ : St} {b : Bool} : cmpv σ .NotEq (.bool b) (.bool b) = some false := by cases b <;> rfl
theorem ne_int {σ : St} {i : Int} : cmpv σ .NotEq (.int i) (.int i) = some false := by
  show some (!(i == i)) = _
  rw [beq_self_eq_true]; rfl
/-- the term still tells the number -/
inductive TI (t : Tm) (due : Nat) : Prop where
  | mk {g w : Nat} (g1 : 1 ≤ g) (g2 : g ≤ 16) (wb : w ≤ 214) (D : Den [] t (NT g) (ch g due) nil w)
/-- how a turn of law ends -/
inductive KB (cs : List Int) (n due : Nat) : Fl → St → Prop where
  | rt {σ : St} (h : tblOk σ = true) : KB cs n due (.rt (.bool true)) σ
  | nx {S I a b c d e f : Option PV} {t : Tm} {m : Nat} {r : St} (l : m ≤ n + 2) (h : TI t due) : KB cs n due (.nx [S, some (.cell 1), I, some (.int due), some t.pv, a, b, c, d, e, f]) (pst cs m r)
structure Fit (t : Tm) : Prop where
  sz : t.sz ≤ 214
  ht : t.ht ≤ 213
  lt : t.lt 400
  cl : t.cl 0
theorem TI.fit {t : Tm} {due : Nat} : TI t due → Fit t
  | .mk g1 g2 wb D => by
    have a := D.sz
    have b := ht_sz (t := t)
    exact ⟨by omega, by omega, cl_lt D.cl (by show 0 + t.ht ≤ 400; omega), D.cl⟩
end Mine
end
-- part P28
section
open PySem PySem.W PyProof.Rows
namespace Mine

theorem red_app {x : Tm} (h : x.red = true) : ∃ a b, x = .app (.lam a) b := by
  cases x with
  | app a b =>
    cases a with
    | lam a => exact ⟨a, b, rfl⟩
    | v n => cases h
    | app a c => cases h
    | c z => cases h
  | v n => cases h
  | lam a => cases h
  | c z => cases h
theorem at_snoc : ∀ {p : List Nat} {t x : Tm} {k : Nat}, t.at p = some x → t.at (p ++ [k]) = (x.kid k).bind fun y => some y
  | [], t, x, k, h => by cases h; rfl
  | j :: p, t, x, k, h => by
    obtain ⟨a, e, h'⟩ := Option.bind_eq_some_iff.mp h
    show (t.kid j).bind _ = _
    rw [e]
    exact at_snoc h'
theorem kid5 {x : Tm} : x.kid 5 = none := by cases x <;> rfl
theorem ref_any {t x : Tm} {p : List Nat} {σ : St} (F : Fit t) (h : t.at p = some x) : phi L01 499 24 [t.pv, .tup (pp p)] σ = .ok (.bool (!x.red)) σ := by
  have hh := at_ht h
  have f1 := F.ht
  cases r : x.red with
  | true =>
    obtain ⟨a, b, rfl⟩ := red_app r
    have hh : p.length + (max (a.ht + 1) b.ht + 1) ≤ t.ht := hh
    have l := at_lt h F.lt
    exact s_ref_f (d := 491) h (by omega) (by omega) (by omega) l.1 l.2 (by omega)
  | false => exact s_ref_t (d := 491) (by omega) (fun k m => Nat.lt_trans (at_ix h k m) (by decide)) fun y e => by rw [h] at e; cases e; exact r
theorem ref_five {t x : Tm} {p : List Nat} {σ : St} (F : Fit t) (h : t.at p = some x) : phi L01 499 24 [t.pv, .tup (pp (p ++ [5]))] σ = .ok (.bool true) σ := by
  have hh := at_ht h
  have f1 := F.ht
  refine s_ref_t (d := 491) (by rw [List.length_append]; show p.length + 1 ≤ _; omega) (fun k m => ?_) fun y e => ?_
  · rcases List.mem_append.mp m with m | m
    · exact Nat.lt_trans (at_ix h k m) (by decide)
    · cases List.mem_singleton.mp m; decide
  · rw [at_snoc h, kid5] at e; cases e
theorem counted_ti {t : Tm} {due : Nat} {σ : St} : TI t due → phi L01 499 21 [t.pv] σ = .ok (.int due) (σ ++ [.lst []])
  | .mk (g := g) (w := w) g1 g2 wb D => s_counted (d := 497) D g1 (by omega) (lt_mono (by decide) t (TI.mk g1 g2 wb D).fit.lt)
/-- the step by beta -/
theorem step_ti {t a b : Tm} {p : List Nat} {due : Nat} (h : t.at p = some (.app (.lam a) b)) : TI t due → TI (t.rep p (a.put 0 b)) due
  | .mk g1 g2 wb D => .mk g1 g2 wb (Den.rep h (fun D => D.beta) D)
theorem body_w {Φ : Phi} {cs : List Int} {n due : Nat} {t : Tm} {r : St} {S I x5 x6 x7 x8 x9 x10 : Option PV} (e : Φ = phi L01 499) (T : TI t due) (hn : n + 2 ≤ 900) (hc : cs.length ≤ 1000) :
    WP (evSs Φ 1000 (lbody b26.1) [S, some (.cell 1), I, some (.int due), some t.pv, x5, x6, x7, x8, x9, x10] (pst cs n r)) (KB cs n due) (fun _ => False) := by
  rw [kB_of]
  have F := T.fit
  have f1 := F.sz
  have f2 := F.ht
  obtain ⟨L, c, pL, e1⟩ := s_places (t := t) (d := 498) (σ := pst cs n r) rfl (by rw [len_all]; omega) fun q m => by have := at_ht (mem_all.mp m); omega
  apply wp_any e e1
  intro ys py
  obtain ⟨R, pR, rfl⟩ := perm_map py rfl
  have pt := pR.trans pL
  have lR : R.length = t.sz := pt.length_eq.trans (len_all t)
  have lR' : (R.map rowPV).length ≤ 1000000 := by rw [List.length_map]; omega
  have at_R : ∀ {p x}, (p, x) ∈ R → t.at p = some x := fun m => mem_all.mp (pt.mem_iff.mp m)
  refine wp_w (gd_t (small_of lR')) ?_
  apply wp_cmp
  · refine comp_ready (fun p x => evB_of.trans ?_) fun p x => rfl
    apply call_s e
    · exact s_lamapp (d := 498)
    cases x.red <;> rfl
  refine wp_w emp_tp ?_
  by_cases h0 : rd R = []
  · refine wp_t (by rw [h0]; rfl) ?_
    exact wp_of (σ := pst cs n (r ++ [c])) rfl (.rt rfl)
  have pos : 0 < (rd R).length := List.length_pos_iff.mpr h0
  have he : (rd R).isEmpty = false := by cases q : rd R with
    | nil => exact absurd q h0
    | cons _ _ => rfl
  refine wp_f he ?_
  have lrd : (rd R).length ≤ R.length := by
    have : ∀ R : List Row, (rd R).length ≤ R.length := fun R => by
      induction R with
      | nil => exact Nat.le_refl _
      | cons q R ih =>
        show (br q.2.red (q.1 :: rd R) (rd R)).length ≤ R.length + 1
        cases q.2.red with
        | true => exact Nat.succ_le_succ ih
        | false => exact Nat.le_succ_of_le ih
    exact this R
  obtain ⟨v1, hv1, c1⟩ := s_coin (d := 498) (f := (rd R).length) (cs := cs) (n := n) (r := r ++ [c]) pos (by omega) hc
  obtain ⟨v2, hv2, c2⟩ := s_coin (d := 498) (f := R.length) (cs := cs) (n := n + 1) (r := r ++ [c]) (by omega) (by omega) hc
  have len1 : blt (pst cs n (r ++ [c])) .len (.lst (tp (rd R))) = some (.int (rd R).length) := by
    have := len_l (l := tp (rd R)) (σ := pst cs n (r ++ [c])) (by unfold tp; rw [List.length_map]; omega)
    rw [this]; unfold tp; rw [List.length_map]
  have len2 : blt (pst cs (n + 1 : Nat) (r ++ [c])) .len (.lst (R.map rowPV)) = some (.int R.length) := by
    have := len_l (l := R.map rowPV) (σ := pst cs (n + 1 : Nat) (r ++ [c])) lR'
    rw [this, List.length_map]
  obtain ⟨p1, hp1⟩ : ∃ p, (rd R)[v1]? = some p := ⟨_, List.getElem?_eq_getElem hv1⟩
  obtain ⟨⟨p2, x2⟩, hp2⟩ : ∃ q, R[v2]? = some q := ⟨_, List.getElem?_eq_getElem hv2⟩
  obtain ⟨x1, m1, r1⟩ := mem_rd.mp (List.mem_of_getElem? hp1)
  have a1 := at_R m1
  have a2 := at_R (List.mem_of_getElem? hp2)
  obtain ⟨a, b, rfl⟩ := red_app r1
  have hh : p1.length + (max (a.ht + 1) b.ht + 1) ≤ t.ht := at_ht a1
  have ll := at_lt a1 F.lt
  have i1 : item (pst cs (n + 1 : Nat) (r ++ [c])) (.lst (tp (rd R))) (.int v1) = some (.tup (pp p1)) := item_l (by omega) (by unfold tp; rw [List.getElem?_map, hp1]; rfl)
  have i2 : item (pst cs (n + 1 + 1 : Nat) (r ++ [c])) (.lst (R.map rowPV)) (.int v2) = some (rowPV (p2, x2)) := item_l (by omega) (by rw [List.getElem?_map, hp2]; rfl)
  refine wp_w len1 ?_
  apply wp_call e
  · exact c1
  refine wp_w i1 ?_
  refine wp_w len2 ?_
  apply wp_call e
  · exact c2
  refine wp_w i2 ?_
  have T' := step_ti (p := p1) (due := due) a1 T
  have F' := T'.fit
  have nin : cmpv (pst cs (n + 1 + 1 : Nat) (r ++ [c])) .NotIn (.tup (pp p2)) (.lst (tp (rd R))) = some (!x2.red) := notin_tp (by
    cases q : x2.red with
    | true => exact decide_eq_true (mem_rd.mpr ⟨x2, List.mem_of_getElem? hp2, q⟩)
    | false =>
      refine decide_eq_false fun m => ?_
      obtain ⟨y, my, ry⟩ := mem_rd.mp m
      have := (at_R my).symm.trans a2
      cases this
      rw [q] at ry; cases ry)
  apply wp_call e
  · exact ref_any F a2
  refine wp_w nin ?_
  refine wp_w ne_bool ?_
  have l2 := at_ht a2
  refine wp_w (pp_add (k := 5) (by omega)) ?_
  apply wp_call e
  · exact ref_five F a2
  apply wp_call e
  · exact s_beta (d := 492) a1 (by omega) (by omega) (by omega) ll.1 ll.2 (by omega)
  apply wp_call e
  · exact counted_ti T'
  refine wp_w rfl ?_
  refine wp_w ne_int ?_
  apply wp_call e
  · exact s_isclosed (d := 494) (by have := F'.ht; omega) (lt_mono (by decide) _ F'.lt) F'.cl
  refine wp_r (K' := fun v σ' => v = .bool true ∧ ∃ τ, σ' = (pst cs (n + 1 + 1 : Nat) (r ++ [c]) ++ [.lst []]) ++ τ) (r := Φ 25 [t.pv, (t.rep p1 (a.put 0 b)).pv, .tup (pp p1)] (pst cs (n + 1 + 1 : Nat) (r ++ [c]) ++ [.lst []])) ?_ ?_
  · rw [e]
    exact s_kept (d := 497) rfl a1 (by omega) (by have := F'.sz; omega)
  rintro v σ' ⟨rfl, τ, rfl⟩
  exact wp_of (σ := pst cs (n + 1 + 1 : Nat) (((r ++ [c]) ++ [.lst []]) ++ τ)) rfl (.nx (by omega) T')
end Mine
end
-- part P29
section
open PySem PySem.W PyProof.Rows
namespace Mine

theorem loop_w {Φ : Phi} {cs : List Int} {due : Nat} {s : Str} {p : Pos} (e : Φ = phi L01 499) (hc : cs.length ≤ 1000) : ∀ {xs : List PV} {n : Nat} {t : Tm} {r : St} {S I x5 x6 x7 x8 x9 x10 : Option PV}, TI t due → n + 2 * xs.length ≤ 900 →
    WP (frGo (fun ρ σ => evSs Φ 1000 (lbody b26.1) ρ σ) (.name 5 s p) xs [S, some (.cell 1), I, some (.int due), some t.pv, x5, x6, x7, x8, x9, x10] (pst cs n r)) (fun f σ' => tblOk σ' = true ∧ ∀ v, f = .rt v → v = .bool true) (fun _ => False)
  | [], n, t, r, S, I, x5, x6, x7, x8, x9, x10, T, hn => ⟨rfl, fun v q => nomatch q⟩
  | y :: xs, n, t, r, S, I, x5, x6, x7, x8, x9, x10, T, hn => by
    have hn : n + 2 * (xs.length + 1) ≤ 900 := hn
    rw [frGo_cons]
    refine wp_w rfl ?_
    refine wp_r (body_w e T (by omega) hc) ?_
    intro f σ' k
    cases k with
    | rt h => exact ⟨h, fun v q => by cases q; rfl⟩
    | nx l h => exact loop_w e hc h (by omega)
theorem comp_cells {Φ : Phi} {elt : Vars → St → Res PV} {x : Str} {p : Pos} {σ : St} {f : Int → Int} (h : ∀ i, elt [some (.int i), none] σ = .ok (.int (f i)) σ) : ∀ {ns : List Int} {z : Option PV} {acc : List PV}, compGo (fun ρ σ => evB Φ .And [] ρ σ) elt (.name 0 x p) (ns.map .int) [z, none] acc σ = .ok (acc ++ (ns.map f).map .int) σ
  | [], z, acc => by rw [List.map_nil, compGo_nil]; show _ = Res.ok (acc ++ []) σ; rw [List.append_nil]
  | i :: ns, z, acc => by
    rw [List.map_cons, compGo_cons]
    refine wit_s (a := [some (.int i), none]) rfl (bind_s rfl (bind_s (h i) ((comp_cells h (ns := ns)).trans ?_)))
    rw [List.append_assoc]; rfl
theorem law01 {ns : List Int} (hns : ns.length ≤ 63) : WP (phi L01 500 26 [.lst (ns.map .int)] [.tbl]) (fun v σ' => v = .bool true ∧ tblOk σ' = true) (fun _ => False) := by
  refine t26.runw (d := 499) rfl fun Φ e => ?_
  have hc : ((ns.take 40).map fun i : Int => i.fmod 1000003).length ≤ 1000 := by rw [List.length_map, List.length_take]; omega
  have u1 : upTo (.lst (ns.map .int)) (.int (Int.ofNat 40)) = some (.lst ((ns.take 40).map .int)) := by
    have g : gd (small (ns.map PV.int).length) (PV.lst ((ns.map PV.int).take 40)) = some (.lst ((ns.take 40).map .int)) := by
      rw [← List.map_take]; exact gd_t (small_of (by rw [List.length_map]; omega))
    exact g
  have u2 : gd (small ((ns.take 40).map PV.int).length) ((ns.take 40).map PV.int) = some ((ns.take 40).map .int) := gd_t (small_of (by rw [List.length_map, List.length_take]; omega))
  refine wp_w u1 ?_
  refine wp_w u2 ?_
  apply wp_cmp
  · refine comp_cells (f := fun i => i.fmod 1000003) fun i => kE_of.trans rfl
  obtain ⟨t, m, n, Sm, _, ln, e1⟩ := s_sum 2 (d := 494) (n := 0) (cs := (ns.take 40).map fun i : Int => i.fmod 1000003) (r := []) (by decide) (by decide) hc
  obtain ⟨g, w, D⟩ := Sm.den (by decide)
  have g1 := D.g1
  have g2 : g ≤ 16 := D.g2
  have wb : w ≤ 211 := D.wb
  have T : TI (.app idT t) m := .mk (w := w + 3) g1 g2 (by omega) (.app (den_id (A := NT g)) D.d (Nat.le_refl 1) zer (by omega))
  apply wp_call e
  · have h1 : ∀ a b : PV, a = .cell 1 → b = .int (2 : Nat) → ∀ σ, σ = pst ((ns.take 40).map fun i : Int => i.fmod 1000003) (0 : Nat) [] → phi L01 499 20 [a, b] σ = .ok (.tup [t.pv, .int m]) (pst ((ns.take 40).map fun i : Int => i.fmod 1000003) n []) := fun a b ha hb σ h => by subst ha; subst hb; subst h; exact e1
    exact h1 _ _ rfl rfl _ rfl
  apply wp_call e
  · exact s_v0 (d := 498)
  apply wp_call e
  · exact s_lam1 (d := 498)
  apply wp_call e
  · have h2 : ∀ a, a = (Tm.app idT t).pv → ∀ σ, phi L01 499 21 [a] σ = .ok (.int m) (σ ++ [.lst []]) := fun a h σ => by subst h; exact counted_ti T
    exact h2 _ rfl _
  have ln : n ≤ 11 := ln
  obtain ⟨v, hv, e3⟩ := s_coin (d := 498) (f := 2) (cs := (ns.take 40).map fun i : Int => i.fmod 1000003) (n := n) (r := [.lst []]) (by decide) (by omega) hc
  refine wp_w rfl (wp_w ne_int ?_)
  apply wp_call e
  · have h3 : ∀ a b : PV, a = .cell 1 → b = .int (2 : Nat) → ∀ σ, σ = pst ((ns.take 40).map fun i : Int => i.fmod 1000003) n [.lst []] → phi L01 499 14 [a, b] σ = .ok (.int v) (pst ((ns.take 40).map fun i : Int => i.fmod 1000003) (n + 1 : Nat) [.lst []]) := fun a b ha hb σ h => by subst ha; subst hb; subst h; exact e3
    exact h3 _ _ rfl rfl _ rfl
  have r1 : ∀ σ, blt σ .range (.int (Int.ofNat 4 + (v : Int))) = some (.rng (4 + v)) := fun σ => rng_s (by show (4 : Int) + (v : Int) = _; omega) (by omega)
  have u3 : elems (.rng (4 + v)) = some ((List.range (4 + v)).map fun (i : Nat) => PV.int (i : Int)) := gd_t (small_of (by omega))
  refine wp_w rfl ?_
  refine wp_w (r1 _) ?_
  refine wp_w u3 ?_
  refine wp_r (K' := fun f σ' => tblOk σ' = true ∧ ∀ v, f = .rt v → v = .bool true) ?_ ?_
  · exact loop_w (n := n + 1) (r := [.lst []]) e hc T (by rw [List.length_map, List.length_range]; omega)
  rintro f σ' ⟨h1, h2⟩
  cases f with
  | nx ρ => exact wp_of (v := .bool true) (σ := σ') rfl ⟨rfl, h1⟩
  | rt v => exact wp_of (v := v) (σ := σ') rfl ⟨h2 v rfl, h1⟩
theorem ok01 : PySem.Challenge.rw_pq0034_01.Holds := holds01 fun ns h => (law01 h).h
end Mine
end
end

theorem PySem.Challenge.cw_pq0034_01_holds : PySem.Challenge.rw_pq0034_01.Holds := by
  exact Mine.ok01
